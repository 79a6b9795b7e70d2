import PyProof.Rows.All
import Wide.All
import OpenK.AllK
import Wide.FinOn
import HandS.ForMost
import HandS.Flow
import HandS.IsInst
import HandS.Slots
import HandS.SlotsOwn
import HandS.Property
import HandS.TupAny
import HandS.Zip
import HandS.Wide
import HandS.StrMore
import HandS.EndBits
import HandS.Walk
import HandS.Lambda
import HandS.Star
import KE.GoesEnum
import HandS.Codes
import HandS.Exc
import HandS.Defaults
import HandS.Replace
import HandS.Text
import HandS.NamedTupSort
import HandS.HeadHook1
import HandS.HeadHook2
import HandS.HeadEnd
import HandS.HeadWalk
import HandS.Head2
import HandS.ExcInit
import HandS.ExcOwn
import HandS.ExcField
import HandS.TryMany
import HandS.ClsMeth
import HandS.FStr
import HandS.Style
import KE.KNestM
import PySem.Challenge.RW_coldcrates_k45_texts_rejected
set_option Elab.async false
set_option linter.all false
set_option maxRecDepth 100000
/-! Ri, part A: values, states, the relation between a state of the small machine and the layer's slots and heap. -/
namespace Ri
open PySem L2

/-- a value that never changes (a list or an instance in it is one that nobody changes any more), or the number of a thing that may change -/
inductive D where
  | non | bl (b : Bool) | int (i : Int) | str (x : Str)
  | tup (xs : List D) | lst (xs : List D)
  | klst (xs : List D)
  | ins (c : Nat) (fs : List D)
  | ref (n : Nat)
  | fn (k : Nat)
  deriving Inhabited

/-- a container that one place owns -/
inductive C where
  | lst (xs : List D)
  deriving Inhabited
/-- a result: a value, a new container, the container that slot i owns -/
inductive R where
  | val (d : D) | own (c : C) | slot (i : Nat)
  deriving Inhabited
/-- what a slot holds; bor: a container that is lent and may be read only -/
inductive SV where
  | val (d : D) | own (c : C) | bor (c : C)
  deriving Inhabited
/-- a thing that may change -/
inductive O where
  | lst (xs : List D)
  | ins (c : Nat) (fs : List (Option D))
  | tab (q : Str)
  deriving Inhabited
structure S where
  sl : List (Option SV)
  hp : List O

/-! ### the relation -/
structure ClsI where
  addr : Addr
  slotted : Bool
  names : List Str
structure Cfg where
  K : PySem.W.Frag
  gl : Nat → Option V
  cls : Nat → Option ClsI
  xcl : Nat → Option (Addr × List Str)
  /-- where the tables of code objects stand, by the lambdas' name -/
  tabP : Str → Addr

/-- an instance with slots: new, or with something stored -/
def SltO (H : Hp) (a C dx : Addr) (ws : List (Option V)) : Prop := (H a = some (.ins C dx []) ∧ H dx = some (.own a) ∧ ws = []) ∨ (H a = some (SlX.SlO a C dx ws) ∧ H dx = some (.xd []))
theorem SltO.slt {H : Hp} {a C dx : Addr} {ws : List (Option V)} (h : SltO H a C dx ws) : SlX.Slt H a C dx ws := by
  rcases h with ⟨p, _, q⟩ | h
  · exact .inl ⟨p, q⟩
  · exact .inr h
/-- an instance of the class at C whose fields are vs -/
def InsAt (G : Cfg) (H : Hp) (a : Addr) (c : Nat) (vs : List (Option V)) : Prop :=
  ∃ ci dx, G.cls c = some ci ∧ vs.length = ci.names.length ∧
    if ci.slotted = true then (∃ ws, SltO H a ci.addr dx ws ∧ ∀ (i : Nat) (v : V), vs[i]? = some (some v) → ws[i]? = some (some v))
    else (∃ fs, H a = some (.ins ci.addr dx fs) ∧ H dx = some (.own a) ∧ ((fs.map (·.1)).Nodup ∧ ∀ f ∈ fs.map (·.1), f ∈ ci.names) ∧ ∀ (i : Nat) (f : Str), ci.names[i]? = some f → fs.lookup f = (vs[i]?).join)

mutual
inductive DRep (G : Cfg) (Z : Hp) (ρ : List Addr) : D → V → Prop
  | non : DRep G Z ρ .non .non
  | bl (b : Bool) : DRep G Z ρ (.bl b) (.bl b)
  | int (i : Int) : DRep G Z ρ (.int i) (.int i)
  | str (x : Str) : PySem.PyData.canLay0 (.str x) = true → x.length ≤ sizeLine → DRep G Z ρ (.str x) (.str x)
  | tup {xs : List D} {a : Addr} {vs : List V} : SqT G.K Z a vs → DReps G Z ρ xs vs → DRep G Z ρ (.tup xs) (.ref a)
  | lst {xs : List D} {a : Addr} {vs : List V} : Z a = some (.lst vs) → DReps G Z ρ xs vs → DRep G Z ρ (.lst xs) (.ref a)
  | klst {xs : List D} {a : Addr} {vs : List V} : SqL G.K Z a vs → DReps G Z ρ xs vs → (∃ ns : List Int, xs = ns.map .int ∧ vs = ns.map .int) → DRep G Z ρ (.klst xs) (.ref a)
  | ins {c : Nat} {fs : List D} {a : Addr} {vs : List V} : InsAt G Z a c (vs.map some) → DReps G Z ρ fs vs → DRep G Z ρ (.ins c fs) (.ref a)
  | ref {n : Nat} {a : Addr} : ρ[n]? = some a → DRep G Z ρ (.ref n) (.ref a)
  | fn {k : Nat} {v : V} : G.gl k = some v → DRep G Z ρ (.fn k) v
inductive DReps (G : Cfg) (Z : Hp) (ρ : List Addr) : List D → List V → Prop
  | nil : DReps G Z ρ [] []
  | cons {d : D} {ds : List D} {v : V} {vs : List V} : DRep G Z ρ d v → DReps G Z ρ ds vs → DReps G Z ρ (d :: ds) (v :: vs)
end

theorem Same.sqT {K : PySem.W.Frag} {H H' : Hp} {a : Addr} {xs : List V} (e : Same H H') (h : SqT K H a xs) : SqT K H' a xs := by
  rcases h with (h | ⟨o, h⟩) | h
  · exact .inl (.inl (e _ _ h))
  · exact .inl (.inr ⟨o, e _ _ h⟩)
  · exact .inr h
theorem InsAt.mono {G : Cfg} {Z Z' : Hp} {a : Addr} {c : Nat} {vs : List (Option V)} (e : Same Z Z') (h : InsAt G Z a c vs) : InsAt G Z' a c vs := by
  obtain ⟨ci, dx, h1, h2, h3⟩ := h
  refine ⟨ci, dx, h1, h2, ?_⟩
  split
  · rename_i hs
    rw [if_pos hs] at h3
    obtain ⟨ws, h4, h5⟩ := h3
    refine ⟨ws, ?_, h5⟩
    rcases h4 with ⟨p, o, q⟩ | ⟨p, q⟩
    · exact .inl ⟨e _ _ p, e _ _ o, q⟩
    · exact .inr ⟨e _ _ p, e _ _ q⟩
  · rename_i hs
    rw [if_neg hs] at h3
    obtain ⟨fs, h4, h5, h6, h7⟩ := h3
    exact ⟨fs, e _ _ h4, e _ _ h5, h6, h7⟩
theorem pre_get {ρ ρ' : List Addr} (e : ρ <+: ρ') {n : Nat} {a : Addr} (h : ρ[n]? = some a) : ρ'[n]? = some a := by
  obtain ⟨t, rfl⟩ := e
  rw [List.getElem?_append_left (List.getElem?_eq_some_iff.mp h).1]; exact h

mutual
theorem DRep.mono {G : Cfg} {Z Z' : Hp} {ρ ρ' : List Addr} (e : Same Z Z') (p : ρ <+: ρ') : ∀ {d : D} {v : V}, DRep G Z ρ d v → DRep G Z' ρ' d v
  | _, _, .non => .non
  | _, _, .bl b => .bl b
  | _, _, .int i => .int i
  | _, _, .str x h1 h2 => .str x h1 h2
  | _, _, .tup h r => .tup (Same.sqT e h) (DReps.mono e p r)
  | _, _, .lst h r => .lst (e _ _ h) (DReps.mono e p r)
  | _, _, .klst h r q => .klst (e.seq h) (DReps.mono e p r) q
  | _, _, .ins h r => .ins (h.mono e) (DReps.mono e p r)
  | _, _, .ref h => .ref (pre_get p h)
  | _, _, .fn h => .fn h
theorem DReps.mono {G : Cfg} {Z Z' : Hp} {ρ ρ' : List Addr} (e : Same Z Z') (p : ρ <+: ρ') : ∀ {d : List D} {v : List V}, DReps G Z ρ d v → DReps G Z' ρ' d v
  | _, _, .nil => .nil
  | _, _, .cons h r => .cons (DRep.mono e p h) (DReps.mono e p r)
end
section
variable {G : Cfg} {Z Z' H H' F : Hp} {ρ ρ' : List Addr}
theorem DReps.length : ∀ {ds : List D} {vs : List V}, DReps G Z ρ ds vs → ds.length = vs.length
  | _, _, .nil => rfl
  | _, _, .cons _ r => by rw [List.length_cons, List.length_cons, DReps.length r]
theorem DReps.get : ∀ {ds : List D} {vs : List V} {i : Nat} {d : D}, DReps G Z ρ ds vs → ds[i]? = some d → ∃ v, vs[i]? = some v ∧ DRep G Z ρ d v
  | _, _, _, _, .nil, e => by simp at e
  | _, _, 0, _, .cons h _, e => by simp at e; subst e; exact ⟨_, rfl, h⟩
  | _, _, i + 1, d, .cons _ r, e => by
    obtain ⟨v, h1, h2⟩ := DReps.get (i := i) (d := d) r (by simpa using e)
    exact ⟨v, by simpa using h1, h2⟩
theorem DReps.get' : ∀ {ds : List D} {vs : List V} {i : Nat} {v : V}, DReps G Z ρ ds vs → vs[i]? = some v → ∃ d, ds[i]? = some d ∧ DRep G Z ρ d v
  | _, _, _, _, .nil, e => by simp at e
  | _, _, 0, _, .cons h _, e => by simp at e; subst e; exact ⟨_, rfl, h⟩
  | _, _, i + 1, d, .cons _ r, e => by
    obtain ⟨v, h1, h2⟩ := DReps.get' (i := i) (v := d) r (by simpa using e)
    exact ⟨v, by simpa using h1, h2⟩
theorem DReps.append : ∀ {ds es : List D} {vs ws : List V}, DReps G Z ρ ds vs → DReps G Z ρ es ws → DReps G Z ρ (ds ++ es) (vs ++ ws)
  | _, _, _, _, .nil, s => s
  | _, _, _, _, .cons h r, s => .cons h (DReps.append r s)
theorem DReps.take : ∀ {ds : List D} {vs : List V} (n : Nat), DReps G Z ρ ds vs → DReps G Z ρ (ds.take n) (vs.take n)
  | _, _, 0, _ => .nil
  | _, _, _ + 1, .nil => .nil
  | _, _, n + 1, .cons h r => .cons h (DReps.take n r)
theorem DReps.drop : ∀ {ds : List D} {vs : List V} (n : Nat), DReps G Z ρ ds vs → DReps G Z ρ (ds.drop n) (vs.drop n)
  | _, _, 0, r => r
  | _, _, _ + 1, .nil => .nil
  | _, _, n + 1, .cons _ r => DReps.drop n r
theorem DReps.set {d : D} {v : V} (h : DRep G Z ρ d v) : ∀ {ds : List D} {vs : List V} (n : Nat), DReps G Z ρ ds vs → DReps G Z ρ (ds.set n d) (vs.set n v)
  | _, _, _, .nil => .nil
  | _, _, 0, .cons _ r => .cons h r
  | _, _, n + 1, .cons q r => .cons q (DReps.set h n r)
theorem DReps.one {d : D} {v : V} (h : DRep G Z ρ d v) : DReps G Z ρ [d] [v] := .cons h .nil
theorem DReps.reverse : ∀ {ds : List D} {vs : List V}, DReps G Z ρ ds vs → DReps G Z ρ ds.reverse vs.reverse
  | _, _, .nil => .nil
  | _, _, .cons h r => by rw [List.reverse_cons, List.reverse_cons]; exact DReps.append (DReps.reverse r) (.one h)

/-- a container and what stands in the heap -/
def CRep (G : Cfg) (Z : Hp) (ρ : List Addr) : C → HO → Prop
  | .lst xs, o => ∃ vs, o = .lst vs ∧ DReps G Z ρ xs vs
theorem CRep.mono {c : C} {o : HO} (e : Same Z Z') (p : ρ <+: ρ') (h : CRep G Z ρ c o) : CRep G Z' ρ' c o := by
  cases c with
  | lst xs => obtain ⟨vs, h1, h2⟩ := h; exact ⟨vs, h1, h2.mono e p⟩
/-- a thing that may change, at a -/
def ORep (G : Cfg) (Z : Hp) (ρ : List Addr) (H : Hp) (a : Addr) : O → Prop
  | .lst xs => ∃ vs, H a = some (.lst vs) ∧ DReps G Z ρ xs vs
  | .ins c fs => ∃ vs : List (Option V), InsAt G H a c vs ∧ fs.length = vs.length ∧ ∀ (i : Nat), match fs[i]? with
      | some (some d) => ∃ v, vs[i]? = some (some v) ∧ DRep G Z ρ d v
      | some none => vs[i]? = some none
      | none => True
  | .tab q => a = G.tabP q ∧ ∃ ps : Array Value, H a = some (.tbl ps) ∧ TriplesOk ps.toList ∧ ∀ (pos : Pos) (cv : Value), codeAmong pos ps.toList = some cv → ∃ c, cv = .ref c ∧ Z c = some (LamX.CodeO c q)

inductive Owner where | hp (i : Nat) | sl (i : Nat) | pd (i : Nat)
def Owns (ρ : List Addr) (sl : List (Option SV)) (σ : L2.St) (P : List (R × V)) (a : Addr) : Owner → Prop
  | .hp i => ρ[i]? = some a
  | .sl i => (∃ c, sl[i]? = some (some (.own c))) ∧ σ[i]? = some (some (.ref a))
  | .pd i => ∃ c, P[i]? = some (.own c, .ref a)
def SRep (G : Cfg) (Z F : Hp) (ρ : List Addr) (H : Hp) (v : V) : SV → Prop
  | .val d => DRep G Z ρ d v
  | .own c => ∃ a o, v = .ref a ∧ H a = some o ∧ CRep G Z ρ c o
  | .bor c => ∃ a o, v = .ref a ∧ F a = some o ∧ CRep G Z ρ c o
def PRep (G : Cfg) (Z : Hp) (ρ : List Addr) (H : Hp) (sl : List (Option SV)) (σ : L2.St) (v : V) : R → Prop
  | .val d => DRep G Z ρ d v
  | .own c => ∃ a o, v = .ref a ∧ H a = some o ∧ CRep G Z ρ c o
  | .slot i => σ[i]? = some (some v)
/-- Z: what never changes; F: what others hold and stays; ρ: where the things that may change stand; P: what is being held -/
structure Rel (G : Cfg) (Z F : Hp) (ρ : List Addr) (s : S) (σ : L2.St) (H : Hp) (P : List (R × V)) : Prop where
  zs : Same Z H
  fs : Same F H
  len : s.hp.length = ρ.length
  hp : ∀ (i : Nat) (o : O) (a : Addr), s.hp[i]? = some o → ρ[i]? = some a → ORep G Z ρ H a o
  slen : s.sl.length = σ.length
  sl : ∀ (i : Nat) (x : SV), s.sl[i]? = some (some x) → ∃ v, σ[i]? = some (some v) ∧ SRep G Z F ρ H v x
  pd : ∀ (i : Nat) (r : R) (v : V), P[i]? = some (r, v) → PRep G Z ρ H s.sl σ v r
  uq : ∀ a x y, Owns ρ s.sl σ P a x → Owns ρ s.sl σ P a y → x = y
  zo : ∀ a x, Owns ρ s.sl σ P a x → Z a = none ∧ F a = none
  no : ∀ b x, (Z b = some (.own x) → ∃ u, Z x = some u) ∧ (F b ≠ some (.own x) ∧ F b ≠ some (.xd [])) ∧ (Z b = none ∨ F b = none)
  nt : ∀ b, (∀ ps, Z b ≠ some (.tbl ps)) ∧ ∀ o, F b = some o → ∃ vs, o = .lst vs
end
end Ri

set_option maxRecDepth 100000
/-! Ri, part B: what may be done to a related pair of states. -/
namespace Ri
open PySem L2
theorem Same.upd {H : Hp} {p : Addr} {o : HO} (h : H p = none) : Same H (upd H p o) := fun b u e => by
  rw [upd_ne (ne_of_none e h)]; exact e
theorem same_none {Z H : Hp} (e : Same Z H) {p : Addr} (h : H p = none) : Z p = none := e.free h
def lift : Owner → Owner
  | .pd i => .pd (i + 1)
  | w => w
theorem lift_inj {x y : Owner} (h : lift x = lift y) : x = y := by
  cases x <;> cases y <;> simp [lift] at h ⊢ <;> exact h
/-- this is no instance's own dict -/
def NDx (o : HO) : Prop := (∀ x, o ≠ .own x) ∧ o ≠ .xd []
theorem NDx.lst {vs : List V} : NDx (.lst vs) := ⟨(fun _ z => nomatch z), (fun z => nomatch z)⟩
theorem NDx.crep {G : Cfg} {Z : Hp} {ρ : List Addr} {c : C} {o : HO} (h : CRep G Z ρ c o) : NDx o := by
  cases c with
  | lst xs => obtain ⟨vs, rfl, _⟩ := h; exact .lst
section
variable {G : Cfg} {Z Z' H H' F : Hp} {ρ ρ' : List Addr} {s : S} {σ : L2.St} {P : List (R × V)} {a p : Addr} {x y : R × V} {sl : List (Option SV)}
theorem owns_lift {w : Owner} : Owns ρ sl σ (x :: P) a (lift w) ↔ Owns ρ sl σ P a w := by
  cases w <;> simp [lift, Owns]
theorem owns_cons {w : Owner} (h : Owns ρ sl σ (x :: P) a w) : (∃ w', w = lift w' ∧ Owns ρ sl σ P a w') ∨ (w = .pd 0 ∧ ∃ c, x = (.own c, .ref a)) := by
  cases w with
  | hp i => exact .inl ⟨.hp i, rfl, h⟩
  | sl i => exact .inl ⟨.sl i, rfl, h⟩
  | pd i =>
    cases i with
    | zero =>
      obtain ⟨c, e⟩ := h
      simp at e
      exact .inr ⟨rfl, c, e⟩
    | succ i => exact .inl ⟨.pd i, rfl, by simpa [Owns] using h⟩

/-! #### representations and heaps -/
theorem InsAt.isS {c : Nat} {vs : List (Option V)} (h : InsAt G H a c vs) : ∃ o, H a = some o := by
  obtain ⟨ci, dx, _, _, h3⟩ := h
  split at h3
  · obtain ⟨ws, h4, _⟩ := h3
    rcases h4 with ⟨p, _⟩ | ⟨p, _⟩ <;> exact ⟨_, p⟩
  · obtain ⟨fs, h4, _⟩ := h3; exact ⟨_, h4⟩
theorem ORep.isS {o : O} (h : ORep G Z ρ H a o) : ∃ u, H a = some u := by
  cases o with
  | lst xs => obtain ⟨vs, h, _⟩ := h; exact ⟨_, h⟩
  | ins c fs => obtain ⟨vs, h, _⟩ := h; exact h.isS
  | tab q => obtain ⟨_, ps, h, _⟩ := h; exact ⟨_, h⟩
theorem Rel.alive (r : Rel G Z F ρ s σ H P) {w : Owner} (h : Owns ρ s.sl σ P a w) : ∃ o, H a = some o := by
  cases w with
  | hp i =>
    have h : ρ[i]? = some a := h
    have hi : i < s.hp.length := by rw [r.len]; exact (List.getElem?_eq_some_iff.mp h).1
    exact (r.hp i s.hp[i] a (List.getElem?_eq_getElem hi) h).isS
  | sl i =>
    obtain ⟨⟨c, hc⟩, h⟩ := h
    obtain ⟨v, h1, b, o, h2, h3, _⟩ := r.sl i _ hc
    rw [h1] at h; cases h; cases h2
    exact ⟨_, h3⟩
  | pd i =>
    obtain ⟨c, h⟩ := h
    obtain ⟨b, o, h2, h3, _⟩ := r.pd i _ _ h
    cases h2
    exact ⟨_, h3⟩
theorem ORep.mono {o : O} (e : Same Z Z') (q : ρ <+: ρ') (k : Same H H') (h : ORep G Z ρ H a o) : ORep G Z' ρ' H' a o := by
  cases o with
  | lst xs => obtain ⟨vs, h, r⟩ := h; exact ⟨vs, k _ _ h, r.mono e q⟩
  | ins c fs =>
    obtain ⟨vs, h, hl, r⟩ := h
    refine ⟨vs, h.mono k, hl, fun i => ?_⟩
    have := r i
    split <;> rename_i e' <;> rw [e'] at this
    · obtain ⟨v, h1, h2⟩ := this; exact ⟨v, h1, h2.mono e q⟩
    · exact this
    · trivial
  | tab nm =>
    obtain ⟨h0, ps, h1, h2, h3⟩ := h
    exact ⟨h0, ps, k _ _ h1, h2, fun pos cv hc => let ⟨c, e1, e2⟩ := h3 pos cv hc; ⟨c, e1, e _ _ e2⟩⟩
theorem SRep.mono {v : V} {x : SV} (e : Same Z Z') (q : ρ <+: ρ') (k : Same H H') (h : SRep G Z F ρ H v x) : SRep G Z' F ρ' H' v x := by
  cases x with
  | val d => exact DRep.mono e q h
  | own c => obtain ⟨a, o, h1, h2, h3⟩ := h; exact ⟨a, o, h1, k _ _ h2, h3.mono e q⟩
  | bor c => obtain ⟨a, o, h1, h2, h3⟩ := h; exact ⟨a, o, h1, h2, h3.mono e q⟩
theorem PRep.mono {v : V} {x : R} (e : Same Z Z') (q : ρ <+: ρ') (k : Same H H') (h : PRep G Z ρ H sl σ v x) : PRep G Z' ρ' H' sl σ v x := by
  cases x with
  | val d => exact DRep.mono e q h
  | own c => obtain ⟨a, o, h1, h2, h3⟩ := h; exact ⟨a, o, h1, k _ _ h2, h3.mono e q⟩
  | slot i => exact h

/-! #### new things -/
theorem zno {o : HO} (h : ∀ b x, (Z b = some (.own x) → ∃ u, Z x = some u) ∧ (F b ≠ some (.own x) ∧ F b ≠ some (.xd [])) ∧ (Z b = none ∨ F b = none)) (ho : ∀ x, o ≠ .own x) (hF : F p = none) :
    ∀ b x, ((upd Z p o) b = some (.own x) → ∃ u, (upd Z p o) x = some u) ∧ (F b ≠ some (.own x) ∧ F b ≠ some (.xd [])) ∧ ((upd Z p o) b = none ∨ F b = none) := fun b x => by
  refine ⟨fun e => ?_, (h b x).2.1, ?_⟩
  · by_cases hb : b = p
    · subst hb; rw [upd_same] at e; cases e; exact absurd rfl (ho x)
    · rw [upd_ne hb] at e
      obtain ⟨u, hu⟩ := (h b x).1 e
      by_cases hx : x = p
      · subst hx; exact ⟨_, upd_same⟩
      · exact ⟨u, by rw [upd_ne hx]; exact hu⟩
  · by_cases hb : b = p
    · subst hb; exact .inr hF
    · rw [upd_ne hb]; exact (h b x).2.2
theorem znt {o : HO} (h : ∀ b, (∀ ps, Z b ≠ some (.tbl ps)) ∧ ∀ o, F b = some o → ∃ vs, o = .lst vs) (ho : ∀ ps, o ≠ .tbl ps) : ∀ b, (∀ ps, (upd Z p o) b ≠ some (.tbl ps)) ∧ ∀ o, F b = some o → ∃ vs, o = .lst vs := fun b => by
  refine ⟨fun ps z => ?_, (h b).2⟩
  by_cases hb : b = p
  · subst hb; rw [upd_same] at z; exact ho ps (Option.some.inj z)
  · rw [upd_ne hb] at z; exact (h b).1 ps z
/-- a new thing that never changes -/
theorem Rel.newZ (r : Rel G Z F ρ s σ H P) (hp : H p = none) (o : HO) (hno : ∀ x, o ≠ .own x) (hnt : ∀ ps, o ≠ .tbl ps := by intro _ z; cases z) : Rel G (upd Z p o) F ρ s σ (upd H p o) P := by
  have k : Same H (upd H p o) := Same.upd hp
  have e : Same Z (upd Z p o) := Same.upd (same_none r.zs hp)
  refine ⟨fun b u h => ?_, fun b u h => k _ _ (r.fs _ _ h), r.len, fun i ob b h1 h2 => (r.hp i ob b h1 h2).mono e (List.prefix_refl _) k, r.slen, fun i x h => ?_, fun i x v h => (r.pd i x v h).mono e (List.prefix_refl _) k, r.uq, fun b w h => ⟨?_, (r.zo b w h).2⟩, zno r.no hno (same_none r.fs hp), znt r.nt hnt⟩
  · by_cases hb : b = p
    · subst hb; rw [upd_same] at h ⊢; exact h
    · rw [upd_ne hb] at h ⊢; exact r.zs _ _ h
  · obtain ⟨v, h1, h2⟩ := r.sl i x h
    exact ⟨v, h1, h2.mono e (List.prefix_refl _) k⟩
  · obtain ⟨ob, ho⟩ := r.alive h
    rw [upd_ne (ne_of_none ho hp)]
    exact (r.zo b w h).1
theorem Rel.zup (r : Rel G Z F ρ s σ H P) (hp : H p = none) (o : HO) : Same Z (upd Z p o) := Same.upd (same_none r.zs hp)
theorem Rel.pushVal (r : Rel G Z F ρ s σ H P) {d : D} {v : V} (h : DRep G Z ρ d v) : Rel G Z F ρ s σ H ((.val d, v) :: P) := by
  refine ⟨r.zs, r.fs, r.len, r.hp, r.slen, r.sl, fun i x u e => ?_, fun b w w' h1 h2 => ?_, fun b w h1 => ?_, r.no, r.nt⟩
  · cases i with
    | zero => simp at e; obtain ⟨rfl, rfl⟩ := e; exact h
    | succ i => exact r.pd i x u (by simpa using e)
  · rcases owns_cons h1 with ⟨z, rfl, g1⟩ | ⟨_, c, e⟩
    · rcases owns_cons h2 with ⟨z', rfl, g2⟩ | ⟨_, c, e⟩
      · rw [r.uq b z z' g1 g2]
      · cases e
    · cases e
  · rcases owns_cons h1 with ⟨z, rfl, g1⟩ | ⟨_, c, e⟩
    · exact r.zo b z g1
    · cases e
theorem Rel.pushSlot (r : Rel G Z F ρ s σ H P) {i : Nat} {x : SV} {v : V} (h : s.sl[i]? = some (some x)) (hv : σ[i]? = some (some v)) : Rel G Z F ρ s σ H ((.slot i, v) :: P) := by
  refine ⟨r.zs, r.fs, r.len, r.hp, r.slen, r.sl, fun j x u e => ?_, fun b w w' h1 h2 => ?_, fun b w h1 => ?_, r.no, r.nt⟩
  · cases j with
    | zero => simp at e; obtain ⟨rfl, rfl⟩ := e; exact hv
    | succ j => exact r.pd j x u (by simpa using e)
  · rcases owns_cons h1 with ⟨z, rfl, g1⟩ | ⟨_, c, e⟩
    · rcases owns_cons h2 with ⟨z', rfl, g2⟩ | ⟨_, c, e⟩
      · rw [r.uq b z z' g1 g2]
      · cases e
    · cases e
  · rcases owns_cons h1 with ⟨z, rfl, g1⟩ | ⟨_, c, e⟩
    · exact r.zo b z g1
    · cases e
/-- a new container -/
theorem Rel.pushNew (r : Rel G Z F ρ s σ H P) (hp : H p = none) {c : C} {o : HO} (h : CRep G Z ρ c o) : Rel G Z F ρ s σ (upd H p o) ((.own c, .ref p) :: P) := by
  have k : Same H (upd H p o) := Same.upd hp
  have e : Same Z Z := Same.refl Z
  have np : ∀ w, ¬ Owns ρ s.sl σ P p w := fun w z => by obtain ⟨u, hu⟩ := r.alive z; rw [hp] at hu; cases hu
  refine ⟨fun b u h => k _ _ (r.zs _ _ h), fun b u h => k _ _ (r.fs _ _ h), r.len, fun i ob b h1 h2 => (r.hp i ob b h1 h2).mono e (List.prefix_refl _) k, r.slen, fun i x h => ?_, fun i x v e' => ?_, fun b w w' h1 h2 => ?_, fun b w h1 => ?_, r.no, r.nt⟩
  · obtain ⟨v, h1, h2⟩ := r.sl i x h
    exact ⟨v, h1, h2.mono e (List.prefix_refl _) k⟩
  · cases i with
    | zero => simp at e'; obtain ⟨rfl, rfl⟩ := e'; exact ⟨p, o, rfl, upd_same, h⟩
    | succ i => exact (r.pd i x v (by simpa using e')).mono e (List.prefix_refl _) k
  · rcases owns_cons h1 with ⟨z, rfl, g1⟩ | ⟨rfl, c1, e1⟩
    · rcases owns_cons h2 with ⟨z', rfl, g2⟩ | ⟨_, c, e⟩
      · rw [r.uq b z z' g1 g2]
      · cases e; exact absurd g1 (np _)
    · rcases owns_cons h2 with ⟨z', rfl, g2⟩ | ⟨rfl, c, e⟩
      · cases e1; exact absurd g2 (np _)
      · rfl
  · rcases owns_cons h1 with ⟨z, rfl, g1⟩ | ⟨_, c, e⟩
    · exact r.zo b z g1
    · cases e; exact ⟨same_none r.zs hp, same_none r.fs hp⟩
theorem Rel.pop (r : Rel G Z F ρ s σ H (x :: P)) : Rel G Z F ρ s σ H P :=
  ⟨r.zs, r.fs, r.len, r.hp, r.slen, r.sl, fun i y v e => r.pd (i + 1) y v (by simpa using e), fun b w w' h1 h2 => lift_inj (r.uq b _ _ (owns_lift.mpr h1) (owns_lift.mpr h2)), fun b w h => r.zo b _ (owns_lift.mpr h), r.no, r.nt⟩
/-- the second held thing is let go -/
def skip2 : Owner → Owner
  | .pd 0 => .pd 0
  | .pd (i + 1) => .pd (i + 2)
  | w => w
theorem owns_skip2 {w : Owner} (h : Owns ρ sl σ (x :: P) a w) : Owns ρ sl σ (x :: y :: P) a (skip2 w) := by
  cases w with
  | hp i => exact h
  | sl i => exact h
  | pd i => cases i with
    | zero => exact h
    | succ i => simpa [skip2, Owns] using h
theorem skip2_inj {w w' : Owner} (h : skip2 w = skip2 w') : w = w' := by
  cases w with
  | pd i => cases w' with
    | pd j => cases i <;> cases j <;> simp [skip2] at h ⊢ <;> exact h
    | hp j => cases i <;> simp [skip2] at h
    | sl j => cases i <;> simp [skip2] at h
  | hp i => cases w' with
    | pd j => cases j <;> simp [skip2] at h
    | _ => simpa [skip2] using h
  | sl i => cases w' with
    | pd j => cases j <;> simp [skip2] at h
    | _ => simpa [skip2] using h
theorem Rel.pop2 (r : Rel G Z F ρ s σ H (x :: y :: P)) : Rel G Z F ρ s σ H (x :: P) :=
  ⟨r.zs, r.fs, r.len, r.hp, r.slen, r.sl, fun i z v e => by
    cases i with
    | zero => exact r.pd 0 z v (by simpa using e)
    | succ i => exact r.pd (i + 2) z v (by simpa using e), fun b w w' h1 h2 => skip2_inj (r.uq b _ _ (owns_skip2 h1) (owns_skip2 h2)), fun b w h => r.zo b _ (owns_skip2 h), r.no, r.nt⟩
theorem Rel.head (r : Rel G Z F ρ s σ H (x :: P)) : PRep G Z ρ H s.sl σ x.2 x.1 := r.pd 0 x.1 x.2 (by simp)
theorem Rel.second (r : Rel G Z F ρ s σ H (x :: y :: P)) : PRep G Z ρ H s.sl σ y.2 y.1 := r.pd 1 y.1 y.2 (by simp)

/-! #### a container that nobody will change any more -/
def frzC : C → D
  | .lst xs => .lst xs
theorem crep_nt {c : C} {o : HO} (h : CRep G Z ρ c o) : ∀ ps, o ≠ .tbl ps := fun ps z => by
  cases c with
  | lst xs => obtain ⟨vs, e, _⟩ := h; rw [e] at z; cases z
theorem frz_rep {c : C} {o : HO} (ha : Z a = some o) (h : CRep G Z ρ c o) : DRep G Z ρ (frzC c) (.ref a) := by
  cases c with
  | lst xs =>
    obtain ⟨vs, rfl, h⟩ := h
    exact .lst ha h
theorem Rel.freeze (r : Rel G Z F ρ s σ H (x :: P)) {c : C} {o : HO} (hx : x = (.own c, .ref a)) (ho : H a = some o) (hc : CRep G Z ρ c o) :
    Rel G (upd Z a o) F ρ s σ H ((.val (frzC c), .ref a) :: P) ∧ Same Z (upd Z a o) := by
  subst hx
  have own : Owns ρ s.sl σ ((R.own c, V.ref a) :: P) a (.pd 0) := ⟨c, rfl⟩
  have zn := (r.zo a _ own).1
  have e : Same Z (upd Z a o) := Same.upd zn
  have k : Same H H := Same.refl H
  refine ⟨?_, e⟩
  have na : ∀ w b, Owns ρ s.sl σ P b w → b ≠ a := fun w b h z => by
    subst z
    have := r.uq b _ _ (owns_lift.mpr h) own
    cases w <;> cases this
  have base : Rel G (upd Z a o) F ρ s σ H P := by
    refine ⟨fun b u h => ?_, r.fs, r.len, fun i ob b h1 h2 => (r.hp i ob b h1 h2).mono e (List.prefix_refl _) k, r.slen, fun i x h => ?_, fun i x v h => (r.pd (i + 1) x v (by simpa using h)).mono e (List.prefix_refl _) k, fun b w w' h1 h2 => lift_inj (r.uq b _ _ (owns_lift.mpr h1) (owns_lift.mpr h2)), fun b w h => ⟨?_, (r.zo b _ (owns_lift.mpr h)).2⟩, zno r.no (NDx.crep hc).1 (r.zo a _ own).2, znt r.nt (crep_nt hc)⟩
    · by_cases hb : b = a
      · subst hb; rw [upd_same] at h; rw [ho]; exact h
      · rw [upd_ne hb] at h; exact r.zs _ _ h
    · obtain ⟨v, h1, h2⟩ := r.sl i x h
      exact ⟨v, h1, h2.mono e (List.prefix_refl _) k⟩
    · rw [upd_ne (na w b h)]; exact (r.zo b _ (owns_lift.mpr h)).1
  exact base.pushVal (frz_rep upd_same (hc.mono e (List.prefix_refl _)))
end
end Ri

set_option maxRecDepth 100000
/-! Ri, part B2: slots and things that change. -/
namespace Ri
open PySem L2
/-- no held thing is a slot's -/
def NoSlot (P : List (R × V)) : Prop := ∀ (j k : Nat) (v : V), P[j]? ≠ some (.slot k, v)
theorem NoSlot.nil : NoSlot [] := fun _ _ _ h => by simp at h
theorem NoSlot.tail {x : R × V} {P : List (R × V)} (h : NoSlot (x :: P)) : NoSlot P := fun j k v e => h (j + 1) k v (by simpa using e)
theorem NoSlot.own {c : C} {u : V} {P : List (R × V)} (h : NoSlot P) : NoSlot ((.own c, u) :: P) := fun j k v e => by
  cases j with
  | zero => simp at e
  | succ j => exact h j k v (by simpa using e)
theorem NoSlot.val {d : D} {u : V} {P : List (R × V)} (h : NoSlot P) : NoSlot ((.val d, u) :: P) := fun j k v e => by
  cases j with
  | zero => simp at e
  | succ j => exact h j k v (by simpa using e)
def toSV : R → Option SV
  | .val d => some (.val d)
  | .own c => some (.own c)
  | .slot _ => none
section
variable {G : Cfg} {Z Z' H H' F F' : Hp} {ρ ρ' : List Addr} {s : S} {σ : L2.St} {P : List (R × V)} {a p : Addr} {x y : R × V} {sl : List (Option SV)}
theorem InsAt.keep {b : Addr} {c : Nat} {vs : List (Option V)} (h : InsAt G H b c vs) {o : HO} (ha : H a = some o) (hn : NDx o) (hb : b ≠ a) (k : ∀ b u, b ≠ a → H b = some u → H' b = some u) : InsAt G H' b c vs := by
  obtain ⟨ci, dx, h1, h2, h3⟩ := h
  refine ⟨ci, dx, h1, h2, ?_⟩
  split
  · rename_i hs
    rw [if_pos hs] at h3
    obtain ⟨ws, h4, h5⟩ := h3
    refine ⟨ws, ?_, h5⟩
    rcases h4 with ⟨p, w, q⟩ | ⟨p, q⟩
    · refine .inl ⟨k _ _ hb p, k _ _ ?_ w, q⟩
      rintro rfl
      rw [ha] at w; cases w; exact hn.1 _ rfl
    · refine .inr ⟨k _ _ hb p, k _ _ ?_ q⟩
      rintro rfl
      rw [ha] at q; cases q; exact hn.2 rfl
  · rename_i hs
    rw [if_neg hs] at h3
    obtain ⟨fs, h4, h5, h6, h7⟩ := h3
    refine ⟨fs, k _ _ hb h4, k _ _ ?_ h5, h6, h7⟩
    rintro rfl
    rw [ha] at h5; cases h5; exact hn.1 _ rfl
theorem ORep.keep {b : Addr} {ob : O} (h : ORep G Z ρ H b ob) {o : HO} (ha : H a = some o) (hn : NDx o) (hb : b ≠ a) (k : ∀ b u, b ≠ a → H b = some u → H' b = some u) : ORep G Z ρ H' b ob := by
  cases ob with
  | lst xs => obtain ⟨vs, h, r⟩ := h; exact ⟨vs, k _ _ hb h, r⟩
  | ins c fs => obtain ⟨vs, h, r⟩ := h; exact ⟨vs, h.keep ha hn hb k, r⟩
  | tab q => obtain ⟨e, ps, h, r⟩ := h; exact ⟨e, ps, k _ _ hb h, r⟩
/-- owners under other names -/
theorem reown {ρ2 : List Addr} {sl2 : List (Option SV)} {σ2 : L2.St} {P2 : List (R × V)} (r : Rel G Z F ρ s σ H P) (f : Owner → Owner) (hf : ∀ b w, Owns ρ2 sl2 σ2 P2 b w → Owns ρ s.sl σ P b (f w))
    (hi : ∀ b w w', Owns ρ2 sl2 σ2 P2 b w → Owns ρ2 sl2 σ2 P2 b w' → f w = f w' → w = w') :
    (∀ b w w', Owns ρ2 sl2 σ2 P2 b w → Owns ρ2 sl2 σ2 P2 b w' → w = w') ∧ ∀ b w, Owns ρ2 sl2 σ2 P2 b w → Z b = none ∧ F b = none :=
  ⟨fun b w w' h1 h2 => hi b w w' h1 h2 (r.uq b _ _ (hf _ _ h1) (hf _ _ h2)), fun b w h => r.zo b _ (hf _ _ h)⟩

/-! #### a slot is stored -/
def stF (i : Nat) : Owner → Owner
  | .hp j => .hp j
  | .sl j => if j = i then .pd 0 else .sl j
  | .pd j => .pd (j + 1)
theorem Rel.store (r : Rel G Z F ρ s σ H (x :: P)) {i : Nat} {y : SV} (hi : i < σ.length) (hx : toSV x.1 = some y) (hP : NoSlot P) : Rel G Z F ρ { s with sl := s.sl.set i (some y) } (σ.set i (some x.2)) H P := by
  have his : i < s.sl.length := by rw [r.slen]; exact hi
  have own : ∀ b w, Owns ρ (s.sl.set i (some y)) (σ.set i (some x.2)) P b w → Owns ρ s.sl σ (x :: P) b (stF i w) := fun b w h => by
    cases w with
    | hp j => exact h
    | sl j =>
      obtain ⟨⟨c, hc⟩, h⟩ := h
      by_cases hj : j = i
      · subst hj
        rw [List.getElem?_set_self his] at hc
        rw [List.getElem?_set_self hi] at h
        simp only [stF, if_pos]
        simp at h hc
        subst hc
        obtain ⟨x1, x2⟩ := x
        cases x1 with
        | val d => simp [toSV] at hx
        | slot k => simp [toSV] at hx
        | own c1 =>
          simp only [toSV, Option.some.injEq] at hx
          cases hx
          simp at h
          subst h
          exact ⟨c, rfl⟩
      · rw [List.getElem?_set_ne (Ne.symm hj)] at hc h
        simp only [stF, if_neg hj]
        exact ⟨⟨c, hc⟩, h⟩
    | pd j =>
      obtain ⟨c, h⟩ := h
      exact ⟨c, by simpa using h⟩
  obtain ⟨u, z⟩ := reown r (stF i) own (fun b w w' h1 h2 e => by
    cases w with
    | hp j => cases w' with
      | hp k => simpa [stF] using e
      | sl k => simp only [stF] at e; split at e <;> cases e
      | pd k => cases e
    | sl j => cases w' with
      | hp k => simp only [stF] at e; split at e <;> cases e
      | sl k =>
        simp only [stF] at e
        split at e <;> split at e
        · rename_i h3 h4; rw [h3, h4]
        · cases e
        · cases e
        · exact e
      | pd k => simp only [stF] at e; split at e <;> cases e
    | pd j => cases w' with
      | hp k => cases e
      | sl k => simp only [stF] at e; split at e <;> cases e
      | pd k => simpa [stF] using e)
  refine ⟨r.zs, r.fs, r.len, r.hp, by simp [r.slen], fun j q e => ?_, fun j q v e => ?_, u, z, r.no, r.nt⟩
  · by_cases hj : j = i
    · subst hj
      simp only at e
      rw [List.getElem?_set_self his] at e
      simp at e
      subst e
      refine ⟨x.2, List.getElem?_set_self hi, ?_⟩
      have hd := r.head
      obtain ⟨x1, x2⟩ := x
      cases x1 with
      | val d => simp only [toSV, Option.some.injEq] at hx; subst hx; exact hd
      | own c => simp only [toSV, Option.some.injEq] at hx; subst hx; exact hd
      | slot k => simp [toSV] at hx
    · simp only at e
      rw [List.getElem?_set_ne (Ne.symm hj)] at e
      obtain ⟨v, h1, h2⟩ := r.sl j q e
      exact ⟨v, by rw [List.getElem?_set_ne (Ne.symm hj)]; exact h1, h2⟩
  · have hd := r.pd (j + 1) q v (by simpa using e)
    cases q with
    | val d => exact hd
    | own c => exact hd
    | slot k => exact absurd e (hP j k v)

/-! #### a slot gives what it owns -/
def tkF (i : Nat) : Owner → Owner
  | .hp j => .hp j
  | .sl j => .sl j
  | .pd 0 => .sl i
  | .pd (j + 1) => .pd j
theorem Rel.take (r : Rel G Z F ρ s σ H P) {i : Nat} {c : C} {v : V} (hc : s.sl[i]? = some (some (.own c))) (hv : σ[i]? = some (some v)) (hP : NoSlot P) :
    Rel G Z F ρ { s with sl := s.sl.set i none } σ H ((.own c, v) :: P) := by
  have his : i < s.sl.length := (List.getElem?_eq_some_iff.mp hc).1
  have nosl : ∀ j b, Owns ρ (s.sl.set i none) σ ((.own c, v) :: P) b (.sl j) → j ≠ i := fun j b h e => by
    subst e
    obtain ⟨⟨c', hc'⟩, _⟩ := h
    rw [List.getElem?_set_self his] at hc'
    simp at hc'
  have own : ∀ b w, Owns ρ (s.sl.set i none) σ ((.own c, v) :: P) b w → Owns ρ s.sl σ P b (tkF i w) := fun b w h => by
    cases w with
    | hp j => exact h
    | sl j =>
      have hj := nosl j b h
      obtain ⟨⟨c', hc'⟩, h⟩ := h
      rw [List.getElem?_set_ne (Ne.symm hj)] at hc'
      exact ⟨⟨c', hc'⟩, h⟩
    | pd j =>
      cases j with
      | zero =>
        obtain ⟨c', h⟩ := h
        simp at h
        exact ⟨⟨c, hc⟩, by rw [hv, h.2]⟩
      | succ j =>
        obtain ⟨c', h⟩ := h
        exact ⟨c', by simpa using h⟩
  obtain ⟨u, z⟩ := reown r (tkF i) own (fun b w w' h1 h2 e => by
    cases w with
    | hp j => cases w' with
      | hp k => simpa [tkF] using e
      | sl k => cases e
      | pd k => cases k <;> cases e
    | sl j => cases w' with
      | hp k => cases e
      | sl k => simpa [tkF] using e
      | pd k => cases k with
        | zero => simp only [tkF, Owner.sl.injEq] at e; exact absurd e (nosl j b h1)
        | succ k => cases e
    | pd j => cases w' with
      | hp k => cases j <;> cases e
      | sl k => cases j with
        | zero => simp only [tkF, Owner.sl.injEq] at e; exact absurd e.symm (nosl k b h2)
        | succ j => cases e
      | pd k => cases j <;> cases k <;> simp [tkF] at e ⊢ <;> exact e)
  refine ⟨r.zs, r.fs, r.len, r.hp, by simp [r.slen], fun j q e => ?_, fun j q w e => ?_, u, z, r.no, r.nt⟩
  · by_cases hj : j = i
    · subst hj
      simp only at e
      rw [List.getElem?_set_self his] at e
      simp at e
    · simp only at e
      rw [List.getElem?_set_ne (Ne.symm hj)] at e
      exact r.sl j q e
  · cases j with
    | zero =>
      simp at e
      obtain ⟨rfl, rfl⟩ := e
      obtain ⟨v', h1, h2⟩ := r.sl i _ hc
      rw [hv] at h1; cases h1
      exact h2
    | succ j =>
      have e' : P[j]? = some (q, w) := by simpa using e
      have hd := r.pd j q w e'
      cases q with
      | val d => exact hd
      | own c => exact hd
      | slot k => exact absurd e' (hP j k w)

/-! #### what a slot owns is changed -/
theorem Rel.setSlot (r : Rel G Z F ρ s σ H P) {i : Nat} {c c' : C} {o' : HO} (hc : s.sl[i]? = some (some (.own c))) (hv : σ[i]? = some (some (.ref a))) (h' : CRep G Z ρ c' o') :
    Rel G Z F ρ { s with sl := s.sl.set i (some (.own c')) } σ (upd H a o') P := by
  have his : i < s.sl.length := (List.getElem?_eq_some_iff.mp hc).1
  have ow : Owns ρ s.sl σ P a (.sl i) := ⟨⟨c, hc⟩, hv⟩
  obtain ⟨v, h1, b, o, h2, h3, h4⟩ := r.sl i _ hc
  rw [hv] at h1; cases h1; cases h2
  have k : ∀ b u, b ≠ a → H b = some u → upd H a o' b = some u := fun b u hb e => by rw [upd_ne hb]; exact e
  have hz := r.zo a _ ow
  have zk : ∀ b u, Z b = some u → upd H a o' b = some u := fun b u e => k b u (fun z => by subst z; rw [hz.1] at e; cases e) (r.zs b u e)
  have own : ∀ b w, Owns ρ (s.sl.set i (some (.own c'))) σ P b w → Owns ρ s.sl σ P b w := fun b w h => by
    cases w with
    | hp j => exact h
    | sl j =>
      obtain ⟨⟨c2, hc2⟩, h⟩ := h
      by_cases hj : j = i
      · subst hj; exact ⟨⟨c, hc⟩, h⟩
      · rw [List.getElem?_set_ne (Ne.symm hj)] at hc2
        exact ⟨⟨c2, hc2⟩, h⟩
    | pd j => exact h
  have ne : ∀ b w, Owns ρ s.sl σ P b w → w ≠ .sl i → b ≠ a := fun b w h hw z => by subst z; exact hw (r.uq b _ _ h ow)
  refine ⟨zk, fun b u e => k b u (fun z => by subst z; rw [hz.2] at e; cases e) (r.fs b u e), r.len, fun j ob b e1 e2 => (r.hp j ob b e1 e2).keep h3 (.crep h4) (ne b (.hp j) e2 (by intro z; cases z)) k, by simp [r.slen], fun j q e => ?_, fun j q w e => ?_, fun b w w' e1 e2 => r.uq b w w' (own _ _ e1) (own _ _ e2), fun b w e => r.zo b w (own _ _ e), r.no, r.nt⟩
  · by_cases hj : j = i
    · subst hj
      simp only at e
      rw [List.getElem?_set_self his] at e
      simp at e
      subst e
      exact ⟨_, hv, a, o', rfl, upd_same, h'⟩
    · simp only at e
      rw [List.getElem?_set_ne (Ne.symm hj)] at e
      obtain ⟨v, g1, g2⟩ := r.sl j q e
      refine ⟨v, g1, ?_⟩
      cases q with
      | val d => exact g2
      | bor c => exact g2
      | own c2 =>
        obtain ⟨b, ob, rfl, g3, g4⟩ := g2
        exact ⟨b, ob, rfl, k b ob (ne b (.sl j) ⟨⟨c2, e⟩, g1⟩ (by intro z; cases z; exact hj rfl)) g3, g4⟩
  · have g := r.pd j q w e
    cases q with
    | val d => exact g
    | own c2 =>
      obtain ⟨b, ob, rfl, g3, g4⟩ := g
      exact ⟨b, ob, rfl, k b ob (ne b (.pd j) ⟨c2, e⟩ (by intro z; cases z)) g3, g4⟩
    | slot m => exact g

/-! #### a slot's container becomes a value -/
theorem Rel.freezeSlot (r : Rel G Z F ρ s σ H P) {i : Nat} {c : C} (hc : s.sl[i]? = some (some (.own c))) :
    ∃ a o, σ[i]? = some (some (.ref a)) ∧ H a = some o ∧ Same Z (upd Z a o) ∧ Rel G (upd Z a o) F ρ { s with sl := s.sl.set i (some (.val (frzC c))) } σ H P ∧ DRep G (upd Z a o) ρ (frzC c) (.ref a) := by
  have his : i < s.sl.length := (List.getElem?_eq_some_iff.mp hc).1
  obtain ⟨v, h1, a, o, rfl, h3, h4⟩ := r.sl i _ hc
  have ow : Owns ρ s.sl σ P a (.sl i) := ⟨⟨c, hc⟩, h1⟩
  have zn := (r.zo a _ ow).1
  have e : Same Z (upd Z a o) := Same.upd zn
  have k : Same H H := Same.refl H
  have dr : DRep G (upd Z a o) ρ (frzC c) (.ref a) := frz_rep upd_same (h4.mono e (List.prefix_refl _))
  have nosl : ∀ b, ¬ Owns ρ (s.sl.set i (some (.val (frzC c)))) σ P b (.sl i) := fun b h => by
    obtain ⟨⟨c', hc'⟩, _⟩ := h
    rw [List.getElem?_set_self his] at hc'
    simp at hc'
  have own : ∀ b w, Owns ρ (s.sl.set i (some (.val (frzC c)))) σ P b w → Owns ρ s.sl σ P b w ∧ w ≠ .sl i := fun b w h => by
    cases w with
    | hp j => exact ⟨h, by intro z; cases z⟩
    | sl j =>
      by_cases hj : j = i
      · subst hj; exact absurd h (nosl b)
      · obtain ⟨⟨c2, hc2⟩, h⟩ := h
        rw [List.getElem?_set_ne (Ne.symm hj)] at hc2
        exact ⟨⟨⟨c2, hc2⟩, h⟩, by intro z; cases z; exact hj rfl⟩
    | pd j => exact ⟨h, by intro z; cases z⟩
  refine ⟨a, o, h1, h3, e, ⟨fun b u h => ?_, r.fs, r.len, fun j ob b e1 e2 => (r.hp j ob b e1 e2).mono e (List.prefix_refl _) k, by simp [r.slen], fun j q g => ?_, fun j q w g => ?_, fun b w w' e1 e2 => r.uq b w w' (own _ _ e1).1 (own _ _ e2).1, fun b w g => ⟨?_, (r.zo b w (own _ _ g).1).2⟩, zno r.no (NDx.crep h4).1 (r.zo a _ ow).2, znt r.nt (crep_nt h4)⟩, dr⟩
  · by_cases hb : b = a
    · subst hb; rw [upd_same] at h; rw [h3]; exact h
    · rw [upd_ne hb] at h; exact r.zs _ _ h
  · by_cases hj : j = i
    · subst hj
      simp only at g
      rw [List.getElem?_set_self his] at g
      simp at g
      subst g
      exact ⟨_, h1, dr⟩
    · simp only at g
      rw [List.getElem?_set_ne (Ne.symm hj)] at g
      obtain ⟨v, g1, g2⟩ := r.sl j q g
      exact ⟨v, g1, g2.mono e (List.prefix_refl _) k⟩
  · have g' := (r.pd j q w g).mono (H' := H) e (List.prefix_refl ρ) k
    cases q with
    | val d => exact g'
    | own c => exact g'
    | slot m => exact g'
  · have hb : b ≠ a := fun z => by
      subst z
      exact (own _ _ g).2 (r.uq b _ _ (own _ _ g).1 ow)
    rw [upd_ne hb]; exact (r.zo b w (own _ _ g).1).1

/-! #### a held container becomes a thing of the heap -/
def hpC : C → O
  | .lst xs => .lst xs
def seF (n : Nat) : Owner → Owner
  | .hp j => if j = n then .pd 0 else .hp j
  | .sl j => .sl j
  | .pd j => .pd (j + 1)
theorem Rel.settle (r : Rel G Z F ρ s σ H (x :: P)) {c : C} (hx : x.1 = .own c) :
    ∃ a, x.2 = .ref a ∧ Rel G Z F (ρ ++ [a]) { s with hp := s.hp ++ [hpC c] } σ H ((.val (.ref s.hp.length), .ref a) :: P) := by
  obtain ⟨x1, v⟩ := x
  simp only at hx
  subst hx
  obtain ⟨a, o, e1, h1, h2⟩ := r.head
  simp only at e1
  subst e1
  refine ⟨a, rfl, ?_⟩
  have pre : ρ <+: ρ ++ [a] := List.prefix_append _ _
  have e : Same Z Z := Same.refl Z
  have k : Same H H := Same.refl H
  have own : ∀ b w, Owns (ρ ++ [a]) s.sl σ P b w → Owns ρ s.sl σ ((R.own c, V.ref a) :: P) b (seF ρ.length w) := fun b w h => by
    cases w with
    | hp j =>
      have h : (ρ ++ [a])[j]? = some b := h
      by_cases hj : j = ρ.length
      · subst hj
        rw [List.getElem?_concat_length] at h
        cases h
        simp only [seF, if_pos]
        exact ⟨c, rfl⟩
      · simp only [seF, if_neg hj]
        have hl := (List.getElem?_eq_some_iff.mp h).1
        rw [List.length_append, List.length_singleton] at hl
        show ρ[j]? = some b
        rw [List.getElem?_append_left (by omega)] at h
        exact h
    | sl j => exact h
    | pd j => obtain ⟨c', h⟩ := h; exact ⟨c', by simpa using h⟩
  obtain ⟨u, z⟩ := reown r (seF ρ.length) own (fun b w w' h1 h2 e => by
    cases w with
    | hp j => cases w' with
      | hp k =>
        simp only [seF] at e
        split at e <;> split at e
        · rename_i h3 h4; rw [h3, h4]
        · cases e
        · cases e
        · exact e
      | sl k => simp only [seF] at e; split at e <;> cases e
      | pd k => simp only [seF] at e; split at e <;> cases e
    | sl j => cases w' with
      | hp k => simp only [seF] at e; split at e <;> cases e
      | sl k => simpa [seF] using e
      | pd k => cases e
    | pd j => cases w' with
      | hp k => simp only [seF] at e; split at e <;> cases e
      | sl k => cases e
      | pd k => simpa [seF] using e)
  have base : Rel G Z F (ρ ++ [a]) { s with hp := s.hp ++ [hpC c] } σ H P := by
    refine ⟨r.zs, r.fs, by simp [r.len], fun i ob b e1 e2 => ?_, r.slen, fun i q g => ?_, fun i q w g => (r.pd (i + 1) q w (by simpa using g)).mono e pre k, u, z, r.no, r.nt⟩
    · by_cases hi : i < ρ.length
      · have e1' : s.hp[i]? = some ob := by
          have e1 : (s.hp ++ [hpC c])[i]? = some ob := e1
          rw [List.getElem?_append_left (by rw [r.len]; exact hi)] at e1
          exact e1
        rw [List.getElem?_append_left hi] at e2
        exact (r.hp i ob b e1' e2).mono e pre k
      · have hl := (List.getElem?_eq_some_iff.mp e2).1
        rw [List.length_append, List.length_singleton] at hl
        have hi' : i = ρ.length := by omega
        subst hi'
        rw [List.getElem?_concat_length] at e2
        cases e2
        have e1 : (s.hp ++ [hpC c])[ρ.length]? = some ob := e1
        rw [← r.len, List.getElem?_concat_length] at e1
        cases e1
        cases c with
        | lst xs =>
          obtain ⟨vs, rfl, h2⟩ := h2
          exact ⟨vs, h1, h2.mono e pre⟩
    · obtain ⟨v, g1, g2⟩ := r.sl i q g
      exact ⟨v, g1, g2.mono e pre k⟩
  refine base.pushVal (.ref ?_)
  rw [r.len, List.getElem?_concat_length]

/-! #### a thing of the heap is changed -/
theorem InsAt.keepO {b : Addr} {c : Nat} {vs : List (Option V)} (h : InsAt G H b c vs) {o : HO} (ha : H a = some o) (hn : NDx o) (hb : b ≠ a) (k : ∀ b u, b ≠ a → H b = some u → u ≠ .own a → H' b = some u) : InsAt G H' b c vs := by
  obtain ⟨ci, dx, h1, h2, h3⟩ := h
  refine ⟨ci, dx, h1, h2, ?_⟩
  split
  · rename_i hs
    rw [if_pos hs] at h3
    obtain ⟨ws, h4, h5⟩ := h3
    refine ⟨ws, ?_, h5⟩
    rcases h4 with ⟨p, w, q⟩ | ⟨p, q⟩
    · refine .inl ⟨k _ _ hb p (fun z => nomatch z), k _ _ ?_ w (fun z => ?_), q⟩
      · rintro rfl
        rw [ha] at w; cases w; exact hn.1 _ rfl
      · cases z; exact hb rfl
    · refine .inr ⟨k _ _ hb p (fun z => nomatch z), k _ _ ?_ q (fun z => nomatch z)⟩
      rintro rfl
      rw [ha] at q; cases q; exact hn.2 rfl
  · rename_i hs
    rw [if_neg hs] at h3
    obtain ⟨fs, h4, h5, h6, h7⟩ := h3
    refine ⟨fs, k _ _ hb h4 (fun z => nomatch z), k _ _ ?_ h5 (fun z => ?_), h6, h7⟩
    · rintro rfl
      rw [ha] at h5; cases h5; exact hn.1 _ rfl
    · cases z; exact hb rfl
theorem ORep.keepO {b : Addr} {ob : O} (h : ORep G Z ρ H b ob) {o : HO} (ha : H a = some o) (hn : NDx o) (hb : b ≠ a) (k : ∀ b u, b ≠ a → H b = some u → u ≠ .own a → H' b = some u) : ORep G Z ρ H' b ob := by
  cases ob with
  | lst xs => obtain ⟨vs, h, r⟩ := h; exact ⟨vs, k _ _ hb h (fun z => nomatch z), r⟩
  | ins c fs => obtain ⟨vs, h, r⟩ := h; exact ⟨vs, h.keepO ha hn hb k, r⟩
  | tab q => obtain ⟨e, ps, h, r⟩ := h; exact ⟨e, ps, k _ _ hb h (fun z => nomatch z), r⟩
theorem Rel.writeHp (r : Rel G Z F ρ s σ H P) {n : Nat} {o' : O} {u0 : HO} (ha : ρ[n]? = some a) (hu : H a = some u0) (hn : NDx u0) (k : ∀ b u, b ≠ a → H b = some u → u ≠ .own a → H' b = some u) (h' : ORep G Z ρ H' a o') :
    Rel G Z F ρ { s with hp := s.hp.set n o' } σ H' P := by
  have ow : Owns ρ s.sl σ P a (.hp n) := ha
  have hz := r.zo a _ ow
  have ne : ∀ b w, Owns ρ s.sl σ P b w → w ≠ .hp n → b ≠ a := fun b w h hw z => by subst z; exact hw (r.uq b _ _ h ow)
  have kc : ∀ {c : C} {o : HO} {b : Addr}, CRep G Z ρ c o → b ≠ a → H b = some o → H' b = some o := fun hc hb e => k _ _ hb e ((NDx.crep hc).1 a)
  have hni : n < s.hp.length := by rw [r.len]; exact (List.getElem?_eq_some_iff.mp ha).1
  refine ⟨fun b u e => ?_, fun b u e => ?_, by simp [r.len], fun i ob b e1 e2 => ?_, r.slen, fun i q g => ?_, fun i q w g => ?_, r.uq, r.zo, r.no, r.nt⟩
  · refine k b u (fun z => by subst z; rw [hz.1] at e; cases e) (r.zs b u e) (fun z => ?_)
    subst z
    obtain ⟨u, hu⟩ := (r.no b a).1 e
    rw [hz.1] at hu; cases hu
  · refine k b u (fun z => by subst z; rw [hz.2] at e; cases e) (r.fs b u e) (fun z => ?_)
    subst z
    exact (r.no b a).2.1.1 e
  · by_cases hi : i = n
    · subst hi
      rw [ha] at e2; cases e2
      have e1 : (s.hp.set i o')[i]? = some ob := e1
      rw [List.getElem?_set_self hni] at e1
      cases e1
      exact h'
    · have e1 : (s.hp.set n o')[i]? = some ob := e1
      rw [List.getElem?_set_ne (Ne.symm hi)] at e1
      exact (r.hp i ob b e1 e2).keepO hu hn (ne b (.hp i) e2 (by intro z; cases z; exact hi rfl)) k
  · obtain ⟨v, g1, g2⟩ := r.sl i q g
    refine ⟨v, g1, ?_⟩
    cases q with
    | val d => exact g2
    | bor c => exact g2
    | own c2 =>
      obtain ⟨b, ob, rfl, g3, g4⟩ := g2
      exact ⟨b, ob, rfl, kc g4 (ne b (.sl i) ⟨⟨c2, g⟩, g1⟩ (by intro z; cases z)) g3, g4⟩
  · have g' := r.pd i q w g
    cases q with
    | val d => exact g'
    | own c2 =>
      obtain ⟨b, ob, rfl, g3, g4⟩ := g'
      exact ⟨b, ob, rfl, kc g4 (ne b (.pd i) ⟨c2, g⟩ (by intro z; cases z)) g3, g4⟩
    | slot m => exact g'
end
end Ri

set_option maxRecDepth 100000
/-! Ri, part C: the small language and its machine. -/
namespace Ri
open PySem L2
/-- an exception: its class, its fields -/
structure Xc where
  c : Nat
  fs : List D
inductive Bin where
  | add | sub | mul | fdiv | mod | pow
  | eq | ne | lt | le | gt | ge | in_ | notin | is_ | isnot
  | ix
  deriving DecidableEq
inductive Un where
  | not_ | neg
  deriving DecidableEq
/-- built-in functions -/
inductive Bl where
  | len | all | any | sum | min2 | max2 | tuple | list | int | str | abs
  | isint | isbool | isstr | istuple
  deriving DecidableEq
/-- built-in methods that read -/
inductive Mt where
  | strIndex | join | seqIndex | count | split
  deriving DecidableEq
/-- built-in methods that change a list -/
inductive Mw where
  | append | extend | pop | remove
  deriving DecidableEq
/-- what a for walks -/
inductive Ik where
  | seq | range1 | range2 | enum | zip
  deriving DecidableEq
/-- what an except clause returns: a value, a field of what it caught, a pair of such -/
inductive Hx where
  | cst (d : D)
  | fld (k : Nat)
  | pair (a b : Hx)
def hxv (fs : List D) : Hx → Option D
  | .cst d => some d
  | .fld k => fs[k]?
  | .pair a b => match hxv fs a, hxv fs b with
    | some x, some y => some (.tup [x, y])
    | _, _ => none
/-- the classes that a clause catches, the slot of its name, what it returns -/
structure Hd where
  cs : List Nat
  nm : Option Nat
  rv : Hx
mutual
inductive E where
  | slot (i : Nat)
  | cst (d : D)
  | bin (o : Bin) (a b : E)
  | un (o : Un) (a : E)
  | and (a b : E) | or (a b : E)
  | ite (c a b : E)
  | chain (o p : Bin) (a b c : E)
  | tup (es : List (Bool × E)) | lst (es : List (Bool × E))
  | slice (a : E) (lo hi : Option E)
  | call (f : Nat) (as : List E)
  | mcall (c f : Nat) (a : E) (as : List E)
  | new (c f : Nat) (as : List E)
  | frz (c f : Nat) (as : List E)
  | fld (c k : Nat) (a : E)
  | bl (o : Bl) (as : List E)
  | mt (m : Mt) (a : E) (as : List E)
  | mw (m : Mw) (a : E) (as : List E)
  | comp (t : Tg) (k : Ik) (as : List E) (ifs : Option E) (elt : E) (own : List Nat)
  | settle (a : E)
  | isi (c : Nat) (a : E)
  | ucmp (ne : Bool) (c f : Nat) (a b : E)
  | ulen (c f : Nat) (a : E)
  | prop (c f : Nat) (a : E)
  | fz (a : E)
  | told (n : Nat) (q : Str) (hs : List Hd) (a : E)
  | compX (t : Tg) (k : Ik) (as : List E) (ifs : Option E) (elt : E) (own : List Nat)
  | act (i : Nat) (as : List E)
  | nextw (n : Nat) (q : Str) (c f : Nat) (a : E) (j : Nat) (ib : E)
  | nextf (c f : Nat) (a : E) (k : Nat)
inductive Tg where
  | nm (i : Nat)
  | tp (ts : List Tg)
  | sub (a i : E)
  | fld (c k : Nat) (a : E)
end
inductive Stm where
  | asg (t : Tg) (e : E)
  | aug (o : Bin) (t : Tg) (e : E)
  | ex (e : E)
  | ret (e : Option E)
  | if_ (c : E) (a b : List Stm)
  | for_ (t : Tg) (k : Ik) (as : List E) (body : List Stm)
  | while_ (c : E) (body : List Stm)
  | asg2 (i j : Nat) (a b : E)
  | wall
  | pass | brk | cnt
  | raise_ (m : Bool) (c : Nat) (as : List E)
  | tryR (body : List Stm) (hs : List Hd)
inductive Fl where
  | next | ret (r : R) | brk | cnt
abbrev Res (α : Type) := Option (Except Xc α × S)
def bd {α β : Type} (m : Res α) (f : α → S → Res β) : Res β :=
  match m with
  | none => none
  | some (.error x, s) => some (.error x, s)
  | some (.ok a, s) => f a s
def ok {α : Type} (a : α) (s : S) : Res α := some (.ok a, s)
/-- a def: how many parameters, how many slots, its body -/
structure Df where
  np : Nat
  ns : Nat
  body : List Stm
structure Tb where
  df : Nat → Option Df
  /-- class: how many fields -/
  cl : Nat → Option Nat
structure Rec where
  ex : E → S → Res R
  st : Stm → S → Res Fl
  call : Nat → List SV → List O → Option (Except Xc R × List O)

def LIM : Nat := 16777216

/-! ### looking -/
def conts : C → D
  | .lst xs => .lst xs
def peek (s : S) : R → Option D
  | .val d => some d
  | .own c => some (conts c)
  | .slot i => match s.sl[i]? with
    | some (some (.val d)) => some d
    | some (some (.own c)) => some (conts c)
    | some (some (.bor c)) => some (conts c)
    | _ => none
/-- a list of the heap is read -/
def deref (s : S) : D → D
  | .ref n => match s.hp[n]? with
    | some (.lst xs) => .lst xs
    | _ => .ref n
  | d => d
def look (s : S) (r : R) : Option D := (peek s r).map (deref s)
def items : D → Option (List D)
  | .tup xs => some xs
  | .lst xs => some xs
  | .klst xs => some xs
  | _ => none
def freeze (r : R) (s : S) : Res D :=
  match r with
  | .val d => ok d s
  | .own c => ok (frzC c) s
  | .slot i => match s.sl[i]? with
    | some (some (.val d)) => ok d s
    | some (some (.own c)) => ok (frzC c) { s with sl := s.sl.set i (some (.val (frzC c))) }
    | _ => none

/-! ### operators -/
mutual
def toPy : D → Option PyData
  | .non => some .none
  | .bl b => some (.bool b)
  | .int i => some (.int i)
  | .str x => some (.str x)
  | .tup xs => (toPys xs).map .tuple
  | .lst xs => (toPys xs).map .list
  | .klst _ => none
  | .ins _ _ => none
  | .ref _ => none
  | .fn _ => none
def toPys : List D → Option (List PyData)
  | [] => some []
  | x :: xs => match toPy x, toPys xs with
    | some y, some ys => some (y :: ys)
    | _, _ => none
end
/-- == -/
def deq (a b : D) : Option Bool := match toPy a, toPy b with
  | some x, some y => if x.depth ≤ 64 ∧ y.depth ≤ 64 then some (x.eqv y) else none
  | _, _ => none
def flat : D → Bool
  | .non => true
  | .bl _ => true
  | .int _ => true
  | .str _ => true
  | _ => false
def eqF : D → D → Bool
  | .non, .non => true
  | .bl a, .bl b => a == b
  | .bl a, .int b => (if a then 1 else 0) == b
  | .int a, .bl b => a == (if b then 1 else 0)
  | .int a, .int b => a == b
  | .str a, .str b => a == b
  | _, _ => false
def inD (x y : D) : Option Bool :=
  match x, y with
  | .str a, .str b => some (!(Builtin.Str.occurrences b a 0 b.length 1).isEmpty)
  | x, y => match items y with
    | some ys => if flat x && ys.all flat then some (ys.any fun z => eqF z x) else none
    | none => none
def ltD (x y : D) : Option Bool :=
  match x, y with
  | .int a, .int b => some (decide (a < b))
  | .str a, .str b => some (decide (a.cps.toList < b.cps.toList))
  | _, _ => none
def leD (x y : D) : Option Bool :=
  match x, y with
  | .int a, .int b => some (decide (a ≤ b))
  | _, _ => none
def ixD (x y : D) : Option D :=
  match x, y with
  | .str z, .int i => match atI z.cps.toList i with
    | some c => some (.str ⟨#[c]⟩)
    | none => none
  | x, .int i => match items x with
    | some xs => atI xs i
    | none => none
  | _, _ => none
def isNon : D → Bool
  | .non => true
  | _ => false
def vb (o : Option Bool) : Option R := o.map fun b => .val (.bl b)
def binD (o : Bin) (x y : D) : Option R :=
  match o with
  | .add => match x, y with
    | .int a, .int b => some (.val (.int (a + b)))
    | .str a, .str b => if a.length + b.length ≤ LIM then some (.val (.str (a ++ b))) else none
    | .lst a, .lst b => if a.length + b.length ≤ LIM then some (.own (.lst (a ++ b))) else none
    | .tup a, .tup b => if a.length + b.length ≤ LIM then some (.val (.tup (a ++ b))) else none
    | _, _ => none
  | .sub => match x, y with
    | .int a, .int b => some (.val (.int (a - b)))
    | _, _ => none
  | .mul => match x, y with
    | .int a, .int b => if (-(2 ^ 64) < a ∧ a < 2 ^ 64) ∨ (-(2 ^ 64) < b ∧ b < 2 ^ 64) then some (.val (.int (a * b))) else none
    | .lst a, .int b => if b < 2 ^ 20 ∧ a.length * b.toNat ≤ LIM ∧ -(2 ^ 20) < b then some (.own (.lst (List.replicate b.toNat a).flatten)) else none
    | _, _ => none
  | .fdiv => match x, y with
    | .int a, .int b => if b ≠ 0 ∧ b.natAbs < 1073741824 then some (.val (.int (a.fdiv b))) else none
    | _, _ => none
  | .mod => match x, y with
    | .int a, .int b => if b ≠ 0 then some (.val (.int (a.fmod b))) else none
    | _, _ => none
  | .pow => match x, y with
    | .int a, .int b => if 0 ≤ b ∧ b ≤ 1000000 ∧ a.natAbs < 2 ^ 64 then some (.val (.int (a ^ b.toNat))) else none
    | _, _ => none
  | .eq => vb (deq x y)
  | .ne => vb ((deq x y).map (!·))
  | .lt => vb (ltD x y)
  | .gt => vb (ltD y x)
  | .le => vb (leD x y)
  | .ge => vb (leD y x)
  | .in_ => vb (inD x y)
  | .notin => vb ((inD x y).map (!·))
  | .is_ => match y with
    | .non => match x with
      | .fn _ => none
      | x => some (.val (.bl (isNon x)))
    | _ => none
  | .isnot => match y with
    | .non => match x with
      | .fn _ => none
      | x => some (.val (.bl (!(isNon x))))
    | _ => none
  | .ix => (ixD x y).map .val
def opt {α : Type} (o : Option α) (s : S) : Res α := match o with
  | some a => ok a s
  | none => none
def binR (o : Bin) (ra rb : R) (s : S) : Res R :=
  match look s ra, look s rb with
  | some x, some y => opt (binD o x y) s
  | _, _ => none
def tru : D → Option Bool
  | .bl b => some b
  | _ => none
def unD (o : Un) (x : D) : Option R :=
  match o with
  | .not_ => (tru x).map fun b => .val (.bl (!b))
  | .neg => match x with
    | .int i => some (.val (.int (-i)))
    | _ => none

/-! ### built-ins -/
def bools : List D → Option (List Bool)
  | [] => some []
  | .bl b :: r => (bools r).map (b :: ·)
  | _ :: _ => none
def intsOf : List D → Option (List Int)
  | [] => some []
  | .int b :: r => (intsOf r).map (b :: ·)
  | _ :: _ => none
def strsOf : List D → Option (List Str)
  | [] => some []
  | .str b :: r => (strsOf r).map (b :: ·)
  | _ :: _ => none
def blD (o : Bl) (xs : List D) : Option R :=
  match o, xs with
  | .len, [.str x] => some (.val (.int x.length))
  | .len, [x] => (items x).map fun ys => .val (.int ys.length)
  | .all, [.lst xs] => (bools xs).map fun bs => .val (.bl (bs.all id))
  | .any, [.lst xs] => (bools xs).map fun bs => .val (.bl (bs.any id))
  | .sum, [.lst xs] => (intsOf xs).map fun ns => .val (.int ns.sum)
  | .min2, [.int a, .int b] => some (.val (.int (if b < a then b else a)))
  | .max2, [.int a, .int b] => some (.val (.int (if a < b then b else a)))
  | .tuple, [x] => (items x).map fun ys => .val (.tup ys)
  | .list, [x] => (items x).map fun ys => .own (.lst ys)
  | .int, [.int i] => some (.val (.int i))
  | .int, [.bl b] => some (.val (.int (if b then 1 else 0)))
  | .int, [.str x] => match PySem.intText? x with
    | some n => if x.length ≤ 640 then some (.val (.int n)) else none
    | none => none
  | .str, [.int i] => if i.natAbs.log2 < 1920 ∧ PySem.PyData.canLay0 (.str (toString i)) = true ∧ (toString i : Str).length ≤ LIM then some (.val (.str (toString i))) else none
  | .abs, [.int i] => some (.val (.int i.natAbs))
  | .isint, [x] => match x with
    | .int _ => some (.val (.bl true))
    | .bl _ => some (.val (.bl true))
    | .non => some (.val (.bl false))
    | .str _ => some (.val (.bl false))
    | .tup _ => some (.val (.bl false))
    | _ => none
  | .isbool, [x] => match x with
    | .int _ => some (.val (.bl false))
    | .bl _ => some (.val (.bl true))
    | .non => some (.val (.bl false))
    | .str _ => some (.val (.bl false))
    | .tup _ => some (.val (.bl false))
    | _ => none
  | .isstr, [x] => match x with
    | .int _ => some (.val (.bl false))
    | .bl _ => some (.val (.bl false))
    | .non => some (.val (.bl false))
    | .str _ => some (.val (.bl true))
    | .tup _ => some (.val (.bl false))
    | _ => none
  | .istuple, [x] => match x with
    | .int _ => some (.val (.bl false))
    | .bl _ => some (.val (.bl false))
    | .non => some (.val (.bl false))
    | .str _ => some (.val (.bl false))
    | .tup _ => some (.val (.bl true))
    | _ => none
  | _, _ => none

def mtD (m : Mt) (a : Str) (xs : List D) : Option R :=
  match m, xs with
  | .strIndex, [.str b] => match Builtin.Str.occurrences a b 0 a.length 1 with
    | i :: _ => some (.val (.int (i : Nat)))
    | [] => none
  | .join, [.lst xs] => match strsOf xs with
    | some ys => if (ys.map (·.length)).sum + ys.length * a.length ≤ LIM ∧ PySem.PyData.canLay0 (.str (Txt.join a ys)) = true ∧ (Txt.join a ys).length ≤ LIM then some (.val (.str (Txt.join a ys))) else none
    | none => none
  | .split, [.str b] => if (b.length == 0) = false ∧ a.length + 2 ≤ LIM ∧ (Txt.split a b).all (fun x => PySem.PyData.canLay0 (.str x) && decide (x.length ≤ LIM)) = true then some (.own (.lst ((Txt.split a b).map .str))) else none
  | _, _ => none
/-! ### what leads to new things -/
mutual
def cleanD (n : Nat) : D → Bool
  | .ref k => decide (k < n)
  | .tup xs => cleanDs n xs
  | .lst xs => cleanDs n xs
  | .klst _ => true
  | .ins _ xs => cleanDs n xs
  | _ => true
def cleanDs (n : Nat) : List D → Bool
  | [] => true
  | x :: xs => cleanD n x && cleanDs n xs
end
def cleanR (n : Nat) : R → Bool
  | .val d => cleanD n d
  | .own (.lst xs) => cleanDs n xs
  | .slot _ => false
def cleanO (n : Nat) : O → Bool
  | .lst xs => cleanDs n xs
  | .ins _ fs => fs.all fun x => match x with
    | some d => cleanD n d
    | none => true
  | .tab _ => true
/-! ### expressions -/
section
variable (F : Rec) (tb : Tb)
def exD (e : E) (s : S) : Res D := bd (F.ex e s) freeze
/-- arguments from the left, as results -/
def exs : List E → S → Res (List R)
  | [], s => ok [] s
  | e :: es, s => bd (F.ex e s) fun r s => bd (exs es s) fun rs s => ok (r :: rs) s
def exDs : List E → S → Res (List D)
  | [], s => ok [] s
  | e :: es, s => bd (exD F e s) fun r s => bd (exDs es s) fun rs s => ok (r :: rs) s
/-- the items of a display -/
def exStar : List (Bool × E) → S → Res (List D)
  | [], s => ok [] s
  | (false, e) :: es, s => bd (exD F e s) fun d s => bd (exStar es s) fun ds s => ok (d :: ds) s
  | (true, e) :: es, s => bd (F.ex e s) fun r s => bd (opt ((look s r).bind items) s) fun xs s => bd (exStar es s) fun ds s => ok (xs ++ ds) s
def looks (s : S) : List R → Option (List D)
  | [] => some []
  | r :: rs => match look s r, looks s rs with
    | some d, some ds => some (d :: ds)
    | _, _ => none
/-- how an argument comes to its parameter -/
def argS (s : S) : R → Option SV
  | .val d => some (.val d)
  | .own c => some (.own c)
  | .slot i => match s.sl[i]? with
    | some (some (.val d)) => some (.val d)
    | some (some (.own c)) => some (.bor c)
    | some (some (.bor c)) => some (.bor c)
    | _ => none
def argSs (s : S) : List R → Option (List SV)
  | [] => some []
  | r :: rs => match argS s r, argSs s rs with
    | some d, some ds => some (d :: ds)
    | _, _ => none
def callR (f : Nat) (rs : List R) (s : S) : Res R :=
  match argSs s rs with
  | none => none
  | some vs => match F.call f vs s.hp with
    | none => none
    | some (.error x, hp) => some (.error x, { s with hp := hp })
    | some (.ok r, hp) => some (.ok r, { s with hp := hp })
def isIns (s : S) (c : Nat) : R → Bool
  | .val (.ins c' _) => c == c'
  | .val (.ref n) => match s.hp[n]? with
    | some (.ins c' _) => c == c'
    | _ => false
  | _ => false
def getF (s : S) (c k : Nat) : D → Option D
  | .ins c' fs => if c = c' then fs[k]? else none
  | .ref n => match s.hp[n]? with
    | some (.ins c' fs) => if c = c' then (fs[k]?).join else none
    | _ => none
  | _ => none
/-- the list that is changed -/
def wrD (m : Mw) (xs : List D) (as : List D) : Option (List D × D) :=
  match m, as with
  | .append, [d] => if xs.length < LIM then some (xs ++ [d], .non) else none
  | .extend, [.lst ys] => if xs.length + ys.length ≤ LIM then some (xs ++ ys, .non) else none
  | .pop, [] => match xs[xs.length - 1]? with
    | some y => some (xs.dropLast, y)
    | none => none
  | _, _ => none
def isL (s : S) : R → Bool
  | .slot i => match s.sl[i]? with
    | some (some (.own (.lst _))) => true
    | _ => false
  | .val (.ref n) => match s.hp[n]? with
    | some (.lst _) => true
    | _ => false
  | _ => false
def wrR (m : Mw) (r : R) (as : List D) (s : S) : Res R :=
  match r with
  | .slot i => match s.sl[i]? with
    | some (some (.own (.lst xs))) => match wrD m xs as with
      | some (ys, d) => ok (.val d) { s with sl := s.sl.set i (some (.own (.lst ys))) }
      | none => none
    | _ => none
  | .val (.ref n) => match s.hp[n]? with
    | some (.lst xs) => match wrD m xs as with
      | some (ys, d) => ok (.val d) { s with hp := s.hp.set n (.lst ys) }
      | none => none
    | _ => none
  | _ => none
def optE (e : Option E) (s : S) : Res (Option Int) :=
  match e with
  | none => ok none s
  | some e => bd (F.ex e s) fun r s => match r with
    | .val (.int i) => ok (some i) s
    | _ => none
def sliceD (x : D) (lo hi : Option Int) : Option R :=
  match x with
  | .tup xs => some (.val (.tup ((xs.drop (HT.sIx xs.length 0 lo)).take (HT.sIx xs.length xs.length hi - HT.sIx xs.length 0 lo))))
  | .lst xs => some (.own (.lst ((xs.drop (HT.sIx xs.length 0 lo)).take (HT.sIx xs.length xs.length hi - HT.sIx xs.length 0 lo))))
  | _ => none

/-! ### targets -/
mutual
def asgT (t : Tg) (d : D) (s : S) : Res Unit :=
  match t with
  | .nm i => if i < s.sl.length then ok () { s with sl := s.sl.set i (some (.val d)) } else none
  | .tp ts => match d with
    | .tup ds => if ds.length = ts.length then asgTs ts ds s else none
    | _ => none
  | .sub a i => bd (F.ex a s) fun ra s => bd (F.ex i s) fun ri s => match ri with
    | .val (.int j) => match ra with
      | .slot n => match s.sl[n]? with
        | some (some (.own (.lst xs))) => match ixN xs.length j with
          | some k => ok () { s with sl := s.sl.set n (some (.own (.lst (xs.set k d)))) }
          | none => none
        | _ => none
      | .val (.ref n) => match s.hp[n]? with
        | some (.lst xs) => match ixN xs.length j with
          | some k => ok () { s with hp := s.hp.set n (.lst (xs.set k d)) }
          | none => none
        | _ => none
      | _ => none
    | _ => none
  | .fld c k a => bd (F.ex a s) fun ra s => match ra with
    | .val (.ref n) => match s.hp[n]? with
      | some (.ins c' fs) => if c = c' ∧ k < fs.length then ok () { s with hp := s.hp.set n (.ins c (fs.set k (some d))) } else none
      | _ => none
    | _ => none
def asgTs (ts : List Tg) (ds : List D) (s : S) : Res Unit :=
  match ts, ds with
  | [], [] => ok () s
  | t :: ts, d :: ds => bd (asgT t d s) fun _ s => asgTs ts ds s
  | _, _ => none
end
/-- an assignment of a result: a name takes a container as it is -/
def asgR (t : Tg) (r : R) (s : S) : Res Unit :=
  match t, r with
  | .nm i, .own c => if i < s.sl.length then ok () { s with sl := s.sl.set i (some (.own c)) } else none
  | t, r => bd (freeze r s) fun d s => asgT F t d s

/-! ### walks -/
def strItems (x : Str) : List D := x.cps.toList.map fun c => .str ⟨#[c]⟩
def walkSeq : D → Option (List D)
  | .str x => some (strItems x)
  | d => items d
def enumD (k : Nat) : List D → List D
  | [] => []
  | d :: ds => .tup [.int k, d] :: enumD (k + 1) ds
def rangeD (lo : Int) : Nat → List D
  | 0 => []
  | n + 1 => .int lo :: rangeD (lo + 1) n
/-- what is walked stays as it is: a value, or what is lent -/
def itR (r : R) (s : S) : Res D := match r with
  | .slot i => match s.sl[i]? with
    | some (some (.bor c)) => ok (conts c) s
    | _ => freeze (.slot i) s
  | r => freeze r s
def exIs : List E → S → Res (List D)
  | [], s => ok [] s
  | e :: es, s => bd (bd (F.ex e s) itR) fun r s => bd (exIs es s) fun rs s => ok (r :: rs) s
/-- the items -/
def walk (k : Ik) (ds : List D) : Option (List D) :=
  match k, ds with
  | .seq, [d] => walkSeq d
  | .range1, [.int n] => if n < 2 ^ 20 ∧ -(2 ^ 20) < n then some (rangeD 0 n.toNat) else none
  | .range2, [.int a, .int b] => if b < 2 ^ 20 ∧ -(2 ^ 20) < b ∧ a < 2 ^ 20 ∧ -(2 ^ 20) < a then some (rangeD a (b - a).toNat) else none
  | .enum, [.lst xs] => some (enumD 0 xs)
  | .enum, [.tup xs] => some (enumD 0 xs)
  | .zip, [.lst xs, .lst ys] => some (List.zipWith (fun x y => .tup [x, y]) xs ys)
  | .zip, [.tup xs, .tup ys] => some (List.zipWith (fun x y => .tup [x, y]) xs ys)
  | _, _ => none
def tEnd (r : R) (s : S) : Res Bool := match look s r with
  | some (.bl b) => ok b s
  | _ => none
def testR (e : E) (s : S) : Res Bool := bd (F.ex e s) tEnd

def forL (t : Tg) (body : S → Res Fl) : List D → S → Res Fl
  | [], s => ok .next s
  | d :: ds, s => bd (asgT F t d s) fun _ s => bd (body s) fun f s => match f with
    | .next => forL t body ds s
    | .cnt => forL t body ds s
    | .brk => ok .next s
    | .ret r => ok (.ret r) s
def wipeS (sl : List (Option SV)) : List Nat → List (Option SV)
  | [] => sl
  | i :: is => (wipeS sl is).set i none
/-- the slots of a comprehension's own names come back -/
def unwipe (sl₀ sl : List (Option SV)) : List Nat → List (Option SV)
  | [] => sl
  | i :: is => match sl₀[i]? with
    | some x => unwipe sl₀ (sl.set i x) is
    | none => unwipe sl₀ sl is
/-- no exception here -/
def bo {α β : Type} (m : Res α) (f : α → S → Res β) : Res β :=
  match m with
  | some (.ok a, s) => f a s
  | _ => none
def ifR (ifs : Option E) (s : S) : Res Bool := match ifs with
  | none => ok true s
  | some c => testR F c s
def compL (t : Tg) (ifs : Option E) (elt : E) (own : List Nat) : List D → List D → S → Res (List D)
  | [], acc, s => ok acc s
  | d :: ds, acc, s => bo (asgT F t d s) fun _ s => bo (ifR F ifs s) fun b s =>
      if b then bo (F.ex elt s) fun r s => bo (freeze r s) fun x s => if acc.length < LIM then compL t ifs elt own ds (acc ++ [x]) { s with sl := wipeS s.sl own } else none
      else compL t ifs elt own ds acc { s with sl := wipeS s.sl own }
/-- .. whose element may raise -/
def compXL (t : Tg) (ifs : Option E) (elt : E) (own : List Nat) : List D → List D → S → Res (List D)
  | [], acc, s => ok acc s
  | d :: ds, acc, s => bo (asgT F t d s) fun _ s => bo (ifR F ifs s) fun b s =>
      if b then bd (F.ex elt s) fun r s => bo (freeze r s) fun x s => if acc.length < LIM then compXL t ifs elt own ds (acc ++ [x]) { s with sl := wipeS s.sl own } else none
      else compXL t ifs elt own ds acc { s with sl := wipeS s.sl own }
def compXE (sl₀ : List (Option SV)) (own : List Nat) (m : Res (List D)) : Res R := match m with
  | some (.ok acc, s) => ok (.own (.lst acc)) { s with sl := unwipe sl₀ s.sl own }
  | some (.error x, s) => some (.error x, { s with sl := unwipe sl₀ (wipeS s.sl own) own })
  | none => none
def plainS (sl : List (Option SV)) (i : Nat) : Bool := match sl[i]? with
  | some none => true
  | some (some (.val _)) => true
  | _ => false
def slotR (i : Nat) (s : S) : Res R := match s.sl[i]? with
  | some (some (.val d)) => ok (.val d) s
  | some (some _) => ok (.slot i) s
  | _ => none
def unR (o : Un) (ra : R) (s : S) : Res R := match look s ra with
  | some x => opt (unD o x) s
  | none => none
def sliceR (ra : R) (l h : Option Int) (s : S) : Res R := match look s ra with
  | some x => opt (sliceD x l h) s
  | none => none
def blR (o : Bl) (rs : List R) (s : S) : Res R := match looks s rs with
  | some ds => opt (blD o ds) s
  | none => none
def mtE (m : Mt) (x : Str) (rs : List R) (s : S) : Res R := match looks s rs with
  | some ds => opt (mtD m x ds) s
  | none => none
def mtR (m : Mt) (r : R) (as : List E) (s : S) : Res R := match r with
  | .val (.str x) => bd (exs F as s) fun rs s => mtE m x rs s
  | _ => none
def tupR (ds : List D) (s : S) : Res R := if ds.length ≤ LIM then ok (.val (.tup ds)) s else none
def lstR (ds : List D) (s : S) : Res R := if ds.length ≤ LIM then ok (.own (.lst ds)) s else none
def fldR (c k : Nat) (r : R) (s : S) : Res R := match r with
  | .val d => opt ((getF s c k d).map .val) s
  | _ => none
def settleR (r : R) (s : S) : Res R := match r with
  | .own c => ok (.val (.ref s.hp.length)) { s with hp := s.hp ++ [hpC c] }
  | _ => none
def mcallR (c f : Nat) (r : R) (as : List E) (s : S) : Res R := if isIns s c r then bd (exs F as s) fun rs s => callR F f (r :: rs) s else none
def alls : List (Option D) → Option (List D)
  | [] => some []
  | some d :: r => (alls r).map (d :: ·)
  | none :: _ => none
/-- the fields of the newest thing, if it is an instance to which nothing leads -/
def frzH (c n : Nat) (hp : List O) : Option (List D) := match hp[n]? with
  | some (.ins c' fs) => if c' = c ∧ hp.length = n + 1 ∧ hp.all (cleanO n) = true then alls fs else none
  | _ => none
def newR (c f : Nat) (rs : List R) (s : S) : Res R := match tb.cl c with
  | some n => bd (callR F f (.val (.ref s.hp.length) :: rs) { s with hp := s.hp ++ [.ins c (List.replicate n none)] }) fun r s' => match r with
    | .val .non => ok (.val (.ref s.hp.length)) s'
    | _ => none
  | none => none
def frzR (c f : Nat) (rs : List R) (s : S) : Res R := match tb.cl c with
  | some n => bd (callR F f (.val (.ref s.hp.length) :: rs) { s with hp := s.hp ++ [.ins c (List.replicate n none)] }) fun r s' => match r with
    | .val .non => match frzH c s.hp.length s'.hp with
      | some ds => ok (.val (.ins c ds)) { s' with hp := s'.hp.take s.hp.length }
      | none => none
    | _ => none
  | none => none
def isiR (c : Nat) (r : R) (s : S) : Res R := if isIns s c r then ok (.val (.bl true)) s else none
/-- what raises has no answer here -/
def noX {α : Type} (m : Res α) : Res α := match m with
  | some (.error _, _) => none
  | m => m
def propR (c f : Nat) (r : R) (s : S) : Res R := if isIns s c r then noX (callR F f [r] s) else none
def boolR (ne : Bool) (r : R) (s : S) : Res R := match r with
  | .val (.bl b) => ok (.val (.bl (if ne then !b else b))) s
  | _ => none
def ucmpR (ne : Bool) (c f : Nat) (ra rb : R) (s : S) : Res R := if isIns s c ra && isIns s c rb then bd (noX (callR F f [ra, rb] s)) fun r s => boolR ne r s else none
def lenR (r : R) (s : S) : Res R := match r with
  | .val (.int i) => if 0 ≤ i ∧ i < 2 ^ 31 then ok (.val (.int i)) s else none
  | _ => none
def ulenR (c f : Nat) (rs : List R) (s : S) : Res R := match rs with
  | [ra] => if isIns s c ra then bd (noX (callR F f [ra] s)) fun r s => lenR r s else none
  | _ => none
def compR (t : Tg) (k : Ik) (ifs : Option E) (elt : E) (own : List Nat) (ds : List D) (s : S) : Res R := match walk k ds with
  | some xs => if own.all (plainS s.sl) then bo (compL F t ifs elt own xs [] { s with sl := wipeS s.sl own }) fun acc s' => ok (.own (.lst acc)) { s' with sl := unwipe s.sl s'.sl own } else none
  | none => none
def compXR (t : Tg) (k : Ik) (ifs : Option E) (elt : E) (own : List Nat) (ds : List D) (s : S) : Res R := match walk k ds with
  | some xs => if own.all (plainS s.sl) then compXE s.sl own (compXL F t ifs elt own xs [] { s with sl := wipeS s.sl own }) else none
  | none => none
def forR (t : Tg) (k : Ik) (body : S → Res Fl) (ds : List D) (s : S) : Res Fl := match walk k ds with
  | some xs => forL F t body xs s
  | none => none
/-- the first clause that catches -/
def caught (c : Nat) : List Hd → Option Hd
  | [] => none
  | h :: hs => if h.cs.contains c then some h else caught c hs
/-- a call that catches what it is given to do -/
def toldR (hs : List Hd) (m : Res R) : Res R := match m with
  | some (.ok _, s) => ok (.val .non) s
  | some (.error x, s) => match caught x.c hs with
    | some h => match hxv x.fs h.rv with
      | some d => ok (.val d) s
      | none => none
    | none => none
  | none => none
def isTab (s : S) (n : Nat) (q : Str) : Bool := match s.hp[n]? with
  | some (.tab p) => decide (p = q)
  | _ => false
def execs : List Stm → S → Res Fl
  | [], s => ok .next s
  | st :: sts, s => bd (F.st st s) fun f s => match f with
    | .next => execs sts s
    | f => ok f s
/-- behind a call, what it made goes if nothing leads to it -/
def gc (n : Nat) (r : R) (hp : List O) : List O :=
  if cleanR n r && (hp.take n).all (cleanO n) then hp.take n else hp
/-! ### a method that calls what it is handed -/
def lend : Option SV → Option SV
  | some (.own c) => some (.bor c)
  | x => x
def lamT (s : S) : Res R → Res Bool
  | some (.ok (.val (.bl b)), s') => ok b { s with hp := s'.hp }
  | _ => none
def fnT (s : S) : Option (Except Xc R × List O) → Res Bool
  | some (.ok (.val (.bl b)), hp) => ok b { s with hp := hp }
  | _ => none
/-- a lambda of one parameter, which stands in slot j -/
def lamB (sl : List (Option SV)) (j : Nat) (ib : E) (d : D) (s : S) : Res Bool := lamT s (F.ex ib ⟨(sl.map lend).set j (some (.val d)), s.hp⟩)
def fnB (k : Nat) (d : D) (s : S) : Res Bool := fnT s (F.call k [.val d] s.hp)
def actB (lam : D → S → Res Bool) (r : R) (s : S) : Res Bool := match r with
  | .val d => lam d s
  | _ => none
def nextB (lam : D → S → Res Bool) (i1 i2 i3 : E) (rest : List Stm) (s : S) : Res Fl :=
  bd (testR F i1 s) fun b1 s1 => bd (if b1 then bd (F.ex i2 s1) (actB lam) else ok false s1) fun b2 s2 =>
    if b2 then execs F rest s2 else bd (F.ex i3 s2) fun _ s3 => execs F rest s3
def endW (s : S) : Res Fl → Res R
  | some (.ok (.ret (.val d)), s') => ok (.val d) { s with hp := gc s.hp.length (.val d) s'.hp }
  | some (.error x, s') => some (.error x, { s with hp := s'.hp })
  | _ => none
/-- if not .. or not .. : ..; and what stands behind -/
def nxt : List Stm → Option (E × E × E × List Stm)
  | .if_ (.or (.un .not_ i1) (.un .not_ (.act 1 [i2]))) [.ex i3] [] :: rest => some (i1, i2, i3, rest)
  | _ => none
def nextR (f : Nat) (lam : D → S → Res Bool) (r : R) (s : S) : Res R := match tb.df f with
  | some d => if d.np = 2 ∧ d.ns = 2 then match nxt d.body with
      | some (i1, i2, i3, rest) => match argS s r with
        | some v => endW s (nextB F lam i1 i2 i3 rest ⟨[some v, none], s.hp⟩)
        | none => none
      | none => none
    else none
  | none => none
def chainR (p : Bin) (rb : R) (c : E) (r : R) (s : S) : Res R := match r with
  | .val (.bl true) => bd (F.ex c s) fun rc s => binR p rb rc s
  | .val (.bl false) => ok (.val (.bl false)) s
  | _ => none
def stepE : E → S → Res R
  | .slot i, s => slotR i s
  | .cst d, s => ok (.val d) s
  | .bin o a b, s => bd (F.ex a s) fun ra s => bd (F.ex b s) fun rb s => binR o ra rb s
  | .un o a, s => bd (F.ex a s) fun ra s => unR o ra s
  | .and a b, s => bd (testR F a s) fun c s => if c then F.ex b s else ok (.val (.bl false)) s
  | .or a b, s => bd (testR F a s) fun c s => if c then ok (.val (.bl true)) s else F.ex b s
  | .ite c a b, s => bd (testR F c s) fun k s => if k then F.ex a s else F.ex b s
  | .chain o p a b c, s => bd (F.ex a s) fun ra s => bd (F.ex b s) fun rb s => bd (binR o ra rb s) fun r s => chainR F p rb c r s
  | .tup es, s => bd (exStar F es s) tupR
  | .lst es, s => bd (exStar F es s) lstR
  | .slice a lo hi, s => bd (F.ex a s) fun ra s => bd (optE F lo s) fun l s => bd (optE F hi s) fun h s => sliceR ra l h s
  | .call f as, s => bd (exs F as s) fun rs s => callR F f rs s
  | .mcall c f a as, s => bd (F.ex a s) fun r s => mcallR F c f r as s
  | .new c f as, s => bd (exs F as s) fun rs s => newR F tb c f rs s
  | .frz c f as, s => bd (exs F as s) fun rs s => frzR F tb c f rs s
  | .fld c k a, s => bd (F.ex a s) fun r s => fldR c k r s
  | .bl o as, s => bd (exs F as s) fun rs s => blR o rs s
  | .mt m a as, s => bd (F.ex a s) fun r s => mtR F m r as s
  | .mw m a as, s => bd (F.ex a s) fun r s => if isL s r then bd (exDs F as s) fun ds s => wrR m r ds s else none
  | .comp t k as ifs elt own, s => bd (exIs F as s) fun ds s => compR F t k ifs elt own ds s
  | .settle a, s => bd (F.ex a s) settleR
  | .isi c a, s => bd (F.ex a s) fun r s => isiR c r s
  | .ucmp ne c f a b, s => bd (F.ex a s) fun ra s => bd (F.ex b s) fun rb s => ucmpR F ne c f ra rb s
  | .prop c f a, s => bd (F.ex a s) fun r s => propR F c f r s
  | .ulen c f a, s => bd (exs F [a] s) fun rs s => ulenR F c f rs s
  | .fz a, s => bd (exD F a s) fun d s => ok (.val d) s
  | .compX t k as ifs elt own, s => bd (exIs F as s) fun ds s => compXR F t k ifs elt own ds s
  | .told n q hs a, s => if isTab s n q then toldR hs (F.ex a s) else none
  | .act _ _, _ => none
  | .nextw n q c f a j ib, s => bd (F.ex a s) fun r s => if isIns s c r && isTab s n q then nextR F tb f (lamB F s.sl j ib) r s else none
  | .nextf c f a k, s => bd (F.ex a s) fun r s => if isIns s c r then nextR F tb f (fnB F k) r s else none

/-! ### statements -/
/-- a result in a name -/
def nmR (i : Nat) (r : R) (s : S) : Option S := match toSV r with
  | some y => if i < s.sl.length then some { s with sl := s.sl.set i (some y) } else none
  | none => none
def asg2R (i j : Nat) (ra rb : R) (s : S) : Res Fl := match nmR j rb s with
  | some s1 => match nmR i ra s1 with
    | some s2 => ok .next s2
    | none => none
  | none => none
/-- a returned result: what a slot owns goes with it -/
def retR (r : R) (s : S) : Res Fl :=
  match r with
  | .slot i => match s.sl[i]? with
    | some (some (.val d)) => ok (.ret (.val d)) s
    | some (some (.own c)) => ok (.ret (.own c)) { s with sl := s.sl.set i none }
    | _ => none
  | r => ok (.ret r) s
def augI (o : Bin) (x y : Int) : Option Int := match o with
  | .add => some (x + y)
  | .sub => some (x - y)
  | _ => none
def augF (o : Bin) (c k n : Nat) (x : Int) (r : R) (s : S) : Res Fl := match look s r with
  | some (.int y) => match augI o x y with
    | some z => match s.hp[n]? with
      | some (.ins c' fs) => if c = c' ∧ k < fs.length then ok .next { s with hp := s.hp.set n (.ins c (fs.set k (some (.int z)))) } else none
      | _ => none
    | none => none
  | _ => none
def augA (o : Bin) (c k : Nat) (e : E) (ra : R) (s : S) : Res Fl := match ra with
  | .val (.ref n) => match getF s c k (.ref n) with
    | some (.int x) => bd (F.ex e s) fun r s => augF o c k n x r s
    | _ => none
  | _ => none
/-- what a message can tell -/
def fmOk : List D → Bool
  | [.str x] => decide (x.length ≤ 1000)
  | [.int i] => decide (i.natAbs < 2 ^ 64)
  | _ => false
def catchR (hs : List Hd) (x : Xc) (s : S) : Res Fl := match caught x.c hs with
  | none => some (.error x, s)
  | some h => match hxv x.fs h.rv with
    | some d => match h.nm with
      | some i => if i < s.sl.length then ok (.ret (.val d)) { s with sl := s.sl.set i none } else none
      | none => ok (.ret (.val d)) s
    | none => none
def tryE (hs : List Hd) (m : Res Fl) : Res Fl := match m with
  | some (.error x, s) => catchR hs x s
  | m => m
def stepS : Stm → S → Res Fl
  | .asg t e, s => bd (F.ex e s) fun r s => bd (asgR F t r s) fun _ s => ok .next s
  | .aug o t e, s => match t with
    | .nm i => match s.sl[i]? with
      | some (some (.val x)) => bd (F.ex e s) fun r s => match look s r with
        | some y => bd (opt (binD o x y) s) fun z s => match z with
          | .val d => bd (asgT F (.nm i) d s) fun _ s => ok .next s
          | _ => none
        | none => none
      | _ => none
    | .fld c k a => bd (F.ex a s) fun ra s => augA F o c k e ra s
    | _ => none
  | .ex e, s => bd (F.ex e s) fun _ s => ok .next s
  | .ret none, s => ok (.ret (.val .non)) s
  | .ret (some e), s => bd (F.ex e s) retR
  | .if_ c a b, s => bd (testR F c s) fun k s => if k then execs F a s else execs F b s
  | .for_ t k as body, s => bd (exIs F as s) fun ds s => forR F t k (execs F body) ds s
  | .while_ c body, s => bd (testR F c s) fun k s => if k then bd (execs F body s) fun f s => match f with
      | .next => F.st (.while_ c body) s
      | .cnt => F.st (.while_ c body) s
      | .brk => ok .next s
      | .ret r => ok (.ret r) s
    else ok .next s
  | .asg2 i j a b, s => bd (exs F [a, b] s) fun rs s => match rs with
    | [ra, rb] => asg2R i j ra rb s
    | _ => none
  | .wall, _ => none
  | .pass, s => ok .next s
  | .brk, s => ok .brk s
  | .cnt, s => ok .cnt s
  | .raise_ m c as, s => bd (exDs F as s) fun ds s => if m = true → fmOk ds = true then some (.error ⟨c, ds⟩, s) else none
  | .tryR body hs, s => tryE hs (execs F body s)

/-! ### calls -/
def stepC (f : Nat) (vs : List SV) (hp : List O) : Option (Except Xc R × List O) :=
  match tb.df f with
  | none => none
  | some d => if vs.length = d.np then
      match execs F d.body ⟨vs.map some ++ List.replicate (d.ns - vs.length) none, hp⟩ with
      | none => none
      | some (.error x, s) => some (.error x, s.hp)
      | some (.ok .next, s) => some (.ok (.val .non), gc hp.length (.val .non) s.hp)
      | some (.ok (.ret (.slot _)), _) => none
      | some (.ok (.ret r), s) => some (.ok r, gc hp.length r s.hp)
      | some (.ok _, _) => none
    else none
end
def run (tb : Tb) (c : Nat → List SV → List O → Option (Except Xc R × List O)) : Nat → Rec
  | 0 => ⟨fun _ _ => none, fun _ _ => none, c⟩
  | n + 1 => ⟨stepE (run tb c n) tb, stepS (run tb c n), c⟩
/-- every body has this fuel -/
def FUEL : Nat := 1000000
def callD (tb : Tb) : Nat → Nat → List SV → List O → Option (Except Xc R × List O)
  | 0 => fun _ _ _ => none
  | d + 1 => stepC (run tb (callD tb d) FUEL) tb
end Ri

set_option maxRecDepth 100000
/-! Ri, part D: expressions. -/
namespace Ri
open PySem L2
abbrev CallF := Nat → List SV → List O → Option (Except Xc R × List O)
/-- how an exception lies behind its raising -/
def XRep (G : Cfg) (Z : Hp) (ρ : List Addr) (H : Hp) (x : Xc) (cls : Value) (d : Option Addr) : Prop :=
  ∃ C ns, G.xcl x.c = some (C, ns) ∧ cls = .ref C ∧ x.fs.length = ns.length ∧ (ns = [] → d = none) ∧
    (ns ≠ [] → ∃ dx vs fs, d = some dx ∧ DReps G Z ρ x.fs vs ∧ Z dx = some (.xd fs) ∧ ∀ (i : Nat) (f : Str) (v : V), ns[i]? = some f → vs[i]? = some v → fs.lookup f = some v)
def Goes (G : Cfg) (W : WX) (Z F : Hp) (ρ : List Addr) (σ : L2.St) (P : List (R × V)) (res : Res R) (Q : VK) : Prop :=
  match res with
  | none => False
  | some (.ok r, s') => ∀ v H' Z' ρ', Same Z Z' → ρ <+: ρ' → Rel G Z' F ρ' s' σ H' ((r, v) :: P) → Q v H'
  | some (.error x, s') => ∀ cls d H' Z' ρ', Same Z Z' → ρ <+: ρ' → XRep G Z' ρ' H' x cls d → Rel G Z' F ρ' s' σ H' P → W cls d σ H'
/-- the reading of a run -/
def T (G : Cfg) (W : WX) (m : S → Res R) : TE := fun σ H Q => ∃ Z F ρ s P, Rel G Z F ρ s σ H P ∧ Goes G W Z F ρ σ P (m s) Q
theorem PE.imp {X : Cx} {e : Expr} {t t' : TE} (h : PE X e t) (k : ∀ σ H Q, t' σ H Q → t σ H Q) : PE X e t' :=
  ⟨fun pins s σ H Q I hw => h.run pins s σ H Q I (k σ H Q hw)⟩
theorem PT.imp {X : Cx} {e : Expr} {t t' : TT} (h : PT X e t) (k : ∀ σ H Q, t' σ H Q → t σ H Q) : PT X e t' :=
  ⟨fun pins s σ H Q I hw => h.run pins s σ H Q I (k σ H Q hw)⟩
section
variable {G : Cfg} {W : WX} {Z Z' H H' F : Hp} {ρ ρ' : List Addr} {s : S} {σ : L2.St} {P : List (R × V)} {Q : VK}
theorem Goes.mono {res : Res R} (h : Goes G W Z F ρ σ P res Q) (e : Same Z Z') (p : ρ <+: ρ') : Goes G W Z' F ρ' σ P res Q := by
  rcases res with _ | ⟨_ | r, s'⟩
  · exact h
  · exact fun cls d H1 Z1 ρ1 e1 p1 => h cls d H1 Z1 ρ1 (e.trans e1) (List.IsPrefix.trans p p1)
  · exact fun v H1 Z1 ρ1 e1 p1 => h v H1 Z1 ρ1 (e.trans e1) (List.IsPrefix.trans p p1)
theorem Rel.drop : ∀ (L : List (R × V)), Rel G Z F ρ s σ H (L ++ P) → Rel G Z F ρ s σ H P
  | [], r => r
  | _ :: L, r => Rel.drop L r.pop
/-- a first part, held while the rest runs -/
def Mid (G : Cfg) (W : WX) (Z F : Hp) (ρ : List Addr) (σ : L2.St) (L P : List (R × V)) (f : R → S → Res R) (Q : VK) : VK := fun v H1 =>
  ∃ r s1 Z1 ρ1, Same Z Z1 ∧ ρ <+: ρ1 ∧ Rel G Z1 F ρ1 s1 σ H1 ((r, v) :: (L ++ P)) ∧ Goes G W Z1 F ρ1 σ P (f r s1) Q
theorem T.mono {m : S → Res R} {Q Q' : VK} (h : T G W m σ H Q) (k : ∀ v H', Q v H' → Q' v H') : T G W m σ H Q' := by
  obtain ⟨Z, F, ρ, s, P, r, h⟩ := h
  refine ⟨Z, F, ρ, s, P, r, ?_⟩
  rcases e : m s with _ | ⟨_ | a, s'⟩
  · rw [e] at h; exact h
  · rw [e] at h; exact h
  · rw [e] at h
    exact fun v H1 Z1 ρ1 e1 p1 r1 => k _ _ (h v H1 Z1 ρ1 e1 p1 r1)
theorem goes_bind {m : S → Res R} {f : R → S → Res R} (L : List (R × V)) (r : Rel G Z F ρ s σ H (L ++ P)) (h : Goes G W Z F ρ σ P (bd (m s) f) Q) {Q' : VK}
    (k : ∀ v H1 r1 s1 Z1 ρ1, Same Z Z1 → ρ <+: ρ1 → Rel G Z1 F ρ1 s1 σ H1 ((r1, v) :: (L ++ P)) → Goes G W Z1 F ρ1 σ P (f r1 s1) Q → Q' v H1) : T G W m σ H Q' := by
  refine ⟨Z, F, ρ, s, L ++ P, r, ?_⟩
  rcases e : m s with _ | ⟨_ | a, s'⟩
  · rw [e] at h; exact h
  · rw [e] at h
    exact fun cls d H1 Z1 ρ1 e1 p1 x1 r1 => h cls d H1 Z1 ρ1 e1 p1 x1 (Rel.drop L r1)
  · rw [e] at h
    exact fun v H1 Z1 ρ1 e1 p1 r1 => k v H1 a s' Z1 ρ1 e1 p1 r1 (Goes.mono h e1 p1)
theorem Goes.val {d : D} {v : V} (h : Goes G W Z F ρ σ P (ok (.val d) s) Q) (r : Rel G Z F ρ s σ H P) (hd : DRep G Z ρ d v) : Q v H :=
  h v H Z ρ (Same.refl _) (List.prefix_refl _) (r.pushVal hd)
/-- a new tuple -/
theorem Goes.tup {ds : List D} {vs : List V} {p : Addr} (h : Goes G W Z F ρ σ P (ok (.val (.tup ds)) s) Q) (r : Rel G Z F ρ s σ H P) (hd : DReps G Z ρ ds vs) (hp : H p = none) : Q (.ref p) (upd H p (.tup vs)) :=
  h _ _ _ ρ (r.zup hp _) (List.prefix_refl _) ((r.newZ hp (.tup vs) fun _ z => nomatch z).pushVal (.tup (SqT.of upd_same) (hd.mono (r.zup hp _) (List.prefix_refl _))))
theorem Goes.lst {ds : List D} {vs : List V} {p : Addr} (h : Goes G W Z F ρ σ P (ok (.own (.lst ds)) s) Q) (r : Rel G Z F ρ s σ H P) (hd : DReps G Z ρ ds vs) (hp : H p = none) : Q (.ref p) (upd H p (.lst vs)) :=
  h _ _ Z ρ (Same.refl _) (List.prefix_refl _) (r.pushNew hp ⟨vs, rfl, hd⟩)

/-! #### what is read now -/
def NRep (G : Cfg) (Z : Hp) (ρ : List Addr) (H : Hp) (v : V) : D → Prop
  | .lst xs => ∃ a vs, v = .ref a ∧ H a = some (.lst vs) ∧ DReps G Z ρ xs vs
  | d => DRep G Z ρ d v
theorem NRep.of {d : D} {v : V} (zs : Same Z H) (h : DRep G Z ρ d v) : NRep G Z ρ H v d := by
  cases h with
  | lst h r => exact ⟨_, _, rfl, zs _ _ h, r⟩
  | non => exact .non
  | bl b => exact .bl b
  | int i => exact .int i
  | str x h1 h2 => exact .str x h1 h2
  | tup h r => exact .tup h r
  | klst h r q => exact .klst h r q
  | ins h r => exact .ins h r
  | ref h => exact .ref h
  | fn h => exact .fn h
theorem NRep.cont {c : C} {a : Addr} {o : HO} (ho : H a = some o) (h : CRep G Z ρ c o) : NRep G Z ρ H (.ref a) (conts c) := by
  cases c with
  | lst xs => obtain ⟨vs, rfl, h⟩ := h; exact ⟨a, vs, rfl, ho, h⟩
theorem Rel.peek (r : Rel G Z F ρ s σ H P) {x : R} {v : V} {d : D} (hx : PRep G Z ρ H s.sl σ v x) (h : Ri.peek s x = some d) : NRep G Z ρ H v d := by
  cases x with
  | val d' => simp only [Ri.peek, Option.some.injEq] at h; subst h; exact NRep.of r.zs hx
  | own c => simp only [Ri.peek, Option.some.injEq] at h; subst h; obtain ⟨a, o, rfl, h1, h2⟩ := hx; exact .cont h1 h2
  | slot i =>
    have h1 : σ[i]? = some (some v) := hx
    simp only [Ri.peek] at h
    cases h2 : s.sl[i]? with
    | none => rw [h2] at h; cases h
    | some yo =>
    cases yo with
    | none => rw [h2] at h; cases h
    | some y =>
    obtain ⟨v', h3, h4⟩ := r.sl i y h2
    rw [h1] at h3; cases h3
    rw [h2] at h
    cases y with
    | val d' => simp only [Option.some.injEq] at h; subst h; exact NRep.of r.zs h4
    | own c => simp only [Option.some.injEq] at h; subst h; obtain ⟨a, o, rfl, h5, h6⟩ := h4; exact .cont h5 h6
    | bor c => simp only [Option.some.injEq] at h; subst h; obtain ⟨a, o, rfl, h5, h6⟩ := h4; exact .cont (r.fs _ _ h5) h6
theorem Rel.look (r : Rel G Z F ρ s σ H P) {x : R} {v : V} {d : D} (hx : PRep G Z ρ H s.sl σ v x) (h : Ri.look s x = some d) : NRep G Z ρ H v d := by
  unfold Ri.look at h
  cases hp : Ri.peek s x with
  | none => rw [hp] at h; cases h
  | some d' =>
    rw [hp] at h
    simp only [Option.map_some, Option.some.injEq] at h
    have hn := r.peek hx hp
    cases d' with
    | ref n =>
      cases hh : s.hp[n]? with
      | none => simp only [deref, hh] at h; subst h; exact hn
      | some o =>
        simp only [deref, hh] at h
        cases o with
        | ins c fs => subst h; exact hn
        | tab q => subst h; exact hn
        | lst xs =>
          subst h
          have hn : DRep G Z ρ (.ref n) v := hn
          cases hn with
          | ref hr =>
            obtain ⟨vs, h1, h2⟩ := r.hp n _ _ hh hr
            exact ⟨_, vs, rfl, h1, h2⟩
    | _ => subst h; exact hn
theorem NRep.seq {d : D} {v : V} {xs : List D} (zs : Same Z H) (h : NRep G Z ρ H v d) (hi : items d = some xs) : ∃ a vs, v = .ref a ∧ (SqL G.K H a vs ∨ SqT G.K H a vs) ∧ DReps G Z ρ xs vs := by
  cases d with
  | lst ys =>
    simp only [items, Option.some.injEq] at hi; subst hi
    obtain ⟨a, vs, rfl, h1, h2⟩ := h
    exact ⟨a, vs, rfl, .inl (SqL.of h1), h2⟩
  | tup ys =>
    simp only [items, Option.some.injEq] at hi; subst hi
    cases h with
    | tup h1 h2 => exact ⟨_, _, rfl, .inr (Same.sqT zs h1), h2⟩
  | klst ys =>
    simp only [items, Option.some.injEq] at hi; subst hi
    cases h with
    | klst h1 h2 _ => exact ⟨_, _, rfl, .inl (zs.seq h1), h2⟩
  | _ => cases hi
end
/-- the expression e is the term i -/
def CE (X : Cx) (G : Cfg) (W : WX) (tb : Tb) (c : CallF) (e : Expr) (i : E) : Prop := ∀ n, PE X e (T G W ((run tb c n).ex i))
section
variable {X : Cx} {G : Cfg} {W : WX} {tb : Tb} {c : CallF} {a b e : Expr} {ia ib ie : E} {pos : Pos}
theorem ce_of {t : Nat → TE} (h : ∀ n, PE X e (t n)) (k : ∀ n σ H Q, T G W (stepE (run tb c n) tb ie) σ H Q → t n σ H Q) : CE X G W tb c e ie := fun n => by
  cases n with
  | zero => exact ⟨fun pins s σ H Q I ⟨_, _, _, _, _, _, z⟩ => z.elim⟩
  | succ n => exact PE.imp (h n) (k n)

/-! ### names and constants -/
theorem ce_slot (i : Nat) {x : Str} (hN : X.N[i]? = some x := by rfl) (hv : Vis X.env.scope x := by first | exact Or.inl rfl | exact Or.inr (Or.inl rfl) | exact Or.inr (Or.inr rfl)) (hd : (x == ("__debug__" : Str)) = false := by decide)
    (hcd : (x == ("__classdict__" : Str)) = false := by decide) : CE X G W tb c (.Name x pos) (.slot i) := by
  refine ce_of (fun _ => pv i hN hv hd hcd) fun n σ H Q ⟨Z, F, ρ, s, P, r, h⟩ => ?_
  replace h : Goes G W Z F ρ σ P (slotR i s) Q := h
  unfold slotR at h
  split at h
  · rename_i d e
    obtain ⟨v, h1, h2⟩ := r.sl i _ e
    exact ⟨v, h1, h v H Z ρ (Same.refl _) (List.prefix_refl _) (r.pushVal h2)⟩
  · rename_i x' e
    obtain ⟨v, h1, h2⟩ := r.sl i _ e
    exact ⟨v, h1, h v H Z ρ (Same.refl _) (List.prefix_refl _) (r.pushSlot e h1)⟩
  · exact h.elim
theorem ce_const {d : D} {v : V} (h : PE X e (tC v)) (hd : ∀ Z ρ, DRep G Z ρ d v) : CE X G W tb c e (.cst d) := by
  refine ce_of (fun _ => h) fun n σ H Q ⟨Z, F, ρ, s, P, r, h⟩ => ?_
  exact h v H Z ρ (Same.refl _) (List.prefix_refl _) (r.pushVal (hd Z ρ))
theorem ce_int {i j} : CE X G W tb c (.Constant (.int i) j pos) (.cst (.int i)) := ce_const pe_int fun _ _ => .int i
theorem ce_bl {i j} : CE X G W tb c (.Constant (.bool i) j pos) (.cst (.bl i)) := ce_const pe_bl fun _ _ => .bl i
theorem ce_non {j} : CE X G W tb c (.Constant .none j pos) (.cst .non) := ce_const pe_non fun _ _ => .non
theorem ce_str {x : Str} {j} (h1 : PySem.PyData.canLay0 (.str x) = true := by decide +kernel) (h2 : x.length ≤ sizeLine := by decide +kernel) : CE X G W tb c (.Constant (.str x) j pos) (.cst (.str x)) := ce_const pe_str fun _ _ => .str x h1 h2
end
end Ri

set_option maxRecDepth 100000
/-! Ri, part E: operators. -/
namespace Ri
open PySem L2
theorem OpR.or {X : Cx} {f : Value → Value → Sem Value} {r r' : R2} (h : OpR X f r) (h' : OpR X f r') : OpR X f (fun x y H Q => r x y H Q ∨ r' x y H Q) :=
  fun pins s σ H x y v u Q I rx ry q => q.elim (h pins s σ H x y v u Q I rx ry) (h' pins s σ H x y v u Q I rx ry)
/-- the operator's reading is at least what the machine does -/
def OpD (G : Cfg) (o : Bin) (r : R2) : Prop := ∀ {W : WX} {Z F : Hp} {ρ : List Addr} {s : S} {σ : L2.St} {H : Hp} {P : List (R × V)} {x y : V} {dx dy : D} {res : R} {Q : VK},
  Rel G Z F ρ s σ H P → NRep G Z ρ H x dx → NRep G Z ρ H y dy → binD o dx dy = some res → Goes G W Z F ρ σ P (ok res s) Q → r x y H Q
section
variable {X : Cx} {G : Cfg} {W : WX} {tb : Tb} {c : CallF} {a b e : Expr} {ia ib ie : E} {pos : Pos}
theorem binR_some {o : Bin} {ra rb : R} {s : S} {Z F : Hp} {ρ : List Addr} {σ : L2.St} {P : List (R × V)} {Q : VK} (h : Goes G W Z F ρ σ P (binR o ra rb s) Q) :
    ∃ dx dy res, look s ra = some dx ∧ look s rb = some dy ∧ binD o dx dy = some res ∧ Goes G W Z F ρ σ P (ok res s) Q := by
  unfold binR at h
  split at h
  · rename_i dx dy e1 e2
    cases e3 : binD o dx dy with
    | none => rw [e3] at h; exact h.elim
    | some res => rw [e3] at h; exact ⟨dx, dy, res, e1, e2, e3, h⟩
  · exact h.elim
theorem ce_bin {o : Bin} {r : R2} (ha : CE X G W tb c a ia) (hb : CE X G W tb c b ib) (hpe : ∀ ta tb, PE X a ta → PE X b tb → PE X e (tOp r ta tb)) (ho : OpD G o r) : CE X G W tb c e (.bin o ia ib) := by
  refine ce_of (fun n => hpe _ _ (ha n) (hb n)) fun n σ H Q ⟨Z, F, ρ, s, P, rel, h⟩ => ?_
  refine goes_bind [] rel h fun x H1 ra s1 Z1 ρ1 e1 p1 r1 h1 => ?_
  refine goes_bind [(ra, x)] r1 h1 fun y H2 rb s2 Z2 ρ2 e2 p2 r2 h2 => ?_
  obtain ⟨dx, dy, res, g1, g2, g3, g4⟩ := binR_some h2
  exact ho (Rel.drop [(rb, y), (ra, x)] r2) (r2.look r2.second g1) (r2.look r2.head g2) g3 g4
end
section
variable {G : Cfg}
theorem strOk_append {a b : Str} (ha : PyData.canLay0 (.str a) = true) (hb : PyData.canLay0 (.str b) = true) : PyData.canLay0 (.str (a ++ b)) = true := by
  have e : (a ++ b).cps = a.cps ++ b.cps := rfl
  simp only [PyData.canLay0, PyData.strOk, e] at ha hb ⊢
  rw [Array.all_append, ha, hb]; rfl
abbrev rAdd (K : PySem.W.Frag) : R2 := fun x y H Q => (rI0 fun i j => .int (i + j)) x y H Q ∨ (∃ i j, x = .str i ∧ y = .str j ∧ i.length + j.length ≤ sizeLine ∧ Q (.str (i ++ j)) H) ∨ rCat x y H Q ∨ rCatA K x y H Q
theorem opr_add {X : Cx} : OpR X (binaryOp .Add) (rAdd X.K) := OpR.or op_add (OpR.or op_add_str (OpR.or op_cat op_catA))
theorem opd_add : OpD G .add (rAdd G.K) := by
  intro W Z F ρ s σ H P x y dx dy res Q rel nx ny hb hg
  unfold binD at hb
  simp only at hb
  split at hb
  · cases hb; cases nx; cases ny
    exact .inl ⟨_, _, rfl, rfl, hg.val rel (.int _)⟩
  · split at hb
    · rename_i hl
      cases hb
      cases nx with
      | str _ h1 h2 => cases ny with
        | str _ h3 h4 =>
          refine .inr (.inl ⟨_, _, rfl, rfl, hl, hg.val rel (.str _ (strOk_append h1 h3) ?_)⟩)
          show (_ ++ _ : Array Nat).size ≤ _
          rw [Array.size_append]; exact hl
    · cases hb
  · split at hb
    · rename_i hl
      cases hb
      obtain ⟨p, vs, rfl, h1, h2⟩ := nx
      obtain ⟨q, ws, rfl, h3, h4⟩ := ny
      refine .inr (.inr (.inl ⟨p, q, vs, ws, rfl, rfl, h1, h3, by rw [← h2.length, ← h4.length]; exact hl, fun z hz => hg.lst rel (h2.append h4) hz⟩))
    · cases hb
  · split at hb
    · rename_i hl
      cases hb
      cases nx with
      | tup h1 h2 => cases ny with
        | tup h3 h4 =>
          refine .inr (.inr (.inr ⟨_, _, _, _, rfl, rfl, Same.sqT rel.zs h1, Same.sqT rel.zs h3, by rw [← h2.length, ← h4.length]; exact hl, fun e => ?_, fun _ e => ?_, fun _ _ z hz => hg.tup rel (h2.append h4) hz⟩))
          · subst e; cases h2; exact hg.val rel (.tup h3 h4)
          · subst e; cases h4; rw [List.append_nil] at hg; exact hg.val rel (.tup h1 h2)
    · cases hb
  · cases hb
theorem opd_sub : OpD G .sub (rI0 fun i j => .int (i - j)) := by
  intro W Z F ρ s σ H P x y dx dy res Q rel nx ny hb hg
  simp only [binD] at hb
  split at hb
  · cases hb; cases nx; cases ny
    exact ⟨_, _, rfl, rfl, hg.val rel (.int _)⟩
  · cases hb
abbrev rMul : R2 := fun x y H Q => (rI CMul fun i j => .int (i * j)) x y H Q ∨ rRep x y H Q
theorem opr_mul {X : Cx} : OpR X (binaryOp .Mult) rMul := OpR.or op_mul op_rep
theorem DReps.rep {Z : Hp} {ρ : List Addr} {ds : List D} {vs : List V} (h : DReps G Z ρ ds vs) : ∀ n : Nat, DReps G Z ρ (List.replicate n ds).flatten (List.replicate n vs).flatten
  | 0 => .nil
  | n + 1 => by
    rw [List.replicate_succ, List.replicate_succ, List.flatten_cons, List.flatten_cons]
    exact h.append (DReps.rep h n)
theorem opd_mul : OpD G .mul rMul := by
  intro W Z F ρ s σ H P x y dx dy res Q rel nx ny hb hg
  simp only [binD] at hb
  split at hb
  · split at hb
    · rename_i hl
      cases hb; cases nx; cases ny
      exact .inl ⟨_, _, rfl, rfl, hl, hg.val rel (.int _)⟩
    · cases hb
  · split at hb
    · rename_i hl
      cases hb
      obtain ⟨p, vs, rfl, h1, h2⟩ := nx
      cases ny
      refine .inr ⟨p, _, vs, rfl, rfl, h1, by omega, by omega, by rw [← h2.length]; exact hl.2.1, fun z hz => hg.lst rel (h2.rep _) hz⟩
    · cases hb
  · cases hb
theorem opd_fdiv : OpD G .fdiv (rI CDivN fun i j => .int (i.fdiv j)) := by
  intro W Z F ρ s σ H P x y dx dy res Q rel nx ny hb hg
  simp only [binD] at hb
  split at hb
  · split at hb
    · rename_i hl
      cases hb; cases nx; cases ny
      exact ⟨_, _, rfl, rfl, hl, hg.val rel (.int _)⟩
    · cases hb
  · cases hb
theorem opd_mod : OpD G .mod (rI (fun _ j => j ≠ 0) fun i j => .int (i.fmod j)) := by
  intro W Z F ρ s σ H P x y dx dy res Q rel nx ny hb hg
  simp only [binD] at hb
  split at hb
  · split at hb
    · rename_i hl
      cases hb; cases nx; cases ny
      exact ⟨_, _, rfl, rfl, hl, hg.val rel (.int _)⟩
    · cases hb
  · cases hb
theorem opd_pow : OpD G .pow (rI CPow fun i j => .int (i ^ j.toNat)) := by
  intro W Z F ρ s σ H P x y dx dy res Q rel nx ny hb hg
  simp only [binD] at hb
  split at hb
  · split at hb
    · rename_i hl
      cases hb; cases nx; cases ny
      exact ⟨_, _, rfl, rfl, hl, hg.val rel (.int _)⟩
    · cases hb
  · cases hb
/-! #### comparisons -/
theorem vb_some {o : Option Bool} {r : R} (h : vb o = some r) : ∃ k, o = some k ∧ r = .val (.bl k) := by
  cases o with
  | none => cases h
  | some k => cases h; exact ⟨k, rfl, rfl⟩
abbrev rLt : R2 := fun x y H Q => (rI0 fun i j => .bl (decide (i < j))) x y H Q ∨ (∃ i j, x = .str i ∧ y = .str j ∧ Q (.bl (decide (i.cps.toList < j.cps.toList))) H)
theorem opr_lt {X : Cx} : OpR X (compareOp .Lt) rLt := OpR.or op_lt op_lt_str
theorem opd_lt : OpD G .lt rLt := by
  intro W Z F ρ s σ H P x y dx dy res Q rel nx ny hb hg
  obtain ⟨k, h1, rfl⟩ := vb_some hb
  unfold ltD at h1
  split at h1
  · cases h1; cases nx; cases ny; exact .inl ⟨_, _, rfl, rfl, hg.val rel (.bl _)⟩
  · cases h1; cases nx; cases ny; exact .inr ⟨_, _, rfl, rfl, hg.val rel (.bl _)⟩
  · cases h1
abbrev rGt : R2 := fun x y H Q => (rI0 fun i j => .bl (decide (j < i))) x y H Q ∨ (∃ i j, x = .str i ∧ y = .str j ∧ Q (.bl (decide (j.cps.toList < i.cps.toList))) H)
theorem opr_gt {X : Cx} : OpR X (compareOp .Gt) rGt := OpR.or op_gt op_gt_str
theorem opd_gt : OpD G .gt rGt := by
  intro W Z F ρ s σ H P x y dx dy res Q rel nx ny hb hg
  obtain ⟨k, h1, rfl⟩ := vb_some hb
  unfold ltD at h1
  split at h1
  · cases h1; cases nx; cases ny; exact .inl ⟨_, _, rfl, rfl, hg.val rel (.bl _)⟩
  · cases h1; cases nx; cases ny; exact .inr ⟨_, _, rfl, rfl, hg.val rel (.bl _)⟩
  · cases h1
theorem opd_le : OpD G .le (rI0 fun i j => .bl (decide (i ≤ j))) := by
  intro W Z F ρ s σ H P x y dx dy res Q rel nx ny hb hg
  obtain ⟨k, h1, rfl⟩ := vb_some hb
  unfold leD at h1
  split at h1
  · cases h1; cases nx; cases ny; exact ⟨_, _, rfl, rfl, hg.val rel (.bl _)⟩
  · cases h1
theorem opd_ge : OpD G .ge (rI0 fun i j => .bl (decide (j ≤ i))) := by
  intro W Z F ρ s σ H P x y dx dy res Q rel nx ny hb hg
  obtain ⟨k, h1, rfl⟩ := vb_some hb
  unfold leD at h1
  split at h1
  · cases h1; cases nx; cases ny; exact ⟨_, _, rfl, rfl, hg.val rel (.bl _)⟩
  · cases h1
theorem drep_non {Z : Hp} {ρ : List Addr} {d : D} {v : V} {H : Hp} (hf : ∀ k, d ≠ .fn k) (h : NRep G Z ρ H v d) : decide (v = .non) = isNon d := by
  cases d with
  | lst xs => obtain ⟨a, vs, rfl, _⟩ := h; rfl
  | fn k => exact absurd rfl (hf k)
  | non => cases h; rfl
  | _ => cases h; rfl
theorem opd_is : OpD G .is_ (fun x y H Q => y = .non ∧ Q (.bl (decide (x = .non))) H) := by
  intro W Z F ρ s σ H P x y dx dy res Q rel nx ny hb hg
  simp only [binD] at hb
  split at hb
  · cases ny
    refine ⟨rfl, ?_⟩
    split at hb
    · cases hb
    · rename_i hf
      rw [drep_non (fun k z => hf k z) nx]
      cases hb
      exact hg.val rel (.bl _)
  · cases hb
theorem opd_isnot : OpD G .isnot (fun x y H Q => y = .non ∧ Q (.bl (!decide (x = .non))) H) := by
  intro W Z F ρ s σ H P x y dx dy res Q rel nx ny hb hg
  simp only [binD] at hb
  split at hb
  · cases ny
    refine ⟨rfl, ?_⟩
    split at hb
    · cases hb
    · rename_i hf
      rw [drep_non (fun k z => hf k z) nx]
      cases hb
      exact hg.val rel (.bl _)
  · cases hb

/-! #### == -/
mutual
theorem DRep.dp {Z : Hp} {ρ : List Addr} : ∀ {d : D} {v : V} {p : PyData}, DRep G Z ρ d v → toPy d = some p → Dp G.K Z v p ∧ p.canLay0 = true
  | _, _, _, .non, h => by simp only [toPy, Option.some.injEq] at h; subst h; exact ⟨.non, rfl⟩
  | _, _, _, .bl b, h => by simp only [toPy, Option.some.injEq] at h; subst h; exact ⟨.bl b, rfl⟩
  | _, _, _, .int b, h => by simp only [toPy, Option.some.injEq] at h; subst h; exact ⟨.int b, rfl⟩
  | _, _, _, .str x h1 h2, h => by simp only [toPy, Option.some.injEq] at h; subst h; exact ⟨.str x, h1⟩
  | .tup xs, _, p, .tup h1 r, h => by
    simp only [toPy] at h
    cases e : toPys xs with
    | none => rw [e] at h; cases h
    | some ps =>
      rw [e] at h; cases h
      obtain ⟨h3, h4⟩ := DReps.dp r e
      exact ⟨.tup h1 h3, by simpa [PyData.canLay0] using h4⟩
  | .lst xs, _, p, .lst h1 r, h => by
    simp only [toPy] at h
    cases e : toPys xs with
    | none => rw [e] at h; cases h
    | some ps =>
      rw [e] at h; cases h
      obtain ⟨h3, h4⟩ := DReps.dp r e
      exact ⟨.lst (SqL.of h1) h3, by simpa [PyData.canLay0] using h4⟩
  | _, _, _, .klst _ _ _, h => by simp [toPy] at h
  | _, _, _, .ins _ _, h => by simp [toPy] at h
  | _, _, _, .ref _, h => by simp [toPy] at h
  | _, _, _, .fn _, h => by simp [toPy] at h
theorem DReps.dp {Z : Hp} {ρ : List Addr} : ∀ {d : List D} {v : List V} {p : List PyData}, DReps G Z ρ d v → toPys d = some p → DpAll G.K Z v p ∧ PyData.canLayAll0 p = true
  | _, _, _, .nil, h => by simp only [toPys, Option.some.injEq] at h; subst h; exact ⟨.nil, rfl⟩
  | x :: xs, _, _, .cons h1 r, h => by
    simp only [toPys] at h
    split at h
    · rename_i y ys e1 e2
      cases h
      obtain ⟨a1, a2⟩ := DRep.dp h1 e1
      obtain ⟨b1, b2⟩ := DReps.dp r e2
      exact ⟨.cons a1 b1, by simp [PyData.canLayAll0, a2, b2]⟩
    · cases h
end
mutual
theorem Dp.mono {K : PySem.W.Frag} {Z H : Hp} (e : Same Z H) : ∀ {v : V} {p : PyData}, Dp K Z v p → Dp K H v p
  | _, _, .non => .non
  | _, _, .bl b => .bl b
  | _, _, .int i => .int i
  | _, _, .str x => .str x
  | _, _, .lst h r => .lst (e.seq h) (DpAll.mono e r)
  | _, _, .tup h r => .tup (Same.sqT e h) (DpAll.mono e r)
theorem DpAll.mono {K : PySem.W.Frag} {Z H : Hp} (e : Same Z H) : ∀ {v : List V} {p : List PyData}, DpAll K Z v p → DpAll K H v p
  | _, _, .nil => .nil
  | _, _, .cons h r => .cons (Dp.mono e h) (DpAll.mono e r)
end
theorem NRep.dp {Z : Hp} {ρ : List Addr} {H : Hp} {d : D} {v : V} {p : PyData} (zs : Same Z H) (h : NRep G Z ρ H v d) (hp : toPy d = some p) : Dp G.K H v p ∧ p.canLay0 = true := by
  cases d with
  | lst xs =>
    obtain ⟨a, vs, rfl, h1, r⟩ := h
    simp only [toPy] at hp
    cases e : toPys xs with
    | none => rw [e] at hp; cases hp
    | some ps =>
      rw [e] at hp; cases hp
      obtain ⟨h3, h4⟩ := DReps.dp r e
      exact ⟨.lst (SqL.of h1) (DpAll.mono zs h3), by simpa [PyData.canLay0] using h4⟩
  | _ =>
    obtain ⟨h1, h2⟩ := DRep.dp (G := G) h hp
    exact ⟨Dp.mono zs h1, h2⟩
theorem deq_some {x y : D} {k : Bool} (h : deq x y = some k) : ∃ p q, toPy x = some p ∧ toPy y = some q ∧ p.depth ≤ 64 ∧ q.depth ≤ 64 ∧ k = p.eqv q := by
  unfold deq at h
  split at h
  · rename_i p q e1 e2
    split at h
    · rename_i hl
      cases h
      exact ⟨p, q, e1, e2, hl.1, hl.2, rfl⟩
    · cases h
  · cases h
theorem shaped_of {p : PyData} (h1 : p.canLay0 = true) (h2 : p.depth ≤ 64) : SeqAt.shaped p = true := by
  unfold SeqAt.shaped; rw [h1, decide_eq_true h2]; rfl
theorem opd_eq : OpD G .eq (rEqD G.K) := by
  intro W Z F ρ s σ H P x y dx dy res Q rel nx ny hb hg
  obtain ⟨k, h1, rfl⟩ := vb_some hb
  obtain ⟨p, q, e1, e2, l1, l2, rfl⟩ := deq_some h1
  obtain ⟨a1, a2⟩ := nx.dp rel.zs e1
  obtain ⟨b1, b2⟩ := ny.dp rel.zs e2
  exact ⟨p, q, a1, b1, shaped_of a2 l1, shaped_of b2 l2, hg.val rel (.bl _)⟩
theorem opd_ne : OpD G .ne (rNeD G.K) := by
  intro W Z F ρ s σ H P x y dx dy res Q rel nx ny hb hg
  obtain ⟨k, h1, rfl⟩ := vb_some hb
  cases e : deq dx dy with
  | none => rw [e] at h1; cases h1
  | some k' =>
    rw [e] at h1; cases h1
    obtain ⟨p, q, e1, e2, l1, l2, rfl⟩ := deq_some e
    obtain ⟨a1, a2⟩ := nx.dp rel.zs e1
    obtain ⟨b1, b2⟩ := ny.dp rel.zs e2
    exact ⟨p, q, a1, b1, shaped_of a2 l1, shaped_of b2 l2, hg.val rel (.bl _)⟩

/-! #### in -/
theorem flat_rep {Z : Hp} {ρ : List Addr} {d : D} {v : V} (h : DRep G Z ρ d v) (hf : flat d = true) : flatV v = true := by
  cases h <;> first | exact absurd hf Bool.false_ne_true | rfl
theorem eqF_rep {Z : Hp} {ρ : List Addr} {d e : D} {v w : V} (h : DRep G Z ρ d v) (h' : DRep G Z ρ e w) (hf : flat d = true) (hf' : flat e = true) : eqV v w = eqF d e := by
  cases h <;> first | exact absurd hf Bool.false_ne_true | (cases h' <;> first | exact absurd hf' Bool.false_ne_true | rfl)
theorem NRep.flat {Z : Hp} {ρ : List Addr} {H : Hp} {d : D} {v : V} (h : NRep G Z ρ H v d) (hf : Ri.flat d = true) : DRep G Z ρ d v := by
  cases d <;> first | exact absurd hf Bool.false_ne_true | exact h
theorem DReps.flats {Z : Hp} {ρ : List Addr} : ∀ {ds : List D} {vs : List V}, DReps G Z ρ ds vs → ds.all flat = true → vs.all flatV = true
  | _, _, .nil, _ => rfl
  | _, _, .cons h r, hf => by
    simp only [List.all_cons, Bool.and_eq_true] at hf ⊢
    exact ⟨flat_rep h hf.1, DReps.flats r hf.2⟩
theorem DReps.anys {Z : Hp} {ρ : List Addr} {x : D} {w : V} (hx : DRep G Z ρ x w) (hfx : flat x = true) : ∀ {ds : List D} {vs : List V}, DReps G Z ρ ds vs → ds.all flat = true → inV w vs = ds.any fun z => eqF z x
  | _, _, .nil, _ => rfl
  | _, _, .cons h r, hf => by
    simp only [List.all_cons, Bool.and_eq_true] at hf
    have := DReps.anys hx hfx r hf.2
    simp only [inV, List.any_cons] at this ⊢
    rw [this, eqF_rep h hx hf.1 hfx]
abbrev rIn2 (K : PySem.W.Frag) : R2 := fun x y H Q => (∃ i j, x = .str i ∧ y = .str j ∧ Q (.bl (!(Builtin.Str.occurrences j i 0 j.length 1).isEmpty)) H) ∨ rIn K false x y H Q
theorem opr_in {X : Cx} : OpR X (compareOp .In) (rIn2 X.K) := OpR.or op_in_str op_in_seq
theorem inD_some {x y : D} {k : Bool} (h : inD x y = some k) : (∃ a b, x = .str a ∧ y = .str b ∧ k = !(Builtin.Str.occurrences b a 0 b.length 1).isEmpty) ∨
    (∃ ys, items y = some ys ∧ flat x = true ∧ ys.all flat = true ∧ k = ys.any fun z => eqF z x) := by
  unfold inD at h
  split at h
  · cases h; exact .inl ⟨_, _, rfl, rfl, rfl⟩
  · split at h
    · rename_i ys e
      split at h
      · rename_i hf
        cases h
        simp only [Bool.and_eq_true] at hf
        exact .inr ⟨ys, e, hf.1, hf.2, rfl⟩
      · cases h
    · cases h
theorem opd_in : OpD G .in_ (rIn2 G.K) := by
  intro W Z F ρ s σ H P x y dx dy res Q rel nx ny hb hg
  obtain ⟨k, h1, rfl⟩ := vb_some hb
  rcases inD_some h1 with ⟨a, b, rfl, rfl, rfl⟩ | ⟨ys, e1, f1, f2, rfl⟩
  · cases nx; cases ny
    exact .inl ⟨_, _, rfl, rfl, hg.val rel (.bl _)⟩
  · obtain ⟨p, vs, rfl, h2, h3⟩ := ny.seq rel.zs e1
    refine .inr ⟨p, vs, rfl, h2, flat_rep (nx.flat f1) f1, h3.flats f2, ?_⟩
    rw [h3.anys (nx.flat f1) f1 f2]
    exact hg.val rel (.bl _)
abbrev rNotIn2 (K : PySem.W.Frag) : R2 := fun x y H Q => (∃ i j, x = .str i ∧ y = .str j ∧ Q (.bl (!(!(Builtin.Str.occurrences j i 0 j.length 1).isEmpty))) H) ∨ rIn K true x y H Q
theorem opr_notin {X : Cx} : OpR X (compareOp .NotIn) (rNotIn2 X.K) := OpR.or op_notin_str op_notIn_seq
theorem opd_notin : OpD G .notin (rNotIn2 G.K) := by
  intro W Z F ρ s σ H P x y dx dy res Q rel nx ny hb hg
  obtain ⟨k, h1, rfl⟩ := vb_some hb
  cases e : inD dx dy with
  | none => rw [e] at h1; cases h1
  | some k' =>
    rw [e] at h1; cases h1
    rcases inD_some e with ⟨a, b, rfl, rfl, rfl⟩ | ⟨ys, e1, f1, f2, rfl⟩
    · cases nx; cases ny
      exact .inl ⟨_, _, rfl, rfl, hg.val rel (.bl _)⟩
    · obtain ⟨p, vs, rfl, h2, h3⟩ := ny.seq rel.zs e1
      refine .inr ⟨p, vs, rfl, h2, flat_rep (nx.flat f1) f1, h3.flats f2, ?_⟩
      rw [h3.anys (nx.flat f1) f1 f2]
      exact hg.val rel (.bl _)

/-! #### subscripts -/
theorem DReps.atI {Z : Hp} {ρ : List Addr} {ds : List D} {vs : List V} {i : Int} {d : D} (h : DReps G Z ρ ds vs) (e : L2.atI ds i = some d) : ∃ v, L2.atI vs i = some v ∧ DRep G Z ρ d v := by
  unfold L2.atI at e ⊢
  rw [← h.length]
  cases q : ixN ds.length i with
  | none => rw [q] at e; cases e
  | some j =>
    rw [q] at e
    obtain ⟨v, h1, h2⟩ := h.get (i := j) e
    exact ⟨v, h1, h2⟩
theorem strOk_get {z : Str} {i : Int} {k : Nat} (h : PyData.canLay0 (.str z) = true) (e : L2.atI z.cps.toList i = some k) : PyData.canLay0 (.str ⟨#[k]⟩) = true := by
  simp only [PyData.canLay0, PyData.strOk] at h ⊢
  have hm : k ∈ z.cps.toList := by
    unfold L2.atI at e
    cases q : ixN z.cps.toList.length i with
    | none => rw [q] at e; cases e
    | some j => rw [q] at e; exact List.mem_of_getElem? e
  rw [Array.all_eq_true'] at h ⊢
  intro x hx
  have : x = k := by simpa using hx
  subst this
  exact h x (by simpa using hm)
theorem opd_ix : OpD G .ix (rIx G.K) := by
  intro W Z F ρ s σ H P x y dx dy res Q rel nx ny hb hg
  simp only [binD] at hb
  cases e : ixD dx dy with
  | none => rw [e] at hb; cases hb
  | some d =>
    rw [e] at hb; cases hb
    unfold ixD at e
    split at e
    · split at e
      · rename_i c hc
        cases e
        cases nx with
        | str _ h1 h2 =>
          cases ny
          exact .inr (.inr ⟨_, _, c, rfl, rfl, h2, hc, hg.val rel (.str _ (strOk_get h1 hc) (by show 1 ≤ sizeLine; decide))⟩)
      · cases e
    · split at e
      · rename_i xs hx
        obtain ⟨p, vs, rfl, h2, h3⟩ := nx.seq rel.zs hx
        obtain ⟨v, h4, h5⟩ := h3.atI e
        cases ny
        rcases h2 with h2 | h2
        · exact .inl ⟨p, vs, _, v, rfl, rfl, h2, h4, hg.val rel h5⟩
        · exact .inr (.inl ⟨p, vs, _, v, rfl, rfl, h2, h4, hg.val rel h5⟩)
      · cases e
    · cases e
end

/-! ### the expressions -/
section
variable {X : Cx} {G : Cfg} {W : WX} {tb : Tb} {c : CallF} {a b : Expr} {ia ib : E} {pos : Pos}
theorem ce_add (hK : G.K = X.K) (ha : CE X G W tb c a ia) (hb : CE X G W tb c b ib) : CE X G W tb c (.BinOp a .Add b pos) (.bin .add ia ib) := ce_bin ha hb (fun _ _ h1 h2 => pe_op opr_add h1 h2) (hK ▸ opd_add)
theorem ce_sub (ha : CE X G W tb c a ia) (hb : CE X G W tb c b ib) : CE X G W tb c (.BinOp a .Sub b pos) (.bin .sub ia ib) := ce_bin ha hb (fun _ _ h1 h2 => pe_op op_sub h1 h2) opd_sub
theorem ce_mul (ha : CE X G W tb c a ia) (hb : CE X G W tb c b ib) : CE X G W tb c (.BinOp a .Mult b pos) (.bin .mul ia ib) := ce_bin ha hb (fun _ _ h1 h2 => pe_op opr_mul h1 h2) opd_mul
theorem ce_fdiv (ha : CE X G W tb c a ia) (hb : CE X G W tb c b ib) : CE X G W tb c (.BinOp a .FloorDiv b pos) (.bin .fdiv ia ib) := ce_bin ha hb (fun _ _ h1 h2 => pe_op op_fdivN h1 h2) opd_fdiv
theorem ce_mod (ha : CE X G W tb c a ia) (hb : CE X G W tb c b ib) : CE X G W tb c (.BinOp a .Mod b pos) (.bin .mod ia ib) := ce_bin ha hb (fun _ _ h1 h2 => pe_op op_modN h1 h2) opd_mod
theorem ce_pow (ha : CE X G W tb c a ia) (hb : CE X G W tb c b ib) : CE X G W tb c (.BinOp a .Pow b pos) (.bin .pow ia ib) := ce_bin ha hb (fun _ _ h1 h2 => pe_op op_pow h1 h2) opd_pow
theorem ce_lt (ha : CE X G W tb c a ia) (hb : CE X G W tb c b ib) : CE X G W tb c (.Compare a [.Lt] [b] pos) (.bin .lt ia ib) := ce_bin ha hb (fun _ _ h1 h2 => pe_cmpR opr_lt h1 h2 (nomark _)) opd_lt
theorem ce_gt (ha : CE X G W tb c a ia) (hb : CE X G W tb c b ib) : CE X G W tb c (.Compare a [.Gt] [b] pos) (.bin .gt ia ib) := ce_bin ha hb (fun _ _ h1 h2 => pe_cmpR opr_gt h1 h2 (nomark _)) opd_gt
theorem ce_le (ha : CE X G W tb c a ia) (hb : CE X G W tb c b ib) : CE X G W tb c (.Compare a [.LtE] [b] pos) (.bin .le ia ib) := ce_bin ha hb (fun _ _ h1 h2 => pe_cmpR op_le h1 h2 (nomark _)) opd_le
theorem ce_ge (ha : CE X G W tb c a ia) (hb : CE X G W tb c b ib) : CE X G W tb c (.Compare a [.GtE] [b] pos) (.bin .ge ia ib) := ce_bin ha hb (fun _ _ h1 h2 => pe_cmpR op_ge h1 h2 (nomark _)) opd_ge
theorem ce_is (ha : CE X G W tb c a ia) (hb : CE X G W tb c b ib) : CE X G W tb c (.Compare a [.Is] [b] pos) (.bin .is_ ia ib) := ce_bin ha hb (fun _ _ h1 h2 => pe_cmpR op_isN h1 h2 (nomark _)) opd_is
theorem ce_isnot (ha : CE X G W tb c a ia) (hb : CE X G W tb c b ib) : CE X G W tb c (.Compare a [.IsNot] [b] pos) (.bin .isnot ia ib) := ce_bin ha hb (fun _ _ h1 h2 => pe_cmpR op_notN h1 h2 (nomark _)) opd_isnot
theorem ce_eq (hK : G.K = X.K) (hu : X.A.units + 64 < cLine) (ha : CE X G W tb c a ia) (hb : CE X G W tb c b ib) : CE X G W tb c (.Compare a [.Eq] [b] pos) (.bin .eq ia ib) := ce_bin ha hb (fun _ _ h1 h2 => pe_cmpR (op_eqD hu) h1 h2 (nomark _)) (hK ▸ opd_eq)
theorem ce_ne (hK : G.K = X.K) (hu : X.A.units + 64 < cLine) (ha : CE X G W tb c a ia) (hb : CE X G W tb c b ib) : CE X G W tb c (.Compare a [.NotEq] [b] pos) (.bin .ne ia ib) := ce_bin ha hb (fun _ _ h1 h2 => pe_cmpR (op_neD hu) h1 h2 (nomark _)) (hK ▸ opd_ne)
theorem ce_in (hK : G.K = X.K) (ha : CE X G W tb c a ia) (hb : CE X G W tb c b ib) (hm : behindInMarks .In b = false := by rfl) : CE X G W tb c (.Compare a [.In] [b] pos) (.bin .in_ ia ib) := ce_bin ha hb (fun _ _ h1 h2 => pe_cmpR opr_in h1 h2 hm) (hK ▸ opd_in)
theorem ce_notin (hK : G.K = X.K) (ha : CE X G W tb c a ia) (hb : CE X G W tb c b ib) (hm : behindInMarks .NotIn b = false := by rfl) : CE X G W tb c (.Compare a [.NotIn] [b] pos) (.bin .notin ia ib) := ce_bin ha hb (fun _ _ h1 h2 => pe_cmpR opr_notin h1 h2 hm) (hK ▸ opd_notin)
theorem ce_ix (hK : G.K = X.K) (ha : CE X G W tb c a ia) (hb : CE X G W tb c b ib) (hs : PlainIx b := by exact fun _ _ => rfl) : CE X G W tb c (.Subscript a b pos) (.bin .ix ia ib) := ce_bin ha hb (fun _ _ h1 h2 => pe_ix ix_seq h1 h2 hs) (hK ▸ opd_ix)
end
end Ri

set_option maxRecDepth 100000
/-! Ri, part F: tests, and, or, not, conditional expressions, chains. -/
namespace Ri
open PySem L2
def GoesB (G : Cfg) (W : WX) (Z F : Hp) (ρ : List Addr) (σ : L2.St) (P : List (R × V)) (res : Res Bool) (Q : Bool → Hp → Prop) : Prop :=
  match res with
  | none => False
  | some (.ok b, s') => ∀ H' Z' ρ', Same Z Z' → ρ <+: ρ' → Rel G Z' F ρ' s' σ H' P → Q b H'
  | some (.error x, s') => ∀ cls d H' Z' ρ', Same Z Z' → ρ <+: ρ' → XRep G Z' ρ' H' x cls d → Rel G Z' F ρ' s' σ H' P → W cls d σ H'
def TB (G : Cfg) (W : WX) (m : S → Res Bool) : TT := fun σ H Q => ∃ Z F ρ s P, Rel G Z F ρ s σ H P ∧ GoesB G W Z F ρ σ P (m s) Q
section
variable {G : Cfg} {W : WX} {Z Z' H H' F : Hp} {ρ ρ' : List Addr} {s : S} {σ : L2.St} {P : List (R × V)} {Q : VK} {QB : Bool → Hp → Prop}
theorem GoesB.mono {res : Res Bool} (h : GoesB G W Z F ρ σ P res QB) (e : Same Z Z') (p : ρ <+: ρ') : GoesB G W Z' F ρ' σ P res QB := by
  rcases res with _ | ⟨_ | r, s'⟩
  · exact h
  · exact fun cls d H1 Z1 ρ1 e1 p1 => h cls d H1 Z1 ρ1 (e.trans e1) (List.IsPrefix.trans p p1)
  · exact fun H1 Z1 ρ1 e1 p1 => h H1 Z1 ρ1 (e.trans e1) (List.IsPrefix.trans p p1)
/-- a test, then an expression -/
theorem goes_bindB {m : S → Res Bool} {f : Bool → S → Res R} (L : List (R × V)) (r : Rel G Z F ρ s σ H (L ++ P)) (h : Goes G W Z F ρ σ P (bd (m s) f) Q) {Q' : Bool → Hp → Prop}
    (k : ∀ b H1 s1 Z1 ρ1, Same Z Z1 → ρ <+: ρ1 → Rel G Z1 F ρ1 s1 σ H1 (L ++ P) → Goes G W Z1 F ρ1 σ P (f b s1) Q → Q' b H1) : TB G W m σ H Q' := by
  refine ⟨Z, F, ρ, s, L ++ P, r, ?_⟩
  rcases e : m s with _ | ⟨_ | a, s'⟩
  · rw [e] at h; exact h
  · rw [e] at h
    exact fun cls d H1 Z1 ρ1 e1 p1 x1 r1 => h cls d H1 Z1 ρ1 e1 p1 x1 (Rel.drop L r1)
  · rw [e] at h
    exact fun H1 Z1 ρ1 e1 p1 r1 => k a H1 s' Z1 ρ1 e1 p1 r1 (Goes.mono h e1 p1)
/-- a test, then a test -/
theorem goesB_bindB {m : S → Res Bool} {f : Bool → S → Res Bool} (r : Rel G Z F ρ s σ H P) (h : GoesB G W Z F ρ σ P (bd (m s) f) QB) {Q' : Bool → Hp → Prop}
    (k : ∀ b H1 s1 Z1 ρ1, Same Z Z1 → ρ <+: ρ1 → Rel G Z1 F ρ1 s1 σ H1 P → GoesB G W Z1 F ρ1 σ P (f b s1) QB → Q' b H1) : TB G W m σ H Q' := by
  refine ⟨Z, F, ρ, s, P, r, ?_⟩
  rcases e : m s with _ | ⟨_ | a, s'⟩
  · rw [e] at h; exact h
  · rw [e] at h; exact h
  · rw [e] at h
    exact fun H1 Z1 ρ1 e1 p1 r1 => k a H1 s' Z1 ρ1 e1 p1 r1 (GoesB.mono h e1 p1)
/-- an expression, then a test's end -/
theorem goesB_bind {m : S → Res R} {f : R → S → Res Bool} (L : List (R × V)) (r : Rel G Z F ρ s σ H (L ++ P)) (h : GoesB G W Z F ρ σ P (bd (m s) f) QB) {Q' : VK}
    (k : ∀ v H1 r1 s1 Z1 ρ1, Same Z Z1 → ρ <+: ρ1 → Rel G Z1 F ρ1 s1 σ H1 ((r1, v) :: (L ++ P)) → GoesB G W Z1 F ρ1 σ P (f r1 s1) QB → Q' v H1) : T G W m σ H Q' := by
  refine ⟨Z, F, ρ, s, L ++ P, r, ?_⟩
  rcases e : m s with _ | ⟨_ | a, s'⟩
  · rw [e] at h; exact h
  · rw [e] at h
    exact fun cls d H1 Z1 ρ1 e1 p1 x1 r1 => h cls d H1 Z1 ρ1 e1 p1 x1 (Rel.drop L r1)
  · rw [e] at h
    exact fun v H1 Z1 ρ1 e1 p1 r1 => k v H1 a s' Z1 ρ1 e1 p1 r1 (GoesB.mono h e1 p1)
theorem GoesB.done {b : Bool} (h : GoesB G W Z F ρ σ P (ok b s) QB) (r : Rel G Z F ρ s σ H P) : QB b H := h H Z ρ (Same.refl _) (List.prefix_refl _) r
end
/-- the test e is the term i -/
def CT (X : Cx) (G : Cfg) (W : WX) (tb : Tb) (c : CallF) (e : Expr) (i : E) : Prop := ∀ n, PT X e (TB G W (testR (run tb c n) i))
def CW (X : Cx) (G : Cfg) (W : WX) (tb : Tb) (c : CallF) (e : Expr) (i : E) : Prop := ∀ n, PW X e (TB G W (testR (run tb c n) i))
theorem PW.imp {X : Cx} {e : Expr} {t t' : TT} (h : PW X e t) (k : ∀ σ H Q, t' σ H Q → t σ H Q) : PW X e t' :=
  ⟨fun wh pins s σ H Q I hw => h.run wh pins s σ H Q I (k σ H Q hw)⟩
section
variable {X : Cx} {G : Cfg} {W : WX} {tb : Tb} {c : CallF} {a b d e : Expr} {ia ib id ie : E} {pos : Pos} {rest : List Expr}
theorem bd_bd {α β γ : Type} (m : Res α) (f : α → S → Res β) (g : β → S → Res γ) : bd (bd m f) g = bd m fun x s => bd (f x s) g := by rcases m with _ | ⟨_ | _, _⟩ <;> rfl
theorem binR_bd {o : Bin} {ra rb : R} {f : R → S → Res Bool} {Z F : Hp} {ρ : List Addr} {s : S} {σ : L2.St} {P : List (R × V)} {Q : Bool → Hp → Prop} (h : GoesB G W Z F ρ σ P (bd (binR o ra rb s) f) Q) :
    ∃ dx dy res, look s ra = some dx ∧ look s rb = some dy ∧ binD o dx dy = some res ∧ GoesB G W Z F ρ σ P (f res s) Q := by
  unfold binR at h
  split at h
  · rename_i dx dy e1 e2
    cases e3 : binD o dx dy with
    | none => rw [e3] at h; exact h.elim
    | some res => rw [e3] at h; exact ⟨dx, dy, res, e1, e2, e3, h⟩
  · exact h.elim
/-- the end of a test: the result is a bool -/
theorem test_end {Z F H : Hp} {ρ : List Addr} {s : S} {σ : L2.St} {P : List (R × V)} {r : R} {v : V} {QB : Bool → Hp → Prop} (rel : Rel G Z F ρ s σ H ((r, v) :: P))
    (h : GoesB G W Z F ρ σ P (tEnd r s) QB) : ∃ k, v = .bl k ∧ QB k H := by
  unfold tEnd at h
  split at h
  · rename_i k e
    have := rel.look rel.head e
    cases this
    exact ⟨k, rfl, h.done rel.pop⟩
  · exact h.elim
theorem ct_val (h : CE X G W tb c e ie) (he : ∀ whole, isTrue e X.env whole = (do let v ← whole; standAt e.pos; holding [v] (truthy v)) := by intro _; rfl) : CT X G W tb c e ie := fun n => by
  refine PT.imp (pt_val (h n) he) fun σ H Q ⟨Z, F, ρ, s, P, rel, g⟩ => ?_
  exact goesB_bind [] rel g fun v H1 r1 s1 Z1 ρ1 e1 p1 rel1 g1 => test_end rel1 g1
/-- a comparison as a test -/
theorem ct_bin {o : Bin} {r : R2} {op : CmpOp} (ha : CE X G W tb c a ia) (hb : CE X G W tb c b ib) (hop : OpR X (compareOp op) r) (ho : OpD G o r) (hm : behindInMarks op b = false) : CT X G W tb c (.Compare a [op] [b] pos) (.bin o ia ib) := fun n => by
  cases n with
  | zero => exact ⟨fun pins s σ H Q I ⟨_, _, _, _, _, _, z⟩ => z.elim⟩
  | succ n =>
    refine PT.imp (pt_cmpR hop (ha n) (hb n) hm) fun σ H Q ⟨Z, F, ρ, s, P, rel, g⟩ => ?_
    replace g : GoesB G W Z F ρ σ P (bd (bd ((run tb c n).ex ia s) fun ra s => bd ((run tb c n).ex ib s) fun rb s => binR o ra rb s) tEnd) Q := g
    rw [bd_bd] at g
    refine goesB_bind [] rel g fun x H1 ra s1 Z1 ρ1 e1 p1 r1 h1 => ?_
    rw [bd_bd] at h1
    refine goesB_bind [(ra, x)] r1 h1 fun y H2 rb s2 Z2 ρ2 e2 p2 r2 h2 => ?_
    obtain ⟨dx, dy, res, g1, g2, g3, g4⟩ := binR_bd h2
    refine ho (W := W) (Rel.drop [(rb, y), (ra, x)] r2) (r2.look r2.second g1) (r2.look r2.head g2) g3 (show Goes G W Z2 F ρ2 σ P (ok res s2) _ from fun v H' Z' ρ' e' p' r' => ?_)
    exact test_end r' (g4.mono e' p')
theorem testR_eq {F : Rec} {e : E} {s : S} : testR F e s = bd (F.ex e s) tEnd := rfl
theorem testR_and {n : Nat} {s : S} : testR (run tb c (n + 1)) (.and ia ib) s = bd (testR (run tb c n) ia s) fun k s => if k = true then testR (run tb c n) ib s else ok false s := by
  show bd (bd (testR (run tb c n) ia s) fun k s => if k = true then (run tb c n).ex ib s else ok (.val (.bl false)) s) tEnd = _
  rw [bd_bd]
  congr 1; funext k s'
  cases k <;> rfl
theorem testR_or {n : Nat} {s : S} : testR (run tb c (n + 1)) (.or ia ib) s = bd (testR (run tb c n) ia s) fun k s => if k = true then ok true s else testR (run tb c n) ib s := by
  show bd (bd (testR (run tb c n) ia s) fun k s => if k = true then ok (.val (.bl true)) s else (run tb c n).ex ib s) tEnd = _
  rw [bd_bd]
  congr 1; funext k s'
  cases k <;> rfl
theorem testR_not {n : Nat} {s : S} : testR (run tb c (n + 1)) (.un .not_ ia) s = bd (testR (run tb c n) ia s) fun k s => ok (!k) s := by
  show bd (bd ((run tb c n).ex ia s) fun ra s => unR .not_ ra s) tEnd = bd (bd ((run tb c n).ex ia s) tEnd) _
  rw [bd_bd, bd_bd]
  congr 1; funext r s'
  unfold unR tEnd
  cases look s' r with
  | none => rfl
  | some d => cases d <;> rfl
theorem cw0 : PW X e (TB G W (testR (run tb c 0) ie)) := ⟨fun wh pins s σ H Q I ⟨_, _, _, _, _, _, z⟩ => z.elim⟩
theorem ct0 : PT X e (TB G W (testR (run tb c 0) ie)) := ⟨fun pins s σ H Q I ⟨_, _, _, _, _, _, z⟩ => z.elim⟩
theorem CW.ct (h : CW X G W tb c e ie) : CT X G W tb c e ie := fun n => (h n).pt
theorem cw_and1 (h : CT X G W tb c a ia) : CW X G W tb c (.BoolOp .And [a] pos) ia := fun n => pw_and1 (h n)
theorem cw_or1 (h : CT X G W tb c a ia) : CW X G W tb c (.BoolOp .Or [a] pos) ia := fun n => pw_or1 (h n)
theorem cw_and (ha : CT X G W tb c a ia) (hb : CW X G W tb c (.BoolOp .And (b :: rest) pos) ib) : CW X G W tb c (.BoolOp .And (a :: b :: rest) pos) (.and ia ib) := fun n => by
  cases n with
  | zero => exact cw0
  | succ n =>
    refine PW.imp (pw_and (ha n) (hb n)) fun σ H Q ⟨Z, F, ρ, s, P, rel, g⟩ => ?_
    rw [testR_and] at g
    refine goesB_bindB rel g fun k H1 s1 Z1 ρ1 e1 p1 r1 g1 => ?_
    cases k with
    | true => exact ⟨Z1, F, ρ1, s1, P, r1, g1⟩
    | false => exact g1.done r1
theorem cw_or (ha : CT X G W tb c a ia) (hb : CW X G W tb c (.BoolOp .Or (b :: rest) pos) ib) : CW X G W tb c (.BoolOp .Or (a :: b :: rest) pos) (.or ia ib) := fun n => by
  cases n with
  | zero => exact cw0
  | succ n =>
    refine PW.imp (pw_or (ha n) (hb n)) fun σ H Q ⟨Z, F, ρ, s, P, rel, g⟩ => ?_
    rw [testR_or] at g
    refine goesB_bindB rel g fun k H1 s1 Z1 ρ1 e1 p1 r1 g1 => ?_
    cases k with
    | false => exact ⟨Z1, F, ρ1, s1, P, r1, g1⟩
    | true => exact g1.done r1
theorem ct_not (ha : CT X G W tb c a ia) : CT X G W tb c (.UnaryOp .Not a pos) (.un .not_ ia) := fun n => by
  cases n with
  | zero => exact ct0
  | succ n =>
    refine PT.imp (pt_not (ha n)) fun σ H Q ⟨Z, F, ρ, s, P, rel, g⟩ => ?_
    rw [testR_not] at g
    exact goesB_bindB rel g fun k H1 s1 Z1 ρ1 e1 p1 r1 g1 => g1.done r1
theorem ct_eq (hK : G.K = X.K) (hu : X.A.units + 64 < cLine) (ha : CE X G W tb c a ia) (hb : CE X G W tb c b ib) : CT X G W tb c (.Compare a [.Eq] [b] pos) (.bin .eq ia ib) := ct_bin ha hb (op_eqD hu) (hK ▸ opd_eq) (nomark _)
theorem ct_ne (hK : G.K = X.K) (hu : X.A.units + 64 < cLine) (ha : CE X G W tb c a ia) (hb : CE X G W tb c b ib) : CT X G W tb c (.Compare a [.NotEq] [b] pos) (.bin .ne ia ib) := ct_bin ha hb (op_neD hu) (hK ▸ opd_ne) (nomark _)
theorem ct_lt (ha : CE X G W tb c a ia) (hb : CE X G W tb c b ib) : CT X G W tb c (.Compare a [.Lt] [b] pos) (.bin .lt ia ib) := ct_bin ha hb opr_lt opd_lt (nomark _)
theorem ct_gt (ha : CE X G W tb c a ia) (hb : CE X G W tb c b ib) : CT X G W tb c (.Compare a [.Gt] [b] pos) (.bin .gt ia ib) := ct_bin ha hb opr_gt opd_gt (nomark _)
theorem ct_le (ha : CE X G W tb c a ia) (hb : CE X G W tb c b ib) : CT X G W tb c (.Compare a [.LtE] [b] pos) (.bin .le ia ib) := ct_bin ha hb op_le opd_le (nomark _)
theorem ct_ge (ha : CE X G W tb c a ia) (hb : CE X G W tb c b ib) : CT X G W tb c (.Compare a [.GtE] [b] pos) (.bin .ge ia ib) := ct_bin ha hb op_ge opd_ge (nomark _)
theorem ct_is (ha : CE X G W tb c a ia) (hb : CE X G W tb c b ib) : CT X G W tb c (.Compare a [.Is] [b] pos) (.bin .is_ ia ib) := ct_bin ha hb op_isN opd_is (nomark _)
theorem ct_isnot (ha : CE X G W tb c a ia) (hb : CE X G W tb c b ib) : CT X G W tb c (.Compare a [.IsNot] [b] pos) (.bin .isnot ia ib) := ct_bin ha hb op_notN opd_isnot (nomark _)
theorem ct_in (hK : G.K = X.K) (ha : CE X G W tb c a ia) (hb : CE X G W tb c b ib) (hm : behindInMarks .In b = false := by rfl) : CT X G W tb c (.Compare a [.In] [b] pos) (.bin .in_ ia ib) := ct_bin ha hb opr_in (hK ▸ opd_in) hm
theorem ct_notin (hK : G.K = X.K) (ha : CE X G W tb c a ia) (hb : CE X G W tb c b ib) (hm : behindInMarks .NotIn b = false := by rfl) : CT X G W tb c (.Compare a [.NotIn] [b] pos) (.bin .notin ia ib) := ct_bin ha hb opr_notin (hK ▸ opd_notin) hm

/-! ### as values -/
theorem ce_one {op} (h : CE X G W tb c a ia) : CE X G W tb c (.BoolOp op [a] pos) ia := fun n => pe_one (h n)
/-- testR of a by its value -/
theorem goes_test {F : Rec} {f : Bool → S → Res R} {Z Fr H : Hp} {ρ : List Addr} {s : S} {σ : L2.St} {P : List (R × V)} {Q Q' : VK} (rel : Rel G Z Fr ρ s σ H P) (h : Goes G W Z Fr ρ σ P (bd (testR F ia s) f) Q)
    (k : ∀ b H1 s1 Z1 ρ1, Same Z Z1 → ρ <+: ρ1 → Rel G Z1 Fr ρ1 s1 σ H1 P → Goes G W Z1 Fr ρ1 σ P (f b s1) Q → Q' (.bl b) H1) : T G W (F.ex ia) σ H Q' := by
  rw [testR_eq, bd_bd] at h
  refine goes_bind [] rel h fun v H1 r1 s1 Z1 ρ1 e1 p1 rel1 g1 => ?_
  unfold tEnd at g1
  split at g1
  · rename_i b e
    have := rel1.look rel1.head e
    cases this
    exact k b H1 s1 Z1 ρ1 e1 p1 rel1.pop g1
  · exact g1.elim
theorem ce_and (ha : CE X G W tb c a ia) (hb : CE X G W tb c (.BoolOp .And (b :: rest) pos) ib) : CE X G W tb c (.BoolOp .And (a :: b :: rest) pos) (.and ia ib) := by
  refine ce_of (fun n => pe_and (ha n) (hb n)) fun n σ H Q ⟨Z, F, ρ, s, P, rel, g⟩ => ?_
  refine goes_test rel g fun k H1 s1 Z1 ρ1 e1 p1 r1 g1 => ⟨k, rfl, ?_⟩
  cases k with
  | true => exact ⟨Z1, F, ρ1, s1, P, r1, g1⟩
  | false => exact Goes.val g1 r1 (.bl _)
theorem ce_or (ha : CE X G W tb c a ia) (hb : CE X G W tb c (.BoolOp .Or (b :: rest) pos) ib) : CE X G W tb c (.BoolOp .Or (a :: b :: rest) pos) (.or ia ib) := by
  refine ce_of (fun n => pe_or (ha n) (hb n)) fun n σ H Q ⟨Z, F, ρ, s, P, rel, g⟩ => ?_
  refine goes_test rel g fun k H1 s1 Z1 ρ1 e1 p1 r1 g1 => ⟨k, rfl, ?_⟩
  cases k with
  | false => exact ⟨Z1, F, ρ1, s1, P, r1, g1⟩
  | true => exact Goes.val g1 r1 (.bl _)
theorem ce_not (ha : CE X G W tb c a ia) : CE X G W tb c (.UnaryOp .Not a pos) (.un .not_ ia) := by
  refine ce_of (fun n => pe_not (ha n)) fun n σ H Q ⟨Z, F, ρ, s, P, rel, g⟩ => ?_
  refine goes_bind [] rel g fun v H1 r1 s1 Z1 ρ1 e1 p1 rel1 g1 => ?_
  unfold unR at g1
  split at g1
  · rename_i x e
    have nx := rel1.look rel1.head e
    cases x with
    | bl k => cases nx; exact ⟨k, rfl, Goes.val g1 rel1.pop (.bl _)⟩
    | _ => exact g1.elim
  · exact g1.elim
theorem ce_neg (ha : CE X G W tb c a ia) : CE X G W tb c (.UnaryOp .USub a pos) (.un .neg ia) := by
  refine ce_of (fun n => pe_un un_neg (ha n)) fun n σ H Q ⟨Z, F, ρ, s, P, rel, g⟩ => ?_
  refine goes_bind [] rel g fun v H1 r1 s1 Z1 ρ1 e1 p1 rel1 g1 => ?_
  unfold unR at g1
  split at g1
  · rename_i x e
    have nx := rel1.look rel1.head e
    cases x with
    | int k => cases nx; exact ⟨k, rfl, Goes.val g1 rel1.pop (.int _)⟩
    | _ => exact g1.elim
  · exact g1.elim
theorem ce_ite (hd : CT X G W tb c d id) (ha : CE X G W tb c a ia) (hb : CE X G W tb c b ib) : CE X G W tb c (.IfExp d a b pos) (.ite id ia ib) := by
  refine ce_of (fun n => pe_ifExp (hd n) (ha n) (hb n)) fun n σ H Q ⟨Z, F, ρ, s, P, rel, g⟩ => ?_
  refine goes_bindB [] rel g fun k H1 s1 Z1 ρ1 e1 p1 r1 g1 => ?_
  cases k with
  | true => exact ⟨Z1, F, ρ1, s1, P, r1, g1⟩
  | false => exact ⟨Z1, F, ρ1, s1, P, r1, g1⟩
/-! ### chains -/
theorem goes_bin {o : Bin} {ra rb : R} {f : R → S → Res R} {Z F : Hp} {ρ : List Addr} {s : S} {σ : L2.St} {P : List (R × V)} {Q : VK} (h : Goes G W Z F ρ σ P (bd (binR o ra rb s) f) Q) :
    ∃ dx dy res, look s ra = some dx ∧ look s rb = some dy ∧ binD o dx dy = some res ∧ Goes G W Z F ρ σ P (f res s) Q := by
  unfold binR at h
  split at h
  · rename_i dx dy e1 e2
    cases e3 : binD o dx dy with
    | none => rw [e3] at h; exact h.elim
    | some res => rw [e3] at h; exact ⟨dx, dy, res, e1, e2, e3, h⟩
  · exact h.elim
theorem chain_read {o p : Bin} {r r' : R2} {n : Nat} {σ : L2.St} {H : Hp} {Q : VK} (ho : OpD G o r) (ho' : OpD G p r') (h : T G W (stepE (run tb c n) tb (.chain o p ia ib id)) σ H Q) :
    tChain r r' (T G W ((run tb c n).ex ia)) (T G W ((run tb c n).ex ib)) (T G W ((run tb c n).ex id)) σ H Q := by
  obtain ⟨Z, F, ρ, s, P, rel, g⟩ := h
  refine goes_bind [] rel g fun x H1 ra s1 Z1 ρ1 e1 p1 r1 h1 => ?_
  refine goes_bind [(ra, x)] r1 h1 fun y H2 rb s2 Z2 ρ2 e2 p2 r2 h2 => ?_
  obtain ⟨dx, dy, res, g1, g2, g3, g4⟩ := goes_bin h2
  refine ho (W := W) (P := (rb, y) :: P) r2.pop2 (r2.look r2.second g1) (r2.look r2.head g2) g3 (show Goes G W Z2 F ρ2 σ ((rb, y) :: P) (ok res s2) _ from fun v H' Z' ρ' e' p' r' => ?_)
  replace g4 := g4.mono e' p'
  unfold chainR at g4
  split at g4
  · have := r'.head; cases this
    refine ⟨true, rfl, ?_⟩
    rw [if_pos rfl]
    refine goes_bind [(rb, y)] r'.pop g4 fun z H3 rc s3 Z3 ρ3 e3 p3 r3 h3 => ?_
    obtain ⟨dx', dy', res', k1, k2, k3, k4⟩ := binR_some h3
    exact ho' (Rel.drop [(rc, z), (rb, y)] r3) (r3.look r3.second k1) (r3.look r3.head k2) k3 k4
  · have := r'.head; cases this
    refine ⟨false, rfl, ?_⟩
    rw [if_neg Bool.false_ne_true]
    exact Goes.val g4 r'.pop.pop (.bl _)
  · exact g4.elim
theorem ce_chain {o p : Bin} {op op' : CmpOp} {r r' : R2} (ha : CE X G W tb c a ia) (hb : CE X G W tb c b ib) (hd : CE X G W tb c d id) (hop : OpR X (compareOp op) r) (ho : OpD G o r) (hop' : OpR X (compareOp op') r') (ho' : OpD G p r')
    (hm : lastMarks [op, op'] [b, d] = false := by with_unfolding_all rfl) : CE X G W tb c (.Compare a [op, op'] [b, d] pos) (.chain o p ia ib id) :=
  ce_of (fun n => pe_chain hop hop' (ha n) (hb n) (hd n) hm) fun n σ H Q h => chain_read ho ho' h
theorem ct_of {t : Nat → TE} (h : ∀ n, PT X e (tTest (t n))) (k : ∀ n σ H Q, T G W (stepE (run tb c n) tb ie) σ H Q → t n σ H Q) : CT X G W tb c e ie := fun n => by
  cases n with
  | zero => exact ct0
  | succ n =>
    refine PT.imp (h n) fun σ H Q ⟨Z, F, ρ, s, P, rel, g⟩ => k n σ H _ ?_
    exact goesB_bind (m := stepE (run tb c n) tb ie) [] rel g fun v H1 r1 s1 Z1 ρ1 e1 p1 rel1 g1 => test_end rel1 g1
theorem ct_chain {o p : Bin} {op op' : CmpOp} {r r' : R2} (ha : CE X G W tb c a ia) (hb : CE X G W tb c b ib) (hd : CE X G W tb c d id) (hop : OpR X (compareOp op) r) (ho : OpD G o r) (hop' : OpR X (compareOp op') r') (ho' : OpD G p r')
    (hm : lastMarks [op, op'] [b, d] = false := by with_unfolding_all rfl) : CT X G W tb c (.Compare a [op, op'] [b, d] pos) (.chain o p ia ib id) :=
  ct_of (fun n => pt_chain hop hop' (ha n) (hb n) (hd n) hm) fun n σ H Q h => chain_read ho ho' h
theorem ce_lele (ha : CE X G W tb c a ia) (hb : CE X G W tb c b ib) (hd : CE X G W tb c d id) : CE X G W tb c (.Compare a [.LtE, .LtE] [b, d] pos) (.chain .le .le ia ib id) := ce_chain ha hb hd op_le opd_le op_le opd_le (nomark d (op := .LtE))
theorem ct_lele (ha : CE X G W tb c a ia) (hb : CE X G W tb c b ib) (hd : CE X G W tb c d id) : CT X G W tb c (.Compare a [.LtE, .LtE] [b, d] pos) (.chain .le .le ia ib id) := ct_chain ha hb hd op_le opd_le op_le opd_le (nomark d (op := .LtE))
theorem ce_lelt (ha : CE X G W tb c a ia) (hb : CE X G W tb c b ib) (hd : CE X G W tb c d id) : CE X G W tb c (.Compare a [.LtE, .Lt] [b, d] pos) (.chain .le .lt ia ib id) := ce_chain ha hb hd op_le opd_le opr_lt opd_lt (nomark d (op := .Lt))
theorem ct_lelt (ha : CE X G W tb c a ia) (hb : CE X G W tb c b ib) (hd : CE X G W tb c d id) : CT X G W tb c (.Compare a [.LtE, .Lt] [b, d] pos) (.chain .le .lt ia ib id) := ct_chain ha hb hd op_le opd_le opr_lt opd_lt (nomark d (op := .Lt))
end
end Ri

set_option maxRecDepth 100000
/-! Ri, part G: argument lists, displays, slices, built-in functions. -/
namespace Ri
open PySem L2
section
variable {G : Cfg} {W : WX} {Z Z' H H' F : Hp} {ρ ρ' : List Addr} {s : S} {σ : L2.St} {P : List (R × V)} {Q : VK}
/-- any result: what is asked of it -/
def GoesX {α : Type} (G : Cfg) (W : WX) (Z F : Hp) (ρ : List Addr) (σ : L2.St) (P : List (R × V)) (res : Res α) (K : α → S → Hp → Hp → List Addr → Prop) : Prop :=
  match res with
  | none => False
  | some (.ok a, s') => ∀ H' Z' ρ', Same Z Z' → ρ <+: ρ' → K a s' H' Z' ρ'
  | some (.error x, s') => ∀ cls d H' Z' ρ', Same Z Z' → ρ <+: ρ' → XRep G Z' ρ' H' x cls d → Rel G Z' F ρ' s' σ H' P → W cls d σ H'
/-- arguments, held -/
def TAr (G : Cfg) (W : WX) (m : S → Res (List R)) : TA := fun σ H Q => ∃ Z F ρ s P, Rel G Z F ρ s σ H P ∧
  GoesX G W Z F ρ σ P (m s) fun rs s' H' Z' ρ' => ∀ vs, rs.length = vs.length → Rel G Z' F ρ' s' σ H' ((rs.zip vs).reverse ++ P) → Q vs H'
/-- items of a display, as values -/
def TV (G : Cfg) (W : WX) (m : S → Res (List D)) : TA := fun σ H Q => ∃ Z F ρ s P, Rel G Z F ρ s σ H P ∧
  GoesX G W Z F ρ σ P (m s) fun ds s' H' Z' ρ' => ∀ vs, DReps G Z' ρ' ds vs → Rel G Z' F ρ' s' σ H' P → Q vs H'
theorem GoesX.mono {α : Type} {res : Res α} {K : α → S → Hp → Hp → List Addr → Prop} (h : GoesX G W Z F ρ σ P res K) (e : Same Z Z') (p : ρ <+: ρ') : GoesX G W Z' F ρ' σ P res K := by
  rcases res with _ | ⟨_ | r, s'⟩
  · exact h
  · exact fun cls d H1 Z1 ρ1 e1 p1 => h cls d H1 Z1 ρ1 (e.trans e1) (List.IsPrefix.trans p p1)
  · exact fun H1 Z1 ρ1 e1 p1 => h H1 Z1 ρ1 (e.trans e1) (List.IsPrefix.trans p p1)
/-- an expression ahead of anything -/
theorem goesX_bind {α : Type} {m : S → Res R} {f : R → S → Res α} {K : α → S → Hp → Hp → List Addr → Prop} (L : List (R × V)) (r : Rel G Z F ρ s σ H (L ++ P)) (h : GoesX G W Z F ρ σ P (bd (m s) f) K) {Q' : VK}
    (k : ∀ v H1 r1 s1 Z1 ρ1, Same Z Z1 → ρ <+: ρ1 → Rel G Z1 F ρ1 s1 σ H1 ((r1, v) :: (L ++ P)) → GoesX G W Z1 F ρ1 σ P (f r1 s1) K → Q' v H1) : T G W m σ H Q' := by
  refine ⟨Z, F, ρ, s, L ++ P, r, ?_⟩
  rcases e : m s with _ | ⟨_ | a, s'⟩
  · rw [e] at h; exact h
  · rw [e] at h
    exact fun cls d H1 Z1 ρ1 e1 p1 x1 r1 => h cls d H1 Z1 ρ1 e1 p1 x1 (Rel.drop L r1)
  · rw [e] at h
    exact fun v H1 Z1 ρ1 e1 p1 r1 => k v H1 a s' Z1 ρ1 e1 p1 r1 (GoesX.mono h e1 p1)
theorem goesX_args {α : Type} {m : S → Res (List R)} {f : List R → S → Res α} {K : α → S → Hp → Hp → List Addr → Prop} (L : List (R × V)) (r : Rel G Z F ρ s σ H (L ++ P)) (h : GoesX G W Z F ρ σ P (bd (m s) f) K) {Q' : List V → Hp → Prop}
    (k : ∀ vs H1 rs s1 Z1 ρ1, Same Z Z1 → ρ <+: ρ1 → rs.length = vs.length → Rel G Z1 F ρ1 s1 σ H1 ((rs.zip vs).reverse ++ (L ++ P)) → GoesX G W Z1 F ρ1 σ P (f rs s1) K → Q' vs H1) : TAr G W m σ H Q' := by
  refine ⟨Z, F, ρ, s, L ++ P, r, ?_⟩
  rcases e : m s with _ | ⟨_ | a, s'⟩
  · rw [e] at h; exact h
  · rw [e] at h
    exact fun cls d H1 Z1 ρ1 e1 p1 x1 r1 => h cls d H1 Z1 ρ1 e1 p1 x1 (Rel.drop L r1)
  · rw [e] at h
    exact fun H1 Z1 ρ1 e1 p1 vs hl r1 => k vs H1 a s' Z1 ρ1 e1 p1 hl r1 (GoesX.mono h e1 p1)
theorem goesX_vals {α : Type} {m : S → Res (List D)} {f : List D → S → Res α} {K : α → S → Hp → Hp → List Addr → Prop} (L : List (R × V)) (r : Rel G Z F ρ s σ H (L ++ P)) (h : GoesX G W Z F ρ σ P (bd (m s) f) K) {Q' : List V → Hp → Prop}
    (k : ∀ vs H1 ds s1 Z1 ρ1, Same Z Z1 → ρ <+: ρ1 → DReps G Z1 ρ1 ds vs → Rel G Z1 F ρ1 s1 σ H1 (L ++ P) → GoesX G W Z1 F ρ1 σ P (f ds s1) K → Q' vs H1) : TV G W m σ H Q' := by
  refine ⟨Z, F, ρ, s, L ++ P, r, ?_⟩
  rcases e : m s with _ | ⟨_ | a, s'⟩
  · rw [e] at h; exact h
  · rw [e] at h
    exact fun cls d H1 Z1 ρ1 e1 p1 x1 r1 => h cls d H1 Z1 ρ1 e1 p1 x1 (Rel.drop L r1)
  · rw [e] at h
    exact fun H1 Z1 ρ1 e1 p1 vs hd r1 => k vs H1 a s' Z1 ρ1 e1 p1 hd r1 (GoesX.mono h e1 p1)
/-- an expression's run, as any -/
theorem Goes.x {res : Res R} (h : Goes G W Z F ρ σ P res Q) : GoesX G W Z F ρ σ P res fun r s' H' Z' ρ' => ∀ v, Rel G Z' F ρ' s' σ H' ((r, v) :: P) → Q v H' := by
  rcases res with _ | ⟨_ | r, s'⟩
  · exact h
  · exact h
  · exact fun H1 Z1 ρ1 e1 p1 v r1 => h v H1 Z1 ρ1 e1 p1 r1
theorem GoesX.g {res : Res R} (h : GoesX G W Z F ρ σ P res fun r s' H' Z' ρ' => ∀ v, Rel G Z' F ρ' s' σ H' ((r, v) :: P) → Q v H') : Goes G W Z F ρ σ P res Q := by
  rcases res with _ | ⟨_ | r, s'⟩
  · exact h
  · exact h
  · exact fun v H1 Z1 ρ1 e1 p1 r1 => h H1 Z1 ρ1 e1 p1 v r1
theorem Rel.mem {L : List (R × V)} {r : R} {v : V} (rel : Rel G Z F ρ s σ H L) (h : (r, v) ∈ L) : PRep G Z ρ H s.sl σ v r := by
  obtain ⟨i, hi⟩ := List.mem_iff_getElem?.mp h
  exact rel.pd i r v hi
/-- a held result becomes a value -/
theorem goes_freeze {r : R} {v : V} {d : D} {s' : S} (rel : Rel G Z F ρ s σ H ((r, v) :: P)) (h : freeze r s = some (.ok d, s')) : ∃ Z', Same Z Z' ∧ Rel G Z' F ρ s' σ H ((.val d, v) :: P) := by
  cases r with
  | val d' => cases h; exact ⟨Z, Same.refl _, rel⟩
  | own c =>
    cases h
    obtain ⟨a, o, e, h1, h2⟩ := rel.head
    simp only at e
    subst e
    obtain ⟨r1, e1⟩ := rel.freeze rfl h1 h2
    exact ⟨_, e1, r1⟩
  | slot i =>
    simp only [freeze] at h
    split at h
    · rename_i d' e
      cases h
      have h1 : σ[i]? = some (some v) := rel.head
      obtain ⟨v', h3, h4⟩ := rel.sl i _ e
      rw [h1] at h3; cases h3
      exact ⟨Z, Same.refl _, rel.pop.pushVal h4⟩
    · rename_i c e
      cases h
      have h1 : σ[i]? = some (some v) := rel.head
      obtain ⟨a, o, g1, g2, g3, g4, g5⟩ := rel.pop.freezeSlot e
      rw [h1] at g1; cases g1
      exact ⟨_, g3, g4.pushVal g5⟩
    · cases h
theorem freeze_ok {r : R} {s : S} : (∃ d s', freeze r s = some (.ok d, s')) ∨ freeze r s = none := by
  cases r with
  | val d => exact .inl ⟨_, _, rfl⟩
  | own c => exact .inl ⟨_, _, rfl⟩
  | slot i =>
    simp only [freeze]
    split
    · exact .inl ⟨_, _, rfl⟩
    · exact .inl ⟨_, _, rfl⟩
    · exact .inr rfl
theorem goesX_freeze {α : Type} {r : R} {v : V} {f : D → S → Res α} {K : α → S → Hp → Hp → List Addr → Prop} {L : List (R × V)} (rel : Rel G Z F ρ s σ H ((r, v) :: L)) (h : GoesX G W Z F ρ σ P (bd (freeze r s) f) K) :
    ∃ d s' Z', Same Z Z' ∧ Rel G Z' F ρ s' σ H ((.val d, v) :: L) ∧ GoesX G W Z' F ρ σ P (f d s') K := by
  rcases freeze_ok (r := r) (s := s) with ⟨d, s', e⟩ | e
  · obtain ⟨Z', e1, r1⟩ := goes_freeze rel e
    rw [e] at h
    exact ⟨d, s', Z', e1, r1, GoesX.mono h e1 (List.prefix_refl _)⟩
  · rw [e] at h; exact h.elim
end
theorem PA.imp {X : Cx} {es : List Expr} {t t' : TA} (h : PA X es t) (k : ∀ σ H Q, t' σ H Q → t σ H Q) : PA X es t' :=
  ⟨fun pos pins s σ H Q I hw => h.run pos pins s σ H Q I (k σ H Q hw)⟩
/-- arguments -/
def CA (X : Cx) (G : Cfg) (W : WX) (tb : Tb) (c : CallF) (es : List Expr) (is : List E) : Prop := ∀ n, PA X es (TAr G W (exs (run tb c n) is))
/-- arguments that become values -/
def CDs (X : Cx) (G : Cfg) (W : WX) (tb : Tb) (c : CallF) (es : List Expr) (is : List E) : Prop := ∀ n, PA X es (TV G W (exDs (run tb c n) is))
/-- a display's items -/
def CV (X : Cx) (G : Cfg) (W : WX) (tb : Tb) (c : CallF) (es : List Expr) (is : List (Bool × E)) : Prop := ∀ n, PA X es (TV G W (exStar (run tb c n) is))
section
variable {X : Cx} {G : Cfg} {W : WX} {tb : Tb} {c : CallF} {a b d e : Expr} {ia ib id ie : E} {pos p : Pos} {es : List Expr} {is : List E} {iss : List (Bool × E)}
theorem ca_nil : CA X G W tb c [] [] := fun n => by
  refine PA.imp pa_nil fun σ H Q ⟨Z, F, ρ, s, P, rel, g⟩ => ?_
  exact g H Z ρ (Same.refl _) (List.prefix_refl _) [] rfl rel
theorem ca_cons (he : CE X G W tb c e ie) (hr : CA X G W tb c es is) (hs : starEach (e :: es) X.env = (false, eval e X.env) :: starEach es X.env := by rfl) : CA X G W tb c (e :: es) (ie :: is) := fun n => by
  refine PA.imp (pa_cons (he n) (hr n) hs) fun σ H Q ⟨Z, F, ρ, s, P, rel, g⟩ => ?_
  refine goesX_bind [] rel g fun v H1 r1 s1 Z1 ρ1 e1 p1 rel1 g1 => ?_
  refine goesX_args [(r1, v)] rel1 g1 fun vs H2 rs s2 Z2 ρ2 e2 p2 hl rel2 g2 => ?_
  refine g2 H2 Z2 ρ2 (Same.refl _) (List.prefix_refl _) (v :: vs) (by simp [hl]) ?_
  rw [List.zip_cons_cons, List.reverse_cons, List.append_assoc]
  exact rel2
theorem cds_nil : CDs X G W tb c [] [] := fun n => by
  refine PA.imp pa_nil fun σ H Q ⟨Z, F, ρ, s, P, rel, g⟩ => ?_
  exact g H Z ρ (Same.refl _) (List.prefix_refl _) [] .nil rel
theorem cds_cons (he : CE X G W tb c e ie) (hr : CDs X G W tb c es is) (hs : starEach (e :: es) X.env = (false, eval e X.env) :: starEach es X.env := by rfl) : CDs X G W tb c (e :: es) (ie :: is) := fun n => by
  refine PA.imp (pa_cons (he n) (hr n) hs) fun σ H Q ⟨Z, F, ρ, s, P, rel, g⟩ => ?_
  replace g : GoesX G W Z F ρ σ P (bd (bd ((run tb c n).ex ie s) freeze) fun r s => bd (exDs (run tb c n) is s) fun rs s => ok (r :: rs) s) _ := g
  rw [bd_bd] at g
  refine goesX_bind [] rel g fun v H1 r1 s1 Z1 ρ1 e1 p1 rel1 g1 => ?_
  obtain ⟨dd, s2, Z2, e2, rel2, g2⟩ := goesX_freeze rel1 g1
  refine goesX_vals [] rel2.pop g2 fun vs H2 ds s3 Z3 ρ3 e3 p3 hd rel3 g3 => ?_
  exact g3 H2 Z3 ρ3 (Same.refl _) (List.prefix_refl _) (v :: vs) (.cons (DRep.mono e3 p3 rel2.head) hd) rel3
theorem cv_nil : CV X G W tb c [] [] := fun n => by
  refine PA.imp pa_nil fun σ H Q ⟨Z, F, ρ, s, P, rel, g⟩ => ?_
  exact g H Z ρ (Same.refl _) (List.prefix_refl _) [] .nil rel
theorem cv_cons (he : CE X G W tb c e ie) (hr : CV X G W tb c es iss) (hs : starEach (e :: es) X.env = (false, eval e X.env) :: starEach es X.env := by rfl) : CV X G W tb c (e :: es) ((false, ie) :: iss) := fun n => by
  refine PA.imp (pa_cons (he n) (hr n) hs) fun σ H Q ⟨Z, F, ρ, s, P, rel, g⟩ => ?_
  replace g : GoesX G W Z F ρ σ P (bd (bd ((run tb c n).ex ie s) freeze) fun r s => bd (exStar (run tb c n) iss s) fun rs s => ok (r :: rs) s) _ := g
  rw [bd_bd] at g
  refine goesX_bind [] rel g fun v H1 r1 s1 Z1 ρ1 e1 p1 rel1 g1 => ?_
  obtain ⟨dd, s2, Z2, e2, rel2, g2⟩ := goesX_freeze rel1 g1
  refine goesX_vals [] rel2.pop g2 fun vs H2 ds s3 Z3 ρ3 e3 p3 hd rel3 g3 => ?_
  exact g3 H2 Z3 ρ3 (Same.refl _) (List.prefix_refl _) (v :: vs) (.cons (DRep.mono e3 p3 rel2.head) hd) rel3
theorem cv_star (hK : G.K = X.K) (he : CE X G W tb c e ie) (hr : CV X G W tb c es iss) (hs : starEach (.Starred e p :: es) X.env = (true, eval e X.env) :: starEach es X.env := by rfl) : CV X G W tb c (.Starred e p :: es) ((true, ie) :: iss) := fun n => by
  refine PA.imp (StX.pa_star (he n) (hr n) hs) fun σ H Q ⟨Z, F, ρ, s, P, rel, g⟩ => ?_
  refine goesX_bind [] rel g fun v H1 r1 s1 Z1 ρ1 e1 p1 rel1 g1 => ?_
  cases q : (look s1 r1).bind items with
  | none => rw [q] at g1; exact g1.elim
  | some xs =>
    rw [q] at g1
    cases q1 : look s1 r1 with
    | none => rw [q1] at q; cases q
    | some x =>
      rw [q1] at q
      obtain ⟨a, vs, rfl, h2, h3⟩ := (rel1.look rel1.head q1).seq rel1.zs q
      rw [hK] at h2
      refine ⟨a, vs, rfl, h2.symm, ?_⟩
      replace g1 : GoesX G W Z1 F ρ1 σ P (bd (exStar (run tb c n) iss s1) fun ds s => ok (xs ++ ds) s) _ := g1
      refine goesX_vals [] rel1.pop g1 fun ws H2 ds s3 Z3 ρ3 e3 p3 hd rel3 g3 => ?_
      exact g3 H2 Z3 ρ3 (Same.refl _) (List.prefix_refl _) (vs ++ ws) ((h3.mono e3 p3).append hd) rel3
theorem ce_tup {x1} (h : CV X G W tb c es iss) : CE X G W tb c (.Tuple es x1 pos) (.tup iss) := by
  refine ce_of (fun n => pe_tup (h n)) fun n σ H Q ⟨Z, F, ρ, s, P, rel, g⟩ => ?_
  refine goesX_vals [] rel (Goes.x g) fun vs H2 ds s3 Z3 ρ3 e3 p3 hd rel3 g3 => ?_
  unfold tupR at g3
  split at g3
  · rename_i hl
    refine ⟨by rw [← hd.length]; exact hl, fun q hq => ?_⟩
    exact Goes.tup (GoesX.g g3) rel3 hd hq
  · exact g3.elim
theorem ce_lst (h : CV X G W tb c es iss) : CE X G W tb c (.List es pos) (.lst iss) := by
  refine ce_of (fun n => pe_lst (h n)) fun n σ H Q ⟨Z, F, ρ, s, P, rel, g⟩ => ?_
  refine goesX_vals [] rel (Goes.x g) fun vs H2 ds s3 Z3 ρ3 e3 p3 hd rel3 g3 => ?_
  unfold lstR at g3
  split at g3
  · rename_i hl
    refine ⟨by rw [← hd.length]; exact hl, fun q hq => ?_⟩
    exact Goes.lst (GoesX.g g3) rel3 hd hq
  · exact g3.elim
/-- a value of a container, or a container of the heap -/
theorem ce_fz (h : CE X G W tb c e ie) : CE X G W tb c e (.fz ie) := by
  refine ce_of (fun n => h n) fun n σ H Q ⟨Z, F, ρ, s, P, rel, g⟩ => ?_
  replace g : Goes G W Z F ρ σ P (bd (bd ((run tb c n).ex ie s) freeze) fun d s => ok (.val d) s) Q := g
  rw [bd_bd] at g
  refine goes_bind [] rel g fun v H1 r1 s1 Z1 ρ1 e1 p1 rel1 g1 => ?_
  obtain ⟨dd, s2, Z2, e2, rel2, g2⟩ := goesX_freeze rel1 (Goes.x g1)
  exact GoesX.g g2 v H1 Z2 ρ1 (Same.refl _) (List.prefix_refl _) rel2
theorem ce_settle (h : CE X G W tb c e ie) : CE X G W tb c e (.settle ie) := by
  refine ce_of (fun n => h n) fun n σ H Q ⟨Z, F, ρ, s, P, rel, g⟩ => ?_
  refine goes_bind [] rel g fun v H1 r1 s1 Z1 ρ1 e1 p1 rel1 g1 => ?_
  unfold settleR at g1
  split at g1
  · obtain ⟨a, e2, rel2⟩ := rel1.settle rfl
    simp only at e2
    subst e2
    exact g1 _ H1 Z1 _ (Same.refl _) (List.prefix_append _ _) rel2
  · exact g1.elim
end
end Ri

set_option maxRecDepth 100000
/-! Ri, part H: slices, built-in functions, methods that change a list. -/
namespace Ri
open PySem L2
/-! ### slices -/
def TOp (G : Cfg) (W : WX) (m : S → Res (Option Int)) : TO := fun σ H Q => ∃ Z F ρ s P, Rel G Z F ρ s σ H P ∧
  GoesX G W Z F ρ σ P (m s) fun o s' H' Z' ρ' => Rel G Z' F ρ' s' σ H' P → Q o H'
theorem PO.imp {X : Cx} {e : Option Expr} {t t' : TO} (h : PO X e t) (k : ∀ σ H Q, t' σ H Q → t σ H Q) : PO X e t' :=
  ⟨fun pins s σ H Q I hw => h.run pins s σ H Q I (k σ H Q hw)⟩
def CO (X : Cx) (G : Cfg) (W : WX) (tb : Tb) (c : CallF) (e : Option Expr) (i : Option E) : Prop := ∀ n, PO X e (TOp G W (optE (run tb c n) i))
section
variable {G : Cfg} {W : WX} {Z Z' H H' F : Hp} {ρ ρ' : List Addr} {s : S} {σ : L2.St} {P : List (R × V)} {Q : VK}
theorem goesX_opt {α : Type} {m : S → Res (Option Int)} {f : Option Int → S → Res α} {K : α → S → Hp → Hp → List Addr → Prop} (L : List (R × V)) (r : Rel G Z F ρ s σ H (L ++ P)) (h : GoesX G W Z F ρ σ P (bd (m s) f) K) {Q' : Option Int → Hp → Prop}
    (k : ∀ o H1 s1 Z1 ρ1, Same Z Z1 → ρ <+: ρ1 → Rel G Z1 F ρ1 s1 σ H1 (L ++ P) → GoesX G W Z1 F ρ1 σ P (f o s1) K → Q' o H1) : TOp G W m σ H Q' := by
  refine ⟨Z, F, ρ, s, L ++ P, r, ?_⟩
  rcases e : m s with _ | ⟨_ | a, s'⟩
  · rw [e] at h; exact h
  · rw [e] at h
    exact fun cls d H1 Z1 ρ1 e1 p1 x1 r1 => h cls d H1 Z1 ρ1 e1 p1 x1 (Rel.drop L r1)
  · rw [e] at h
    exact fun H1 Z1 ρ1 e1 p1 r1 => k a H1 s' Z1 ρ1 e1 p1 r1 (GoesX.mono h e1 p1)
end
section
variable {X : Cx} {G : Cfg} {W : WX} {tb : Tb} {c : CallF} {a b d e : Expr} {ia ib id ie : E} {pos p p2 : Pos} {es : List Expr} {is : List E} {lo hi : Option Expr} {il ih : Option E}
theorem co_none : CO X G W tb c none none := fun n => by
  refine PO.imp po_none fun σ H Q ⟨Z, F, ρ, s, P, rel, g⟩ => ?_
  exact g H Z ρ (Same.refl _) (List.prefix_refl _) rel
theorem co_some (h : CE X G W tb c e ie) : CO X G W tb c (some e) (some ie) := fun n => by
  refine PO.imp (po_some (h n)) fun σ H Q ⟨Z, F, ρ, s, P, rel, g⟩ => ?_
  refine goesX_bind [] rel g fun v H1 r1 s1 Z1 ρ1 e1 p1 rel1 g1 => ?_
  split at g1
  · have := rel1.head; cases this
    exact ⟨_, rfl, g1 H1 Z1 ρ1 (Same.refl _) (List.prefix_refl _) rel1.pop⟩
  · exact g1.elim
abbrev rSlB (K : PySem.W.Frag) : V → Option Int → Option Int → Hp → VK → Prop := fun x lo hi H Q => rSlA K x lo hi H Q ∨ rSlL K x lo hi H Q
theorem ce_slice (hK : G.K = X.K) (h : CE X G W tb c e ie) (hl : CO X G W tb c lo il) (hh : CO X G W tb c hi ih) : CE X G W tb c (.Subscript e (.Slice lo hi none p2) pos) (.slice ie il ih) := by
  refine ce_of (fun n => pe_slice (SlR.or sl_tupA sl_list) (h n) (hl n) (hh n)) fun n σ H Q ⟨Z, F, ρ, s, P, rel, g⟩ => ?_
  refine goesX_bind [] rel (Goes.x g) fun v H1 r1 s1 Z1 ρ1 e1 p1 rel1 g1 => ?_
  refine goesX_opt [(r1, v)] rel1 g1 fun ol H2 s2 Z2 ρ2 e2 p2 rel2 g2 => ?_
  refine goesX_opt [(r1, v)] rel2 g2 fun oh H3 s3 Z3 ρ3 e3 p3 rel3 g3 => ?_
  replace g3 := GoesX.g g3
  unfold sliceR at g3
  split at g3
  · rename_i x hx
    have nx := rel3.look rel3.head hx
    unfold sliceD at g3
    split at g3
    · cases nx with
      | tup h1 h2 =>
        refine .inl ⟨_, _, rfl, by rw [← hK]; exact Same.sqT rel3.zs h1, fun hw => ?_, fun _ q hq => ?_⟩
        · refine Goes.val g3 rel3.pop ?_
          rw [h2.length, hw.1, hw.2, List.drop_zero, Nat.sub_zero, ← h2.length, List.take_length]
          exact .tup h1 h2
        · refine Goes.tup g3 rel3.pop ?_ hq
          rw [h2.length]
          exact (h2.drop _).take _
    · obtain ⟨q, vs, rfl, h1, h2⟩ := nx
      refine .inr ⟨q, vs, rfl, SqL.of h1, fun z hz => ?_⟩
      refine Goes.lst g3 rel3.pop ?_ hz
      rw [h2.length]
      exact (h2.drop _).take _
    · exact g3.elim
  · exact g3.elim
end

/-! ### built-in functions -/
inductive NReps (G : Cfg) (Z : Hp) (ρ : List Addr) (H : Hp) : List V → List D → Prop
  | nil : NReps G Z ρ H [] []
  | cons {v : V} {vs : List V} {d : D} {ds : List D} : NRep G Z ρ H v d → NReps G Z ρ H vs ds → NReps G Z ρ H (v :: vs) (d :: ds)
section
variable {G : Cfg} {W : WX} {Z Z' H H' F : Hp} {ρ ρ' : List Addr} {s : S} {σ : L2.St} {P : List (R × V)} {Q : VK}
theorem Rel.looks {L : List (R × V)} (rel : Rel G Z F ρ s σ H L) : ∀ {rs : List R} {vs : List V} {ds : List D}, rs.length = vs.length → (∀ x ∈ rs.zip vs, x ∈ L) → Ri.looks s rs = some ds → NReps G Z ρ H vs ds
  | [], [], _, _, _, h => by cases h; exact .nil
  | r :: rs, v :: vs, ds, hl, hm, h => by
    simp only [Ri.looks] at h
    split at h
    · rename_i d ds' e1 e2
      cases h
      exact .cons (rel.look (rel.mem (hm (r, v) (by simp))) e1) (Rel.looks rel (by simpa using hl) (fun x hx => hm x (by simp [hx])) e2)
    · cases h
  | [], _ :: _, _, hl, _, _ => by simp at hl
  | _ :: _, [], _, hl, _, _ => by simp at hl
/-- the built-in's reading is at least what the machine does -/
def BlD (G : Cfg) (o : Bl) (r : List V → Hp → VK → Prop) : Prop := ∀ {W : WX} {Z F : Hp} {ρ : List Addr} {s : S} {σ : L2.St} {H : Hp} {P : List (R × V)} {vs : List V} {ds : List D} {res : R} {Q : VK},
  Rel G Z F ρ s σ H P → NReps G Z ρ H vs ds → blD o ds = some res → Goes G W Z F ρ σ P (ok res s) Q → r vs H Q
end
section
variable {X : Cx} {G : Cfg} {W : WX} {tb : Tb} {c : CallF} {a b d e : Expr} {ia ib id ie : E} {pos p p2 : Pos} {es : List Expr} {is : List E}
theorem ce_blt {o : Bl} {r : List V → Hp → VK → Prop} (ha : CA X G W tb c es is) (hpe : ∀ t, PA X es t → PE X e (tCB r t)) (ho : BlD G o r) : CE X G W tb c e (.bl o is) := by
  refine ce_of (fun n => hpe _ (ha n)) fun n σ H Q ⟨Z, F, ρ, s, P, rel, g⟩ => ?_
  refine goesX_args [] rel (Goes.x g) fun vs H1 rs s1 Z1 ρ1 e1 p1 hl rel1 g1 => ?_
  replace g1 := GoesX.g g1
  unfold blR at g1
  split at g1
  · rename_i ds hds
    have nr := rel1.looks hl (fun x hx => by simp [hx]) hds
    cases q : blD o ds with
    | none => rw [q] at g1; exact g1.elim
    | some res => rw [q] at g1; exact ho (Rel.drop _ rel1) nr q g1
  · exact g1.elim
theorem bld_len : BlD G .len (fun xs H Q => ∃ x n, xs = [x] ∧ LenV G.K x H n ∧ Q (.int n) H) := by
  intro W Z F ρ s σ H P vs ds res Q rel nr hb hg
  unfold blD at hb
  split at hb <;> try contradiction
  · cases hb
    cases nr with
    | cons h1 h2 =>
      cases h2; cases h1 with
      | str _ h3 h4 => exact ⟨_, _, rfl, ⟨h4, rfl⟩, hg.val rel (.int _)⟩
  · rename_i x _ _
    cases q : items x with
    | none => rw [q] at hb; cases hb
    | some ys =>
      rw [q] at hb; cases hb
      cases nr with
      | cons h1 h2 =>
        cases h2
        obtain ⟨a, vs, rfl, h3, h4⟩ := h1.seq rel.zs q
        refine ⟨_, ys.length, rfl, ?_, hg.val rel (.int _)⟩
        rcases h3 with h3 | h3
        · exact .inl ⟨vs, h3, h4.length⟩
        · exact .inr ⟨vs, h3, h4.length⟩
theorem bools_rep {Z : Hp} {ρ : List Addr} : ∀ {ds : List D} {vs : List V} {bs : List Bool}, DReps G Z ρ ds vs → bools ds = some bs → vs = bs.map V.bl
  | [], _, _, .nil, h => by cases h; rfl
  | .bl b :: ds, _, bs, .cons h1 r, h => by
    simp only [bools] at h
    cases q : bools ds with
    | none => rw [q] at h; cases h
    | some bs' => rw [q] at h; cases h; cases h1; rw [bools_rep r q]; rfl
  | .non :: _, _, _, .cons _ _, h => by simp [bools] at h
  | .int _ :: _, _, _, .cons _ _, h => by simp [bools] at h
  | .str _ :: _, _, _, .cons _ _, h => by simp [bools] at h
  | .tup _ :: _, _, _, .cons _ _, h => by simp [bools] at h
  | .lst _ :: _, _, _, .cons _ _, h => by simp [bools] at h
  | .klst _ :: _, _, _, .cons _ _, h => by simp [bools] at h
  | .ins _ _ :: _, _, _, .cons _ _, h => by simp [bools] at h
  | .ref _ :: _, _, _, .cons _ _, h => by simp [bools] at h
  | .fn _ :: _, _, _, .cons _ _, h => by simp [bools] at h
theorem ints_rep {Z : Hp} {ρ : List Addr} : ∀ {ds : List D} {vs : List V} {bs : List Int}, DReps G Z ρ ds vs → intsOf ds = some bs → vs = bs.map V.int
  | [], _, _, .nil, h => by cases h; rfl
  | .int b :: ds, _, bs, .cons h1 r, h => by
    simp only [intsOf] at h
    cases q : intsOf ds with
    | none => rw [q] at h; cases h
    | some bs' => rw [q] at h; cases h; cases h1; rw [ints_rep r q]; rfl
  | .non :: _, _, _, .cons _ _, h => by simp [intsOf] at h
  | .bl _ :: _, _, _, .cons _ _, h => by simp [intsOf] at h
  | .str _ :: _, _, _, .cons _ _, h => by simp [intsOf] at h
  | .tup _ :: _, _, _, .cons _ _, h => by simp [intsOf] at h
  | .lst _ :: _, _, _, .cons _ _, h => by simp [intsOf] at h
  | .klst _ :: _, _, _, .cons _ _, h => by simp [intsOf] at h
  | .ins _ _ :: _, _, _, .cons _ _, h => by simp [intsOf] at h
  | .ref _ :: _, _, _, .cons _ _, h => by simp [intsOf] at h
  | .fn _ :: _, _, _, .cons _ _, h => by simp [intsOf] at h
theorem bld_all : BlD G .all (rAll G.K) := by
  intro W Z F ρ s σ H P vs ds res Q rel nr hb hg
  unfold blD at hb
  split at hb <;> try contradiction
  rename_i xs _
  cases q : bools xs with
  | none => rw [q] at hb; cases hb
  | some bs =>
    rw [q] at hb; cases hb
    cases nr with
    | cons h1 h2 =>
      cases h2
      obtain ⟨a, vs, rfl, h3, h4⟩ := h1
      have := bools_rep h4 q
      subst this
      exact ⟨a, bs, rfl, SqL.of h3, hg.val rel (.bl _)⟩
theorem bld_any : BlD G .any (rAny G.K) := by
  intro W Z F ρ s σ H P vs ds res Q rel nr hb hg
  unfold blD at hb
  split at hb <;> try contradiction
  rename_i xs _
  cases q : bools xs with
  | none => rw [q] at hb; cases hb
  | some bs =>
    rw [q] at hb; cases hb
    cases nr with
    | cons h1 h2 =>
      cases h2
      obtain ⟨a, vs, rfl, h3, h4⟩ := h1
      have := bools_rep h4 q
      subst this
      exact ⟨a, bs, rfl, SqL.of h3, hg.val rel (.bl _)⟩
theorem bld_sum : BlD G .sum (rSum G.K) := by
  intro W Z F ρ s σ H P vs ds res Q rel nr hb hg
  unfold blD at hb
  split at hb <;> try contradiction
  rename_i xs _
  cases q : intsOf xs with
  | none => rw [q] at hb; cases hb
  | some bs =>
    rw [q] at hb; cases hb
    cases nr with
    | cons h1 h2 =>
      cases h2
      obtain ⟨a, vs, rfl, h3, h4⟩ := h1
      have := ints_rep h4 q
      subst this
      exact ⟨a, bs, rfl, SqL.of h3, hg.val rel (.int _)⟩
theorem bld_min2 : BlD G .min2 (fun xs H Q => ∃ i j, xs = [.int i, .int j] ∧ Q (.int (if j < i then j else i)) H) := by
  intro W Z F ρ s σ H P vs ds res Q rel nr hb hg
  unfold blD at hb
  split at hb <;> try contradiction
  cases hb
  cases nr with
  | cons h1 h2 => cases h2 with
    | cons h3 h4 => cases h4; cases h1; cases h3; exact ⟨_, _, rfl, hg.val rel (.int _)⟩
theorem bld_max2 : BlD G .max2 (fun xs H Q => ∃ i j, xs = [.int i, .int j] ∧ Q (.int (if j > i then j else i)) H) := by
  intro W Z F ρ s σ H P vs ds res Q rel nr hb hg
  unfold blD at hb
  split at hb <;> try contradiction
  cases hb
  cases nr with
  | cons h1 h2 => cases h2 with
    | cons h3 h4 => cases h4; cases h1; cases h3; exact ⟨_, _, rfl, hg.val rel (.int _)⟩
theorem bld_abs : BlD G .abs (fun xs H Q => ∃ i, xs = [.int i] ∧ Q (.int (if i < 0 then -i else i)) H) := by
  intro W Z F ρ s σ H P vs ds res Q rel nr hb hg
  unfold blD at hb
  split at hb <;> try contradiction
  cases hb
  cases nr with
  | cons h1 h2 =>
    cases h2; cases h1
    refine ⟨_, rfl, ?_⟩
    rename_i i _
    have : (if i < 0 then -i else i) = (i.natAbs : Int) := by split <;> omega
    rw [this]
    exact hg.val rel (.int _)
abbrev rInt : List V → Hp → VK → Prop := fun xs H Q => ((∃ i, xs = [.int i] ∧ Q (.int i) H) ∨ ∃ k, xs = [.bl k] ∧ Q (.int (if k then 1 else 0)) H) ∨ ∃ a n, xs = [.str a] ∧ PySem.intText? a = some n ∧ a.length ≤ 640 ∧ Q (.int n) H
theorem call_intA {X : Cx} : CallR X (.type "int") rInt := fun pins s σ H xs us Q I rs h => h.elim (call_int1 pins s σ H xs us Q I rs) (call_int_str pins s σ H xs us Q I rs)
theorem bld_int : BlD G .int rInt := by
  intro W Z F ρ s σ H P vs ds res Q rel nr hb hg
  unfold blD at hb
  split at hb <;> try contradiction
  · cases hb
    cases nr with
    | cons h1 h2 => cases h2; cases h1; exact .inl (.inl ⟨_, rfl, hg.val rel (.int _)⟩)
  · cases hb
    cases nr with
    | cons h1 h2 => cases h2; cases h1; exact .inl (.inr ⟨_, rfl, hg.val rel (.int _)⟩)
  · split at hb
    · split at hb
      · rename_i hn hl
        cases hb
        cases nr with
        | cons h1 h2 => cases h2; cases h1; exact .inr ⟨_, _, rfl, hn, hl, hg.val rel (.int _)⟩
      · cases hb
    · cases hb
theorem bld_str : BlD G .str (fun xs H Q => ∃ i, xs = [.int i] ∧ i.natAbs.log2 < 1920 ∧ Q (.str (toString i)) H) := by
  intro W Z F ρ s σ H P vs ds res Q rel nr hb hg
  unfold blD at hb
  split at hb <;> try contradiction
  split at hb
  · rename_i hc
    cases hb
    cases nr with
    | cons h1 h2 => cases h2; cases h1; exact ⟨_, rfl, hc.1, hg.val rel (.str _ hc.2.1 hc.2.2)⟩
  · cases hb
theorem bld_list : BlD G .list (fun xs H Q => ∃ p ys, xs = [.ref p] ∧ (SqL G.K H p ys ∨ SqT G.K H p ys) ∧ ∀ l, H l = none → Q (.ref l) (upd H l (.lst ys))) := by
  intro W Z F ρ s σ H P vs ds res Q rel nr hb hg
  unfold blD at hb
  split at hb <;> try contradiction
  rename_i x _
  cases q : items x with
  | none => rw [q] at hb; cases hb
  | some ys =>
    rw [q] at hb; cases hb
    cases nr with
    | cons h1 h2 =>
      cases h2
      obtain ⟨a, vs, rfl, h3, h4⟩ := h1.seq rel.zs q
      exact ⟨a, vs, rfl, h3, fun l hl => hg.lst rel h4 hl⟩
theorem bld_tuple : BlD G .tuple (fun xs H Q => ∃ p ys, xs = [.ref p] ∧ ((SqL G.K H p ys ∧ ∀ l, H l = none → Q (.ref l) (upd H l (.tup ys))) ∨ (SqT G.K H p ys ∧ Q (.ref p) H))) := by
  intro W Z F ρ s σ H P vs ds res Q rel nr hb hg
  unfold blD at hb
  split at hb <;> try contradiction
  rename_i x _
  cases nr with
  | cons h1 h2 =>
    cases h2
    cases x with
    | lst xs =>
      cases hb
      obtain ⟨a, vs, rfl, h3, h4⟩ := h1
      exact ⟨a, vs, rfl, .inl ⟨SqL.of h3, fun l hl => hg.tup rel h4 hl⟩⟩
    | klst xs =>
      cases hb
      cases h1 with
      | klst h3 h4 _ => exact ⟨_, _, rfl, .inl ⟨rel.zs.seq h3, fun l hl => hg.tup rel h4 hl⟩⟩
    | tup xs =>
      cases hb
      cases h1 with
      | tup h3 h4 => exact ⟨_, _, rfl, .inr ⟨Same.sqT rel.zs h3, hg.val rel (.tup h3 h4)⟩⟩
    | _ => cases hb
/-! #### the calls -/
variable {xn : Str}
theorem ce_len (hK : G.K = X.K) (ha : CA X G W tb c [a] [ia]) (hg : Gl X "len") (hm : X.mg "len" = none) (he : starEach [a] X.env = (false, eval a X.env) :: starEach [] X.env := by rfl) : CE X G W tb c (.Call (.Name "len" p) [a] [] pos) (.bl .len [ia]) :=
  ce_blt ha (fun t h => pe_callB call_len hg hm PySem.boot_len h (he := he)) (hK ▸ bld_len)
theorem ce_all (hK : G.K = X.K) (hc : X.calm = true) (ha : CA X G W tb c [a] [ia]) (hg : Gl X "all") (hm : X.mg "all" = none) (he : starEach [a] X.env = (false, eval a X.env) :: starEach [] X.env := by rfl) : CE X G W tb c (.Call (.Name "all" p) [a] [] pos) (.bl .all [ia]) :=
  ce_blt ha (fun t h => pe_callB (cr_all hc) hg hm (by decide +kernel) h (he := he)) (hK ▸ bld_all)
theorem ce_any (hK : G.K = X.K) (hc : X.calm = true) (ha : CA X G W tb c [a] [ia]) (hg : Gl X "any") (hm : X.mg "any" = none) (he : starEach [a] X.env = (false, eval a X.env) :: starEach [] X.env := by rfl) : CE X G W tb c (.Call (.Name "any" p) [a] [] pos) (.bl .any [ia]) :=
  ce_blt ha (fun t h => pe_callB (cr_any hc) hg hm (by decide +kernel) h (he := he)) (hK ▸ bld_any)
theorem ce_sum (hK : G.K = X.K) (hc : X.calm = true) (ha : CA X G W tb c [a] [ia]) (hg : Gl X "sum") (hm : X.mg "sum" = none) (he : starEach [a] X.env = (false, eval a X.env) :: starEach [] X.env := by rfl) : CE X G W tb c (.Call (.Name "sum" p) [a] [] pos) (.bl .sum [ia]) :=
  ce_blt ha (fun t h => pe_callB (cr_sum hc) hg hm (by decide +kernel) h (he := he)) (hK ▸ bld_sum)
theorem ce_min2 (hc : X.calm = true) (ha : CA X G W tb c [a, b] [ia, ib]) (hg : Gl X "min") (hm : X.mg "min" = none) (he : starEach [a, b] X.env = (false, eval a X.env) :: starEach [b] X.env := by rfl) (hpl : (backTo pos (starEach [b] X.env)).any (·.1) = false := by rfl) : CE X G W tb c (.Call (.Name "min" p) [a, b] [] pos) (.bl .min2 [ia, ib]) :=
  ce_blt ha (fun t h => pe_callB (call_min2 hc) hg hm (by decide +kernel) h (he := he) (hpl := hpl)) bld_min2
theorem ce_max2 (hc : X.calm = true) (ha : CA X G W tb c [a, b] [ia, ib]) (hg : Gl X "max") (hm : X.mg "max" = none) (he : starEach [a, b] X.env = (false, eval a X.env) :: starEach [b] X.env := by rfl) (hpl : (backTo pos (starEach [b] X.env)).any (·.1) = false := by rfl) : CE X G W tb c (.Call (.Name "max" p) [a, b] [] pos) (.bl .max2 [ia, ib]) :=
  ce_blt ha (fun t h => pe_callB (call_max2 hc) hg hm (by decide +kernel) h (he := he) (hpl := hpl)) bld_max2
theorem ce_abs (ha : CA X G W tb c [a] [ia]) (hg : Gl X "abs") (hm : X.mg "abs" = none) (he : starEach [a] X.env = (false, eval a X.env) :: starEach [] X.env := by rfl) : CE X G W tb c (.Call (.Name "abs" p) [a] [] pos) (.bl .abs [ia]) :=
  ce_blt ha (fun t h => pe_callB call_abs hg hm (by decide +kernel) h (he := he)) bld_abs
theorem ce_intF (ha : CA X G W tb c [a] [ia]) (hg : Gl X "int") (hm : X.mg "int" = none) (he : starEach [a] X.env = (false, eval a X.env) :: starEach [] X.env := by rfl) : CE X G W tb c (.Call (.Name "int" p) [a] [] pos) (.bl .int [ia]) :=
  ce_blt ha (fun t h => pe_callTy call_intA hg hm (by decide +kernel) h (he := he)) bld_int
theorem ce_strF (ha : CA X G W tb c [a] [ia]) (hg : Gl X "str") (hm : X.mg "str" = none) (he : starEach [a] X.env = (false, eval a X.env) :: starEach [] X.env := by rfl) : CE X G W tb c (.Call (.Name "str" p) [a] [] pos) (.bl .str [ia]) :=
  ce_blt ha (fun t h => pe_callTy call_str_int hg hm (by decide +kernel) h (he := he)) bld_str
theorem ce_listF (hK : G.K = X.K) (ha : CA X G W tb c [a] [ia]) (hg : Gl X "list") (hm : X.mg "list" = none) (he : starEach [a] X.env = (false, eval a X.env) :: starEach [] X.env := by rfl) : CE X G W tb c (.Call (.Name "list" p) [a] [] pos) (.bl .list [ia]) :=
  ce_blt ha (fun t h => pe_callTy call_list_of hg hm (by decide +kernel) h (he := he)) (hK ▸ bld_list)
theorem ce_tupleF (hK : G.K = X.K) (ha : CA X G W tb c [a] [ia]) (hg : Gl X "tuple") (hm : X.mg "tuple" = none) (he : starEach [a] X.env = (false, eval a X.env) :: starEach [] X.env := by rfl) : CE X G W tb c (.Call (.Name "tuple" p) [a] [] pos) (.bl .tuple [ia]) :=
  ce_blt ha (fun t h => pe_callTy call_tuple_of hg hm (by decide +kernel) h (he := he)) (hK ▸ bld_tuple)
end
end Ri

set_option maxRecDepth 100000
/-! Ri, part I: calls. -/
namespace Ri
open PySem L2
def GoesC (G : Cfg) (E : XK) (Z F : Hp) (ρ : List Addr) (res : Option (Except Xc R × List O)) (Q : VK) : Prop :=
  match res with
  | none => False
  | some (.ok r, hp') => ∀ v H' Z' ρ', Same Z Z' → ρ <+: ρ' → Rel G Z' F ρ' ⟨[], hp'⟩ [] H' [(r, v)] → Q v H'
  | some (.error x, hp') => ∀ cls d H' Z' ρ', Same Z Z' → ρ <+: ρ' → XRep G Z' ρ' H' x cls d → Rel G Z' F ρ' ⟨[], hp'⟩ [] H' [] → E cls d H'
/-- what a def promises -/
def spD (G : Cfg) (c : CallF) (f np : Nat) : Sp := fun vs H Q E => vs.length = np ∧ ∃ Z F ρ svs hp, Rel G Z F ρ ⟨svs.map some, hp⟩ (vs.map some) H [] ∧ GoesC G E Z F ρ (c f svs hp) Q
theorem argSs_len {s : S} : ∀ {rs : List R} {svs : List SV}, argSs s rs = some svs → rs.length = svs.length
  | [], _, h => by cases h; rfl
  | r :: rs, svs, h => by
    simp only [argSs] at h
    split at h
    · cases h; rename_i e1 e2; simp [argSs_len e2]
    · cases h
theorem argSs_get {s : S} : ∀ {rs : List R} {svs : List SV} {j : Nat} {x : SV}, argSs s rs = some svs → svs[j]? = some x → ∃ r, rs[j]? = some r ∧ argS s r = some x
  | [], _, _, _, h, e => by cases h; simp at e
  | r :: rs, svs, j, x, h, e => by
    simp only [argSs] at h
    split at h
    · rename_i d ds e1 e2
      cases h
      cases j with
      | zero => simp at e; subst e; exact ⟨r, rfl, e1⟩
      | succ j =>
        obtain ⟨r', h1, h2⟩ := argSs_get (j := j) e2 (by simpa using e)
        exact ⟨r', by simpa using h1, h2⟩
    · cases h
section
open Classical
variable {G : Cfg} {W : WX} {Z Z' H H' F : Hp} {ρ ρ' : List Addr} {s : S} {σ : L2.St} {P L : List (R × V)} {Q : VK}
/-- what the caller holds, during a call -/
noncomputable def frame (F : Hp) (ρ : List Addr) (s : S) (σ : L2.St) (L P : List (R × V)) (H : Hp) : Hp := fun a =>
  if (∃ i, Owns ρ s.sl σ (L ++ P) a (.sl i)) ∨ (∃ i, L.length ≤ i ∧ Owns ρ s.sl σ (L ++ P) a (.pd i)) then H a else F a
theorem frame_sl (i : Nat) {a : Addr} (h : Owns ρ s.sl σ (L ++ P) a (.sl i)) : frame F ρ s σ L P H a = H a := if_pos (.inl ⟨i, h⟩)
theorem frame_pd (i : Nat) {a : Addr} (hi : L.length ≤ i) (h : Owns ρ s.sl σ (L ++ P) a (.pd i)) : frame F ρ s σ L P H a = H a := if_pos (.inr ⟨i, hi, h⟩)
theorem frame_else {a : Addr} (h1 : ∀ i, ¬ Owns ρ s.sl σ (L ++ P) a (.sl i)) (h2 : ∀ i, L.length ≤ i → ¬ Owns ρ s.sl σ (L ++ P) a (.pd i)) : frame F ρ s σ L P H a = F a :=
  if_neg (fun z => by rcases z with ⟨i, z⟩ | ⟨i, hi, z⟩; exact h1 i z; exact h2 i hi z)
theorem frame_old (r : Rel G Z F ρ s σ H (L ++ P)) {a : Addr} {o : HO} (h : F a = some o) : frame F ρ s σ L P H a = some o := by
  rw [frame_else (fun i z => by have := (r.zo a _ z).2; rw [h] at this; cases this) (fun i _ z => by have := (r.zo a _ z).2; rw [h] at this; cases this)]
  exact h
theorem Rel.ndx (r : Rel G Z F ρ s σ H P) {a : Addr} {w : Owner} (hw : ∀ i, w ≠ .hp i) (h : Owns ρ s.sl σ P a w) {o : HO} (ho : H a = some o) : NDx o := by
  cases w with
  | hp i => exact absurd rfl (hw i)
  | sl i =>
    obtain ⟨⟨c, hc⟩, h⟩ := h
    obtain ⟨v, h1, b, o', h2, h3, h4⟩ := r.sl i _ hc
    rw [h1] at h; cases h; cases h2
    rw [ho] at h3; cases h3; exact .crep h4
  | pd i =>
    obtain ⟨c, h⟩ := h
    obtain ⟨b, o', h2, h3, h4⟩ := r.pd i _ _ h
    cases h2
    rw [ho] at h3; cases h3; exact .crep h4
theorem Rel.ntb (r : Rel G Z F ρ s σ H P) {a : Addr} {w : Owner} (hw : ∀ i, w ≠ .hp i) (h : Owns ρ s.sl σ P a w) {o : HO} (ho : H a = some o) : ∃ vs, o = .lst vs := by
  cases w with
  | hp i => exact absurd rfl (hw i)
  | sl i =>
    obtain ⟨⟨c, hc⟩, h⟩ := h
    obtain ⟨v, h1, b, o', h2, h3, h4⟩ := r.sl i _ hc
    rw [h1] at h; cases h; cases h2
    rw [ho] at h3; cases h3
    cases c with | lst xs => obtain ⟨vs, e, _⟩ := h4; exact ⟨vs, e⟩
  | pd i =>
    obtain ⟨c, h⟩ := h
    obtain ⟨b, o', h2, h3, h4⟩ := r.pd i _ _ h
    cases h2
    rw [ho] at h3; cases h3
    cases c with | lst xs => obtain ⟨vs, e, _⟩ := h4; exact ⟨vs, e⟩
theorem Rel.callee (r : Rel G Z F ρ s σ H (L ++ P)) {rs : List R} {vs : List V} {svs : List SV} (hl : rs.length = vs.length) (ha : argSs s rs = some svs) (pos : Nat → Nat)
    (hp : ∀ (j : Nat) (x : R) (v : V), rs[j]? = some x → vs[j]? = some v → PRep G Z ρ H s.sl σ v x ∧ ∀ c, x = .own c → L[pos j]? = some (x, v)) (hi : ∀ j k : Nat, j < rs.length → k < rs.length → (∃ c, rs[j]? = some (.own c)) → (∃ c, rs[k]? = some (.own c)) → pos j = pos k → j = k) :
    Rel G Z (frame F ρ s σ L P H) ρ ⟨svs.map some, s.hp⟩ (vs.map some) H [] := by
  have hlen := argSs_len ha
  have own : ∀ b w, Owns ρ (svs.map some) (vs.map some) [] b w → (∃ i, w = .hp i ∧ Owns ρ s.sl σ (L ++ P) b (.hp i)) ∨ (∃ j c, w = .sl j ∧ j < rs.length ∧ rs[j]? = some (.own c) ∧ pos j < L.length ∧ Owns ρ s.sl σ (L ++ P) b (.pd (pos j))) := fun b w h => by
    cases w with
    | hp i => exact .inl ⟨i, rfl, h⟩
    | sl j =>
      obtain ⟨⟨c, hc⟩, hv⟩ := h
      rw [List.getElem?_map] at hc hv
      cases e1 : svs[j]? with
      | none => rw [e1] at hc; cases hc
      | some x =>
        rw [e1] at hc
        simp only [Option.map_some, Option.some.injEq] at hc
        subst hc
        cases e2 : vs[j]? with
        | none => rw [e2] at hv; cases hv
        | some v =>
          rw [e2] at hv
          simp only [Option.map_some, Option.some.injEq] at hv
          subst hv
          obtain ⟨y, g1, g2⟩ := argSs_get ha e1
          have hy : y = .own c := by
            cases y with
            | val d => simp [argS] at g2
            | own c' => simp [argS] at g2; rw [g2]
            | slot i => simp only [argS] at g2; split at g2 <;> cases g2
          subst hy
          have g3 := (hp j _ _ g1 e2).2 c rfl
          have g4 := (List.getElem?_eq_some_iff.mp g3).1
          exact .inr ⟨j, c, rfl, (List.getElem?_eq_some_iff.mp g1).1, g1, g4, ⟨c, by rw [List.getElem?_append_left g4]; exact g3⟩⟩
    | pd i => obtain ⟨c, h⟩ := h; simp at h
  have fr0 : ∀ b w, Owns ρ (svs.map some) (vs.map some) [] b w → frame F ρ s σ L P H b = none := fun b w h => by
    rcases own b w h with ⟨i, _, h1⟩ | ⟨j, c, _, _, _, h0, h1⟩
    · rw [frame_else (fun k z => nomatch (r.uq b _ _ h1 z)) (fun k _ z => nomatch (r.uq b _ _ h1 z))]
      exact (r.zo b _ h1).2
    · rw [frame_else (fun k z => nomatch (r.uq b _ _ h1 z)) (fun k hk z => by have := r.uq b _ _ h1 z; simp only [Owner.pd.injEq] at this; omega)]
      exact (r.zo b _ h1).2
  refine ⟨r.zs, fun b u h => ?_, r.len, fun i o a h1 h2 => r.hp i o a h1 h2, by simp [← hlen, hl], fun j x h => ?_, fun i x v h => by simp at h, fun b w w' h1 h2 => ?_, fun b w h => ⟨?_, fr0 b w h⟩, fun b x => ⟨(r.no b x).1, ⟨fun e => ?_, fun e => ?_⟩, ?_⟩, fun b => ⟨(r.nt b).1, fun o e => ?_⟩⟩
  · unfold frame at h
    split at h
    · exact h
    · exact r.fs _ _ h
  · simp only [List.getElem?_map] at h
    cases e1 : svs[j]? with
    | none => rw [e1] at h; cases h
    | some x' =>
      rw [e1] at h
      simp only [Option.map_some, Option.some.injEq] at h
      subst h
      obtain ⟨y, g1, g2⟩ := argSs_get ha e1
      have hj : j < vs.length := by rw [← hl]; exact (List.getElem?_eq_some_iff.mp g1).1
      refine ⟨vs[j], by simp [hj], ?_⟩
      have pr := (hp j y vs[j] g1 (List.getElem?_eq_getElem hj)).1
      cases y with
      | val d => simp [argS] at g2; subst g2; exact pr
      | own c => simp [argS] at g2; subst g2; exact pr
      | slot i =>
        have g3 : σ[i]? = some (some vs[j]) := pr
        simp only [argS] at g2
        cases g4 : s.sl[i]? with
        | none => rw [g4] at g2; cases g2
        | some zo =>
        cases zo with
        | none => rw [g4] at g2; cases g2
        | some z =>
        obtain ⟨v', g5, g6⟩ := r.sl i z g4
        rw [g3] at g5; cases g5
        rw [g4] at g2
        cases z with
        | val d => simp at g2; subst g2; exact g6
        | own c =>
          simp at g2; subst g2
          obtain ⟨a, o, e, k1, k2⟩ := g6
          rw [e]
          rw [e] at g3
          exact ⟨a, o, rfl, by rw [frame_sl i ⟨⟨c, g4⟩, g3⟩]; exact k1, k2⟩
        | bor c =>
          simp at g2; subst g2
          obtain ⟨a, o, e, k1, k2⟩ := g6
          exact ⟨a, o, e, frame_old r k1, k2⟩
  · rcases own b w h1 with ⟨i, rfl, k1⟩ | ⟨j, c, rfl, n1, o1, _, k1⟩ <;> rcases own b w' h2 with ⟨i', rfl, k2⟩ | ⟨j', c', rfl, n2, o2, _, k2⟩
    · have := r.uq b _ _ k1 k2; exact this
    · have := r.uq b _ _ k1 k2; cases this
    · have := r.uq b _ _ k1 k2; cases this
    · have := r.uq b _ _ k1 k2
      simp only [Owner.pd.injEq] at this
      rw [hi j j' n1 n2 ⟨c, o1⟩ ⟨c', o2⟩ this]
  · rcases own b w h with ⟨i, _, k1⟩ | ⟨j, c, _, _, _, _, k1⟩
    · exact (r.zo b _ k1).1
    · exact (r.zo b _ k1).1
  · unfold frame at e
    split at e
    · rename_i hq
      rcases hq with ⟨i, z⟩ | ⟨i, _, z⟩
      · exact (r.ndx (by intro k e; cases e) z e).1 x rfl
      · exact (r.ndx (by intro k e; cases e) z e).1 x rfl
    · exact (r.no b x).2.1.1 e
  · unfold frame at e
    split at e
    · rename_i hq
      rcases hq with ⟨i, z⟩ | ⟨i, _, z⟩
      · exact (r.ndx (by intro k e; cases e) z e).2 rfl
      · exact (r.ndx (by intro k e; cases e) z e).2 rfl
    · exact (r.no b x).2.1.2 e
  · unfold frame
    split
    · rename_i hq
      rcases hq with ⟨i, z⟩ | ⟨i, _, z⟩
      · exact .inl (r.zo b _ z).1
      · exact .inl (r.zo b _ z).1
    · exact (r.no b x).2.2
  · unfold frame at e
    split at e
    · rename_i hq
      rcases hq with ⟨i, z⟩ | ⟨i, _, z⟩
      · exact r.ntb (by intro k e; cases e) z e
      · exact r.ntb (by intro k e; cases e) z e
    · exact (r.nt b).2 o e
/-- back in the caller -/
theorem Rel.back {M : List (R × V)} {hp' : List O} (r : Rel G Z F ρ s σ H (L ++ P)) (e : Same Z Z') (p : ρ <+: ρ') (r' : Rel G Z' (frame F ρ s σ L P H) ρ' ⟨[], hp'⟩ [] H' M) : Rel G Z' F ρ' { s with hp := hp' } σ H' (M ++ P) := by
  have slF : ∀ i a, Owns ρ s.sl σ (L ++ P) a (.sl i) → ∀ o, H a = some o → H' a = some o := fun i a h o ho => r'.fs a o (by rw [frame_sl i h]; exact ho)
  have pdF : ∀ i a, Owns ρ s.sl σ (L ++ P) a (.pd (L.length + i)) → ∀ o, H a = some o → H' a = some o := fun i a h o ho => r'.fs a o (by rw [frame_pd (L.length + i) (by omega) h]; exact ho)
  have ownP : ∀ i c a, P[i]? = some (R.own c, V.ref a) → Owns ρ s.sl σ (L ++ P) a (.pd (L.length + i)) := fun i c a h => ⟨c, by rw [List.getElem?_append_right (by omega)]; simpa using h⟩
  have frS : ∀ i a, Owns ρ s.sl σ (L ++ P) a (.sl i) → ∃ o, frame F ρ s σ L P H a = some o := fun i a h => by
    obtain ⟨o, ho⟩ := r.alive h
    exact ⟨o, by rw [frame_sl i h]; exact ho⟩
  have frP : ∀ i a, Owns ρ s.sl σ (L ++ P) a (.pd (L.length + i)) → ∃ o, frame F ρ s σ L P H a = some o := fun i a h => by
    obtain ⟨o, ho⟩ := r.alive h
    exact ⟨o, by rw [frame_pd (L.length + i) (by omega) h]; exact ho⟩
  -- the owners behind the call: the callee's, or the caller's
  have own : ∀ b w, Owns ρ' s.sl σ (M ++ P) b w → (∃ w', w = w' ∧ (∀ i, w' ≠ .sl i) ∧ Owns ρ' ([] : List (Option SV)) ([] : L2.St) M b w') ∨ (∃ i, w = .sl i ∧ Owns ρ s.sl σ (L ++ P) b (.sl i)) ∨ (∃ i, w = .pd (M.length + i) ∧ Owns ρ s.sl σ (L ++ P) b (.pd (L.length + i))) := fun b w h => by
    cases w with
    | hp i => exact .inl ⟨.hp i, rfl, (by intro _ z; cases z), h⟩
    | sl i => exact .inr (.inl ⟨i, rfl, h⟩)
    | pd i =>
      obtain ⟨c, h⟩ := h
      by_cases hi : i < M.length
      · rw [List.getElem?_append_left hi] at h
        exact .inl ⟨.pd i, rfl, (by intro _ z; cases z), ⟨c, h⟩⟩
      · rw [List.getElem?_append_right (by omega)] at h
        exact .inr (.inr ⟨i - M.length, by congr 1; omega, ownP _ c b h⟩)
  have noF : ∀ b w, Owns ρ' ([] : List (Option SV)) ([] : L2.St) M b w → frame F ρ s σ L P H b = none := fun b w h => (r'.zo b w h).2
  refine ⟨r'.zs, fun b u h => r'.fs b u (frame_old r h), r'.len, r'.hp, r.slen, fun i x h => ?_, fun i x v h => ?_, fun b w w' h1 h2 => ?_, fun b w h => ?_, fun b x => ⟨(r'.no b x).1, (r.no b x).2.1, ?_⟩, fun b => ⟨(r'.nt b).1, (r.nt b).2⟩⟩
  · obtain ⟨v, h1, h2⟩ := r.sl i x h
    refine ⟨v, h1, ?_⟩
    cases x with
    | val d => exact DRep.mono e p h2
    | bor c => obtain ⟨a, o, h3, h4, h5⟩ := h2; exact ⟨a, o, h3, h4, h5.mono e p⟩
    | own c =>
      obtain ⟨a, o, rfl, h4, h5⟩ := h2
      exact ⟨a, o, rfl, slF i a ⟨⟨c, h⟩, h1⟩ o h4, h5.mono e p⟩
  · by_cases hi : i < M.length
    · rw [List.getElem?_append_left hi] at h
      have g := r'.pd i x v h
      cases x with
      | val d => exact g
      | own c => exact g
      | slot j => have g1 : ([] : L2.St)[j]? = some (some v) := g; simp at g1
    · rw [List.getElem?_append_right (by omega)] at h
      have h' : (L ++ P)[L.length + (i - M.length)]? = some (x, v) := by rw [List.getElem?_append_right (by omega)]; simpa using h
      have g := r.pd _ x v h'
      cases x with
      | val d => exact DRep.mono e p g
      | slot j => exact g
      | own c =>
        obtain ⟨a, o, rfl, h4, h5⟩ := g
        exact ⟨a, o, rfl, pdF (i - M.length) a ⟨c, h'⟩ o h4, h5.mono e p⟩
  · rcases own b w h1 with ⟨z, rfl, _, k1⟩ | ⟨i, rfl, k1⟩ | ⟨i, rfl, k1⟩ <;> rcases own b w' h2 with ⟨z', rfl, _, k2⟩ | ⟨i', rfl, k2⟩ | ⟨i', rfl, k2⟩
    · exact r'.uq b _ _ k1 k2
    · obtain ⟨o, ho⟩ := frS i' b k2; rw [noF b _ k1] at ho; cases ho
    · obtain ⟨o, ho⟩ := frP i' b k2; rw [noF b _ k1] at ho; cases ho
    · obtain ⟨o, ho⟩ := frS i b k1; rw [noF b _ k2] at ho; cases ho
    · exact r.uq b _ _ k1 k2
    · have := r.uq b _ _ k1 k2; cases this
    · obtain ⟨o, ho⟩ := frP i b k1; rw [noF b _ k2] at ho; cases ho
    · have := r.uq b _ _ k1 k2; cases this
    · have := r.uq b _ _ k1 k2
      simp only [Owner.pd.injEq] at this
      congr 1; omega
  · rcases own b w h with ⟨z, rfl, _, k1⟩ | ⟨i, rfl, k1⟩ | ⟨i, rfl, k1⟩
    · refine ⟨(r'.zo b _ k1).1, ?_⟩
      cases q : F b with
      | none => rfl
      | some o => have := frame_old r q; rw [noF b _ k1] at this; cases this
    · obtain ⟨o, ho⟩ := frS i b k1
      refine ⟨?_, (r.zo b _ k1).2⟩
      rcases (r'.no b 0).2.2 with z | z
      · exact z
      · rw [ho] at z; cases z
    · obtain ⟨o, ho⟩ := frP i b k1
      refine ⟨?_, (r.zo b _ k1).2⟩
      rcases (r'.no b 0).2.2 with z | z
      · exact z
      · rw [ho] at z; cases z
  · rcases (r'.no b 0).2.2 with z | z
    · exact .inl z
    · refine .inr ?_
      cases q : F b with
      | none => rfl
      | some o => have := frame_old r q; rw [z] at this; cases this
/-- the callee's promise at arguments that are held -/
theorem call_sp {rs : List R} {vs : List V} {c : CallF} {f : Nat} {E : XK} {FF : Rec} (hc : FF.call = c) (r : Rel G Z F ρ s σ H (L ++ P)) (hl : rs.length = vs.length) (pos : Nat → Nat)
    (hp : ∀ (j : Nat) (x : R) (v : V), rs[j]? = some x → vs[j]? = some v → PRep G Z ρ H s.sl σ v x ∧ ∀ c, x = .own c → L[pos j]? = some (x, v)) (hi : ∀ j k : Nat, j < rs.length → k < rs.length → (∃ c, rs[j]? = some (.own c)) → (∃ c, rs[k]? = some (.own c)) → pos j = pos k → j = k)
    {K : R → S → Hp → Hp → List Addr → Prop} (h : GoesX G W Z F ρ σ P (callR FF f rs s) K) (hE : ∀ cls d H', W cls d σ H' → E cls d H')
    (hQ : ∀ v H1 r1 s1 Z1 ρ1, Same Z Z1 → ρ <+: ρ1 → Rel G Z1 F ρ1 s1 σ H1 ((r1, v) :: P) → s1.sl = s.sl → K r1 s1 H1 Z1 ρ1 → Q v H1) : spD G c f rs.length vs H Q E := by
  unfold callR at h
  split at h
  · exact h.elim
  · rename_i svs ha
    refine ⟨hl.symm, Z, _, ρ, svs, s.hp, r.callee hl ha pos hp hi, ?_⟩
    rw [← hc]
    split at h
    · exact h.elim
    · rename_i x hp' q
      rw [q]
      intro cls d H' Z' ρ' e p x r'
      exact hE _ _ _ (h cls d H' Z' ρ' e p x (r.back e p r'))
    · rename_i r1 hp' q
      rw [q]
      intro v H' Z' ρ' e p r'
      exact hQ v H' r1 _ Z' ρ' e p (r.back e p r') rfl (h H' Z' ρ' e p)
end
end Ri

set_option maxRecDepth 100000
/-! Ri, part J: statements without loops. -/
namespace Ri
open PySem L2
def GoesS (G : Cfg) (W : WX) (Z F : Hp) (ρ : List Addr) (P : List (R × V)) (res : Res Fl) (D : Ends) : Prop :=
  match res with
  | none => False
  | some (.ok .next, s') => ∀ σ' H' Z' ρ', Same Z Z' → ρ <+: ρ' → Rel G Z' F ρ' s' σ' H' P → D.nx σ' H'
  | some (.ok .brk, s') => ∀ σ' H' Z' ρ', Same Z Z' → ρ <+: ρ' → Rel G Z' F ρ' s' σ' H' P → D.bk σ' H'
  | some (.ok .cnt, s') => ∀ σ' H' Z' ρ', Same Z Z' → ρ <+: ρ' → Rel G Z' F ρ' s' σ' H' P → D.ct σ' H'
  | some (.ok (.ret r), s') => ∀ v σ' H' Z' ρ', Same Z Z' → ρ <+: ρ' → Rel G Z' F ρ' s' σ' H' ((r, v) :: P) → D.rt v H'
  | some (.error x, s') => ∀ cls d σ' H' Z' ρ', Same Z Z' → ρ <+: ρ' → XRep G Z' ρ' H' x cls d → Rel G Z' F ρ' s' σ' H' P → W cls d σ' H'
def TSt (G : Cfg) (W : WX) (m : S → Res Fl) : TS := fun D σ H => ∃ Z F ρ s P, NoSlot P ∧ Rel G Z F ρ s σ H P ∧ GoesS G W Z F ρ P (m s) D
theorem PS.imp {X : Cx} {e : Stmt} {t t' : TS} (h : PS X e t) (k : ∀ D σ H, t' D σ H → t D σ H) : PS X e t' :=
  ⟨fun pins s σ H D I hw => h.run pins s σ H D I (k D σ H hw)⟩
theorem PSs.imp {X : Cx} {e : List Stmt} {t t' : TS} (h : PSs X e t) (k : ∀ D σ H, t' D σ H → t D σ H) : PSs X e t' :=
  ⟨fun pins s σ H D I hw => h.run pins s σ H D I (k D σ H hw)⟩
theorem PG.imp {X : Cx} {e : Expr} {t t' : TG} (h : PG X e t) (k : ∀ v σ H Q, t' v σ H Q → t v σ H Q) : PG X e t' :=
  ⟨fun pins s σ H v u Q I r hw => h.run pins s σ H v u Q I r (k v σ H Q hw)⟩
section
variable {G : Cfg} {W : WX} {Z Z' H H' F : Hp} {ρ ρ' : List Addr} {s : S} {σ : L2.St} {P : List (R × V)} {D D' : Ends}
theorem GoesS.mono {res : Res Fl} (h : GoesS G W Z F ρ P res D) (e : Same Z Z') (p : ρ <+: ρ') : GoesS G W Z' F ρ' P res D := by
  rcases res with _ | ⟨_ | f, s'⟩
  · exact h
  · exact fun cls d σ1 H1 Z1 ρ1 e1 p1 => h cls d σ1 H1 Z1 ρ1 (e.trans e1) (List.IsPrefix.trans p p1)
  · cases f with
    | next => exact fun σ1 H1 Z1 ρ1 e1 p1 => h σ1 H1 Z1 ρ1 (e.trans e1) (List.IsPrefix.trans p p1)
    | brk => exact fun σ1 H1 Z1 ρ1 e1 p1 => h σ1 H1 Z1 ρ1 (e.trans e1) (List.IsPrefix.trans p p1)
    | cnt => exact fun σ1 H1 Z1 ρ1 e1 p1 => h σ1 H1 Z1 ρ1 (e.trans e1) (List.IsPrefix.trans p p1)
    | ret r => exact fun v σ1 H1 Z1 ρ1 e1 p1 => h v σ1 H1 Z1 ρ1 (e.trans e1) (List.IsPrefix.trans p p1)
/-- an expression ahead -/
theorem goesS_bind {m : S → Res R} {f : R → S → Res Fl} (L : List (R × V)) (r : Rel G Z F ρ s σ H (L ++ P)) (h : GoesS G W Z F ρ P (bd (m s) f) D) {Q' : VK}
    (k : ∀ v H1 r1 s1 Z1 ρ1, Same Z Z1 → ρ <+: ρ1 → Rel G Z1 F ρ1 s1 σ H1 ((r1, v) :: (L ++ P)) → GoesS G W Z1 F ρ1 P (f r1 s1) D → Q' v H1) : T G W m σ H Q' := by
  refine ⟨Z, F, ρ, s, L ++ P, r, ?_⟩
  rcases e : m s with _ | ⟨_ | a, s'⟩
  · rw [e] at h; exact h
  · rw [e] at h
    exact fun cls d H1 Z1 ρ1 e1 p1 x1 r1 => h cls d σ H1 Z1 ρ1 e1 p1 x1 (Rel.drop L r1)
  · rw [e] at h
    exact fun v H1 Z1 ρ1 e1 p1 r1 => k v H1 a s' Z1 ρ1 e1 p1 r1 (GoesS.mono h e1 p1)
theorem goesS_bindB {m : S → Res Bool} {f : Bool → S → Res Fl} (r : Rel G Z F ρ s σ H P) (h : GoesS G W Z F ρ P (bd (m s) f) D) {Q' : Bool → Hp → Prop}
    (k : ∀ b H1 s1 Z1 ρ1, Same Z Z1 → ρ <+: ρ1 → Rel G Z1 F ρ1 s1 σ H1 P → GoesS G W Z1 F ρ1 P (f b s1) D → Q' b H1) : TB G W m σ H Q' := by
  refine ⟨Z, F, ρ, s, P, r, ?_⟩
  rcases e : m s with _ | ⟨_ | a, s'⟩
  · rw [e] at h; exact h
  · rw [e] at h
    exact fun cls d H1 Z1 ρ1 e1 p1 x1 r1 => h cls d σ H1 Z1 ρ1 e1 p1 x1 r1
  · rw [e] at h
    exact fun H1 Z1 ρ1 e1 p1 r1 => k a H1 s' Z1 ρ1 e1 p1 r1 (GoesS.mono h e1 p1)
theorem goesS_args {m : S → Res (List R)} {f : List R → S → Res Fl} (L : List (R × V)) (r : Rel G Z F ρ s σ H (L ++ P)) (h : GoesS G W Z F ρ P (bd (m s) f) D) {Q' : List V → Hp → Prop}
    (k : ∀ vs H1 rs s1 Z1 ρ1, Same Z Z1 → ρ <+: ρ1 → rs.length = vs.length → Rel G Z1 F ρ1 s1 σ H1 ((rs.zip vs).reverse ++ (L ++ P)) → GoesS G W Z1 F ρ1 P (f rs s1) D → Q' vs H1) : TAr G W m σ H Q' := by
  refine ⟨Z, F, ρ, s, L ++ P, r, ?_⟩
  rcases e : m s with _ | ⟨_ | a, s'⟩
  · rw [e] at h; exact h
  · rw [e] at h
    exact fun cls d H1 Z1 ρ1 e1 p1 x1 r1 => h cls d σ H1 Z1 ρ1 e1 p1 x1 (Rel.drop L r1)
  · rw [e] at h
    exact fun H1 Z1 ρ1 e1 p1 vs hl r1 => k vs H1 a s' Z1 ρ1 e1 p1 hl r1 (GoesS.mono h e1 p1)
theorem GoesS.next (h : GoesS G W Z F ρ P (ok .next s) D) (r : Rel G Z F ρ s σ H P) : D.nx σ H := h σ H Z ρ (Same.refl _) (List.prefix_refl _) r

/-! ### targets -/
def GoesU (G : Cfg) (W : WX) (Z F : Hp) (ρ : List Addr) (P : List (R × V)) (res : Res Unit) (Q : L2.St → Hp → Prop) : Prop :=
  match res with
  | none => False
  | some (.ok _, s') => ∀ σ' H' Z' ρ', Same Z Z' → ρ <+: ρ' → Rel G Z' F ρ' s' σ' H' P → Q σ' H'
  | some (.error x, s') => ∀ cls d σ' H' Z' ρ', Same Z Z' → ρ <+: ρ' → XRep G Z' ρ' H' x cls d → Rel G Z' F ρ' s' σ' H' P → W cls d σ' H'
def TGd (G : Cfg) (W : WX) (m : Ri.D → S → Res Unit) : TG := fun v σ H Q => ∃ Z F ρ s P d, NoSlot P ∧ Rel G Z F ρ s σ H P ∧ DRep G Z ρ d v ∧ GoesU G W Z F ρ P (m d s) Q
def TGds (G : Cfg) (W : WX) (m : List Ri.D → S → Res Unit) : TGs := fun vs σ H Q => ∃ Z F ρ s P ds, NoSlot P ∧ Rel G Z F ρ s σ H P ∧ DReps G Z ρ ds vs ∧ GoesU G W Z F ρ P (m ds s) Q
theorem GoesU.mono {res : Res Unit} {Q : L2.St → Hp → Prop} (h : GoesU G W Z F ρ P res Q) (e : Same Z Z') (p : ρ <+: ρ') : GoesU G W Z' F ρ' P res Q := by
  rcases res with _ | ⟨_ | f, s'⟩
  · exact h
  · exact fun cls d σ1 H1 Z1 ρ1 e1 p1 => h cls d σ1 H1 Z1 ρ1 (e.trans e1) (List.IsPrefix.trans p p1)
  · exact fun σ1 H1 Z1 ρ1 e1 p1 => h σ1 H1 Z1 ρ1 (e.trans e1) (List.IsPrefix.trans p p1)
theorem goesU_bind {m : S → Res R} {f : R → S → Res Unit} {Q : L2.St → Hp → Prop} (L : List (R × V)) (r : Rel G Z F ρ s σ H (L ++ P)) (h : GoesU G W Z F ρ P (bd (m s) f) Q) {Q' : VK}
    (k : ∀ v H1 r1 s1 Z1 ρ1, Same Z Z1 → ρ <+: ρ1 → Rel G Z1 F ρ1 s1 σ H1 ((r1, v) :: (L ++ P)) → GoesU G W Z1 F ρ1 P (f r1 s1) Q → Q' v H1) : T G W m σ H Q' := by
  refine ⟨Z, F, ρ, s, L ++ P, r, ?_⟩
  rcases e : m s with _ | ⟨_ | a, s'⟩
  · rw [e] at h; exact h
  · rw [e] at h
    exact fun cls d H1 Z1 ρ1 e1 p1 x1 r1 => h cls d σ H1 Z1 ρ1 e1 p1 x1 (Rel.drop L r1)
  · rw [e] at h
    exact fun v H1 Z1 ρ1 e1 p1 r1 => k v H1 a s' Z1 ρ1 e1 p1 r1 (GoesU.mono h e1 p1)
/-- a target's store, then anything of a statement -/
theorem goesS_bindU {m : S → Res Unit} {f : Unit → S → Res Fl} (h : GoesS G W Z F ρ P (bd (m s) f) D) : GoesU G W Z F ρ P (m s) fun σ' H' => ∃ Z1 ρ1 s1, Same Z Z1 ∧ ρ <+: ρ1 ∧ Rel G Z1 F ρ1 s1 σ' H' P ∧ GoesS G W Z1 F ρ1 P (f () s1) D := by
  rcases e : m s with _ | ⟨_ | a, s'⟩
  · rw [e] at h; exact h
  · rw [e] at h; exact h
  · rw [e] at h
    exact fun σ1 H1 Z1 ρ1 e1 p1 r1 => ⟨Z1, ρ1, s', e1, p1, r1, GoesS.mono h e1 p1⟩
end
def CG (X : Cx) (G : Cfg) (W : WX) (tb : Tb) (c : CallF) (e : Expr) (t : Tg) : Prop := ∀ n, PG X e (TGd G W (asgT (run tb c n) t))
def CGs (X : Cx) (G : Cfg) (W : WX) (tb : Tb) (c : CallF) (es : List Expr) (ts : List Tg) : Prop := ∀ n, PGs X es (TGds G W (asgTs (run tb c n) ts))
theorem PGs.imp {X : Cx} {e : List Expr} {t t' : TGs} (h : PGs X e t) (k : ∀ v σ H Q, t' v σ H Q → t v σ H Q) : PGs X e t' :=
  ⟨fun pins s σ H v u Q I r hw => h.run pins s σ H v u Q I r (k v σ H Q hw)⟩
section
variable {X : Cx} {G : Cfg} {W : WX} {tb : Tb} {c : CallF} {a b d e tg : Expr} {ia ib id ie : E} {pos p p2 : Pos} {es : List Expr} {is : List E} {t : Tg} {ts : List Tg} {x : Str} {i k : Nat}
theorem asgT_nm {F : Rec} {i : Nat} {d : D} {s : S} : asgT F (.nm i) d s = if i < s.sl.length then ok () { s with sl := s.sl.set i (some (.val d)) } else none := by rw [asgT]
theorem cg_name (hN : X.N.Nodup) (hi : X.N[i]? = some x) (hx : Loc X.env.scope x) (hf : X.fn x = true ∨ X.env.scope.names.lookup x = some .local := by first | exact .inl rfl | exact .inr rfl | assumption) : CG X G W tb c (.Name x pos) (.nm i) := fun n => by
  refine PG.imp (pg_name hN hi hx hf) fun v σ H Q ⟨Z, F, ρ, s, P, d, ns, rel, hd, g⟩ => ?_
  rw [asgT_nm] at g
  split at g
  · rename_i hl
    exact g _ H Z ρ (Same.refl _) (List.prefix_refl _) ((rel.pushVal hd).store (by rw [← rel.slen]; exact hl) rfl ns)
  · exact g.elim
theorem cgs_nil : CGs X G W tb c [] [] := fun n => by
  refine PGs.imp pgs_nil fun v σ H Q ⟨Z, F, ρ, s, P, ds, ns, rel, hd, g⟩ => ?_
  rw [asgTs.eq_def] at g
  cases hd with
  | nil => exact ⟨rfl, g σ H Z ρ (Same.refl _) (List.prefix_refl _) rel⟩
  | cons _ _ => exact g.elim
theorem cgs_cons (h1 : CG X G W tb c e t) (h2 : CGs X G W tb c es ts) (hs : (assignEach (e :: es) X.env).map (·.2) = assign e X.env :: (assignEach es X.env).map (·.2) := by rfl) : CGs X G W tb c (e :: es) (t :: ts) := fun n => by
  refine PGs.imp (pgs_cons (h1 n) (h2 n) hs) fun vall σ H Q ⟨Z, F, ρ, s, P, ds, ns, rel, hd, g⟩ => ?_
  rw [asgTs.eq_def] at g
  cases hd with
  | nil => exact g.elim
  | @cons d ds v vs hd1 hd2 =>
    refine ⟨v, vs, rfl, Z, F, ρ, s, P, d, ns, rel, hd1, ?_⟩
    dsimp only at g
    rcases q : asgT (run tb c n) t d s with _ | ⟨_ | u, s'⟩
    · rw [q] at g; exact g
    · rw [q] at g; exact g
    · rw [q] at g
      exact fun σ1 H1 Z1 ρ1 e1 p1 r1 => ⟨Z1, F, ρ1, s', P, ds, ns, r1, hd2.mono e1 p1, GoesU.mono g e1 p1⟩
theorem asgT_tp {F : Rec} {ds : List D} {s : S} : asgT F (.tp ts) (.tup ds) s = if ds.length = ts.length then asgTs F ts ds s else none := by rw [asgT.eq_def]
theorem cg_tup {kk : Nat} (hK : G.K = X.K) (hc : X.calm = true) (h : CGs X G W tb c es ts) (hn : (assignEach es X.env).length = ts.length := by rfl) (hst : (assignEach es X.env).findIdx? (·.1) = none := by rfl) : CG X G W tb c (.Tuple es kk pos) (.tp ts) := fun n => by
  refine PG.imp (pg_tup hc (h n) hn hst) fun v σ H Q ⟨Z, F, ρ, s, P, d, ns, rel, hd, g⟩ => ?_
  cases d with
  | tup ds =>
    rw [asgT_tp] at g
    split at g
    · rename_i hl
      cases hd with
      | tup h1 h2 => exact ⟨_, _, rfl, by rw [← hK]; exact Same.sqT rel.zs h1, by rw [← h2.length]; exact hl, Z, F, ρ, s, P, _, ns, rel, h2, g⟩
    · exact g.elim
  | _ => rw [asgT.eq_def] at g; exact g.elim

/-! ### a[i] = v -/
theorem cg_sub (ha : CE X G W tb c a ia) (hb : CE X G W tb c b ib)
    (has : ∀ v, assign (.Subscript a b pos) X.env v = (do
      let ov ← holding [v] (eval a X.env)
      let iv ← holding [v, ov] (eval b X.env)
      standAt pos
      holding [v, ov, iv] (setItem ov iv v)
      release [v, ov, iv] []) := by intro _; rfl) : CG X G W tb c (.Subscript a b pos) (.sub ia ib) := fun n => by
  refine PG.imp (pg_sub (ha n) (hb n) set_list has) fun v σ H Q ⟨Z, F, ρ, s, P, d, ns, rel, hd, g⟩ => ?_
  rw [asgT.eq_def] at g
  refine goesU_bind [] rel g fun x H1 ra s1 Z1 ρ1 e1 p1 r1 g1 => ?_
  refine goesU_bind [(ra, x)] r1 g1 fun y H2 rb s2 Z2 ρ2 e2 p2 r2 g2 => ?_
  have hd2 : DRep G Z2 ρ2 d v := (hd.mono e1 p1).mono e2 p2
  split at g2
  · rename_i j
    have hy := r2.head
    cases hy
    split at g2
    · rename_i m
      split at g2
      · rename_i xs hxs
        split at g2
        · rename_i k hk
          have h1 := r2.second
          simp only [PRep] at h1
          obtain ⟨v', h3, l, o, rfl, h4, vs, rfl, h5⟩ := r2.sl m _ hxs
          rw [h1] at h3; cases h3
          refine ⟨l, vs, j, k, rfl, rfl, h4, by rw [← h5.length]; exact hk, ?_⟩
          exact g2 σ _ Z2 ρ2 (Same.refl _) (List.prefix_refl _) ((Rel.drop [(_, _), (_, _)] r2).setSlot hxs h1 ⟨_, rfl, h5.set hd2 k⟩)
        · exact g2.elim
      · exact g2.elim
    · rename_i m
      split at g2
      · rename_i xs hxs
        split at g2
        · rename_i k hk
          have hx := r2.second
          cases hx with
          | ref hr =>
            obtain ⟨vs, h4, h5⟩ := r2.hp m _ _ hxs hr
            refine ⟨_, vs, j, k, rfl, rfl, h4, by rw [← h5.length]; exact hk, ?_⟩
            refine g2 σ _ Z2 ρ2 (Same.refl _) (List.prefix_refl _) ((Rel.drop [(_, _), (_, _)] r2).writeHp hr h4 .lst (fun b u hb e _ => by rw [upd_ne hb]; exact e) ⟨_, upd_same, h5.set hd2 k⟩)
        · exact g2.elim
      · exact g2.elim
    · exact g2.elim
  · exact g2.elim

/-! ### the statements -/
/-- the statement st is the term i -/
def CS (X : Cx) (G : Cfg) (W : WX) (tb : Tb) (c : CallF) (st : Stmt) (i : Stm) : Prop := ∀ n, PS X st (TSt G W ((run tb c n).st i))
def CSs (X : Cx) (G : Cfg) (W : WX) (tb : Tb) (c : CallF) (st : List Stmt) (i : List Stm) : Prop := ∀ n, PSs X st (TSt G W (execs (run tb c n) i))
variable {st : Stmt} {sts : List Stmt} {iss : List Stm} {ist : Stm}
theorem cs_of {t : Nat → TS} (h : ∀ n, PS X st (t n)) (k : ∀ n D σ H, TSt G W (stepS (run tb c n) ist) D σ H → t n D σ H) : CS X G W tb c st ist := fun n => by
  cases n with
  | zero => exact ⟨fun pins s σ H Q I ⟨_, _, _, _, _, _, _, z⟩ => z.elim⟩
  | succ n => exact PS.imp (h n) (k n)
theorem css_nil : CSs X G W tb c [] [] := fun n => by
  refine PSs.imp pss_nil fun Dn σ H ⟨Z, F, ρ, s, P, ns, rel, g⟩ => ?_
  exact GoesS.next g rel
theorem css_cons (h1 : CS X G W tb c st ist) (h2 : CSs X G W tb c sts iss) : CSs X G W tb c (st :: sts) (ist :: iss) := fun n => by
  refine PSs.imp (pss_cons (h1 n) (h2 n)) fun Dn σ H ⟨Z, F, ρ, s, P, ns, rel, g⟩ => ⟨Z, F, ρ, s, P, ns, rel, ?_⟩
  replace g : GoesS G W Z F ρ P (bd ((run tb c n).st ist s) fun f s => match f with | .next => execs (run tb c n) iss s | f => ok f s) Dn := g
  rcases q : (run tb c n).st ist s with _ | ⟨_ | f, s'⟩
  · rw [q] at g; exact g
  · rw [q] at g; exact g
  · rw [q] at g
    cases f with
    | next => exact fun σ1 H1 Z1 ρ1 e1 p1 r1 => ⟨Z1, F, ρ1, s', P, ns, r1, GoesS.mono g e1 p1⟩
    | brk => exact g
    | cnt => exact g
    | ret r => exact g
theorem cs_pass : CS X G W tb c (.Pass pos) .pass := cs_of (fun _ => ps_pass) fun n Dn σ H ⟨Z, F, ρ, s, P, ns, rel, g⟩ => GoesS.next g rel
theorem cs_brk : CS X G W tb c (.Break pos) .brk := cs_of (fun _ => ps_break) fun n Dn σ H ⟨Z, F, ρ, s, P, ns, rel, g⟩ => g σ H Z ρ (Same.refl _) (List.prefix_refl _) rel
theorem cs_cnt : CS X G W tb c (.Continue pos) .cnt := cs_of (fun _ => ps_continue) fun n Dn σ H ⟨Z, F, ρ, s, P, ns, rel, g⟩ => g σ H Z ρ (Same.refl _) (List.prefix_refl _) rel
theorem cs_expr (h : CE X G W tb c e ie) (hs : swapsWith e none pos.line X.env = pure false := by rfl) : CS X G W tb c (.Expr e pos) (.ex ie) := by
  refine cs_of (fun n => ps_expr (h n) hs) fun n Dn σ H ⟨Z, F, ρ, s, P, ns, rel, g⟩ => ?_
  exact goesS_bind [] rel g fun v H1 r1 s1 Z1 ρ1 e1 p1 rel1 g1 => GoesS.next g1 rel1.pop
theorem cs_retN : CS X G W tb c (.Return none pos) (.ret none) := cs_of (fun _ => ps_retN) fun n Dn σ H ⟨Z, F, ρ, s, P, ns, rel, g⟩ => g _ σ H Z ρ (Same.refl _) (List.prefix_refl _) (rel.pushVal .non)
theorem cs_ret (h : CE X G W tb c e ie) : CS X G W tb c (.Return (some e) pos) (.ret (some ie)) := by
  refine cs_of (fun n => ps_ret (h n)) fun n Dn σ H ⟨Z, F, ρ, s, P, ns, rel, g⟩ => ?_
  refine goesS_bind [] rel g fun v H1 r1 s1 Z1 ρ1 e1 p1 rel1 g1 => ?_
  unfold retR at g1
  split at g1
  · rename_i i
    split at g1
    · rename_i d hd
      have h1 : σ[i]? = some (some v) := rel1.head
      obtain ⟨v', h2, h3⟩ := rel1.sl i _ hd
      rw [h1] at h2; cases h2
      exact g1 v σ H1 Z1 ρ1 (Same.refl _) (List.prefix_refl _) (rel1.pop.pushVal h3)
    · rename_i cc hd
      have h1 : σ[i]? = some (some v) := rel1.head
      exact g1 v σ H1 Z1 ρ1 (Same.refl _) (List.prefix_refl _) (rel1.pop.take hd h1 ns)
    · exact g1.elim
  · exact g1 v σ H1 Z1 ρ1 (Same.refl _) (List.prefix_refl _) rel1
theorem cs_if (hd : CT X G W tb c d id) {sa sb : List Stmt} {ja jb : List Stm} (ha : CSs X G W tb c sa ja) (hb : CSs X G W tb c sb jb) : CS X G W tb c (.If d sa sb pos) (.if_ id ja jb) := by
  refine cs_of (fun n => ps_if (hd n) (ha n) (hb n)) fun n Dn σ H ⟨Z, F, ρ, s, P, ns, rel, g⟩ => ?_
  refine goesS_bindB rel g fun k H1 s1 Z1 ρ1 e1 p1 r1 g1 => ?_
  cases k with
  | true => exact ⟨Z1, F, ρ1, s1, P, ns, r1, g1⟩
  | false => exact ⟨Z1, F, ρ1, s1, P, ns, r1, g1⟩
/-- x = e -/
theorem cs_setP {st : Stmt} (hP : ∀ n, PS X st (tAsg (T G W ((run tb c n).ex ie)) (gName i))) : CS X G W tb c st (.asg (.nm i) ie) := by
  refine cs_of hP fun n Dn σ H ⟨Z, F, ρ, s, P, ns, rel, g⟩ => ?_
  refine goesS_bind [] rel g fun v H1 r1 s1 Z1 ρ1 e1 p1 rel1 g1 => ?_
  cases r1 with
  | own cc =>
    replace g1 : GoesS G W Z1 F ρ1 P (bd (if i < s1.sl.length then ok () { s1 with sl := s1.sl.set i (some (.own cc)) } else none) fun _ s => ok .next s) Dn := g1
    split at g1
    · rename_i hl
      exact GoesS.next g1 (rel1.store (by rw [← rel1.slen]; exact hl) rfl ns)
    · exact g1.elim
  | val d =>
    replace g1 : GoesS G W Z1 F ρ1 P (bd (asgT (run tb c n) (.nm i) d s1) fun _ s => ok .next s) Dn := g1
    rw [asgT_nm] at g1
    split at g1
    · rename_i hl
      exact GoesS.next g1 (rel1.store (by rw [← rel1.slen]; exact hl) rfl ns)
    · exact g1.elim
  | slot j =>
    replace g1 : GoesS G W Z1 F ρ1 P (bd (bd (freeze (.slot j) s1) fun d s => asgT (run tb c n) (.nm i) d s) fun _ s => ok .next s) Dn := g1
    rcases freeze_ok (r := .slot j) (s := s1) with ⟨d, s2, q⟩ | q
    · rw [q] at g1
      obtain ⟨Z2, e2, rel2⟩ := goes_freeze rel1 q
      replace g1 : GoesS G W Z1 F ρ1 P (bd (asgT (run tb c n) (.nm i) d s2) fun _ s => ok .next s) Dn := g1
      rw [asgT_nm] at g1
      split at g1
      · rename_i hl
        exact GoesS.next (GoesS.mono g1 e2 (List.prefix_refl _)) (rel2.store (by rw [← rel2.slen]; exact hl) rfl ns)
      · exact g1.elim
    · rw [q] at g1; exact g1.elim
/-- target = e, the target no name -/
theorem cs_set (hN : X.N.Nodup) (hi : X.N[i]? = some x) (hx : Loc X.env.scope x) (he : CE X G W tb c e ie) (hs : swapsWith e (some (.Name x p2)) pos.line X.env = pure false := by rfl) (hf : X.fn x = true ∨ X.env.scope.names.lookup x = some .local := by first | exact .inl rfl | exact .inr rfl | assumption) :
    CS X G W tb c (.Assign [.Name x p2] e pos) (.asg (.nm i) ie) := cs_setP fun n => ps_set hN hi hx (he n) hs hf
theorem cs_asg (hg : CG X G W tb c tg t) (ht : ∀ i, t ≠ .nm i) (he : CE X G W tb c e ie) (hs : swapsWithSole [tg] e pos.line X.env = pure false := by rfl) (hw : swappedStores [tg] e X.env = pure none := by rfl) (h1 : (assignEach [tg] X.env).map (·.2) = [assign tg X.env] := by rfl) :
    CS X G W tb c (.Assign [tg] e pos) (.asg t ie) := by
  refine cs_of (fun n => ps_asg (he n) (hg n) hs hw h1) fun n Dn σ H ⟨Z, F, ρ, s, P, ns, rel, g⟩ => ?_
  refine goesS_bind [] rel g fun v H1 r1 s1 Z1 ρ1 e1 p1 rel1 g1 => ?_
  have ea : asgR (run tb c n) t r1 s1 = bd (freeze r1 s1) fun d s => asgT (run tb c n) t d s := by
    cases t with
    | nm i => exact absurd rfl (ht i)
    | _ => cases r1 <;> rfl
  rw [ea] at g1
  rcases freeze_ok (r := r1) (s := s1) with ⟨d, s2, q⟩ | q
  · rw [q] at g1
    obtain ⟨Z2, e2, rel2⟩ := goes_freeze rel1 q
    replace g1 : GoesS G W Z1 F ρ1 P (bd (asgT (run tb c n) t d s2) fun _ s => ok .next s) Dn := g1
    refine ⟨Z2, F, ρ1, s2, P, d, ns, rel2.pop, rel2.head, ?_⟩
    have g2 := goesS_bindU (m := asgT (run tb c n) t d) (GoesS.mono g1 e2 (List.prefix_refl _))
    revert g2
    generalize asgT (run tb c n) t d s2 = res
    intro g2
    rcases res with _ | ⟨_ | u, s'⟩
    · exact g2
    · exact g2
    · intro σ1 H3 Z3 ρ3 e3 p3 r3
      obtain ⟨Z4, ρ4, s4, e4, p4, r4, g4⟩ := g2 σ1 H3 Z3 ρ3 e3 p3 r3
      exact GoesS.next g4 r4
  · rw [q] at g1; exact g1.elim
end
end Ri

set_option maxRecDepth 100000
/-! Ri, part K: what is walked; for. -/
namespace Ri
open PySem L2
theorem PI.or {X : Cx} {tg e : Expr} {w w' : TI} (h : PI X tg e w) (h' : PI X tg e w') : PI X tg e (fun σ H R => w σ H R ∨ w' σ H R) :=
  ⟨fun pins s σ H R I q => q.elim (h.run pins s σ H R I) (h'.run pins s σ H R I)⟩
theorem PI.imp {X : Cx} {tg e : Expr} {w w' : TI} (h : PI X tg e w) (k : ∀ σ H R, w' σ H R → w σ H R) : PI X tg e w' :=
  ⟨fun pins s σ H R I q => h.run pins s σ H R I (k σ H R q)⟩
/-- what is walked: it stays -/
def WRep (G : Cfg) (Z F : Hp) (ρ : List Addr) (v : V) : D → Prop
  | .lst xs => ∃ a vs, v = .ref a ∧ (Z a = some (.lst vs) ∨ F a = some (.lst vs)) ∧ DReps G Z ρ xs vs
  | d => DRep G Z ρ d v
inductive WReps (G : Cfg) (Z F : Hp) (ρ : List Addr) : List V → List D → Prop
  | nil : WReps G Z F ρ [] []
  | cons {v : V} {vs : List V} {d : D} {ds : List D} : WRep G Z F ρ v d → WReps G Z F ρ vs ds → WReps G Z F ρ (v :: vs) (d :: ds)
section
variable {G : Cfg} {W : WX} {Z Z' H H' F : Hp} {ρ ρ' : List Addr} {s : S} {σ : L2.St} {P : List (R × V)} {Q : VK}
theorem WRep.mono {v : V} {d : D} (e : Same Z Z') (p : ρ <+: ρ') (h : WRep G Z F ρ v d) : WRep G Z' F ρ' v d := by
  cases d with
  | lst xs =>
    obtain ⟨a, vs, h1, h2, h3⟩ := h
    exact ⟨a, vs, h1, h2.imp (fun z => e _ _ z) id, h3.mono e p⟩
  | _ => exact DRep.mono (G := G) e p h
theorem WReps.mono (e : Same Z Z') (p : ρ <+: ρ') : ∀ {vs : List V} {ds : List D}, WReps G Z F ρ vs ds → WReps G Z' F ρ' vs ds
  | _, _, .nil => .nil
  | _, _, .cons h r => .cons (h.mono e p) (WReps.mono e p r)
theorem WRep.of {v : V} {d : D} (h : DRep G Z ρ d v) : WRep G Z F ρ v d := by
  cases h with
  | lst h r => exact ⟨_, _, rfl, .inl h, r⟩
  | non => exact .non
  | bl b => exact .bl b
  | int i => exact .int i
  | str x h1 h2 => exact .str x h1 h2
  | tup h r => exact .tup h r
  | klst h r q => exact .klst h r q
  | ins h r => exact .ins h r
  | ref h => exact .ref h
  | fn h => exact .fn h
theorem WRep.nrep {v : V} {d : D} (rel : Rel G Z F ρ s σ H P) (h : WRep G Z F ρ v d) : NRep G Z ρ H v d := by
  cases d with
  | lst xs =>
    obtain ⟨a, vs, h1, h2, h3⟩ := h
    exact ⟨a, vs, h1, h2.elim (rel.zs _ _) (rel.fs _ _), h3⟩
  | _ => exact NRep.of (G := G) rel.zs h
def TVI (G : Cfg) (W : WX) (m : S → Res (List D)) : TA := fun σ H Q => ∃ Z F ρ s P, Rel G Z F ρ s σ H P ∧
  GoesX G W Z F ρ σ P (m s) fun ds s' H' Z' ρ' => ∀ vs, WReps G Z' F ρ' vs ds → Rel G Z' F ρ' s' σ H' P → Q vs H'
theorem goesX_itR {α : Type} {r : R} {v : V} {f : D → S → Res α} {K : α → S → Hp → Hp → List Addr → Prop} (rel : Rel G Z F ρ s σ H ((r, v) :: P)) (h : GoesX G W Z F ρ σ P (bd (itR r s) f) K) :
    ∃ d s' Z', Same Z Z' ∧ Rel G Z' F ρ s' σ H P ∧ WRep G Z' F ρ v d ∧ GoesX G W Z' F ρ σ P (f d s') K := by
  have plain : GoesX G W Z F ρ σ P (bd (freeze r s) f) K → ∃ d s' Z', Same Z Z' ∧ Rel G Z' F ρ s' σ H P ∧ WRep G Z' F ρ v d ∧ GoesX G W Z' F ρ σ P (f d s') K := fun h => by
    obtain ⟨d, s', Z', e, r1, g⟩ := goesX_freeze rel h
    exact ⟨d, s', Z', e, r1.pop, .of r1.head, g⟩
  unfold itR at h
  split at h
  · rename_i i
    split at h
    · rename_i c hc
      have h1 : σ[i]? = some (some v) := rel.head
      obtain ⟨v', h2, a, o, rfl, h3, h4⟩ := rel.sl i _ hc
      rw [h1] at h2; cases h2
      refine ⟨conts c, s, Z, Same.refl _, rel.pop, ?_, h⟩
      cases c with
      | lst xs => obtain ⟨vs, rfl, h5⟩ := h4; exact ⟨a, vs, rfl, .inr h3, h5⟩
    · exact plain h
  · exact plain h
theorem goesX_iter {α : Type} {m : S → Res (List D)} {f : List D → S → Res α} {K : α → S → Hp → Hp → List Addr → Prop} (r : Rel G Z F ρ s σ H P) (h : GoesX G W Z F ρ σ P (bd (m s) f) K) {Q' : List V → Hp → Prop}
    (k : ∀ vs H1 ds s1 Z1 ρ1, Same Z Z1 → ρ <+: ρ1 → WReps G Z1 F ρ1 vs ds → Rel G Z1 F ρ1 s1 σ H1 P → GoesX G W Z1 F ρ1 σ P (f ds s1) K → Q' vs H1) : TVI G W m σ H Q' := by
  refine ⟨Z, F, ρ, s, P, r, ?_⟩
  rcases e : m s with _ | ⟨_ | a, s'⟩
  · rw [e] at h; exact h
  · rw [e] at h; exact h
  · rw [e] at h
    exact fun H1 Z1 ρ1 e1 p1 vs hd r1 => k vs H1 a s' Z1 ρ1 e1 p1 hd r1 (GoesX.mono h e1 p1)
/-- an iterator yields the items -/
def JOk (G : Cfg) (Z F : Hp) (ρ : List Addr) (xs : List D) (J : It) : Prop := ∀ (Z' : Hp) (ρ' : List Addr) (s : S) (σ : L2.St) (H : Hp) (P : List (R × V)), Same Z Z' → ρ <+: ρ' → Rel G Z' F ρ' s σ H P → ∀ i : Nat,
  (∀ d, xs[i]? = some d → J.go i H ∧ ∀ x H', J.yld i H x H' → ∃ Z'', Same Z' Z'' ∧ Rel G Z'' F ρ' s σ H' P ∧ DRep G Z'' ρ' d x) ∧ (i = xs.length → J.stop i H)
def TIr (G : Cfg) (W : WX) (k : Ik) (m : S → Res (List D)) : TI := fun σ H R => ∃ Z F ρ s P, Rel G Z F ρ s σ H P ∧
  GoesX G W Z F ρ σ P (m s) fun ds s' H' Z' ρ' => ∃ xs, walk k ds = some xs ∧ ∀ J, JOk G Z' F ρ' xs J → Rel G Z' F ρ' s' σ H' P → R J H'
/-! #### the iterators -/
theorem jok_list {a : Addr} {vs : List V} {xs : List D} (h : ∀ Z' H ρ' s σ P, Same Z Z' → Rel G Z' F ρ' s σ H P → SqL G.K H a vs) (hd : DReps G Z ρ xs vs) : JOk G Z F ρ xs (Itl G.K a) := fun Z' ρ' s σ H P e p rel i => by
  have hq := h Z' H ρ' s σ P e rel
  refine ⟨fun d hx => ?_, fun hn => ⟨vs, hq, ?_⟩⟩
  · obtain ⟨v, h1, h2⟩ := hd.get hx
    refine ⟨⟨vs, v, hq, h1⟩, fun x H' y => ?_⟩
    obtain ⟨rfl, y⟩ := y
    have := y vs hq
    rw [h1] at this; cases this
    exact ⟨Z', Same.refl _, rel, h2.mono e p⟩
  · rw [← hd.length]; omega
theorem jok_tup {a : Addr} {vs : List V} {xs : List D} (h : SqT G.K Z a vs) (hd : DReps G Z ρ xs vs) : JOk G Z F ρ xs (Itt G.K a) := fun Z' ρ' s σ H P e p rel i => by
  have hq := Same.sqT rel.zs (Same.sqT e h)
  refine ⟨fun d hx => ?_, fun hn => ⟨vs, hq, ?_⟩⟩
  · obtain ⟨v, h1, h2⟩ := hd.get hx
    refine ⟨⟨vs, v, hq, h1⟩, fun x H' y => ?_⟩
    obtain ⟨rfl, y⟩ := y
    have := y vs hq
    rw [h1] at this; cases this
    exact ⟨Z', Same.refl _, rel, h2.mono e p⟩
  · rw [← hd.length]; omega
theorem strOk_mem {z : Str} {k : Nat} (h : PyData.canLay0 (.str z) = true) (hm : k ∈ z.cps.toList) : PyData.canLay0 (.str ⟨#[k]⟩) = true := by
  simp only [PyData.canLay0, PyData.strOk] at h ⊢
  rw [Array.all_eq_true'] at h ⊢
  intro x hx
  have : x = k := by simpa using hx
  subst this
  exact h x (by simpa using hm)
theorem jok_str {z : Str} (h : PyData.canLay0 (.str z) = true) : JOk G Z F ρ (strItems z) (Its z) := fun Z' ρ' s σ H P e p rel i => by
  unfold strItems
  refine ⟨fun d hx => ?_, fun hn => ?_⟩
  · rw [List.getElem?_map] at hx
    cases q : z.cps.toList[i]? with
    | none => rw [q] at hx; cases hx
    | some c =>
      rw [q] at hx
      simp only [Option.map_some, Option.some.injEq] at hx
      subst hx
      have hi : i < z.cps.size := by have := (List.getElem?_eq_some_iff.mp q).1; simpa using this
      refine ⟨hi, fun x H' y => ?_⟩
      obtain ⟨rfl, c', h1, rfl⟩ := y
      have : c' = c := by
        rw [← Array.getElem?_toList] at h1
        rw [q] at h1; exact (Option.some.inj h1).symm
      subst this
      exact ⟨Z', Same.refl _, rel, .str _ (strOk_mem h (List.mem_of_getElem? q)) (by show 1 ≤ sizeLine; decide)⟩
  · show z.cps.size ≤ i
    rw [List.length_map, Array.length_toList] at hn
    omega
theorem rangeD_get : ∀ (n : Nat) (lo : Int) (i : Nat), (rangeD lo n)[i]? = if i < n then some (.int (lo + i)) else none
  | 0, lo, i => by simp [rangeD]
  | n + 1, lo, i => by
    cases i with
    | zero => simp [rangeD]
    | succ i =>
      rw [rangeD, List.getElem?_cons_succ, rangeD_get n (lo + 1) i]
      by_cases h : i < n
      · rw [if_pos h, if_pos (by omega)]; congr 2; omega
      · rw [if_neg h, if_neg (by omega)]
theorem rangeD_len : ∀ (n : Nat) (lo : Int), (rangeD lo n).length = n
  | 0, _ => rfl
  | n + 1, lo => by rw [rangeD, List.length_cons, rangeD_len n]
theorem enumD_len : ∀ (xs : List D) (k : Nat), (enumD k xs).length = xs.length
  | [], _ => rfl
  | _ :: xs, k => by rw [enumD, List.length_cons, List.length_cons, enumD_len xs]
theorem jok_range {lo : Int} {n : Nat} : JOk G Z F ρ (rangeD lo n) (Itr lo n) := fun Z' ρ' s σ H P e p rel i => by
  refine ⟨fun d hx => ?_, fun hn => ?_⟩
  · rw [rangeD_get] at hx
    split at hx
    · rename_i hi
      cases hx
      refine ⟨hi, fun x H' y => ?_⟩
      obtain ⟨rfl, rfl⟩ := y
      exact ⟨Z', Same.refl _, rel, .int _⟩
    · cases hx
  · rw [rangeD_len] at hn
    show n ≤ i; omega
theorem enumD_get : ∀ (xs : List D) (k i : Nat), (enumD k xs)[i]? = (xs[i]?).map fun d => .tup [.int ((k + i : Nat) : Int), d]
  | [], k, i => by simp [enumD]
  | d :: xs, k, i => by
    cases i with
    | zero => simp [enumD]
    | succ i =>
      rw [enumD, List.getElem?_cons_succ, List.getElem?_cons_succ, enumD_get xs (k + 1) i]
      congr 1; funext x; congr 3; simp only [Nat.add_assoc, Nat.add_comm 1 i]
/-- a pair that the iterator has just made -/
theorem pair_new {T : Addr} {x y : V} {dx dy : D} (rel : Rel G Z F ρ s σ H P) (hT : H T = none) (hx : DRep G Z ρ dx x) (hy : DRep G Z ρ dy y) :
    ∃ Z'', Same Z Z'' ∧ Rel G Z'' F ρ s σ (upd H T (.tup [x, y])) P ∧ DRep G Z'' ρ (.tup [dx, dy]) (.ref T) :=
  ⟨_, rel.zup hT _, rel.newZ hT (.tup [x, y]) (fun _ z => nomatch z), .tup (SqT.of upd_same) (.cons (hx.mono (rel.zup hT _) (List.prefix_refl _)) (.cons (hy.mono (rel.zup hT _) (List.prefix_refl _)) .nil))⟩
theorem jok_enum {a : Addr} {vs : List V} {xs : List D} (h : ∀ Z' H ρ' s σ P, Same Z Z' → Rel G Z' F ρ' s σ H P → SqL G.K H a vs) (hd : DReps G Z ρ xs vs) : JOk G Z F ρ (enumD 0 xs) (Ite G.K a) := fun Z' ρ' s σ H P e p rel i => by
  have hq := h Z' H ρ' s σ P e rel
  rw [enumD_get]
  refine ⟨fun d hx => ?_, fun hn => ⟨vs, hq, ?_⟩⟩
  · cases q : xs[i]? with
    | none => rw [q] at hx; cases hx
    | some d' =>
      rw [q] at hx
      simp only [Option.map_some, Option.some.injEq, Nat.zero_add] at hx
      subst hx
      obtain ⟨v, h1, h2⟩ := hd.get q
      refine ⟨⟨vs, v, hq, h1⟩, fun x H' y => ?_⟩
      obtain ⟨T, y', rfl, hT, rfl, hy⟩ := y
      have := hy vs hq
      rw [h1] at this; cases this
      exact pair_new rel hT (.int _) (h2.mono e p)
  · rw [← hd.length]
    rw [enumD_len] at hn
    omega
theorem zip_get {xs ys : List D} (i : Nat) : (List.zipWith (fun x y => D.tup [x, y]) xs ys)[i]? = match xs[i]?, ys[i]? with
    | some x, some y => some (.tup [x, y])
    | _, _ => none := by
  rw [List.getElem?_zipWith]
  cases xs[i]? <;> cases ys[i]? <;> rfl
theorem jok_zipL {a b : Addr} {vs ws : List V} {xs ys : List D} (h : ∀ Z' H ρ' s σ P, Same Z Z' → Rel G Z' F ρ' s σ H P → SqL G.K H a vs) (hd : DReps G Z ρ xs vs) (h' : ∀ Z' H ρ' s σ P, Same Z Z' → Rel G Z' F ρ' s σ H P → SqL G.K H b ws) (hd' : DReps G Z ρ ys ws) :
    JOk G Z F ρ (List.zipWith (fun x y => D.tup [x, y]) xs ys) (Itz G.K a b) := fun Z' ρ' s σ H P e p rel i => by
  have hq := h Z' H ρ' s σ P e rel
  have hq' := h' Z' H ρ' s σ P e rel
  rw [zip_get]
  refine ⟨fun d hx => ?_, fun hn => ⟨vs, ws, hq, hq', ?_⟩⟩
  · split at hx
    · rename_i x y q1 q2
      cases hx
      obtain ⟨v, h1, h2⟩ := hd.get q1
      obtain ⟨w, h3, h4⟩ := hd'.get q2
      refine ⟨⟨vs, ws, v, w, hq, hq', h1, h3⟩, fun u H' z => ?_⟩
      obtain ⟨T, x', y', rfl, hT, rfl, z1, z2⟩ := z
      have := z1 vs hq; rw [h1] at this; cases this
      have := z2 ws hq'; rw [h3] at this; cases this
      exact pair_new rel hT (h2.mono e p) (h4.mono e p)
    · cases hx
  · rw [← hd.length, ← hd'.length]
    rw [List.length_zipWith] at hn
    omega
theorem jok_zipT {a b : Addr} {vs ws : List V} {xs ys : List D} (h : SqT G.K Z a vs) (hd : DReps G Z ρ xs vs) (h' : SqT G.K Z b ws) (hd' : DReps G Z ρ ys ws) :
    JOk G Z F ρ (List.zipWith (fun x y => D.tup [x, y]) xs ys) (RZ.ItzT G.K a b) := fun Z' ρ' s σ H P e p rel i => by
  have hq := Same.sqT rel.zs (Same.sqT e h)
  have hq' := Same.sqT rel.zs (Same.sqT e h')
  rw [zip_get]
  refine ⟨fun d hx => ?_, fun hn => ⟨vs, ws, hq, hq', ?_⟩⟩
  · split at hx
    · rename_i x y q1 q2
      cases hx
      obtain ⟨v, h1, h2⟩ := hd.get q1
      obtain ⟨w, h3, h4⟩ := hd'.get q2
      refine ⟨⟨vs, ws, v, w, hq, hq', h1, h3⟩, fun u H' z => ?_⟩
      obtain ⟨T, x', y', rfl, hT, rfl, z1, z2⟩ := z
      have := z1 vs hq; rw [h1] at this; cases this
      have := z2 ws hq'; rw [h3] at this; cases this
      exact pair_new rel hT (h2.mono e p) (h4.mono e p)
    · cases hx
  · rw [← hd.length, ← hd'.length]
    rw [List.length_zipWith] at hn
    omega
end
end Ri

set_option maxRecDepth 100000
/-! Ri, part L: the walked expressions, for, while. -/
namespace Ri
open PySem L2
section
variable {G : Cfg} {W : WX} {Z Z' H H' F : Hp} {ρ ρ' : List Addr} {s : S} {σ : L2.St} {P : List (R × V)} {Q : VK}
/-- an expression that is walked; what it comes to is known ahead -/
theorem goesX_walk1 {α : Type} {FF : Rec} {ie : E} {f : List D → S → Res α} {K : α → S → Hp → Hp → List Addr → Prop} (r : Rel G Z F ρ s σ H P) (h : GoesX G W Z F ρ σ P (bd (exIs FF [ie] s) f) K) {Q' : VK}
    (k : ∀ v H1 d s1 Z1 ρ1, Same Z Z1 → ρ <+: ρ1 → exIs FF [ie] s = some (.ok [d], s1) → WRep G Z1 F ρ1 v d → Rel G Z1 F ρ1 s1 σ H1 P → GoesX G W Z1 F ρ1 σ P (f [d] s1) K → Q' v H1) : T G W (FF.ex ie) σ H Q' := by
  have hx : exIs FF [ie] s = bd (bd (FF.ex ie s) itR) fun r s => ok [r] s := by
    show bd (bd (FF.ex ie s) itR) (fun r s => bd (ok [] s) fun rs s => ok (r :: rs) s) = _
    rfl
  refine ⟨Z, F, ρ, s, P, r, ?_⟩
  rw [hx] at h
  rcases e : FF.ex ie s with _ | ⟨_ | a, s'⟩
  · rw [e] at h; exact h
  · rw [e] at h; exact h
  · rw [e] at h
    intro v H1 Z1 ρ1 e1 p1 r1
    have h' : GoesX G W Z1 F ρ1 σ P (bd (itR a s') fun r s => f [r] s) K := by
      have := GoesX.mono h e1 p1
      rw [bd_bd] at this
      exact this
    have hk : ∀ d s2, itR a s' = some (.ok d, s2) → exIs FF [ie] s = some (.ok [d], s2) := fun d s2 q => by rw [hx, e]; show bd (itR a s') _ = _; rw [q]; rfl
    rcases q : itR a s' with _ | ⟨x | d, s2⟩
    · rw [q] at h'; exact h'.elim
    · -- itR raises nothing
      exfalso
      unfold itR at q
      split at q
      · split at q
        · cases q
        · rcases freeze_ok (r := .slot _) (s := s') with ⟨d, s3, z⟩ | z <;> rw [z] at q <;> cases q
      · rcases freeze_ok (r := a) (s := s') with ⟨d, s3, z⟩ | z <;> rw [z] at q <;> cases q
    · obtain ⟨d', s3, Z3, e3, r3, w3, g3⟩ := goesX_itR (W := W) (f := fun d s => (ok (d, s) s : Res (D × S))) (K := fun x _ _ _ _ => x = (d, s2)) r1 (by rw [q]; exact fun _ _ _ _ _ => rfl)
      have eq := g3 H1 Z3 ρ1 (Same.refl _) (List.prefix_refl _)
      cases eq
      refine k v H1 d s2 Z3 ρ1 (e1.trans e3) p1 (hk d s2 q) w3 r3 ?_
      rw [q] at h'
      exact GoesX.mono h' e3 (List.prefix_refl _)
end
def CI (X : Cx) (G : Cfg) (W : WX) (tb : Tb) (c : CallF) (tg e : Expr) (k : Ik) (is : List E) : Prop := ∀ n, PI X tg e (TIr G W k (exIs (run tb c n) is))
section
variable {X : Cx} {G : Cfg} {W : WX} {tb : Tb} {c : CallF} {a b d e tg : Expr} {ia ib id ie : E} {pos p p2 tpos : Pos} {es : List Expr} {is : List E} {t : Tg} {ts : List Tg} {x : Str} {i k : Nat}
theorem bd_ok {α : Type} (m : Res α) : bd m (fun a s => ok a s) = m := by rcases m with _ | ⟨_ | _, _⟩ <;> rfl
theorem ci_seq (hK : G.K = X.K) (he : CE X G W tb c e ie) : CI X G W tb c tg e .seq [ie] := fun n => by
  refine PI.imp (PI.or (pi_list (he n)) (PI.or (pi_tup (he n)) (pi_str (he n)))) fun σ H R ⟨Z, F, ρ, s, P, rel, g⟩ => ?_
  rw [← bd_ok (exIs (run tb c n) [ie] s)] at g
  rcases q : exIs (run tb c n) [ie] s with _ | ⟨x | ds, s1⟩
  · rw [q] at g; exact g.elim
  · exact .inl (goesX_walk1 rel g fun v H1 d s1' Z1 ρ1 e1 p1 q' _ _ _ => by rw [q] at q'; cases q')
  · have g0 := g
    rw [q] at g0
    obtain ⟨xs, hw, _⟩ := g0 H Z ρ (Same.refl _) (List.prefix_refl _)
    cases ds with
    | nil => simp [walk] at hw
    | cons d ds => cases ds with
      | cons _ _ => simp [walk] at hw
      | nil =>
        simp only [walk] at hw
        cases d with
        | lst ys =>
          refine .inl (goesX_walk1 rel g fun v H1 d s2 Z1 ρ1 e1 p1 q' w r1 g1 => ?_)
          rw [q] at q'; cases q'
          obtain ⟨xs', hw', hR⟩ := g1 H1 Z1 ρ1 (Same.refl _) (List.prefix_refl _)
          have hxs : xs' = ys := by simpa [walk, walkSeq, items] using hw'.symm
          subst hxs
          obtain ⟨a, vs, rfl, h1, h2⟩ := w
          have st : ∀ Z' H ρ' s σ P, Same Z1 Z' → Rel G Z' F ρ' s σ H P → SqL G.K H a vs := fun Z' H' ρ' s σ P e r => SqL.of (h1.elim (fun z => r.zs _ _ (e _ _ z)) (fun z => r.fs _ _ z))
          refine ⟨a, rfl, ⟨vs, by rw [← hK]; exact st Z1 H1 ρ1 _ σ P (Same.refl _) r1⟩, hR _ ?_ r1⟩
          rw [← hK]
          exact jok_list st h2
        | klst ys =>
          refine .inl (goesX_walk1 rel g fun v H1 d s2 Z1 ρ1 e1 p1 q' w r1 g1 => ?_)
          rw [q] at q'; cases q'
          obtain ⟨xs', hw', hR⟩ := g1 H1 Z1 ρ1 (Same.refl _) (List.prefix_refl _)
          have hxs : xs' = ys := by simpa [walk, walkSeq, items] using hw'.symm
          subst hxs
          cases w with
          | klst h1 h2 _ =>
            have st : ∀ Z' H ρ' s σ P, Same Z1 Z' → Rel G Z' F ρ' s σ H P → SqL G.K H _ _ := fun Z' H' ρ' s σ P e r => r.zs.seq (e.seq h1)
            refine ⟨_, rfl, ⟨_, by rw [← hK]; exact st Z1 H1 ρ1 _ σ P (Same.refl _) r1⟩, hR _ ?_ r1⟩
            rw [← hK]
            exact jok_list st h2
        | tup ys =>
          refine .inr (.inl (goesX_walk1 rel g fun v H1 d s2 Z1 ρ1 e1 p1 q' w r1 g1 => ?_))
          rw [q] at q'; cases q'
          obtain ⟨xs', hw', hR⟩ := g1 H1 Z1 ρ1 (Same.refl _) (List.prefix_refl _)
          have hxs : xs' = ys := by simpa [walk, walkSeq, items] using hw'.symm
          subst hxs
          cases w with
          | tup h1 h2 =>
            refine ⟨_, rfl, ⟨_, by rw [← hK]; exact Same.sqT r1.zs h1⟩, hR _ ?_ r1⟩
            rw [← hK]
            exact jok_tup h1 h2
        | str z =>
          refine .inr (.inr (goesX_walk1 rel g fun v H1 d s2 Z1 ρ1 e1 p1 q' w r1 g1 => ?_))
          rw [q] at q'; cases q'
          obtain ⟨xs', hw', hR⟩ := g1 H1 Z1 ρ1 (Same.refl _) (List.prefix_refl _)
          have hxs : xs' = strItems z := by simpa [walk, walkSeq] using hw'.symm
          subst hxs
          cases w with
          | str _ h1 h2 => exact ⟨z, rfl, hR _ (jok_str h1) r1⟩
        | _ => simp [walkSeq, items] at hw
theorem cvi_nil : ∀ n, PA X [] (TVI G W (exIs (run tb c n) [])) := fun n => by
  refine PA.imp pa_nil fun σ H Q ⟨Z, F, ρ, s, P, rel, g⟩ => ?_
  exact g H Z ρ (Same.refl _) (List.prefix_refl _) [] .nil rel
theorem cvi_cons (he : CE X G W tb c e ie) (hr : ∀ n, PA X es (TVI G W (exIs (run tb c n) is))) (hs : starEach (e :: es) X.env = (false, eval e X.env) :: starEach es X.env := by rfl) : ∀ n, PA X (e :: es) (TVI G W (exIs (run tb c n) (ie :: is))) := fun n => by
  refine PA.imp (pa_cons (he n) (hr n) hs) fun σ H Q ⟨Z, F, ρ, s, P, rel, g⟩ => ?_
  replace g : GoesX G W Z F ρ σ P (bd (bd ((run tb c n).ex ie s) itR) fun r s => bd (exIs (run tb c n) is s) fun rs s => ok (r :: rs) s) _ := g
  rw [bd_bd] at g
  refine goesX_bind [] rel g fun v H1 r1 s1 Z1 ρ1 e1 p1 rel1 g1 => ?_
  obtain ⟨dd, s2, Z2, e2, rel2, w2, g2⟩ := goesX_itR rel1 g1
  refine goesX_iter rel2 g2 fun vs H2 ds s3 Z3 ρ3 e3 p3 hd rel3 g3 => ?_
  exact g3 H2 Z3 ρ3 (Same.refl _) (List.prefix_refl _) (v :: vs) (.cons (w2.mono e3 p3) hd) rel3
theorem ci_range1 (he : CE X G W tb c a ia) (hg : Gl X "range") (hm : X.mg "range" = none) (hs : starEach [a] X.env = (false, eval a X.env) :: starEach [] X.env := by rfl) : CI X G W tb c tg (.Call (.Name "range" p) [a] [] pos) .range1 [ia] := fun n => by
  refine PI.imp (pi_range1 hg hm (cvi_cons he cvi_nil hs n) hs) fun σ H R ⟨Z, F, ρ, s, P, rel, g⟩ => ?_
  rw [← bd_ok (exIs (run tb c n) [ia] s)] at g
  refine goesX_iter rel g fun vs H1 ds s1 Z1 ρ1 e1 p1 w r1 g1 => ?_
  obtain ⟨xs, hw, hR⟩ := g1 H1 Z1 ρ1 (Same.refl _) (List.prefix_refl _)
  unfold walk at hw
  split at hw <;> try contradiction
  split at hw
  · rename_i hl
    cases hw
    cases w with
    | cons w1 w2 =>
      cases w2; cases w1
      exact ⟨_, rfl, by omega, by omega, hR _ jok_range r1⟩
  · cases hw
theorem ci_range2 (he : CE X G W tb c a ia) (hb : CE X G W tb c b ib) (hg : Gl X "range") (hm : X.mg "range" = none) (hs : starEach [a, b] X.env = (false, eval a X.env) :: starEach [b] X.env := by rfl) (hs2 : starEach [b] X.env = (false, eval b X.env) :: starEach [] X.env := by rfl) : CI X G W tb c tg (.Call (.Name "range" p) [a, b] [] pos) .range2 [ia, ib] := fun n => by
  refine PI.imp (pi_range2 hg hm (cvi_cons he (cvi_cons hb cvi_nil hs2) hs n) (by rw [hs, hs2]; rfl) hs2) fun σ H R ⟨Z, F, ρ, s, P, rel, g⟩ => ?_
  rw [← bd_ok (exIs (run tb c n) [ia, ib] s)] at g
  refine goesX_iter rel g fun vs H1 ds s1 Z1 ρ1 e1 p1 w r1 g1 => ?_
  obtain ⟨xs, hw, hR⟩ := g1 H1 Z1 ρ1 (Same.refl _) (List.prefix_refl _)
  unfold walk at hw
  split at hw <;> try contradiction
  split at hw
  · rename_i hl
    cases hw
    cases w with
    | cons w1 w2 => cases w2 with
      | cons w2 w3 =>
        cases w3; cases w1; cases w2
        exact ⟨_, _, rfl, ⟨by omega, by omega, by omega, by omega⟩, hR _ jok_range r1⟩
  · cases hw
theorem ci_zip {elts : List Expr} {kk : Nat} (hK : G.K = X.K) (he : CE X G W tb c a ia) (hb : CE X G W tb c b ib) (hg : Gl X "zip") (hm : X.mg "zip" = none) (hs : starEach [a, b] X.env = (false, eval a X.env) :: starEach [b] X.env := by rfl) (hs2 : starEach [b] X.env = (false, eval b X.env) :: starEach [] X.env := by rfl) (hpl : (backTo pos (starEach [b] X.env)).any (·.1) = false := by rfl) :
    CI X G W tb c (.Tuple elts kk tpos) (.Call (.Name "zip" p) [a, b] [] pos) .zip [ia, ib] := fun n => by
  refine PI.imp (RZ.pi_zipA hg hm (cvi_cons he (cvi_cons hb cvi_nil hs2) hs n) hs hpl) fun σ H R ⟨Z, F, ρ, s, P, rel, g⟩ => ?_
  rw [← bd_ok (exIs (run tb c n) [ia, ib] s)] at g
  refine goesX_iter rel g fun vs H1 ds s1 Z1 ρ1 e1 p1 w r1 g1 => ?_
  obtain ⟨xs, hw, hR⟩ := g1 H1 Z1 ρ1 (Same.refl _) (List.prefix_refl _)
  unfold walk at hw
  split at hw <;> try contradiction
  · cases hw
    cases w with
    | cons w1 w2 => cases w2 with
      | cons w2 w3 =>
        cases w3
        obtain ⟨a1, v1, rfl, h1, h2⟩ := w1
        obtain ⟨a2, v2, rfl, h3, h4⟩ := w2
        have st : ∀ Z' H ρ' s σ P, Same Z1 Z' → Rel G Z' F ρ' s σ H P → SqL G.K H a1 v1 := fun Z' H' ρ' s σ P e r => SqL.of (h1.elim (fun z => r.zs _ _ (e _ _ z)) (fun z => r.fs _ _ z))
        have st' : ∀ Z' H ρ' s σ P, Same Z1 Z' → Rel G Z' F ρ' s σ H P → SqL G.K H a2 v2 := fun Z' H' ρ' s σ P e r => SqL.of (h3.elim (fun z => r.zs _ _ (e _ _ z)) (fun z => r.fs _ _ z))
        refine ⟨a1, a2, v1, v2, rfl, .inl ⟨by rw [← hK]; exact st Z1 H1 ρ1 s1 σ P (Same.refl _) r1, by rw [← hK]; exact st' Z1 H1 ρ1 s1 σ P (Same.refl _) r1, hR _ ?_ r1⟩⟩
        rw [← hK]
        exact jok_zipL st h2 st' h4
  · cases hw
    cases w with
    | cons w1 w2 => cases w2 with
      | cons w2 w3 =>
        cases w3
        cases w1 with
        | tup h1 h2 => cases w2 with
          | tup h3 h4 =>
            refine ⟨_, _, _, _, rfl, .inr ⟨by rw [← hK]; exact Same.sqT r1.zs h1, by rw [← hK]; exact Same.sqT r1.zs h3, hR _ ?_ r1⟩⟩
            rw [← hK]
            exact jok_zipT h1 h2 h3 h4

/-! ### enumerate over a tuple -/
end
end Ri
namespace Ri
open PySem PySem.Spec PyProof.Rows L2
set_option maxHeartbeats 1000000 in
theorem meets_enum1 {v : Value} {o : Obj} {H : Heap → Prop} (B : Begins v o H) :
    Meets (Builtin.«enumerate.__new__» ⟨[.type "enumerate", v], []⟩) (fun _ R s => H s.heap ∧
      R (.ok (.ret (.ref (s.heap.push o).objs.size))) { s with heap := (s.heap.push o).push { cls := .type "enumerate", data := .fields #[.none, .bool false, .ref s.heap.objs.size, rawInt 0, .none, .none] } }) :=
  .of_wp fun prog w A R s h => by
    obtain ⟨hp, g, d, tk, os⟩ := s
    obtain ⟨h1, h⟩ := h
    have hsub := sub_enumerate
    have q1 : ∀ {A' : Around} {E : Value → Shared → Prop} {Q : Value → Shared → Prop}, Q (.ref hp.objs.size) ⟨hp.push o, g, d, tk, os⟩ → wpAny (model prog w) A' (pyIter v) Q E ⟨hp, g, d, tk, os⟩ :=
      fun q => B.iter prog w _ _ ⟨hp, g, d, tk, os⟩ _ h1 q
    wp_walk using q1
    refine wpAny_stack_any fun st => wpAny_pure ?_
    split
    · rename_i c _ _ _ _ _
      cases (c == Value.type "enumerate") <;> (wp_walk using q1; exact ⟨_, rfl, h⟩)
    · wp_walk using q1
      exact ⟨_, rfl, h⟩
end Ri

set_option maxRecDepth 100000
/-! Ri, part M: enumerate of a tuple; for and while. -/
namespace Ri
open PySem PySem.Spec PyProof.Rows L2
/-- the tuple at a, its items with their numbers in new pairs -/
def IteT (K : PySem.W.Frag) (a : Addr) : It :=
  ⟨fun i H => ∃ (xs : List V) (x : V), SqT K H a xs ∧ xs[i]? = some x,
   fun i H v H' => ∃ T x, v = .ref T ∧ H T = none ∧ H' = upd H T (.tup [.int (i : Nat), x]) ∧ ∀ xs, SqT K H a xs → xs[i]? = some x,
   fun i H => ∃ xs : List V, SqT K H a xs ∧ i = xs.length⟩
theorem turn_enumT {P : Program} {w : World} {K : PySem.W.Frag} {elts : List Expr} {kk : Nat} {tpos : Pos} (a e it : Addr) (hae : a ≠ e) (hai : a ≠ it) :
    Turn P w K (.Tuple elts kk tpos) (IteT K a) [e, it] e (fun i h => (∃ old, IsEnum h e it ((i : Nat) : Int) old) ∧ h.IsTupleIter it a i ∧ e ≠ it) where
  mem := by simp
  obj := fun i h st b hb => by
    obtain ⟨⟨old, he⟩, ⟨o, ho, hc, hd⟩, _⟩ := st
    have hz : b = e ∨ b = it := by simpa using hb
    rcases hz with z | z
    · subst z; exact ⟨_, he, fun v q => nomatch q⟩
    · subst z; exact ⟨o, ho, fun v q => by rw [hd] at q; cases q⟩
  keep := fun i h h' st k => let ⟨⟨old, he⟩, hi, hne⟩ := st; ⟨⟨old, k e (by simp) _ he⟩, (hi.at fun o q => k it (by simp) o q), hne⟩
  item := by
    intro X hP hw hK hc i pins s σ H E I hf st hg
    subst hP hw hK
    obtain ⟨⟨old, he⟩, hit, hne⟩ := st
    obtain ⟨xs, x, hq, hx⟩ := hg
    obtain ⟨its, rv, p, hz⟩ := I.tuple hq
    obtain ⟨u, hu, ru⟩ := rv.get hx
    have hel : e < s.heap.objs.size := Heap.lt_size he
    have hil : it < s.heap.objs.size := by obtain ⟨_, q, _⟩ := hit; exact Heap.lt_size q
    have Dr := Draws.tuple (prog := X.prog) (w := X.w) (A := X.A.in1) (by first | exact I.ok.hd hc | simpa using I.ok.hd hc) it a hai its.toArray
    have hilt : i < its.toArray.size := by
      have := (List.getElem?_eq_some_iff.mp hu).1
      simpa using this
    refine wpAny_pyNext_enum_itemC Dr he ⟨hit, p⟩ hilt hne (by simp [Ne.symm hae, hne]) fun x' h' tk hP' ho hit' hT hsz hk => ?_
    have hxu : x' = u := by
      have h1 : its.toArray[i]? = some x' := hP'
      rw [List.getElem?_toArray, hu] at h1
      exact (Option.some.inj h1).symm
    subst hxu
    refine ⟨_, rfl, wpAny_letOwnedTupleGo_enum (s := { s with heap := h', toks := tk + 1 }) ho fun h'' he' sb => ?_⟩
    have hT2 : h''.get? s.heap.objs.size = some { cls := .type "tuple", data := .seq #[.int i tk, x'] } := (sb.2 _ (Nat.ne_of_gt hel)).trans hT
    have new : ObjOk X.prog X.w (upd H s.heap.objs.size (.tup [.int (i : Nat), x])) h'' s.heap.objs.size (.tup [.int (i : Nat), x]) :=
      ⟨(by show 2 ≤ sizeLine; decide), [.int i tk, x'], .cons ⟨_, rfl⟩ (.cons ru .nil), ⟨_, hT2, rfl, _, rfl⟩⟩
    have I1 : Inv X pins σ (upd H s.heap.objs.size (.tup [.int (i : Nat), x])) { s with heap := h'', toks := tk + 1 } :=
      I.turnedNew (ch := [e, it]) (fun b ob hb q => (sb.2 b (fun z => hb (by simp [z]))).trans (hk b ob (fun z => hb (by simp [z])) (fun z => hb (by simp [z])) q)) hf (Nat.le_refl _) new
    refine ⟨.ref s.heap.objs.size, _, I1, rfl, ⟨_, x, rfl, I.hok.fresh (Nat.le_refl _), rfl, fun ys hy => by rw [I.tuple_inj hy hq]; exact hx⟩, ⟨⟨x', ?_⟩, (hit'.1.at fun o q => (sb.2 it (Ne.symm hne)).trans q), hne⟩, fun b hb => ?_⟩
    · have e1 : ((i + 1 : Nat) : Int) = (i : Int) + 1 := by omega
      rw [e1]
      exact he'
    · have hz : b = e ∨ b = it := by simpa using hb
      have hb' : b < s.heap.objs.size := by
        rcases hz with z | z
        · subst z; exact hel
        · subst z; exact hil
      rw [upd_ne (Nat.ne_of_lt hb')]
      exact (hf b hb).1
  done := by
    intro X hP hw hK hc i pins s σ H E I hf st hg
    subst hP hw hK
    obtain ⟨⟨old, he⟩, hit, hne⟩ := st
    obtain ⟨xs, hq, hx⟩ := hg
    obtain ⟨its, rv, p, hz⟩ := I.tuple hq
    obtain ⟨f0, f1, f2, f3, f4, f5⟩ := hf it (by simp)
    have Dr := Draws.tuple (prog := X.prog) (w := X.w) (A := X.A.in1) (by first | exact I.ok.hd hc | simpa using I.ok.hd hc) it a hai its.toArray
    have hl : i = its.toArray.size := by rw [hx, rv.length]; simp
    refine wpAny_pyNext_enum_endD Dr he ⟨by rw [← hl]; exact hit, p⟩ fun h' eb => ⟨rfl, I.turned (t' := s.toks) (fun b o hb q => eb b o hb q) f0 f1 f3 f4 f5⟩
  self := fun A i s Q E st h => let ⟨⟨_, he⟩, _⟩ := st; wpAny_pyIter_enum he h
/-- enumerate of a list or a tuple -/
theorem call_enumT {prog : Program} {w : World} {A : Around} {E : Value → Shared → Prop} {s : Shared} {t : Addr} {items : Array Value} {Q : Value → Shared → Prop} (ht : s.heap.IsTuple t items)
    (h : ∀ h', IsEnum h' (s.heap.objs.size + 1) s.heap.objs.size 0 .none → h'.IsTupleIter s.heap.objs.size t 0 → (∀ b o, s.heap.get? b = some o → h'.get? b = some o) → Q (.ref (s.heap.objs.size + 1)) { s with heap := h' }) :
    wpAny (model prog w) A (call (.type "enumerate") [.ref t]) Q E s := by
  refine callType_new F.called_enumerate (by decide) (F.typeCall_enumerate_1 _) (F.newCall_enumerate_1 _) (fun obj => F.args_object_init_2 obj _) F.entry_enumerate_new (meets_enum1 (begins_tuple t items)) ⟨ht, ?_⟩
  have hz : (s.heap.push { cls := .type "tuple_iterator", data := .fields #[.ref t, .int 0 0] }).objs.size = s.heap.objs.size + 1 := Heap.size_push ..
  show _ ∧ _
  rw [hz]
  have he : IsEnum ((s.heap.push { cls := .type "tuple_iterator", data := .fields #[.ref t, .int 0 0] }).push { cls := .type "enumerate", data := .fields #[.none, .bool false, .ref s.heap.objs.size, rawInt 0, .none, .none] }) (s.heap.objs.size + 1) s.heap.objs.size 0 .none := by
    have := Heap.get?_push_size (s.heap.push { cls := .type "tuple_iterator", data := .fields #[.ref t, .int 0 0] }) (o := { cls := .type "enumerate", data := .fields #[.none, .bool false, .ref s.heap.objs.size, rawInt 0, .none, .none] }) rfl
    rw [hz] at this
    exact this
  exact ⟨⟨_, he, rfl⟩, h _ he ⟨_, Heap.get?_push_of_some _ (Heap.get?_push_size _ rfl), rfl, rfl⟩ fun b o x => Heap.get?_push_of_some _ (Heap.get?_push_of_some _ x)⟩
def iEnumT (K : PySem.W.Frag) (ta : TA) : TI := fun σ H R => ta σ H fun vs H1 => ∃ a xs, vs = [.ref a] ∧ SqT K H1 a xs ∧ R (IteT K a) H1
theorem pi_enumT {X : Cx} {e : Expr} {ta : TA} {p pos tpos : Pos} {elts : List Expr} {kk : Nat} (hg : Gl X "enumerate") (hm : X.mg "enumerate" = none) (ha : PA X [e] ta) (hs : starEach [e] X.env = [(false, eval e X.env)] := by rfl) :
    PI X (.Tuple elts kk tpos) (.Call (.Name "enumerate" p) [e] [] pos) (iEnumT X.K ta) := by
  refine ⟨fun pins s σ H R I h => ?_⟩
  refine Call_ (ld_blt I hg hm boot_enumerate (PyProof.Rows.callWith_type1 (thn (ha.run pos pins s σ H _ I h) fun us s1 ⟨vs, H1, I1, r1, q1⟩ => ?_) hs rfl))
  obtain ⟨a, xs, rfl, hq, q⟩ := q1
  cases r1 with
  | cons r rr =>
    cases rr
    cases r
    obtain ⟨its, rv, p', hz⟩ := I1.tuple hq
    have hlt : a < s1.heap.objs.size := by obtain ⟨o, ho, _⟩ := id p'; exact Heap.lt_size ho
    refine call_enumT p' fun h' he hit hk => wpAny_pyIter_enum he ?_
    have I2 : Inv X pins σ H1 { s1 with heap := h' } := I1.kept (t' := s1.toks) hk
    refine ⟨s1.heap.objs.size + 1, [s1.heap.objs.size + 1, s1.heap.objs.size], _, _, H1, rfl, I2, turn_enumT a (s1.heap.objs.size + 1) s1.heap.objs.size (Nat.ne_of_lt (Nat.lt_succ_of_lt hlt)) (Nat.ne_of_lt hlt), ⟨⟨.none, he⟩, hit, Nat.succ_ne_self _⟩, fun b hb => ?_, q⟩
    have hz' : b = s1.heap.objs.size + 1 ∨ b = s1.heap.objs.size := by simpa using hb
    have hle : s1.heap.objs.size ≤ b := hz'.elim (fun z => z ▸ Nat.le_succ _) (fun z => z ▸ Nat.le_refl _)
    exact I1.fpOk hle (I1.hok.fresh hle)
theorem jok_enumT {G : Cfg} {Z F : Hp} {ρ : List Addr} {a : Addr} {vs : List V} {xs : List D} (h : SqT G.K Z a vs) (hd : DReps G Z ρ xs vs) : JOk G Z F ρ (enumD 0 xs) (IteT G.K a) := fun Z' ρ' s σ H P e p rel i => by
  have hq := Same.sqT rel.zs (Same.sqT e h)
  rw [enumD_get]
  refine ⟨fun d hx => ?_, fun hn => ⟨vs, hq, ?_⟩⟩
  · cases q : xs[i]? with
    | none => rw [q] at hx; cases hx
    | some d' =>
      rw [q] at hx
      simp only [Option.map_some, Option.some.injEq, Nat.zero_add] at hx
      subst hx
      obtain ⟨v, h1, h2⟩ := hd.get q
      refine ⟨⟨vs, v, hq, h1⟩, fun x H' y => ?_⟩
      obtain ⟨T, y', rfl, hT, rfl, hy⟩ := y
      have := hy vs hq
      rw [h1] at this; cases this
      exact pair_new rel hT (.int _) (h2.mono e p)
  · rw [← hd.length, ← enumD_len xs 0]; exact hn
section
variable {X : Cx} {G : Cfg} {W : WX} {tb : Tb} {c : CallF} {a b d e tg : Expr} {ia ib id ie : E} {pos p p2 tpos : Pos} {es : List Expr} {is : List E} {t : Tg} {ts : List Tg} {x : Str} {i k : Nat}
theorem ci_enum {elts : List Expr} {kk : Nat} (hK : G.K = X.K) (he : CE X G W tb c a ia) (hg : Gl X "enumerate") (hm : X.mg "enumerate" = none) (hs : starEach [a] X.env = (false, eval a X.env) :: starEach [] X.env := by rfl) :
    CI X G W tb c (.Tuple elts kk tpos) (.Call (.Name "enumerate" p) [a] [] pos) .enum [ia] := fun n => by
  refine PI.imp (PI.or (pi_enum hg hm (cvi_cons he cvi_nil hs n) hs) (pi_enumT hg hm (cvi_cons he cvi_nil hs n) hs)) fun σ H R ⟨Z, F, ρ, s, P, rel, g⟩ => ?_
  rcases q : exIs (run tb c n) [ia] s with _ | ⟨x | ds, s1⟩
  · rw [q] at g; exact g.elim
  · rw [q] at g
    exact .inl ⟨Z, F, ρ, s, P, rel, by rw [q]; exact g⟩
  · have g0 := g
    rw [q] at g0
    obtain ⟨xs, hw, _⟩ := g0 H Z ρ (Same.refl _) (List.prefix_refl _)
    unfold walk at hw
    split at hw <;> try contradiction
    · rename_i ys _
      cases hw
      refine .inl ⟨Z, F, ρ, s, P, rel, ?_⟩
      rw [q]
      intro H1 Z1 ρ1 e1 p1 vs w r1
      obtain ⟨xs', hw', hR⟩ := g0 H1 Z1 ρ1 e1 p1
      cases hw'
      cases w with
      | cons w1 w2 =>
        cases w2
        obtain ⟨a1, v1, rfl, h1, h2⟩ := w1
        have st : ∀ Z' H ρ' s σ P, Same Z1 Z' → Rel G Z' F ρ' s σ H P → SqL G.K H a1 v1 := fun Z' H' ρ' s σ P e r => SqL.of (h1.elim (fun z => r.zs _ _ (e _ _ z)) (fun z => r.fs _ _ z))
        refine ⟨a1, v1, rfl, by rw [← hK]; exact st Z1 H1 ρ1 _ σ P (Same.refl _) r1, hR _ ?_ r1⟩
        rw [← hK]
        exact jok_enum st h2
    · rename_i ys _
      cases hw
      refine .inr ⟨Z, F, ρ, s, P, rel, ?_⟩
      rw [q]
      intro H1 Z1 ρ1 e1 p1 vs w r1
      obtain ⟨xs', hw', hR⟩ := g0 H1 Z1 ρ1 e1 p1
      cases hw'
      cases w with
      | cons w1 w2 =>
        cases w2
        cases w1 with
        | tup h1 h2 =>
          refine ⟨_, _, rfl, by rw [← hK]; exact Same.sqT r1.zs h1, hR _ ?_ r1⟩
          rw [← hK]
          exact jok_enumT h1 h2

/-! ### for -/
theorem cs_for {k : Ik} {body : List Stmt} {ib : List Stm} (hp : PassesOwn (model X.prog X.w) X.A X.env X.xe) (hc : X.calm = true) (hi : CI X G W tb c tg e k is) (hg : CG X G W tb c tg t) (hb : CSs X G W tb c body ib)
    (hs : ∀ x, foldedSetIterable e X.env x = pure x := by intro _; rfl) : CS X G W tb c (.For tg e body [] pos) (.for_ t k is ib) := by
  refine cs_of (fun n => ps_for hp hc (hi n) (hg n) (hb n) hs) fun n Dn σ H ⟨Z, F, ρ, s, P, ns, rel, g⟩ => ?_
  refine ⟨Z, F, ρ, s, P, rel, ?_⟩
  replace g : GoesS G W Z F ρ P (bd (exIs (run tb c n) is s) fun ds s => forR (run tb c n) t k (execs (run tb c n) ib) ds s) Dn := g
  rcases q : exIs (run tb c n) is s with _ | ⟨x | ds, s1⟩
  · rw [q] at g; exact g
  · rw [q] at g; exact fun cls d H1 Z1 ρ1 e1 p1 x1 r1 => g cls d σ H1 Z1 ρ1 e1 p1 x1 r1
  · rw [q] at g
    replace g : GoesS G W Z F ρ P (forR (run tb c n) t k (execs (run tb c n) ib) ds s1) Dn := g
    unfold forR at g
    split at g
    · rename_i xs hw
      intro H1 Z1 ρ1 e1 p1
      refine ⟨xs, hw, fun J hJ r1 => ?_⟩
      replace g := GoesS.mono g e1 p1
      refine ⟨fun i m σ' H' => ∃ Z2 ρ2 s2, Same Z1 Z2 ∧ ρ1 <+: ρ2 ∧ Rel G Z2 F ρ2 s2 σ' H' P ∧ i + m = xs.length ∧ GoesS G W Z2 F ρ2 P (forL (run tb c n) t (execs (run tb c n) ib) (xs.drop i) s2) Dn, ⟨xs.length, Z1, ρ1, s1, Same.refl _, List.prefix_refl _, r1, by omega, by simpa using g⟩, ?_⟩
      rintro i m σ' H' ⟨Z2, ρ2, s2, e2, p2, r2, him, g2⟩
      obtain ⟨j1, j2⟩ := hJ Z2 ρ2 s2 σ' H' P e2 p2 r2 i
      by_cases hi' : i = xs.length
      · left
        refine ⟨j2 hi', ?_⟩
        rw [hi', List.drop_length] at g2
        exact GoesS.next g2 r2
      · right
        have hlt : i < xs.length := by omega
        obtain ⟨go, yl⟩ := j1 xs[i] (List.getElem?_eq_getElem hlt)
        rw [List.drop_eq_getElem_cons hlt] at g2
        replace g2 : GoesS G W Z2 F ρ2 P (bd (asgT (run tb c n) t xs[i] s2) fun _ s => bd (execs (run tb c n) ib s) fun f s => match f with
          | .next => forL (run tb c n) t (execs (run tb c n) ib) (xs.drop (i + 1)) s
          | .cnt => forL (run tb c n) t (execs (run tb c n) ib) (xs.drop (i + 1)) s
          | .brk => ok .next s
          | .ret r => ok (.ret r) s) Dn := g2
        refine ⟨go, fun σ3 H3 => ∃ m', m' < m ∧ ∃ Z2 ρ2 s2, Same Z1 Z2 ∧ ρ1 <+: ρ2 ∧ Rel G Z2 F ρ2 s2 σ3 H3 P ∧ (i + 1) + m' = xs.length ∧ GoesS G W Z2 F ρ2 P (forL (run tb c n) t (execs (run tb c n) ib) (xs.drop (i + 1)) s2) Dn, fun σ3 H3 h3 => h3, fun y H3 hy => ?_⟩
        obtain ⟨Z3, e3, r3, d3⟩ := yl y H3 hy
        refine ⟨Z3, F, ρ2, s2, P, _, ns, r3, d3, ?_⟩
        have g3 := goesS_bindU (m := asgT (run tb c n) t xs[i]) (GoesS.mono g2 e3 (List.prefix_refl _))
        revert g3
        generalize asgT (run tb c n) t xs[i] s2 = res
        intro g3
        rcases res with _ | ⟨_ | u, s'⟩
        · exact g3
        · exact g3
        · intro σ4 H4 Z4 ρ4 e4 p4 r4
          obtain ⟨Z5, ρ5, s5, e5, p5, r5, g5⟩ := g3 σ4 H4 Z4 ρ4 e4 p4 r4
          refine ⟨Z5, F, ρ5, s5, P, ns, r5, ?_⟩
          rcases q5 : execs (run tb c n) ib s5 with _ | ⟨_ | f, s6⟩
          · rw [q5] at g5; exact g5
          · rw [q5] at g5; exact g5
          · rw [q5] at g5
            have up1 : Same Z1 Z5 := e2.trans (e3.trans e5)
            have up2 : ρ1 <+: ρ5 := List.IsPrefix.trans p2 p5
            cases f with
            | next => exact fun σ7 H7 Z7 ρ7 e7 p7 r7 => ⟨m - 1, by omega, Z7, ρ7, s6, up1.trans e7, List.IsPrefix.trans up2 p7, r7, by omega, GoesS.mono g5 e7 p7⟩
            | cnt => exact fun σ7 H7 Z7 ρ7 e7 p7 r7 => ⟨m - 1, by omega, Z7, ρ7, s6, up1.trans e7, List.IsPrefix.trans up2 p7, r7, by omega, GoesS.mono g5 e7 p7⟩
            | brk => exact g5
            | ret r => exact g5
    · exact g.elim
end
end Ri

set_option maxRecDepth 100000
/-! Ri, part N: list comprehensions. -/
namespace Ri
open PySem L2
/-- a held slot is let be -/
def deslot : R × V → R × V
  | (.slot _, _) => (.val .non, .non)
  | x => x
theorem deslot_own {x : R × V} {c : C} {v : V} : deslot x = (.own c, v) ↔ x = (.own c, v) := by
  obtain ⟨r, w⟩ := x
  cases r <;> simp [deslot]
theorem noSlot_deslot {P : List (R × V)} : NoSlot (P.map deslot) := fun j k v e => by
  rw [List.getElem?_map] at e
  cases q : P[j]? with
  | none => rw [q] at e; cases e
  | some x =>
    rw [q] at e
    obtain ⟨r, w⟩ := x
    cases r <;> simp [deslot] at e
section
variable {G : Cfg} {W : WX} {Z Z' H H' F : Hp} {ρ ρ' : List Addr} {s : S} {σ : L2.St} {P : List (R × V)} {Q : VK} {sl : List (Option SV)}
theorem owns_deslot {a : Addr} {w : Owner} : Owns ρ sl σ (P.map deslot) a w ↔ Owns ρ sl σ P a w := by
  cases w with
  | hp i => exact Iff.rfl
  | sl i => exact Iff.rfl
  | pd i =>
    simp only [Owns, List.getElem?_map]
    constructor
    · rintro ⟨c, h⟩
      cases q : P[i]? with
      | none => rw [q] at h; cases h
      | some x => rw [q] at h; simp only [Option.map_some, Option.some.injEq] at h; exact ⟨c, by rw [deslot_own.mp h]⟩
    · rintro ⟨c, h⟩
      exact ⟨c, by rw [h]; rfl⟩
theorem Rel.deslot (r : Rel G Z F ρ s σ H P) : Rel G Z F ρ s σ H (P.map Ri.deslot) :=
  ⟨r.zs, r.fs, r.len, r.hp, r.slen, r.sl, fun i x v e => by
    rw [List.getElem?_map] at e
    cases q : P[i]? with
    | none => rw [q] at e; cases e
    | some y =>
      rw [q] at e
      simp only [Option.map_some, Option.some.injEq] at e
      obtain ⟨y1, y2⟩ := y
      have g := r.pd i y1 y2 q
      cases y1 with
      | slot j => simp only [Ri.deslot, Prod.mk.injEq] at e; obtain ⟨rfl, rfl⟩ := e; exact .non
      | val d => simp only [Ri.deslot, Prod.mk.injEq] at e; obtain ⟨rfl, rfl⟩ := e; exact g
      | own c => simp only [Ri.deslot, Prod.mk.injEq] at e; obtain ⟨rfl, rfl⟩ := e; exact g,
   fun b w w' h1 h2 => r.uq b w w' (owns_deslot.mp h1) (owns_deslot.mp h2), fun b w h => r.zo b w (owns_deslot.mp h), r.no, r.nt⟩
theorem Rel.reslot (r : Rel G Z F ρ s σ H (P.map Ri.deslot)) (h : ∀ (i j : Nat) (v : V), P[i]? = some (.slot j, v) → σ[j]? = some (some v)) : Rel G Z F ρ s σ H P :=
  ⟨r.zs, r.fs, r.len, r.hp, r.slen, r.sl, fun i x v e => by
    cases x with
    | slot j => exact h i j v e
    | val d => exact r.pd i (.val d) v (by rw [List.getElem?_map, e]; rfl)
    | own c => exact r.pd i (.own c) v (by rw [List.getElem?_map, e]; rfl),
   fun b w w' h1 h2 => r.uq b w w' (owns_deslot.mpr h1) (owns_deslot.mpr h2), fun b w h => r.zo b w (owns_deslot.mpr h), r.no, r.nt⟩
/-- a slot is forgotten -/
theorem Rel.forget1 (r : Rel G Z F ρ s σ H P) (i : Nat) (ns : NoSlot P) : Rel G Z F ρ { s with sl := s.sl.set i none } (σ.set i none) H P := by
  have own : ∀ b w, Owns ρ (s.sl.set i none) (σ.set i none) P b w → Owns ρ s.sl σ P b w := fun b w h => by
    cases w with
    | hp j => exact h
    | pd j => exact h
    | sl j =>
      obtain ⟨⟨c, hc⟩, hv⟩ := h
      by_cases hj : j = i
      · subst hj
        by_cases hl : j < s.sl.length
        · rw [List.getElem?_set_self hl] at hc; simp at hc
        · rw [List.getElem?_eq_none (by simpa using hl)] at hc; cases hc
      · rw [List.getElem?_set_ne (Ne.symm hj)] at hc hv
        exact ⟨⟨c, hc⟩, hv⟩
  refine ⟨r.zs, r.fs, r.len, r.hp, by simp [r.slen], fun j x h => ?_, fun j x v h => ?_, fun b w w' h1 h2 => r.uq b w w' (own _ _ h1) (own _ _ h2), fun b w h => r.zo b w (own _ _ h), r.no, r.nt⟩
  · have hj : j ≠ i := fun e => by
      subst e
      simp only at h
      by_cases hl : j < s.sl.length
      · rw [List.getElem?_set_self hl] at h; simp at h
      · rw [List.getElem?_eq_none (by simpa using hl)] at h; cases h
    simp only at h
    rw [List.getElem?_set_ne (Ne.symm hj)] at h
    obtain ⟨v, h1, h2⟩ := r.sl j x h
    exact ⟨v, by rw [List.getElem?_set_ne (Ne.symm hj)]; exact h1, h2⟩
  · have g := r.pd j x v h
    cases x with
    | val d => exact g
    | own c => exact g
    | slot k => exact absurd h (ns j k v)
theorem Rel.wipe (r : Rel G Z F ρ s σ H P) (ns : NoSlot P) : ∀ own : List Nat, Rel G Z F ρ { s with sl := wipeS s.sl own } (L2.wipe σ own) H P
  | [] => r
  | i :: is => (Rel.wipe r ns is).forget1 i ns
/-- a slot's old content comes back -/
def backOk (G : Cfg) (Z : Hp) (ρ : List Addr) (σ : L2.St) (i : Nat) : Option SV → Prop
  | none => True
  | some (.val d) => ∃ v, σ[i]? = some (some v) ∧ DRep G Z ρ d v
  | _ => False
theorem Rel.restore1 {i : Nat} {x : Option SV} (r : Rel G Z F ρ s (σ.set i none) H P) (ns : NoSlot P) (hx : backOk G Z ρ σ i x) : Rel G Z F ρ { s with sl := s.sl.set i x } σ H P := by
  have nox : ∀ c, x ≠ some (.own c) := fun c e => by subst e; exact hx
  have own : ∀ b w, Owns ρ (s.sl.set i x) σ P b w → Owns ρ s.sl (σ.set i none) P b w := fun b w h => by
    cases w with
    | hp j => exact h
    | pd j => exact h
    | sl j =>
      obtain ⟨⟨c, hc⟩, hv⟩ := h
      by_cases hj : j = i
      · subst hj
        by_cases hl : j < s.sl.length
        · rw [List.getElem?_set_self hl] at hc; simp at hc; exact absurd hc (nox c)
        · rw [List.getElem?_eq_none (by simpa using hl)] at hc; cases hc
      · rw [List.getElem?_set_ne (Ne.symm hj)] at hc
        exact ⟨⟨c, hc⟩, by rw [List.getElem?_set_ne (Ne.symm hj)]; exact hv⟩
  refine ⟨r.zs, r.fs, r.len, r.hp, by have := r.slen; simpa using this, fun j y h => ?_, fun j y v h => ?_, fun b w w' h1 h2 => r.uq b w w' (own _ _ h1) (own _ _ h2), fun b w h => r.zo b w (own _ _ h), r.no, r.nt⟩
  · by_cases hj : j = i
    · subst hj
      simp only at h
      by_cases hl : j < s.sl.length
      · rw [List.getElem?_set_self hl] at h
        simp only [Option.some.injEq] at h
        subst h
        cases y with
        | val d => obtain ⟨v, h1, h2⟩ := hx; exact ⟨v, h1, h2⟩
        | own c => exact hx.elim
        | bor c => exact hx.elim
      · rw [List.getElem?_eq_none (by simpa using hl)] at h; cases h
    · simp only at h
      rw [List.getElem?_set_ne (Ne.symm hj)] at h
      obtain ⟨v, h1, h2⟩ := r.sl j y h
      rw [List.getElem?_set_ne (Ne.symm hj)] at h1
      exact ⟨v, h1, h2⟩
  · have g := r.pd j y v h
    cases y with
    | val d => exact g
    | own c => exact g
    | slot k => exact absurd h (ns j k v)
theorem Rel.unwipe {sl₀ : List (Option SV)} : ∀ {own : List Nat} {s : S}, own.Nodup → Rel G Z F ρ s (L2.wipe σ own) H P → NoSlot P → (∀ i ∈ own, ∃ x, sl₀[i]? = some x ∧ backOk G Z ρ σ i x) → Rel G Z F ρ { s with sl := Ri.unwipe sl₀ s.sl own } σ H P
  | [], s, _, r, _, _ => r
  | i :: is, s, nd, r, ns, hb => by
    obtain ⟨x, hx, hk⟩ := hb i (by simp)
    have nd' := List.nodup_cons.mp nd
    simp only [Ri.unwipe, hx]
    have r1 : Rel G Z F ρ s ((L2.wipe σ is).set i none) H P := r
    have hw : ∀ v, σ[i]? = some (some v) → (L2.wipe σ is)[i]? = some (some v) := fun v e => by
      have : ∀ is : List Nat, i ∉ is → (L2.wipe σ is)[i]? = σ[i]? := by
        intro is
        induction is with
        | nil => intro _; rfl
        | cons j js ih =>
          intro h
          simp only [List.mem_cons, not_or] at h
          show ((L2.wipe σ js).set j none)[i]? = _
          rw [List.getElem?_set_ne (Ne.symm h.1), ih h.2]
      rw [this is nd'.1]; exact e
    have r2 := r1.restore1 (x := x) ns (by
      cases x with
      | none => trivial
      | some y => cases y with
        | val d => obtain ⟨v, h1, h2⟩ := hk; exact ⟨v, hw v h1, h2⟩
        | own c => exact hk.elim
        | bor c => exact hk.elim)
    exact Rel.unwipe (s := { s with sl := s.sl.set i x }) nd'.2 r2 ns fun j hj => hb j (by simp [hj])
theorem back_of (r : Rel G Z F ρ s σ H P) {i : Nat} (h : plainS s.sl i = true) : ∃ x, s.sl[i]? = some x ∧ backOk G Z ρ σ i x := by
  unfold plainS at h
  split at h
  · rename_i e; exact ⟨none, e, trivial⟩
  · rename_i d e
    obtain ⟨v, h1, h2⟩ := r.sl i _ e
    exact ⟨_, e, v, h1, h2⟩
  · cases h
theorem backOk.mono {i : Nat} {x : Option SV} (e : Same Z Z') (p : ρ <+: ρ') (h : backOk G Z ρ σ i x) : backOk G Z' ρ' σ i x := by
  cases x with
  | none => trivial
  | some y => cases y with
    | val d => obtain ⟨v, h1, h2⟩ := h; exact ⟨v, h1, h2.mono e p⟩
    | own c => exact h.elim
    | bor c => exact h.elim
/-- the block's wish: nothing is raised -/
abbrev W0 : WX := fun _ _ _ _ => False
/-- a held container is changed -/
theorem Rel.setHead {a : Addr} {c c' : C} {o' : HO} (r : Rel G Z F ρ s σ H ((.own c, .ref a) :: P)) (h' : CRep G Z ρ c' o') : Rel G Z F ρ s σ (upd H a o') ((.own c', .ref a) :: P) := by
  have ow : Owns ρ s.sl σ ((.own c, .ref a) :: P) a (.pd 0) := ⟨c, rfl⟩
  obtain ⟨b, o, h2, h3, h4⟩ := r.head
  cases h2
  have k : ∀ b u, b ≠ a → H b = some u → upd H a o' b = some u := fun b u hb e => by rw [upd_ne hb]; exact e
  have hz := r.zo a _ ow
  have zk : ∀ b u, Z b = some u → upd H a o' b = some u := fun b u e => k b u (fun z => by subst z; rw [hz.1] at e; cases e) (r.zs b u e)
  have own : ∀ b w, Owns ρ s.sl σ ((.own c', .ref a) :: P) b w → Owns ρ s.sl σ ((.own c, .ref a) :: P) b w := fun b w h => by
    cases w with
    | hp j => exact h
    | sl j => exact h
    | pd j =>
      cases j with
      | zero => obtain ⟨c2, h⟩ := h; simp at h; exact ⟨c, by simp [h.2]⟩
      | succ j => exact h
  have ne : ∀ b w, Owns ρ s.sl σ ((.own c, .ref a) :: P) b w → w ≠ .pd 0 → b ≠ a := fun b w h hw z => by subst z; exact hw (r.uq b _ _ h ow)
  refine ⟨zk, fun b u e => k b u (fun z => by subst z; rw [hz.2] at e; cases e) (r.fs b u e), r.len, fun j ob b e1 e2 => (r.hp j ob b e1 e2).keep h3 (.crep h4) (ne b (.hp j) e2 (by intro z; cases z)) k, r.slen, fun j q e => ?_, fun j q w e => ?_, fun b w w' e1 e2 => r.uq b w w' (own _ _ e1) (own _ _ e2), fun b w e => r.zo b w (own _ _ e), r.no, r.nt⟩
  · obtain ⟨v, g1, g2⟩ := r.sl j q e
    refine ⟨v, g1, ?_⟩
    cases q with
    | val d => exact g2
    | bor c => exact g2
    | own c2 =>
      obtain ⟨b, ob, rfl, g3, g4⟩ := g2
      exact ⟨b, ob, rfl, k b ob (ne b (.sl j) ⟨⟨c2, e⟩, g1⟩ (by intro z; cases z)) g3, g4⟩
  · cases j with
    | zero =>
      simp at e
      obtain ⟨rfl, rfl⟩ := e
      exact ⟨a, o', rfl, upd_same, h'⟩
    | succ j =>
      have e' : ((R.own c, V.ref a) :: P)[j + 1]? = some (q, w) := by simpa using e
      have g := r.pd (j + 1) q w e'
      cases q with
      | val d => exact g
      | own c2 =>
        obtain ⟨b, ob, rfl, g3, g4⟩ := g
        exact ⟨b, ob, rfl, k b ob (ne b (.pd (j + 1)) ⟨c2, e'⟩ (by intro z; cases z)) g3, g4⟩
      | slot m => exact g
theorem wipe_set {σ : L2.St} {x : Option V} : ∀ {vs : List Nat} {i : Nat}, i ∈ vs → L2.wipe (σ.set i x) vs = L2.wipe σ vs := by
  intro vs
  induction vs with
  | nil => intro i h; cases h
  | cons j js ih =>
    intro i h
    show (L2.wipe (σ.set i x) js).set j none = (L2.wipe σ js).set j none
    by_cases hm : i ∈ js
    · rw [ih hm]
    · have hj : i = j := by rcases List.mem_cons.mp h with e | e; exact e; exact absurd e hm
      subst hj
      apply List.ext_getElem?
      intro m
      by_cases hmi : m = i
      · subst hmi
        simp only [List.getElem?_set, L2.wipe_length, List.length_set, if_true]
      · rw [List.getElem?_set_ne (Ne.symm hmi), List.getElem?_set_ne (Ne.symm hmi)]
        by_cases hmj : m ∈ js
        · have z : ∀ (τ : L2.St), τ.length = σ.length → (L2.wipe τ js)[m]? = if m < σ.length then some none else none := by
            intro τ hτ
            cases q : (L2.wipe τ js)[m]? with
            | none =>
              have := List.getElem?_eq_none_iff.mp q
              rw [L2.wipe_length, hτ] at this
              rw [if_neg (by omega)]
            | some y =>
              have := (List.getElem?_eq_some_iff.mp q).1
              rw [L2.wipe_length, hτ] at this
              rw [if_pos this]
              cases y with
              | none => rfl
              | some y => exact absurd hmj (L2.wipe_some q).2
          rw [z _ (by simp), z _ rfl]
        · rw [L2.wipe_out hmj, L2.wipe_out hmj, List.getElem?_set_ne (Ne.symm hmi)]
theorem wipe_wipe {σ : L2.St} {vs : List Nat} : L2.wipe (L2.wipe σ vs) vs = L2.wipe σ vs := by
  apply List.ext_getElem?
  intro m
  by_cases hm : m ∈ vs
  · have z : ∀ (τ : L2.St), τ.length = σ.length → (L2.wipe τ vs)[m]? = if m < σ.length then some none else none := by
      intro τ hτ
      cases q : (L2.wipe τ vs)[m]? with
      | none =>
        have := List.getElem?_eq_none_iff.mp q
        rw [L2.wipe_length, hτ] at this
        rw [if_neg (by omega)]
      | some y =>
        have := (List.getElem?_eq_some_iff.mp q).1
        rw [L2.wipe_length, hτ] at this
        rw [if_pos this]
        cases y with
        | none => rfl
        | some y => exact absurd hm (L2.wipe_some q).2
    rw [z _ (by rw [L2.wipe_length]), z _ rfl]
  · rw [L2.wipe_out hm]
/-- a comprehension's target -/
def GoesW (G : Cfg) (vs : List Nat) (Z F : Hp) (ρ : List Addr) (σ : L2.St) (P : List (R × V)) (res : Res Unit) (Q : L2.St → Hp → Prop) : Prop :=
  match res with
  | some (.ok _, s') => ∀ σ' H' Z' ρ', Same Z Z' → ρ <+: ρ' → L2.wipe σ' vs = L2.wipe σ vs → Rel G Z' F ρ' s' σ' H' P → Q σ' H'
  | _ => False
theorem GoesW.mono {vs : List Nat} {res : Res Unit} {Q : L2.St → Hp → Prop} (h : GoesW G vs Z F ρ σ P res Q) (e : Same Z Z') (p : ρ <+: ρ') : GoesW G vs Z' F ρ' σ P res Q := by
  rcases res with _ | ⟨_ | f, s'⟩
  · exact h
  · exact h
  · exact fun σ1 H1 Z1 ρ1 e1 p1 => h σ1 H1 Z1 ρ1 (e.trans e1) (List.IsPrefix.trans p p1)
def TGw (G : Cfg) (vs : List Nat) (m : Ri.D → S → Res Unit) : TG := fun v σ H Q => ∃ Z F ρ s P d, NoSlot P ∧ Rel G Z F ρ s σ H P ∧ DRep G Z ρ d v ∧ GoesW G vs Z F ρ σ P (m d s) Q
def TGws (G : Cfg) (vs : List Nat) (m : List Ri.D → S → Res Unit) : TGs := fun v σ H Q => ∃ Z F ρ s P d, NoSlot P ∧ Rel G Z F ρ s σ H P ∧ DReps G Z ρ d v ∧ GoesW G vs Z F ρ σ P (m d s) Q
end
def CGw (X : Cx) (G : Cfg) (vs : List Nat) (tb : Tb) (c : CallF) (e : Expr) (t : Tg) : Prop := ∀ n, PG X e (TGw G vs (asgT (run tb c n) t))
def CGws (X : Cx) (G : Cfg) (vs : List Nat) (tb : Tb) (c : CallF) (es : List Expr) (ts : List Tg) : Prop := ∀ n, PGs X es (TGws G vs (asgTs (run tb c n) ts))
section
variable {X : Cx} {G : Cfg} {W : WX} {tb : Tb} {c : CallF} {a b d e tg : Expr} {ia ib id ie : E} {pos p p2 : Pos} {es : List Expr} {is : List E} {t : Tg} {ts : List Tg} {x : Str} {i k : Nat} {vs : List Nat}
theorem cgw_name (hN : X.N.Nodup) (hi : X.N[i]? = some x) (hx : Loc X.env.scope x) (hv : i ∈ vs) (hf : X.fn x = true ∨ X.env.scope.names.lookup x = some .local := by first | exact .inl rfl | exact .inr rfl | assumption) : CGw X G vs tb c (.Name x pos) (.nm i) := fun n => by
  refine PG.imp (pg_name hN hi hx hf) fun v σ H Q ⟨Z, F, ρ, s, P, d, ns, rel, hd, g⟩ => ?_
  rw [asgT_nm] at g
  split at g
  · rename_i hl
    exact g _ H Z ρ (Same.refl _) (List.prefix_refl _) (wipe_set hv) ((rel.pushVal hd).store (by rw [← rel.slen]; exact hl) rfl ns)
  · exact g.elim
theorem cgws_nil : CGws X G vs tb c [] [] := fun n => by
  refine PGs.imp pgs_nil fun v σ H Q ⟨Z, F, ρ, s, P, ds, ns, rel, hd, g⟩ => ?_
  rw [asgTs.eq_def] at g
  cases hd with
  | nil => exact ⟨rfl, g σ H Z ρ (Same.refl _) (List.prefix_refl _) rfl rel⟩
  | cons _ _ => exact g.elim
theorem cgws_cons (h1 : CGw X G vs tb c e t) (h2 : CGws X G vs tb c es ts) (hs : (assignEach (e :: es) X.env).map (·.2) = assign e X.env :: (assignEach es X.env).map (·.2) := by rfl) : CGws X G vs tb c (e :: es) (t :: ts) := fun n => by
  refine PGs.imp (pgs_cons (h1 n) (h2 n) hs) fun vall σ H Q ⟨Z, F, ρ, s, P, ds, ns, rel, hd, g⟩ => ?_
  rw [asgTs.eq_def] at g
  cases hd with
  | nil => exact g.elim
  | @cons d ds v vs' hd1 hd2 =>
    refine ⟨v, vs', rfl, Z, F, ρ, s, P, d, ns, rel, hd1, ?_⟩
    dsimp only at g
    rcases q : asgT (run tb c n) t d s with _ | ⟨_ | u, s'⟩
    · rw [q] at g; exact g
    · rw [q] at g; exact g
    · rw [q] at g
      refine fun σ1 H1 Z1 ρ1 e1 p1 w1 r1 => ⟨Z1, F, ρ1, s', P, ds, ns, r1, hd2.mono e1 p1, ?_⟩
      replace g : GoesW G vs Z F ρ σ P (asgTs (run tb c n) ts ds s') Q := g
      rcases q2 : asgTs (run tb c n) ts ds s' with _ | ⟨_ | u, s2⟩
      · rw [q2] at g; exact g
      · rw [q2] at g; exact g
      · rw [q2] at g
        exact fun σ2 H2 Z2 ρ2 e2 p2 w2 r2 => g σ2 H2 Z2 ρ2 (e1.trans e2) (List.IsPrefix.trans p1 p2) (w2.trans w1) r2
theorem cgw_tup {kk : Nat} (hK : G.K = X.K) (hc : X.calm = true) (h : CGws X G vs tb c es ts) (hn : (assignEach es X.env).length = ts.length := by rfl) (hst : (assignEach es X.env).findIdx? (·.1) = none := by rfl) : CGw X G vs tb c (.Tuple es kk pos) (.tp ts) := fun n => by
  refine PG.imp (pg_tup hc (h n) hn hst) fun v σ H Q ⟨Z, F, ρ, s, P, d, ns, rel, hd, g⟩ => ?_
  cases d with
  | tup ds =>
    rw [asgT_tp] at g
    split at g
    · rename_i hl
      cases hd with
      | tup h1 h2 => exact ⟨_, _, rfl, by rw [← hK]; exact Same.sqT rel.zs h1, by rw [← h2.length]; exact hl, Z, F, ρ, s, P, _, ns, rel, h2, g⟩
    · exact g.elim
  | _ => rw [asgT.eq_def] at g; exact g.elim
end
end Ri

set_option maxRecDepth 100000
/-! Ri, part O: list comprehensions. -/
namespace Ri
open PySem L2
section
variable {G : Cfg} {W : WX} {Z Z' H H' F : Hp} {ρ ρ' : List Addr} {s : S} {σ : L2.St} {P : List (R × V)} {Q : VK}
theorem comp_read {tb : Tb} {c : CallF} {n : Nat} {t : Tg} {k : Ik} {is : List E} {ifs : Option E} {ie : E} {own : List Nat} (nd : own.Nodup) (h : T G W (stepE (run tb c n) tb (.comp t k is ifs ie own)) σ H Q) :
    tLc (TIr G W k (exIs (run tb c n) is)) (TGw G own (asgT (run tb c n) t)) (TB G W0 (ifR (run tb c n) ifs)) (T G W0 ((run tb c n).ex ie)) own σ H Q := by
  obtain ⟨Z, F, ρ, s, P, rel, g⟩ := h
  replace g : Goes G W Z F ρ σ P (bd (exIs (run tb c n) is s) fun ds s => compR (run tb c n) t k ifs ie own ds s) Q := g
  refine ⟨Z, F, ρ, s, P, rel, ?_⟩
  rcases q : exIs (run tb c n) is s with _ | ⟨x | ds, s1⟩
  · rw [q] at g; exact g
  · rw [q] at g; exact g
  · rw [q] at g
    replace g : Goes G W Z F ρ σ P (compR (run tb c n) t k ifs ie own ds s1) Q := g
    unfold compR at g
    split at g
    · rename_i xs hw
      split at g
      · rename_i hown
        intro H1 Z1 ρ1 e1 p1
        refine ⟨xs, hw, fun J hJ r1 Dd hD => ?_⟩
        replace g := Goes.mono g e1 p1
        have ns : NoSlot (P.map deslot) := noSlot_deslot
        have r1' := (r1.deslot.wipe ns own).pushNew (c := .lst []) (o := .lst []) hD ⟨[], rfl, .nil⟩
        refine ⟨fun i m H' => ∃ Z2 ρ2 s2 acc, Same Z1 Z2 ∧ ρ1 <+: ρ2 ∧ Rel G Z2 F ρ2 s2 (L2.wipe σ own) H' ((.own (.lst acc), .ref Dd) :: P.map deslot) ∧ i + m = xs.length ∧ Goes G W Z2 F ρ2 σ P (bo (compL (run tb c n) t ifs ie own (xs.drop i) acc s2) fun acc s' => ok (.own (.lst acc)) { s' with sl := unwipe s1.sl s'.sl own }) Q,
          ⟨xs.length, Z1, ρ1, _, [], Same.refl _, List.prefix_refl _, r1', by omega, by simpa using g⟩, ?_⟩
        rintro i m H' ⟨Z2, ρ2, s2, acc, e2, p2, r2, him, g2⟩
        obtain ⟨j1, j2⟩ := hJ Z2 ρ2 s2 _ H' _ e2 p2 r2 i
        by_cases hi' : i = xs.length
        · left
          refine ⟨j2 hi', ?_⟩
          rw [hi', List.drop_length] at g2
          replace g2 : Goes G W Z2 F ρ2 σ P (ok (.own (.lst acc)) { s2 with sl := unwipe s1.sl s2.sl own }) Q := g2
          have bk : ∀ i ∈ own, ∃ x, s1.sl[i]? = some x ∧ backOk G Z2 ρ2 σ i x := fun i hi => by
            obtain ⟨x, h1, h2⟩ := back_of r1 (List.all_eq_true.mp hown i hi)
            exact ⟨x, h1, h2.mono e2 p2⟩
          have r3 := Rel.unwipe (sl₀ := s1.sl) nd r2 (NoSlot.own ns) bk
          have r4 : Rel G Z2 F ρ2 { s2 with sl := unwipe s1.sl s2.sl own } σ H' ((.own (.lst acc), .ref Dd) :: P) := Rel.reslot r3 fun i j v e => by
            cases i with
            | zero => simp at e
            | succ i => exact r1.pd i (.slot j) v (by simpa using e)
          exact g2 _ H' Z2 ρ2 (Same.refl _) (List.prefix_refl _) r4
        · right
          have hlt : i < xs.length := by omega
          obtain ⟨go, yl⟩ := j1 xs[i] (List.getElem?_eq_getElem hlt)
          rw [List.drop_eq_getElem_cons hlt] at g2
          refine ⟨go, fun H3 => ∃ m', m' < m ∧ ∃ Z2 ρ2 s2 acc, Same Z1 Z2 ∧ ρ1 <+: ρ2 ∧ Rel G Z2 F ρ2 s2 (L2.wipe σ own) H3 ((.own (.lst acc), .ref Dd) :: P.map deslot) ∧ (i + 1) + m' = xs.length ∧ Goes G W Z2 F ρ2 σ P (bo (compL (run tb c n) t ifs ie own (xs.drop (i + 1)) acc s2) fun acc s' => ok (.own (.lst acc)) { s' with sl := unwipe s1.sl s'.sl own }) Q, fun H3 h3 => h3, fun y H3 hy => ?_⟩
          obtain ⟨Z3, e3, r3, d3⟩ := yl y H3 hy
          refine ⟨Z3, F, ρ2, s2, _, _, NoSlot.own ns, r3, d3, ?_⟩
          unfold compL at g2
          rcases q2 : asgT (run tb c n) t xs[i] s2 with _ | ⟨_ | u, s4⟩
          · rw [q2] at g2; exact g2.elim
          · rw [q2] at g2; exact g2.elim
          · rw [q2] at g2
            intro σ4 H4 Z4 ρ4 e4 p4 w4 r4
            have w4' : L2.wipe σ4 own = L2.wipe σ own := w4.trans wipe_wipe
            refine ⟨w4', Z4, F, ρ4, s4, _, r4, ?_⟩
            simp only [bo] at g2
            rcases q3 : ifR (run tb c n) ifs s4 with _ | ⟨_ | b, s5⟩
            · rw [q3] at g2; exact g2.elim
            · rw [q3] at g2; exact g2.elim
            · rw [q3] at g2
              intro H5 Z5 ρ5 e5 p5 r5
              have up1 : Same Z1 Z5 := e2.trans (e3.trans (e4.trans e5))
              have up2 : ρ1 <+: ρ5 := List.IsPrefix.trans p2 (List.IsPrefix.trans p4 p5)
              replace g2 := Goes.mono g2 (e3.trans (e4.trans e5)) (List.IsPrefix.trans p4 p5)
              cases b with
              | false =>
                simp only [Bool.false_eq_true, if_false] at g2 ⊢
                have r6 := r5.wipe (NoSlot.own ns) own
                rw [w4'] at r6
                exact ⟨m - 1, by omega, Z5, ρ5, _, acc, up1, up2, r6, by omega, g2⟩
              | true =>
                simp only [if_true] at g2 ⊢
                refine ⟨Z5, F, ρ5, s5, _, r5, ?_⟩
                rcases q4 : (run tb c n).ex ie s5 with _ | ⟨_ | r, s6⟩
                · rw [q4] at g2; exact g2.elim
                · rw [q4] at g2; exact g2.elim
                · rw [q4] at g2
                  intro v H6 Z6 ρ6 e6 p6 r6
                  simp only at g2
                  rcases freeze_ok (r := r) (s := s6) with ⟨dd, s7, q5⟩ | q5
                  · rw [q5] at g2
                    simp only at g2
                    obtain ⟨Z7, e7, r7⟩ := goes_freeze r6 q5
                    by_cases hlim : acc.length < LIM
                    · rw [if_pos hlim] at g2
                      obtain ⟨a', o, ha', ho, vs, rfl, hvs⟩ := r7.second
                      cases ha'
                      have hdd : DRep G Z7 ρ6 dd v := r7.head
                      refine ⟨vs, ho, by rw [← hvs.length]; exact hlim, ?_⟩
                      have r8 := (r7.pop.setHead (c' := .lst (acc ++ [dd])) (o' := .lst (vs ++ [v])) ⟨_, rfl, hvs.append (.one hdd)⟩).wipe (NoSlot.own ns) own
                      rw [w4'] at r8
                      exact ⟨m - 1, by omega, Z7, ρ6, _, _, up1.trans (e6.trans e7), List.IsPrefix.trans up2 p6, r8, by omega, Goes.mono g2 (e6.trans e7) p6⟩
                    · rw [if_neg hlim] at g2; exact g2.elim
                  · rw [q5] at g2; exact g2.elim
      · exact g.elim
    · exact g.elim
end
/-- tests of a clause -/
def CTs (X : Cx) (G : Cfg) (tb : Tb) (c : CallF) (es : List Expr) (i : Option E) : Prop := ∀ n, PTs X es (TB G W0 (ifR (run tb c n) i))
theorem PTs.imp {X : Cx} {e : List Expr} {t t' : TT} (h : PTs X e t) (k : ∀ σ H Q, t' σ H Q → t σ H Q) : PTs X e t' :=
  ⟨fun pins s σ H Q I hw => h.run pins s σ H Q I (k σ H Q hw)⟩
section
variable {X : Cx} {G : Cfg} {W : WX} {tb : Tb} {c : CallF} {a b d e tg elt iter : Expr} {ia ib id ie : E} {pos py spos : Pos} {es ifs : List Expr} {is : List E} {t : Tg} {x : Str} {i : Nat} {k : Ik} {io : Option E} {own : List (Str × Nat)} {scope : Scope}
theorem cts_nil : CTs X G tb c [] none := fun n => PTs.imp pts_nil fun σ H Q ⟨Z, F, ρ, s, P, rel, g⟩ => g H Z ρ (Same.refl _) (List.prefix_refl _) rel
theorem cts_one (h : CT X G W0 tb c a ia) : CTs X G tb c [a] (some ia) := fun n => pts_one (h n)
theorem ce_comp (hc : X.calm = true) (hN : X.N.Nodup) (hi : CI X G W tb c tg iter k is) (bk : BlkOk X.N X.env.scope scope own) (nd : (own.map (·.2)).Nodup)
    (hg : ∀ (s : Shared) (H : Hp) (C : Addr) (cl : List (Str × Addr)) (fp : List Addr), CGw (X.blk s H scope (compEnvC scope cl C X.env) fp) G (own.map (·.2)) tb c tg t)
    (ht : ∀ (s : Shared) (H : Hp) (C : Addr) (cl : List (Str × Addr)) (fp : List Addr), CTs (X.blk s H scope (compEnvC scope cl C X.env) fp) G tb c ifs io)
    (he : ∀ (s : Shared) (H : Hp) (C : Addr) (cl : List (Str × Addr)) (fp : List Addr), CE (X.blk s H scope (compEnvC scope cl C X.env) fp) G W0 tb c elt ie) (hs : ∀ x, foldedSetIterable iter X.env x = pure x := by intro _; rfl) :
    CE X G W tb c (.ListComp elt [⟨tg, iter, ifs, 0⟩] scope pos) (.comp t k is io ie (own.map (·.2))) :=
  ce_of (fun n => pe_lc hc hN (hi n) bk (fun s H C cl fp => hg s H C cl fp n) (fun s H C cl fp => ht s H C cl fp n) (fun s H C cl fp => he s H C cl fp n) hs) fun n σ H Q h => comp_read nd h
theorem PS.imp' {X : Cx} {e : Stmt} {t t' : TS} (h : PS X e t) (k : ∀ D σ H, t' D σ H → t D σ H) : PS X e t' :=
  ⟨fun pins s σ H D I hw => h.run pins s σ H D I (k D σ H hw)⟩
theorem cs_setComp (hc : X.calm = true) (hN : X.N.Nodup) (hy : X.N[i]? = some x) (hyl : X.env.scope.names.lookup x = some .local)
    (hsw : swapsWith (.ListComp elt [⟨tg, iter, ifs, 0⟩] scope pos) (some (.Name x py)) spos.line X.env = pure true) (hi : CI X G W tb c tg iter k is) (bk : BlkOk X.N X.env.scope scope own) (nd : (own.map (·.2)).Nodup)
    (hg : ∀ (s : Shared) (H : Hp) (C : Addr) (cl : List (Str × Addr)) (fp : List Addr), CGw (X.blk s H scope (compEnvC scope cl C X.env) fp) G (own.map (·.2)) tb c tg t)
    (ht : ∀ (s : Shared) (H : Hp) (C : Addr) (cl : List (Str × Addr)) (fp : List Addr), CTs (X.blk s H scope (compEnvC scope cl C X.env) fp) G tb c ifs io)
    (he : ∀ (s : Shared) (H : Hp) (C : Addr) (cl : List (Str × Addr)) (fp : List Addr), CE (X.blk s H scope (compEnvC scope cl C X.env) fp) G W0 tb c elt ie) (hs : ∀ x, foldedSetIterable iter X.env x = pure x := by intro _; rfl) :
    CS X G W tb c (.Assign [.Name x py] (.ListComp elt [⟨tg, iter, ifs, 0⟩] scope pos) spos) (.asg (.nm i) (.comp t k is io ie (own.map (·.2)))) :=
  cs_setP fun n => by
    cases n with
    | zero => exact ⟨fun pins s σ H Q I ⟨_, _, _, _, _, _, z⟩ => z.elim⟩
    | succ n => exact PS.imp' (ps_setLc hc hN hy hyl hsw (hi n) bk (fun s H C cl fp => hg s H C cl fp n) (fun s H C cl fp => ht s H C cl fp n) (fun s H C cl fp => he s H C cl fp n) hs) fun σ H Q h => comp_read nd h
end
end Ri

set_option maxRecDepth 100000
/-! Ri, part P: calls of defs, new instances, methods. -/
namespace Ri
open PySem L2
/-- an exception of a callee reaches what this body wants of exceptions -/
def PassW (CXp : CXT) (X : Cx) (W : WX) : Prop := ∀ (pins : List (Addr × Obj)) (σ : L2.St) (H : Hp) (s : Shared) (e : Value) (s' : Shared), Inv X pins σ H s → CXp X.stack H s (fun cls d H' => W cls d σ H') e s' → X.xe e s'
section
variable {X : Cx} {CXp : CXT} {k : Nat} {f C : Addr} {fd : FuncData} {ps : List Str} {sp : Sp} {W : WX} {x m : Str} {p pos apos : Pos} {e o : Expr} {es : List Expr} {ta : TE} {t : TA} {ds : List Value} {dvs : List V}
theorem run_fnW {pins : List (Addr × Obj)} {σ : L2.St} {H : Hp} {s : Shared} {Q : VK} {us : List Value} {vs : List V} (F : FnR X.prog X.w X.K X.mg X.base CXp k f sp) (hr : Room k X.A) (hx : PassW CXp X W)
    (I : Inv X pins σ H s) (r : Vals vs us) (h : sp vs H Q (fun cls d H' => W cls d σ H')) : wpAny (model X.prog X.w) X.A (call (.ref f) us) (EP X pins σ Q) X.xe s := by
  refine wpAny_call (codeAny_mono (F X.A X.stack s H us vs Q _ hr I.env0 r h) fun res s' hq => ?_)
  rcases res with e | fl
  · exact hx pins σ H s e s' I hq
  · cases fl with
    | ret u => exact I.after hq
    | next => exact hq.elim
    | brk => exact hq.elim
    | cont => exact hq.elim
def tCallW (sp : Sp) (W : WX) (t : TA) : TE := fun σ H Q => t σ H fun vs H1 => sp vs H1 Q (fun cls d H' => W cls d σ H')
theorem pe_callW (F : FnR X.prog X.w X.K X.mg X.base CXp k f sp) (hr : Room k X.A) (hg : Gl X x) (hm : X.mg x = some (.ref f)) (hk : PySem.W.keepIn X.K (.ref f) = true) (hx : PassW CXp X W)
    (ha : PA X (e :: es) t) (hdb : (x == ("__debug__" : Str)) = false := by decide) (he : starEach (e :: es) X.env = (false, eval e X.env) :: starEach es X.env := by rfl) (hpl : (backTo pos (starEach es X.env)).any (·.1) = false := by rfl) :
    PE X (.Call (.Name x p) (e :: es) [] pos) (tCallW sp W t) :=
  ⟨fun pins s σ H Q I h => wpAny_Call_Name_kw (ld_glob I hg hm (PySem.W.callWith_K (h₀ := X.base) I.ok.mod.kin hk (thn (ha.run pos pins s σ H _ I h) fun us s1 ⟨vs, H1, I1, r, q⟩ => ⟨I1.kIn, run_fnW F hr hx I1 r q⟩) he hpl) hdb)⟩
theorem pe_callW0 (F : FnR X.prog X.w X.K X.mg X.base CXp k f sp) (hr : Room k X.A) (hg : Gl X x) (hm : X.mg x = some (.ref f)) (hk : PySem.W.keepIn X.K (.ref f) = true) (hx : PassW CXp X W)
    (hdb : (x == ("__debug__" : Str)) = false := by decide) : PE X (.Call (.Name x p) [] [] pos) (tCallW sp W tNil) :=
  ⟨fun pins s σ H Q I h => wpAny_Call_Name_kw (ld_glob I hg hm (PySem.W.callWith_K0 I.kIn hk (run_fnW (us := []) F hr hx I .nil h)) hdb)⟩
/-- a method of an instance -/
def tMethW (C : Addr) (m : Str) (sp : Sp) (W : WX) (ta : TE) (t : TA) : TE := fun σ H Q => ta σ H fun x H1 => ∃ a dx fs, x = .ref a ∧ H1 a = some (.ins C dx fs) ∧ fs.lookup m = none ∧ t σ H1 fun vs H2 => sp (x :: vs) H2 Q (fun cls d H' => W cls d σ H')
theorem pe_methW {pl : Sem Bool} (he : PE X o ta) (c : Cls X.K C) (hm : Meth X.K C m f) (F : FnR X.prog X.w X.K X.mg X.base CXp k f sp) (hr : Room k X.A) (hx : PassW CXp X W) (ha : PA X (e :: es) t)
    (hst : starEach (e :: es) X.env = (false, eval e X.env) :: starEach es X.env := by rfl) (hpl : (backTo pos (starEach es X.env)).any (·.1) = false := by rfl)
    (ht : eval (.Call (.Attribute o m apos) (e :: es) [] pos) X.env = (do
      let ov ← eval o X.env; standAt apos.atName; let (f, first) ← holding [ov] (getMethod ov m pl); callWith pos f first (backTo pos (starEach (e :: es) X.env)) (backToKw pos (keywordEach [] X.env))) := by rfl) :
    PE X (.Call (.Attribute o m apos) (e :: es) [] pos) (tMethW C m sp W ta t) := by
  refine ⟨fun pins s σ H Q I h => PySem.W.methodCall_KW (pl := pl) (thn (he.run pins s σ H _ I h) fun u s1 ⟨x, H1, I1, rx, a, dx, fs, ex, ea, l, q⟩ => ?_) ht⟩
  subst ex
  cases (show u = Value.ref a from rx)
  exact getmeth_ok I1 ea c hm l (PySem.W.callWith_K (first := [.ref a]) (h₀ := X.base) I.ok.mod.kin hm.kp (thn (ha.run pos pins s1 σ H1 _ I1 q) fun us s2 ⟨vs, H2, I2, r, q2⟩ => ⟨I2.kIn, run_fnW (us := .ref a :: us) (vs := .ref a :: vs) F hr hx I2 (.cons rfl r) q2⟩) hst hpl)
theorem pe_methW0 {pl : Sem Bool} (he : PE X o ta) (c : Cls X.K C) (hm : Meth X.K C m f) (F : FnR X.prog X.w X.K X.mg X.base CXp k f sp) (hr : Room k X.A) (hx : PassW CXp X W)
    (ht : eval (.Call (.Attribute o m apos) [] [] pos) X.env = (do
      let ov ← eval o X.env; standAt apos.atName; let (f, first) ← holding [ov] (getMethod ov m pl); callWith pos f first (backTo pos (starEach [] X.env)) (backToKw pos (keywordEach [] X.env))) := by rfl) :
    PE X (.Call (.Attribute o m apos) [] [] pos) (tMethW C m sp W ta tNil) := by
  refine ⟨fun pins s σ H Q I h => PySem.W.methodCall_KW (pl := pl) (thn (he.run pins s σ H _ I h) fun u s1 ⟨x, H1, I1, rx, a, dx, fs, ex, ea, l, q⟩ => ?_) ht⟩
  subst ex
  cases (show u = Value.ref a from rx)
  exact getmeth_ok I1 ea c hm l (PySem.W.callWith_K0 (first := [.ref a]) I1.kIn hm.kp (run_fnW (us := [.ref a]) (vs := [.ref a]) F hr hx I1 (.cons rfl .nil) q))
/-- a new instance -/
def tMakeW (C : Addr) (sp : Sp) (W : WX) (t : TA) : TE := fun σ H Q => t σ H fun vs H1 => ∀ x dx, H1 x = none → H1 dx = none → dx ≠ x →
  sp (.ref x :: vs) (upd (upd H1 dx (.own x)) x (.ins C dx [])) (fun v H2 => v = .non ∧ Q (.ref x) H2) (fun cls d H' => W cls d σ H')
theorem run_makeW {pins : List (Addr × Obj)} {σ : L2.St} {H : Hp} {s : Shared} {Q : VK} {us : List Value} {vs : List V} (M : Mk X.K C f) (F : FnR X.prog X.w X.K X.mg X.base CXp k f sp) (hr : Room (k + 1) X.A)
    (hx : PassW CXp X W) (I : Inv X pins σ H s) (r : Vals vs us)
    (h : ∀ x dx, H x = none → H dx = none → dx ≠ x → sp (.ref x :: vs) (upd (upd H dx (.own x)) x (.ins C dx [])) (fun v H2 => v = .non ∧ Q (.ref x) H2) (fun cls d H' => W cls d σ H')) :
    wpAny (model X.prog X.w) X.A (call (.ref C) us) (EP X pins σ Q) X.xe s := by
  have hq := h (s.heap.objs.size + 1) s.heap.objs.size (I.hok.fresh (Nat.le_succ _)) (I.hok.fresh (Nat.le_refl _)) (Nat.ne_of_lt (Nat.lt_succ_self _))
  have J := Inv.made (C := C) I
  have r2 : Vals (V.ref (s.heap.objs.size + 1) :: vs) (Value.ref (s.heap.objs.size + 1) :: us) := .cons rfl r
  refine wpAny_call (make_map (f := f) I.kIn M.makes M.init (beq_iff_eq.mp M.fn) (codeAny_mono (F _ X.stack _ _ (Value.ref (s.heap.objs.size + 1) :: us) _ _ _ (hr.make C us []) (J.env0.make C us []) r2 hq) fun res s' hq' => ?_))
  rcases res with e | fl
  · exact hx pins σ _ _ e s' J hq'
  · cases fl with
    | ret u =>
      obtain ⟨v, H', I3, rv, ev, q3⟩ := J.after hq'
      subst ev
      exact ⟨rv, ⟨V.ref (s.heap.objs.size + 1), H', I3, rfl, q3⟩⟩
    | next => exact hq'.elim
    | brk => exact hq'.elim
    | cont => exact hq'.elim
theorem pe_makeW (M : Mk X.K C f) (F : FnR X.prog X.w X.K X.mg X.base CXp k f sp) (hr : Room (k + 1) X.A) (hg : Gl X x) (hm : X.mg x = some (.ref C)) (hx : PassW CXp X W)
    (ha : PA X (e :: es) t) (hdb : (x == ("__debug__" : Str)) = false := by decide) (he : starEach (e :: es) X.env = (false, eval e X.env) :: starEach es X.env := by rfl) (hpl : (backTo pos (starEach es X.env)).any (·.1) = false := by rfl) :
    PE X (.Call (.Name x p) (e :: es) [] pos) (tMakeW C sp W t) :=
  ⟨fun pins s σ H Q I h => wpAny_Call_Name_kw (ld_glob I hg hm (PySem.W.callWith_K (h₀ := X.base) I.ok.mod.kin M.kp (thn (ha.run pos pins s σ H _ I h) fun us s1 ⟨vs, H1, I1, r, q⟩ => ⟨I1.kIn, run_makeW M F hr hx I1 r q⟩) he hpl) hdb)⟩
end
/-! ### the small machine's side -/
section
variable {G : Cfg} {W : WX} {Z Z' H H' F : Hp} {ρ ρ' : List Addr} {s : S} {σ : L2.St} {P L : List (R × V)} {Q : VK}
theorem held_get {rs : List R} {vs : List V} (hl : rs.length = vs.length) {j : Nat} {x : R} {v : V} (h1 : rs[j]? = some x) (h2 : vs[j]? = some v) : (rs.zip vs).reverse[rs.length - 1 - j]? = some (x, v) := by
  have hj : j < rs.length := (List.getElem?_eq_some_iff.mp h1).1
  have hz : (rs.zip vs).length = rs.length := by simp [hl]
  rw [List.getElem?_reverse (by omega), hz, show rs.length - 1 - (rs.length - 1 - j) = j by omega, (List.getElem?_zip_eq_some (z := (x, v))).mpr ⟨h1, h2⟩]
/-- held arguments are handed over -/
theorem call_held {rs : List R} {vs : List V} {c : CallF} {f : Nat} {FF : Rec} {K : R → S → Hp → Hp → List Addr → Prop} (hc : FF.call = c) (r : Rel G Z F ρ s σ H ((rs.zip vs).reverse ++ P)) (hl : rs.length = vs.length)
    (h : GoesX G W Z F ρ σ P (callR FF f rs s) K) (hQ : ∀ v H1 r1 s1 Z1 ρ1, Same Z Z1 → ρ <+: ρ1 → Rel G Z1 F ρ1 s1 σ H1 ((r1, v) :: P) → s1.sl = s.sl → K r1 s1 H1 Z1 ρ1 → Q v H1) : spD G c f rs.length vs H Q (fun cls d H' => W cls d σ H') := by
  refine call_sp hc r hl (fun j => rs.length - 1 - j) (fun j x v h1 h2 => ?_) (fun j k h1 h2 _ _ e => by have e : rs.length - 1 - j = rs.length - 1 - k := e; omega) h (fun _ _ _ w => w) hQ
  have g := held_get hl h1 h2
  exact ⟨r.mem (List.mem_append_left _ (List.mem_of_getElem? g)), fun _ _ => g⟩
theorem same_upd2 {x dx : Addr} {C : Addr} (hx : H x = none) (hd : H dx = none) : Same H (upd (upd H dx (.own x)) x (.ins C dx [])) := fun b u e => by
  rw [upd_ne (ne_of_none e hx), upd_ne (ne_of_none e hd)]; exact e
/-- a new thing of the heap -/
theorem Rel.newHp {o : O} {x : Addr} (r : Rel G Z F ρ s σ H P) (hx : H x = none) (k : Same H H') (ho : ORep G Z (ρ ++ [x]) H' x o) : Rel G Z F (ρ ++ [x]) { s with hp := s.hp ++ [o] } σ H' P := by
  have pre : ρ <+: ρ ++ [x] := List.prefix_append _ _
  have own : ∀ b w, Owns (ρ ++ [x]) s.sl σ P b w → (w = .hp ρ.length ∧ b = x) ∨ Owns ρ s.sl σ P b w := fun b w h => by
    cases w with
    | hp j =>
      have h : (ρ ++ [x])[j]? = some b := h
      by_cases hj : j = ρ.length
      · subst hj
        rw [List.getElem?_concat_length] at h
        cases h
        exact .inl ⟨rfl, rfl⟩
      · refine .inr ?_
        have hj' : j < ρ.length := by
          have := (List.getElem?_eq_some_iff.mp h).1
          simp at this; omega
        rw [List.getElem?_append_left hj'] at h
        exact h
    | sl j => exact .inr h
    | pd j => exact .inr h
  have nx : ∀ w, ¬ Owns ρ s.sl σ P x w := fun w h => by
    obtain ⟨u, hu⟩ := r.alive h
    rw [hx] at hu; cases hu
  refine ⟨fun b u e => k _ _ (r.zs b u e), fun b u e => k _ _ (r.fs b u e), by simp [r.len], fun i ob b e1 e2 => ?_, r.slen, fun i q g => ?_, fun i q w g => (r.pd i q w g).mono (Same.refl _) pre k, fun b w w' h1 h2 => ?_, fun b w h => ?_, r.no, r.nt⟩
  · by_cases hi : i = ρ.length
    · subst hi
      rw [List.getElem?_concat_length] at e2
      cases e2
      have e1 : (s.hp ++ [o])[ρ.length]? = some ob := e1
      rw [← r.len, List.getElem?_concat_length] at e1
      cases e1
      exact ho
    · have hi' : i < ρ.length := by
        have := (List.getElem?_eq_some_iff.mp e2).1
        simp at this; omega
      have e1 : (s.hp ++ [o])[i]? = some ob := e1
      rw [List.getElem?_append_left hi'] at e2
      rw [List.getElem?_append_left (by rw [r.len]; exact hi')] at e1
      exact (r.hp i ob b e1 e2).mono (Same.refl _) pre k
  · obtain ⟨v, g1, g2⟩ := r.sl i q g
    exact ⟨v, g1, g2.mono (Same.refl _) pre k⟩
  · rcases own b w h1 with ⟨rfl, rfl⟩ | k1 <;> rcases own b w' h2 with ⟨rfl, e⟩ | k2
    · rfl
    · exact absurd k2 (nx _)
    · subst e; exact absurd k1 (nx _)
    · exact r.uq b w w' k1 k2
  · rcases own b w h with ⟨rfl, rfl⟩ | k1
    · exact ⟨same_none r.zs hx, same_none r.fs hx⟩
    · exact r.zo b w k1
end
end Ri

set_option maxRecDepth 100000
/-! Ri, part Q: the terms of calls. -/
namespace Ri
open PySem L2
/-- a def that is called with np arguments, or not at all -/
def NpOk (c : CallF) (f np : Nat) : Prop := ∀ svs hp, svs.length ≠ np → c f svs hp = none
section
variable {G : Cfg} {W : WX} {Z Z' H H' F : Hp} {ρ ρ' : List Addr} {s : S} {σ : L2.St} {P L : List (R × V)} {Q : VK}
theorem callR_np {c : CallF} {FF : Rec} {f np : Nat} {rs : List R} (hc : FF.call = c) (hn : NpOk c f np) (h : callR FF f rs s ≠ none) : rs.length = np := by
  unfold callR at h
  cases q : argSs s rs with
  | none => rw [q] at h; exact absurd rfl h
  | some svs =>
    rw [q, hc] at h
    rw [argSs_len q]
    refine Classical.byContradiction fun z => ?_
    simp only [hn svs s.hp z] at h
    exact h rfl
theorem goesX_ne {α : Type} {res : Res α} {K : α → S → Hp → Hp → List Addr → Prop} (h : GoesX G W Z F ρ σ P res K) : res ≠ none := fun z => by rw [z] at h; exact h
theorem bd_ne {α β : Type} {m : Res α} {g : α → S → Res β} (h : bd m g ≠ none) : m ≠ none := fun z => by rw [z] at h; exact h rfl
/-- held arguments are handed over; then anything -/
theorem call_then {α : Type} {rs : List R} {vs : List V} {c : CallF} {f np : Nat} {FF : Rec} {g : R → S → Res α} {K : α → S → Hp → Hp → List Addr → Prop} (hc : FF.call = c) (hn : NpOk c f np) (r : Rel G Z F ρ s σ H ((rs.zip vs).reverse ++ P)) (hl : rs.length = vs.length)
    (h : GoesX G W Z F ρ σ P (bd (callR FF f rs s) g) K) (hQ : ∀ v H1 r1 s1 Z1 ρ1, Same Z Z1 → ρ <+: ρ1 → Rel G Z1 F ρ1 s1 σ H1 ((r1, v) :: P) → GoesX G W Z1 F ρ1 σ P (g r1 s1) K → Q v H1) : spD G c f np vs H Q (fun cls d H' => W cls d σ H') := by
  rw [← callR_np hc hn (bd_ne (goesX_ne h))]
  refine call_held (K := fun r1 s1 H1 Z1 ρ1 => GoesX G W Z1 F ρ1 σ P (g r1 s1) K) hc r hl ?_ fun v H1 r1 s1 Z1 ρ1 e1 p1 rel1 _ k1 => hQ v H1 r1 s1 Z1 ρ1 e1 p1 rel1 k1
  rcases q : callR FF f rs s with _ | ⟨_ | r1, s1⟩
  · rw [q] at h; exact h
  · rw [q] at h; exact h
  · rw [q] at h
    exact fun H1 Z1 ρ1 e1 p1 => GoesX.mono h e1 p1
theorem bd_okR {α : Type} (m : Res α) : bd m ok = m := by rcases m with _ | ⟨_ | _, _⟩ <;> rfl
theorem call_end {rs : List R} {vs : List V} {c : CallF} {f np : Nat} {FF : Rec} (hc : FF.call = c) (hn : NpOk c f np) (r : Rel G Z F ρ s σ H ((rs.zip vs).reverse ++ P)) (hl : rs.length = vs.length)
    (h : Goes G W Z F ρ σ P (callR FF f rs s) Q) : spD G c f np vs H Q (fun cls d H' => W cls d σ H') := by
  rw [← bd_okR (callR FF f rs s)] at h
  exact call_then hc hn r hl (Goes.x h) fun v H1 r1 s1 Z1 ρ1 e1 p1 rel1 k1 => k1 H1 Z1 ρ1 (Same.refl _) (List.prefix_refl _) v rel1
end
theorem run_call {tb : Tb} {c : CallF} : ∀ n, (run tb c n).call = c
  | 0 => rfl
  | _ + 1 => rfl
section
variable {X : Cx} {G : Cfg} {W : WX} {tb : Tb} {c : CallF} {CXp : CXT} {k fi ci np : Nat} {f C : Addr} {fd : FuncData} {ps : List Str} {x m : Str} {p pos apos : Pos} {e o : Expr} {io : E} {es : List Expr} {is : List E}
theorem ce_call (F : FnR X.prog X.w X.K X.mg X.base CXp k f (spD G c fi np)) (hn : NpOk c fi np) (hr : Room k X.A) (hg : Gl X x) (hm : X.mg x = some (.ref f)) (hk : PySem.W.keepIn X.K (.ref f) = true) (hx : PassW CXp X W)
    (ha : CA X G W tb c (e :: es) is) (hdb : (x == ("__debug__" : Str)) = false := by decide) (he : starEach (e :: es) X.env = (false, eval e X.env) :: starEach es X.env := by rfl) (hpl : (backTo pos (starEach es X.env)).any (·.1) = false := by rfl) :
    CE X G W tb c (.Call (.Name x p) (e :: es) [] pos) (.call fi is) := by
  refine ce_of (fun n => pe_callW F hr hg hm hk hx (ha n) hdb he hpl) fun n σ H Q ⟨Z, F, ρ, s, P, rel, g⟩ => ?_
  refine goesX_args [] rel (Goes.x g) fun vs H1 rs s1 Z1 ρ1 e1 p1 hl rel1 g1 => ?_
  exact call_end (run_call n) hn rel1 hl (GoesX.g g1)
theorem ce_call0 (F : FnR X.prog X.w X.K X.mg X.base CXp k f (spD G c fi np)) (hn : NpOk c fi np) (hr : Room k X.A) (hg : Gl X x) (hm : X.mg x = some (.ref f)) (hk : PySem.W.keepIn X.K (.ref f) = true) (hx : PassW CXp X W)
    (hdb : (x == ("__debug__" : Str)) = false := by decide) : CE X G W tb c (.Call (.Name x p) [] [] pos) (.call fi []) := by
  refine ce_of (fun n => pe_callW0 F hr hg hm hk hx hdb) fun n σ H Q ⟨Z, F, ρ, s, P, rel, g⟩ => ?_
  exact call_end (rs := []) (vs := []) (run_call n) hn rel rfl g

/-! ### methods of plain instances -/
/-- a class of plain instances -/
structure PCls (G : Cfg) (X : Cx) (ci : Nat) (C : Addr) (names : List Str) : Prop where
  at_ : G.cls ci = some ⟨C, false, names⟩
  cls : Cls X.K C
  nd : names.Nodup
  few : names.length ≤ 900
theorem isIns_at {Z H F : Hp} {ρ : List Addr} {s : S} {σ : L2.St} {P : List (R × V)} {r : R} {v : V} (rel : Rel G Z F ρ s σ H P) (hr : PRep G Z ρ H s.sl σ v r) (h : isIns s ci r = true) : ∃ a vs, v = .ref a ∧ InsAt G H a ci vs := by
  cases r with
  | val d =>
    cases d with
    | ins c' fs =>
      have e : ci = c' := by simpa [isIns] using h
      subst e
      have hr : DRep G Z ρ (.ins ci fs) v := hr
      cases hr with
      | ins h1 h2 => exact ⟨_, _, rfl, h1.mono rel.zs⟩
    | ref n =>
      have hr : DRep G Z ρ (.ref n) v := hr
      simp only [isIns] at h
      cases q : s.hp[n]? with
      | none => rw [q] at h; cases h
      | some o =>
        rw [q] at h
        cases o with
        | lst _ => cases h
        | tab _ => cases h
        | ins c' fs =>
          have e : ci = c' := by simpa using h
          subst e
          cases hr with
          | ref ha =>
            obtain ⟨vs, h1, _⟩ := rel.hp n _ _ q ha
            exact ⟨_, vs, rfl, h1⟩
    | _ => cases h
  | own _ => cases h
  | slot _ => cases h
end
end Ri

set_option maxRecDepth 100000
/-! Ri, part R: instances. -/
namespace Ri
open PySem L2
/-- a class of instances with slots -/
structure SlCls (G : Cfg) (X : Cx) (ci : Nat) (C : Addr) (names : List Str) : Prop where
  at_ : G.cls ci = some ⟨C, true, names⟩
  cls : SlX.SCls X.K C
theorem nodup_len {α : Type} [BEq α] [LawfulBEq α] : ∀ {l m : List α}, l.Nodup → (∀ x ∈ l, x ∈ m) → l.length ≤ m.length
  | [], _, _, _ => Nat.zero_le _
  | a :: l, m, hn, hs => by
    obtain ⟨h1, h2⟩ := List.nodup_cons.mp hn
    have ha : a ∈ m := hs a List.mem_cons_self
    have := nodup_len (l := l) (m := m.erase a) h2 fun x hx => by
      have hne : x ≠ a := fun e => h1 (e ▸ hx)
      exact (List.mem_erase_of_ne hne).mpr (hs x (List.mem_cons_of_mem _ hx))
    rw [List.length_erase_of_mem ha] at this
    have : 0 < m.length := List.length_pos_of_mem ha
    simp; omega
theorem lookup_none {α : Type} {f : Str} : ∀ {l : List (Str × α)}, f ∉ l.map (·.1) → l.lookup f = none
  | [], _ => rfl
  | (g, x) :: r, h => by
    simp only [List.map_cons, List.mem_cons, not_or] at h
    rw [List.lookup_cons, beq_eq_false_iff_ne.mpr h.1]
    exact lookup_none h.2
theorem putF_keys {f : Str} {v : V} : ∀ {fs : List (Str × V)} {g : Str}, g ∈ (putF f v fs).map (·.1) → g = f ∨ g ∈ fs.map (·.1)
  | [], g, h => by simp [putF] at h; exact .inl h
  | (k, x) :: r, g, h => by
    unfold putF at h
    split at h
    · exact .inr (by simpa using h)
    · simp only [List.map_cons, List.mem_cons] at h ⊢
      rcases h with h | h
      · exact .inr (.inl h)
      · rcases putF_keys h with h | h
        · exact .inl h
        · exact .inr (.inr h)
theorem putF_nodup {f : Str} {v : V} : ∀ {fs : List (Str × V)}, (fs.map (·.1)).Nodup → ((putF f v fs).map (·.1)).Nodup
  | [], _ => by simp [putF]
  | (k, x) :: r, h => by
    simp only [List.map_cons, List.nodup_cons] at h
    unfold putF
    split
    · simp only [List.map_cons, List.nodup_cons]; exact h
    · rename_i hk
      simp only [List.map_cons, List.nodup_cons]
      refine ⟨fun z => ?_, putF_nodup h.2⟩
      rcases putF_keys z with z | z
      · exact hk z
      · exact h.1 z
section
variable {G : Cfg} {W : WX} {Z Z' H H' F : Hp} {ρ ρ' : List Addr} {s : S} {σ : L2.St} {P L : List (R × V)} {Q : VK} {X : Cx} {ci : Nat} {C : Addr} {names : List Str}
theorem PCls.ins (c : PCls G X ci C names) {a : Addr} {vs : List (Option V)} (h : InsAt G H a ci vs) : vs.length = names.length ∧ ∃ dx fs, H a = some (.ins C dx fs) ∧ H dx = some (.own a) ∧ ((fs.map (·.1)).Nodup ∧ ∀ f ∈ fs.map (·.1), f ∈ names) ∧ ∀ (i : Nat) (f : Str), names[i]? = some f → fs.lookup f = (vs[i]?).join := by
  obtain ⟨cI, dx, h1, h2, h3⟩ := h
  rw [c.at_] at h1
  cases h1
  simp only [Bool.false_eq_true, if_false] at h3
  obtain ⟨fs, h4⟩ := h3
  exact ⟨h2, dx, fs, h4⟩
theorem SlCls.ins (c : SlCls G X ci C names) {a : Addr} {vs : List (Option V)} (h : InsAt G H a ci vs) : vs.length = names.length ∧ ∃ dx ws, SltO H a C dx ws ∧ ∀ (i : Nat) (v : V), vs[i]? = some (some v) → ws[i]? = some (some v) := by
  obtain ⟨cI, dx, h1, h2, h3⟩ := h
  rw [c.at_] at h1
  cases h1
  simp only [if_true] at h3
  obtain ⟨ws, h4⟩ := h3
  exact ⟨h2, dx, ws, h4⟩
/-- a field that is read -/
theorem getF_at {r : R} {v : V} {k : Nat} {d : D} (rel : Rel G Z F ρ s σ H P) (hr : PRep G Z ρ H s.sl σ v r) {x : D} (hx : r = .val x) (h : getF s ci k x = some d) : ∃ a vs y, v = .ref a ∧ InsAt G H a ci vs ∧ vs[k]? = some (some y) ∧ DRep G Z ρ d y := by
  subst hx
  cases x with
  | ins c' fs =>
    have hr : DRep G Z ρ (.ins c' fs) v := hr
    simp only [getF] at h
    split at h
    · rename_i e
      subst e
      cases hr with
      | ins h1 h2 =>
        obtain ⟨y, g1, g2⟩ := h2.get h
        exact ⟨_, _, y, rfl, h1.mono rel.zs, by rw [List.getElem?_map, g1]; rfl, g2⟩
    · cases h
  | ref n =>
    have hr : DRep G Z ρ (.ref n) v := hr
    simp only [getF] at h
    cases q : s.hp[n]? with
    | none => rw [q] at h; cases h
    | some o =>
      rw [q] at h
      cases o with
      | lst _ => cases h
      | tab _ => cases h
      | ins c' fs =>
        simp only at h
        split at h
        · rename_i e
          subst e
          cases hr with
          | ref ha =>
            obtain ⟨vs, h1, h2, h3⟩ := rel.hp n _ _ q ha
            have h4 := h3 k
            cases q2 : fs[k]? with
            | none => rw [q2] at h; cases h
            | some od =>
              rw [q2] at h h4
              cases od with
              | none => cases h
              | some d' =>
                simp only [Option.join_some, Option.some.injEq] at h
                subst h
                obtain ⟨y, g1, g2⟩ := h4
                exact ⟨_, vs, y, rfl, h1, g1, g2⟩
        · cases h
  | _ => cases h
end
section
variable {X : Cx} {G : Cfg} {W : WX} {tb : Tb} {c : CallF} {CXp : CXT} {k fi ci np : Nat} {f C : Addr} {x m fl : Str} {p pos apos : Pos} {e o : Expr} {io ie : E} {es : List Expr} {is : List E} {names : List Str}
/-! ### methods -/
theorem ce_meth {pl : Sem Bool} (ho : CE X G W tb c o io) (cl : PCls G X ci C names) (hno : m ∉ names) (hm : Meth X.K C m f) (F : FnR X.prog X.w X.K X.mg X.base CXp k f (spD G c fi np)) (hn : NpOk c fi np) (hr : Room k X.A) (hx : PassW CXp X W) (ha : CA X G W tb c (e :: es) is)
    (hst : starEach (e :: es) X.env = (false, eval e X.env) :: starEach es X.env := by rfl) (hpl : (backTo pos (starEach es X.env)).any (·.1) = false := by rfl)
    (ht : eval (.Call (.Attribute o m apos) (e :: es) [] pos) X.env = (do
      let ov ← eval o X.env; standAt apos.atName; let (f, first) ← holding [ov] (getMethod ov m pl); callWith pos f first (backTo pos (starEach (e :: es) X.env)) (backToKw pos (keywordEach [] X.env))) := by rfl) :
    CE X G W tb c (.Call (.Attribute o m apos) (e :: es) [] pos) (.mcall ci fi io is) := by
  refine ce_of (fun n => pe_methW (pl := pl) (ho n) cl.cls hm F hr hx (ha n) hst hpl ht) fun n σ H Q ⟨Z, Fr, ρ, s, P, rel, g⟩ => ?_
  refine goes_bind [] rel g fun v H1 r1 s1 Z1 ρ1 e1 p1 rel1 g1 => ?_
  unfold mcallR at g1
  split at g1
  · rename_i hi
    obtain ⟨a, vs, rfl, hI⟩ := isIns_at rel1 rel1.head hi
    obtain ⟨_, dx, fs, h1, _, ⟨_, h2⟩, _⟩ := cl.ins hI
    refine ⟨a, dx, fs, rfl, h1, lookup_none fun z => hno (h2 _ z), ?_⟩
    refine goesX_args [(r1, .ref a)] rel1 (Goes.x g1) fun vs H2 rs s2 Z2 ρ2 e2 p2 hl rel2 g2 => ?_
    refine call_end (rs := r1 :: rs) (vs := .ref a :: vs) (run_call n) hn ?_ (by simp [hl]) (GoesX.g g2)
    rw [List.zip_cons_cons, List.reverse_cons, List.append_assoc]
    exact rel2
  · exact g1.elim
theorem ce_meth0 {pl : Sem Bool} (ho : CE X G W tb c o io) (cl : PCls G X ci C names) (hno : m ∉ names) (hm : Meth X.K C m f) (F : FnR X.prog X.w X.K X.mg X.base CXp k f (spD G c fi np)) (hn : NpOk c fi np) (hr : Room k X.A) (hx : PassW CXp X W)
    (ht : eval (.Call (.Attribute o m apos) [] [] pos) X.env = (do
      let ov ← eval o X.env; standAt apos.atName; let (f, first) ← holding [ov] (getMethod ov m pl); callWith pos f first (backTo pos (starEach [] X.env)) (backToKw pos (keywordEach [] X.env))) := by rfl) :
    CE X G W tb c (.Call (.Attribute o m apos) [] [] pos) (.mcall ci fi io []) := by
  refine ce_of (fun n => pe_methW0 (pl := pl) (ho n) cl.cls hm F hr hx ht) fun n σ H Q ⟨Z, Fr, ρ, s, P, rel, g⟩ => ?_
  refine goes_bind [] rel g fun v H1 r1 s1 Z1 ρ1 e1 p1 rel1 g1 => ?_
  unfold mcallR at g1
  split at g1
  · rename_i hi
    obtain ⟨a, vs, rfl, hI⟩ := isIns_at rel1 rel1.head hi
    obtain ⟨_, dx, fs, h1, _, ⟨_, h2⟩, _⟩ := cl.ins hI
    refine ⟨a, dx, fs, rfl, h1, lookup_none fun z => hno (h2 _ z), ?_⟩
    exact call_end (rs := [r1]) (vs := [.ref a]) (run_call n) hn rel1 rfl g1
  · exact g1.elim
/-! ### fields -/
theorem ce_fld (he : CE X G W tb c e ie) (cl : PCls G X ci C names) (hno : NoAttr X.K C fl) (hk : names[k]? = some fl) (hb : attributeBase e fl X.env (eval e X.env) = eval e X.env := by rfl) : CE X G W tb c (.Attribute e fl pos) (.fld ci k ie) := by
  refine ce_of (fun n => pe_fld (he n) hb) fun n σ H Q ⟨Z, Fr, ρ, s, P, rel, g⟩ => ?_
  refine goes_bind [] rel g fun v H1 r1 s1 Z1 ρ1 e1 p1 rel1 g1 => ?_
  unfold fldR at g1
  split at g1
  · rename_i x
    cases q : getF s1 ci k x with
    | none => rw [q] at g1; exact g1.elim
    | some d =>
      rw [q] at g1
      obtain ⟨a, vs, y, rfl, hI, hy, hd⟩ := getF_at rel1 rel1.head rfl q
      obtain ⟨_, dx, fs, h1, _, _, h3⟩ := cl.ins hI
      refine ⟨a, C, dx, fs, y, rfl, h1, cl.cls, hno, by rw [h3 k fl hk, hy]; rfl, ?_⟩
      exact Goes.val g1 rel1.pop hd
  · exact g1.elim
theorem ce_fldSl {pd : Addr} (he : CE X G W tb c e ie) (cl : SlCls G X ci C names) (hs : SlX.Slot1 X.K C fl pd k) (hb : attributeBase e fl X.env (eval e X.env) = eval e X.env := by rfl) : CE X G W tb c (.Attribute e fl pos) (.fld ci k ie) := by
  refine ce_of (fun n => SlX.pe_sl (he n) hb) fun n σ H Q ⟨Z, Fr, ρ, s, P, rel, g⟩ => ?_
  refine goes_bind [] rel g fun v H1 r1 s1 Z1 ρ1 e1 p1 rel1 g1 => ?_
  unfold fldR at g1
  split at g1
  · rename_i x
    cases q : getF s1 ci k x with
    | none => rw [q] at g1; exact g1.elim
    | some d =>
      rw [q] at g1
      obtain ⟨a, vs, y, rfl, hI, hy, hd⟩ := getF_at rel1 rel1.head rfl q
      obtain ⟨_, dx, ws, h1, h3⟩ := cl.ins hI
      exact ⟨a, C, dx, pd, ws, k, y, rfl, h1.slt, cl.cls, hs, h3 k y hy, Goes.val g1 rel1.pop hd⟩
  · exact g1.elim
end
end Ri

set_option maxRecDepth 100000
/-! Ri, part S: stores into instances. -/
namespace Ri
open PySem L2
section
variable {G : Cfg} {W : WX} {Z Z' H H' F : Hp} {ρ ρ' : List Addr} {s : S} {σ : L2.St} {P L : List (R × V)} {Q : VK} {X : Cx} {ci k : Nat} {C : Addr} {names : List Str} {fl : Str}
theorem fields_set {fs : List (Option D)} {vs : List (Option V)} {d : D} {y : V} (hl : fs.length = vs.length) (h : ∀ (i : Nat), match fs[i]? with
      | some (some d) => ∃ v, vs[i]? = some (some v) ∧ DRep G Z ρ d v
      | some none => vs[i]? = some none
      | none => True) (hd : DRep G Z ρ d y) : ∀ (i : Nat), match (fs.set k (some d))[i]? with
      | some (some d) => ∃ v, (vs.set k (some y))[i]? = some (some v) ∧ DRep G Z ρ d v
      | some none => (vs.set k (some y))[i]? = some none
      | none => True := fun i => by
  by_cases hi : i = k
  · subst hi
    by_cases hk : i < fs.length
    · rw [List.getElem?_set_self hk]
      exact ⟨y, by rw [List.getElem?_set_self (by omega)], hd⟩
    · rw [List.getElem?_eq_none (by simpa using hk)]
      trivial
  · rw [List.getElem?_set_ne (Ne.symm hi), List.getElem?_set_ne (Ne.symm hi)]
    exact h i
theorem PCls.store (cl : PCls G X ci C names) {n : Nat} {a dx : Addr} {fs : List (Option D)} {gs : List (Str × V)} {d : D} {y : V} (rel : Rel G Z F ρ s σ H P) (ha : ρ[n]? = some a) (ho : s.hp[n]? = some (.ins ci fs)) (hg : H a = some (.ins C dx gs)) (hk : names[k]? = some fl) (hd : DRep G Z ρ d y) :
    gs.length < 1000 ∧ Rel G Z F ρ { s with hp := s.hp.set n (.ins ci (fs.set k (some d))) } σ (upd H a (.ins C dx (putF fl y gs))) P := by
  obtain ⟨vs, h1, h2, h3⟩ := rel.hp n _ _ ho ha
  obtain ⟨hvl, dx', gs', g1, g2, ⟨g3, g4⟩, g5⟩ := cl.ins h1
  rw [hg] at g1; cases g1
  have hfl : fl ∈ names := List.mem_of_getElem? hk
  have hlen := nodup_len g3 g4
  refine ⟨by have := cl.few; simp at hlen; omega, ?_⟩
  refine rel.writeHp ha hg ⟨(fun _ z => nomatch z), (fun z => nomatch z)⟩ (fun b u hb e hu => by rw [upd_ne hb]; exact e) ?_
  have hda : dx ≠ a := fun z => by subst z; rw [hg] at g2; cases g2
  refine ⟨vs.set k (some y), ⟨⟨C, false, names⟩, dx, cl.at_, by simp [hvl], ?_⟩, by simp [h2], fields_set h2 h3 hd⟩
  simp only [Bool.false_eq_true, if_false]
  refine ⟨putF fl y gs, upd_same, by rw [upd_ne hda]; exact g2, ⟨putF_nodup g3, fun f hf => ?_⟩, fun i f hf => ?_⟩
  · rcases putF_keys hf with z | z
    · rw [z]; exact hfl
    · exact g4 f z
  · rw [lookup_putF]
    have hik : k < vs.length := by rw [hvl]; exact (List.getElem?_eq_some_iff.mp hk).1
    by_cases hi : i = k
    · subst hi
      rw [hk] at hf; cases hf
      rw [if_pos rfl, List.getElem?_set_self hik]; rfl
    · have hne : f ≠ fl := fun z => by
        subst z
        exact hi ((List.getElem?_inj (List.getElem?_eq_some_iff.mp hf).1 cl.nd).mp (hf.trans hk.symm))
      rw [if_neg hne, List.getElem?_set_ne (Ne.symm hi)]
      exact g5 i f hf
theorem slt_ne {a C dx : Addr} {ws : List (Option V)} (h : SltO H a C dx ws) : dx ≠ a := fun z => by
  subst z
  rcases h with ⟨p, q, _⟩ | ⟨p, q⟩
  · rw [p] at q; cases q
  · rw [p] at q
    exact SlX.slO_not (Option.some.inj q)
theorem SlCls.store (cl : SlCls G X ci C names) {n : Nat} {a dx : Addr} {fs : List (Option D)} {ws : List (Option V)} {d : D} {y : V} (rel : Rel G Z F ρ s σ H P) (ha : ρ[n]? = some a) (ho : s.hp[n]? = some (.ins ci fs)) (vs : List (Option V))
    (hvl : vs.length = names.length) (hw : ∀ (i : Nat) (v : V), vs[i]? = some (some v) → ws[i]? = some (some v)) (h2 : fs.length = vs.length) (h3 : ∀ (i : Nat), match fs[i]? with
      | some (some d) => ∃ v, vs[i]? = some (some v) ∧ DRep G Z ρ d v
      | some none => vs[i]? = some none
      | none => True) (hg : SltO H a C dx ws) (hd : DRep G Z ρ d y) :
    Rel G Z F ρ { s with hp := s.hp.set n (.ins ci (fs.set k (some d))) } σ (SlX.slH H a C dx (SlX.putS k y ws)) P := by
  have hda := slt_ne hg
  have ex : ∃ u, H a = some u ∧ NDx u := by
    rcases hg with ⟨p, _⟩ | ⟨p, _⟩
    · exact ⟨_, p, ⟨(fun _ z => nomatch z), (fun z => nomatch z)⟩⟩
    · exact ⟨_, p, ⟨(fun _ z => nomatch z), SlX.slO_not⟩⟩
  obtain ⟨u, hu, hn⟩ := ex
  refine rel.writeHp ha hu hn (fun b w hb e hw => ?_) ?_
  · by_cases hbd : b = dx
    · subst hbd
      rcases hg with ⟨_, q, _⟩ | ⟨_, q⟩
      · rw [q] at e; cases e; exact absurd rfl hw
      · rw [q] at e; cases e
        unfold SlX.slH
        rw [upd_ne hb, upd_same]
    · rw [SlX.slH_ne hb hbd]; exact e
  · refine ⟨vs.set k (some y), ⟨⟨C, true, names⟩, dx, cl.at_, by simp [hvl], ?_⟩, by simp [h2], fields_set h2 h3 hd⟩
    simp only [if_true]
    refine ⟨_, .inr ⟨by unfold SlX.slH; exact upd_same, by unfold SlX.slH; rw [upd_ne hda, upd_same]⟩, fun i v hv => ?_⟩
    by_cases hi : i = k
    · subst hi
      have hk : i < vs.length := by
        have := (List.getElem?_eq_some_iff.mp hv).1
        simpa using this
      rw [List.getElem?_set_self hk] at hv
      cases hv
      exact SlX.putS_get _ _ _
    · rw [List.getElem?_set_ne (Ne.symm hi)] at hv
      exact (SlX.putS_ne hi).mpr (hw i v hv)
end
section
variable {X : Cx} {G : Cfg} {W : WX} {tb : Tb} {c : CallF} {k ci : Nat} {C : Addr} {fl : Str} {p pos apos : Pos} {e o : Expr} {io ie : E} {names : List Str}
theorem asgR_fld {F : Rec} {c k : Nat} {a : E} {r : R} {s : S} : asgR F (.fld c k a) r s = bd (freeze r s) fun d s => asgT F (.fld c k a) d s := by cases r <;> rfl
theorem asgT_fld {F : Rec} {c k : Nat} {a : E} {d : D} {s : S} : asgT F (.fld c k a) d s = bd (F.ex a s) fun ra s => match ra with
    | .val (.ref n) => match s.hp[n]? with
      | some (.ins c' fs) => if c = c' ∧ k < fs.length then ok () { s with hp := s.hp.set n (.ins c (fs.set k (some d))) } else none
      | _ => none
    | _ => none := by first | (rw [asgT.eq_def]; rfl) | rw [asgT.eq_def]
theorem fld_read {n : Nat} {Dn : Ends} {σ : L2.St} {H : Hp} (h : TSt G W (stepS (run tb c n) (.asg (.fld ci k io) ie)) Dn σ H) :
    T G W ((run tb c n).ex ie) σ H fun y H1 => T G W ((run tb c n).ex io) σ H1 fun x H2 => ∃ Z F ρ s P nn fs d, NoSlot P ∧ Rel G Z F ρ s σ H2 ((.val (.ref nn), x) :: (.val d, y) :: P) ∧ s.hp[nn]? = some (.ins ci fs) ∧
      GoesS G W Z F ρ P (ok .next { s with hp := s.hp.set nn (.ins ci (fs.set k (some d))) }) Dn := by
  obtain ⟨Z, F, ρ, s, P, ns, rel, g⟩ := h
  refine goesS_bind [] rel g fun v H1 r1 s1 Z1 ρ1 e1 p1 rel1 g1 => ?_
  rw [asgR_fld] at g1
  rcases freeze_ok (r := r1) (s := s1) with ⟨d, s2, q⟩ | q
  · rw [q] at g1
    obtain ⟨Z2, e2, rel2⟩ := goes_freeze rel1 q
    replace g1 : GoesS G W Z1 F ρ1 P (bd (asgT (run tb c n) (.fld ci k io) d s2) fun _ s => ok .next s) Dn := g1
    rw [asgT_fld, bd_bd] at g1
    refine goesS_bind [(.val d, v)] rel2 (GoesS.mono g1 e2 (List.prefix_refl _)) fun x H2 r2 s3 Z3 ρ3 e3 p3 rel3 g3 => ?_
    split at g3
    · rename_i nn
      cases q2 : s3.hp[nn]? with
      | none => rw [q2] at g3; exact g3.elim
      | some ob =>
        rw [q2] at g3
        cases ob with
        | lst _ => exact g3.elim
        | tab _ => exact g3.elim
        | ins c' fs =>
          by_cases hc : ci = c' ∧ k < fs.length
          · simp only [if_pos hc] at g3
            obtain ⟨rfl, _⟩ := hc
            exact ⟨Z3, F, ρ3, s3, P, nn, fs, d, ns, rel3, q2, g3⟩
          · simp only [if_neg hc] at g3
            exact g3.elim
    · exact g3.elim
  · rw [q] at g1; exact g1.elim
theorem cs_fld (ho : CE X G W tb c o io) (hv : CE X G W tb c e ie) (cl : PCls G X ci C names) (hno : NoAttr X.K C fl) (hk : names[k]? = some fl) (hs : swapsWith e (some (.Attribute o fl apos)) pos.line X.env = pure false := by rfl) :
    CS X G W tb c (.Assign [.Attribute o fl apos] e pos) (.asg (.fld ci k io) ie) := by
  refine cs_of (fun n => ps_fld (ho n) (hv n) hs) fun n Dn σ H h => ?_
  refine T.mono (fld_read h) fun y H1 h1 => T.mono h1 fun x H2 h2 => ?_
  obtain ⟨Z, F, ρ, s, P, nn, fs, d, ns, rel, hq, g⟩ := h2
  have hx : DRep G Z ρ (.ref nn) x := rel.head
  have hy : DRep G Z ρ d y := rel.second
  cases hx with
  | ref ha =>
    obtain ⟨vs, h1, _, _⟩ := rel.hp nn _ _ hq ha
    obtain ⟨_, dx, gs, hg, _⟩ := cl.ins h1
    obtain ⟨hlt, rel2⟩ := cl.store (rel.pop.pop) ha hq hg hk hy
    exact ⟨_, C, dx, gs, rfl, hg, cl.cls, hno, hlt, GoesS.next g rel2⟩
theorem cs_fldSl {pd : Addr} (ho : CE X G W tb c o io) (hv : CE X G W tb c e ie) (cl : SlCls G X ci C names) (hsl : SlX.Slot1 X.K C fl pd k) (hs : swapsWith e (some (.Attribute o fl apos)) pos.line X.env = pure false := by rfl) :
    CS X G W tb c (.Assign [.Attribute o fl apos] e pos) (.asg (.fld ci k io) ie) := by
  refine cs_of (fun n => SlX.ps_sl (ho n) (hv n) hs) fun n Dn σ H h => ?_
  refine T.mono (fld_read h) fun y H1 h1 => T.mono h1 fun x H2 h2 => ?_
  obtain ⟨Z, F, ρ, s, P, nn, fs, d, ns, rel, hq, g⟩ := h2
  have hx : DRep G Z ρ (.ref nn) x := rel.head
  have hy : DRep G Z ρ d y := rel.second
  cases hx with
  | ref ha =>
    obtain ⟨vs, h1, h2, h3⟩ := rel.hp nn _ _ hq ha
    obtain ⟨hvl, dx, ws, hg, hw⟩ := cl.ins h1
    exact ⟨_, C, dx, pd, ws, k, rfl, hg.slt, cl.cls, hsl, GoesS.next g (cl.store rel.pop.pop ha hq vs hvl hw h2 h3 hg hy)⟩
end
end Ri

set_option maxRecDepth 100000
/-! Ri, part T: new instances, instances that stay as they are, the heap behind a call. -/
namespace Ri
open PySem L2
section
variable {G : Cfg} {W : WX} {Z Z' H H' F : Hp} {ρ ρ' : List Addr} {s : S} {σ : L2.St} {P L : List (R × V)} {Q : VK} {X : Cx} {ci k : Nat} {C : Addr} {names : List Str} {fl : Str}
theorem pre_back (p : ρ <+: ρ') {n : Nat} {a : Addr} (hn : n < ρ.length) (h : ρ'[n]? = some a) : ρ[n]? = some a := by
  obtain ⟨t, rfl⟩ := p
  rw [List.getElem?_append_left hn] at h; exact h
theorem ints_rep1 {G : Cfg} {Z : Hp} {ρ : List Addr} : ∀ {ns : List Int}, DReps G Z ρ (ns.map D.int) (ns.map V.int)
  | [] => .nil
  | n :: _ => .cons (.int n) ints_rep1
mutual
theorem DRep.trunc (p : ρ <+: ρ') : ∀ {d : D} {v : V}, DRep G Z ρ' d v → cleanD ρ.length d = true → DRep G Z ρ d v
  | _, _, .non, _ => .non
  | _, _, .bl b, _ => .bl b
  | _, _, .int i, _ => .int i
  | _, _, .str x h1 h2, _ => .str x h1 h2
  | _, _, .tup h r, c => .tup h (DReps.trunc p r (by simpa [cleanD] using c))
  | _, _, .lst h r, c => .lst h (DReps.trunc p r (by simpa [cleanD] using c))
  | _, _, .klst h r ⟨ns, e1, e2⟩, c => .klst h (by rw [e1, e2]; exact ints_rep1) ⟨ns, e1, e2⟩
  | _, _, .ins h r, c => .ins h (DReps.trunc p r (by simpa [cleanD] using c))
  | _, _, .ref h, c => .ref (pre_back p (by simpa [cleanD] using c) h)
  | _, _, .fn h, _ => .fn h
theorem DReps.trunc (p : ρ <+: ρ') : ∀ {d : List D} {v : List V}, DReps G Z ρ' d v → cleanDs ρ.length d = true → DReps G Z ρ d v
  | _, _, .nil, _ => .nil
  | _, _, .cons h r, c => by
    simp only [cleanDs, Bool.and_eq_true] at c
    exact .cons (DRep.trunc p h c.1) (DReps.trunc p r c.2)
end
theorem ORep.trunc (p : ρ <+: ρ') {a : Addr} {o : O} (h : ORep G Z ρ' H a o) (c : cleanO ρ.length o = true) : ORep G Z ρ H a o := by
  cases o with
  | lst xs => obtain ⟨vs, h1, h2⟩ := h; exact ⟨vs, h1, h2.trunc p (by simpa [cleanO] using c)⟩
  | ins ci fs =>
    obtain ⟨vs, h1, h2, h3⟩ := h
    refine ⟨vs, h1, h2, fun i => ?_⟩
    have h4 := h3 i
    cases q : fs[i]? with
    | none => trivial
    | some od =>
      rw [q] at h4
      cases od with
      | none => exact h4
      | some d =>
        obtain ⟨v, g1, g2⟩ := h4
        have := (List.all_eq_true.mp (by simpa only [cleanO] using c)) (some d) (List.mem_of_getElem? q)
        exact ⟨v, g1, g2.trunc p this⟩
  | tab q => exact h
/-- what was made in a call goes -/
theorem Rel.trunc {hp : List O} {r : R} {v : V} (rel : Rel G Z F ρ' ⟨[], hp⟩ [] H [(r, v)]) (p : ρ <+: ρ') (hr : cleanR ρ.length r = true) (hh : (hp.take ρ.length).all (cleanO ρ.length) = true) : Rel G Z F ρ ⟨[], hp.take ρ.length⟩ [] H [(r, v)] := by
  have own : ∀ b w, Owns ρ ([] : List (Option SV)) ([] : L2.St) [(r, v)] b w → Owns ρ' ([] : List (Option SV)) ([] : L2.St) [(r, v)] b w := fun b w h => by
    cases w with
    | hp i => exact pre_get p h
    | sl i => exact h
    | pd i => exact h
  have hlen : ρ.length ≤ ρ'.length := p.length_le
  refine ⟨rel.zs, rel.fs, by have := rel.len; simp only [List.length_take] at this ⊢; omega, fun i o a h1 h2 => ?_, rfl, fun i x h => by simp at h, fun i x u h => ?_, fun b w w' h1 h2 => rel.uq b w w' (own _ _ h1) (own _ _ h2), fun b w h => rel.zo b w (own _ _ h), rel.no, rel.nt⟩
  · have hi : i < ρ.length := (List.getElem?_eq_some_iff.mp h2).1
    simp only [List.getElem?_take, hi, if_true] at h1
    refine (rel.hp i o a h1 (pre_get p h2)).trunc p (List.all_eq_true.mp hh o ?_)
    exact List.mem_of_getElem? (i := i) (by rw [List.getElem?_take, if_pos hi]; exact h1)
  · have g := rel.pd i x u h
    cases i with
    | succ i => simp at h
    | zero =>
      simp at h
      obtain ⟨rfl, rfl⟩ := h
      cases r with
      | val d => exact DRep.trunc p g (by simpa [cleanR] using hr)
      | slot j => exact g
      | own c =>
        cases c with
        | lst xs =>
          obtain ⟨a, o, h1, h2, vs, h3, h4⟩ := g
          exact ⟨a, o, h1, h2, vs, h3, h4.trunc p (by simpa [cleanR] using hr)⟩
theorem Rel.gc {hp : List O} {r : R} {v : V} (rel : Rel G Z F ρ' ⟨[], hp⟩ [] H [(r, v)]) (p : ρ <+: ρ') : ∃ ρ2, ρ <+: ρ2 ∧ Rel G Z F ρ2 ⟨[], Ri.gc ρ.length r hp⟩ [] H [(r, v)] := by
  unfold Ri.gc
  split
  · rename_i h
    simp only [Bool.and_eq_true] at h
    exact ⟨ρ, List.prefix_refl _, rel.trunc p h.1 h.2⟩
  · exact ⟨ρ', p, rel⟩

/-! ### a new instance -/
theorem made_p (at_ : G.cls ci = some ⟨C, false, names⟩) {x dx : Addr} (hne : dx ≠ x) : ORep G Z ρ (upd (upd H dx (.own x)) x (.ins C dx [])) x (.ins ci (List.replicate names.length none)) := by
  refine ⟨List.replicate names.length none, ⟨⟨C, false, names⟩, dx, at_, by simp, ?_⟩, by simp, fun i => ?_⟩
  · simp only [Bool.false_eq_true, if_false]
    refine ⟨[], upd_same, by rw [upd_ne hne, upd_same], ⟨by simp, by simp⟩, fun i f hf => ?_⟩
    have : i < names.length := (List.getElem?_eq_some_iff.mp hf).1
    simp [List.getElem?_replicate, this]
  · by_cases hi : i < names.length
    · simp [List.getElem?_replicate, hi]
    · simp [List.getElem?_replicate, hi]
theorem made_s (at_ : G.cls ci = some ⟨C, true, names⟩) {x dx : Addr} (hne : dx ≠ x) : ORep G Z ρ (upd (upd H dx (.own x)) x (.ins C dx [])) x (.ins ci (List.replicate names.length none)) := by
  refine ⟨List.replicate names.length none, ⟨⟨C, true, names⟩, dx, at_, by simp, ?_⟩, by simp, fun i => ?_⟩
  · simp only [if_true]
    refine ⟨[], .inl ⟨upd_same, by rw [upd_ne hne, upd_same], rfl⟩, fun i v hv => ?_⟩
    by_cases hi : i < names.length
    · simp [List.getElem?_replicate, hi] at hv
    · simp [List.getElem?_replicate, hi] at hv
  · by_cases hi : i < names.length
    · simp [List.getElem?_replicate, hi]
    · simp [List.getElem?_replicate, hi]
/-- an instance is new -/
def Made (G : Cfg) (ci : Nat) (C : Addr) (n : Nat) : Prop := ∀ (Z H : Hp) (ρ : List Addr) (x dx : Addr), dx ≠ x → ORep G Z ρ (upd (upd H dx (.own x)) x (.ins C dx [])) x (.ins ci (List.replicate n none))
theorem new_sp {c : CallF} {FF : Rec} {f np n : Nat} {rs : List R} {vs : List V} {x dx : Addr} (hc : FF.call = c) (hn : NpOk c f np) (hm : Made G ci C n) (rel : Rel G Z F ρ s σ H ((rs.zip vs).reverse ++ P)) (hl : rs.length = vs.length) (hx : H x = none) (hd : H dx = none) (hne : dx ≠ x)
    {g : R → S → Res R} {K : R → S → Hp → Hp → List Addr → Prop} (h : GoesX G W Z F ρ σ P (bd (callR FF f (.val (.ref s.hp.length) :: rs) { s with hp := s.hp ++ [.ins ci (List.replicate n none)] }) g) K)
    (hQ : ∀ v H1 r1 s1 Z1 ρ1, Same Z Z1 → ρ ++ [x] <+: ρ1 → Rel G Z1 F ρ1 s1 σ H1 ((r1, v) :: P) → GoesX G W Z1 F ρ1 σ P (g r1 s1) K → Q v H1) :
    spD G c f np (.ref x :: vs) (upd (upd H dx (.own x)) x (.ins C dx [])) Q (fun cls d H' => W cls d σ H') := by
  have pre : ρ <+: ρ ++ [x] := List.prefix_append _ _
  have rel2 := rel.newHp (H' := upd (upd H dx (.own x)) x (.ins C dx [])) hx (same_upd2 hx hd) (hm Z H (ρ ++ [x]) x dx hne)
  rw [← callR_np hc hn (bd_ne (goesX_ne h))]
  have h2 : GoesX G W Z F (ρ ++ [x]) σ P (bd (callR FF f (.val (.ref s.hp.length) :: rs) { s with hp := s.hp ++ [.ins ci (List.replicate n none)] }) g) K := GoesX.mono h (Same.refl _) pre
  refine call_sp (K := fun r1 s1 H1 Z1 ρ1 => GoesX G W Z1 F ρ1 σ P (g r1 s1) K) hc rel2 (by simp [hl]) (fun j => rs.length - j) (fun j y v h1 h3 => ?_) (fun j k h1 h3 q1 q2 e => ?_) ?_ (fun _ _ _ w => w) fun v H1 r1 s1 Z1 ρ1 e1 p1 rel1 _ k1 => hQ v H1 r1 s1 Z1 ρ1 e1 p1 rel1 k1
  · cases j with
    | zero =>
      simp only [List.getElem?_cons_zero, Option.some.injEq] at h1 h3
      subst h1; subst h3
      refine ⟨.ref ?_, fun c z => nomatch z⟩
      rw [rel.len, List.getElem?_concat_length]
    | succ j =>
      simp only [List.getElem?_cons_succ] at h1 h3
      have hj : j < rs.length := (List.getElem?_eq_some_iff.mp h1).1
      have g := held_get hl h1 h3
      refine ⟨rel2.mem (List.mem_append_left _ (List.mem_of_getElem? g)), fun _ _ => ?_⟩
      rw [show rs.length - (j + 1) = rs.length - 1 - j by omega]
      exact g
  · have e : rs.length - j = rs.length - k := e
    simp only [List.length_cons] at h1 h3
    cases j with
    | zero => obtain ⟨_, z⟩ := q1; simp at z
    | succ j => cases k with
      | zero => obtain ⟨_, z⟩ := q2; simp at z
      | succ k => omega
  · rcases q : callR FF f (.val (.ref s.hp.length) :: rs) { s with hp := s.hp ++ [.ins ci (List.replicate n none)] } with _ | ⟨_ | r1, s1⟩
    · rw [q] at h2; exact h2
    · rw [q] at h2; exact h2
    · rw [q] at h2
      exact fun H1 Z1 ρ1 e1 p1 => GoesX.mono h2 e1 p1
end
section
variable {X : Cx} {G : Cfg} {W : WX} {tb : Tb} {c : CallF} {CXp : CXT} {k fi ci np nf : Nat} {f C : Addr} {x : Str} {p pos : Pos} {e : Expr} {es : List Expr} {is : List E}
theorem ce_new (M : Mk X.K C f) (hm' : Made G ci C nf) (ht : tb.cl ci = some nf) (F : FnR X.prog X.w X.K X.mg X.base CXp k f (spD G c fi np)) (hn : NpOk c fi np) (hr : Room (k + 1) X.A) (hg : Gl X x) (hm : X.mg x = some (.ref C)) (hx : PassW CXp X W)
    (ha : CA X G W tb c (e :: es) is) (hdb : (x == ("__debug__" : Str)) = false := by decide) (he : starEach (e :: es) X.env = (false, eval e X.env) :: starEach es X.env := by rfl) (hpl : (backTo pos (starEach es X.env)).any (·.1) = false := by rfl) :
    CE X G W tb c (.Call (.Name x p) (e :: es) [] pos) (.new ci fi is) := by
  refine ce_of (fun n => pe_makeW M F hr hg hm hx (ha n) hdb he hpl) fun n σ H Q ⟨Z, Fr, ρ, s, P, rel, g⟩ => ?_
  refine goesX_args [] rel (Goes.x g) fun vs H1 rs s1 Z1 ρ1 e1 p1 hl rel1 g1 => ?_
  unfold newR at g1
  rw [ht] at g1
  intro y dx hy hd hne
  refine new_sp (run_call n) hn hm' rel1 hl hy hd hne g1 fun v H2 r2 s2 Z2 ρ2 e2 p2 rel2 g2 => ?_
  split at g2
  · have hv := rel2.head
    cases hv
    refine ⟨rfl, g2 H2 Z2 ρ2 (Same.refl _) (List.prefix_refl _) _ (rel2.pop.pushVal (.ref ?_))⟩
    refine pre_get p2 ?_
    rw [rel1.len, List.getElem?_concat_length]
  · exact g2.elim
end
end Ri

set_option maxRecDepth 100000
/-! Ri, part U: instances that stay as they are. -/
namespace Ri
open PySem L2
section
variable {G : Cfg} {W : WX} {Z Z' H H' F : Hp} {ρ ρ' : List Addr} {s : S} {σ : L2.St} {P L : List (R × V)} {Q : VK} {X : Cx} {ci k : Nat} {C x : Addr} {names : List Str} {fl : Str}
theorem InsAt.two {vs : List (Option V)} (h : InsAt G H x ci vs) : ∃ dx u w, H x = some u ∧ H dx = some w ∧ NDx u ∧ (w = .own x ∨ w = .xd []) ∧ ∀ H2 : Hp, H2 x = some u → H2 dx = some w → InsAt G H2 x ci vs := by
  obtain ⟨cI, dx, h1, h2, h3⟩ := h
  by_cases hs : cI.slotted = true
  · rw [if_pos hs] at h3
    obtain ⟨ws, h4, h5⟩ := h3
    rcases h4 with ⟨p, o, q⟩ | ⟨p, q⟩
    · exact ⟨dx, _, _, p, o, ⟨(fun _ z => nomatch z), (fun z => nomatch z)⟩, .inl rfl, fun H2 g1 g2 => ⟨cI, dx, h1, h2, by rw [if_pos hs]; exact ⟨ws, .inl ⟨g1, g2, q⟩, h5⟩⟩⟩
    · exact ⟨dx, _, _, p, q, ⟨(fun _ z => nomatch z), SlX.slO_not⟩, .inr rfl, fun H2 g1 g2 => ⟨cI, dx, h1, h2, by rw [if_pos hs]; exact ⟨ws, .inr ⟨g1, g2⟩, h5⟩⟩⟩
  · rw [if_neg hs] at h3
    obtain ⟨fs, h4, h5, h6⟩ := h3
    exact ⟨dx, _, _, h4, h5, ⟨(fun _ z => nomatch z), (fun z => nomatch z)⟩, .inl rfl, fun H2 g1 g2 => ⟨cI, dx, h1, h2, by rw [if_neg hs]; exact ⟨fs, g1, g2, h6⟩⟩⟩
theorem InsAt.nt {vs : List (Option V)} (h : InsAt G H x ci vs) {u : HO} (hu : H x = some u) : ∀ ps, u ≠ .tbl ps := fun ps z => by
  obtain ⟨k, dx, _, _, h3⟩ := h
  subst z
  split at h3
  · obtain ⟨ws, (⟨p, _⟩ | ⟨p, _⟩), _⟩ := h3
    · rw [hu] at p; cases p
    · rw [hu] at p; exact nomatch (Option.some.inj p)
  · obtain ⟨fs, p, _⟩ := h3
    rw [hu] at p; cases p
theorem Rel.ndxAll (r : Rel G Z F ρ s σ H P) {a : Addr} {w : Owner} (h : Owns ρ s.sl σ P a w) {o : HO} (ho : H a = some o) : NDx o := by
  cases w with
  | hp i =>
    have hi : i < s.hp.length := by rw [r.len]; exact (List.getElem?_eq_some_iff.mp h).1
    have hh := r.hp i _ _ (List.getElem?_eq_getElem hi) h
    cases q : s.hp[i] with
    | lst xs =>
      rw [q] at hh
      obtain ⟨vs, h1, _⟩ := hh
      rw [ho] at h1; cases h1; exact .lst
    | ins c fs =>
      rw [q] at hh
      obtain ⟨vs, h1, _⟩ := hh
      obtain ⟨dx, u, w, h2, _, h3, _⟩ := h1.two
      rw [ho] at h2; cases h2; exact h3
    | tab nm =>
      rw [q] at hh
      obtain ⟨_, ps, h1, _⟩ := hh
      rw [ho] at h1; cases h1; exact ⟨(fun _ z => nomatch z), (fun z => nomatch z)⟩
  | sl i => exact r.ndx (by intro k e; cases e) h ho
  | pd i => exact r.ndx (by intro k e; cases e) h ho
theorem fields_all : ∀ {fs : List (Option D)} {ds : List D} {vs : List (Option V)}, alls fs = some ds → fs.length = vs.length → (∀ (i : Nat), match fs[i]? with
      | some (some d) => ∃ v, vs[i]? = some (some v) ∧ DRep G Z ρ d v
      | some none => vs[i]? = some none
      | none => True) → ∃ us, vs = us.map some ∧ DReps G Z ρ ds us
  | [], ds, vs, h, hl, _ => by
    cases h
    have : vs = [] := List.length_eq_zero_iff.mp (by simpa using hl.symm)
    subst this
    exact ⟨[], rfl, .nil⟩
  | none :: r, ds, vs, h, _, _ => by simp [alls] at h
  | some d :: r, ds, vs, h, hl, hf => by
    simp only [alls] at h
    cases q : alls r with
    | none => rw [q] at h; cases h
    | some ds' =>
      rw [q] at h
      cases h
      cases vs with
      | nil => simp at hl
      | cons v vs =>
        obtain ⟨v', h1, h2⟩ := hf 0
        simp at h1
        subst h1
        obtain ⟨us, rfl, h4⟩ := fields_all (vs := vs) q (by simpa using hl) fun i => hf (i + 1)
        exact ⟨v' :: us, rfl, .cons h2 h4⟩
theorem cleanDs_of : ∀ {fs : List (Option D)} {ds : List D} {n : Nat}, alls fs = some ds → cleanO n (.ins ci fs) = true → cleanDs n ds = true
  | [], ds, n, h, _ => by cases h; rfl
  | none :: r, ds, n, h, _ => by simp [alls] at h
  | some d :: r, ds, n, h, c => by
    simp only [alls] at h
    cases q : alls r with
    | none => rw [q] at h; cases h
    | some ds' =>
      rw [q] at h
      cases h
      simp only [cleanO, List.all_cons, Bool.and_eq_true] at c
      simp only [cleanDs, Bool.and_eq_true]
      exact ⟨c.1, cleanDs_of q (by simpa only [cleanO] using c.2)⟩
theorem Rel.frz {hp : List O} {r : R} {v : V} {ds : List D} (rel : Rel G Z F ρ' ⟨[], hp⟩ [] H [(r, v)]) (p : ρ ++ [x] <+: ρ') (hf : frzH ci ρ.length hp = some ds) :
    ∃ Z', Same Z Z' ∧ Rel G Z' F ρ ⟨[], hp.take ρ.length⟩ [] H [(.val (.ins ci ds), .ref x)] := by
  unfold frzH at hf
  split at hf
  · rename_i c' fs hq
    split at hf
    · rename_i hcond
      obtain ⟨rfl, hlen, hcl⟩ := hcond
      have pp : ρ <+: ρ' := List.IsPrefix.trans (List.prefix_append _ _) p
      have hx : ρ'[ρ.length]? = some x := pre_get p (by rw [List.getElem?_concat_length])
      obtain ⟨vs, h1, h2, h3⟩ := rel.hp ρ.length _ _ hq hx
      obtain ⟨us, rfl, h4⟩ := fields_all hf h2 h3
      have hclx := List.all_eq_true.mp hcl _ (List.mem_of_getElem? hq)
      replace h4 := h4.trunc pp (cleanDs_of hf hclx)
      obtain ⟨dx, u, w, g1, g2, g3, g4, g5⟩ := h1.two
      have ox : Owns ρ' ([] : List (Option SV)) ([] : L2.St) [(r, v)] x (.hp ρ.length) := hx
      obtain ⟨zx, fx⟩ := rel.zo x _ ox
      have hdx : dx ≠ x := fun z => by
        subst z
        rw [g1] at g2; cases g2
        rcases g4 with z | z
        · exact g3.1 _ z
        · exact g3.2 z
      have fdx : F dx = none := by
        cases q : F dx with
        | none => rfl
        | some o =>
          have := rel.fs _ _ q
          rw [g2] at this; cases this
          rcases g4 with z | z
          · subst z; exact absurd q (rel.no dx x).2.1.1
          · subst z; exact absurd q (rel.no dx x).2.1.2
      have zeq : ∀ b, b ≠ x → b ≠ dx → upd (upd Z dx w) x u b = Z b := fun b hb hd => by rw [upd_ne hb, upd_ne hd]
      have zdx : upd (upd Z dx w) x u dx = some w := by rw [upd_ne hdx, upd_same]
      have zxx : upd (upd Z dx w) x u x = some u := upd_same
      have e : Same Z (upd (upd Z dx w) x u) := fun b o hb => by
        by_cases hbx : b = x
        · subst hbx; rw [zx] at hb; cases hb
        · by_cases hbd : b = dx
          · subst hbd
            have := rel.zs _ _ hb
            rw [g2] at this; cases this
            exact zdx
          · rw [zeq b hbx hbd]; exact hb
      refine ⟨_, e, ?_⟩
      have own : ∀ b wn, Owns ρ ([] : List (Option SV)) ([] : L2.St) [(R.val (.ins c' ds), V.ref x)] b wn → ∃ i, wn = .hp i ∧ i < ρ.length ∧ Owns ρ' ([] : List (Option SV)) ([] : L2.St) [(r, v)] b (.hp i) := fun b wn h => by
        cases wn with
        | hp i => exact ⟨i, rfl, (List.getElem?_eq_some_iff.mp h).1, pre_get pp h⟩
        | sl i => obtain ⟨⟨_, h⟩, _⟩ := h; simp at h
        | pd i =>
          obtain ⟨_, h⟩ := h
          cases i <;> simp at h
      refine ⟨fun b o hb => ?_, rel.fs, by have := rel.len; have := pp.length_le; simp only [List.length_take]; omega, fun i o a h5 h6 => ?_, rfl, fun i y h => by simp at h, fun i y t h => ?_, fun b w1 w2 k1 k2 => ?_, fun b w1 k1 => ?_, fun b y => ⟨fun hb => ?_, (rel.no b y).2.1, ?_⟩, fun b => ⟨fun ps hb => ?_, (rel.nt b).2⟩⟩
      · by_cases hbx : b = x
        · subst hbx; rw [zxx] at hb; cases hb; exact g1
        · by_cases hbd : b = dx
          · subst hbd; rw [zdx] at hb; cases hb; exact g2
          · rw [zeq b hbx hbd] at hb; exact rel.zs _ _ hb
      · have hi : i < ρ.length := (List.getElem?_eq_some_iff.mp h6).1
        simp only [List.getElem?_take, hi, if_true] at h5
        exact ((rel.hp i o a h5 (pre_get pp h6)).trunc pp (List.all_eq_true.mp hcl o (List.mem_of_getElem? h5))).mono e (List.prefix_refl _) (Same.refl _)
      · cases i with
        | succ i => simp at h
        | zero =>
          simp at h
          obtain ⟨rfl, rfl⟩ := h
          exact .ins (g5 _ zxx zdx) (h4.mono e (List.prefix_refl _))
      · obtain ⟨i, rfl, _, o1⟩ := own b w1 k1
        obtain ⟨j, rfl, _, o2⟩ := own b w2 k2
        exact rel.uq b _ _ o1 o2
      · obtain ⟨i, rfl, hi, o1⟩ := own b w1 k1
        have hbx : b ≠ x := fun z => by
          subst z
          have := rel.uq b _ _ o1 ox
          simp only [Owner.hp.injEq] at this
          omega
        have hbd : b ≠ dx := fun z => by
          subst z
          have := rel.ndxAll o1 g2
          rcases g4 with z | z
          · exact this.1 _ z
          · exact this.2 z
        rw [zeq b hbx hbd]
        exact rel.zo b _ o1
      · by_cases hbx : b = x
        · subst hbx; rw [zxx] at hb; cases hb; exact absurd rfl (g3.1 y)
        · by_cases hbd : b = dx
          · subst hbd
            rw [zdx] at hb; cases hb
            rcases g4 with z | z
            · cases z; exact ⟨u, zxx⟩
            · cases z
          · rw [zeq b hbx hbd] at hb
            obtain ⟨t, ht⟩ := (rel.no b y).1 hb
            exact ⟨t, e _ _ ht⟩
      · by_cases hbx : b = x
        · subst hbx; exact .inr fx
        · by_cases hbd : b = dx
          · subst hbd; exact .inr fdx
          · rw [zeq b hbx hbd]; exact (rel.no b y).2.2
      · by_cases hbx : b = x
        · subst hbx; rw [zxx] at hb; exact h1.nt g1 ps (Option.some.inj hb)
        · by_cases hbd : b = dx
          · subst hbd
            rw [zdx] at hb; cases hb
            rcases g4 with z | z <;> cases z
          · rw [zeq b hbx hbd] at hb; exact (rel.nt b).1 ps hb
    · cases hf
  · cases hf
theorem frame_new {H2 : Hp} {ρ2 : List Addr} {hp2 : List O} (rel : Rel G Z F ρ s σ H (L ++ P)) (k : Same H H2) : frame F ρ2 { s with hp := hp2 } σ L P H2 = frame F ρ s σ L P H := by
  funext a
  have key : ∀ w, (∀ i, w ≠ .hp i) → (Owns ρ2 s.sl σ (L ++ P) a w ↔ Owns ρ s.sl σ (L ++ P) a w) := fun w hw => by
    cases w with
    | hp i => exact absurd rfl (hw i)
    | sl i => exact Iff.rfl
    | pd i => exact Iff.rfl
  unfold frame
  by_cases h : (∃ i, Owns ρ s.sl σ (L ++ P) a (.sl i)) ∨ (∃ i, L.length ≤ i ∧ Owns ρ s.sl σ (L ++ P) a (.pd i))
  · rw [if_pos h, if_pos (by exact h)]
    have : ∃ w, Owns ρ s.sl σ (L ++ P) a w := by
      rcases h with ⟨i, h⟩ | ⟨i, _, h⟩
      · exact ⟨_, h⟩
      · exact ⟨_, h⟩
    obtain ⟨w, hw⟩ := this
    obtain ⟨o, ho⟩ := rel.alive hw
    rw [ho, k _ _ ho]
  · rw [if_neg h, if_neg (by exact h)]
theorem frz_sp {c : CallF} {FF : Rec} {tb : Tb} {f np n : Nat} {rs : List R} {vs : List V} {dx : Addr} (hc : FF.call = c) (hn : NpOk c f np) (hm : Made G ci C n) (ht : tb.cl ci = some n) (rel : Rel G Z F ρ s σ H ((rs.zip vs).reverse ++ P)) (hl : rs.length = vs.length) (hx : H x = none) (hd : H dx = none) (hne : dx ≠ x)
    (h : Goes G W Z F ρ σ P (frzR FF tb ci f rs s) Q) :
    spD G c f np (.ref x :: vs) (upd (upd H dx (.own x)) x (.ins C dx [])) (fun v H2 => v = .non ∧ Q (.ref x) H2) (fun cls d H' => W cls d σ H') := by
  have pre : ρ <+: ρ ++ [x] := List.prefix_append _ _
  have sm := same_upd2 (C := C) hx hd
  have rel2 := rel.newHp (H' := upd (upd H dx (.own x)) x (.ins C dx [])) hx sm (hm Z H (ρ ++ [x]) x dx hne)
  unfold frzR at h
  simp only [ht] at h
  have hnp := callR_np hc hn (bd_ne (goesX_ne (Goes.x h)))
  unfold callR at h
  cases ha : argSs { s with hp := s.hp ++ [.ins ci (List.replicate n none)] } (.val (.ref s.hp.length) :: rs) with
  | none => simp only [ha] at h; exact h.elim
  | some svs =>
    simp only [ha] at h
    have cal := rel2.callee (rs := .val (.ref s.hp.length) :: rs) (vs := .ref x :: vs) (by simp [hl]) ha (fun j => rs.length - j) (fun j y v h1 h3 => by
      cases j with
      | zero =>
        simp only [List.getElem?_cons_zero, Option.some.injEq] at h1 h3
        subst h1; subst h3
        refine ⟨.ref ?_, fun c z => nomatch z⟩
        rw [rel.len, List.getElem?_concat_length]
      | succ j =>
        simp only [List.getElem?_cons_succ] at h1 h3
        have hj : j < rs.length := (List.getElem?_eq_some_iff.mp h1).1
        have g := held_get hl h1 h3
        refine ⟨rel2.mem (List.mem_append_left _ (List.mem_of_getElem? g)), fun _ _ => ?_⟩
        rw [show rs.length - (j + 1) = rs.length - 1 - j by omega]
        exact g) (fun j k h1 h3 q1 q2 e => by
      have e : rs.length - j = rs.length - k := e
      simp only [List.length_cons] at h1 h3
      cases j with
      | zero => obtain ⟨_, z⟩ := q1; simp at z
      | succ j => cases k with
        | zero => obtain ⟨_, z⟩ := q2; simp at z
        | succ k => omega)
    refine ⟨by rw [← hnp]; simp [hl], Z, _, _, svs, _, cal, ?_⟩
    rw [← hc]
    rcases q : FF.call f svs (s.hp ++ [.ins ci (List.replicate n none)]) with _ | ⟨y | r1, hp'⟩
    · simp only [q] at h; exact h.elim
    · simp only [q] at h ⊢
      exact fun cls d H' Z' ρ' e p xr r' => h cls d H' Z' ρ' e (List.IsPrefix.trans pre p) xr (rel2.back e p r')
    · simp only [q] at h ⊢
      intro v H' Z' ρ' e p r'
      simp only [bd] at h
      split at h
      · have hv := r'.head
        cases hv
        refine ⟨rfl, ?_⟩
        cases qf : frzH ci s.hp.length hp' with
        | none => rw [qf] at h; exact h.elim
        | some ds =>
          rw [qf] at h
          rw [rel.len] at qf
          obtain ⟨Z2, e2, r2⟩ := r'.frz p qf
          rw [frame_new rel sm] at r2
          have r3 := rel.back (e.trans e2) (List.prefix_refl _) r2
          simp only [rel.len] at h
          exact h (.ref x) H' Z2 ρ (e.trans e2) (List.prefix_refl _) r3
      · exact h.elim
end
section
variable {X : Cx} {G : Cfg} {W : WX} {tb : Tb} {c : CallF} {CXp : CXT} {k fi ci np nf : Nat} {f C : Addr} {x : Str} {p pos : Pos} {e : Expr} {es : List Expr} {is : List E}
theorem ce_frz (M : Mk X.K C f) (hm' : Made G ci C nf) (ht : tb.cl ci = some nf) (F : FnR X.prog X.w X.K X.mg X.base CXp k f (spD G c fi np)) (hn : NpOk c fi np) (hr : Room (k + 1) X.A) (hg : Gl X x) (hm : X.mg x = some (.ref C)) (hx : PassW CXp X W)
    (ha : CA X G W tb c (e :: es) is) (hdb : (x == ("__debug__" : Str)) = false := by decide) (he : starEach (e :: es) X.env = (false, eval e X.env) :: starEach es X.env := by rfl) (hpl : (backTo pos (starEach es X.env)).any (·.1) = false := by rfl) :
    CE X G W tb c (.Call (.Name x p) (e :: es) [] pos) (.frz ci fi is) := by
  refine ce_of (fun n => pe_makeW M F hr hg hm hx (ha n) hdb he hpl) fun n σ H Q ⟨Z, Fr, ρ, s, P, rel, g⟩ => ?_
  refine goesX_args [] rel (Goes.x g) fun vs H1 rs s1 Z1 ρ1 e1 p1 hl rel1 g1 => ?_
  exact fun y dx hy hd hne => frz_sp (run_call n) hn hm' ht rel1 hl hy hd hne (GoesX.g g1)
end
end Ri

set_option maxRecDepth 100000
/-! Ri, part V: a def keeps its promise. -/
namespace Ri
open PySem PySem.Spec PyProof.Rows L2
theorem passW {X : Cx} {W : WX} (tk : Takes X W) : PassW (CX X.prog X.w) X W := fun _ _ _ _ e s' I c => tk e s' (XE.of_call I (fun _ _ _ h => h) c)
theorem passW0 {X : Cx} {P : Program} {w : World} : PassW (CX P w) X W0 := fun _ _ _ _ _ _ _ ⟨_, _, _, _, _, _, _, _, _, _, _, _, h⟩ => h.elim
section
variable {G : Cfg} {W : WX} {Z Z' H H' F : Hp} {ρ ρ' : List Addr} {s : S} {σ : L2.St} {P L : List (R × V)} {Q : VK}
/-- the frame goes -/
theorem Rel.leave (r : Rel G Z F ρ s σ H P) (ns : NoSlot P) : Rel G Z F ρ ⟨[], s.hp⟩ [] H P := by
  have own : ∀ b w, Owns ρ ([] : List (Option SV)) ([] : L2.St) P b w → Owns ρ s.sl σ P b w := fun b w h => by
    cases w with
    | hp i => exact h
    | sl i => obtain ⟨⟨_, h⟩, _⟩ := h; simp at h
    | pd i => exact h
  refine ⟨r.zs, r.fs, r.len, r.hp, rfl, fun i x h => by simp at h, fun i x v h => ?_, fun b w w' h1 h2 => r.uq b w w' (own _ _ h1) (own _ _ h2), fun b w h => r.zo b w (own _ _ h), r.no, r.nt⟩
  have g := r.pd i x v h
  cases x with
  | val d => exact g
  | own c => exact g
  | slot j => exact absurd h (ns i j v)
theorem noSlot1 {r : R} {v : V} (h : ∀ i, r ≠ .slot i) : NoSlot [(r, v)] := fun j k u e => by
  cases j with
  | zero => simp at e; exact h k e.1
  | succ j => simp at e
/-- more names -/
theorem Rel.more {svs : List SV} {vs : List V} {hp : List O} {n : Nat} (r : Rel G Z F ρ ⟨svs.map some, hp⟩ (vs.map some) H []) : Rel G Z F ρ ⟨svs.map some ++ List.replicate n none, hp⟩ (vs.map some ++ List.replicate n none) H [] := by
  have hl : svs.length = vs.length := by have := r.slen; simpa using this
  have get1 : ∀ (i : Nat) (x : SV), (svs.map some ++ List.replicate n none)[i]? = some (some x) → (svs.map some)[i]? = some (some x) := fun i x h => by
    by_cases hi : i < (svs.map some).length
    · rw [List.getElem?_append_left hi] at h; exact h
    · rw [List.getElem?_append_right (by omega), List.getElem?_replicate] at h
      split at h <;> cases h
  have get2 : ∀ (i : Nat), i < svs.length → (vs.map some ++ List.replicate n none)[i]? = (vs.map some)[i]? := fun i hi => List.getElem?_append_left (by simp; omega)
  have own : ∀ b w, Owns ρ (svs.map some ++ List.replicate n none) (vs.map some ++ List.replicate n none) [] b w → Owns ρ (svs.map some) (vs.map some) [] b w := fun b w h => by
    cases w with
    | hp i => exact h
    | sl i =>
      obtain ⟨⟨c, hc⟩, hv⟩ := h
      have g := get1 i _ hc
      refine ⟨⟨c, g⟩, ?_⟩
      rw [get2 i (by have := (List.getElem?_eq_some_iff.mp g).1; simpa using this)] at hv
      exact hv
    | pd i => exact h
  refine ⟨r.zs, r.fs, r.len, r.hp, by simp [hl], fun i x h => ?_, fun i x v h => by simp at h, fun b w w' h1 h2 => r.uq b w w' (own _ _ h1) (own _ _ h2), fun b w h => r.zo b w (own _ _ h), r.no, r.nt⟩
  have g := get1 i x h
  obtain ⟨v, h1, h2⟩ := r.sl i x g
  exact ⟨v, by rw [get2 i (by have := (List.getElem?_eq_some_iff.mp g).1; simpa using this)]; exact h1, h2⟩
end
theorem callD_np {tb : Tb} {f : Nat} {d : Df} (h : tb.df f = some d) : ∀ dd, NpOk (callD tb dd) f d.np
  | 0 => fun _ _ _ => rfl
  | dd + 1 => fun svs hp hne => by
    show stepC _ tb f svs hp = none
    unfold stepC
    simp only [h]
    rw [if_neg hne]
section
variable {P : Program} {w : World} {K : PySem.W.Frag} {mg : Str → Option Value} {base : Heap} {G : Cfg} {tb : Tb}
theorem def_ok {x qual : Str} {params : Arguments} {bodyS : List Stmt} {scope : Scope} {f : Addr} {fd : FuncData} {N ps : List Str} {k fi dd : Nat} {d : Df} (F : FunD K x qual params bodyS scope [] [] f fd) (S : FnScope N ps scope) (hd : tb.df fi = some d) (hnp : d.np = ps.length) (hns : d.ns = N.length)
    (hbody : ∀ (cdv : Value) (A : Around) (outer : List Env) (s : Shared) (H : Hp) (E : XK), Room k (A.deeper (envOfC qual scope s.heap.objs.size f cdv)) →
      Takes (cxOf (CX P w) P w K mg base N qual scope f cdv A outer s H E) (fun cls d _ H => E cls d H) →
      CSs (cxOf (CX P w) P w K mg base N qual scope f cdv A outer s H E) G (fun cls d _ H => E cls d H) tb (callD tb dd) bodyS d.body) :
    FnOk P w K mg base (CX P w) (k + 1) f fd ps (spD G (callD tb (dd + 1)) fi ps.length) := by
  refine F.ok S (fun vs H Q E h => h.1) fun cdv A outer s H vs Q E hr hsp => ?_
  have tk : Takes (cxOf (CX P w) P w K mg base N qual scope f cdv A outer s H E) (fun cls d _ H => E cls d H) := takes_of rfl rfl rfl rfl
  refine ⟨_, hbody cdv A outer s H E hr tk FUEL, ?_⟩
  obtain ⟨hl, Z, Fr, ρ, svs, hp, rel, g⟩ := hsp
  have hsl : svs.length = vs.length := by have := rel.slen; simpa using this
  replace g : GoesC G E Z Fr ρ (stepC (run tb (callD tb dd) FUEL) tb fi svs hp) Q := g
  unfold stepC at g
  simp only [hd] at g
  rw [if_pos (by rw [hnp, hsl, hl])] at g
  refine ⟨Z, Fr, ρ, ⟨svs.map some ++ List.replicate (d.ns - svs.length) none, hp⟩, [], NoSlot.nil, ?_, ?_⟩
  · have := rel.more (n := d.ns - svs.length)
    unfold L2.start
    rw [hns, hsl] at this ⊢
    exact this
  · rcases q : execs (run tb (callD tb dd) FUEL) d.body ⟨svs.map some ++ List.replicate (d.ns - svs.length) none, hp⟩ with _ | ⟨e | fl, s'⟩
    · rw [q] at g; exact g
    · rw [q] at g
      exact fun cls dd2 σ1 H1 Z1 ρ1 e1 p1 x1 r1 => g cls dd2 H1 Z1 ρ1 e1 p1 x1 (r1.leave NoSlot.nil)
    · rw [q] at g
      have gcd : ∀ {r : R} {v : V} {H1 Z1 : Hp} {ρ1 : List Addr} {σ1 : L2.St}, (∀ i, r ≠ .slot i) → Same Z Z1 → ρ <+: ρ1 → Rel G Z1 Fr ρ1 s' σ1 H1 [(r, v)] → GoesC G E Z Fr ρ (some (.ok r, gc hp.length r s'.hp)) Q → Q v H1 := fun {r v H1 Z1 ρ1 σ1} hns e1 p1 r1 g => by
        obtain ⟨ρ2, p2, r2⟩ := (r1.leave (noSlot1 hns)).gc (ρ := ρ) p1
        have hlen : hp.length = ρ.length := rel.len
        rw [← hlen] at r2
        exact g v H1 Z1 ρ2 e1 p2 r2
      cases fl with
      | next => exact fun σ1 H1 Z1 ρ1 e1 p1 r1 => gcd (fun _ z => by cases z) e1 p1 (r1.pushVal .non) g
      | brk => exact g.elim
      | cnt => exact g.elim
      | ret r =>
        intro v σ1 H1 Z1 ρ1 e1 p1 r1
        cases r with
        | slot i => exact g.elim
        | val d => exact gcd (fun _ z => by cases z) e1 p1 r1 g
        | own c => exact gcd (fun _ z => by cases z) e1 p1 r1 g
/-- .. without its names -/
theorem fnR_of {f : Addr} {fd : FuncData} {ps : List Str} {k : Nat} {sp : Sp} {CXp : CXT} (F : FnOk P w K mg base CXp k f fd ps sp) (hb : Binds K fd ps []) : FnR P w K mg base CXp k f sp :=
  (F.raw hb .nil).imp fun vs H Q E h => by rw [List.append_nil]; exact h
end
end Ri

set_option maxRecDepth 100000
/-! Ri, part W: isinstance, own operators of instances with slots. -/
namespace Ri
open PySem PySem.Spec PyProof.Rows L2
section
variable {X : Cx} {G : Cfg} {W : WX} {tb : Tb} {c : CallF} {CXp : CXT} {k fi ci np : Nat} {f C : Addr} {x m fl : Str} {p p2 pos apos : Pos} {e o a b : Expr} {io ie ia ib : E} {es : List Expr} {is : List E} {names : List Str}
/-- isinstance(x, T), T a built-in type -/
theorem ce_isb {o : Bl} {T : String} {Tn : Str} (hK : G.K = X.K) (bi bb bn bs bt : Bool) (hbl : ∀ x, blD o [x] = match x with
      | .int _ => some (.val (.bl bi))
      | .bl _ => some (.val (.bl bb))
      | .non => some (.val (.bl bn))
      | .str _ => some (.val (.bl bs))
      | .tup _ => some (.val (.bl bt))
      | _ => none) (k1 : kitB "int" T = some bi) (k2 : kitB "bool" T = some bb) (k3 : kitB "NoneType" T = some bn) (k4 : kitB "str" T = some bs) (k5 : kitB "tuple" T = some bt)
    (he : CE X G W tb c e ie) (hg : Gl X "isinstance") (hm : X.mg "isinstance" = none) (hg2 : Gl X Tn) (hm2 : X.mg Tn = none) (hv : bootBuiltins Tn = some (.type T)) (hn : Tn ≠ "__name__") (hdb : (Tn == ("__debug__" : Str)) = false)
    (hs : starEach [e, .Name Tn p2] X.env = (false, eval e X.env) :: starEach [.Name Tn p2] X.env := by rfl) (hs2 : starEach [.Name Tn p2] X.env = (false, eval (.Name Tn p2) X.env) :: starEach [] X.env := by rfl)
    (hpl : (backTo pos (starEach [.Name Tn p2] X.env)).any (·.1) = false := by rfl) : CE X G W tb c (.Call (.Name "isinstance" p) [e, .Name Tn p2] [] pos) (.bl o [ie]) := by
  refine ce_of (fun n => pe_callB call_isi hg hm rfl (pa_cons (he n) (pa_cons (pe_bltn (v := .ty T) hg2 hm2 hv rfl hn hdb) pa_nil hs2) hs) (by decide) (by decide) hs hpl) fun n σ H Q ⟨Z, F, ρ, s, P, rel, g⟩ => ?_
  replace g : Goes G W Z F ρ σ P (bd (bd ((run tb c n).ex ie s) fun r s => bd (ok [] s) fun rs s => ok (r :: rs) s) fun rs s => blR o rs s) Q := g
  rw [bd_bd] at g
  refine goes_bind [] rel g fun v H1 r1 s1 Z1 ρ1 e1 p1 rel1 g1 => ?_
  replace g1 : Goes G W Z1 F ρ1 σ P (blR o [r1] s1) Q := g1
  unfold blR at g1
  simp only [looks] at g1
  cases q : look s1 r1 with
  | none => rw [q] at g1; exact g1.elim
  | some d =>
    rw [q] at g1
    simp only [hbl] at g1
    have nr := rel1.look rel1.head q
    have fin : ∀ {t : String} {b : Bool}, TyX X.K H1 v (.type t) → kitB t T = some b → Q (.bl b) H1 → tCons (tC (.ty T)) tNil σ H1 fun xs H2 => rIsi X.K (v :: xs) H2 Q := fun {t b} ty hk hq => ⟨v, .ty T, .type t, .type T, b, rfl, .ty T, ty, kit_ty hk, hq⟩
    cases d with
    | int i => cases nr; exact fin (.base (.int i)) k1 (Goes.val g1 rel1.pop (.bl _))
    | bl i => cases nr; exact fin (.base (.bl i)) k2 (Goes.val g1 rel1.pop (.bl _))
    | non => cases nr; exact fin (.base .non) k3 (Goes.val g1 rel1.pop (.bl _))
    | str i => cases nr; exact fin (.base (.str i)) k4 (Goes.val g1 rel1.pop (.bl _))
    | tup xs =>
      cases nr with
      | tup h1 h2 =>
        refine fin ?_ k5 (Goes.val g1 rel1.pop (.bl _))
        rcases Same.sqT rel1.zs h1 with (h | ⟨o, h⟩) | ⟨o, its, n, h, h', _⟩
        · exact .base (.tup h)
        · exact .fTuple h
        · exact .kTuple (by rw [← hK]; exact h) h'
    | _ => exact g1.elim
theorem ce_isint (hK : G.K = X.K) (he : CE X G W tb c e ie) (hg : Gl X "isinstance") (hm : X.mg "isinstance" = none) (hg2 : Gl X "int") (hm2 : X.mg "int" = none)
    (hs : starEach [e, .Name "int" p2] X.env = (false, eval e X.env) :: starEach [.Name "int" p2] X.env := by rfl) : CE X G W tb c (.Call (.Name "isinstance" p) [e, .Name "int" p2] [] pos) (.bl .isint [ie]) :=
  ce_isb hK true true false false false (by intro x; cases x <;> rfl) (by decide +kernel) (by decide +kernel) (by decide +kernel) (by decide +kernel) (by decide +kernel) he hg hm hg2 hm2 rfl (by decide) (by decide) hs
theorem ce_isbool (hK : G.K = X.K) (he : CE X G W tb c e ie) (hg : Gl X "isinstance") (hm : X.mg "isinstance" = none) (hg2 : Gl X "bool") (hm2 : X.mg "bool" = none)
    (hs : starEach [e, .Name "bool" p2] X.env = (false, eval e X.env) :: starEach [.Name "bool" p2] X.env := by rfl) : CE X G W tb c (.Call (.Name "isinstance" p) [e, .Name "bool" p2] [] pos) (.bl .isbool [ie]) :=
  ce_isb hK false true false false false (by intro x; cases x <;> rfl) (by decide +kernel) (by decide +kernel) (by decide +kernel) (by decide +kernel) (by decide +kernel) he hg hm hg2 hm2 rfl (by decide) (by decide) hs
theorem ce_isstr (hK : G.K = X.K) (he : CE X G W tb c e ie) (hg : Gl X "isinstance") (hm : X.mg "isinstance" = none) (hg2 : Gl X "str") (hm2 : X.mg "str" = none)
    (hs : starEach [e, .Name "str" p2] X.env = (false, eval e X.env) :: starEach [.Name "str" p2] X.env := by rfl) : CE X G W tb c (.Call (.Name "isinstance" p) [e, .Name "str" p2] [] pos) (.bl .isstr [ie]) :=
  ce_isb hK false false false true false (by intro x; cases x <;> rfl) (by decide +kernel) (by decide +kernel) (by decide +kernel) (by decide +kernel) (by decide +kernel) he hg hm hg2 hm2 rfl (by decide) (by decide) hs
theorem ce_istuple (hK : G.K = X.K) (he : CE X G W tb c e ie) (hg : Gl X "isinstance") (hm : X.mg "isinstance" = none) (hg2 : Gl X "tuple") (hm2 : X.mg "tuple" = none)
    (hs : starEach [e, .Name "tuple" p2] X.env = (false, eval e X.env) :: starEach [.Name "tuple" p2] X.env := by rfl) : CE X G W tb c (.Call (.Name "isinstance" p) [e, .Name "tuple" p2] [] pos) (.bl .istuple [ie]) :=
  ce_isb hK false false false false true (by intro x; cases x <;> rfl) (by decide +kernel) (by decide +kernel) (by decide +kernel) (by decide +kernel) (by decide +kernel) he hg hm hg2 hm2 rfl (by decide) (by decide) hs
/-! ### nothing raised -/
theorem noX_goes {Z F : Hp} {ρ : List Addr} {σ : L2.St} {P : List (R × V)} {m : Res R} {g : R → S → Res R} {Q : VK} (h : Goes G W Z F ρ σ P (bd (noX m) g) Q) : GoesX G W0 Z F ρ σ P m fun r s' H' Z' ρ' => Goes G W Z' F ρ' σ P (g r s') Q := by
  rcases m with _ | ⟨_ | r, s'⟩
  · exact h
  · exact h.elim
  · exact fun H1 Z1 ρ1 e1 p1 => Goes.mono h e1 p1
theorem bd_ok1 (m : Res R) : bd m ok = m := by rcases m with _ | ⟨_ | _, _⟩ <;> rfl
/-- the promise, where nothing is raised -/
theorem call_noX {Z F H : Hp} {ρ : List Addr} {s : S} {σ : L2.St} {P : List (R × V)} {rs : List R} {vs : List V} {FF : Rec} {g : R → S → Res R} {Q Q' : VK} (hc : FF.call = c) (hn : NpOk c fi np) (rel : Rel G Z F ρ s σ H ((rs.zip vs).reverse ++ P)) (hl : rs.length = vs.length)
    (h : Goes G W Z F ρ σ P (bd (noX (callR FF fi rs s)) g) Q') (hQ : ∀ v H1 r1 s1 Z1 ρ1, Rel G Z1 F ρ1 s1 σ H1 ((r1, v) :: P) → Goes G W Z1 F ρ1 σ P (g r1 s1) Q' → Q v H1) : spD G c fi np vs H Q (fun _ _ _ => False) := by
  have h' := noX_goes h
  rw [← callR_np hc hn (goesX_ne h')]
  exact call_held (W := W0) hc rel hl h' fun v H1 r1 s1 Z1 ρ1 e1 p1 rel1 _ k1 => hQ v H1 r1 s1 Z1 ρ1 rel1 k1
theorem noCX {P : Program} {w : World} {l : List Env} {H : Hp} {s s' : Shared} {e : Value} (h : CX P w l H s (fun _ _ _ => False) e s') : False := by
  obtain ⟨_, _, _, _, _, _, _, _, _, _, _, _, h⟩ := h
  exact h
/-! ### own operators of instances with slots -/
theorem ce_prop {g pd : Addr} (he : CE X G W tb c e ie) (cl : SlCls G X ci C names) (at_ : PySem.W.findIn X.K (.ref C) fl = some (some (.ref pd))) (get : PySem.W.specialIn X.K (.ref pd) "__get__" = some (some (.builtin "property.__get__")))
    (tk : PySem.W.takesIn X.K (.ref pd) = some true) (rc : ∃ rest, PySem.W.recIn X.K pd "property" = some (.ref g :: rest)) (F : FnR X.prog X.w X.K X.mg X.base (CX X.prog X.w) k g (spD G c fi np)) (hn : NpOk c fi np) (hr : Room (k + 1) X.A)
    (hb : attributeBase e fl X.env (eval e X.env) = eval e X.env := by rfl) : CE X G W tb c (.Attribute e fl pos) (.prop ci fi ie) := by
  refine ce_of (fun n => SlX.pe_propSl (he n) cl.cls at_ get tk rc F hr (E := fun _ _ _ => False) (fun _ _ _ _ z => noCX z) hb) fun n σ H Q ⟨Z, Fr, ρ, s, P, rel, g⟩ => ?_
  refine goes_bind [] rel g fun v H1 r1 s1 Z1 ρ1 e1 p1 rel1 g1 => ?_
  unfold propR at g1
  split at g1
  · rename_i hi
    obtain ⟨a, vs, rfl, hI⟩ := isIns_at rel1 rel1.head hi
    obtain ⟨_, dx, ws, h1, _⟩ := cl.ins hI
    refine ⟨a, dx, ws, rfl, h1.slt, ?_⟩
    rw [← bd_ok1 (noX _)] at g1
    exact call_noX (rs := [r1]) (run_call n) hn rel1 rfl g1 fun v H2 r2 s2 Z2 ρ2 rel2 k2 => k2 v H2 Z2 ρ2 (Same.refl _) (List.prefix_refl _) rel2
  · exact g1.elim
theorem call_lenOwn {g : Addr} {sp : Sp} {n : Nat} (hs : PySem.W.findIn X.K (.ref C) "__len__" = some (some (.ref g))) (hf : PySem.W.isFn X.K (.ref g) = true) (F : FnR X.prog X.w X.K X.mg X.base (CX X.prog X.w) n g sp) (hr : Room (n + 1) X.A) :
    CallR X (.builtin "len") (fun xs H Q => ∃ a dx ws, xs = [.ref a] ∧ SlX.Slt H a C dx ws ∧ sp [.ref a] H (fun z H' => ∃ i : Int, z = .int i ∧ 0 ≤ i ∧ i < 2 ^ 63 ∧ Q z H') (fun _ _ _ => False)) := by
  intro pins s σ H xs us Q I r h
  obtain ⟨a, dx, ws, rfl, hsl, q⟩ := h
  obtain ⟨u1, rfl, r1⟩ := vals1 r
  cases (show u1 = Value.ref a from r1)
  obtain ⟨sl, od, _, J, _⟩ := SlX.slt_inst I hsl
  obtain ⟨m, hF⟩ := I.fr
  refine PySem.W.len_K hF I.ok.mod.kin J hs hf (wpAny_call (codeAny_mono (F X.A.in1 X.stack s H [.ref a] [.ref a] _ _ hr.in1 I.env0.in1 (.cons rfl .nil) q) fun r s' hq => ?_))
  cases r with
  | error e => exact (noCX hq).elim
  | ok fl =>
    cases fl with
    | ret u =>
      obtain ⟨v, H', I2, rv, i, rfl, h0, h1, q⟩ := I.after hq
      obtain ⟨t, e⟩ := (show ∃ t, u = Value.int i t from rv)
      cases e
      exact ⟨⟨h0, h1⟩, .int i, H', I2.tok _, ⟨_, rfl⟩, q⟩
    | next => exact hq.elim
    | brk => exact hq.elim
    | cont => exact hq.elim
theorem ce_ulen {g : Addr} (he : CE X G W tb c e ie) (cl : SlCls G X ci C names) (hsp : PySem.W.findIn X.K (.ref C) "__len__" = some (some (.ref g))) (hf : PySem.W.isFn X.K (.ref g) = true) (F : FnR X.prog X.w X.K X.mg X.base (CX X.prog X.w) k g (spD G c fi np)) (hn : NpOk c fi np) (hr : Room (k + 1) X.A)
    (hg : Gl X "len") (hm : X.mg "len" = none) (hs : starEach [e] X.env = (false, eval e X.env) :: starEach [] X.env := by rfl) : CE X G W tb c (.Call (.Name "len" p) [e] [] pos) (.ulen ci fi ie) := by
  refine ce_of (fun n => pe_callB (call_lenOwn (C := C) hsp hf F hr) hg hm rfl (pa_cons (he n) pa_nil hs) (by decide) (by decide) hs rfl) fun n σ H Q ⟨Z, Fr, ρ, s, P, rel, g⟩ => ?_
  replace g : Goes G W Z Fr ρ σ P (bd (bd ((run tb c n).ex ie s) fun r s => bd (ok [] s) fun rs s => ok (r :: rs) s) fun rs s => ulenR (run tb c n) ci fi rs s) Q := g
  rw [bd_bd] at g
  refine goes_bind [] rel g fun v H1 r1 s1 Z1 ρ1 e1 p1 rel1 g1 => ?_
  replace g1 : Goes G W Z1 Fr ρ1 σ P (ulenR (run tb c n) ci fi [r1] s1) Q := g1
  simp only [ulenR] at g1
  by_cases hi : isIns s1 ci r1 = true
  · rw [if_pos hi] at g1
    obtain ⟨a, vs, rfl, hI⟩ := isIns_at rel1 rel1.head hi
    obtain ⟨_, dx, ws, h1, _⟩ := cl.ins hI
    refine ⟨a, dx, ws, rfl, h1.slt, ?_⟩
    refine call_noX (rs := [r1]) (run_call n) hn rel1 rfl g1 fun v H2 r2 s2 Z2 ρ2 rel2 k2 => ?_
    unfold lenR at k2
    split at k2
    · split at k2
      · rename_i i hlt
        have hv := rel2.head
        cases hv
        exact ⟨i, rfl, hlt.1, by omega, k2 _ H2 Z2 ρ2 (Same.refl _) (List.prefix_refl _) rel2⟩
      · exact k2.elim
    · exact k2.elim
  · rw [if_neg hi] at g1; exact g1.elim
end
end Ri

set_option maxRecDepth 100000
/-! Ri, part X: == and != of instances with an own __eq__, isinstance of an own class. -/
namespace Ri
open PySem PySem.Spec PyProof.Rows L2
theorem ne_slot : Slot "object" "__ne__" "object.__ne__" :=
  Slot.of (owner := "object") (n := "__ne__") (by rw [typeLookup_type, builtinLookup_eq_fast]; kernel_rfl) (by decide +kernel) (by decide +kernel) (by decide +kernel) (.inl (by decide +kernel)) (by rw [isSubtype_type]; kernel_rfl)
theorem ne_entry : entryFor table "object.__ne__" = some Builtin.«object.__ne__» := entryFor_of_tree (by kernel_rfl)
theorem ne_args (a b : Value) : argsOk "object.__ne__" ⟨[a, b], []⟩ := by unfold argsOk; kernel_rfl
section
variable {prog : Program} {w : World} {A : Around} {E : Value → Shared → Prop} {s : Shared} {K : PySem.W.Frag} {x C L f : Addr} {h₀ : Heap} {m : Str → Option Value} {ox : Obj} {od : Option Obj} {b tb : Value}
theorem ne_K {Q : Value → Shared → Prop} (hu : A.units < cLine) (hu1 : A.in1.units < cLine) (X : K.In s.heap) (I : PySem.W.InstAt s.heap x ox C od) (hb : PySem.W.Looks (model prog w) s.heap (typeOf b) tb) (hn : PySem.W.notFirst K C tb = true)
    (hs : PySem.W.findIn K (.ref C) "__ne__" = some (some (.builtin "object.__ne__"))) (he : PySem.W.findIn K (.ref C) "__eq__" = some (some (.ref f))) (hf : PySem.W.isFn K (.ref f) = true) (hm : PySem.W.mroIn K C (.type "object") = some true)
    (h : wpAny (model prog w) A.in1 (call (.ref f) [.ref x, b]) (fun v s' => ∃ k : Bool, v = .bool k ∧ Q (.bool (!k)) s') E s) : wpAny (model prog w) A (richCompare .NotEq (.ref x) b) Q E s := by
  have sub : PySem.W.Looks (model prog w) s.heap (isInstance (.ref x) (.type "object")) true := I.type.andThen (PySem.W.looks_mroIn X hm)
  have body : wpAny (model prog w) A (call (.builtin "object.__ne__") [.ref x, b]) (fun v s' => ∃ k : Bool, v = .bool k ∧ Q v s') E s := by
    refine wpAny_call (codeAny_call_builtin ne_slot.plain ne_entry (@PySem.W.check_slot (model prog w) _ _ _ "object.__ne__" "object" "__ne__" (.ref x) [b] [] _ (by decide +kernel) (by decide +kernel) sub (ne_args _ _) ?_))
    unfold Builtin.«object.__ne__»
    refine wpAny_bind (m := slotArgs "__ne__" 1 _) (wpAny_pure ?_)
    refine wpAny_bind (wpAny_cRoomFor hu1 ?_)
    refine wpAny_bind (PySem.W.ifBound_K X I he hf (wpAny_mono h (fun v s' hv => ?_) fun _ _ e => e))
    obtain ⟨k, rfl, hq⟩ := hv
    exact wpAny_bind (wpAny_truthy_bool (wpAny_pure ⟨_, rfl, hq⟩))
  have one : wpAny (model prog w) A (tryCompare (.ref x) "__ne__" b) (fun r s' => ∃ v, r = some v ∧ Q v s') E s := by
    unfold tryCompare
    refine wpAny_bind (NtL.csib (I.type.andThen (PySem.W.looks_findIn X hs)) (ne_slot.bind _) (wpAny_mono body (fun v s' hv => ?_) fun _ _ e => e))
    obtain ⟨k, rfl, hq⟩ := hv
    exact wpAny_pure ⟨_, rfl, hq⟩
  have two : wpAny (model prog w) A (tryCompare (.ref x) (cmpInfo .NotEq).2.1 b >>= fun r => match r with
      | some v => pure v
      | none => unsupported "") Q E s := wpAny_bind (wpAny_mono one (fun r s' ⟨v, e, hq⟩ => by subst e; exact wpAny_pure hq) fun _ _ e => e)
  unfold richCompare
  simp only [oneThing_ref]
  refine wpAny_holding (wpAny_bind (wpAny_cRoomFor hu (wpAny_bind (I.type.here (wpAny_bind (hb.here ?_))))))
  split
  · rename_i q
    have e : PySem.W.subIn K tb (.ref C) = some false := by
      rcases Bool.or_eq_true_iff.mp hn with e | e
      · rw [beq_iff_eq.mp e] at q; simp at q
      · exact beq_iff_eq.mp e
    refine wpAny_bind ((PySem.W.looks_subIn X e).here ?_)
    simp only [Bool.false_eq_true, if_false]
    exact wpAny_bind (wpAny_mono one (fun r s' ⟨v, e, hq⟩ => by subst e; exact wpAny_pure hq) fun _ _ e => e)
  · refine wpAny_bind (wpAny_pure ?_)
    simp only [Bool.false_eq_true, if_false]
    exact wpAny_bind (wpAny_mono one (fun r s' ⟨v, e, hq⟩ => by subst e; exact wpAny_pure hq) fun _ _ e => e)
end
section
variable {X : Cx} {G : Cfg} {W : WX} {tb : Tb} {c : CallF} {k fi ci np : Nat} {g C : Addr} {x : Str} {p p2 pos apos : Pos} {e o a b : Expr} {io ie ia ib : E} {es : List Expr} {is : List E} {names : List Str}
theorem op_neOwn {sp : Sp} {n : Nat} (hs : PySem.W.findIn X.K (.ref C) "__ne__" = some (some (.builtin "object.__ne__"))) (he : PySem.W.findIn X.K (.ref C) "__eq__" = some (some (.ref g))) (hf : PySem.W.isFn X.K (.ref g) = true) (hm : PySem.W.mroIn X.K C (.type "object") = some true)
    (F : FnR X.prog X.w X.K X.mg X.base (CX X.prog X.w) n g sp) (hr : Room (n + 1) X.A) :
    OpR X (compareOp .NotEq) (fun x y H Q => ∃ a dx vs b C' dy ws, x = .ref a ∧ y = .ref b ∧ SlX.Slt H a C dx vs ∧ SlX.Slt H b C' dy ws ∧ PySem.W.notFirst X.K C (.ref C') = true ∧ sp [x, y] H (fun z H' => ∃ k, z = .bl k ∧ Q (.bl (!k)) H') (fun _ _ _ => False)) := by
  intro pins s σ H x y v u Q I rx ry h
  obtain ⟨a, dx, vs, b, C', dy, ws, rfl, rfl, ha, hb, hn, q⟩ := h
  cases (show v = Value.ref a from rx)
  cases (show u = Value.ref b from ry)
  obtain ⟨sl, od, _, J, _⟩ := SlX.slt_inst I ha
  obtain ⟨sl', od', _, J', _⟩ := SlX.slt_inst I hb
  show wpAny _ _ (richCompare .NotEq (.ref a) (.ref b)) _ _ _
  refine ne_K (tb := .ref C') hr.units0 hr.in1.units0 I.kIn J J'.type hn hs he hf hm (wpAny_call (codeAny_mono (F X.A.in1 X.stack s H [.ref a, .ref b] [.ref a, .ref b] _ _ hr.in1 I.env0.in1 (.cons rfl (.cons rfl .nil)) q) fun r s' hq => ?_))
  cases r with
  | error e => exact (noCX hq).elim
  | ok fl =>
    cases fl with
    | ret u =>
      obtain ⟨v, H', I2, rv, k, rfl, q⟩ := I.after hq
      cases (show u = Value.bool k from rv)
      exact ⟨k, rfl, .bl (!k), H', I2, rfl, q⟩
    | next => exact hq.elim
    | brk => exact hq.elim
    | cont => exact hq.elim
theorem boolR_goes {Z F H : Hp} {ρ : List Addr} {s : S} {σ : L2.St} {P : List (R × V)} {Q : VK} {ne : Bool} {r : R} {v : V} (rel : Rel G Z F ρ s σ H ((r, v) :: P)) (h : Goes G W Z F ρ σ P (boolR ne r s) Q) : ∃ k, v = .bl k ∧ Q (.bl (if ne then !k else k)) H := by
  unfold boolR at h
  split at h
  · have hv := rel.head
    cases hv
    exact ⟨_, rfl, Goes.val h rel.pop (.bl _)⟩
  · exact h.elim
theorem ucmp_read {n : Nat} {ne : Bool} {σ : L2.St} {H : Hp} {Q : VK} (cl : SlCls G X ci C names) (hn : NpOk c fi np) (h : T G W (stepE (run tb c n) tb (.ucmp ne ci fi ia ib)) σ H Q) :
    T G W ((run tb c n).ex ia) σ H fun x H1 => T G W ((run tb c n).ex ib) σ H1 fun y H2 => ∃ a dx vs b dy ws, x = .ref a ∧ y = .ref b ∧ SlX.Slt H2 a C dx vs ∧ SlX.Slt H2 b C dy ws ∧ spD G c fi np [x, y] H2 (fun z H' => ∃ k, z = .bl k ∧ Q (.bl (if ne then !k else k)) H') (fun _ _ _ => False) := by
  obtain ⟨Z, F, ρ, s, P, rel, g⟩ := h
  refine goes_bind [] rel g fun v H1 r1 s1 Z1 ρ1 e1 p1 rel1 g1 => ?_
  refine goes_bind [(r1, v)] rel1 g1 fun v2 H2 r2 s2 Z2 ρ2 e2 p2 rel2 g2 => ?_
  unfold ucmpR at g2
  split at g2
  · rename_i hi
    simp only [Bool.and_eq_true] at hi
    obtain ⟨a, vs, rfl, hI⟩ := isIns_at rel2 rel2.second hi.1
    obtain ⟨b, ws, rfl, hJ⟩ := isIns_at rel2 rel2.head hi.2
    obtain ⟨_, dx, us, h1, _⟩ := cl.ins hI
    obtain ⟨_, dy, zs, h2, _⟩ := cl.ins hJ
    refine ⟨a, dx, us, b, dy, zs, rfl, rfl, h1.slt, h2.slt, ?_⟩
    exact call_noX (rs := [r1, r2]) (run_call n) hn rel2 rfl g2 fun v H3 r3 s3 Z3 ρ3 rel3 k3 => boolR_goes rel3 k3
  · exact g2.elim
theorem ce_ueq (cl : SlCls G X ci C names) (he : PySem.W.findIn X.K (.ref C) "__eq__" = some (some (.ref g))) (hf : PySem.W.isFn X.K (.ref g) = true) (hnf : PySem.W.notFirst X.K C (.ref C) = true)
    (F : FnR X.prog X.w X.K X.mg X.base (CX X.prog X.w) k g (spD G c fi np)) (hn : NpOk c fi np) (hr : Room k X.A) (ha : CE X G W tb c a ia) (hb : CE X G W tb c b ib) : CE X G W tb c (.Compare a [.Eq] [b] pos) (.ucmp false ci fi ia ib) := by
  refine ce_of (fun n => pe_cmpR (SlX.op_own (op := .Eq) (fun _ _ => rfl) he hf F hr (E := fun _ _ _ => False) (fun _ _ _ _ _ _ _ z => (noCX z).elim)) (ha n) (hb n) (nomark b)) fun n σ H Q h => ?_
  refine T.mono (ucmp_read cl hn h) fun x H1 h1 => T.mono h1 fun y H2 ⟨a, dx, vs, b, dy, ws, ex, ey, h3, h4, h5⟩ => ?_
  refine ⟨a, dx, vs, b, C, dy, ws, ex, ey, h3, h4, hnf, ?_⟩
  obtain ⟨l, Z, Fr, ρ, svs, hp, r, gg⟩ := h5
  refine ⟨l, Z, Fr, ρ, svs, hp, r, ?_⟩
  rcases q : c fi svs hp with _ | ⟨_ | r1, hp'⟩
  · rw [q] at gg; exact gg
  · rw [q] at gg; exact gg
  · rw [q] at gg
    intro v H' Z' ρ' e p r'
    obtain ⟨k, rfl, hq⟩ := gg v H' Z' ρ' e p r'
    exact hq
theorem ce_une (cl : SlCls G X ci C names) (hs : PySem.W.findIn X.K (.ref C) "__ne__" = some (some (.builtin "object.__ne__"))) (he : PySem.W.findIn X.K (.ref C) "__eq__" = some (some (.ref g))) (hf : PySem.W.isFn X.K (.ref g) = true) (hm : PySem.W.mroIn X.K C (.type "object") = some true) (hnf : PySem.W.notFirst X.K C (.ref C) = true)
    (F : FnR X.prog X.w X.K X.mg X.base (CX X.prog X.w) k g (spD G c fi np)) (hn : NpOk c fi np) (hr : Room (k + 1) X.A) (ha : CE X G W tb c a ia) (hb : CE X G W tb c b ib) : CE X G W tb c (.Compare a [.NotEq] [b] pos) (.ucmp true ci fi ia ib) := by
  refine ce_of (fun n => pe_cmpR (op_neOwn (C := C) hs he hf hm F hr) (ha n) (hb n) (nomark b)) fun n σ H Q h => ?_
  exact T.mono (ucmp_read cl hn h) fun x H1 h1 => T.mono h1 fun y H2 ⟨a, dx, vs, b, dy, ws, ex, ey, h3, h4, h5⟩ => ⟨a, dx, vs, b, C, dy, ws, ex, ey, h3, h4, hnf, h5⟩
theorem ce_isi {Cn : Str} (cl : SlCls G X ci C names) (si : SlX.SIsi X.K C) (hk : PySem.W.kitOne X.K (.ref C) (.ref C) = some true) (he : CE X G W tb c e ie) (hg : Gl X "isinstance") (hm : X.mg "isinstance" = none) (hg2 : Gl X Cn) (hm2 : X.mg Cn = some (.ref C)) (hdb : (Cn == ("__debug__" : Str)) = false := by decide)
    (hs : starEach [e, .Name Cn p2] X.env = (false, eval e X.env) :: starEach [.Name Cn p2] X.env := by rfl) (hs2 : starEach [.Name Cn p2] X.env = (false, eval (.Name Cn p2) X.env) :: starEach [] X.env := by rfl)
    (hpl : (backTo pos (starEach [.Name Cn p2] X.env)).any (·.1) = false := by rfl) : CE X G W tb c (.Call (.Name "isinstance" p) [e, .Name Cn p2] [] pos) (.isi ci ie) := by
  refine ce_of (fun n => pe_callB (SlX.call_isiSl (.ref C)) hg hm rfl (pa_cons (he n) (pa_cons (pe_glob (v := .ref C) hg2 hm2 rfl hdb) pa_nil hs2) hs) (by decide) (by decide) hs hpl) fun n σ H Q ⟨Z, F, ρ, s, P, rel, g⟩ => ?_
  refine goes_bind [] rel g fun v H1 r1 s1 Z1 ρ1 e1 p1 rel1 g1 => ?_
  unfold isiR at g1
  split at g1
  · rename_i hi
    obtain ⟨a, vs, rfl, hI⟩ := isIns_at rel1 rel1.head hi
    obtain ⟨_, dx, us, h1, _⟩ := cl.ins hI
    exact ⟨a, C, dx, us, .ref C, true, rfl, rfl, (fun w hw => hw), h1.slt, cl.cls, si, hk, Goes.val g1 rel1.pop (.bl _)⟩
  · exact g1.elim
end
end Ri

set_option maxRecDepth 100000
/-! Ri, part Y: methods of lists and texts, more statements. -/
namespace Ri
open PySem PySem.Spec PyProof.Rows L2
section
variable {G : Cfg} {W : WX} {Z Z' H H' F : Hp} {ρ ρ' : List Addr} {s : S} {σ : L2.St} {P L : List (R × V)} {Q : VK}
theorem isL_at {r : R} {v : V} (rel : Rel G Z F ρ s σ H P) (hr : PRep G Z ρ H s.sl σ v r) (h : isL s r = true) : ∃ l vs, v = .ref l ∧ H l = some (.lst vs) := by
  cases r with
  | own _ => cases h
  | slot i =>
    simp only [isL] at h
    have hr : σ[i]? = some (some v) := hr
    split at h
    · rename_i xs e
      obtain ⟨v', h1, a, o, rfl, h2, vs, rfl, _⟩ := rel.sl i _ e
      rw [hr] at h1; cases h1
      exact ⟨a, vs, rfl, h2⟩
    · cases h
  | val d =>
    cases d with
    | ref n =>
      simp only [isL] at h
      have hr : DRep G Z ρ (.ref n) v := hr
      split at h
      · rename_i xs e
        cases hr with
        | ref ha =>
          obtain ⟨vs, h1, _⟩ := rel.hp n _ _ e ha
          exact ⟨_, vs, rfl, h1⟩
      · cases h
    | _ => cases h
theorem wr_read {m : Mw} {r : R} {l : Addr} {as : List D} (rel : Rel G Z F ρ s σ H ((r, .ref l) :: P)) (h : Goes G W Z F ρ σ P (wrR m r as s) Q) :
    ∃ xs vs ys d, H l = some (.lst vs) ∧ DReps G Z ρ xs vs ∧ wrD m xs as = some (ys, d) ∧ ∀ vs' v, DReps G Z ρ ys vs' → DRep G Z ρ d v → Q v (upd H l (.lst vs')) := by
  have hr := rel.head
  cases r with
  | own _ => exact h.elim
  | slot i =>
    have hr : σ[i]? = some (some (.ref l)) := hr
    simp only [wrR] at h
    split at h
    · rename_i xs e
      cases q : wrD m xs as with
      | none => rw [q] at h; exact h.elim
      | some p =>
        obtain ⟨ys, d⟩ := p
        rw [q] at h
        obtain ⟨v', h1, a, o, rfl, h2, vs, rfl, h3⟩ := rel.sl i _ e
        rw [hr] at h1; cases h1
        exact ⟨xs, vs, ys, d, h2, h3, q, fun vs' v g1 g2 => Goes.val h (rel.pop.setSlot e hr ⟨vs', rfl, g1⟩) g2⟩
    · exact h.elim
  | val d =>
    cases d with
    | ref n =>
      have hr : DRep G Z ρ (.ref n) (.ref l) := hr
      simp only [wrR] at h
      split at h
      · rename_i xs e
        cases q : wrD m xs as with
        | none => rw [q] at h; exact h.elim
        | some p =>
          obtain ⟨ys, d⟩ := p
          rw [q] at h
          cases hr with
          | ref ha =>
            obtain ⟨vs, h1, h2⟩ := rel.hp n _ _ e ha
            refine ⟨xs, vs, ys, d, h1, h2, q, fun vs' v g1 g2 => Goes.val h (rel.pop.writeHp ha h1 .lst (fun b u hb e hu => ?_) ⟨vs', upd_same, g1⟩) g2⟩
            rw [upd_ne hb]; exact e
      · exact h.elim
    | _ => exact h.elim
end
section
variable {X : Cx} {G : Cfg} {W : WX} {tb : Tb} {c : CallF} {k fi ci np i j : Nat} {g C : Addr} {x y : Str} {p p2 pos apos cpos px py pt pt2 : Pos} {e o a b : Expr} {io ie ia ib : E} {es : List Expr} {is : List E} {names : List Str}
theorem mw_read {n : Nat} {m : Mw} {σ : L2.St} {H : Hp} {Q : VK} (h : T G W (stepE (run tb c n) tb (.mw m io is)) σ H Q) :
    T G W ((run tb c n).ex io) σ H fun x H1 => ∃ l ws, x = .ref l ∧ H1 l = some (.lst ws) ∧ TV G W (exDs (run tb c n) is) σ H1 fun zs H2 => ∃ Z ρ ds xs vs ys d, DReps G Z ρ ds zs ∧ Same Z H2 ∧ H2 l = some (.lst vs) ∧ DReps G Z ρ xs vs ∧ wrD m xs ds = some (ys, d) ∧ ∀ vs' v, DReps G Z ρ ys vs' → DRep G Z ρ d v → Q v (upd H2 l (.lst vs')) := by
  obtain ⟨Z, F, ρ, s, P, rel, g⟩ := h
  refine goesX_bind [] rel (Goes.x g) fun v H1 r1 s1 Z1 ρ1 e1 p1 rel1 g1 => ?_
  by_cases hi : isL s1 r1 = true
  · simp only [hi, if_true] at g1
    obtain ⟨l, ws, rfl, hl⟩ := isL_at rel1 rel1.head hi
    refine ⟨l, ws, rfl, hl, ?_⟩
    refine goesX_vals [(r1, .ref l)] rel1 g1 fun zs H2 ds s2 Z2 ρ2 e2 p2 hd rel2 g2 => ?_
    obtain ⟨xs, vs, ys, d, h1, h2, h3, h4⟩ := wr_read rel2 (GoesX.g g2)
    exact ⟨Z2, ρ2, ds, xs, vs, ys, d, hd, rel2.zs, h1, h2, h3, h4⟩
  · simp only [hi] at g1; exact g1.elim
theorem TV.mono {m : S → Res (List D)} {σ : L2.St} {H : Hp} {Q Q' : List V → Hp → Prop} (h : TV G W m σ H Q) (k : ∀ v H', Q v H' → Q' v H') : TV G W m σ H Q' := by
  obtain ⟨Z, F, ρ, s, P, r, h⟩ := h
  refine ⟨Z, F, ρ, s, P, r, ?_⟩
  rcases e : m s with _ | ⟨_ | a, s'⟩
  · rw [e] at h; exact h
  · rw [e] at h; exact h
  · rw [e] at h
    exact fun H1 Z1 ρ1 e1 p1 vs hd r1 => k _ _ (h H1 Z1 ρ1 e1 p1 vs hd r1)
theorem ce_append (ho : CE X G W tb c o io) (ha : CDs X G W tb c [e] [ie]) (hbase : attributeBase o "append" X.env (eval o X.env) = eval o X.env := by rfl)
    (hfew : ((backTo cpos (starEach [e] X.env)).all (fun x => !x.1) && (backToKw cpos (keywordEach [] X.env)).all (fun x => x.1.isSome) && decide ([e].length + ([] : List Keyword).length + (if ([] : List Keyword).isEmpty then 0 else 1) < 30)) = true := by rfl)
    (hline : (apos.endLine == cpos.line) = true := by rfl) (hs : starEach [e] X.env = (false, eval e X.env) :: starEach [] X.env := by rfl) : CE X G W tb c (.Call (.Attribute o "append" apos) [e] [] cpos) (.mw .append io [ie]) := by
  refine ce_of (fun n => pe_bm F.plainAttrs_list F.slot_list_append F.type_list_append mt_append (ho n) (ha n) hbase hfew hline hs rfl) fun n σ H Q h => ?_
  refine T.mono (mw_read h) fun x H1 ⟨l, ws, ex, hl, h1⟩ => ⟨by subst ex; exact .inl ⟨rfl, ws, SqL.of hl⟩, TV.mono h1 fun zs H2 ⟨Z, ρ, ds, xs, vs, ys, d, hd, hz, h2, h3, h4, h5⟩ => ?_⟩
  unfold wrD at h4
  split at h4 <;> try contradiction
  · split at h4
    · rename_i hlt
      cases h4
      cases hd with
      | cons hd1 hd2 =>
        cases hd2
        exact ⟨l, vs, _, ex, rfl, h2, by rw [← h3.length]; exact hlt, h5 _ _ (h3.append (.one hd1)) .non⟩
    · cases h4
theorem ce_extend (ho : CE X G W tb c o io) (ha : CDs X G W tb c [e] [ie]) (hbase : attributeBase o "extend" X.env (eval o X.env) = eval o X.env := by rfl)
    (hfew : ((backTo cpos (starEach [e] X.env)).all (fun x => !x.1) && (backToKw cpos (keywordEach [] X.env)).all (fun x => x.1.isSome) && decide ([e].length + ([] : List Keyword).length + (if ([] : List Keyword).isEmpty then 0 else 1) < 30)) = true := by rfl)
    (hline : (apos.endLine == cpos.line) = true := by rfl) (hs : starEach [e] X.env = (false, eval e X.env) :: starEach [] X.env := by rfl) : CE X G W tb c (.Call (.Attribute o "extend" apos) [e] [] cpos) (.mw .extend io [ie]) := by
  refine ce_of (fun n => pe_bm F.plainAttrs_list F.slot_list_extend F.type_list_extend mt_extend (ho n) (ha n) hbase hfew hline hs rfl) fun n σ H Q h => ?_
  refine T.mono (mw_read h) fun x H1 ⟨l, ws, ex, hl, h1⟩ => ⟨by subst ex; exact .inl ⟨rfl, ws, SqL.of hl⟩, TV.mono h1 fun zs H2 ⟨Z, ρ, ds, xs, vs, ys, d, hd, hz, h2, h3, h4, h5⟩ => ?_⟩
  unfold wrD at h4
  split at h4 <;> try contradiction
  · split at h4
    · rename_i hlt
      cases h4
      cases hd with
      | cons hd1 hd2 =>
        cases hd2
        cases hd1 with
        | lst g1 g2 => exact ⟨l, _, vs, _, ex, rfl, h2, hz _ _ g1, by rw [← h3.length, ← g2.length]; exact hlt, h5 _ _ (h3.append g2) .non⟩
    · cases h4
theorem ce_pop (ho : CE X G W tb c o io) (hbase : attributeBase o "pop" X.env (eval o X.env) = eval o X.env := by rfl) (hline : (apos.endLine == cpos.line) = true := by rfl) : CE X G W tb c (.Call (.Attribute o "pop" apos) [] [] cpos) (.mw .pop io []) := by
  refine ce_of (fun n => pe_bm0 F.plainAttrs_list F.slot_list_pop F.type_list_pop mt_pop (ho n) hbase hline) fun n σ H Q h => ?_
  refine T.mono (mw_read h) fun x H1 ⟨l, ws, ex, hl, Z0, F0, ρ0, s0, P0, rel0, h1⟩ => ⟨by subst ex; exact .inl ⟨rfl, ws, SqL.of hl⟩, ?_⟩
  obtain ⟨Z, ρ, ds, xs, vs, ys, d, hd, hz, h2, h3, h4, h5⟩ := h1 H1 Z0 ρ0 (Same.refl _) (List.prefix_refl _) [] .nil rel0
  cases hd
  simp only [wrD] at h4
  split at h4
  · rename_i yy hy
    cases h4
    obtain ⟨v, g1, g2⟩ := h3.get hy
    rw [h3.length] at g1
    refine ⟨l, vs, v, ex, rfl, h2, g1, h5 _ _ ?_ g2⟩
    rw [List.dropLast_eq_take, List.dropLast_eq_take, h3.length]
    exact h3.take _
  · cases h4
/-! ### texts -/
theorem mt_read {n : Nat} {m : Mt} {σ : L2.St} {H : Hp} {Q : VK} (h : T G W (stepE (run tb c n) tb (.mt m io is)) σ H Q) :
    T G W ((run tb c n).ex io) σ H fun x H1 => ∃ z, x = .str z ∧ TAr G W (exs (run tb c n) is) σ H1 fun zs H2 => ∃ Z F ρ s P ds res, Rel G Z F ρ s σ H2 P ∧ NReps G Z ρ H2 zs ds ∧ mtD m z ds = some res ∧ Goes G W Z F ρ σ P (ok res s) Q := by
  obtain ⟨Z, F, ρ, s, P, rel, g⟩ := h
  refine goesX_bind [] rel (Goes.x g) fun v H1 r1 s1 Z1 ρ1 e1 p1 rel1 g1 => ?_
  unfold mtR at g1
  split at g1
  · rename_i z
    have hv := rel1.head
    cases hv
    refine ⟨z, rfl, goesX_args [(_, _)] rel1 g1 fun zs H2 rs s2 Z2 ρ2 e2 p2 hl rel2 g2 => ?_⟩
    replace g2 := GoesX.g g2
    unfold mtE at g2
    split at g2
    · rename_i ds hds
      cases q : mtD m z ds with
      | none => rw [q] at g2; exact g2.elim
      | some res =>
        rw [q] at g2
        refine ⟨Z2, F, ρ2, s2, P, ds, res, Rel.drop (_ ++ [(_, _)]) (by rw [List.append_assoc]; exact rel2), rel2.looks hl (fun x hx => ?_) hds, q, g2⟩
        exact List.mem_append_left _ (List.mem_reverse.mpr hx)
    · exact g2.elim
  · exact g1.elim
theorem TAr.mono {m : S → Res (List R)} {σ : L2.St} {H : Hp} {Q Q' : List V → Hp → Prop} (h : TAr G W m σ H Q) (k : ∀ v H', Q v H' → Q' v H') : TAr G W m σ H Q' := by
  obtain ⟨Z, F, ρ, s, P, r, h⟩ := h
  refine ⟨Z, F, ρ, s, P, r, ?_⟩
  rcases e : m s with _ | ⟨_ | a, s'⟩
  · rw [e] at h; exact h
  · rw [e] at h; exact h
  · rw [e] at h
    exact fun H1 Z1 ρ1 e1 p1 vs hl r1 => k _ _ (h H1 Z1 ρ1 e1 p1 vs hl r1)
theorem ce_strIndex (ho : CE X G W tb c o io) (ha : CA X G W tb c [e] [ie]) (hbase : attributeBase o "index" X.env (eval o X.env) = eval o X.env := by rfl)
    (hfew : ((backTo cpos (starEach [e] X.env)).all (fun x => !x.1) && (backToKw cpos (keywordEach [] X.env)).all (fun x => x.1.isSome) && decide ([e].length + ([] : List Keyword).length + (if ([] : List Keyword).isEmpty then 0 else 1) < 30)) = true := by rfl)
    (hline : (apos.endLine == cpos.line) = true := by rfl) (hs : starEach [e] X.env = (false, eval e X.env) :: starEach [] X.env := by rfl) : CE X G W tb c (.Call (.Attribute o "index" apos) [e] [] cpos) (.mt .strIndex io [ie]) := by
  refine ce_of (fun n => pe_bm F.plainAttrs_str F.slot_str_index F.type_str_index mt_sindex (ho n) (ha n) hbase hfew hline hs rfl) fun n σ H Q h => ?_
  refine T.mono (mt_read h) fun x H1 ⟨z, ex, h1⟩ => ⟨by subst ex; rfl, TAr.mono h1 fun zs H2 ⟨Z, F, ρ, s, P, ds, res, rel, hd, h4, h5⟩ => ?_⟩
  unfold mtD at h4
  split at h4 <;> try contradiction
  · split at h4
    · rename_i i rest hq
      cases h4
      cases hd with
      | cons hd1 hd2 =>
        cases hd2
        cases hd1 with
        | str _ _ _ => exact ⟨z, _, i, rest, ex, rfl, hq, Goes.val h5 rel (.int _)⟩
    · cases h4
theorem strs_rep {Z : Hp} {ρ : List Addr} : ∀ {xs : List D} {ys : List Str} {vs : List V}, strsOf xs = some ys → DReps G Z ρ xs vs → vs = ys.map V.str
  | [], ys, vs, h, hd => by cases h; cases hd; rfl
  | d :: ds, ys, vs, h, hd => by
    cases hd with
    | cons h1 h2 =>
      cases d with
      | str z =>
        simp only [strsOf] at h
        cases q : strsOf ds with
        | none => rw [q] at h; cases h
        | some zs =>
          rw [q] at h; cases h
          cases h1
          rw [strs_rep q h2]; rfl
      | _ => cases h
theorem ce_join (ho : CE X G W tb c o io) (ha : CA X G W tb c [e] [ie]) (hbase : attributeBase o "join" X.env (eval o X.env) = eval o X.env := by rfl)
    (hfew : ((backTo cpos (starEach [e] X.env)).all (fun x => !x.1) && (backToKw cpos (keywordEach [] X.env)).all (fun x => x.1.isSome) && decide ([e].length + ([] : List Keyword).length + (if ([] : List Keyword).isEmpty then 0 else 1) < 30)) = true := by rfl)
    (hline : (apos.endLine == cpos.line) = true := by rfl) (hs : starEach [e] X.env = (false, eval e X.env) :: starEach [] X.env := by rfl) : CE X G W tb c (.Call (.Attribute o "join" apos) [e] [] cpos) (.mt .join io [ie]) := by
  refine ce_of (fun n => pe_bm F.plainAttrs_str F.slot_str_join F.type_str_join mt_join (ho n) (ha n) hbase hfew hline hs rfl) fun n σ H Q h => ?_
  refine T.mono (mt_read h) fun x H1 ⟨z, ex, h1⟩ => ⟨by subst ex; rfl, TAr.mono h1 fun zs H2 ⟨Z, F, ρ, s, P, ds, res, rel, hd, h4, h5⟩ => ?_⟩
  unfold mtD at h4
  split at h4 <;> try contradiction
  · split at h4
    · rename_i xs _ ys hq
      split at h4
      · rename_i hc
        cases h4
        cases hd with
        | cons hd1 hd2 =>
          cases hd2
          obtain ⟨l, vs, rfl, g1, g2⟩ := hd1
          have := strs_rep hq g2
          subst this
          exact ⟨z, l, ys, ex, rfl, .inl (SqL.of g1), hc.1, Goes.val h5 rel (.str _ hc.2.1 hc.2.2)⟩
      · cases h4
    · cases h4
theorem strs_lay {Z : Hp} {ρ : List Addr} : ∀ {ys : List Str}, ys.all (fun x => PySem.PyData.canLay0 (.str x) && decide (x.length ≤ LIM)) = true → DReps G Z ρ (ys.map D.str) (ys.map V.str)
  | [], _ => .nil
  | y :: ys, h => by
    simp only [List.all_cons, Bool.and_eq_true, decide_eq_true_eq] at h
    exact .cons (.str _ h.1.1 h.1.2) (strs_lay h.2)
theorem ce_split (ho : CE X G W tb c o io) (ha : CA X G W tb c [e] [ie]) (hbase : attributeBase o "split" X.env (eval o X.env) = eval o X.env := by rfl)
    (hfew : ((backTo cpos (starEach [e] X.env)).all (fun x => !x.1) && (backToKw cpos (keywordEach [] X.env)).all (fun x => x.1.isSome) && decide ([e].length + ([] : List Keyword).length + (if ([] : List Keyword).isEmpty then 0 else 1) < 30)) = true := by rfl)
    (hline : (apos.endLine == cpos.line) = true := by rfl) (hs : starEach [e] X.env = (false, eval e X.env) :: starEach [] X.env := by rfl) : CE X G W tb c (.Call (.Attribute o "split" apos) [e] [] cpos) (.mt .split io [ie]) := by
  refine ce_of (fun n => pe_bm F.plainAttrs_str F.slot_str_split F.type_str_split mt_split (ho n) (ha n) hbase hfew hline hs rfl) fun n σ H Q h => ?_
  refine T.mono (mt_read h) fun x H1 ⟨z, ex, h1⟩ => ⟨by subst ex; rfl, TAr.mono h1 fun zs H2 ⟨Z, F, ρ, s, P, ds, res, rel, hd, h4, h5⟩ => ?_⟩
  unfold mtD at h4
  split at h4 <;> try contradiction
  split at h4
  · rename_i hc
    cases h4
    cases hd with
    | cons hd1 hd2 =>
      cases hd2
      cases hd1 with
      | str _ _ _ => exact ⟨z, _, ex, rfl, hc.1, hc.2.1, fun p hp => Goes.lst h5 rel (strs_lay hc.2.2) hp⟩
  · cases h4
/-! ### statements -/
theorem cs_wall {st : Stmt} : CS X G W tb c st .wall := cs_of (t := fun _ _ _ _ => False) (fun _ => ⟨fun _ _ _ _ _ _ h => h.elim⟩) fun n Dn σ H ⟨_, _, _, _, _, _, _, g⟩ => g
theorem nmR_store {Z F H : Hp} {ρ : List Addr} {s s' : S} {σ : L2.St} {P : List (R × V)} {r : R} {v : V} {i : Nat} (rel : Rel G Z F ρ s σ H ((r, v) :: P)) (ns : NoSlot P) (h : nmR i r s = some s') : Rel G Z F ρ s' (σ.set i (some v)) H P ∧ ∀ j, r ≠ .slot j := by
  unfold nmR at h
  split at h
  · rename_i y hy
    split at h
    · rename_i hl
      cases h
      exact ⟨rel.store (by rw [← rel.slen]; exact hl) hy ns, fun j z => by subst z; cases hy⟩
    · cases h
  · cases h
theorem nmR_ns {i : Nat} {r : R} {s s' : S} (h : nmR i r s = some s') : ∀ j, r ≠ .slot j := fun j z => by subst z; cases h
theorem cs_asg2 {kt k2 : Nat} (hc : X.calm = true) (hN : X.N.Nodup) (hi : X.N[i]? = some x) (hj : X.N[j]? = some y) (hij : i ≠ j) (hx : X.env.scope.names.lookup x = some .local) (hy : X.env.scope.names.lookup y = some .local) (ha : CA X G W tb c [a, b] [ia, ib])
    (hw : swappedStores [.Tuple [.Name x px, .Name y py] kt pt] (.Tuple [a, b] k2 pt2) X.env = pure (some [x, y])) (hs : swapsWithSole [.Tuple [.Name x px, .Name y py] kt pt] (.Tuple [a, b] k2 pt2) pos.line X.env = pure false := by rfl) :
    CS X G W tb c (.Assign [.Tuple [.Name x px, .Name y py] kt pt] (.Tuple [a, b] k2 pt2) pos) (.asg2 i j ia ib) := by
  refine cs_of (fun n => ps_par hc hN hi hj hij hx hy (ha n) hw hs) fun n Dn σ H ⟨Z, F, ρ, s, P, ns, rel, g⟩ => ?_
  refine goesS_args [] rel g fun vs H1 rs s1 Z1 ρ1 e1 p1 hl rel1 g1 => ?_
  split at g1
  · rename_i ra rb
    obtain ⟨v, w, rfl⟩ : ∃ v w, vs = [v, w] := by
      match vs, hl with
      | [v, w], _ => exact ⟨v, w, rfl⟩
    refine ⟨v, w, rfl, ?_⟩
    unfold asg2R at g1
    cases q : nmR j rb s1 with
    | none => rw [q] at g1; exact g1.elim
    | some s2 =>
      rw [q] at g1
      cases q2 : nmR i ra s2 with
      | none => simp only [q2] at g1; exact g1.elim
      | some s3 =>
        simp only [q2] at g1
        have nsa : NoSlot ((ra, v) :: P) := fun m k u e => by
          cases m with
          | zero => simp at e; exact nmR_ns q2 k e.1
          | succ m => exact ns m k u (by simpa using e)
        have rel2 := (nmR_store (P := (ra, v) :: P) rel1 nsa q).1
        have rel3 := (nmR_store rel2 ns q2).1
        rw [List.set_comm _ _ (Ne.symm hij)] at rel3
        exact GoesS.next g1 rel3
  · exact g1.elim
theorem ce_globI {v : Int} {t : Tok} (hg : Gl X x) (hm : X.mg x = some (.int v t)) (hd : (x == ("__debug__" : Str)) = false := by decide) : CE X G W tb c (.Name x pos) (.cst (.int v)) := ce_const (pe_glob (v := .int v) hg hm ⟨t, rfl⟩ hd) fun _ _ => .int v
theorem ce_globS {v : Str} {t : Tok} (hg : Gl X x) (hm : X.mg x = some (.str v t)) (h1 : PySem.PyData.canLay0 (.str v) = true := by decide +kernel) (h2 : v.length ≤ sizeLine := by decide +kernel) (hd : (x == ("__debug__" : Str)) = false := by decide) : CE X G W tb c (.Name x pos) (.cst (.str v)) := ce_const (pe_glob (v := .str v) hg hm ⟨t, rfl⟩ hd) fun _ _ => .str v h1 h2
end
end Ri

set_option maxRecDepth 100000
/-! Ri, part Z: more statements, the head's facts, the end. -/
namespace Ri
open PySem PySem.Spec PyProof.Rows L2 He
section
variable {X : Cx} {G : Cfg} {W : WX} {tb : Tb} {c : CallF} {k ci : Nat} {C : Addr} {fl : Str} {p pos apos tpos : Pos} {e o : Expr} {io ie : E} {names : List Str}
/-- o.f += e, ints -/
theorem cs_augfld {op : Operator} {bo : Bin} {rd : V → V → Hp → VK → Prop} (hop : InOp X op rd) (hrd : ∀ (x y z : Int) (H : Hp) (Q : VK), augI bo x y = some z → Q (.int z) H → rd (.int x) (.int y) H Q)
    (ho : CE X G W tb c o io) (hv : CE X G W tb c e ie) (cl : PCls G X ci C names) (hno : NoAttr X.K C fl) (hk : names[k]? = some fl) : CS X G W tb c (.AugAssign (.Attribute o fl tpos) op e pos) (.aug bo (.fld ci k io) ie) := by
  refine cs_of (fun n => ps_fldaug (ho n) (hv n) hop) fun n Dn σ H ⟨Z, F, ρ, s, P, ns, rel, g⟩ => ?_
  replace g : GoesS G W Z F ρ P (bd ((run tb c n).ex io s) fun ra s => augA (run tb c n) bo ci k ie ra s) Dn := g
  refine goesS_bind [] rel g fun v H1 r1 s1 Z1 ρ1 e1 p1 rel1 g1 => ?_
  unfold augA at g1
  split at g1
  · rename_i nn
    cases q : getF s1 ci k (.ref nn) with
    | none => rw [q] at g1; exact g1.elim
    | some dx =>
      rw [q] at g1
      cases dx with
      | int xi =>
        obtain ⟨a, vs, y, rfl, hI, hy, hd⟩ := getF_at rel1 rel1.head rfl q
        cases hd
        obtain ⟨_, dx, fs, h1, _, _, h3⟩ := cl.ins hI
        refine ⟨a, C, dx, fs, _, rfl, h1, cl.cls, hno, by rw [h3 k fl hk, hy]; rfl, ?_⟩
        refine goesS_bind [(_, _)] rel1 g1 fun w H2 r2 s2 Z2 ρ2 e2 p2 rel2 g2 => ?_
        unfold augF at g2
        cases q2 : look s2 r2 with
        | none => rw [q2] at g2; exact g2.elim
        | some dy =>
          rw [q2] at g2
          have ny := rel2.look rel2.head q2
          cases dy with
          | int yi =>
            cases ny
            simp only at g2
            cases q3 : augI bo xi yi with
            | none => rw [q3] at g2; exact g2.elim
            | some z =>
              rw [q3] at g2
              simp only at g2
              cases q4 : s2.hp[nn]? with
              | none => rw [q4] at g2; exact g2.elim
              | some ob =>
                rw [q4] at g2
                cases ob with
                | lst _ => exact g2.elim
                | tab _ => exact g2.elim
                | ins c' gs =>
                  by_cases hc : ci = c' ∧ k < gs.length
                  · simp only [if_pos hc] at g2
                    obtain ⟨rfl, _⟩ := hc
                    have hr : DRep G Z2 ρ2 (.ref nn) (.ref a) := rel2.second
                    cases hr with
                    | ref ha =>
                      obtain ⟨us, k1, _, _⟩ := rel2.hp nn _ _ q4 ha
                      obtain ⟨_, dx2, gs2, hg, _⟩ := cl.ins k1
                      obtain ⟨hlt, rel3⟩ := cl.store (fl := fl) (rel2.pop.pop) ha q4 hg hk (.int z)
                      exact hrd xi yi z H2 _ q3 ⟨dx2, gs2, hg, hlt, GoesS.next g2 rel3⟩
                  · simp only [if_neg hc] at g2; exact g2.elim
          | _ => exact g2.elim
      | _ => exact g1.elim
  · exact g1.elim
theorem cs_incfld (ho : CE X G W tb c o io) (hv : CE X G W tb c e ie) (cl : PCls G X ci C names) (hno : NoAttr X.K C fl) (hk : names[k]? = some fl) : CS X G W tb c (.AugAssign (.Attribute o fl tpos) .Add e pos) (.aug .add (.fld ci k io) ie) :=
  cs_augfld in_add (fun x y z H Q h q => ⟨x, y, rfl, rfl, by cases h; exact q⟩) ho hv cl hno hk
end
/-! ### tests by own operators -/
section
variable {X : Cx} {G : Cfg} {W : WX} {tb : Tb} {c : CallF} {k fi ci np : Nat} {g C : Addr} {pos : Pos} {a b : Expr} {ia ib : E} {names : List Str} {x : Str}
theorem ct_une (cl : SlCls G X ci C names) (hs : PySem.W.findIn X.K (.ref C) "__ne__" = some (some (.builtin "object.__ne__"))) (he : PySem.W.findIn X.K (.ref C) "__eq__" = some (some (.ref g))) (hf : PySem.W.isFn X.K (.ref g) = true) (hm : PySem.W.mroIn X.K C (.type "object") = some true) (hnf : PySem.W.notFirst X.K C (.ref C) = true)
    (F : FnR X.prog X.w X.K X.mg X.base (CX X.prog X.w) k g (spD G c fi np)) (hn : NpOk c fi np) (hr : Room (k + 1) X.A) (ha : CE X G W tb c a ia) (hb : CE X G W tb c b ib) : CT X G W tb c (.Compare a [.NotEq] [b] pos) (.ucmp true ci fi ia ib) := by
  refine ct_of (fun n => pt_cmpR (op_neOwn (C := C) hs he hf hm F hr) (ha n) (hb n) (nomark b)) fun n σ H Q h => ?_
  exact T.mono (ucmp_read cl hn h) fun x H1 h1 => T.mono h1 fun y H2 ⟨a, dx, vs, b, dy, ws, ex, ey, h3, h4, h5⟩ => ⟨a, dx, vs, b, C, dy, ws, ex, ey, h3, h4, hnf, h5⟩
theorem ce_globI' {v : Int} (hg : Gl X x) (hm : ∃ t, X.mg x = some (.int v t)) (hd : (x == ("__debug__" : Str)) = false := by decide) : CE X G W tb c (.Name x pos) (.cst (.int v)) := by
  obtain ⟨t, hm⟩ := hm
  exact ce_globI hg hm hd
theorem ce_globS' {v : Str} (hg : Gl X x) (hm : ∃ t, X.mg x = some (.str v t)) (h1 : PySem.PyData.canLay0 (.str v) = true := by decide +kernel) (h2 : v.length ≤ sizeLine := by decide +kernel) (hd : (x == ("__debug__" : Str)) = false := by decide) : CE X G W tb c (.Name x pos) (.cst (.str v)) := by
  obtain ⟨t, hm⟩ := hm
  exact ce_globS hg hm h1 h2 hd
end
/-- a look at a comprehension's names -/
def blkC (N : List Str) (sc scope : Scope) (own : List (Str × Nat)) : Bool :=
  decide (scope.kind = .function) && (scope.names.all (fun y => decide (scope.names.lookup y.1 = some y.2)) && (own.all (fun p => decide (N[p.2]? = some p.1)) && (scope.names.all (fun y => !decide (y.2 = .free) || (decide (sc.names.lookup y.1 = some .cell) || decide (sc.names.lookup y.1 = some .free))) &&
    scope.names.all (fun y => !(decide (y.2 = .local) || decide (y.2 = .cell)) || (decide (y.1 ∈ own.map (·.1)) || !decide (y.1 ∈ N))))))
theorem blk_by {N : List Str} {sc scope : Scope} {own : List (Str × Nat)} (h : blkC N sc scope own = true) : BlkOk N sc scope own := by
  unfold blkC at h
  simp only [Bool.and_eq_true, Bool.not_eq_true', decide_eq_true_eq, List.all_eq_true, Bool.or_eq_true, decide_eq_false_iff_not] at h
  obtain ⟨h1, h2, h3, h4, h5⟩ := h
  refine ⟨h1, h2, h3, fun y hy e => (h4 y hy).resolve_left (fun z => z e), fun y hy e => ?_⟩
  rcases h5 y hy with z | z
  · rw [Bool.or_eq_false_iff] at z
    simp only [decide_eq_false_iff_not] at z
    rcases e with e | e
    · exact absurd e z.1
    · exact absurd e z.2
  · exact z
/-! ### the head's facts -/
/-- a def at an address -/
structure Dn where
  ad : PySem.W.Frag → Addr
  name : Str
  qual : Str
  st : Stmt
def Dn.see (K : PySem.W.Frag) (d : Dn) : FnW := match K.lookup (d.ad K) with
  | some ⟨_, _, .func fd, _⟩ => some (fd.name, fd.qualname, fd.params, fd.body, fd.scope, fd.globals, fd.closure, fd.builtins)
  | _ => none
def Dn.due (d : Dn) : FnW := some (d.name, d.qual, defArgs d.st, .stmts (defBody d.st), defScope d.st, mainGlobals, [], builtinsNs)
def Dn.ok (K : PySem.W.Frag) (d : Dn) : Bool := PySem.W.keepIn K (.ref (d.ad K)) && (PySem.W.isFn K (.ref (d.ad K)) && (match K.lookup (d.ad K) with
  | some ⟨_, _, .func fd, _⟩ => PySem.W.codeIn K fd.code d.qual && decide (fd.defaults = .none)
  | _ => false))
theorem Dn.fn {K : PySem.W.Frag} {d : Dn} (e : d.see K = d.due) (h : d.ok K = true) : (∃ fd, FunD K d.name d.qual (defArgs d.st) (defBody d.st) (defScope d.st) [] [] (d.ad K) fd) ∧ PySem.W.keepIn K (.ref (d.ad K)) = true ∧ PySem.W.isFn K (.ref (d.ad K)) = true := by
  obtain ⟨kp, h2⟩ := ba h
  obtain ⟨fn, h3⟩ := ba h2
  refine ⟨?_, kp, fn⟩
  unfold Dn.see at e
  split at e
  · rename_i oc od fd osl q
    rw [q] at h3
    obtain ⟨hc, h4⟩ := ba h3
    obtain ⟨a1, a2, a3, a4, a5, a6, a7, a8, a9, a10, a11, a12, a13, a14, a15⟩ := fd
    unfold Dn.due at e
    simp only [Option.some.injEq, Prod.mk.injEq] at e
    obtain ⟨q1, q2, q3, q4, q5, q6, q7, q8⟩ := e
    subst q1 q2 q3 q4 q5 q6 q7 q8
    exact ⟨_, ⟨oc, od, a8, a9, a10, a11, a12, a13, a14, osl, rfl, q, hc, .inl ⟨rfl, of_decide_eq_true h4⟩, .inl rfl⟩, kp⟩
  · cases e
def seeR (fa : List Fa) (dn : List Dn) (ex : PySem.W.Frag → Bool) (K : PySem.W.Frag) : AlD := ((fa.all fun f => f.ok K) && ((dn.all fun d => d.ok K) && ex K), dn.map fun d => d.see K)
def dueR (dn : List Dn) : AlD := (true, dn.map Dn.due)
def obsR (n : Nat) (fa : List Fa) (dn : List Dn) (ex : PySem.W.Frag → Bool) (g : Addr → Option Obj) : AlD := seeR fa dn ex (frG g (asD g n))
def hookR (n : Nat) (fa : List Fa) (dn : List Dn) (ex : PySem.W.Frag → Bool) : PySem.W.Hook where
  α := AlD
  obs := fun s => obsR n fa dn ex s.heap.get?
  val := fun _ => dueR dn
  says := fun _ h => ∃ K : PySem.W.Frag, K.In h ∧ seeR fa dn ex K = dueR dn
  of := fun _ s e => ⟨frG s.heap.get? (asD s.heap.get? n), frG_in, e⟩
  keeps := fun _ _ _ ⟨K, hK, c⟩ k => ⟨K, PySem.W.Frag.In.keeps hK k, c⟩
theorem obsR_eq {n : Nat} {fa : List Fa} {dn : List Dn} {ex : PySem.W.Frag → Bool} {g : Addr → Option Obj} {s : Shared} (h : ∀ a, g a = s.heap.get? a) : obsR n fa dn ex g = (hookR n fa dn ex).obs s := by
  have e : g = s.heap.get? := funext h
  rw [e] <;> rfl
section
variable {fa : List Fa} {dn : List Dn} {ex : PySem.W.Frag → Bool} {K : PySem.W.Frag}
theorem says_fact (c : seeR fa dn ex K = dueR dn) {f : Fa} (i : Nat) (h : fa[i]? = some f) : f.ok K = true :=
  List.all_eq_true.mp (ba (show ((fa.all fun f => f.ok K) && ((dn.all fun d => d.ok K) && ex K)) = true from congrArg Prod.fst c)).1 f (List.mem_of_getElem? h)
theorem says_ex (c : seeR fa dn ex K = dueR dn) : ex K = true := (ba (ba (show ((fa.all fun f => f.ok K) && ((dn.all fun d => d.ok K) && ex K)) = true from congrArg Prod.fst c)).2).2
theorem says_def (c : seeR fa dn ex K = dueR dn) {d : Dn} (i : Nat) (h : dn[i]? = some d) : (∃ fd, FunD K d.name d.qual (defArgs d.st) (defBody d.st) (defScope d.st) [] [] (d.ad K) fd) ∧ PySem.W.keepIn K (.ref (d.ad K)) = true ∧ PySem.W.isFn K (.ref (d.ad K)) = true := by
  have e : dn.map (fun d => d.see K) = dn.map Dn.due := congrArg Prod.snd c
  have e2 : (dn.map fun d => d.see K)[i]? = (dn.map Dn.due)[i]? := by rw [e]
  rw [List.getElem?_map, List.getElem?_map, h] at e2
  exact Dn.fn (Option.some.inj e2) (List.all_eq_true.mp (ba (ba (show ((fa.all fun f => f.ok K) && ((dn.all fun d => d.ok K) && ex K)) = true from congrArg Prod.fst c)).2).1 d (List.mem_of_getElem? h))
end
/-- a class with slots -/
def sclsB (K : PySem.W.Frag) (x : Str) : Bool := PySem.W.plainGet K (ga K x) Str.empty && (PySem.W.isClsIn K (ga K x) && (PySem.W.plainOver K (ga K x) && eqO (PySem.W.findIn K (.ref (ga K x)) "__setattr__") (some (some (.builtin "object.__setattr__")))))
theorem sclsB_ok {K : PySem.W.Frag} {x : Str} (h : sclsB K x = true) : SlX.SCls K (ga K x) := by
  obtain ⟨h1, h2⟩ := ba h
  obtain ⟨h3, h4⟩ := ba h2
  obtain ⟨h5, h6⟩ := ba h4
  exact ⟨h1, h3, h5, eqO_ok h6⟩
def slotB (K : PySem.W.Frag) (x f : Str) (i : Nat) : Bool :=
  eqO (PySem.W.findIn K (.ref (ga K x)) f) (some (some (.ref (ma K (ga K x) f)))) && (eqO (PySem.W.specialIn K (.ref (ma K (ga K x) f)) "__get__") (some (some (.builtin "member_descriptor.__get__"))) &&
    (decide (PySem.W.takesIn K (.ref (ma K (ga K x) f)) = some true) && (decide (PySem.W.typeIn K (.ref (ma K (ga K x) f)) = some (.type "member_descriptor")) && (decide (PySem.W.slotIn K (ma K (ga K x) f) (ga K x) = some i) && decide (i < 1000)))))
theorem slotB_ok {K : PySem.W.Frag} {x f : Str} {i : Nat} (h : slotB K x f i = true) : SlX.Slot1 K (ga K x) f (ma K (ga K x) f) i := by
  obtain ⟨h1, h2⟩ := ba h
  obtain ⟨h3, h4⟩ := ba h2
  obtain ⟨h5, h6⟩ := ba h4
  obtain ⟨h7, h8⟩ := ba h6
  obtain ⟨h9, h10⟩ := ba h8
  exact ⟨eqO_ok h1, eqO_ok h3, of_decide_eq_true h5, of_decide_eq_true h7, of_decide_eq_true h9, of_decide_eq_true h10⟩
def recG (K : PySem.W.Frag) (p : Addr) : Addr := match PySem.W.recIn K p "property" with
  | some (.ref g :: _) => g
  | _ => 0
def propB (K : PySem.W.Frag) (x f : Str) : Bool :=
  eqO (PySem.W.findIn K (.ref (ga K x)) f) (some (some (.ref (ma K (ga K x) f)))) && (eqO (PySem.W.specialIn K (.ref (ma K (ga K x) f)) "__get__") (some (some (.builtin "property.__get__"))) &&
    (decide (PySem.W.takesIn K (.ref (ma K (ga K x) f)) = some true) && (match PySem.W.recIn K (ma K (ga K x) f) "property" with
      | some (.ref _ :: _) => true
      | _ => false)))
theorem propB_ok {K : PySem.W.Frag} {x f : Str} (h : propB K x f = true) : PySem.W.findIn K (.ref (ga K x)) f = some (some (.ref (ma K (ga K x) f))) ∧ PySem.W.specialIn K (.ref (ma K (ga K x) f)) "__get__" = some (some (.builtin "property.__get__")) ∧
    PySem.W.takesIn K (.ref (ma K (ga K x) f)) = some true ∧ ∃ rest, PySem.W.recIn K (ma K (ga K x) f) "property" = some (.ref (recG K (ma K (ga K x) f)) :: rest) := by
  obtain ⟨h1, h2⟩ := ba h
  obtain ⟨h3, h4⟩ := ba h2
  obtain ⟨h5, h6⟩ := ba h4
  refine ⟨eqO_ok h1, eqO_ok h3, of_decide_eq_true h5, ?_⟩
  unfold recG
  split at h6
  · rename_i g r e
    exact ⟨r, by rw [e]⟩
  · cases h6
def sisiB (K : PySem.W.Frag) (x : Str) : Bool := eqO (PySem.W.findIn K (.ref (ga K x)) "__class__") (some (some (.builtin "object.__class__"))) && (eqO (PySem.W.specialIn K (.builtin "object.__class__") "__get__") (some (some (.builtin "getset_descriptor.__get__"))) &&
  (decide (PySem.W.takesIn K (.builtin "object.__class__") = some true) && (decide (PySem.W.mroIn K (ga K x) (.type "object") = some true) && (decide (PySem.W.kitOne K (.ref (ga K x)) (.ref (ga K x)) = some true) && PySem.W.notFirst K (ga K x) (.ref (ga K x))))))
theorem sisiB_ok {K : PySem.W.Frag} {x : Str} (h : sisiB K x = true) : SlX.SIsi K (ga K x) ∧ PySem.W.kitOne K (.ref (ga K x)) (.ref (ga K x)) = some true ∧ PySem.W.notFirst K (ga K x) (.ref (ga K x)) = true := by
  obtain ⟨h1, h2⟩ := ba h
  obtain ⟨h3, h4⟩ := ba h2
  obtain ⟨h5, h6⟩ := ba h4
  obtain ⟨h7, h8⟩ := ba h6
  obtain ⟨h9, h10⟩ := ba h8
  exact ⟨⟨eqO_ok h1, eqO_ok h3, of_decide_eq_true h5, of_decide_eq_true h7⟩, of_decide_eq_true h9, h10⟩
/-- a name of the class that is a built-in's -/
def bltB (K : PySem.W.Frag) (x f : Str) (id : String) : Bool := eqO (PySem.W.findIn K (.ref (ga K x)) f) (some (some (.builtin id)))
/-! ### the end -/
theorem ints_rep2 {G : Cfg} {Z : Hp} {ρ : List Addr} : ∀ {ns : List Int}, DReps G Z ρ (ns.map D.int) (ns.map V.int)
  | [] => .nil
  | n :: _ => .cons (.int n) ints_rep2
theorem law_startT {G : Cfg} {c : CallF} {f : Nat} {H : Hp} {a : Addr} {ns : List Int} (qs : List Str) (hnd : (qs.map G.tabP).Nodup) (hT : ∀ q ∈ qs, H (G.tabP q) = some (.tbl #[])) (hS : SqL G.K H a (ns.map V.int)) (h : ∃ hp', c f [.val (.klst (ns.map D.int))] (qs.map .tab) = some (.ok (.val (.bl true)), hp')) : spD G c f 1 [.ref a] H (fun v _ => v = .bl true) fun _ _ _ => False := by
  obtain ⟨hp', h⟩ := h
  have key : ∃ Z : Hp, Same Z H ∧ SqL G.K Z a (ns.map V.int) ∧ (∀ b x, Z b ≠ some (.own x)) ∧ ∀ b ps, Z b ≠ some (.tbl ps) := by
    rcases hS with hS | hS
    · refine ⟨fun b => if b = a then H a else none, fun b o e => ?_, .inl ?_, fun b x e => ?_, fun b x e => ?_⟩
      · by_cases hb : b = a
        · subst hb; simpa using e
        · simp [hb] at e
      · rcases hS with z | ⟨o, z⟩
        · exact .inl (by simpa using z)
        · exact .inr ⟨o, by simpa using z⟩
      all_goals
        by_cases hb : b = a
        · subst hb
          rcases hS with z | ⟨o, z⟩
          · simp [z] at e
          · simp [z] at e
        · simp [hb] at e
    · exact ⟨fun _ => none, ⟨fun b o e => (nomatch e), .inr hS, fun b x e => (nomatch e), fun b x e => (nomatch e)⟩⟩
  obtain ⟨Z, z1, z2, z3, z4⟩ := key
  refine ⟨rfl, Z, fun _ => none, qs.map G.tabP, [.val (.klst (ns.map D.int))], qs.map .tab, ?_, ?_⟩
  · have own : ∀ b w, Owns (qs.map G.tabP) ([SV.val (.klst (ns.map D.int))].map some) ([V.ref a].map some) [] b w → ∃ i, w = .hp i ∧ (qs.map G.tabP)[i]? = some b := fun b w h => by
      cases w with
      | hp i => exact ⟨i, rfl, h⟩
      | sl i =>
        obtain ⟨⟨cc, h⟩, _⟩ := h
        cases i <;> simp at h
      | pd i => obtain ⟨cc, h⟩ := h; simp at h
    refine ⟨z1, fun b o e => (nomatch e), by simp, fun i o b h1 h2 => ?_, rfl, fun i x h => ?_, fun i x v h => by simp at h, fun b w w' h1 h2 => ?_, fun b w h1 => ⟨?_, rfl⟩, fun b x => ⟨fun e => absurd e (z3 b x), ⟨by simp, by simp⟩, .inr rfl⟩, fun b => ⟨z4 b, fun o e => (nomatch e)⟩⟩
    · rw [List.getElem?_map] at h1 h2
      cases hq : qs[i]? with
      | none => rw [hq] at h1; cases h1
      | some q =>
        rw [hq] at h1 h2
        cases h1
        cases h2
        exact ⟨rfl, #[], hT q (List.mem_of_getElem? hq), True.intro, fun pos cv hc => by simp [codeAmong] at hc⟩
    · cases i with
      | zero =>
        simp at h
        subst h
        exact ⟨.ref a, rfl, .klst z2 ints_rep2 ⟨ns, rfl, rfl⟩⟩
      | succ i => simp at h
    · obtain ⟨i, rfl, g1⟩ := own b w h1
      obtain ⟨j, rfl, g2⟩ := own b w' h2
      obtain ⟨l1, e1⟩ := List.getElem?_eq_some_iff.mp g1
      obtain ⟨l2, e2⟩ := List.getElem?_eq_some_iff.mp g2
      have hij : i = j := by
        rcases Nat.lt_trichotomy i j with g | g | g
        · exact absurd (e1.trans e2.symm) ((List.pairwise_iff_getElem.mp hnd) i j l1 l2 g)
        · exact g
        · exact absurd (e2.trans e1.symm) ((List.pairwise_iff_getElem.mp hnd) j i l2 l1 g)
      rw [hij]
    · obtain ⟨i, rfl, g1⟩ := own b w h1
      cases e : Z b with
      | none => rfl
      | some o =>
        have := z1 _ _ e
        rw [List.getElem?_map] at g1
        cases hq : qs[i]? with
        | none => rw [hq] at g1; cases g1
        | some q =>
        rw [hq] at g1
        cases g1
        rw [hT q (List.mem_of_getElem? hq)] at this
        cases this
        exact absurd e (z4 _ _)
  · rw [h]
    intro v H' Z' ρ' e p r'
    have := r'.head
    cases this
    rfl
theorem law_start {G : Cfg} {c : CallF} {f : Nat} {H : Hp} {a : Addr} {ns : List Int} (hS : SqL G.K H a (ns.map V.int)) (h : ∃ hp', c f [.val (.klst (ns.map D.int))] [] = some (.ok (.val (.bl true)), hp')) : spD G c f 1 [.ref a] H (fun v _ => v = .bl true) fun _ _ _ => False :=
  law_startT [] List.nodup_nil (fun _ z => nomatch z) hS h
end Ri

set_option maxRecDepth 100000
/-! Rx, part A: exceptions are made and raised. -/
namespace Ri
open PySem PySem.Spec PyProof.Rows L2
section
variable {X : Cx} {e : Expr} {es : List Expr} {ta : TA} {p1 p2 pos : Pos}
/-- B.__init__(self, ..) where B is an own class that has none of its own -/
theorem pe_soinit {x : Str} {B : Addr} {mc : Value} {pl : Sem Bool} (hg : Gl X x) (hm : X.mg x = some (.ref B)) (rd : ClX.CRead X.K B mc) (hv : PySem.W.findCls X.K (.ref B) mc "__init__" = some (.val (.builtin "ValueError.__init__"))) (ha : PA X (e :: es) ta)
    (hdb : (x == ("__debug__" : Str)) = false := by decide)
    (hc : eval (.Call (.Attribute (.Name x p1) "__init__" p2) (e :: es) [] pos) X.env = (do
      let ov ← eval (.Name x p1) X.env
      standAt p2.atName
      let (f, first) ← holding [ov] (getMethod ov "__init__" pl)
      callWith pos f first (backTo pos (starEach (e :: es) X.env)) (backToKw pos (keywordEach [] X.env))) := by rfl)
    (he : starEach (e :: es) X.env = (false, eval e X.env) :: starEach es X.env := by rfl) (hpl : (backTo pos (starEach es X.env)).any (·.1) = false := by rfl) :
    PE X (.Call (.Attribute (.Name x p1) "__init__" p2) (e :: es) [] pos) (tVeI X.K ta) := by
  constructor
  intro pins s σ H Q I h
  refine PySem.W.methodCall_KW (ld_glob I hg hm ?_ hdb) hc
  refine PySem.W.method_cls I.kIn rd.ga (PySem.W.cls_value I.kIn rd.rd hv (by decide +kernel) ?_)
  show wpAny _ _ (callWith pos (Value.builtin "ValueError.__init__") [] (backTo pos (starEach (e :: es) X.env)) []) _ _ _
  refine PyProof.Rows.callWith_method1 (thn (ha.run pos pins _ σ H _ (I.tok _) h) fun us s1 hh => ?_) he hpl
  obtain ⟨vs, H1, J, rs, a, C, ws, rfl, hl, T, ea, q⟩ := hh
  cases rs with
  | @cons _ u0 _ ur ra rr =>
    cases (show u0 = Value.ref a from ra)
    exact oinit_ok T J ea (by rw [← Paired.length rr, sizeLine_eq]; omega) fun s2 J2 => ⟨.non, H1, J2, rfl, q⟩
end
/-- what an exception's own __init__ does: the fields ns, M of what it is given -/
def spI (K : PySem.W.Frag) (M : List V → Prop) (ns : List Str) : Sp := fun vs H Q _ => vs.length = ns.length + 1 ∧ ∃ (a C : Addr) (ws : List V), vs = .ref a :: ws ∧ M ws ∧ OexC K C ∧ (∀ f ∈ ns, PySem.W.findIn K (.ref C) f = some none) ∧ H a = some (exo a C none) ∧
  ∀ dx, H dx = none → dx ≠ a → Q .non (upd (upd H dx (exd dx (ns.zip ws).reverse)) a (exo a C (some dx)))
/-- a message -/
def MsgOk (M : List V → Prop) (tm : TE) : Prop := ∀ (a : Addr) (ws : List V) (H : Hp) (Q : VK), M ws → (∀ y, Q (.str y) H) → tm (some (.ref a) :: ws.map some) H Q
theorem msg_str {x : Str} : MsgOk (fun _ => True) (tC (.str x)) := fun _ _ _ _ _ h => h x
def Fm (ws : List V) : Prop := ∃ w, ws = [w] ∧ ((∃ y : Str, w = .str y ∧ y.length ≤ 1000) ∨ ∃ i : Int, w = .int i ∧ i.natAbs < 2 ^ 64)
theorem log_lt {n : Nat} (h : n < 2 ^ 64) : n.log2 < 1920 := by
  by_cases h0 : n = 0
  · subst h0; decide
  · have := (Nat.log2_lt h0 (k := 64)).mpr h
    omega
theorem msg_f {x : Str} (hx : x.length ≤ 1000) : MsgOk Fm (fun σ H Q => tJs [tC (.str x), tFmt (tVar 1)] Str.empty σ H fun out H1 => Q (.str out) H1) := fun a ws H Q ⟨w, e, hw⟩ h => by
  subst e
  have hl : (Str.empty ++ x).length = x.length := by rw [Str.length_append]; simp [Str.length, Str.empty]
  have hs : sizeLine = 16777216 := sizeLine_eq
  refine ⟨x, rfl, by rw [hl]; omega, _, rfl, ?_⟩
  rcases hw with ⟨y, rfl, hy⟩ | ⟨i, rfl, hi⟩
  · exact .inl ⟨y, rfl, by omega, y, rfl, by rw [Str.length_append, hl]; omega, h _⟩
  · have e := int_text_length_le (k := 1920) (by decide) (log_lt hi)
    refine .inr ⟨i, rfl, log_lt hi, _, rfl, ?_, h _⟩
    rw [Str.length_append, hl, PySem.ofString_length]; omega
section
variable {P : Program} {w : World} {K : PySem.W.Frag} {mg : Str → Option Value} {base : Heap} {M : List V → Prop} {tm : TE} {f g : Str}
def tI1 (K : PySem.W.Frag) (tm : TE) (f : Str) : TS := tSeq (tDrop (tVeI K (tCons (tVar 0) (tCons tm tNil)))) (tSeq (tOst K f (tVar 0) (tVar 1)) tNext)
def tI2 (K : PySem.W.Frag) (tm : TE) (f g : Str) : TS := tSeq (tDrop (tVeI K (tCons (tVar 0) (tCons tm tNil)))) (tSeq (tOst K f (tVar 0) (tVar 1)) (tSeq (tOst K g (tVar 0) (tVar 2)) tNext))
theorem init1_ok {x qual : Str} {params : Arguments} {bodyS : List Stmt} {scope : Scope} {fa : Addr} {fd : FuncData} {n0 n1 : Str} (F : FunD K x qual params bodyS scope [] [] fa fd) (S : FnScope [n0, n1] [n0, n1] scope) (hm : MsgOk M tm)
    (hb : ∀ (cdv : Value) (A : Around) (outer : List Env) (s : Shared) (H : Hp) (E : XK), PSs (cxOf (CX P w) P w K mg base [n0, n1] qual scope fa cdv A outer s H E) bodyS (tI1 K tm f)) : FnOk P w K mg base (CX P w) 1 fa fd [n0, n1] (spI K M [f]) := by
  refine F.ok S (fun vs H Q E h => h.1) fun cdv A outer s H vs Q E hr hsp => ⟨_, hb cdv A outer s H E, ?_⟩
  obtain ⟨hl, a, C, ws, rfl, hM, T, hf, ha, q⟩ := hsp
  match ws, hl with
  | [y], _ =>
    have e0 : start [n0, n1] [V.ref a, y] = some (.ref a) :: [y].map some := rfl
    rw [e0]
    refine ⟨_, rfl, hm a [y] H _ hM fun z => ⟨a, C, [.str z], rfl, by simp, T, ha, ?_⟩⟩
    exact ⟨y, rfl, _, rfl, a, C, rfl, T, hf f (List.mem_cons_self ..), .inl ⟨ha, fun dx hd ne => q dx hd ne⟩⟩
theorem init2_ok {x qual : Str} {params : Arguments} {bodyS : List Stmt} {scope : Scope} {fa : Addr} {fd : FuncData} {n0 n1 n2 : Str} (F : FunD K x qual params bodyS scope [] [] fa fd) (S : FnScope [n0, n1, n2] [n0, n1, n2] scope) (hm : MsgOk M tm)
    (hb : ∀ (cdv : Value) (A : Around) (outer : List Env) (s : Shared) (H : Hp) (E : XK), PSs (cxOf (CX P w) P w K mg base [n0, n1, n2] qual scope fa cdv A outer s H E) bodyS (tI2 K tm f g)) : FnOk P w K mg base (CX P w) 1 fa fd [n0, n1, n2] (spI K M [f, g]) := by
  refine F.ok S (fun vs H Q E h => h.1) fun cdv A outer s H vs Q E hr hsp => ⟨_, hb cdv A outer s H E, ?_⟩
  obtain ⟨hl, a, C, ws, rfl, hM, T, hf, ha, q⟩ := hsp
  match ws, hl with
  | [y, z], _ =>
    have e0 : start [n0, n1, n2] [V.ref a, y, z] = some (.ref a) :: [y, z].map some := rfl
    rw [e0]
    refine ⟨_, rfl, hm a [y, z] H _ hM fun m => ⟨a, C, [.str m], rfl, by simp, T, ha, ?_⟩⟩
    refine ⟨y, rfl, _, rfl, a, C, rfl, T, hf f (List.mem_cons_self ..), .inl ⟨ha, fun dx hd ne => ?_⟩⟩
    refine ⟨z, rfl, _, rfl, a, C, rfl, T, hf g (List.mem_cons_of_mem _ (List.mem_cons_self ..)), .inr ⟨dx, [(f, y)], upd_same, by rw [upd_ne ne]; exact upd_same, by simp, ?_⟩⟩
    have := q dx hd ne
    have e : upd (upd (upd H dx (exd dx [(f, y)])) a (exo a C (some dx))) dx (exd dx [(g, z), (f, y)]) = upd (upd H dx (exd dx [(g, z), (f, y)])) a (exo a C (some dx)) := by
      funext b
      by_cases h1 : b = dx
      · subst h1; rw [upd_same, upd_ne ne, upd_same]
      · by_cases h2 : b = a
        · subst h2; rw [upd_ne h1, upd_same, upd_same]
        · rw [upd_ne h1, upd_ne h2, upd_ne h1, upd_ne h2, upd_ne h1]
    show Q .non _
    rw [e]
    exact this
end
section
variable {X : Cx} {G : Cfg} {W : WX} {tb : Tb} {c : CallF} {C fI : Addr} {ci : Nat} {x m : Str} {j : Nat} {p p2 p3 pos : Pos} {e : Expr} {es : List Expr} {is : List E} {fd : FuncData} {ps ns : List Str} {M : List V → Prop} {fm : Bool}
/-- raise X('m'), X without an __init__ -/
theorem cs_raise0 (hc : X.calm = true) (tk : Takes X W) (hx : G.xcl ci = some (C, [])) (q : PySem.W.excIn X.K C [.type "ValueError", .type "Exception", .type "BaseException", .type "object"] "ValueError.__new__" = true) (gC : X.mg x = some (.ref C)) (kC : PySem.W.keepIn X.K (.ref C) = true)
    (bC : PySem.W.subIn X.K (.ref C) (.type "BaseException") = some true) (tC : PySem.W.typeIn X.K (.ref C) = some (.type "type")) (hg : Gl X x) (hdb : (x == ("__debug__" : Str)) = false := by decide) :
    CS X G W tb c (.Raise (some (.Call (.Name x p) [.Constant (.str m) j p2] [] p3)) none pos) (.raise_ false ci []) := by
  refine cs_of (fun n => ps_raise hc tk (pmk_own PySem.F.excBase_ValueError q gC kC (raises_own bC tC) hg hdb)) fun n Dn σ H ⟨Z, F, ρ, s, P, ns, rel, g⟩ => ?_
  replace g : GoesS G W Z F ρ P (if false = true → fmOk [] = true then some (.error ⟨ci, []⟩, s) else none) Dn := g
  rw [if_pos (fun z => nomatch z)] at g
  exact g (.ref C) none σ H Z ρ (Same.refl _) (List.prefix_refl _) ⟨C, [], hx, rfl, rfl, fun _ => rfl, fun z => absurd rfl z⟩ rel
theorem mk_heap {H1 : Hp} {a dx : Addr} {fs : List (Str × V)} (ha : H1 a = none) (ne : dx ≠ a) : upd (del (upd (upd (upd H1 a (exo a C none)) dx (exd dx fs)) a (exo a C (some dx))) a) dx (.xd fs) = upd H1 dx (.xd fs) := by
  funext b
  by_cases h1 : b = dx
  · subst h1; rw [upd_same, upd_same]
  · rw [upd_ne h1, upd_ne h1]
    by_cases h2 : b = a
    · subst h2; rw [del_same, ha]
    · rw [del_ne h2, upd_ne h2, upd_ne h1, upd_ne h2]
theorem zipx_get {ns : List Str} {ws : List V} (hn : ns.length = 1 ∨ (ns.length = 2 ∧ ns.Nodup)) (hl : ws.length = ns.length) : ∀ (i : Nat) (f : Str) (v : V), ns[i]? = some f → ws[i]? = some v → (ns.zip ws).reverse.lookup f = some v := by
  rcases hn with h1 | ⟨h2, nd⟩
  · match ns, ws, h1, hl with
    | [a], [y], _, _ =>
      intro i f v h g
      match i with
      | 0 => simp at h g; subst h; subst g; simp [List.lookup]
      | i + 1 => simp at h
  · match ns, ws, h2, hl with
    | [a, b], [y, z], _, _ =>
      have hab : a ≠ b := by simpa using nd
      intro i f v h g
      match i with
      | 0 =>
        simp at h g; subst h; subst g
        have : (a == b) = false := by simpa using hab
        simp [List.lookup, this]
      | 1 => simp at h g; subst h; subst g; simp [List.lookup]
      | i + 2 => simp at h
theorem exDs_len {F : Rec} : ∀ {is : List E} {s : S} {ds : List D} {s' : S}, exDs F is s = some (.ok ds, s') → ds.length = is.length
  | [], s, ds, s', h => by
    simp only [exDs, ok, Option.some.injEq, Prod.mk.injEq, Except.ok.injEq] at h
    rw [← h.1]; rfl
  | i :: is, s, ds, s', h => by
    rw [exDs] at h
    rcases e1 : exD F i s with _ | ⟨_ | d, s1⟩
    · rw [e1] at h; simp [bd] at h
    · rw [e1] at h; simp [bd] at h
    · rw [e1] at h
      replace h : bd (exDs F is s1) (fun rs s => ok (d :: rs) s) = some (.ok ds, s') := h
      rcases e2 : exDs F is s1 with _ | ⟨_ | ds2, s2⟩
      · rw [e2] at h; simp [bd] at h
      · rw [e2] at h; simp [bd] at h
      · rw [e2] at h
        have := exDs_len e2
        simp only [bd, ok, Option.some.injEq, Prod.mk.injEq, Except.ok.injEq] at h
        rw [← h.1, List.length_cons, List.length_cons, this]
/-- raise X(e, ..), X with an __init__ of its own -/
theorem cs_raise1 (hc : X.calm = true) (tk : Takes X W) (hx : G.xcl ci = some (C, ns)) (hn : ns.length = 1 ∨ (ns.length = 2 ∧ ns.Nodup)) (T : OexC X.K C) (hf : ∀ f ∈ ns, PySem.W.findIn X.K (.ref C) f = some none) (iC : PySem.W.findIn X.K (.ref C) "__init__" = some (some (.ref fI))) (tI : PySem.W.typeIn X.K (.ref fI) = some (.type "function"))
    (F1 : FnOk X.prog X.w X.K X.mg X.base (CX X.prog X.w) 1 fI fd ps (spI X.K M ns)) (hr : Room 2 X.A) (hb : Binds X.K fd ps []) (hM : ∀ (Z : Hp) (ρ : List Addr) (ds : List D) (vs : List V), DReps G Z ρ ds vs → (fm = true → fmOk ds = true) → M vs) (hlen : (e :: es).length = ns.length) (hi : is.length = (e :: es).length) (hg : Gl X x) (hm : X.mg x = some (.ref C)) (ha : CDs X G W tb c (e :: es) is)
    (hdb : (x == ("__debug__" : Str)) = false := by decide) (he : starEach (e :: es) X.env = (false, eval e X.env) :: starEach es X.env := by rfl) (hpl : (backTo p3 (starEach es X.env)).any (·.1) = false := by rfl) :
    CS X G W tb c (.Raise (some (.Call (.Name x p) (e :: es) [] p3)) none pos) (.raise_ fm ci is) := by
  refine cs_of (fun n => ps_raise hc tk (pmk_oex T iC tI F1 hr hb .nil (passes_call tk fun _ _ _ _ z => z.elim) hg hm (ha n) hdb he hpl)) fun n Dn σ H ⟨Z, F, ρ, s, P, nsl, rel, g⟩ => ?_
  replace g : GoesS G W Z F ρ P (bd (exDs (run tb c n) is s) fun ds s => if fm = true → fmOk ds = true then some (.error ⟨ci, ds⟩, s) else none) Dn := g
  refine ⟨Z, F, ρ, s, P, rel, ?_⟩
  rcases q : exDs (run tb c n) is s with _ | ⟨er | ds, s'⟩
  · rw [q] at g; exact g
  · rw [q] at g
    exact fun cls d H1 Z1 ρ1 e1 p1 x1 r1 => g cls d σ H1 Z1 ρ1 e1 p1 x1 r1
  · rw [q] at g
    intro H1 Z1 ρ1 e1 p1 vs hd r1
    have hds : ds.length = is.length := exDs_len q
    replace g : GoesS G W Z F ρ P (if fm = true → fmOk ds = true then some (.error ⟨ci, ds⟩, s') else none) Dn := g
    by_cases hk : fm = true → fmOk ds = true
    · rw [if_pos hk] at g
      have hvl : vs.length = ns.length := by rw [← hd.length, hds, hi, hlen]
      have hn0 : ns ≠ [] := fun z => by subst z; simp at hlen
      refine ⟨by rcases hn with h | h <;> omega, fun a hna => ⟨by simp [hvl], a, C, vs ++ [], rfl, by rw [List.append_nil]; exact hM Z1 ρ1 ds vs hd hk, T, hf, upd_same, fun dx hdx ne => ?_⟩⟩
      rw [List.append_nil]
      have h1 : H1 dx = none := by rw [upd_ne ne] at hdx; exact hdx
      refine ⟨rfl, dx, (ns.zip vs).reverse, upd_same, by rw [upd_ne ne]; exact upd_same, h1, ?_⟩
      rw [mk_heap hna ne]
      have r2 := r1.newZ h1 (.xd (ns.zip vs).reverse) fun _ z => nomatch z
      have ez := r1.zup h1 (.xd (ns.zip vs).reverse)
      exact g (.ref C) (some dx) σ _ _ ρ1 (e1.trans ez) p1 ⟨C, ns, hx, rfl, by rw [hds, hi, hlen], fun z => absurd z hn0, fun _ => ⟨dx, vs, _, rfl, hd.mono ez (List.prefix_refl _), upd_same, zipx_get hn hvl⟩⟩ r2
    · rw [if_neg hk] at g; exact g.elim
end
end Ri

set_option maxRecDepth 100000
/-! Rx, part B: try with several clauses, with names and without. -/
namespace Ri
open PySem PySem.Spec PyProof.Rows L2
/-- behind a named clause its name is gone -/
def DAs (D : Ends) (i : Nat) : Ends := { nx := fun τ G => D.nx (τ.set i none) G, rt := D.rt, bk := fun τ G => D.bk (τ.set i none) G, ct := fun τ G => D.ct (τ.set i none) G }
abbrev Cl := Value × Option Nat × (Addr → Value → Option Addr → TS)
def wCl (K : PySem.W.Frag) (Wo : WX) (D : Ends) : List Cl → WX
  | [] => Wo
  | (c, some i, ts) :: r => fun cls d τ G => ∃ b, PySem.W.exmOne K cls c = some b ∧ (b = true → ∀ a, G a = none → ts a cls d (DAs D i) (τ.set i (some (.ref a))) G) ∧ (b = false → wCl K Wo D r cls d τ G)
  | (c, none, ts) :: r => fun cls d τ G => ∃ b, PySem.W.exmOne K cls c = some b ∧ (b = true → ∀ a, G a = none → ts a cls d D τ G) ∧ (b = false → wCl K Wo D r cls d τ G)
inductive Cls_ (X : Cx) : List ExceptHandler → List Cl → Prop
  | nil : Cls_ X [] []
  | plain {x : Str} {c : Value} {ts : Addr → Value → Option Addr → TS} {st : Stmt} {su : List Stmt} {np hpos : Pos} {hds : List ExceptHandler} {l : List Cl} (nm : Names X x c)
      (body : ∀ (a : Addr) (oe : Obj) (cls : Value) (d : Option Addr) (pn : List (Addr × Obj)), Zc cls d oe → (∃ vs, oe.data = .fields vs) → PSs (X.suite a ((a, oe) :: pn)) (st :: su) (ts a cls d)) (r : Cls_ X hds l) :
      Cls_ X (.ExceptHandler (some (.Name x np)) none (st :: su) hpos :: hds) ((c, none, ts) :: l)
  | named {x n : Str} {i : Nat} {c : Value} {ts : Addr → Value → Option Addr → TS} {st : Stmt} {su : List Stmt} {np hpos : Pos} {hds : List ExceptHandler} {l : List Cl} (nm : Names X x c) (hi : X.N[i]? = some n) (hl : X.env.kindOf n = some .local)
      (body : ∀ (a : Addr) (oe : Obj) (cls : Value) (d : Option Addr) (pn : List (Addr × Obj)), Zc cls d oe → (∃ vs, oe.data = .fields vs) → PSs (X.suite a ((a, oe) :: pn)) (st :: su) (ts a cls d)) (r : Cls_ X hds l) :
      Cls_ X (.ExceptHandler (some (.Name x np)) (some n) (st :: su) hpos :: hds) ((c, some i, ts) :: l)
section
variable {X : Cx} {body : List Stmt} {h₀ : ExceptHandler} {hds : List ExceptHandler} {l : List Cl} {pos : Pos} {tb : WX → TS} {Wo : WX}
theorem ps_tryCl (hs : X.stack = X.env :: X.outer) (hf : X.env.frame = some X.env.locals) (hN : X.N.Nodup) (tk : Takes X Wo)
    (hb : ∀ (W : WX) (pn : List (Addr × Obj)) (xe : Value → Shared → Prop), Takes (X.tr pn xe) W → PassesOwn (model X.prog X.w) X.A X.env xe → PSs (X.tr pn xe) body (tb W))
    (hh : Cls_ X (h₀ :: hds) l) : PS X (.Try body (h₀ :: hds) [] [] pos) (fun D τ G => tb (wCl X.K Wo D l) D τ G) := by
  constructor
  intro ps s₀ τ G D I hw
  have okX := I.ok
  have frX : X.A.frames = some (X.env :: X.outer) := by rw [okX.frames, hs]
  apply wpAny_Try_except
  refine wpAny_mono ((hb (wCl X.K Wo D l) (X.pn ++ ps) (fun ev q₁ => wpAny (model X.prog X.w) X.A (noteFrame ev X.env) (fun _ q₂ => wpAny (model X.prog X.w) X.A (setFlight ev none) (fun _ q₃ =>
    wpAny (model X.prog X.w) X.A (handleBy ev X.env (h₀ :: hds)) (SP X ps D) X.xe q₃) X.xe q₂) X.xe q₁) (fun u t₀ xx => ?_) PassesOwn.looking).run [] s₀ τ G D (I.toTry _) hw) (fun fl t₁ hsp => ?_) (fun _ _ z => z)
  · obtain ⟨a, B, sI, qs, τ₁, G₁, cls, d, rfl, J₀, nb, up, sky, na, os, ag, wish⟩ := xx
    have J : Inv X ps τ₁ G₁ sI := J₀.ofTry okX
    rw [hs] at sky
    show wpAny (model X.prog X.w) X.A (noteFrame (.ref a) X.env) _ _ _
    refine Sky.land Zc.steady frX hf sky fun k₃ fl₃ up₃ => ?_
    have L₃ : Inv X ps τ₁ G₁ { t₀ with heap := k₃ } := J.landed nb fl₃.1 (up.trans up₃) os ag
    obtain ⟨ob, us, ga, za, da⟩ := fl₃.there
    have out : a ∉ frs (X.env :: X.outer) := fun hm => by
      obtain ⟨_, o₂, g₂, hnf⟩ := fl₃.2.2.1.mem hm
      rw [ga] at g₂; cases g₂
      exact hnf _ da
    have n₁ : a ≠ X.env.locals := fun z => out (List.mem_filterMap.mpr ⟨X.env, List.mem_cons_self, by rw [hf, z]⟩)
    have n₂ : a ∉ X.fs := fun hm => by
      obtain ⟨v, hv, qv⟩ := List.mem_filterMap.mp hm
      exact out (List.mem_filterMap.mpr ⟨v, List.mem_cons_of_mem _ hv, qv⟩)
    have U₃ := L₃.suite ga da na n₁ n₂
    have LT : PySem.W.Looks (model X.prog X.w) k₃ (typeOf (.ref a)) cls := fun A Q E s k q => wpAny_typeOf_ref (k _ _ ga) (by rw [za.1]; exact q)
    have look : ∀ {x : Str} {c : Value} {np : Pos} {Q : Value → Shared → Prop} {E : Value → Shared → Prop}, Names X x c → Q c { t₀ with heap := k₃ } → wpAny (model X.prog X.w) (X.A.mark (some (.ref a))) (eval (.Name x np) X.env) Q E { t₀ with heap := k₃ } := fun {x c np Q E} nm q => by
      obtain ⟨g1, g2, m1 | ⟨m1, m2, m3⟩⟩ := nm
      · exact ld_glob (X := X.suite a ((a, ob) :: (X.pn ++ ps))) U₃ g1 m1 q g2
      · exact ld_blt (X := X.suite a ((a, ob) :: (X.pn ++ ps))) U₃ g1 m1 m2 q m3 g2
    have all : ∀ {hs' : List ExceptHandler} {l' : List Cl}, Cls_ X hs' l' → wCl X.K Wo D l' cls d τ₁ G₁ → wpAny (model X.prog X.w) X.A (handleBy (.ref a) X.env hs') (SP X ps D) X.xe { t₀ with heap := k₃ } := by
      intro hs' l' hk
      induction hk with
      | nil =>
        intro w₀
        apply wpAny_handleBy_nil
        obtain ⟨k1, k2, k3, oe, vs, T, oT, ts₀, ge, ze, de, v1, vr⟩ := id fl₃
        unfold PySem.passOn
        refine wpAny_bind (wpAny_field ge de v1 ?_)
        rw [if_neg (show ¬ ((Value.ref T == Value.none) = true) from by simp)]
        have last : wpAny (model X.prog X.w) X.A (setFlight (.ref a) X.env.frame) (fun _ t₄ => wpAny (model X.prog X.w) X.A (throw (.ref a) : Sem Flow) (SP X ps D) X.xe t₄) X.xe { t₀ with heap := k₃ } := by
          rw [hf]
          refine HandSPX.setFlight_upZ fl₃ fun k₄ hh₄ up₄ => wpAny_throw (tk _ _ ?_)
          exact ⟨a, B, sI, ps, τ₁, G₁, cls, d, rfl, J, nb, (up.trans up₃).trans up₄, .inr (.inr (by rw [hs]; exact hh₄)), na, os, ag, w₀⟩
        first
          | exact wpAny_bind (wpAny_pure (wpAny_bind last))
          | exact wpAny_bind last
      | @plain x c ts st su np hpos hds₂ l₂ nm bd r ih =>
        intro ⟨b, hb₁, yes, no⟩
        refine wpAny_handleBy_cons (codeAny_handlers_test ?_) (fun q => by cases q)
        refine look nm ((PySem.W.exm_one (M := model X.prog X.w) L₃.kIn LT hb₁).here ?_)
        cases b with
        | false => exact ih (no rfl)
        | true =>
          apply codeAny_handlers_suite
          refine HandSPX.lands_againZ fl₃ fun k₄ fl₄ up₄ => ?_
          have L₄ : Inv X ps τ₁ G₁ { t₀ with heap := k₄ } := J.landed nb fl₄.1 ((up.trans up₃).trans up₄) os ag
          obtain ⟨o₄, us₄, g₄, z₄, d₄⟩ := fl₄.there
          refine wpAny_mono ((bd a o₄ cls d (X.pn ++ ps) z₄ ⟨_, d₄⟩).run [] _ _ G₁ _ (L₄.suite g₄ d₄ na n₁ n₂) (yes rfl a na)) (fun f t₆ hsp => ?_) (fun _ _ z => z.elim)
          cases f with
          | next => exact let ⟨_, _, V, q⟩ := hsp; ⟨_, _, V.unsuite okX, q⟩
          | brk => exact let ⟨_, _, V, q⟩ := hsp; ⟨_, _, V.unsuite okX, q⟩
          | cont => exact let ⟨_, _, V, q⟩ := hsp; ⟨_, _, V.unsuite okX, q⟩
          | ret u => exact let ⟨_, _, _, V, r, q⟩ := hsp; ⟨_, _, _, V.unsuite okX, r, q⟩
      | @named x n i c ts st su np hpos hds₂ l₂ nm hi hl bd r ih =>
        intro ⟨b, hb₁, yes, no⟩
        refine wpAny_handleBy_cons (codeAny_handlers_test ?_) (fun q => by cases q)
        refine look nm ((PySem.W.exm_one (M := model X.prog X.w) L₃.kIn LT hb₁).here ?_)
        cases b with
        | false => exact ih (no rfl)
        | true =>
          apply codeAny_handlers_suite_as
          refine HandSPX.lands_againZ fl₃ fun k₄ fl₄ up₄ => ?_
          have L₄ : Inv X ps τ₁ G₁ { t₀ with heap := k₄ } := J.landed nb fl₄.1 ((up.trans up₃).trans up₄) os ag
          obtain ⟨o₄, us₄, g₄, z₄, d₄⟩ := fl₄.there
          refine store_ok (X := X.suite a ((a, o₄) :: (X.pn ++ ps))) (v := .ref a) (L₄.suite g₄ d₄ na n₁ n₂) hN hi (.inl hl) rfl (fun t₅ U₅ => ?_) (.inr hl)
          refine wpAny_mono ((bd a o₄ cls d (X.pn ++ ps) z₄ ⟨_, d₄⟩).run [] t₅ _ G₁ _ U₅ (yes rfl a na)) (fun f t₆ hsp => ?_) (fun _ _ z => z.elim)
          have gone : ∀ {τ₆ : L2.St} {G₆ : Hp} {Q : Shared → Prop}, Inv (X.suite a ((a, o₄) :: (X.pn ++ ps))) [] τ₆ G₆ t₆ → (∀ t₇, Inv X ps (τ₆.set i none) G₆ t₇ → Q t₇) →
              wpAny (model X.prog X.w) X.A (do bindName X.env n .none; unbindBehindTheSuite X.env n hpos) (fun _ t₇ => Q t₇) X.xe t₆ := fun U₆ hq => gone_ok (U₆.unsuite okX) hN hi hl hq
          cases f with
          | next => exact let ⟨_, _, V, q⟩ := hsp; gone V fun _ V₇ => ⟨_, _, V₇, q⟩
          | brk => exact let ⟨_, _, V, q⟩ := hsp; gone V fun _ V₇ => ⟨_, _, V₇, q⟩
          | cont => exact let ⟨_, _, V, q⟩ := hsp; gone V fun _ V₇ => ⟨_, _, V₇, q⟩
          | ret u => exact let ⟨_, _, _, V, r, q⟩ := hsp; gone V fun _ V₇ => ⟨_, _, _, V₇, r, q⟩
    exact all hh wish
  · cases fl with
    | next => exact let ⟨_, _, V, q⟩ := hsp; wpAny_execs_nil ⟨_, _, V.ofTry okX, q⟩
    | brk => exact let ⟨_, _, V, q⟩ := hsp; ⟨_, _, V.ofTry okX, q⟩
    | cont => exact let ⟨_, _, V, q⟩ := hsp; ⟨_, _, V.ofTry okX, q⟩
    | ret u => exact let ⟨_, _, _, V, r, q⟩ := hsp; ⟨_, _, _, V.ofTry okX, r, q⟩
end
end Ri

set_option maxRecDepth 100000
/-! Rx, part C: a try whose clauses return. -/
namespace Ri
open PySem PySem.Spec PyProof.Rows L2
section
variable {G : Cfg} {Z F H : Hp} {ρ : List Addr} {s : S} {σ : L2.St} {P : List (R × V)}
/-- a slot of which nothing is known any more -/
theorem Rel.mask (r : Rel G Z F ρ s σ H P) (i : Nat) (v : Option V) (ns : NoSlot P) : Rel G Z F ρ { s with sl := s.sl.set i none } (σ.set i v) H P := by
  have get : ∀ (j : Nat) (x : SV), (s.sl.set i none)[j]? = some (some x) → j ≠ i ∧ s.sl[j]? = some (some x) := fun j x h => by
    by_cases e : j = i
    · subst e
      by_cases hl : j < s.sl.length
      · rw [List.getElem?_set_self hl] at h; cases h
      · rw [List.getElem?_eq_none (by simpa using hl)] at h; cases h
    · rw [List.getElem?_set_ne (Ne.symm e)] at h; exact ⟨e, h⟩
  have own : ∀ b w, Owns ρ (s.sl.set i none) (σ.set i v) P b w → Owns ρ s.sl σ P b w := fun b w h => by
    cases w with
    | hp k => exact h
    | pd k => exact h
    | sl k =>
      obtain ⟨⟨c, hc⟩, hv⟩ := h
      obtain ⟨ne, g⟩ := get k _ hc
      rw [List.getElem?_set_ne (Ne.symm ne)] at hv
      exact ⟨⟨c, g⟩, hv⟩
  refine ⟨r.zs, r.fs, r.len, r.hp, by simpa using r.slen, fun j x h => ?_, fun j x u h => ?_, fun b x y h1 h2 => r.uq b x y (own _ _ h1) (own _ _ h2), fun b x h => r.zo b x (own _ _ h), r.no, r.nt⟩
  · obtain ⟨ne, g⟩ := get j x h
    obtain ⟨u, g1, g2⟩ := r.sl j x g
    exact ⟨u, by rw [List.getElem?_set_ne (Ne.symm ne)]; exact g1, g2⟩
  · have g := r.pd j x u h
    cases x with
    | val d => exact g
    | own c => exact g
    | slot k => exact absurd h (ns j k u)
end
/-- the reading of what a clause returns: a the exception, in slot i -/
def tHx (G : Cfg) (a : Addr) (cls : Value) (d : Option Addr) (i : Option Nat) (cs : List Nat) (h : Hx) : TE := fun τ H Q => ∃ Z F ρ s P x y, NoSlot P ∧ Rel G Z F ρ s τ H P ∧ x.c ∈ cs ∧ XRep G Z ρ H x cls d ∧ (∀ k, i = some k → τ[k]? = some (some (.ref a))) ∧ hxv x.fs h = some y ∧
  ∀ v H' Z', Same Z Z' → Rel G Z' F ρ s τ H' P → DRep G Z' ρ y v → Q v H'
def CHx (X : Cx) (G : Cfg) (i : Option Nat) (e : Expr) (cs : List Nat) (h : Hx) : Prop := ∀ (a : Addr) (oe : Obj) (cls : Value) (d : Option Addr) (pn : List (Addr × Obj)), Zc cls d oe → (∃ vs, oe.data = .fields vs) →
  PE (X.suite a ((a, oe) :: pn)) e (tHx G a cls d i cs h)
section
variable {X : Cx} {G : Cfg} {i : Option Nat} {e e2 : Expr} {cs : List Nat} {h h2 : Hx} {pos : Pos}
theorem chx_str {x : Str} {j} (h1 : PySem.PyData.canLay0 (.str x) = true := by decide +kernel) (h2 : x.length ≤ sizeLine := by decide +kernel) : CHx X G i (.Constant (.str x) j pos) cs (.cst (.str x)) := fun a oe cls d pn hz hf => by
  refine PE.imp pe_str fun τ H Q ⟨Z, F, ρ, s, P, x, y, ns, rel, _, xr, hi, hv, q⟩ => ?_
  cases hv
  exact q _ H Z (Same.refl _) rel (.str _ h1 h2)
theorem chx_fld {C : Addr} {ns : List Str} {ci k n : Nat} {f nm : Str} {p2 : Pos} (hx : G.xcl ci = some (C, ns)) (hk : ns[k]? = some f) (T : XfC X.K C) (hno : PySem.W.findIn X.K (.ref C) f = some none) (hN : X.N[n]? = some nm) (hv : Vis X.env.scope nm)
    (hb : attributeBase (.Name nm p2) f X.env (eval (.Name nm p2) X.env) = eval (.Name nm p2) X.env := by rfl) (hd : (nm == ("__debug__" : Str)) = false := by decide) (hcd : (nm == ("__classdict__" : Str)) = false := by decide) :
    CHx X G (some n) (.Attribute (.Name nm p2) f pos) [ci] (.fld k) := fun a oe cls d pn hz hf => by
  refine PE.imp (pe_xf T hno hz hf (pe_var (i := n) hN hv hd hcd) hb) fun τ H Q ⟨Z, F, ρ, s, P, x, y, nsl, rel, hc, xr, hi, hv, q⟩ => ?_
  obtain ⟨C2, ns2, hx2, ec2, hl, h0, h1⟩ := xr
  rw [List.mem_singleton.mp hc, hx] at hx2
  cases hx2
  have hne : ns ≠ [] := fun z => by subst z; simp at hk
  obtain ⟨dx, vs, fs, ed, hd, hzx, hlk⟩ := h1 hne
  obtain ⟨v, hv1, hv2⟩ := hd.get hv
  exact ⟨.ref a, hi n rfl, rfl, ec2, dx, fs, v, ed, rel.zs _ _ hzx, hlk k f v hk hv1, q v H Z (Same.refl _) rel hv2⟩
theorem chx_pair {kk : Nat} (ha : CHx X G i e cs h) (hb : CHx X G i e2 cs h2) (hs : starEach [e, e2] X.env = (false, eval e X.env) :: starEach [e2] X.env := by rfl) (hs2 : starEach [e2] X.env = (false, eval e2 X.env) :: starEach [] X.env := by rfl) : CHx X G i (.Tuple [e, e2] kk pos) cs (.pair h h2) := fun a oe cls d pn hz hf => by
  refine PE.imp (pe_tup (pa_cons (ha a oe cls d pn hz hf) (pa_cons (hb a oe cls d pn hz hf) pa_nil hs2) hs)) fun τ H Q ⟨Z, F, ρ, s, P, x, y, ns, rel, hc, xr, hi, hv, q⟩ => ?_
  simp only [hxv] at hv
  cases e1 : hxv x.fs h with
  | none => rw [e1] at hv; cases hv
  | some y1 =>
    cases e2 : hxv x.fs h2 with
    | none => rw [e1, e2] at hv; cases hv
    | some y2 =>
      rw [e1, e2] at hv
      cases hv
      refine ⟨Z, F, ρ, s, P, x, y1, ns, rel, hc, xr, hi, e1, fun v1 H1 Z1 s1 r1 d1 => ⟨Z1, F, ρ, s, P, x, y2, ns, r1, hc, ?_, hi, e2, fun v2 H2 Z2 s2 r2 d2 => ⟨by rw [sizeLine_eq]; simp, fun p hp => ?_⟩⟩⟩
      · obtain ⟨C2, ns2, hx2, ec2, hl, h0, h1⟩ := xr
        exact ⟨C2, ns2, hx2, ec2, hl, h0, fun hne => let ⟨dx, vs, fs, ed, hd, hzx, hlk⟩ := h1 hne; ⟨dx, vs, fs, ed, hd.mono s1 (List.prefix_refl _), s1 _ _ hzx, hlk⟩⟩
      · exact q _ _ _ ((s1.trans s2).trans (r2.zup hp _)) (r2.newZ hp (.tup [v1, v2]) fun _ z => nomatch z) (.tup (SqT.of upd_same) ((DReps.cons (d1.mono s2 (List.prefix_refl _)) (.one d2)).mono (r2.zup hp _) (List.prefix_refl _)))
end
/-- the clauses: what the machine knows of them -/
def exOk (G : Cfg) (K : PySem.W.Frag) (c : Value) (cs : List Nat) : Prop := ∀ x C ns, G.xcl x = some (C, ns) → PySem.W.exmOne K (.ref C) c = some (cs.contains x)
inductive CHs (X : Cx) (G : Cfg) : List ExceptHandler → List Hd → Prop
  | nil : CHs X G [] []
  | plain {x : Str} {c : Value} {e : Expr} {np rp hpos : Pos} {hds : List ExceptHandler} {hs : List Hd} {cs : List Nat} {h : Hx} (nm : Names X x c) (ex : exOk G X.K c cs) (he : CHx X G none e cs h) (r : CHs X G hds hs) :
      CHs X G (.ExceptHandler (some (.Name x np)) none [.Return (some e) rp] hpos :: hds) (⟨cs, none, h⟩ :: hs)
  | named {x n : Str} {i : Nat} {c : Value} {e : Expr} {np rp hpos : Pos} {hds : List ExceptHandler} {hs : List Hd} {cs : List Nat} {h : Hx} (nm : Names X x c) (hi : X.N[i]? = some n) (hl : X.env.kindOf n = some .local) (ex : exOk G X.K c cs) (he : CHx X G (some i) e cs h) (r : CHs X G hds hs) :
      CHs X G (.ExceptHandler (some (.Name x np)) (some n) [.Return (some e) rp] hpos :: hds) (⟨cs, some i, h⟩ :: hs)
section
variable {X : Cx} {G : Cfg} {W : WX} {tb : Tb} {c : CallF} {pos : Pos} {body : List Stmt} {ib : List Stm} {h₀ : ExceptHandler} {hds : List ExceptHandler} {hs : List Hd}
def tsOf (G : Cfg) (i : Option Nat) (cs : List Nat) (h : Hx) : Addr → Value → Option Addr → TS := fun a cls d => tSeq (tRet (tHx G a cls d i cs h)) tNext
theorem CHs.cl {hds : List ExceptHandler} {hs : List Hd} (hh : CHs X G hds hs) : ∃ l : List Cl, Cls_ X hds l ∧ ∀ (D : Ends) (Z F : Hp) (ρ : List Addr) (s : S) (σ : L2.St) (H : Hp) (P : List (R × V)) (x : Xc) (cls : Value) (d : Option Addr), NoSlot P → Rel G Z F ρ s σ H P → XRep G Z ρ H x cls d →
    GoesS G W Z F ρ P (catchR hs x s) D → wCl X.K W D l cls d σ H := by
  induction hh with
  | nil => exact ⟨[], .nil, fun D Z F ρ s σ H P x cls d ns rel xr g => g cls d σ H Z ρ (Same.refl _) (List.prefix_refl _) xr rel⟩
  | @plain x c e np rp hpos hds hs cs h nm ex he r ih =>
    obtain ⟨l, k1, k2⟩ := ih
    refine ⟨(c, none, tsOf G none cs h) :: l, .plain nm (fun a oe cls d pn hz hf => pss_cons (ps_ret (he a oe cls d pn hz hf)) pss_nil) k1, fun D Z F ρ s σ H P x cls d ns rel xr g => ?_⟩
    obtain ⟨C2, ns2, hx2, ec2, _⟩ := id xr
    refine ⟨_, by rw [ec2]; exact ex x.c C2 ns2 hx2, fun hb a na => ?_, fun hb => ?_⟩
    · unfold catchR at g
      rw [caught, if_pos hb] at g
      dsimp only at g
      cases hy : hxv x.fs h with
      | none => rw [hy] at g; exact g.elim
      | some y =>
        rw [hy] at g
        exact ⟨Z, F, ρ, s, P, x, y, ns, rel, by simpa using hb, xr, (fun _ z => nomatch z), hy, fun v H1 Z1 s1 r1 d1 => g v σ H1 Z1 ρ s1 (List.prefix_refl _) (r1.pushVal d1)⟩
    · unfold catchR at g
      rw [caught, if_neg (by rw [hb]; decide)] at g
      exact k2 D Z F ρ s σ H P x cls d ns rel xr g
  | @named x n i c e np rp hpos hds hs cs h nm hi hl ex he r ih =>
    obtain ⟨l, k1, k2⟩ := ih
    refine ⟨(c, some i, tsOf G (some i) cs h) :: l, .named nm hi hl (fun a oe cls d pn hz hf => pss_cons (ps_ret (he a oe cls d pn hz hf)) pss_nil) k1, fun D Z F ρ s σ H P x cls d ns rel xr g => ?_⟩
    obtain ⟨C2, ns2, hx2, ec2, _⟩ := id xr
    refine ⟨_, by rw [ec2]; exact ex x.c C2 ns2 hx2, fun hb a na => ?_, fun hb => ?_⟩
    · unfold catchR at g
      rw [caught, if_pos hb] at g
      dsimp only at g
      cases hy : hxv x.fs h with
      | none => rw [hy] at g; exact g.elim
      | some y =>
        rw [hy] at g
        dsimp only at g
        by_cases hil : i < s.sl.length
        · rw [if_pos hil] at g
          rw [rel.slen] at hil
          exact ⟨Z, F, ρ, _, P, x, y, ns, rel.mask i (some (.ref a)) ns, by simpa using hb, xr, fun k z => by cases z; exact List.getElem?_set_self hil, hy, fun v H1 Z1 s1 r1 d1 => g v _ H1 Z1 ρ s1 (List.prefix_refl _) (r1.pushVal d1)⟩
        · rw [if_neg hil] at g; exact g.elim
    · unfold catchR at g
      rw [caught, if_neg (by rw [hb]; decide)] at g
      exact k2 D Z F ρ s σ H P x cls d ns rel xr g
/-- try: body / except ..: return .. -/
theorem cs_tryR (hst : X.stack = X.env :: X.outer) (hfr : X.env.frame = some X.env.locals) (hN : X.N.Nodup) (tk : Takes X W)
    (hb : ∀ (W' : WX) (pn : List (Addr × Obj)) (xe : Value → Shared → Prop), Takes (X.tr pn xe) W' → PassesOwn (model X.prog X.w) X.A X.env xe → CSs (X.tr pn xe) G W' tb c body ib)
    (hh : CHs X G (h₀ :: hds) hs) : CS X G W tb c (.Try body (h₀ :: hds) [] [] pos) (.tryR ib hs) := by
  obtain ⟨l, k1, k2⟩ := hh.cl (W := W)
  refine cs_of (fun n => ps_tryCl hst hfr hN tk (tb := fun W' => TSt G W' (execs (run tb c n) ib)) (fun W' pn xe t p => hb W' pn xe t p n) k1) fun n D σ H ⟨Z, F, ρ, s, P, ns, rel, g⟩ => ?_
  replace g : GoesS G W Z F ρ P (tryE hs (execs (run tb c n) ib s)) D := g
  refine ⟨Z, F, ρ, s, P, ns, rel, ?_⟩
  rcases q : execs (run tb c n) ib s with _ | ⟨x | f, s'⟩
  · rw [q] at g; exact g
  · rw [q] at g
    intro cls d σ1 H1 Z1 ρ1 e1 p1 xr r1
    exact k2 D Z1 F ρ1 s' σ1 H1 P x cls d ns r1 xr (GoesS.mono g e1 p1)
  · rw [q] at g
    cases f <;> exact g
end
end Ri

set_option maxRecDepth 100000
/-! Rx, part D: while, methods of classes with slots, += on a name, three names at once. -/
namespace Ri
open PySem PySem.Spec PyProof.Rows L2
section
variable {X : Cx} {G : Cfg} {W : WX} {tb : Tb} {c : CallF} {pos : Pos} {e : Expr} {ie : E} {body : List Stmt} {ib : List Stm}
theorem pt_any {α : Type} {t : α → TT} (h : ∀ n, PT X e (t n)) : PT X e (fun σ H Q => ∃ n, t n σ H Q) := ⟨fun pins s σ H Q I ⟨n, hw⟩ => (h n).run pins s σ H Q I hw⟩
theorem pss_any {α : Type} {t : α → TS} (h : ∀ n, PSs X body (t n)) : PSs X body (fun D σ H => ∃ n, t n D σ H) := ⟨fun pins s σ H D I ⟨n, hw⟩ => (h n).run pins s σ H D I hw⟩
theorem cs_while (hp : PassesOwn (model X.prog X.w) X.A X.env X.xe) (hc : CT X G W tb c e ie) (hb : CSs X G W tb c body ib) : CS X G W tb c (.While e body [] pos) (.while_ ie ib) := by
  refine cs_of (fun n => ps_while hp (pt_any hc) (pss_any hb)) fun n Dn σ H ⟨Z, F, ρ, s, P, ns, rel, g⟩ => ?_
  refine ⟨fun m σ' H' => ∃ Z2 ρ2 s2, Same Z Z2 ∧ ρ <+: ρ2 ∧ Rel G Z2 F ρ2 s2 σ' H' P ∧ GoesS G W Z2 F ρ2 P (stepS (run tb c m) (.while_ ie ib) s2) Dn, ⟨n, Z, ρ, s, Same.refl _, List.prefix_refl _, rel, g⟩, ?_⟩
  rintro m σ' H' ⟨Z2, ρ2, s2, e2, p2, r2, g2⟩
  refine ⟨m, goesS_bindB r2 g2 fun b H3 s3 Z3 ρ3 e3 p3 r3 g3 => ?_⟩
  cases b with
  | false =>
    simp only [Bool.false_eq_true, if_false] at g3 ⊢
    exact GoesS.next g3 r3
  | true =>
    simp only [if_true] at g3 ⊢
    refine ⟨fun σ4 H4 => ∃ Z4 ρ4 s4, Same Z3 Z4 ∧ ρ3 <+: ρ4 ∧ Rel G Z4 F ρ4 s4 σ4 H4 P ∧ GoesS G W Z4 F ρ4 P ((run tb c m).st (.while_ ie ib) s4) Dn, ?_, m, Z3, F, ρ3, s3, P, ns, r3, ?_⟩
    · rintro σ4 H4 ⟨Z4, ρ4, s4, e4, p4, r4, g4⟩
      cases m with
      | zero => exact g4.elim
      | succ k => exact ⟨k, by omega, Z4, ρ4, s4, (e2.trans e3).trans e4, List.IsPrefix.trans (List.IsPrefix.trans p2 p3) p4, r4, g4⟩
    · rcases q : execs (run tb c m) ib s3 with _ | ⟨x | f, s5⟩
      · rw [q] at g3; exact g3
      · rw [q] at g3; exact g3
      · rw [q] at g3
        cases f with
        | next => exact fun σ5 H5 Z5 ρ5 e5 p5 r5 => ⟨Z5, ρ5, s5, e5, p5, r5, GoesS.mono g3 e5 p5⟩
        | cnt => exact fun σ5 H5 Z5 ρ5 e5 p5 r5 => ⟨Z5, ρ5, s5, e5, p5, r5, GoesS.mono g3 e5 p5⟩
        | brk => exact g3
        | ret r => exact g3
end
/-! ### methods of classes with slots -/
section
variable {X : Cx} {G : Cfg} {W : WX} {tb : Tb} {c : CallF} {CXp : CXT} {k fi ci np : Nat} {f C : Addr} {m : Str} {pos apos : Pos} {e o : Expr} {io : E} {es : List Expr} {is : List E} {names : List Str} {sp : Sp} {ta : TE} {t : TA}
def tMethSlW (C : Addr) (sp : Sp) (W : WX) (ta : TE) (t : TA) : TE := fun σ H Q => ta σ H fun x H1 => ∃ a dx vs, x = .ref a ∧ SlX.Slt H1 a C dx vs ∧ t σ H1 fun ws H2 => sp (.ref a :: ws) H2 Q (fun cls d H' => W cls d σ H')
theorem pe_methSlW {pl : Sem Bool} (he : PE X o ta) (cl : SlX.SCls X.K C) (hm : Meth X.K C m f) (F : FnR X.prog X.w X.K X.mg X.base CXp k f sp) (hr : Room k X.A) (hx : PassW CXp X W) (ha : PA X (e :: es) t)
    (hst : starEach (e :: es) X.env = (false, eval e X.env) :: starEach es X.env := by rfl) (hpl : (backTo pos (starEach es X.env)).any (·.1) = false := by rfl)
    (ht : eval (.Call (.Attribute o m apos) (e :: es) [] pos) X.env = (do
      let ov ← eval o X.env; standAt apos.atName; let (f, first) ← holding [ov] (getMethod ov m pl); callWith pos f first (backTo pos (starEach (e :: es) X.env)) (backToKw pos (keywordEach [] X.env))) := by rfl) :
    PE X (.Call (.Attribute o m apos) (e :: es) [] pos) (tMethSlW C sp W ta t) := by
  refine ⟨fun pins s σ H Q I h => PySem.W.methodCall_KW (pl := pl) (thn (he.run pins s σ H _ I h) fun u s1 ⟨x, H1, I1, rx, a, dx, vs, ex, hsl, q⟩ => ?_) ht⟩
  subst ex
  cases (show u = Value.ref a from rx)
  exact SlX.getmethsl_ok I1 hsl cl hm (PySem.W.callWith_K (first := [.ref a]) (h₀ := X.base) I.ok.mod.kin hm.kp (thn (ha.run pos pins s1 σ H1 _ I1 q) fun us s2 ⟨vs, H2, I2, r, q2⟩ => ⟨I2.kIn, run_fnW (us := .ref a :: us) (vs := .ref a :: vs) F hr hx I2 (.cons rfl r) q2⟩) hst hpl)
theorem pe_methSlW0 {pl : Sem Bool} (he : PE X o ta) (cl : SlX.SCls X.K C) (hm : Meth X.K C m f) (F : FnR X.prog X.w X.K X.mg X.base CXp k f sp) (hr : Room k X.A) (hx : PassW CXp X W)
    (ht : eval (.Call (.Attribute o m apos) [] [] pos) X.env = (do
      let ov ← eval o X.env; standAt apos.atName; let (f, first) ← holding [ov] (getMethod ov m pl); callWith pos f first (backTo pos (starEach [] X.env)) (backToKw pos (keywordEach [] X.env))) := by rfl) :
    PE X (.Call (.Attribute o m apos) [] [] pos) (tMethSlW C sp W ta tNil) := by
  refine ⟨fun pins s σ H Q I h => PySem.W.methodCall_KW (pl := pl) (thn (he.run pins s σ H _ I h) fun u s1 ⟨x, H1, I1, rx, a, dx, vs, ex, hsl, q⟩ => ?_) ht⟩
  subst ex
  cases (show u = Value.ref a from rx)
  exact SlX.getmethsl_ok I1 hsl cl hm (PySem.W.callWith_K0 (first := [.ref a]) I1.kIn hm.kp (run_fnW (us := [.ref a]) (vs := [.ref a]) F hr hx I1 (.cons rfl .nil) q))
theorem ce_methSl {pl : Sem Bool} (ho : CE X G W tb c o io) (cl : SlCls G X ci C names) (hm : Meth X.K C m f) (F : FnR X.prog X.w X.K X.mg X.base CXp k f (spD G c fi np)) (hn : NpOk c fi np) (hr : Room k X.A) (hx : PassW CXp X W) (ha : CA X G W tb c (e :: es) is)
    (hst : starEach (e :: es) X.env = (false, eval e X.env) :: starEach es X.env := by rfl) (hpl : (backTo pos (starEach es X.env)).any (·.1) = false := by rfl)
    (ht : eval (.Call (.Attribute o m apos) (e :: es) [] pos) X.env = (do
      let ov ← eval o X.env; standAt apos.atName; let (f, first) ← holding [ov] (getMethod ov m pl); callWith pos f first (backTo pos (starEach (e :: es) X.env)) (backToKw pos (keywordEach [] X.env))) := by rfl) :
    CE X G W tb c (.Call (.Attribute o m apos) (e :: es) [] pos) (.mcall ci fi io is) := by
  refine ce_of (fun n => pe_methSlW (pl := pl) (ho n) cl.cls hm F hr hx (ha n) hst hpl ht) fun n σ H Q ⟨Z, Fr, ρ, s, P, rel, g⟩ => ?_
  refine goes_bind [] rel g fun v H1 r1 s1 Z1 ρ1 e1 p1 rel1 g1 => ?_
  unfold mcallR at g1
  by_cases hi : isIns s1 ci r1 = true
  · rw [if_pos hi] at g1
    obtain ⟨a, vs, rfl, hI⟩ := isIns_at rel1 rel1.head hi
    obtain ⟨_, dx, ws, h1, _⟩ := cl.ins hI
    refine ⟨a, dx, ws, rfl, h1.slt, ?_⟩
    refine goesX_args [(r1, .ref a)] rel1 (Goes.x g1) fun vs H2 rs s2 Z2 ρ2 e2 p2 hl rel2 g2 => ?_
    refine call_end (rs := r1 :: rs) (vs := .ref a :: vs) (run_call n) hn ?_ (by simp [hl]) (GoesX.g g2)
    rw [List.zip_cons_cons, List.reverse_cons, List.append_assoc]
    exact rel2
  · rw [if_neg hi] at g1; exact g1.elim
theorem ce_methSl0 {pl : Sem Bool} (ho : CE X G W tb c o io) (cl : SlCls G X ci C names) (hm : Meth X.K C m f) (F : FnR X.prog X.w X.K X.mg X.base CXp k f (spD G c fi np)) (hn : NpOk c fi np) (hr : Room k X.A) (hx : PassW CXp X W)
    (ht : eval (.Call (.Attribute o m apos) [] [] pos) X.env = (do
      let ov ← eval o X.env; standAt apos.atName; let (f, first) ← holding [ov] (getMethod ov m pl); callWith pos f first (backTo pos (starEach [] X.env)) (backToKw pos (keywordEach [] X.env))) := by rfl) :
    CE X G W tb c (.Call (.Attribute o m apos) [] [] pos) (.mcall ci fi io []) := by
  refine ce_of (fun n => pe_methSlW0 (pl := pl) (ho n) cl.cls hm F hr hx ht) fun n σ H Q ⟨Z, Fr, ρ, s, P, rel, g⟩ => ?_
  refine goes_bind [] rel g fun v H1 r1 s1 Z1 ρ1 e1 p1 rel1 g1 => ?_
  unfold mcallR at g1
  by_cases hi : isIns s1 ci r1 = true
  · rw [if_pos hi] at g1
    obtain ⟨a, vs, rfl, hI⟩ := isIns_at rel1 rel1.head hi
    obtain ⟨_, dx, ws, h1, _⟩ := cl.ins hI
    exact ⟨a, dx, ws, rfl, h1.slt, call_end (rs := [r1]) (vs := [.ref a]) (run_call n) hn rel1 rfl g1⟩
  · rw [if_neg hi] at g1; exact g1.elim
end
end Ri

set_option maxRecDepth 100000
/-! Rx, part E: a lambda without parameters, handed to a def that does it and catches. -/
namespace Ri
open PySem PySem.Spec PyProof.Rows L2
theorem slo_code {a C dx c : Addr} {ws : List (Option V)} {q : Str} : SlX.SlO a C dx ws ≠ LamX.CodeO c q := fun z => by
  unfold SlX.SlO LamX.CodeO at z
  have e := HO.ext.inj z
  let ob : Obj := { cls := .none, data := .fields #[.none, .str q 0] }
  let h : Heap := { objs := Array.replicate (c + 1) ob }
  have g : ∀ b, h.get? b = if b < c + 1 then some ob else none := fun b => by
    have e1 : h.objs[b]? = if b < c + 1 then some ob else none := Array.getElem?_replicate ..
    unfold Heap.get?
    rw [e1]
    by_cases hb : b < c + 1
    · rw [if_pos hb]
    · rw [if_neg hb]
  have k := congrFun e h
  have r : ∃ (oc : Obj) (vs : Array Value) (t : Tok), h.get? c = some oc ∧ oc.data = .fields vs ∧ vs[1]? = some (.str q t) := ⟨ob, _, 0, by rw [g, if_pos (Nat.lt_succ_self c)], rfl, rfl⟩
  rw [← k] at r
  obtain ⟨sl, r1, _⟩ := r
  rw [g] at r1
  split at r1
  · have := congrArg Obj.data (Option.some.inj r1)
    cases this
  · cases r1
section
variable {G : Cfg} {Z F H H1 : Hp} {ρ : List Addr} {s : S} {σ : L2.St} {P : List (R × V)} {q : Str} {n : Nat}
theorem lst_code {xs : List V} {c : Addr} : HO.lst xs ≠ LamX.CodeO c q := fun z => by unfold LamX.CodeO at z; cases z
theorem ins_code {C dx : Addr} {fs : List (Str × V)} {c : Addr} : HO.ins C dx fs ≠ LamX.CodeO c q := fun z => by unfold LamX.CodeO at z; cases z
theorem own_code {x c : Addr} : LamX.CodeO c q ≠ HO.own x := fun z => by unfold LamX.CodeO at z; cases z
theorem InsAt.ext {a : Addr} {c : Nat} {vs : List (Option V)} (h : InsAt G H a c vs) (e : LamX.ExtN H H1) : InsAt G H1 a c vs := by
  obtain ⟨ci, dx, h1, h2, h3⟩ := h
  refine ⟨ci, dx, h1, h2, ?_⟩
  by_cases hs : ci.slotted = true
  · rw [if_pos hs] at h3 ⊢
    obtain ⟨ws, h4, h5⟩ := h3
    refine ⟨ws, ?_, h5⟩
    rcases h4 with ⟨p, o, z⟩ | ⟨p, z⟩
    · exact .inl ⟨e _ _ p (fun _ w => nomatch w), e _ _ o (fun _ w => nomatch w), z⟩
    · exact .inr ⟨e _ _ p (fun _ w => nomatch w), e _ _ z (fun _ w => nomatch w)⟩
  · rw [if_neg hs] at h3 ⊢
    obtain ⟨fs, h4, h5, h6, h7⟩ := h3
    exact ⟨fs, e _ _ h4 (fun _ w => nomatch w), e _ _ h5 (fun _ w => nomatch w), h6, h7⟩
theorem InsAt.code {a c' : Addr} {c : Nat} {vs : List (Option V)} (h : InsAt G H a c vs) : H a ≠ some (LamX.CodeO c' q) := fun z => by
  obtain ⟨ci, dx, _, _, h3⟩ := h
  split at h3
  · obtain ⟨ws, (⟨p, _⟩ | ⟨p, _⟩), _⟩ := h3
    · rw [z] at p; exact ins_code (Option.some.inj p).symm
    · rw [z] at p; exact slo_code (Option.some.inj p).symm
  · obtain ⟨fs, p, _⟩ := h3
    rw [z] at p; exact ins_code (Option.some.inj p).symm
open Classical in
/-- what a lambda's making adds never changes -/
noncomputable def Zc1 (Z H1 : Hp) : Hp := fun b => if Z b = none ∧ ∃ q, H1 b = some (LamX.CodeO b q) then H1 b else Z b
/-- the tables that are known -/
def tabsOf (G : Cfg) : List O → List (Addr × Str)
  | [] => []
  | .tab q :: r => (G.tabP q, q) :: tabsOf G r
  | _ :: r => tabsOf G r
theorem tabsOf_mem {p : Addr × Str} : ∀ {hp : List O}, p ∈ tabsOf G hp → p.1 = G.tabP p.2 ∧ ∃ i : Nat, hp[i]? = some (.tab p.2)
  | [], h => by cases h
  | .tab q :: r, h => by
    rcases List.mem_cons.mp h with z | z
    · subst z; exact ⟨rfl, 0, rfl⟩
    · obtain ⟨h1, i, h2⟩ := tabsOf_mem z; exact ⟨h1, i + 1, by simpa using h2⟩
  | .lst _ :: r, h => by obtain ⟨h1, i, h2⟩ := tabsOf_mem (hp := r) h; exact ⟨h1, i + 1, by simpa using h2⟩
  | .ins _ _ :: r, h => by obtain ⟨h1, i, h2⟩ := tabsOf_mem (hp := r) h; exact ⟨h1, i + 1, by simpa using h2⟩
theorem mem_tabsOf {q : Str} : ∀ {hp : List O} {i : Nat}, hp[i]? = some (.tab q) → (G.tabP q, q) ∈ tabsOf G hp
  | [], _, h => by simp at h
  | o :: r, 0, h => by simp at h; subst h; exact List.mem_cons_self ..
  | o :: r, i + 1, h => by
    have := mem_tabsOf (hp := r) (i := i) (by simpa using h)
    cases o with
    | tab q' => exact List.mem_cons_of_mem _ this
    | lst _ => exact this
    | ins _ _ => exact this
theorem Rel.tabs (r : Rel G Z F ρ s σ H P) : LamX.Tabs (tabsOf G s.hp) H := fun p hp => by
  obtain ⟨e, i, hi⟩ := tabsOf_mem hp
  have hl : i < ρ.length := by rw [← r.len]; exact (List.getElem?_eq_some_iff.mp hi).1
  obtain ⟨e0, ps, t1, t2, t3⟩ := r.hp i _ _ hi (List.getElem?_eq_getElem hl)
  rw [e0] at t1
  rw [e]
  exact ⟨ps, t1, t2, fun pos cv hc => let ⟨c, e1, e2⟩ := t3 pos cv hc; ⟨c, e1, r.zs _ _ e2⟩⟩
theorem Rel.tabu (r : Rel G Z F ρ s σ H P) (hn : s.hp[n]? = some (.tab q)) : ∀ p ∈ tabsOf G s.hp, p.1 = G.tabP q → p.2 = q := fun p hp e => by
  obtain ⟨e', i, hi⟩ := tabsOf_mem hp
  have at_ : ∀ (k : Nat) (q' : Str), s.hp[k]? = some (.tab q') → ρ[k]? = some (G.tabP q') := fun k q' h => by
    have hl : k < ρ.length := by rw [← r.len]; exact (List.getElem?_eq_some_iff.mp h).1
    have := (r.hp k _ _ h (List.getElem?_eq_getElem hl)).1
    rw [List.getElem?_eq_getElem hl, this]
  have a1 := at_ i _ hi
  have a2 := at_ n _ hn
  rw [← e', e] at a1
  have := r.uq _ (.hp i) (.hp n) a1 a2
  cases this
  rw [hn] at hi
  cases hi
  rfl
theorem Rel.extN (r : Rel G Z F ρ s σ H P) (e : LamX.ExtN H H1) (t : LamX.Tabs (tabsOf G s.hp) H1) : Same Z (Zc1 Z H1) ∧ Rel G (Zc1 Z H1) F ρ s σ H1 P := by
  have old : ∀ b o, Z b = some o → Zc1 Z H1 b = some o := fun b o h => by
    unfold Zc1
    rw [if_neg (fun z => by rw [h] at z; exact nomatch z.1)]; exact h
  have new : ∀ b q, Z b = none → H1 b = some (LamX.CodeO b q) → Zc1 Z H1 b = some (LamX.CodeO b q) := fun b q h g => by
    unfold Zc1
    rw [if_pos ⟨h, q, g⟩, g]
  have out : ∀ b o, Zc1 Z H1 b = some o → Z b = some o ∨ (Z b = none ∧ (∃ q, o = LamX.CodeO b q) ∧ H1 b = some o) := fun b o h => by
    unfold Zc1 at h
    split at h
    · rename_i g
      obtain ⟨g1, q, g2⟩ := g
      rw [g2] at h
      have := Option.some.inj h
      subst this
      exact .inr ⟨g1, ⟨q, rfl⟩, g2⟩
    · exact .inl h
  have sz : Same Z (Zc1 Z H1) := fun b o h => old b o h
  have kz : ∀ b o, Z b = some o → H1 b = some o := fun b o h => e _ _ (r.zs _ _ h) fun ps z => by subst z; exact (r.nt b).1 ps h
  have kf : ∀ b o, F b = some o → H1 b = some o := fun b o h => by
    obtain ⟨vs, rfl⟩ := (r.nt b).2 o h
    exact e _ _ (r.fs _ _ h) fun _ z => nomatch z
  have crep : ∀ {c : C} {o : HO}, CRep G Z ρ c o → ∀ ps, o ≠ .tbl ps := fun h => crep_nt h
  have fnew : ∀ b q, Z b = none → H1 b = some (LamX.CodeO b q) → F b = none := fun b q h g => by
    cases z : F b with
    | none => rfl
    | some o =>
      obtain ⟨vs, rfl⟩ := (r.nt b).2 o z
      rw [kf _ _ z] at g
      exact absurd (Option.some.inj g) lst_code
  refine ⟨sz, fun b o h => ?_, kf, r.len, fun i o a h1 h2 => ?_, r.slen, fun i x h => ?_, fun i x v h => ?_, r.uq, fun b w h => ⟨?_, (r.zo b w h).2⟩, fun b x => ⟨fun h => ?_, (r.no b x).2.1, ?_⟩, fun b => ⟨fun ps h => ?_, (r.nt b).2⟩⟩
  · rcases out b o h with z | ⟨_, _, z⟩
    · exact kz b o z
    · exact z
  · have g := r.hp i o a h1 h2
    cases o with
    | lst xs => obtain ⟨vs, g1, g2⟩ := g; exact ⟨vs, e _ _ g1 (fun _ z => nomatch z), g2.mono sz (List.prefix_refl _)⟩
    | ins c fs =>
      obtain ⟨vs, g1, g2, g3⟩ := g
      refine ⟨vs, g1.ext e, g2, fun j => ?_⟩
      have := g3 j
      split <;> rename_i e' <;> rw [e'] at this
      · obtain ⟨v, k1, k2⟩ := this; exact ⟨v, k1, k2.mono sz (List.prefix_refl _)⟩
      · exact this
      · trivial
    | tab q' =>
      obtain ⟨rfl, _⟩ := g
      obtain ⟨ps, t1, t2, t3⟩ := t _ (mem_tabsOf h1)
      refine ⟨rfl, ps, t1, t2, fun pos cv hc => ?_⟩
      obtain ⟨c, e1, e2⟩ := t3 pos cv hc
      refine ⟨c, e1, ?_⟩
      cases z : Z c with
      | none => exact new c _ z e2
      | some o =>
        rw [old c o z]
        have := kz c o z
        rw [e2] at this
        exact this.symm
  · obtain ⟨v, g1, g2⟩ := r.sl i x h
    refine ⟨v, g1, ?_⟩
    cases x with
    | val d => exact DRep.mono sz (List.prefix_refl _) g2
    | own c =>
      obtain ⟨a, o, rfl, k1, k2⟩ := g2
      exact ⟨a, o, rfl, e _ _ k1 (crep k2), k2.mono sz (List.prefix_refl _)⟩
    | bor c =>
      obtain ⟨a, o, rfl, k1, k2⟩ := g2
      exact ⟨a, o, rfl, k1, k2.mono sz (List.prefix_refl _)⟩
  · have g := r.pd i x v h
    cases x with
    | val d => exact DRep.mono sz (List.prefix_refl _) g
    | own c =>
      obtain ⟨a, o, rfl, k1, k2⟩ := g
      exact ⟨a, o, rfl, e _ _ k1 (crep k2), k2.mono sz (List.prefix_refl _)⟩
    | slot j => exact g
  · cases z : Zc1 Z H1 b with
    | none => rfl
    | some o =>
      exfalso
      rcases out b o z with y | ⟨y, ⟨q, rfl⟩, y2⟩
      · rw [(r.zo b w h).1] at y; cases y
      · have notc : ∀ u, H b = some u → (∀ ps, u ≠ .tbl ps) → u = LamX.CodeO b q := fun u hu hu2 => by
          have := e _ _ hu hu2
          rw [y2] at this
          exact (Option.some.inj this).symm
        cases w with
        | hp i =>
          have hi : i < s.hp.length := by rw [r.len]; exact (List.getElem?_eq_some_iff.mp h).1
          have g := r.hp i _ _ (List.getElem?_eq_getElem hi) h
          cases qq : s.hp[i] with
          | lst xs =>
            rw [qq] at g
            obtain ⟨vs, g1, _⟩ := g
            exact lst_code (notc _ g1 fun _ z => nomatch z)
          | ins c fs =>
            rw [qq] at g
            obtain ⟨vs, g1, _⟩ := g
            exact (g1.ext e).code y2
          | tab q' =>
            rw [qq] at g
            obtain ⟨rfl, _⟩ := g
            obtain ⟨ps, t1, _⟩ := t _ (mem_tabsOf (show s.hp[i]? = some (.tab q') by rw [List.getElem?_eq_getElem hi, qq]))
            rw [t1] at y2
            exact LamX.codeO_ne ps (Option.some.inj y2).symm
        | sl i =>
          obtain ⟨o, ho⟩ := r.alive h
          obtain ⟨vs, rfl⟩ := r.ntb (by intro k z; cases z) h ho
          exact lst_code (notc _ ho fun _ z => nomatch z)
        | pd i =>
          obtain ⟨o, ho⟩ := r.alive h
          obtain ⟨vs, rfl⟩ := r.ntb (by intro k z; cases z) h ho
          exact lst_code (notc _ ho fun _ z => nomatch z)
  · rcases out b _ h with y | ⟨_, ⟨q, y⟩, _⟩
    · obtain ⟨u, hu⟩ := (r.no b x).1 y
      exact ⟨u, old _ _ hu⟩
    · exact absurd y.symm own_code
  · cases z : Zc1 Z H1 b with
    | none => exact .inl rfl
    | some o =>
      rcases out b o z with y | ⟨y, ⟨q, rfl⟩, y2⟩
      · rcases (r.no b x).2.2 with w | w
        · rw [w] at y; cases y
        · exact .inr w
      · exact .inr (fnew b _ y y2)
  · rcases out b _ h with y | ⟨_, ⟨q, y⟩, _⟩
    · exact (r.nt b).1 ps y
    · exact LamX.codeO_ne ps y.symm
end
section
variable {G : Cfg} {Z F H : Hp} {ρ : List Addr} {s : S} {σ : L2.St} {P : List (R × V)}
/-- slots of which nothing is known -/
theorem Rel.blank {hp : List O} (r : Rel G Z F ρ ⟨[], hp⟩ [] H P) (ns : NoSlot P) (τ : L2.St) : Rel G Z F ρ ⟨List.replicate τ.length none, hp⟩ τ H P := by
  have no : ∀ (j : Nat) (x : SV), (List.replicate τ.length (none : Option SV))[j]? ≠ some (some x) := fun j x h => by
    rw [List.getElem?_replicate] at h
    split at h <;> cases h
  have own : ∀ b w, Owns ρ (List.replicate τ.length (none : Option SV)) τ P b w → Owns ρ ([] : List (Option SV)) ([] : L2.St) P b w := fun b w h => by
    cases w with
    | hp k => exact h
    | pd k => exact h
    | sl k => obtain ⟨⟨c, hc⟩, _⟩ := h; exact absurd hc (no k _)
  refine ⟨r.zs, r.fs, r.len, r.hp, by simp, fun j x h => absurd h (no j x), fun j x u h => ?_, fun b x y h1 h2 => r.uq b x y (own _ _ h1) (own _ _ h2), fun b x h => r.zo b x (own _ _ h), r.no, r.nt⟩
  have g := r.pd j x u h
  cases x with
  | val d => exact g
  | own c => exact g
  | slot k => exact absurd h (ns j k u)
end
theorem CHs.low {X : Cx} {G : Cfg} {hds : List ExceptHandler} {hs : List Hd} (hh : CHs X G hds hs) : ∀ h ∈ hs, ∀ i, h.nm = some i → i < X.N.length := by
  induction hh with
  | nil => intro h hm; cases hm
  | plain nm ex he r ih =>
    intro h hm i e
    rcases List.mem_cons.mp hm with z | z
    · subst z; cases e
    · exact ih h z i e
  | @named x n i₀ c e np rp hpos hds hs cs hx nm hi hl ex he r ih =>
    intro h hm i e
    rcases List.mem_cons.mp hm with z | z
    · subst z
      cases e
      exact (List.getElem?_eq_some_iff.mp hi).1
    · exact ih h z i e
theorem caught_mem {c : Nat} {h : Hd} : ∀ {hs : List Hd}, caught c hs = some h → h ∈ hs
  | [], e => by cases e
  | k :: hs, e => by
    rw [caught] at e
    split at e
    · cases e; exact List.mem_cons_self ..
    · exact List.mem_cons_of_mem _ (caught_mem e)
/-- what is told of an exception, in the frame of the one who asked -/
def Eo (G : Cfg) (hs : List Hd) (Q : VK) : XK := fun cls d H => ∃ Z F ρ s σ P x h y, Rel G Z F ρ s σ H P ∧ XRep G Z ρ H x cls d ∧ caught x.c hs = some h ∧ hxv x.fs h.rv = some y ∧
  ∀ v H2 Z2 ρ2, Same Z Z2 → ρ <+: ρ2 → Rel G Z2 F ρ2 s σ H2 ((.val y, v) :: P) → Q v H2
def TTm (G : Cfg) (hs : List Hd) : (XK → Hp → VK → Prop) → Hp → VK → Prop := fun tl H Q => tl (Eo G hs Q) H fun _ H1 => Q .non H1
theorem Takes.len {X : Cx} {W : WX} (t : Takes X W) : Takes X (fun cls d τ H => τ.length = X.N.length → W cls d τ H) := fun u s' ⟨a, B, sI, pins, σ, H, cls, d, e, I, nb, up, sky, na, os, ag, w⟩ =>
  t u s' ⟨a, B, sI, pins, σ, H, cls, d, e, I, nb, up, sky, na, os, ag, w I.len⟩
section
variable {X : Cx} {G : Cfg}
theorem eo_wish {X' : Cx} {hs : List Hd} {l : List Cl} {Q : VK} {D : Ends} (hD : D.rt = Q) (low : ∀ h ∈ hs, ∀ i, h.nm = some i → i < X'.N.length)
    (k2 : ∀ (D : Ends) (Z F : Hp) (ρ : List Addr) (s : S) (σ : L2.St) (H : Hp) (P : List (R × V)) (x : Xc) (cls : Value) (d : Option Addr), NoSlot P → Rel G Z F ρ s σ H P → XRep G Z ρ H x cls d → GoesS G (fun _ _ _ _ => False) Z F ρ P (catchR hs x s) D → wCl X'.K (fun _ _ _ _ => False) D l cls d σ H)
    {cls : Value} {d : Option Addr} {H : Hp} (h : Eo G hs Q cls d H) (τ : L2.St) (ht : τ.length = X'.N.length) : wCl X'.K (fun _ _ _ _ => False) D l cls d τ H := by
  obtain ⟨Z, F, ρ, s, σ, P, x, hd, y, rel, xr, hc, hv, q⟩ := h
  have r1 := Rel.callee (L := []) (P := P) (rs := []) (vs := []) (svs := []) rel rfl rfl (fun j => j) (fun j x v h => by simp at h) (fun j k hj => by simp at hj)
  have r2 := r1.blank NoSlot.nil τ
  refine k2 D Z _ ρ _ τ H [] x cls d NoSlot.nil r2 xr ?_
  have fin : ∀ (sl : List (Option SV)), GoesS G (fun _ _ _ _ => False) Z (frame F ρ s σ [] P H) ρ [] (ok (.ret (.val y)) ⟨sl, s.hp⟩) D := fun sl v τ2 H2 Z2 ρ2 e2 p2 r3 => by
    rw [hD]
    have r4 := r3.leave (noSlot1 fun i z => by cases z)
    have r5 := Rel.back (L := []) (P := P) (M := [(.val y, v)]) rel e2 p2 r4
    exact q v H2 Z2 ρ2 e2 p2 r5
  unfold catchR
  rw [hc]
  dsimp only
  rw [hv]
  dsimp only
  cases hn : hd.nm with
  | none => exact fin _
  | some i =>
    dsimp only
    rw [if_pos (by rw [List.length_replicate, ht]; exact low hd (caught_mem hc) i hn)]
    exact fin _
theorem told_gives {Ng : List Str} {x a q : Str} {sg : Scope} {g : Addr} {cdg : Value} {h₀ : ExceptHandler} {hds : List ExceptHandler} {hs : List Hd} {j : Nat} {p1 p2 p3 p4 p5 p6 : Pos} (nd : Ng.Nodup) (h0 : ∀ f : Addr, (L2.start Ng [V.ref f])[0]? = some (some (V.ref f)))
    (hh : ∀ (s : Shared) (H : Hp), CHs ((cxOf C8.CX0 X.prog X.w X.K X.mg X.base Ng x sg g cdg X.A X.stack s H C8.E0).nox) G (h₀ :: hds) hs) :
    LamX.GivesTo X Ng x sg g cdg [.Try [.Expr (.Call (.Name a p1) [] [] p2) p3] (h₀ :: hds) [] [] p4, .Return (some (.Constant .none j p5)) p6] a q (TTm G hs) := by
  intro f c' s H Q tl act hc h
  obtain ⟨l, k1, k2⟩ := (hh s H).cl (W := fun _ _ _ _ => False)
  refine ⟨_, pss_cons (ps_tryCl (X := (cxOf C8.CX0 X.prog X.w X.K X.mg X.base Ng x sg g cdg X.A X.stack s H C8.E0).nox)
      (tb := fun W D σ H => ∃ Ech : XK, (∀ cls d τ H', Ech cls d H' → τ.length = Ng.length → W cls d τ H') ∧ σ[0]? = some (some (.ref f)) ∧ H c' = some (LamX.CodeO c' q) ∧ tl Ech H fun _ H1 => D.nx σ H1)
      rfl rfl nd LamX.takes0 (fun W pn xe tk _ => ?_) k1) (pss_cons (ps_ret pe_non) pss_nil), ?_⟩
  · refine ⟨fun pins s' σ H' D I h' => ?_⟩
    obtain ⟨Ech, hW, h1, h2, h3⟩ := h'
    have hp := act _ pn xe Ech p1 p2 (Takes.len tk) hW
    exact (pss_cons (ps_expr (pos := p3) hp) pss_nil).run pins s' σ H' D I ⟨h1, h2, h3⟩
  · exact ⟨Eo G hs Q, fun cls d τ H' hE hl => eo_wish rfl (hh s H).low k2 hE τ hl, h0 f, hc, h⟩
theorem ce_told {W : WX} {tb : Tb} {cf : CallF} {x a : Str} {g c : Addr} {k n : Nat} {pg : Arguments} {sg : Scope} {fd : FuncData} {Ng : List Str} {hs : List Hd} {ia : E} {h₀ : ExceptHandler} {hds : List ExceptHandler} {j : Nat} {q1 q2 q3 q4 q5 q6 : Pos}
    {params : Arguments} {body : Expr} {scope : Scope} {p lpos pos : Pos} (hg : Gl X x) (hm : X.mg x = some (.ref g)) (hk : PySem.W.keepIn X.K (.ref g) = true)
    (Fd : FunD X.K x x pg [.Try [.Expr (.Call (.Name a q1) [] [] q2) q3] (h₀ :: hds) [] [] q4, .Return (some (.Constant .none j q5)) q6] sg [] [] g fd) (hb : L2.Binds X.K fd [a] []) (Sg : FnScope Ng [a] sg) (hNg : Ng[0]? = some a) (hva : Vis sg a) (hNl : ∀ f : Addr, (L2.start Ng [V.ref f])[0]? = some (some (V.ref f)))
    (hh : ∀ (cdg : Value) (s : Shared) (H : Hp), CHs ((cxOf C8.CX0 X.prog X.w X.K X.mg X.base Ng x sg g cdg X.A X.stack s H C8.E0).nox) G (h₀ :: hds) hs)
    (TB : LamX.TabB X.base X.mg c (G.tabP (X.env.qual ++ "<lambda>"))) (hcode : X.env.code = .ref c) (hr : Room (k + 2) X.A) (L : LamX.LamS X.env.scope scope) (hdef : defaultsOf params X.env = ([], []))
    (hbind : ∀ (q : Str) (cl : List (Str × Addr)) (pm cv ctv : Value), bindArgs (PySem.W.kla_fn "<lambda>" q params body scope cl pm cv ctv) ⟨[], []⟩ = pure [])
    (hbody : ∀ (A : Around) (outer : List Env) (s : Shared) (H : Hp) (E : XK) (f c' : Addr), Room k (A.deeper (LamX.lamEnv X scope s.heap.objs.size f c')) → CE (LamX.lamCx X A outer s H E scope f c') G (fun cls d _ H => E cls d H) tb cf body ia)
    (hdb : (x == ("__debug__" : Str)) = false := by decide) (hd : (a == ("__debug__" : Str)) = false := by decide) (hcd : (a == ("__classdict__" : Str)) = false := by decide) :
    CE X G W tb cf (.Call (.Name x p) [.Lambda params body scope lpos] [] pos) (.told n (X.env.qual ++ "<lambda>") hs ia) := by
  obtain ⟨oc, od, dV, kV, doc, pm, an, cdv, ct, osl, rfl, lk, hcg, _, _⟩ := Fd.ex
  intro m'
  cases m' with
  | zero => exact ⟨fun pins s σ H Q I ⟨_, _, _, _, _, _, z⟩ => z.elim⟩
  | succ m =>
  refine ⟨fun pins s' σ H Q I ⟨Z, F, ρ, s, P, rel, gg⟩ => ?_⟩
  replace gg : Goes G W Z F ρ σ P (if isTab s n (X.env.qual ++ "<lambda>") then toldR hs ((run tb cf m).ex ia s) else none) Q := gg
  by_cases ht : isTab s n (X.env.qual ++ "<lambda>") = true
  · rw [if_pos ht] at gg
    have hn : s.hp[n]? = some (.tab (X.env.qual ++ "<lambda>")) := by
      unfold isTab at ht
      split at ht
      · rename_i p' e
        rw [e, of_decide_eq_true ht]
      · cases ht
    refine (LamX.pe_lamcall (T := tabsOf G s.hp) (TT := TTm G hs) (t := fun E => T G (fun cls d _ H => E cls d H) ((run tb cf m).ex ia)) hg hm hk lk hcg hb Sg hNg hva
      (told_gives Sg.nd hNl fun s H => hh cdv s H) TB hcode (mem_tabsOf hn) (rel.tabu hn) hr L hdef hbind (fun A outer s H E f c' hr' => hbody A outer s H E f c' hr' m) hdb hd hcd).run pins s' σ H Q I ⟨rel.tabs, fun H1 eN T1 => ?_⟩
    obtain ⟨sz, r1⟩ := rel.extN eN T1
    refine ⟨_, F, ρ, s, P, r1, ?_⟩
    rcases q : (run tb cf m).ex ia s with _ | ⟨x1 | r, s'⟩
    · rw [q] at gg; exact gg
    · rw [q] at gg
      intro cls d H2 Z2 ρ2 e2 p2 xr r2
      unfold toldR at gg
      dsimp only at gg
      cases hc : caught x1.c hs with
      | none => rw [hc] at gg; exact gg.elim
      | some hd' =>
        rw [hc] at gg
        dsimp only at gg
        cases hv : hxv x1.fs hd'.rv with
        | none => rw [hv] at gg; exact gg.elim
        | some y =>
          rw [hv] at gg
          exact ⟨Z2, F, ρ2, s', σ, P, x1, hd', y, r2, xr, hc, hv, fun v H3 Z3 ρ3 e3 p3 r3 => gg v H3 Z3 ρ3 ((sz.trans e2).trans e3) (List.IsPrefix.trans p2 p3) r3⟩
    · rw [q] at gg
      intro v H2 Z2 ρ2 e2 p2 r2
      exact gg .non H2 Z2 ρ2 (sz.trans e2) p2 (r2.pop.pushVal .non)
  · rw [if_neg ht] at gg; exact gg.elim
end
end Ri

set_option maxRecDepth 100000
/-! Rx, part F: the facts of exception classes, as the head sees them. -/
namespace Ri
open PySem PySem.Spec PyProof.Rows L2 He
def oexObj (K : PySem.W.Frag) (C : Addr) : Bool := match K.lookup C with
  | some ⟨.type "type", _, .cls cd, sl⟩ => (match cd.mro, sl.toList with
    | .ref C' :: bm, [_, _, _, _, some (.builtin n), _] => C' == C && (n == "ValueError.__new__" && (cd.hasDict && (!cd.hasDel && PySem.HandSPX.refsVE bm)))
    | _, _ => false)
  | _ => false
theorem oexObj_ok {K : PySem.W.Frag} {C : Addr} (h : oexObj K C = true) : ∃ nm q N bs bm sn sub ab col dd k0 k1 k2 k3 k5, K.lookup C = some (excClassObj nm q C N bs bm true sn sub ab col dd k0 k1 k2 k3 k5 "ValueError.__new__") ∧ PySem.HandSPX.refsVE bm = true := by
  unfold oexObj at h
  split at h
  · rename_i dd cd sl ho
    split at h
    · rename_i C' bm k0 k1 k2 k3 n k5 hm hs
      simp only [Bool.and_eq_true, beq_iff_eq, Bool.not_eq_true'] at h
      obtain ⟨rfl, rfl, hd, hdel, hr⟩ := h
      obtain ⟨nm, bs, mro, ns, qn, hdc, sn, sub, ab, col, del⟩ := cd
      dsimp only at hm hdel hd
      subst hm hdel hd
      have hsl : sl = #[k0, k1, k2, k3, some (.builtin "ValueError.__new__"), k5] := by
        obtain ⟨l⟩ := sl
        simp only at hs
        rw [hs]
      subst hsl
      exact ⟨nm, qn, ns, bs, bm, sn, sub, ab, col, dd, k0, k1, k2, k3, k5, ho, hr⟩
    · cases h
  · cases h
/-- an own exception class with an __init__ of its own, its fields -/
def oexB (K : PySem.W.Frag) (x : Str) (fs : List Str) : Bool :=
  oexObj K (ga K x) && (eqO (PySem.W.findIn K (.ref (ga K x)) "__setattr__") (some (some (.builtin "object.__setattr__"))) && (decide (PySem.W.subIn K (.ref (ga K x)) (.type "BaseException") = some true) && (decide (PySem.W.typeIn K (.ref (ga K x)) = some (.type "type")) && (PySem.W.keepIn K (.ref (ga K x)) &&
  ((fs.all fun f => eqO (PySem.W.findIn K (.ref (ga K x)) f) (some none)) && (eqO (PySem.W.findIn K (.ref (ga K x)) "__init__") (some (some (.ref (ma K (ga K x) "__init__")))) && decide (PySem.W.typeIn K (.ref (ma K (ga K x) "__init__")) = some (.type "function"))))))))
theorem oexB_ok {K : PySem.W.Frag} {x : Str} {fs : List Str} (h : oexB K x fs = true) : OexC K (ga K x) ∧ (∀ f ∈ fs, PySem.W.findIn K (.ref (ga K x)) f = some none) ∧ PySem.W.findIn K (.ref (ga K x)) "__init__" = some (some (.ref (ma K (ga K x) "__init__"))) ∧ PySem.W.typeIn K (.ref (ma K (ga K x) "__init__")) = some (.type "function") := by
  obtain ⟨h1, h⟩ := ba h
  obtain ⟨h2, h⟩ := ba h
  obtain ⟨h3, h⟩ := ba h
  obtain ⟨h4, h⟩ := ba h
  obtain ⟨h5, h⟩ := ba h
  obtain ⟨h6, h⟩ := ba h
  obtain ⟨h7, h8⟩ := ba h
  exact ⟨⟨oexObj_ok h1, eqO_ok h2, of_decide_eq_true h3, of_decide_eq_true h4, h5⟩, fun f hf => eqO_ok (List.all_eq_true.mp h6 f hf), eqO_ok h7, of_decide_eq_true h8⟩
/-- the base class, whose __init__ is ValueError's -/
def soB (K : PySem.W.Frag) (x : Str) : Bool := PySem.W.readsIn K (ga K x) (.type "type") && (eqO (PySem.W.specialIn K (.ref (ga K x)) "__getattribute__") (some (some (.builtin "type.__getattribute__"))) && (match PySem.W.findCls K (.ref (ga K x)) (.type "type") "__init__" with
  | some (.val (.builtin n)) => n == "ValueError.__init__"
  | _ => false))
theorem soB_ok {K : PySem.W.Frag} {x : Str} (h : soB K x = true) : ClX.CRead K (ga K x) (.type "type") ∧ PySem.W.findCls K (.ref (ga K x)) (.type "type") "__init__" = some (.val (.builtin "ValueError.__init__")) := by
  obtain ⟨h1, h⟩ := ba h
  obtain ⟨h2, h3⟩ := ba h
  refine ⟨⟨h1, eqO_ok h2⟩, ?_⟩
  split at h3
  · rename_i n e
    rw [e, eq_of_beq h3]
  · cases h3
/-- fields of a caught exception can be read -/
def xfcB (K : PySem.W.Frag) (x : Str) : Bool := xfB K (ga K x)
theorem xfcB_ok {K : PySem.W.Frag} {x : Str} (h : xfcB K x = true) : XfC K (ga K x) := xfB_ok h
theorem fm_ok {G : Cfg} {Z : Hp} {ρ : List Addr} {ds : List D} {vs : List V} (h : DReps G Z ρ ds vs) (g : fmOk ds = true) : Fm vs := by
  unfold fmOk at g
  split at g
  · rename_i x
    cases h with
    | cons h1 h2 =>
      cases h2
      cases h1 with
      | str _ _ _ => exact ⟨_, rfl, .inl ⟨x, rfl, of_decide_eq_true g⟩⟩
  · rename_i i
    cases h with
    | cons h1 h2 =>
      cases h2
      cases h1 with
      | int _ => exact ⟨_, rfl, .inr ⟨i, rfl, of_decide_eq_true g⟩⟩
  · cases g
section
variable {X : Cx} {G : Cfg} {W : WX} {tb : Tb} {c : CallF} {C fI : Addr} {ci : Nat} {x : Str} {p p3 pos : Pos} {e : Expr} {es : List Expr} {is : List E} {ps ns : List Str}
/-- raise X(e, ..), the message a text -/
theorem cs_raiseS (hc : X.calm = true) (tk : Takes X W) (hx : G.xcl ci = some (C, ns)) (hn : ns.length = 1 ∨ (ns.length = 2 ∧ ns.Nodup)) (T : OexC X.K C ∧ (∀ f ∈ ns, PySem.W.findIn X.K (.ref C) f = some none) ∧ PySem.W.findIn X.K (.ref C) "__init__" = some (some (.ref fI)) ∧ PySem.W.typeIn X.K (.ref fI) = some (.type "function"))
    (F1 : ∃ fd, FnOk X.prog X.w X.K X.mg X.base (CX X.prog X.w) 1 fI fd ps (spI X.K (fun _ => True) ns) ∧ Binds X.K fd ps []) (hr : Room 2 X.A) (hlen : (e :: es).length = ns.length) (hi : is.length = (e :: es).length) (hg : Gl X x) (hm : X.mg x = some (.ref C)) (ha : CDs X G W tb c (e :: es) is)
    (hdb : (x == ("__debug__" : Str)) = false := by decide) (he : starEach (e :: es) X.env = (false, eval e X.env) :: starEach es X.env := by rfl) (hpl : (backTo p3 (starEach es X.env)).any (·.1) = false := by rfl) :
    CS X G W tb c (.Raise (some (.Call (.Name x p) (e :: es) [] p3)) none pos) (.raise_ false ci is) := by
  obtain ⟨fd, F, hb⟩ := F1
  exact cs_raise1 hc tk hx hn T.1 T.2.1 T.2.2.1 T.2.2.2 F hr hb (fun _ _ _ _ _ _ => trivial) hlen hi hg hm ha hdb he hpl
/-- .. the message tells what is given -/
theorem cs_raiseF (hc : X.calm = true) (tk : Takes X W) (hx : G.xcl ci = some (C, ns)) (hn : ns.length = 1 ∨ (ns.length = 2 ∧ ns.Nodup)) (T : OexC X.K C ∧ (∀ f ∈ ns, PySem.W.findIn X.K (.ref C) f = some none) ∧ PySem.W.findIn X.K (.ref C) "__init__" = some (some (.ref fI)) ∧ PySem.W.typeIn X.K (.ref fI) = some (.type "function"))
    (F1 : ∃ fd, FnOk X.prog X.w X.K X.mg X.base (CX X.prog X.w) 1 fI fd ps (spI X.K Fm ns) ∧ Binds X.K fd ps []) (hr : Room 2 X.A) (hlen : (e :: es).length = ns.length) (hi : is.length = (e :: es).length) (hg : Gl X x) (hm : X.mg x = some (.ref C)) (ha : CDs X G W tb c (e :: es) is)
    (hdb : (x == ("__debug__" : Str)) = false := by decide) (he : starEach (e :: es) X.env = (false, eval e X.env) :: starEach es X.env := by rfl) (hpl : (backTo p3 (starEach es X.env)).any (·.1) = false := by rfl) :
    CS X G W tb c (.Raise (some (.Call (.Name x p) (e :: es) [] p3)) none pos) (.raise_ true ci is) := by
  obtain ⟨fd, F, hb⟩ := F1
  exact cs_raise1 hc tk hx hn T.1 T.2.1 T.2.2.1 T.2.2.2 F hr hb (fun _ _ _ _ h g => fm_ok h (g rfl)) hlen hi hg hm ha hdb he hpl
end
end Ri

set_option maxRecDepth 100000
/-! Rx, part G: an exception out of a comprehension. -/
namespace Ri
open PySem PySem.Spec PyProof.Rows L2
theorem note_same {u : Value} {e1 e2 : Env} (h : e1.frame = e2.frame) : noteFrame u e1 = noteFrame u e2 := by
  unfold noteFrame PySem.frameOf
  rw [h]
section
variable {X : Cx} {pins : List (Addr × Obj)} {σ : L2.St} {H : Hp} {s s' : Shared} {E : XK}
/-- a call's exception: in flight, the state without it -/
theorem cx_air (I : Inv X pins σ H s) {u : Value} (c : CX X.prog X.w X.stack H s E u s') : ∃ (a : Addr) (B : Heap) (sI : Shared) (H' : Hp) (cls : Value) (d : Option Addr) (qs : List (Addr × Obj)) (τ : L2.St), u = .ref a ∧ Inv X qs τ H' sI ∧ (∀ b o, sI.heap.get? b = some o → b ∉ frs X.stack → B.get? b = some o) ∧ sI.heap.UpToSlots s'.heap ∧
    HandSPX.FlyingZ B X.stack a (Zc cls d) s'.heap ∧ H' a = none ∧ s'.os = sI.os ∧ AllBare s'.gens ∧ E cls d H' := by
  have air := XE.of_call (W := fun cls d _ G => E cls d G) I (fun _ _ _ z => z) c
  obtain ⟨a0, B0, H0, cls0, d0, e0, fly0, _⟩ := c
  obtain ⟨a, B, sI, qs, τ, H', cls, d, rfl, J, nb, up, sky, na, os, ag, w⟩ := air
  cases e0
  obtain ⟨_, _, _, oe, vs, T, oT, ts, g1, _, g2, g3, _, _, g4, g5, g6⟩ := fly0
  rcases sky with ⟨_, _, _, o2, v2, k1, _, k2, k3⟩ | f | ⟨_, _, _, o2, v2, T2, t2, w2, k1, _, k2, k3, _, _, k4, k5, k6⟩
  · rw [g1] at k1; cases k1
    rw [g2] at k2; cases k2
    rw [g3] at k3; cases k3
  · exact ⟨_, B, sI, H', cls, d, qs, τ, rfl, J, nb, up, f, na, os, ag, w⟩
  · rw [g1] at k1; cases k1
    rw [g2] at k2; cases k2
    rw [g3] at k3; cases k3
    rw [g4] at k4; cases k4
    rw [g5] at k5; cases k5
    rw [g6] at k6
    exact absurd (Option.some.inj k6) (by simp [rawInt])
end
theorem held_hide {B k₃ h' : Heap} {l : List Env} {a C L : Addr} {Z : Obj → Prop} {m : Str → Option Value} (hh : HandSPX.HeldZ B l a Z L k₃) (hn : k₃.Ns C m) (sb : Heap.SameBut C k₃ h') (hl : C ∉ frs l) : HandSPX.HeldZ (PySem.W.hideAll B [C]) l a Z L h' := by
  obtain ⟨st, ba, fr, oe, vs, T, oT, ts, e1, e2, e3, e4, e5, e6, e7, e8, e9⟩ := hh
  obtain ⟨oC, es, ep, gC, dC, _⟩ := hn
  have nf : ∀ b o us, k₃.get? b = some o → o.data = .fields us → b ≠ C := fun b o us h1 h2 z => by
    subst z
    rw [h1] at gC; cases gC
    rw [h2] at dC; cases dC
  refine ⟨fun b o h => ?_, ?_, ?_, oe, vs, T, oT, ts, (sb.2 a (nf a oe vs e1 e3)).trans e1, e2, e3, e4, ?_, e6, (sb.2 T (nf T oT ts e7 e8)).trans e7, e8, e9⟩
  · have h1 := PySem.W.of_hideAll _ h
    have hb : b ≠ C := fun z => by subst z; rw [PySem.W.hideAll_none [b] (List.mem_cons_self ..)] at h; cases h
    exact (sb.2 b hb).trans (st b o h1)
  · cases q : (PySem.W.hideAll B [C]).get? a with
    | none => rfl
    | some o => rw [PySem.W.of_hideAll _ q] at ba; cases ba
  · clear e1 e2 e3 e4 e5 e6 e7 e8 e9
    induction l with
    | nil => trivial
    | cons env rest ih =>
      obtain ⟨k1, ⟨L2, o, k2, k3, k4, k5⟩, k6⟩ := fr
      have hL : L2 ≠ C := fun z => hl (List.mem_filterMap.mpr ⟨env, List.mem_cons_self, by rw [k2, z]⟩)
      refine ⟨k1, ⟨L2, o, k2, ?_, (sb.2 L2 hL).trans k4, k5⟩, ih (fun hm => hl ?_) k6⟩
      · cases q : (PySem.W.hideAll B [C]).get? L2 with
        | none => rfl
        | some o2 => rw [PySem.W.of_hideAll _ q] at k3; cases k3
      · obtain ⟨v, hv, qv⟩ := List.mem_filterMap.mp hm
        exact List.mem_filterMap.mpr ⟨v, List.mem_cons_of_mem _ hv, qv⟩
  · cases q : (PySem.W.hideAll B [C]).get? T with
    | none => rfl
    | some o => rw [PySem.W.of_hideAll _ q] at e5; cases e5
section
variable {X : Cx} {pins : List (Addr × Obj)} {σ τ : L2.St} {H H3 : Hp} {s s3 s' : Shared} {W : WX} {scope : Scope} {ce : Env} {fp : List Addr} {pn ps : List (Addr × Obj)} {xe : Value → Shared → Prop}
/-- what is wanted of an exception that leaves the block -/
def outPost (X : Cx) (ce : Env) (x : Value) (s' : Shared) : Prop := ∃ m, s'.heap.Ns ce.locals m ∧ ∀ h', Heap.SameBut ce.locals s'.heap h' → wpAny (model X.prog X.w) X.A (passOn "comprehension.variables-let-go" x ce : Sem Value) (fun _ _ => False) X.xe { s' with heap := h' }
theorem pass_blk (hs : X.stack = X.env :: X.outer) (hf : X.env.frame = some X.env.locals) (tk : Takes X W) (hce : ce.frame = X.env.frame)
    (back : ∀ {τ H' s'}, Inv (X.blk s3 H3 scope ce fp) [] τ H' s' → Inv X pins σ H' s') (hC : ∀ H', H' ce.locals = none → FpOk X pins H' ce.locals)
    {qs : List (Addr × Obj)} (I : Inv ((X.blk s3 H3 scope ce fp).tr ps xe) qs τ H s) {u : Value} (c : CX X.prog X.w X.stack H s (fun cls d H' => W cls d σ H') u s') :
    wpAny (model X.prog X.w) X.A (noteFrame u ce) (fun _ s'' => outPost X ce u s'') (fun e2 s'' => outPost X ce e2 s'') s' := by
  obtain ⟨a, B, sI, H', cls, d, qs, τ, rfl, J, nb, up, fly, na, os, ag, w⟩ := cx_air I c
  have un : ∀ {qs τ H' s'}, Inv ((X.blk s3 H3 scope ce fp).tr ps xe) qs τ H' s' → Inv (X.blk s3 H3 scope ce fp) [] τ H' s' := fun V =>
    ⟨V.ok.ofTry, V.os, V.bare, V.base, V.loc, V.cell, V.free, V.freeC, fun p hp => absurd (show p ∈ ([] : List (Addr × Obj)) ++ [] from hp) (by simp), V.hok, V.len⟩
  have okX : X.Ok := (back (un I)).ok
  have frX : X.A.frames = some (X.env :: X.outer) := by rw [okX.frames, hs]
  have fly' : HandSPX.FlyingZ B (X.env :: X.outer) a (Zc cls d) s'.heap := by rw [← hs]; exact fly
  rw [note_same hce]
  refine HandSPX.looks_onZ Zc.steady frX hf fly' fun k₃ held up₃ => ?_
  have L₃ : Inv ((X.blk s3 H3 scope ce fp).tr ps xe) qs τ H' { s' with heap := k₃ } := J.landed nb held.1 (up.trans up₃) os ag
  have hn0 : H' ce.locals = none := J.free
  have fC := hC H' hn0
  obtain ⟨m, hn, _⟩ := L₃.loc
  have hn : k₃.Ns ce.locals m := hn
  have notF : ce.locals ∉ frs (X.env :: X.outer) := fun hm => by
    obtain ⟨v, hv, qv⟩ := List.mem_filterMap.mp hm
    rcases List.mem_cons.mp hv with z | z
    · rw [z, hf] at qv
      exact fC.2.1 (Option.some.inj qv).symm
    · exact fC.2.2.1 (List.mem_filterMap.mpr ⟨v, z, qv⟩)
  refine ⟨m, hn, fun h' sb => ?_⟩
  have hh := held_hide held hn sb notF
  obtain ⟨_, _, _, oe, vs, T, oT, ts, he, hz, hd, h1, _⟩ := id hh
  unfold PySem.passOn
  refine wpAny_bind (wpAny_field he hd h1 ?_)
  rw [if_neg (show ¬ ((Value.ref T == Value.none) = true) from by simp)]
  have fin : wpAny (model X.prog X.w) X.A (setFlight (.ref a) ce.frame) (fun _ t₄ => wpAny (model X.prog X.w) X.A (throw (.ref a) : Sem Value) (fun _ _ => False) X.xe t₄) X.xe { s' with heap := h' } := by
    rw [hce, hf]
    refine HandSPX.setFlight_onZ hh fun k₄ hh₄ up₄ => wpAny_throw (tk _ _ ?_)
    have JX := back (un J)
    have JX2 : Inv X pins σ H' { sI with heap := PySem.W.hideAll sI.heap [ce.locals], toks := sI.toks } := JX.turned (it := ce.locals) (fun b o hb e => PySem.W.hideAll_get _ e (by simpa using hb)) fC.1 fC.2.1 fC.2.2.2.1 fC.2.2.2.2.1 fC.2.2.2.2.2
    refine ⟨a, PySem.W.hideAll B [ce.locals], { sI with heap := PySem.W.hideAll sI.heap [ce.locals], toks := sI.toks }, pins, σ, H', cls, d, rfl, JX2, fun b o e hb => ?_, fun b o e nf => ?_, .inr (.inr (by rw [hs]; exact hh₄)), na, os, ag, w⟩
    · have hbC : b ∉ [ce.locals] := fun z => by rw [PySem.W.hideAll_none _ z] at e; cases e
      exact PySem.W.hideAll_get _ (nb b o (PySem.W.of_hideAll _ e) hb) hbC
    · have hbC : b ≠ ce.locals := fun z => by rw [PySem.W.hideAll_none [ce.locals] (by simp [z])] at e; cases e
      obtain ⟨sl1, g1⟩ := up b o (PySem.W.of_hideAll _ e) nf
      obtain ⟨sl2, g2⟩ := up₃ b _ g1 nf
      have g3 : h'.get? b = some { o with slots := sl2 } := (sb.2 b hbC).trans g2
      obtain ⟨sl4, g4⟩ := up₄ b _ g3 nf
      exact ⟨sl4, g4⟩
  first
    | exact wpAny_bind (wpAny_pure (wpAny_bind fin))
    | exact wpAny_bind fin
end
section
variable {M : Model} {A : Around} {E : Value → Shared → Prop} {s : Shared} {env : Env}
/-- behind a comprehension's block -/
def cPost (M : Model) (A : Around) (E : Value → Shared → Prop) (us : Option (Value → Sem Unit)) (Q : Value → Shared → Prop) (ac : Value) (ce : Env) (r : Result) (t : Shared) : Prop :=
  match r, us with
  | .ok _, none => ∃ m, t.heap.Ns ce.locals m ∧ ∀ k, Heap.SameBut ce.locals t.heap k → Q ac { t with heap := k }
  | .ok _, some u => wpAny M A (u ac) (fun _ t2 => ∃ m, t2.heap.Ns ce.locals m ∧ ∀ k, Heap.SameBut ce.locals t2.heap k → Q .none { t2 with heap := k }) E t
  | .error x, _ => ∃ m, t.heap.Ns ce.locals m ∧ ∀ k, Heap.SameBut ce.locals t.heap k → wpAny M A (passOn "comprehension.variables-let-go" x ce : Sem Value) (fun _ _ => False) E { t with heap := k }
theorem comp_freeX {e : Expr} {scope : Scope} {pos : Pos} {mk src : Sem Value} {g : Comprehension} {gs : List Comprehension} {cl : List (Str × Addr)} {us : Option (Value → Sem Unit)} {Q : Value → Shared → Prop} (cE : clausesOf e = g :: gs) (fE : ∀ x, foldedSetIterable g.iter env x = pure x) (oE : closureFor scope env = pure cl) (kE : scope.kind = .function) (nE : ∀ x ∈ scope.names, x.2 = .local → scope.names.lookup x.1 = some .local)
    (h : wpAny M A src (fun x t₁ => wpAny M A (pyIter x) (fun i t₂ => wpAny M A mk (fun ac t₃ => wpAny M A (newFunctionEnv scope env.globals cl [] env.qual none .none (some env)) (fun ce t₄ =>
      codeAny M A (.compStart e 0 i ac { ce with scope := relabel scope env }) (cPost M A E us Q ac { ce with scope := relabel scope env }) t₄) E t₃) E t₂) E t₁) E s) : wpAny M A (comprehension e scope env pos mk false src us) Q E s := by
  have keep : ∀ (x : Value) (t : Shared), E x t → E x t := fun _ _ z => z
  unfold comprehension
  rw [oE, cE]
  refine wpAny_bind ?_
  refine wpAny_mono h (fun x t₁ w₁ => ?_) keep
  refine wpAny_bind ?_
  refine wpAny_standAt ?_
  refine wpAny_bind ?_
  refine wpAny_of_eq (fE x) ?_
  refine wpAny_bind ?_
  refine wpAny_holding ?_
  refine wpAny_mono w₁ (fun i t₂ w₂ => ?_) keep
  refine wpAny_standIf ?_
  refine wpAny_bind ?_
  refine wpAny_mono w₂ (fun ac t₃ w₃ => ?_) keep
  refine wpAny_bind ?_
  refine wpAny_pure ?_
  refine wpAny_bind ?_
  refine wpAny_mono w₃ (fun ce t₄ w₄ => ?_) keep
  dsimp only
  generalize hN : (scope.names.filter fun x => (x.2 == .local || x.2 == .cell) && x.1 != (".0" : Str)).reverse = N
  have loc : ∀ y ∈ N, y.2 = .local → Env.kindOf { ce with scope := relabel scope env } y.1 = some .local := fun y hy hl => by
    subst hN
    exact lookup_relabel_local (nE y (List.mem_filter.mp (List.mem_reverse.mp hy)).1 hl)
  refine wpAny_holding ?_
  refine wpAny_bind ?_
  refine wpAny_attempt ?_
  refine wpAny_holding ?_
  refine wpAny_run ?_
  refine codeAny_mono w₄ fun r t p => ?_
  match r, us, p with
  | .ok _, none, ⟨m, hm, p⟩ => exact wpAny_bind (wpAny_holding (wpAny_comp_letGo (cenv := { ce with scope := relabel scope env }) kE _ t m loc hm fun k _ _ sb => wpAny_pure (p k sb)))
  | .ok _, some u, p =>
    refine wpAny_bind ?_
    refine wpAny_rule ?_
    refine wpAny_bind ?_
    refine wpAny_holding ?_
    refine wpAny_mono p (fun _ t2 ⟨m, hm, p2⟩ => ?_) keep
    refine wpAny_bind ?_
    refine wpAny_comp_letGo (cenv := { ce with scope := relabel scope env }) kE _ t2 m (fun y hy hl => ?_) hm fun k _ _ sb => wpAny_pure (p2 k sb)
    rcases List.mem_append.mp hy with z | z
    · exact loc y (List.mem_of_mem_drop z) hl
    · exact loc y (List.mem_of_mem_take z) hl
  | .error x, us, p =>
    have p : ∃ m, t.heap.Ns ce.locals m ∧ ∀ k, Heap.SameBut ce.locals t.heap k → wpAny M A (passOn "comprehension.variables-let-go" x { ce with scope := relabel scope env } : Sem Value) (fun _ _ => False) E { t with heap := k } := by cases us <;> exact p
    obtain ⟨m, hm, p⟩ := p
    exact wpAny_bind (wpAny_holding (wpAny_comp_letGo (cenv := { ce with scope := relabel scope env }) kE _ t m loc hm fun k _ _ sb => wpAny_mono (p k sb) (fun _ _ z => z.elim) keep))
end
end Ri

set_option maxRecDepth 100000
/-! Rx, part H: a list comprehension whose element may raise. -/
namespace Ri
open PySem PySem.Spec PyProof.Rows L2
section
variable {X : Cx}
theorem lc_X {pins : List (Addr × Obj)} {s : Shared} {σ : L2.St} {H : Hp} {Q : VK} {elt tg iter : Expr} {ifs : List Expr} {scope : Scope} {own : List (Str × Nat)} {pos pos2 : Pos} {wi : TI} {g : TG} {tt : TT} {te : TE} {us : Option (Value → Sem Unit)} {Qf : Value → Shared → Prop} {W : WX}
    (hst : X.stack = X.env :: X.outer) (hfr : X.env.frame = some X.env.locals) (tk : Takes X W) (hc : X.calm = true) (hN : X.N.Nodup) (I : Inv X pins σ H s) (hi : PI X tg iter wi) (ok : BlkOk X.N X.env.scope scope own)
    (hg : ∀ (s : Shared) (H : Hp) (C : Addr) (cl : List (Str × Addr)) (fp : List Addr), PG (X.blk s H scope (compEnvC scope cl C X.env) fp) tg g) (ht : ∀ (s : Shared) (H : Hp) (C : Addr) (cl : List (Str × Addr)) (fp : List Addr), PTs (X.blk s H scope (compEnvC scope cl C X.env) fp) ifs tt)
    (he : ∀ (s : Shared) (H : Hp) (C : Addr) (cl : List (Str × Addr)) (fp : List Addr) (pn : List (Addr × Obj)) (xe : Value → Shared → Prop), PassW (CX X.prog X.w) ((X.blk s H scope (compEnvC scope cl C X.env) fp).tr pn xe) (fun cls d _ G => W cls d σ G) → PE ((X.blk s H scope (compEnvC scope cl C X.env) fp).tr pn xe) elt te)
    (hs : ∀ x, foldedSetIterable iter X.env x = pure x) (h : tLc wi g tt te (own.map (·.2)) σ H Q)
    (hR : ∀ (D : Addr) (ce : Env) (t : Shared) (m : Str → Option Value) (G : Hp), Inv X pins σ G t → Q (.ref D) G → t.heap.Ns ce.locals m → FpOk X pins G ce.locals → cPost (model X.prog X.w) X.A X.xe us Qf (.ref D) ce (.ok .next) t) :
    wpAny (model X.prog X.w) X.A (comprehension (.ListComp elt [⟨tg, iter, ifs, 0⟩] scope pos) scope X.env pos2 (newList []) false (eval iter X.env) us) Qf X.xe s := by
  have frees : ∀ y ∈ scope.names, y.2 = .free → ∃ c, X.env.cells.lookup y.1 = some c := fun y hy e => (ok.free y hy e).elim (fun k => I.ok.has _ (.inl k)) fun k => I.ok.has _ (.inr k)
  refine comp_freeX (us := us) rfl hs (closure_ok frees) ok.kind (fun y hy e => by rw [ok.uniq y hy, e]) ?_
  refine thn (hi.run pins s σ H _ I h) fun xv t₁ hx => thn hx fun itv t₂ w₂ => ?_
  obtain ⟨it, fp, tn, J, G₂, rfl, V₂, T, st₂, f₂, q⟩ := w₂
  refine wpAny_newObj_type (newEnv_comp ?_) (by show 0 ≤ sizeLine; decide)
  let L : Obj := { cls := .type "list", data := .seq ([] : List Value).toArray }
  generalize eD : t₂.heap.objs.size = D
  obtain ⟨Inv0, ⟨m₀, w₀⟩, turn⟩ := q D (V₂.hok.fresh (Nat.le_of_eq eD))
  generalize e₃ : ({ t₂ with heap := t₂.heap.push { cls := .type "list", data := .seq ([] : List Value).toArray } } : Shared) = t₃
  have hp₃ : t₃.heap = t₂.heap.push { cls := .type "list", data := .seq ([] : List Value).toArray } := by rw [← e₃]
  have old₃ : ∀ b o, t₂.heap.get? b = some o → t₃.heap.get? b = some o := fun b o z => by rw [hp₃]; exact Heap.get?_push_of_some _ z
  have V₃ : Inv X pins σ (upd G₂ D (.lst [])) t₃ := by
    subst e₃
    refine V₂.laid (t' := t₂.toks) (fun b o z => Heap.get?_push_of_some _ z) (Nat.le_of_eq eD) ⟨Nat.zero_le _, [], 0, .nil, ?_⟩
    subst eD
    exact Heap.get?_push_size _ rfl
  have low : ∀ b ∈ fp, b < t₂.heap.objs.size := fun b hb => let ⟨_, z, _⟩ := T.obj _ _ st₂ b hb; Heap.lt_size z
  have f₃ : ∀ b ∈ fp, FpOk X pins (upd G₂ D (.lst [])) b ∧ b < t₃.heap.objs.size := fun b hb => by
    have lt := low b hb
    have ne : b ≠ D := by rw [← eD]; exact Nat.ne_of_lt lt
    exact ⟨⟨by rw [upd_ne ne]; exact (f₂ b hb).1, (f₂ b hb).2⟩, by rw [hp₃, Heap.size_push]; exact Nat.lt_succ_of_lt lt⟩
  have st₃ : tn 0 t₃.heap := T.keep _ _ _ st₂ fun b _ o z => old₃ b o z
  have V₄ := block_start V₃ ok hN f₃
  generalize eG : upd G₂ D (.lst []) = G₃ at V₃ V₄ w₀ f₃
  generalize eC : cellsFrom (t₃.heap.objs.size + 1) scope.names (cloFrom X.env.cells scope.names []) = cl at V₄ ⊢
  show codeAny _ _ (.compStart (.ListComp elt [⟨tg, iter, ifs, 0⟩] scope pos) 0 (.ref it) (.ref D) (compEnvC scope cl t₃.heap.objs.size X.env)) (cPost (model X.prog X.w) X.A X.xe us Qf (.ref D) (compEnvC scope cl t₃.heap.objs.size X.env)) { t₃ with heap := pushCells (t₃.heap.push { cls := .type "dict", data := .dict #[] }) scope.names }
  have pg := hg t₃ G₃ t₃.heap.objs.size cl fp
  have pt := ht t₃ G₃ t₃.heap.objs.size cl fp
  have pe := he t₃ G₃ t₃.heap.objs.size cl fp
  have fr0 : (compEnvC scope cl t₃.heap.objs.size X.env).frame = X.env.frame := rfl
  have lc0 : (compEnvC scope cl t₃.heap.objs.size X.env).locals = t₃.heap.objs.size := rfl
  generalize eE : compEnvC scope cl t₃.heap.objs.size X.env = ce at V₄ pg pt pe fr0 lc0 ⊢
  generalize e₄ : ({ t₃ with heap := pushCells (t₃.heap.push { cls := .type "dict", data := .dict #[] }) scope.names } : Shared) = t₄ at V₄ ⊢
  have st₄ : tn 0 t₄.heap := T.keep _ _ _ st₃ fun b _ o z => by rw [← e₄]; exact pushCells_keeps _ _ _ _ (Heap.get?_push_of_some _ z)
  have back : ∀ {τ G t}, Inv (X.blk t₃ G₃ scope ce fp) [] τ G t → Inv X pins σ G t := fun V => V₃.call' (ch := fp) V.os V.base V.hok V.bare fun b hb => let w := (f₃ b hb).1; ⟨w.2.2.2.1, w.2.1, w.2.2.2.2.1, w.2.2.2.2.2⟩
  have fC : ∀ G : Hp, G ce.locals = none → FpOk X pins G ce.locals := fun G z => V₃.fpOk (by rw [lc0]; exact Nat.le_refl _) z
  have still : ∀ {τ G t}, Inv (X.blk t₃ G₃ scope ce fp) [] τ G t → (∀ b ∈ fp, G b = none) → ∀ b ∈ fp, FpOk (X.blk t₃ G₃ scope ce fp) [] G b := fun V z b hb =>
    ⟨z b hb, (V.ok.exf b hb).1, V.ok.exfs b hb, .inl hb, fun x c e => (V.ok.exf b hb).2 x c e, fun p hp => absurd (show p ∈ ([] : List (Addr × Obj)) ++ [] from hp) (by simp)⟩
  have loop : codeAny (model X.prog X.w) X.A (.compLoop (.ListComp elt [⟨tg, iter, ifs, 0⟩] scope pos) 0 (.ref it) (.ref D) ce) (cPost (model X.prog X.w) X.A X.xe us Qf (.ref D) ce) t₄ := by
    refine compLoop_any (fun n t => ∃ i G, Inv (X.blk t₃ G₃ scope ce fp) [] (wipe σ (own.map (·.2))) G t ∧ tn i t.heap ∧ (∀ b ∈ fp, G b = none) ∧ Inv0 i n G) ?_ m₀ ⟨0, G₃, V₄, st₄, fun b hb => (f₃ b hb).1.1, w₀⟩
    rintro n t₅ ⟨i, G₅, V₅, st₅, z₅, w₅⟩
    rcases turn i n G₅ w₅ with ⟨stop, qq⟩ | ⟨go, Nx, hNx, step⟩
    · refine thnF (T.done (X.blk t₃ G₃ scope ce fp) rfl rfl rfl hc i [] t₅ _ G₅ (fun _ _ => False) V₅ (still V₅ z₅) st₅ stop) fun r t₆ ⟨hr, V₆⟩ => ?_
      subst hr
      obtain ⟨m, hn, _⟩ := V₆.loc
      exact hR D ce t₆ m G₅ (back V₆) qq hn (fC G₅ V₆.free)
    · refine thnF (T.item (X.blk t₃ G₃ scope ce fp) rfl rfl rfl hc i [] t₅ _ G₅ (fun _ _ => False) V₅ (still V₅ z₅) st₅ go) fun r t₆ ⟨u, hr, w₆⟩ => ?_
      subst hr
      refine thnF w₆ fun _ t₇ ⟨x, G₇, V₇, r₇, y₇, st₇, z₇⟩ => ?_
      have P₇ := V₇.pinned (still V₇ z₇) (T.obj _ _ st₇)
      refine thnF (pg.run _ t₇ _ G₇ x u _ P₇ r₇ (step x G₇ y₇)) fun _ t₈ ⟨τ, G₈, V₈, hw, q₈⟩ => ?_
      refine thnF (pt.run _ t₈ τ G₈ _ V₈ q₈) fun b t₉ ⟨G₉, V₉, q₉⟩ => ?_
      have fin : ∀ {t : Shared} {G : Hp}, Inv (X.blk t₃ G₃ scope ce fp) ([] ++ pinsAt fp t₇.heap) τ G t → Nx G → ∃ m, m < n ∧ ∃ i G, Inv (X.blk t₃ G₃ scope ce fp) [] (wipe σ (own.map (·.2))) G t ∧ tn i t.heap ∧ (∀ b ∈ fp, G b = none) ∧ Inv0 i m G := fun {t G} V nx => by
        obtain ⟨m', lt, w⟩ := hNx G nx
        have pinned : ∀ b ∈ fp, ∀ o, t₇.heap.get? b = some o → t.heap.get? b = some o ∧ G b = none := fun b hb o z =>
          let y := V.pin (b, o) (List.mem_append_right _ (List.mem_append_right _ (mem_pinsAt hb z))); ⟨y.1, y.2.1⟩
        refine ⟨m', lt, i + 1, G, (V.unpinned (pins := [])).weak (by rw [← hw, wipe_length]) (fun j v z => ?_), T.keep _ _ _ st₇ fun b hb o z => (pinned b hb o z).1, fun b hb => ?_, w⟩
        · rw [← hw] at z
          exact (wipe_some z).1
        · obtain ⟨o, z, _⟩ := T.obj _ _ st₇ b hb
          exact (pinned b hb o z).2
      cases b with
      | false =>
        simp only [Bool.false_eq_true, if_false] at q₉ ⊢
        exact fin V₉ q₉
      | true =>
        simp only [if_true] at q₉ ⊢
        have okB := V₉.ok
        have pw : PassW (CX X.prog X.w) ((X.blk t₃ G₃ scope ce fp).tr ([] ++ ([] ++ pinsAt fp t₇.heap)) (notedBy (model X.prog X.w) X.A ce fun e t => cPost (model X.prog X.w) X.A X.xe us Qf (.ref D) ce (.error e) t)) (fun cls d _ G => W cls d σ G) := fun qs τ2 G2 t2 e t V c => by
          have := pass_blk hst hfr tk fr0 back fC V c
          cases us <;> exact this
        refine wpAny_mono ((pe _ _ pw).run [] t₉ τ G₉ _ (V₉.toTry _) q₉) (fun z t₁₀ ⟨yv, G₁₀, V₁₀, r₁₀, acc, hD, hz, nx⟩ => ?_) (fun _ _ z => z)
        exact app_ok (X := X.blk t₃ G₃ scope ce fp) (V₁₀.ofTry okB) hD hz r₁₀ fun t₁₁ V₁₁ => fin V₁₁ nx
  exact codeAny_compStart_list loop (T.self X.A 0 _ _ _ st₄ loop)
end
end Ri

set_option maxRecDepth 100000
/-! Rx, part I: the small machine's comprehension whose element may raise. -/
namespace Ri
open PySem PySem.Spec PyProof.Rows L2
/-- the element's wish: the def's own, at its slots -/
abbrev Wat (W : WX) (σ : L2.St) : WX := fun cls d _ G => W cls d σ G
section
variable {G : Cfg} {W : WX} {Z Z' H H' F : Hp} {ρ ρ' : List Addr} {s : S} {σ : L2.St} {P : List (R × V)} {Q : VK}
theorem compX_read {tb : Tb} {c : CallF} {n : Nat} {t : Tg} {k : Ik} {is : List E} {ifs : Option E} {ie : E} {own : List Nat} (nd : own.Nodup) (h : T G W (stepE (run tb c n) tb (.compX t k is ifs ie own)) σ H Q) :
    tLc (TIr G W k (exIs (run tb c n) is)) (TGw G own (asgT (run tb c n) t)) (TB G W0 (ifR (run tb c n) ifs)) (T G (Wat W σ) ((run tb c n).ex ie)) own σ H Q := by
  obtain ⟨Z, F, ρ, s, P, rel, g⟩ := h
  replace g : Goes G W Z F ρ σ P (bd (exIs (run tb c n) is s) fun ds s => compXR (run tb c n) t k ifs ie own ds s) Q := g
  refine ⟨Z, F, ρ, s, P, rel, ?_⟩
  rcases q : exIs (run tb c n) is s with _ | ⟨x | ds, s1⟩
  · rw [q] at g; exact g
  · rw [q] at g; exact g
  · rw [q] at g
    replace g : Goes G W Z F ρ σ P (compXR (run tb c n) t k ifs ie own ds s1) Q := g
    unfold compXR at g
    cases hw : walk k ds with
    | none => rw [hw] at g; exact g.elim
    | some xs =>
    rw [hw] at g
    dsimp only at g
    by_cases hown : own.all (plainS s1.sl) = true
    case neg => rw [if_neg hown] at g; exact g.elim
    case pos =>
      rw [if_pos hown] at g
      intro H1 Z1 ρ1 e1 p1
      refine ⟨xs, hw, fun J hJ r1 Dd hD => ?_⟩
      replace g := Goes.mono g e1 p1
      have ns : NoSlot (P.map deslot) := noSlot_deslot
      have r1' := (r1.deslot.wipe ns own).pushNew (c := .lst []) (o := .lst []) hD ⟨[], rfl, .nil⟩
      have ends : ∀ {Z2 : Hp} {ρ2 : List Addr} {s2 : S} {H' : Hp} {acc : List D}, Same Z1 Z2 → ρ1 <+: ρ2 → Rel G Z2 F ρ2 s2 (L2.wipe σ own) H' ((.own (.lst acc), .ref Dd) :: P.map deslot) → Rel G Z2 F ρ2 { s2 with sl := unwipe s1.sl s2.sl own } σ H' ((.own (.lst acc), .ref Dd) :: P.map deslot) := fun e2 p2 r2 =>
        Rel.unwipe (sl₀ := s1.sl) nd r2 (NoSlot.own ns) fun i hi => by
          obtain ⟨x, h1, h2⟩ := back_of r1 (List.all_eq_true.mp hown i hi)
          exact ⟨x, h1, h2.mono e2 p2⟩
      refine ⟨fun i m H' => ∃ Z2 ρ2 s2 acc, Same Z1 Z2 ∧ ρ1 <+: ρ2 ∧ Rel G Z2 F ρ2 s2 (L2.wipe σ own) H' ((.own (.lst acc), .ref Dd) :: P.map deslot) ∧ i + m = xs.length ∧ Goes G W Z2 F ρ2 σ P (compXE s1.sl own (compXL (run tb c n) t ifs ie own (xs.drop i) acc s2)) Q,
        ⟨xs.length, Z1, ρ1, _, [], Same.refl _, List.prefix_refl _, r1', by omega, by simpa using g⟩, ?_⟩
      rintro i m H' ⟨Z2, ρ2, s2, acc, e2, p2, r2, him, g2⟩
      obtain ⟨j1, j2⟩ := hJ Z2 ρ2 s2 _ H' _ e2 p2 r2 i
      by_cases hi' : i = xs.length
      · left
        refine ⟨j2 hi', ?_⟩
        rw [hi', List.drop_length] at g2
        replace g2 : Goes G W Z2 F ρ2 σ P (ok (.own (.lst acc)) { s2 with sl := unwipe s1.sl s2.sl own }) Q := g2
        have r3 := ends e2 p2 r2
        have r4 : Rel G Z2 F ρ2 { s2 with sl := unwipe s1.sl s2.sl own } σ H' ((.own (.lst acc), .ref Dd) :: P) := Rel.reslot r3 fun i j v e => by
          cases i with
          | zero => simp at e
          | succ i => exact r1.pd i (.slot j) v (by simpa using e)
        exact g2 _ H' Z2 ρ2 (Same.refl _) (List.prefix_refl _) r4
      · right
        have hlt : i < xs.length := by omega
        obtain ⟨go, yl⟩ := j1 xs[i] (List.getElem?_eq_getElem hlt)
        rw [List.drop_eq_getElem_cons hlt] at g2
        refine ⟨go, fun H3 => ∃ m', m' < m ∧ ∃ Z2 ρ2 s2 acc, Same Z1 Z2 ∧ ρ1 <+: ρ2 ∧ Rel G Z2 F ρ2 s2 (L2.wipe σ own) H3 ((.own (.lst acc), .ref Dd) :: P.map deslot) ∧ (i + 1) + m' = xs.length ∧ Goes G W Z2 F ρ2 σ P (compXE s1.sl own (compXL (run tb c n) t ifs ie own (xs.drop (i + 1)) acc s2)) Q, fun H3 h3 => h3, fun y H3 hy => ?_⟩
        obtain ⟨Z3, e3, r3, d3⟩ := yl y H3 hy
        refine ⟨Z3, F, ρ2, s2, _, _, NoSlot.own ns, r3, d3, ?_⟩
        unfold compXL at g2
        rcases q2 : asgT (run tb c n) t xs[i] s2 with _ | ⟨_ | u, s4⟩
        · rw [q2] at g2; exact g2.elim
        · rw [q2] at g2; exact g2.elim
        · rw [q2] at g2
          intro σ4 H4 Z4 ρ4 e4 p4 w4 r4
          have w4' : L2.wipe σ4 own = L2.wipe σ own := w4.trans wipe_wipe
          refine ⟨w4', Z4, F, ρ4, s4, _, r4, ?_⟩
          simp only [bo] at g2
          rcases q3 : ifR (run tb c n) ifs s4 with _ | ⟨_ | b, s5⟩
          · rw [q3] at g2; exact g2.elim
          · rw [q3] at g2; exact g2.elim
          · rw [q3] at g2
            intro H5 Z5 ρ5 e5 p5 r5
            have up1 : Same Z1 Z5 := e2.trans (e3.trans (e4.trans e5))
            have up2 : ρ1 <+: ρ5 := List.IsPrefix.trans p2 (List.IsPrefix.trans p4 p5)
            replace g2 := Goes.mono g2 (e3.trans (e4.trans e5)) (List.IsPrefix.trans p4 p5)
            cases b with
            | false =>
              simp only [Bool.false_eq_true, if_false] at g2 ⊢
              have r6 := r5.wipe (NoSlot.own ns) own
              rw [w4'] at r6
              exact ⟨m - 1, by omega, Z5, ρ5, _, acc, up1, up2, r6, by omega, g2⟩
            | true =>
              simp only [if_true] at g2 ⊢
              refine ⟨Z5, F, ρ5, s5, _, r5, ?_⟩
              rcases q4 : (run tb c n).ex ie s5 with _ | ⟨xx | r, s6⟩
              · rw [q4] at g2; exact g2.elim
              · rw [q4] at g2
                intro cls d H6 Z6 ρ6 e6 p6 xr r6
                have r7 := r6.wipe (NoSlot.own ns) own
                rw [w4'] at r7
                have r8 := ends (up1.trans e6) (List.IsPrefix.trans up2 p6) r7
                have r9 : Rel G Z6 F ρ6 { s6 with sl := unwipe s1.sl (wipeS s6.sl own) own } σ H6 P := Rel.reslot (P := P) (Rel.pop r8) fun i j v e => r1.pd i (.slot j) v e
                exact g2 cls d H6 Z6 ρ6 e6 p6 xr r9
              · rw [q4] at g2
                intro v H6 Z6 ρ6 e6 p6 r6
                simp only [bd] at g2
                rcases freeze_ok (r := r) (s := s6) with ⟨dd, s7, q5⟩ | q5
                · rw [q5] at g2
                  simp only at g2
                  obtain ⟨Z7, e7, r7⟩ := goes_freeze r6 q5
                  by_cases hlim : acc.length < LIM
                  · rw [if_pos hlim] at g2
                    obtain ⟨a', o, ha', ho, vs, rfl, hvs⟩ := r7.second
                    cases ha'
                    have hdd : DRep G Z7 ρ6 dd v := r7.head
                    refine ⟨vs, ho, by rw [← hvs.length]; exact hlim, ?_⟩
                    have r8 := (r7.pop.setHead (c' := .lst (acc ++ [dd])) (o' := .lst (vs ++ [v])) ⟨_, rfl, hvs.append (.one hdd)⟩).wipe (NoSlot.own ns) own
                    rw [w4'] at r8
                    exact ⟨m - 1, by omega, Z7, ρ6, _, _, up1.trans (e6.trans e7), List.IsPrefix.trans up2 p6, r8, by omega, Goes.mono g2 (e6.trans e7) p6⟩
                  · rw [if_neg hlim] at g2; exact g2.elim
                · rw [q5] at g2; exact g2.elim
end
section
variable {X : Cx} {W : WX} {elt tg iter : Expr} {ifs : List Expr} {scope : Scope} {own : List (Str × Nat)} {pos : Pos} {wi : TI} {g : TG} {tt : TT} {te : L2.St → TE}
theorem pe_lcX (hst : X.stack = X.env :: X.outer) (hfr : X.env.frame = some X.env.locals) (tk : Takes X W) (hc : X.calm = true) (hN : X.N.Nodup) (hi : PI X tg iter wi) (ok : BlkOk X.N X.env.scope scope own)
    (hg : ∀ (s : Shared) (H : Hp) (C : Addr) (cl : List (Str × Addr)) (fp : List Addr), PG (X.blk s H scope (compEnvC scope cl C X.env) fp) tg g) (ht : ∀ (s : Shared) (H : Hp) (C : Addr) (cl : List (Str × Addr)) (fp : List Addr), PTs (X.blk s H scope (compEnvC scope cl C X.env) fp) ifs tt)
    (he : ∀ (σ : L2.St) (s : Shared) (H : Hp) (C : Addr) (cl : List (Str × Addr)) (fp : List Addr) (pn : List (Addr × Obj)) (xe : Value → Shared → Prop), PassW (CX X.prog X.w) ((X.blk s H scope (compEnvC scope cl C X.env) fp).tr pn xe) (Wat W σ) → PE ((X.blk s H scope (compEnvC scope cl C X.env) fp).tr pn xe) elt (te σ))
    (hs : ∀ x, foldedSetIterable iter X.env x = pure x := by intro _; rfl) : PE X (.ListComp elt [⟨tg, iter, ifs, 0⟩] scope pos) (fun σ H Q => tLc wi g tt (te σ) (own.map (·.2)) σ H Q) := by
  constructor
  intro pins s σ H Q I h
  rw [eval_ListComp]
  refine lc_X hst hfr tk hc hN I hi ok hg ht (he σ) hs h fun D ce t m G V q hn f => ⟨m, hn, fun k sb => ?_⟩
  exact ⟨.ref D, G, V.turned (t' := t.toks) (fun b o hb z => (sb.2 b hb).trans z) f.1 f.2.1 f.2.2.2.1 f.2.2.2.2.1 f.2.2.2.2.2, rfl, q⟩
/-- name = [..] on one line -/
theorem ps_setLcX {i : Nat} {y : Str} {py spos : Pos} (hst : X.stack = X.env :: X.outer) (hfr : X.env.frame = some X.env.locals) (tk : Takes X W) (hc : X.calm = true) (hN : X.N.Nodup) (hy : X.N[i]? = some y) (hyl : X.env.scope.names.lookup y = some .local)
    (hsw : swapsWith (.ListComp elt [⟨tg, iter, ifs, 0⟩] scope pos) (some (.Name y py)) spos.line X.env = pure true) (hi : PI X tg iter wi) (ok : BlkOk X.N X.env.scope scope own)
    (hg : ∀ (s : Shared) (H : Hp) (C : Addr) (cl : List (Str × Addr)) (fp : List Addr), PG (X.blk s H scope (compEnvC scope cl C X.env) fp) tg g) (ht : ∀ (s : Shared) (H : Hp) (C : Addr) (cl : List (Str × Addr)) (fp : List Addr), PTs (X.blk s H scope (compEnvC scope cl C X.env) fp) ifs tt)
    (he : ∀ (σ : L2.St) (s : Shared) (H : Hp) (C : Addr) (cl : List (Str × Addr)) (fp : List Addr) (pn : List (Addr × Obj)) (xe : Value → Shared → Prop), PassW (CX X.prog X.w) ((X.blk s H scope (compEnvC scope cl C X.env) fp).tr pn xe) (Wat W σ) → PE ((X.blk s H scope (compEnvC scope cl C X.env) fp).tr pn xe) elt (te σ))
    (hs : ∀ x, foldedSetIterable iter X.env x = pure x := by intro _; rfl) : PS X (.Assign [.Name y py] (.ListComp elt [⟨tg, iter, ifs, 0⟩] scope pos) spos) (tAsg (fun σ H Q => tLc wi g tt (te σ) (own.map (·.2)) σ H Q) (gName i)) := by
  constructor
  intro pins s σ H D I h
  rw [exec_Assign_Name_used _ _ _ _ hsw]
  refine wpAny_bind (wpAny_standAt (wpAny_bind ?_))
  have h : tLc wi g tt (te σ) (own.map (·.2)) σ H (fun x H1 => gName i x σ H1 D.nx) := h
  refine wpAny_bind ?_
  refine thn (lc_X (Qf := fun _ t => SP X pins D .next t) hst hfr tk hc hN I hi ok hg ht (he σ) hs h fun L ce t m G Vx q hn f => ?_) fun _ t z => wpAny_pure (wpAny_pure z)
  show wpAny _ _ (assign (.Name y py) X.env (.ref L)) _ _ _
  refine wpAny_assign_Name (store_ok2 (v := V.ref L) Vx hN hy (.inl hyl) rfl (fun t2 V2 w => ?_) (.inr hyl))
  obtain ⟨a, sb, ha⟩ := w
  have ne : ce.locals ≠ a := fun z => by
    rcases ha with w | w
    · exact f.2.1 (z.trans w)
    · exact f.2.2.2.2.1 y a w z.symm
  exact ⟨m, hn.sameBut sb ne, fun k sk => ⟨_, G, V2.turned (t' := t2.toks) (fun b o hb z => (sk.2 b hb).trans z) f.1 f.2.1 f.2.2.2.1 f.2.2.2.2.1 f.2.2.2.2.2, q⟩⟩
end
section
variable {X : Cx} {G : Cfg} {W : WX} {tb : Tb} {c : CallF} {tg elt iter : Expr} {ie : E} {pos py spos : Pos} {ifs : List Expr} {is : List E} {t : Tg} {x : Str} {i : Nat} {k : Ik} {io : Option E} {own : List (Str × Nat)} {scope : Scope}
theorem ce_compX (hst : X.stack = X.env :: X.outer) (hfr : X.env.frame = some X.env.locals) (tk : Takes X W) (hc : X.calm = true) (hN : X.N.Nodup) (hi : CI X G W tb c tg iter k is) (bk : BlkOk X.N X.env.scope scope own) (nd : (own.map (·.2)).Nodup)
    (hg : ∀ (s : Shared) (H : Hp) (C : Addr) (cl : List (Str × Addr)) (fp : List Addr), CGw (X.blk s H scope (compEnvC scope cl C X.env) fp) G (own.map (·.2)) tb c tg t)
    (ht : ∀ (s : Shared) (H : Hp) (C : Addr) (cl : List (Str × Addr)) (fp : List Addr), CTs (X.blk s H scope (compEnvC scope cl C X.env) fp) G tb c ifs io)
    (he : ∀ (s : Shared) (H : Hp) (C : Addr) (cl : List (Str × Addr)) (fp : List Addr) (pn : List (Addr × Obj)) (xe : Value → Shared → Prop) (W' : WX), PassW (CX X.prog X.w) ((X.blk s H scope (compEnvC scope cl C X.env) fp).tr pn xe) W' → CE ((X.blk s H scope (compEnvC scope cl C X.env) fp).tr pn xe) G W' tb c elt ie) (hs : ∀ x, foldedSetIterable iter X.env x = pure x := by intro _; rfl) :
    CE X G W tb c (.ListComp elt [⟨tg, iter, ifs, 0⟩] scope pos) (.compX t k is io ie (own.map (·.2))) :=
  ce_of (fun n => pe_lcX (te := fun σ => T G (Wat W σ) ((run tb c n).ex ie)) hst hfr tk hc hN (hi n) bk (fun s H C cl fp => hg s H C cl fp n) (fun s H C cl fp => ht s H C cl fp n) (fun σ s H C cl fp pn xe pw => he s H C cl fp pn xe _ pw n) hs) fun n σ H Q h => compX_read nd h
theorem cs_setCompX (hst : X.stack = X.env :: X.outer) (hfr : X.env.frame = some X.env.locals) (tk : Takes X W) (hc : X.calm = true) (hN : X.N.Nodup) (hy : X.N[i]? = some x) (hyl : X.env.scope.names.lookup x = some .local)
    (hsw : swapsWith (.ListComp elt [⟨tg, iter, ifs, 0⟩] scope pos) (some (.Name x py)) spos.line X.env = pure true) (hi : CI X G W tb c tg iter k is) (bk : BlkOk X.N X.env.scope scope own) (nd : (own.map (·.2)).Nodup)
    (hg : ∀ (s : Shared) (H : Hp) (C : Addr) (cl : List (Str × Addr)) (fp : List Addr), CGw (X.blk s H scope (compEnvC scope cl C X.env) fp) G (own.map (·.2)) tb c tg t)
    (ht : ∀ (s : Shared) (H : Hp) (C : Addr) (cl : List (Str × Addr)) (fp : List Addr), CTs (X.blk s H scope (compEnvC scope cl C X.env) fp) G tb c ifs io)
    (he : ∀ (s : Shared) (H : Hp) (C : Addr) (cl : List (Str × Addr)) (fp : List Addr) (pn : List (Addr × Obj)) (xe : Value → Shared → Prop) (W' : WX), PassW (CX X.prog X.w) ((X.blk s H scope (compEnvC scope cl C X.env) fp).tr pn xe) W' → CE ((X.blk s H scope (compEnvC scope cl C X.env) fp).tr pn xe) G W' tb c elt ie) (hs : ∀ x, foldedSetIterable iter X.env x = pure x := by intro _; rfl) :
    CS X G W tb c (.Assign [.Name x py] (.ListComp elt [⟨tg, iter, ifs, 0⟩] scope pos) spos) (.asg (.nm i) (.compX t k is io ie (own.map (·.2)))) :=
  cs_setP fun n => by
    cases n with
    | zero => exact ⟨fun pins s σ H Q I ⟨_, _, _, _, _, _, z⟩ => z.elim⟩
    | succ n => exact PS.imp' (ps_setLcX (te := fun σ => T G (Wat W σ) ((run tb c n).ex ie)) hst hfr tk hc hN hy hyl hsw (hi n) bk (fun s H C cl fp => hg s H C cl fp n) (fun s H C cl fp => ht s H C cl fp n) (fun σ s H C cl fp pn xe pw => he s H C cl fp pn xe _ pw n) hs) fun σ H Q h => compX_read nd h
end
end Ri

set_option maxRecDepth 100000
/-! Rx, part J: the head's facts, with the names that no third party has taken. -/
namespace Ri
open PySem PySem.Spec PyProof.Rows L2 He
def obsR2 (n : Nat) (fa : List Fa) (dn : List Dn) (ex : PySem.W.Frag → Bool) (g : Addr → Option Obj) : AlD := seeR fa dn ex (frG g (cStatics :: asD g n))
def hookR2 (n : Nat) (fa : List Fa) (dn : List Dn) (ex : PySem.W.Frag → Bool) : PySem.W.Hook where
  α := AlD
  obs := fun s => obsR2 n fa dn ex s.heap.get?
  val := fun _ => dueR dn
  says := fun _ h => ∃ K : PySem.W.Frag, K.In h ∧ seeR fa dn ex K = dueR dn
  of := fun _ s e => ⟨frG s.heap.get? (cStatics :: asD s.heap.get? n), frG_in, e⟩
  keeps := fun _ _ _ ⟨K, hK, c⟩ k => ⟨K, PySem.W.Frag.In.keeps hK k, c⟩
theorem obsR2_eq {n : Nat} {fa : List Fa} {dn : List Dn} {ex : PySem.W.Frag → Bool} {g : Addr → Option Obj} {s : Shared} (h : ∀ a, g a = s.heap.get? a) : obsR2 n fa dn ex g = (hookR2 n fa dn ex).obs s := by
  have e : g = s.heap.get? := funext h
  rw [e] <;> rfl
end Ri

set_option maxRecDepth 100000
/-! Rx, part K: a lambda of one parameter, handed to a method that asks it. -/
namespace Ri
open PySem PySem.Spec PyProof.Rows L2
/-- one parameter, captured names, globals -/
structure LamP (sc scope : Scope) (wd : Str) : Prop where
  kind : scope.kind = .function
  co : scope.isCoroutine = false
  gen : scope.isGenerator = false
  wl : scope.names.lookup wd = some .local
  one : ∀ y ∈ scope.names, y.2 = .local → y.1 = wd
  nc : ∀ y ∈ scope.names, y.2 ≠ .cell
  free : ∀ y ∈ scope.names, y.2 = .free → sc.names.lookup y.1 = some .cell ∨ sc.names.lookup y.1 = some .free
def lamPB (sc scope : Scope) (wd : Str) : Bool :=
  decide (scope.kind = .function) && (!scope.isCoroutine && (!scope.isGenerator && (decide (scope.names.lookup wd = some .local) && (scope.names.all fun y => match y.2 with
    | .local => decide (y.1 = wd)
    | .cell => false
    | .free => decide (sc.names.lookup y.1 = some .cell) || decide (sc.names.lookup y.1 = some .free)
    | _ => true))))
theorem lamP_by {sc scope : Scope} {wd : Str} (h : lamPB sc scope wd = true) : LamP sc scope wd := by
  unfold lamPB at h
  simp only [Bool.and_eq_true, Bool.not_eq_true', decide_eq_true_eq, List.all_eq_true] at h
  obtain ⟨h1, h2, h3, h4, h5⟩ := h
  refine ⟨h1, h2, h3, h4, fun y hy e => ?_, fun y hy e => ?_, fun y hy e => ?_⟩
  · have := h5 y hy
    rw [e] at this
    exact of_decide_eq_true this
  · have := h5 y hy
    rw [e] at this
    cases this
  · have := h5 y hy
    rw [e] at this
    simpa using this
section
variable {X : Cx} {pins : List (Addr × Obj)} {σ : L2.St} {H HZ : Hp} {s s1 : Shared} {scope : Scope} {wd : Str}
theorem LamP.cells (L : LamP X.env.scope scope wd) (ok : X.Ok) : ∀ y ∈ scope.names, y.2 = .free → ∃ c, X.env.cells.lookup y.1 = some c := fun y hy e =>
  ok.has _ (L.free y hy e)
/-- the lambda's body is entered -/
theorem lamp_start {A : Around} {outer : List Env} {E : XK} {f c' : Addr} {h₁ : Heap} {tk j : Nat} {v : V} {u : Value} (I : Inv X pins σ H s) (L : LamP X.env.scope scope wd) (nd : X.N.Nodup) (hj : X.N[j]? = some wd)
    (e0 : Env0 X.prog X.w X.K X.mg X.base A outer s1 HZ) (hd : A.handled = none) (un : L2.Un (frs X.stack) [] H HZ s.heap s1.heap) (ru : RelV v u)
    (hns : h₁.Ns s1.heap.objs.size fun y => [(wd, u)].reverse.lookup y) (kp : ∀ b o, s1.heap.get? b = some o → h₁.get? b = some o) :
    Inv (LamX.lamCx X A outer s1 HZ E scope f c') [] (σ.set j (some v)) HZ { s1 with heap := h₁, toks := tk } := by
  have fr := L.cells I.ok
  -- a captured cell is one of the maker's
  have up : ∀ {y c}, (cloFrom X.env.cells scope.names []).lookup y = some c → X.env.cells.lookup y = some c := fun {y c} e => by
    rcases cloFrom_mem (PySem.mem_of_lookup e) with z | ⟨z, w⟩
    · cases z
    · obtain ⟨c1, q⟩ := fr _ z rfl
      have q : X.env.cells.lookup y = some c1 := q
      have : c = c1 := by rw [w, q] <;> rfl
      exact this ▸ q
  have lk : ∀ {y}, scope.names.lookup y = some .free → ∃ c, (cloFrom X.env.cells scope.names []).lookup y = some c := fun {y} e =>
    mem_lookup (cloFrom_has (cells := X.env.cells) (acc := []) (PySem.mem_of_lookup e))
  have cells : ∀ {c : Addr} {w : Option Value}, H c = none → s.heap.IsCell c w → h₁.IsCell c w := fun {c w} n ⟨o, q, d⟩ => by
    obtain ⟨sl, z⟩ := un.any q n (by simp)
    exact ⟨_, kp _ _ z, d⟩
  have no : ∀ b : Addr, ¬ b ∈ (LamX.lamCx X A outer s1 HZ E scope f c').ex := fun b z => nomatch (show b ∈ ([] : List Addr) from z)
  have O : (LamX.lamCx X A outer s1 HZ E scope f c').Ok := {
    mod := e0.mod
    kind := L.kind
    glob := rfl
    blt := rfl
    above := Nat.le_refl _
    inj := fun y z c a b => I.ok.inj y z c (up a) (up b)
    has := fun y hy => by
      rcases (show scope.names.lookup y = some .cell ∨ scope.names.lookup y = some .free from hy) with z | z
      · exact absurd rfl (L.nc _ (PySem.mem_of_lookup z))
      · exact lk z
    cab := fun y c z _ => nomatch (show false = true from z)
    hd := fun _ => hd
    frames := Around.frames_deeper e0.frames
    stk := .inr ⟨rfl, rfl⟩
    exf := fun b z => absurd z (no b)
    bs := e0.bs
    bsz := e0.bsz
    noex := fun b _ _ => no b
    exfs := fun b z => absurd z (no b)
    funs := e0.funs
    frf := e0.frf }
  refine { ok := O, os := rfl, bare := e0.bare, base := L2.Un.kept kp, loc := ⟨_, hns, fun i y w e1 e2 e3 => ?_⟩, cell := fun y c e => ?_, free := e0.hok.fresh (Nat.le_refl _), freeC := fun y c e => ?_, pin := fun q hq => (nomatch (show q ∈ ([] : List (Addr × Obj)) from hq)), hok := e0.hok.kept kp, len := ?_ }
  · have e1 : X.N[i]? = some y := e1
    have e3 : Vis scope y := e3
    by_cases hi : i = j
    · subst hi
      rw [hj] at e1
      cases e1
      have hl : i < σ.length := by rw [I.len]; exact (List.getElem?_eq_some_iff.mp hj).1
      rw [List.getElem?_set_self hl] at e2
      cases e2
      exact ⟨u, ru, .inl ⟨L.wl, by simp⟩⟩
    · rw [List.getElem?_set_ne (Ne.symm hi)] at e2
      have ny : scope.names.lookup y ≠ some .local := fun z => by
        have ey : y = wd := L.one _ (PySem.mem_of_lookup z) rfl
        subst ey
        obtain ⟨l1, q1⟩ := List.getElem?_eq_some_iff.mp e1
        obtain ⟨l2, q2⟩ := List.getElem?_eq_some_iff.mp hj
        rcases Nat.lt_trichotomy i j with g | g | g
        · exact absurd (q1.trans q2.symm) ((List.pairwise_iff_getElem.mp nd) i j l1 l2 g)
        · exact hi g
        · exact absurd (q2.trans q1.symm) ((List.pairwise_iff_getElem.mp nd) j i l2 l1 g)
      rcases e3 with z | z | z
      · exact absurd z ny
      · exact absurd rfl (L.nc _ (PySem.mem_of_lookup z))
      · obtain ⟨m, hm, hl⟩ := I.loc
        have vis : Vis X.env.scope y := (L.free _ (PySem.mem_of_lookup z) rfl).elim (fun k => .inr (.inl k)) fun k => .inr (.inr k)
        obtain ⟨w', r, q⟩ := hl i y w e1 e2 vis
        obtain ⟨c2, h2⟩ := lk z
        refine ⟨w', r, .inr ⟨.inr z, c2, h2, ?_⟩⟩
        rcases q with ⟨q1, _⟩ | ⟨_, c3, q2, q3⟩
        · have q1 : X.env.scope.names.lookup y = some .local := q1
          rcases L.free _ (PySem.mem_of_lookup z) rfl with k | k
          all_goals
            have k : X.env.scope.names.lookup y = _ := k
            rw [k] at q1
            cases q1
        · rw [up h2] at q2
          cases q2
          exact cells (I.freeC y _ (up h2)) q3
  · obtain ⟨w', z⟩ := I.cell y c (up e)
    exact ⟨w', cells (I.freeC y c (up e)) z⟩
  · obtain ⟨w, o, ho, _⟩ := I.cell y c (up e)
    exact un.free c o ho (I.freeC y c (up e)) (by simp)
  · show (σ.set j (some v)).length = X.N.length
    rw [List.length_set]; exact I.len
end
end Ri

set_option maxRecDepth 100000
set_option maxHeartbeats 1000000
/-! Rx, part L: a parameter is called; a method that asks what it is handed. -/
namespace Ri
open PySem PySem.Spec PyProof.Rows L2
section
variable {X : Cx} {pins : List (Addr × Obj)} {σ : L2.St} {H HZ : Hp} {s s1 : Shared} {scope : Scope} {wd : Str}
/-- x(e), where x is a lambda: in the method that got it -/
theorem pe_ask {Ng : List Str} {qg : Str} {sg : Scope} {g f c' : Addr} {cdg pm ctv : Value} {params : Arguments} {body e : Expr} {k i j : Nat} {a : Str} {Eg : XK} {te tb : TE} {p1 p2 : Pos}
    (I : Inv X pins σ H s) (L : LamP X.env.scope scope wd) (nd : X.N.Nodup) (hj : X.N[j]? = some wd) (hf : s.heap.get? f = some (PySem.W.kla_obj "<lambda>" (X.env.qual ++ "<lambda>") params body scope (cloFrom X.env.cells scope.names []) pm c' ctv)) (hfn : H f = none) (hfr : f ∉ frs X.stack)
    (hbind : ∀ u, bindArgs (PySem.W.kla_fn "<lambda>" (X.env.qual ++ "<lambda>") params body scope (cloFrom X.env.cells scope.names []) pm (.ref c') ctv) ⟨[u], []⟩ = pure [(wd, u)])
    (hr : Room (k + 1) (X.A.deeper (envOfC qg sg s.heap.objs.size g cdg)))
    (he : PE (cxOf (CX X.prog X.w) X.prog X.w X.K X.mg X.base Ng qg sg g cdg X.A X.stack s H Eg) e te)
    (hbody : ∀ (A : Around) (outer : List Env) (s : Shared) (H : Hp), Room k (A.deeper (LamX.lamEnv X scope s.heap.objs.size f c')) → PE (LamX.lamCx X A outer s H (fun _ _ _ => False) scope f c') body tb)
    (hst : ∀ env, starEach [e] env = (false, eval e env) :: starEach [] env) (hN : Ng[i]? = some a) (hv : Vis sg a) (hd : (a == ("__debug__" : Str)) = false := by decide) (hcd : (a == ("__classdict__" : Str)) = false := by decide) :
    PE (cxOf (CX X.prog X.w) X.prog X.w X.K X.mg X.base Ng qg sg g cdg X.A X.stack s H Eg) (.Call (.Name a p1) [e] [] p2)
      (fun σZ HZ Q => σZ[i]? = some (some (.ref f)) ∧ te σZ HZ fun v H1 => H1 c' = some (LamX.CodeO c' (X.env.qual ++ "<lambda>")) ∧ tb (σ.set j (some v)) H1 Q) := by
  refine ⟨fun pz sz σz hz Q IZ ⟨hs, ht⟩ => ?_⟩
  refine wpAny_Call_Name_kw (thn ((pe_var (pos := p1) (i := i) hN hv hd hcd).run pz sz σz hz (fun v H1 => v = .ref f ∧ H1 = hz) IZ ⟨.ref f, hs, rfl, rfl⟩) fun u s0 ⟨v0, H0, I0, r0, q0⟩ => ?_)
  obtain ⟨rfl, rfl⟩ := q0
  obtain rfl : u = Value.ref f := r0
  have keepF : ∀ {σ' : L2.St} {H' : Hp} {s' : Shared} {pn : List (Addr × Obj)}, Inv (cxOf (CX X.prog X.w) X.prog X.w X.K X.mg X.base Ng qg sg g cdg X.A X.stack s H Eg) pn σ' H' s' → s'.heap.get? f = some (PySem.W.kla_obj "<lambda>" (X.env.qual ++ "<lambda>") params body scope (cloFrom X.env.cells scope.names []) pm c' ctv) := fun J =>
    J.base.keep f _ hf hfn hfr (by intro z; cases z)
  refine PySem.W.callWith_F ⟨_, _, _, _, keepF I0⟩ (thn ((pa_cons he pa_nil (hst _)).run p2 pz s0 σz H0 (fun vs H1 => match vs with | [v] => H1 c' = some (LamX.CodeO c' (X.env.qual ++ "<lambda>")) ∧ tb (σ.set j (some v)) H1 Q | _ => False) I0 ht) fun us s1 ⟨vs, H1, I1, rv, hq⟩ => ?_) (hst _) rfl
  · rcases vs with _ | ⟨w, _ | ⟨w2, vs'⟩⟩
    · exact hq.elim
    case cons.cons => exact hq.elim
    obtain ⟨hc, hq⟩ := hq
    obtain ⟨u, rfl, rw'⟩ : ∃ u, us = [u] ∧ L2.RelV w u := by
      cases rv with
      | cons a b => cases b; exact ⟨_, rfl, a⟩
    refine ⟨⟨_, _, _, _, keepF I1⟩, ?_⟩
    have un : L2.Un (frs X.stack) [] H H1 s.heap s1.heap := I1.base
    obtain ⟨⟨oc, vs, t, hoc, hdc, hvc⟩, _, _⟩ := I1.hok c' _ hc
    have rc : codeAny (model X.prog X.w) (X.A.deeper (envOfC qg sg s.heap.objs.size g cdg)) (.call (.ref f) ⟨[u], []⟩) (CR (CX X.prog X.w) (envOfC qg sg s.heap.objs.size g cdg :: X.stack) X.prog X.w H1 s1 Q (fun _ _ _ => False)) s1 := by
      refine PySem.W.kla_callFunE hr.depth (keepF I1) rfl L.co L.gen rfl ⟨c', oc, vs, t, rfl, hoc, hdc, hvc⟩ ?_
      rw [hbind]
      refine wpAny_pure (wpAny_newFunctionEnv L.nc (fun y hy => ?_) (fun h₁ hns hsb => ⟨I1.nolimit.fresh _ hsb, ?_⟩) L.kind)
      · obtain rfl := List.mem_singleton.mp hy
        exact L.wl
      show codeAny _ _ (.expr body (LamX.lamEnv X scope s1.heap.objs.size f c')) _ _
      have kp : ∀ b o, s1.heap.get? b = some o → h₁.get? b = some o := fun b o e => hsb.extBut b o (Nat.ne_of_lt (Heap.lt_size e)) (Heap.get?_push_of_some _ e)
      have J := lamp_start (A := X.A.deeper (envOfC qg sg s.heap.objs.size g cdg)) (outer := envOfC qg sg s.heap.objs.size g cdg :: X.stack) (E := fun _ _ _ => False) (f := f) (c' := c') (tk := s1.toks + [(wd, u)].length) I L nd hj I1.env0 hr.hd un rw' hns kp
      refine PySem.W.kla_codeExpr (wpAny_mono ((hbody _ _ s1 H1 (hr.deeper _)).run [] _ _ H1 Q J hq) (fun v s' z => ?_) fun e s' z => z)
      obtain ⟨w', H', J', rv', q⟩ := z
      exact ⟨w', H', J'.os, J'.bare, J'.base, J'.hok, rv', q⟩
    refine wpAny_call (codeAny_mono rc fun r s' z => ?_)
    rcases r with e | fl
    · exact (passW0 (X := cxOf (CX X.prog X.w) X.prog X.w X.K X.mg X.base Ng qg sg g cdg X.A X.stack s H Eg) (P := X.prog) (w := X.w) pz σz H1 s1 e s' I1 z)
    · cases fl with
      | ret u => exact I1.after z
      | next => exact z.elim
      | brk => exact z.elim
      | cont => exact z.elim
end
section
variable {X : Cx} {G : Cfg} {W : WX} {tb : Tb} {c : CallF}
/-- x(e), where x is a def -/
theorem pe_askF {e : Expr} {te : TE} {g : Addr} {sp : Sp} {k i : Nat} {a : Str} {p1 p2 : Pos} (F : FnR X.prog X.w X.K X.mg X.base (CX X.prog X.w) k g sp) (hr : Room k X.A) (hk : PySem.W.keepIn X.K (.ref g) = true) (he : PE X e te)
    (hst : ∀ env, starEach [e] env = (false, eval e env) :: starEach [] env) (hN : X.N[i]? = some a) (hv : Vis X.env.scope a) (hd : (a == ("__debug__" : Str)) = false := by decide) (hcd : (a == ("__classdict__" : Str)) = false := by decide) :
    PE X (.Call (.Name a p1) [e] [] p2) (fun σ H Q => σ[i]? = some (some (.ref g)) ∧ te σ H fun v H1 => sp [v] H1 Q (fun _ _ _ => False)) := by
  refine ⟨fun pz sz σz hz Q IZ ⟨hs, ht⟩ => ?_⟩
  refine wpAny_Call_Name_kw (thn ((pe_var (pos := p1) (i := i) hN hv hd hcd).run pz sz σz hz (fun v H1 => v = .ref g ∧ H1 = hz) IZ ⟨.ref g, hs, rfl, rfl⟩) fun u s0 ⟨v0, H0, I0, r0, q0⟩ => ?_)
  obtain ⟨rfl, rfl⟩ := q0
  obtain rfl : u = Value.ref g := r0
  exact PySem.W.callWith_K (h₀ := X.base) IZ.ok.mod.kin hk (thn ((pa_cons he pa_nil (hst _)).run p2 pz s0 σz H0 (fun vs H1 => sp vs H1 Q (fun _ _ _ => False)) I0 ht) fun us s1 ⟨vs, H1, I1, rv, hq⟩ => ⟨I1.kIn, run_fnW (W := W0) F hr passW0 I1 rv hq⟩) (hst _) rfl
/-- if not e1 or not x(e2): e3; .. -/
theorem next_gives {e1 e2 e3 : Expr} {i1 i2 i3 : E} {rest : List Stmt} {irest : List Stm} {a : Str} {fv : V} {U : V → Hp → VK → Prop} {n : Nat} {p1 p2 q1 q2 q3 q4 q5 : Pos} {Z F H : Hp} {ρ : List Addr} {s : S} {σ : L2.St} {lam : D → S → Res Bool} {Dn : Ends}
    (c1 : CT X G W tb c e1 i1) (hA : ∀ te, PE X e2 te → PE X (.Call (.Name a p1) [e2] [] p2) (fun σ H Q => σ[1]? = some (some fv) ∧ te σ H fun v H1 => U v H1 Q)) (c2 : CE X G W tb c e2 i2) (c3 : CE X G W tb c e3 i3) (cr : CSs X G W tb c rest irest)
    (he : ∀ whole, isTrue (.Call (.Name a p1) [e2] [] p2) X.env whole = (do let v ← whole; standAt (Expr.pos (.Call (.Name a p1) [e2] [] p2)); holding [v] (truthy v))) (hs3 : swapsWith e3 none q4.line X.env = pure false)
    (mono : ∀ {v H1} {Q Q' : VK}, (∀ w H2, Q w H2 → Q' w H2) → U v H1 Q → U v H1 Q')
    (hσ : σ[1]? = some (some fv)) (rel : Rel G Z F ρ s σ H []) (g : GoesS G W Z F ρ [] (nextB (run tb c n) lam i1 i2 i3 irest s) Dn)
    (hl : ∀ {d v H1 Z1 ρ1 s1 res}, Same Z Z1 → ρ <+: ρ1 → Rel G Z1 F ρ1 s1 σ H1 [(.val d, v)] → lam d s1 = some res → ∃ b s2, res = (Except.ok b, s2) ∧ U v H1 (fun w H2 => w = .bl b ∧ ∃ Z2 ρ2, Same Z1 Z2 ∧ ρ1 <+: ρ2 ∧ Rel G Z2 F ρ2 s2 σ H2 [])) :
    ∃ t, PSs X (.If (.BoolOp .Or [.UnaryOp .Not e1 q1, .UnaryOp .Not (.Call (.Name a p1) [e2] [] p2) q2] q3) [.Expr e3 q4] [] q5 :: rest) t ∧ t Dn σ H := by
  refine ⟨_, pss_cons (ps_if (pw_or (pt_not (c1 n)) (pw_or1 (pt_not (pt_val (hA _ (c2 n)) he)))).pt (pss_one (ps_expr (c3 n) hs3)) pss_nil) (cr n), ?_⟩
  -- what stands in the body of the if
  have fail : ∀ {H1 Z1 ρ1 s1}, Same Z Z1 → ρ <+: ρ1 → Rel G Z1 F ρ1 s1 σ H1 [] → GoesS G W Z1 F ρ1 [] (bd ((run tb c n).ex i3 s1) fun _ s3 => execs (run tb c n) irest s3) Dn →
      T G W ((run tb c n).ex i3) σ H1 fun _ H2 => TSt G W (execs (run tb c n) irest) Dn σ H2 := fun {H1 Z1 ρ1 s1} e1 p1 r1 g1 =>
    goesS_bind [] r1 g1 fun v H2 r2 s2 Z2 ρ2 e2 p2 rel2 g2 => ⟨Z2, F, ρ2, s2, [], NoSlot.nil, rel2.pop, g2⟩
  refine goesS_bindB rel g fun k H1 s1 Z1 ρ1 z1 w1 r1 g1 => ?_
  cases k with
  | false => exact fail z1 w1 r1 g1
  | true =>
    replace g1 : GoesS G W Z1 F ρ1 [] (bd (bd ((run tb c n).ex i2 s1) (actB lam)) fun b2 s2 => if b2 then execs (run tb c n) irest s2 else bd ((run tb c n).ex i3 s2) fun _ s3 => execs (run tb c n) irest s3) Dn := g1
    rw [bd_bd] at g1
    refine ⟨hσ, goesS_bind [] r1 g1 fun v H2 r2 s2 Z2 ρ2 z2 w2 rel2 g2 => ?_⟩
    cases r2 with
    | own cc => exact g2.elim
    | slot j => exact g2.elim
    | val d =>
      replace g2 : GoesS G W Z2 F ρ2 [] (bd (lam d s2) fun b2 s2 => if b2 then execs (run tb c n) irest s2 else bd ((run tb c n).ex i3 s2) fun _ s3 => execs (run tb c n) irest s3) Dn := g2
      cases hq : lam d s2 with
      | none => rw [hq] at g2; exact g2.elim
      | some res =>
        obtain ⟨b, s3, rfl, u⟩ := hl (z1.trans z2) (List.IsPrefix.trans w1 w2) rel2 hq
        rw [hq] at g2
        refine mono (fun w H3 ⟨ew, Z3, ρ3, z3, w3, r3⟩ => ⟨b, ew, ?_⟩) u
        cases b with
        | true => exact ⟨Z3, F, ρ3, s3, [], NoSlot.nil, r3, GoesS.mono g2 z3 w3⟩
        | false => exact fail ((z1.trans z2).trans z3) (List.IsPrefix.trans (List.IsPrefix.trans w1 w2) w3) r3 (GoesS.mono g2 z3 w3)
end
end Ri

set_option maxRecDepth 100000
set_option maxHeartbeats 1000000
/-! Rx, part M: the method call that hands over a lambda, or a def. -/
namespace Ri
open PySem PySem.Spec PyProof.Rows L2
section
variable {G : Cfg} {Z Z' F H H' : Hp} {ρ ρ' : List Addr} {s : S} {σ : L2.St} {P : List (R × V)}
/-- other slots, which own nothing -/
theorem Rel.slots (r : Rel G Z F ρ s σ H P) (ns : NoSlot P) {sl : List (Option SV)} {τ : L2.St} (hl : sl.length = τ.length) (h : ∀ (i : Nat) (x : SV), sl[i]? = some (some x) → (∀ c, x ≠ .own c) ∧ ∃ v, τ[i]? = some (some v) ∧ SRep G Z F ρ H v x) :
    Rel G Z F ρ ⟨sl, s.hp⟩ τ H P := by
  have r0 := r.leave ns
  have own : ∀ b w, Owns ρ sl τ P b w → Owns ρ ([] : List (Option SV)) ([] : L2.St) P b w := fun b w q => by
    cases w with
    | hp i => exact q
    | pd i => exact q
    | sl i => obtain ⟨⟨c, hc⟩, _⟩ := q; exact absurd rfl ((h i _ hc).1 c)
  refine ⟨r0.zs, r0.fs, r0.len, r0.hp, hl, fun i x e => (h i x e).2, fun i x v e => ?_, fun b x y h1 h2 => r0.uq b x y (own _ _ h1) (own _ _ h2), fun b x q => r0.zo b x (own _ _ q), r0.no, r0.nt⟩
  have q := r0.pd i x v e
  cases x with
  | val d => exact q
  | own c => exact q
  | slot k => exact absurd e (ns i k v)
theorem zc1_code {c' : Addr} {q : Str} (zs : Same (Zc1 Z H) H) (h : H c' = some (LamX.CodeO c' q)) : Zc1 Z H c' = some (LamX.CodeO c' q) := by
  cases z : Zc1 Z H c' with
  | some o => have := zs _ _ z; rw [h] at this; exact this.symm
  | none =>
    exfalso
    unfold Zc1 at z
    split at z
    · rw [h] at z; cases z
    · rename_i g; exact g ⟨z, q, h⟩
theorem lamT_some {s : S} {m : Res R} {res : Except Xc Bool × S} (h : lamT s m = some res) : ∃ b s', m = some (.ok (.val (.bl b)), s') ∧ res = (.ok b, { s with hp := s'.hp }) := by
  unfold lamT at h
  split at h
  · rename_i b s'; exact ⟨b, s', rfl, (Option.some.inj h).symm⟩
  · cases h
theorem fnT_some {s : S} {m : Option (Except Xc R × List O)} {res : Except Xc Bool × S} (h : fnT s m = some res) : ∃ b hp, m = some (.ok (.val (.bl b)), hp) ∧ res = (.ok b, { s with hp := hp }) := by
  unfold fnT at h
  split at h
  · rename_i b s'; exact ⟨b, s', rfl, (Option.some.inj h).symm⟩
  · cases h
/-- the lambda's frame: the maker's slots, lent -/
theorem lam_rel {L : List (R × V)} {s1 s4 : S} {Z3 H4 : Hp} {ρ3 : List Addr} {σz : L2.St} {d : D} {v : V} {j : Nat} (rel : Rel G Z F ρ s1 σ H (L ++ P)) (z : Same Z Z3) (w : ρ <+: ρ3) (r3 : Rel G Z3 (frame F ρ s1 σ L P H) ρ3 s4 σz H4 [(.val d, v)]) :
    Rel G Z3 (frame (frame F ρ s1 σ L P H) ρ3 s4 σz [(.val d, v)] [] H4) ρ3 ⟨(s1.sl.map lend).set j (some (.val d)), s4.hp⟩ (σ.set j (some v)) H4 [] := by
  have r4 := Rel.callee (L := [(R.val d, v)]) (P := []) (rs := [.val d]) (vs := [v]) (svs := [.val d]) (by exact r3) rfl rfl (fun j => j) (fun j x v' h1 h2 => by
    cases j with
    | zero => simp at h1 h2; subst h1 h2; exact ⟨r3.head, fun c hc => by cases hc⟩
    | succ j => simp at h1) (fun j k h1 h2 ⟨c, hc⟩ => by
    cases j with
    | zero => simp at hc
    | succ j => simp at hc)
  refine r4.slots NoSlot.nil (by simp [rel.slen]) fun i x e => ?_
  by_cases hi : i = j
  · subst hi
    by_cases hl : i < (s1.sl.map lend).length
    · rw [List.getElem?_set_self hl] at e
      cases e
      refine ⟨(fun _ y => nomatch y), v, ?_, r3.head⟩
      rw [List.getElem?_set_self (by simpa [rel.slen] using hl)]
    · rw [List.getElem?_eq_none (by simpa using hl)] at e; cases e
  · rw [List.getElem?_set_ne (Ne.symm hi), List.getElem?_map] at e
    rw [List.getElem?_set_ne (Ne.symm hi)]
    cases q : s1.sl[i]? with
    | none => rw [q] at e; cases e
    | some oy =>
      rw [q] at e
      cases oy with
      | none => cases e
      | some y =>
        obtain ⟨vi, g1, g2⟩ := rel.sl i y q
        have old : ∀ {b o}, F b = some o → frame (frame F ρ s1 σ L P H) ρ3 s4 σz [(R.val d, v)] [] H4 b = some o := fun h => frame_old (L := [(R.val d, v)]) (P := []) (by exact r3) (frame_old rel h)
        cases y with
        | val d' => cases e; exact ⟨(fun _ y => nomatch y), vi, g1, DRep.mono z w g2⟩
        | own c =>
          cases e
          obtain ⟨b, o, rfl, g3, g4⟩ := g2
          exact ⟨(fun _ y => nomatch y), _, g1, b, o, rfl, frame_old (L := [(R.val d, v)]) (P := []) (by exact r3) (by rw [frame_sl i ⟨⟨c, q⟩, g1⟩]; exact g3), g4.mono z w⟩
        | bor c =>
          cases e
          obtain ⟨b, o, rfl, g3, g4⟩ := g2
          exact ⟨(fun _ y => nomatch y), _, g1, b, o, rfl, old g3, g4.mono z w⟩
/-- the method's end -/
theorem goesS_endW {W : WX} {Q : VK} {L : List (R × V)} {s1 : S} {Z1 : Hp} (rel : Rel G Z1 F ρ s1 σ H (L ++ P)) {m : Res Fl} (e : Same Z Z1) (g : Goes G W Z F ρ σ P (endW s1 m) Q) :
    GoesS G (fun cls d _ H => W cls d σ H) Z1 (frame F ρ s1 σ L P H) ρ [] m { nx := fun _ H' => Q .non H', rt := Q } := by
  rcases m with _ | ⟨x | fl, s'⟩
  · exact g
  · exact fun cls d σ1 H1 Z2 ρ2 e2 p2 x2 r2 => g cls d H1 Z2 ρ2 (e.trans e2) p2 x2 (Rel.back rel e2 p2 (r2.leave NoSlot.nil))
  · cases fl with
    | next => exact g.elim
    | brk => exact g.elim
    | cnt => exact g.elim
    | ret r =>
      cases r with
      | own c => exact g.elim
      | slot i => exact g.elim
      | val d =>
        intro v σ1 H1 Z2 ρ2 e2 p2 r2
        obtain ⟨ρ4, p4, r4⟩ := (r2.leave (noSlot1 fun i z => by cases z)).gc (ρ := ρ) p2
        rw [← rel.len] at r4
        have r5 := Rel.back (M := [(R.val d, v)]) rel e2 p4 r4
        exact g v H1 Z2 ρ4 (e.trans e2) p4 r5
end
end Ri

set_option maxRecDepth 100000
set_option maxHeartbeats 1000000
/-! Rx, part N: row.next_word(lambda ..), row.next_word(f). -/
namespace Ri
open PySem PySem.Spec PyProof.Rows L2
/-- what is known of the method's body -/
def NextOk (P : Program) (w : World) (K : PySem.W.Frag) (mg : Str → Option Value) (base : Heap) (G : Cfg) (tb : Tb) (cf : CallF) (k : Nat) (N : List Str) (qg : Str) (sg : Scope) (g : Addr) (e1 e2 e3 : Expr) (rest : List Stmt) (i1 i2 i3 : E) (irest : List Stm) : Prop :=
  ∀ (cdv : Value) (A : Around) (outer : List Env) (s : Shared) (H : Hp) (E : XK), Room k (A.deeper (envOfC qg sg s.heap.objs.size g cdv)) → Takes (cxOf (CX P w) P w K mg base N qg sg g cdv A outer s H E) (fun cls d _ H => E cls d H) →
    CT (cxOf (CX P w) P w K mg base N qg sg g cdv A outer s H E) G (fun cls d _ H => E cls d H) tb cf e1 i1 ∧ CE (cxOf (CX P w) P w K mg base N qg sg g cdv A outer s H E) G (fun cls d _ H => E cls d H) tb cf e2 i2 ∧
    CE (cxOf (CX P w) P w K mg base N qg sg g cdv A outer s H E) G (fun cls d _ H => E cls d H) tb cf e3 i3 ∧ CSs (cxOf (CX P w) P w K mg base N qg sg g cdv A outer s H E) G (fun cls d _ H => E cls d H) tb cf rest irest
/-- the body's form -/
abbrev nextBd (a : Str) (e1 e2 e3 : Expr) (rest : List Stmt) (p1 p2 q1 q2 q3 q4 q5 : Pos) : List Stmt := .If (.BoolOp .Or [.UnaryOp .Not e1 q1, .UnaryOp .Not (.Call (.Name a p1) [e2] [] p2) q2] q3) [.Expr e3 q4] [] q5 :: rest
section
variable {X : Cx} {G : Cfg} {W : WX} {tb : Tb} {cf : CallF}
theorem nextR_in {F : Rec} {fi : Nat} {lam : D → S → Res Bool} {r : R} {s : S} {i1 i2 i3 : E} {irest : List Stm} (hdf : tb.df fi = some ⟨2, 2, .if_ (.or (.un .not_ i1) (.un .not_ (.act 1 [i2]))) [.ex i3] [] :: irest⟩) :
    nextR F tb fi lam r s = match argS s r with
      | some v => endW s (nextB F lam i1 i2 i3 irest ⟨[some v, none], s.hp⟩)
      | none => none := by
  unfold nextR
  rw [hdf]
  rfl
theorem isIns_val {s : S} {c : Nat} {r : R} (h : isIns s c r = true) : ∃ d, r = .val d := by
  unfold isIns at h
  split at h
  · exact ⟨_, rfl⟩
  · exact ⟨_, rfl⟩
  · cases h
theorem isTab_at {s : S} {n : Nat} {q : Str} (h : isTab s n q = true) : s.hp[n]? = some (.tab q) := by
  unfold isTab at h
  split at h
  · rename_i p' e
    rw [e, of_decide_eq_true h]
  · cases h
/-- the callee's frame: self, and what nobody knows -/
theorem next_rel {Z F H : Hp} {ρ : List Addr} {s : S} {σ : L2.St} {P : List (R × V)} {d : D} {v fv : V} (rel : Rel G Z F ρ s σ H ([(R.val d, v)] ++ P)) : Rel G Z (frame F ρ s σ [(R.val d, v)] P H) ρ ⟨[some (.val d), none], s.hp⟩ [some v, some fv] H [] := by
  have r4 := Rel.callee (L := [(R.val d, v)]) (P := P) (rs := [.val d]) (vs := [v]) (svs := [.val d]) rel rfl rfl (fun j => j) (fun j x v' h1 h2 => by
    cases j with
    | zero => simp at h1 h2; subst h1 h2; exact ⟨rel.head, fun c hc => by cases hc⟩
    | succ j => simp at h1) (fun j k h1 h2 ⟨c, hc⟩ => by
    cases j with
    | zero => simp at hc
    | succ j => simp at hc)
  refine r4.slots NoSlot.nil rfl fun i x e => ?_
  match i with
  | 0 => simp at e; subst e; exact ⟨(fun _ y => nomatch y), v, rfl, rel.head⟩
  | 1 => simp at e
  | i + 2 => simp at e
theorem ce_nextw {pl : Sem Bool} {o : Expr} {io ib : E} {ci fi n j k : Nat} {C g c : Addr} {names : List Str} {m p0 a qg wd : Str} {pg params : Arguments} {sg scope : Scope} {fd : FuncData} {e1 e2 e3 body : Expr} {rest : List Stmt} {i1 i2 i3 : E} {irest : List Stm} {p1 p2 q1 q2 q3 q4 q5 lpos apos pos : Pos}
    (ho : CE X G W tb cf o io) (cl : PCls G X ci C names) (hno : m ∉ names) (hm : Meth X.K C m g) (tk : Takes X W)
    (Fd : FunD X.K m qg pg (nextBd a e1 e2 e3 rest p1 p2 q1 q2 q3 q4 q5) sg [] [] g fd) (hb : L2.Binds X.K fd [p0, a] []) (Sg : FnScope [p0, a] [p0, a] sg) (hva : Vis sg a)
    (hdf : tb.df fi = some ⟨2, 2, .if_ (.or (.un .not_ i1) (.un .not_ (.act 1 [i2]))) [.ex i3] [] :: irest⟩)
    (hcal : NextOk X.prog X.w X.K X.mg X.base G tb cf (k + 1) [p0, a] qg sg g e1 e2 e3 rest i1 i2 i3 irest)
    (TB : LamX.TabB X.base X.mg c (G.tabP (X.env.qual ++ "<lambda>"))) (hcode : X.env.code = .ref c) (hr : Room (k + 2) X.A) (L : LamP X.env.scope scope wd) (nd : X.N.Nodup) (hj : X.N[j]? = some wd) (hdef : defaultsOf params X.env = ([], []))
    (hbind : ∀ (q : Str) (cl : List (Str × Addr)) (pm cv ctv u : Value), bindArgs (PySem.W.kla_fn "<lambda>" q params body scope cl pm cv ctv) ⟨[u], []⟩ = pure [(wd, u)])
    (hbody : ∀ (A : Around) (outer : List Env) (s : Shared) (H : Hp) (f c' : Addr), Room k (A.deeper (LamX.lamEnv X scope s.heap.objs.size f c')) → CE (LamX.lamCx X A outer s H (fun _ _ _ => False) scope f c') G W0 tb cf body ib)
    (hst : ∀ env, starEach [e2] env = (false, eval e2 env) :: starEach [] env := by intro _; rfl) (het : ∀ (env : Env) (whole : Sem Value), isTrue (.Call (.Name a p1) [e2] [] p2) env whole = (do let v ← whole; standAt (Expr.pos (.Call (.Name a p1) [e2] [] p2)); holding [v] (truthy v)) := by intro _ _; rfl) (hs3 : ∀ env, swapsWith e3 none q4.line env = pure false := by intro _; rfl)
    (hd : (a == ("__debug__" : Str)) = false := by decide) (hcd : (a == ("__classdict__" : Str)) = false := by decide)
    (ht : eval (.Call (.Attribute o m apos) [.Lambda params body scope lpos] [] pos) X.env = (do
      let ov ← eval o X.env; standAt apos.atName; let (f, first) ← holding [ov] (getMethod ov m pl); callWith pos f first (backTo pos (starEach [.Lambda params body scope lpos] X.env)) (backToKw pos (keywordEach [] X.env))) := by rfl) :
    CE X G W tb cf (.Call (.Attribute o m apos) [.Lambda params body scope lpos] [] pos) (.nextw n (X.env.qual ++ "<lambda>") ci fi io j ib) := by
  obtain ⟨oc, od, dV, kV, doc, pm, an, cdv, ct, osl, rfl, lk, hcg, _, _⟩ := Fd.ex
  intro m'
  cases m' with
  | zero => exact ⟨fun pins s σ H Q I ⟨_, _, _, _, _, _, z⟩ => z.elim⟩
  | succ mm =>
  refine ⟨fun pins s' σ H Q I ⟨Z, F, ρ, s, P, rel, gg⟩ => ?_⟩
  refine PySem.W.methodCall_KW (pl := pl) (thn ((ho mm).run pins s' σ H (fun v H1 => ∃ r1 s1 Z1 ρ1, Same Z Z1 ∧ ρ <+: ρ1 ∧ Rel G Z1 F ρ1 s1 σ H1 ((r1, v) :: ([] ++ P)) ∧ Goes G W Z1 F ρ1 σ P (if isIns s1 ci r1 && isTab s1 n (X.env.qual ++ "<lambda>") then nextR (run tb cf mm) tb fi (lamB (run tb cf mm) s1.sl j ib) r1 s1 else none) Q) I
    (goes_bind [] rel gg fun v H1 r1 s1 Z1 ρ1 e1 p1 rel1 g1 => ⟨r1, s1, Z1, ρ1, e1, p1, rel1, g1⟩)) fun u s2 ⟨x, H1, I1, rx, r1, s1, Z1, ρ1, z1, w1, rel1, g1⟩ => ?_) ht
  split at g1
  case isFalse => exact g1.elim
  rename_i hh
  obtain ⟨hi, hT⟩ := Bool.and_eq_true_iff.mp hh
  have hn := isTab_at hT
  obtain ⟨d1, rfl⟩ := isIns_val hi
  obtain ⟨ad, vs, rfl, hI⟩ := isIns_at rel1 rel1.head hi
  obtain ⟨_, dx, fs, h1, _, ⟨_, h2⟩, _⟩ := cl.ins hI
  cases (show u = Value.ref ad from rx)
  refine getmeth_ok I1 h1 cl.cls hm (lookup_none fun z => hno (h2 _ z)) (PySem.W.callWith_K (first := [.ref ad]) (h₀ := X.base) I.ok.mod.kin hm.kp ?_ rfl rfl)
  refine Calls.spliced_cons (LamX.lam_make2 (T := tabsOf G s1.hp) I1 TB hcode (mem_tabsOf hn) (rel1.tabu hn) rel1.tabs hdef (L.cells I1.ok) fun f c' pm' ctv H2 s3 I2 eN T2 hf hfn hfr hco => ?_)
  refine Calls.spliced_nil ⟨I2.kIn, ?_⟩
  obtain ⟨sz, rel2⟩ := rel1.extN eN T2
  rw [nextR_in hdf] at g1
  replace g1 : Goes G W Z1 F ρ1 σ P (endW s1 (nextB (run tb cf mm) (lamB (run tb cf mm) s1.sl j ib) i1 i2 i3 irest ⟨[some (.val d1), none], s1.hp⟩)) Q := g1
  have rc : codeAny (model X.prog X.w) X.A (.call (.ref g) ⟨[.ref ad, .ref f], []⟩) (CR (CX X.prog X.w) X.stack X.prog X.w H2 s3 Q (fun cls d H' => W cls d σ H')) s3 := by
    refine LamX.run_ofS (N := [p0, a]) (ps := [p0, a]) (us := [.ref ad, .ref f]) (vs := [.ref ad, .ref f]) lk hcg Sg hr I2.env0 (hb s3 [.ref ad, .ref f] I2.kIn rfl) (.cons rfl (.cons rfl .nil)) rfl fun hr' => ?_
    have tk' : Takes (cxOf (CX X.prog X.w) X.prog X.w X.K X.mg X.base [p0, a] qg sg g cdv X.A X.stack s3 H2 (fun cls d H' => W cls d σ H')) (fun cls d _ H => W cls d σ H) := takes_of rfl rfl rfl rfl
    obtain ⟨c1, c2, c3, cr⟩ := hcal cdv X.A X.stack s3 H2 (fun cls d H' => W cls d σ H') hr' tk'
    refine next_gives (lam := lamB (run tb cf mm) s1.sl j ib) (fv := .ref f) (U := fun v H1 Q => H1 c' = some (LamX.CodeO c' (X.env.qual ++ "<lambda>")) ∧ T G W0 ((run tb cf mm).ex ib) (σ.set j (some v)) H1 Q) c1
      (fun te he => pe_ask (i := 1) I2 L nd hj hf hfn hfr (fun u => hbind _ _ _ _ _ u) hr' he (fun A outer s H hr2 => hbody A outer s H f c' hr2 mm) hst rfl hva hd hcd) c2 c3 cr (het _) (hs3 _) (fun hq ⟨u1, u2⟩ => ⟨u1, u2.mono hq⟩) rfl (next_rel (P := P) rel2) (goesS_endW (L := [(R.val d1, V.ref ad)]) (P := P) rel2 sz g1) fun {d v H4 Z4 ρ4 s4 res} z4 w4 r4 hq => ?_
    obtain ⟨b, s5, hm5, rfl⟩ := lamT_some hq
    refine ⟨b, _, rfl, r4.zs _ _ (z4 _ _ (zc1_code rel2.zs hco)), _, _, _, _, _, lam_rel (L := [(R.val d1, V.ref ad)]) (P := P) (j := j) rel2 z4 w4 r4, ?_⟩
    rw [hm5]
    intro w H5 Z5 ρ5 z5 w5 r5
    have hw := r5.head
    cases hw
    exact ⟨rfl, Z5, ρ5, z5, w5, Rel.back (L := [(R.val d, v)]) (P := []) (M := []) (by exact r4) z5 w5 ((r5.leave (noSlot1 fun i z => by cases z)).pop)⟩
  refine wpAny_call (codeAny_mono rc fun r s4 hq => ?_)
  rcases r with e | fl
  · exact passW tk pins σ H2 s3 e s4 I2 hq
  · cases fl with
    | ret u => exact I2.after hq
    | next => exact hq.elim
    | brk => exact hq.elim
    | cont => exact hq.elim
theorem pe_defv {x : Str} {f : Addr} {p : Pos} (hg : Gl X x) (hm : X.mg x = some (.ref f)) (hdb : (x == ("__debug__" : Str)) = false := by decide) : PE X (.Name x p) (fun _ H Q => Q (.ref f) H) :=
  ⟨fun pins s σ H Q I h => ld_glob I hg hm ⟨.ref f, H, I, rfl, h⟩ hdb⟩
theorem ce_nextf {pl : Sem Bool} {o : Expr} {io : E} {ci fi fk k k' : Nat} {C g gf : Addr} {names : List Str} {m p0 a qg x : Str} {pg : Arguments} {sg : Scope} {fd : FuncData} {e1 e2 e3 : Expr} {rest : List Stmt} {i1 i2 i3 : E} {irest : List Stm} {p1 p2 q1 q2 q3 q4 q5 lpos apos pos : Pos}
    (ho : CE X G W tb cf o io) (cl : PCls G X ci C names) (hno : m ∉ names) (hm : Meth X.K C m g) (tk : Takes X W)
    (Fd : FunD X.K m qg pg (nextBd a e1 e2 e3 rest p1 p2 q1 q2 q3 q4 q5) sg [] [] g fd) (hb : L2.Binds X.K fd [p0, a] []) (Sg : FnScope [p0, a] [p0, a] sg) (hva : Vis sg a)
    (hdf : tb.df fi = some ⟨2, 2, .if_ (.or (.un .not_ i1) (.un .not_ (.act 1 [i2]))) [.ex i3] [] :: irest⟩)
    (hcal : NextOk X.prog X.w X.K X.mg X.base G tb cf k [p0, a] qg sg g e1 e2 e3 rest i1 i2 i3 irest) (hr : Room (k + 1) X.A) (hk' : k' ≤ k)
    (hg : Gl X x) (hmg : X.mg x = some (.ref gf)) (hkp : PySem.W.keepIn X.K (.ref gf) = true) (F1 : FnR X.prog X.w X.K X.mg X.base (CX X.prog X.w) k' gf (spD G cf fk 1))
    (hst : ∀ env, starEach [e2] env = (false, eval e2 env) :: starEach [] env := by intro _; rfl) (het : ∀ (env : Env) (whole : Sem Value), isTrue (.Call (.Name a p1) [e2] [] p2) env whole = (do let v ← whole; standAt (Expr.pos (.Call (.Name a p1) [e2] [] p2)); holding [v] (truthy v)) := by intro _ _; rfl) (hs3 : ∀ env, swapsWith e3 none q4.line env = pure false := by intro _; rfl)
    (hd : (a == ("__debug__" : Str)) = false := by decide) (hcd : (a == ("__classdict__" : Str)) = false := by decide) (hdb : (x == ("__debug__" : Str)) = false := by decide)
    (ht : eval (.Call (.Attribute o m apos) [.Name x lpos] [] pos) X.env = (do
      let ov ← eval o X.env; standAt apos.atName; let (f, first) ← holding [ov] (getMethod ov m pl); callWith pos f first (backTo pos (starEach [.Name x lpos] X.env)) (backToKw pos (keywordEach [] X.env))) := by rfl) :
    CE X G W tb cf (.Call (.Attribute o m apos) [.Name x lpos] [] pos) (.nextf ci fi io fk) := by
  obtain ⟨oc, od, dV, kV, doc, pm, an, cdv, ct, osl, rfl, lk, hcg, _, _⟩ := Fd.ex
  intro m'
  cases m' with
  | zero => exact ⟨fun pins s σ H Q I ⟨_, _, _, _, _, _, z⟩ => z.elim⟩
  | succ mm =>
  refine ⟨fun pins s' σ H Q I ⟨Z, F, ρ, s, P, rel, gg⟩ => ?_⟩
  refine PySem.W.methodCall_KW (pl := pl) (thn ((ho mm).run pins s' σ H (fun v H1 => ∃ r1 s1 Z1 ρ1, Same Z Z1 ∧ ρ <+: ρ1 ∧ Rel G Z1 F ρ1 s1 σ H1 ((r1, v) :: ([] ++ P)) ∧ Goes G W Z1 F ρ1 σ P (if isIns s1 ci r1 then nextR (run tb cf mm) tb fi (fnB (run tb cf mm) fk) r1 s1 else none) Q) I
    (goes_bind [] rel gg fun v H1 r1 s1 Z1 ρ1 e1 p1 rel1 g1 => ⟨r1, s1, Z1, ρ1, e1, p1, rel1, g1⟩)) fun u s2 ⟨y, H1, I1, rx, r1, s1, Z1, ρ1, z1, w1, rel1, g1⟩ => ?_) ht
  split at g1
  case isFalse => exact g1.elim
  rename_i hi
  obtain ⟨d1, rfl⟩ := isIns_val hi
  obtain ⟨ad, vs, rfl, hI⟩ := isIns_at rel1 rel1.head hi
  obtain ⟨_, dx, fs, h1, _, ⟨_, h2⟩, _⟩ := cl.ins hI
  cases (show u = Value.ref ad from rx)
  rw [nextR_in hdf] at g1
  replace g1 : Goes G W Z1 F ρ1 σ P (endW s1 (nextB (run tb cf mm) (fnB (run tb cf mm) fk) i1 i2 i3 irest ⟨[some (.val d1), none], s1.hp⟩)) Q := g1
  refine getmeth_ok I1 h1 cl.cls hm (lookup_none fun z => hno (h2 _ z)) (PySem.W.callWith_K (first := [.ref ad]) (h₀ := X.base) I.ok.mod.kin hm.kp
    (thn ((pa_cons (pe_defv (p := lpos) hg hmg hdb) pa_nil).run pos pins s2 σ H1 (fun vs H2 => vs = [.ref gf] ∧ H2 = H1) I1 ⟨rfl, rfl⟩) fun us s3 ⟨vs, H2, I2, rv, ev, eH⟩ => ⟨I2.kIn, ?_⟩) rfl rfl)
  subst ev eH
  obtain rfl : us = [.ref gf] := by
    cases rv with
    | cons a b => cases b; cases a; rfl
  have rc : codeAny (model X.prog X.w) X.A (.call (.ref g) ⟨[.ref ad, .ref gf], []⟩) (CR (CX X.prog X.w) X.stack X.prog X.w H2 s3 Q (fun cls d H' => W cls d σ H')) s3 := by
    refine LamX.run_ofS (N := [p0, a]) (ps := [p0, a]) (us := [.ref ad, .ref gf]) (vs := [.ref ad, .ref gf]) lk hcg Sg hr I2.env0 (hb s3 [.ref ad, .ref gf] I2.kIn rfl) (.cons rfl (.cons rfl .nil)) rfl fun hr' => ?_
    have tk' : Takes (cxOf (CX X.prog X.w) X.prog X.w X.K X.mg X.base [p0, a] qg sg g cdv X.A X.stack s3 H2 (fun cls d H' => W cls d σ H')) (fun cls d _ H => W cls d σ H) := takes_of rfl rfl rfl rfl
    obtain ⟨c1, c2, c3, cr⟩ := hcal cdv X.A X.stack s3 H2 (fun cls d H' => W cls d σ H') hr' tk'
    refine next_gives (lam := fnB (run tb cf mm) fk) (fv := .ref gf) (U := fun v H1 Q => spD G cf fk 1 [v] H1 Q (fun _ _ _ => False)) c1
      (fun te he => pe_askF (i := 1) F1 (hr'.mono hk') hkp he hst rfl hva hd hcd) c2 c3 cr (het _) (hs3 _) (fun hq ⟨u0, Z, F, ρ, svs, hp, u1, u2⟩ => ⟨u0, Z, F, ρ, svs, hp, u1, ?_⟩) rfl (next_rel (P := P) rel1) (goesS_endW (L := [(R.val d1, V.ref ad)]) (P := P) rel1 (Same.refl _) g1) fun {d v H4 Z4 ρ4 s4 res} z4 w4 r4 hq => ?_
    · rcases q : cf fk svs hp with _ | ⟨e | r, hp'⟩
      · rw [q] at u2; exact u2
      · rw [q] at u2; exact u2
      · rw [q] at u2; exact fun v H' Z' ρ' e p r => hq _ _ (u2 v H' Z' ρ' e p r)
    · obtain ⟨b, hp5, hm5, rfl⟩ := fnT_some hq
      rw [run_call] at hm5
      have r5 := Rel.callee (L := [(R.val d, v)]) (P := []) (rs := [.val d]) (vs := [v]) (svs := [.val d]) (by exact r4) rfl rfl (fun j => j) (fun j x v' h1 h2 => by
        cases j with
        | zero => simp at h1 h2; subst h1 h2; exact ⟨r4.head, fun c hc => by cases hc⟩
        | succ j => simp at h1) (fun j k h1 h2 ⟨c, hc⟩ => by
        cases j with
        | zero => simp at hc
        | succ j => simp at hc)
      refine ⟨b, _, rfl, rfl, _, _, _, _, _, r5, ?_⟩
      rw [hm5]
      intro w H5 Z5 ρ5 z5 w5 r6
      have hw := r6.head
      cases hw
      exact ⟨rfl, Z5, ρ5, z5, w5, Rel.back (L := [(R.val d, v)]) (P := []) (M := []) (by exact r4) z5 w5 r6.pop⟩
  refine wpAny_call (codeAny_mono rc fun r s4 hq => ?_)
  rcases r with e | fl
  · exact passW tk pins σ H2 s3 e s4 I2 hq
  · cases fl with
    | ret u => exact I2.after hq
    | next => exact hq.elim
    | brk => exact hq.elim
    | cont => exact hq.elim
end
end Ri

set_option maxRecDepth 100000
set_option maxHeartbeats 1000000
/-! Rx, part O: defs that make lambdas: their code objects and tables; the head's facts of them. -/
namespace Ri
open PySem PySem.Spec PyProof.Rows L2 He
/-- the code object of the def at f, and its table -/
def codeAt (K : PySem.W.Frag) (f : Addr) : Value := match K.lookup f with
  | some ⟨_, _, .func fd, _⟩ => fd.code
  | _ => .none
def codA (K : PySem.W.Frag) (f : Addr) : Addr := match codeAt K f with
  | .ref c => c
  | _ => 0
def tabA (K : PySem.W.Frag) (f : Addr) : Addr := match K.lookup (codA K f) with
  | some ⟨_, _, .fields vs, _⟩ => (match (vs[11]? : Option Value) with
    | some (.ref P) => P
    | _ => 0)
  | _ => 0
def isRefTo (v : Value) (c : Addr) : Bool := match v with
  | .ref d => d == c
  | _ => false
theorem isRefTo_ok {v : Value} {c : Addr} (h : isRefTo v c = true) : v = .ref c := by
  unfold isRefTo at h
  split at h
  · rw [beq_iff_eq.mp h]
  · cases h
def noneAt (K : PySem.W.Frag) (a : Addr) : Bool := match K.lookup a with
  | none => true
  | some _ => false
/-- what is asked of a maker -/
def mkrB (K : PySem.W.Frag) (f : Addr) : Bool := isRefTo (codeAt K f) (codA K f) && (PySem.W.codeHdIn K (codA K f) (tabA K f) && noneAt K (tabA K f))
theorem mkrB_ok {K : PySem.W.Frag} {f : Addr} (h : mkrB K f = true) : codeAt K f = .ref (codA K f) ∧ PySem.W.codeHdIn K (codA K f) (tabA K f) = true ∧ K.lookup (tabA K f) = none := by
  obtain ⟨h1, h⟩ := ba h
  obtain ⟨h2, h3⟩ := ba h
  refine ⟨isRefTo_ok h1, h2, ?_⟩
  unfold noneAt at h3
  split at h3
  · assumption
  · cases h3
def emptyT : Option Obj → Bool
  | some ⟨.none, none, .fields ⟨[]⟩, ⟨[]⟩⟩ => true
  | _ => false
theorem emptyT_ok {o : Option Obj} (h : emptyT o = true) : o = some (PySem.W.tabObj #[]) := by
  unfold emptyT at h
  split at h
  · rfl
  · cases h
theorem ne_ok {a b : Addr} (h : (!(a == b)) = true) : a ≠ b := fun z => by
  subst z
  simp at h
theorem nodup1 {a : Addr} : [a].Nodup := by simp
theorem nodup2 {a b : Addr} (h : a ≠ b) : [a, b].Nodup := by simp [h]
/-- what lies where the head looks: all but the makers' tables -/
def frgM (n : Nat) (ms : List (PySem.W.Frag → Addr)) (g : Addr → Option Obj) : PySem.W.Frag :=
  let as := cStatics :: asD g n
  let K0 := frG g as
  let ts := ms.map fun m => tabA K0 (m K0)
  frG g (as.filter fun a => !ts.contains a)
def obsR3 (n : Nat) (fa : List Fa) (dn : List Dn) (ex : PySem.W.Frag → Bool) (ms : List (PySem.W.Frag → Addr)) (g : Addr → Option Obj) : AlD :=
  let K := frgM n ms g
  let r := seeR fa dn ex K
  (r.1 && ms.all fun m => mkrB K (m K) && emptyT (g (tabA K (m K))), r.2)
/-- what the head says -/
def SaysM (fa : List Fa) (dn : List Dn) (ex : PySem.W.Frag → Bool) (ms : List (PySem.W.Frag → Addr)) (h : Heap) (K : PySem.W.Frag) : Prop :=
  K.In h ∧ seeR fa dn ex K = dueR dn ∧ ∀ m ∈ ms, (codeAt K (m K) = .ref (codA K (m K)) ∧ PySem.W.codeHdIn K (codA K (m K)) (tabA K (m K)) = true ∧ K.lookup (tabA K (m K)) = none) ∧ h.get? (tabA K (m K)) = some (PySem.W.tabObj #[])
def hookR3 (n : Nat) (fa : List Fa) (dn : List Dn) (ex : PySem.W.Frag → Bool) (ms : List (PySem.W.Frag → Addr)) : PySem.W.Hook where
  α := AlD
  obs := fun s => obsR3 n fa dn ex ms s.heap.get?
  val := fun _ => dueR dn
  says := fun _ h => ∃ K : PySem.W.Frag, SaysM fa dn ex ms h K
  of := fun _ s e => by
    have e1 := congrArg Prod.fst e
    have e2 := congrArg Prod.snd e
    obtain ⟨a, b⟩ := ba (show ((seeR fa dn ex (frgM n ms s.heap.get?)).1 && ms.all fun m => mkrB (frgM n ms s.heap.get?) (m (frgM n ms s.heap.get?)) && emptyT (s.heap.get? (tabA (frgM n ms s.heap.get?) (m (frgM n ms s.heap.get?))))) = true from e1)
    refine ⟨frgM n ms s.heap.get?, frG_in, Prod.ext a e2, fun m hm => ?_⟩
    obtain ⟨c, d⟩ := ba (List.all_eq_true.mp b m hm)
    exact ⟨mkrB_ok c, emptyT_ok d⟩
  keeps := fun _ _ _ ⟨K, hK, c, t⟩ k => ⟨K, PySem.W.Frag.In.keeps hK k, c, fun m hm => ⟨(t m hm).1, k _ _ (t m hm).2⟩⟩
theorem obsR3_eq {n : Nat} {fa : List Fa} {dn : List Dn} {ex : PySem.W.Frag → Bool} {ms : List (PySem.W.Frag → Addr)} {g : Addr → Option Obj} {s : Shared} (h : ∀ a, g a = s.heap.get? a) : obsR3 n fa dn ex ms g = (hookR3 n fa dn ex ms).obs s := by
  have e : g = s.heap.get? := funext h
  rw [e] <;> rfl
section
variable {P : Program} {w : World} {K : PySem.W.Frag} {mg : Str → Option Value} {base : Heap} {G : Cfg} {tb : Tb}
/-- a def that knows its code object -/
theorem def_ok2 {x qual : Str} {params : Arguments} {bodyS : List Stmt} {scope : Scope} {f : Addr} {fd : FuncData} {N ps : List Str} {k fi dd : Nat} {d : Df} (F : FunD K x qual params bodyS scope [] [] f fd) (S : FnScope N ps scope) (hd : tb.df fi = some d) (hnp : d.np = ps.length) (hns : d.ns = N.length)
    (hbody : ∀ (A : Around) (outer : List Env) (s : Shared) (H : Hp) (E : XK), Room k (A.deeper (envOfC qual scope s.heap.objs.size f (codeAt K f))) →
      Takes (cxOf (CX P w) P w K mg base N qual scope f (codeAt K f) A outer s H E) (fun cls d _ H => E cls d H) →
      CSs (cxOf (CX P w) P w K mg base N qual scope f (codeAt K f) A outer s H E) G (fun cls d _ H => E cls d H) tb (callD tb dd) bodyS d.body) :
    FnOk P w K mg base (CX P w) (k + 1) f fd ps (spD G (callD tb (dd + 1)) fi ps.length) := by
  obtain ⟨oc, od, dV, kV, doc, pm, an, cdv, ct, osl, rfl, lk, hcd, _, _⟩ := F.ex
  obtain rfl : cdv = codeAt K f := by unfold codeAt; rw [lk]
  refine fn_of lk hcd S (fun vs H Q E h => h.1) fun A outer s H vs Q E hr hsp => ?_
  refine ⟨_, hbody A outer s H E hr (takes_of rfl rfl rfl rfl) FUEL, ?_⟩
  obtain ⟨hl, Z, Fr, ρ, svs, hp, rel, g⟩ := hsp
  have hsl : svs.length = vs.length := by have := rel.slen; simpa using this
  replace g : GoesC G E Z Fr ρ (stepC (run tb (callD tb dd) FUEL) tb fi svs hp) Q := g
  unfold stepC at g
  simp only [hd] at g
  rw [if_pos (by rw [hnp, hsl, hl])] at g
  refine ⟨Z, Fr, ρ, ⟨svs.map some ++ List.replicate (d.ns - svs.length) none, hp⟩, [], NoSlot.nil, ?_, ?_⟩
  · have := rel.more (n := d.ns - svs.length)
    unfold L2.start
    rw [hns, hsl] at this ⊢
    exact this
  · rcases q : execs (run tb (callD tb dd) FUEL) d.body ⟨svs.map some ++ List.replicate (d.ns - svs.length) none, hp⟩ with _ | ⟨e | fl, s'⟩
    · rw [q] at g; exact g
    · rw [q] at g
      exact fun cls dd2 σ1 H1 Z1 ρ1 e1 p1 x1 r1 => g cls dd2 H1 Z1 ρ1 e1 p1 x1 (r1.leave NoSlot.nil)
    · rw [q] at g
      have gcd : ∀ {r : R} {v : V} {H1 Z1 : Hp} {ρ1 : List Addr} {σ1 : L2.St}, (∀ i, r ≠ .slot i) → Same Z Z1 → ρ <+: ρ1 → Rel G Z1 Fr ρ1 s' σ1 H1 [(r, v)] → GoesC G E Z Fr ρ (some (.ok r, gc hp.length r s'.hp)) Q → Q v H1 := fun {r v H1 Z1 ρ1 σ1} hns e1 p1 r1 g => by
        obtain ⟨ρ2, p2, r2⟩ := (r1.leave (noSlot1 hns)).gc (ρ := ρ) p1
        have hlen : hp.length = ρ.length := rel.len
        rw [← hlen] at r2
        exact g v H1 Z1 ρ2 e1 p2 r2
      cases fl with
      | next => exact fun σ1 H1 Z1 ρ1 e1 p1 r1 => gcd (fun _ z => by cases z) e1 p1 (r1.pushVal .non) g
      | brk => exact g.elim
      | cnt => exact g.elim
      | ret r =>
        intro v σ1 H1 Z1 ρ1 e1 p1 r1
        cases r with
        | slot i => exact g.elim
        | val d => exact gcd (fun _ z => by cases z) e1 p1 r1 g
        | own c => exact gcd (fun _ z => by cases z) e1 p1 r1 g
/-- all that is to be known of a method that asks what it is handed -/
def NextP (P : Program) (w : World) (K : PySem.W.Frag) (mg : Str → Option Value) (base : Heap) (G : Cfg) (tb : Tb) (cf : CallF) (k fi : Nat) (g : Addr) (m : Str) : Prop :=
  ∃ (qg : Str) (pg : Arguments) (sg : Scope) (fd : FuncData) (p0 a : Str) (e1 e2 e3 : Expr) (rest : List Stmt) (i1 i2 i3 : E) (irest : List Stm) (p1 p2 q1 q2 q3 q4 q5 : Pos),
    FunD K m qg pg (nextBd a e1 e2 e3 rest p1 p2 q1 q2 q3 q4 q5) sg [] [] g fd ∧ L2.Binds K fd [p0, a] [] ∧ FnScope [p0, a] [p0, a] sg ∧ Vis sg a ∧ tb.df fi = some ⟨2, 2, .if_ (.or (.un .not_ i1) (.un .not_ (.act 1 [i2]))) [.ex i3] [] :: irest⟩ ∧
    NextOk P w K mg base G tb cf k [p0, a] qg sg g e1 e2 e3 rest i1 i2 i3 irest ∧ (∀ env, starEach [e2] env = (false, eval e2 env) :: starEach [] env) ∧
    (∀ (env : Env) (whole : Sem Value), isTrue (.Call (.Name a p1) [e2] [] p2) env whole = (do let v ← whole; standAt (Expr.pos (.Call (.Name a p1) [e2] [] p2)); holding [v] (truthy v))) ∧ (∀ env, swapsWith e3 none q4.line env = pure false) ∧
    (a == ("__debug__" : Str)) = false ∧ (a == ("__classdict__" : Str)) = false
end
section
variable {X : Cx} {G : Cfg} {W : WX} {tb : Tb} {cf : CallF}
theorem ce_nextL {pl : Sem Bool} {o : Expr} {io ib : E} {ci fi n j k : Nat} {C g c : Addr} {names : List Str} {m wd : Str} {params : Arguments} {scope : Scope} {body : Expr} {lpos apos pos : Pos}
    (ho : CE X G W tb cf o io) (cl : PCls G X ci C names) (hno : m ∉ names) (hm : Meth X.K C m g) (tk : Takes X W) (np : NextP X.prog X.w X.K X.mg X.base G tb cf (k + 1) fi g m)
    (TB : LamX.TabB X.base X.mg c (G.tabP (X.env.qual ++ "<lambda>"))) (hcode : X.env.code = .ref c) (hr : Room (k + 2) X.A) (L : LamP X.env.scope scope wd) (nd : X.N.Nodup) (hj : X.N[j]? = some wd) (hdef : defaultsOf params X.env = ([], []))
    (hbind : ∀ (q : Str) (cl : List (Str × Addr)) (pm cv ctv u : Value), bindArgs (PySem.W.kla_fn "<lambda>" q params body scope cl pm cv ctv) ⟨[u], []⟩ = pure [(wd, u)])
    (hbody : ∀ (A : Around) (outer : List Env) (s : Shared) (H : Hp) (f c' : Addr), Room k (A.deeper (LamX.lamEnv X scope s.heap.objs.size f c')) → CE (LamX.lamCx X A outer s H (fun _ _ _ => False) scope f c') G W0 tb cf body ib)
    (ht : eval (.Call (.Attribute o m apos) [.Lambda params body scope lpos] [] pos) X.env = (do
      let ov ← eval o X.env; standAt apos.atName; let (f, first) ← holding [ov] (getMethod ov m pl); callWith pos f first (backTo pos (starEach [.Lambda params body scope lpos] X.env)) (backToKw pos (keywordEach [] X.env))) := by rfl) :
    CE X G W tb cf (.Call (.Attribute o m apos) [.Lambda params body scope lpos] [] pos) (.nextw n (X.env.qual ++ "<lambda>") ci fi io j ib) := by
  obtain ⟨qg, pg, sg, fd, p0, a, e1, e2, e3, rest, i1, i2, i3, irest, p1, p2, q1, q2, q3, q4, q5, h1, h2, h3, h4, h5, h6, h7, h8, h9, h10, h11⟩ := np
  exact ce_nextw (pl := pl) ho cl hno hm tk h1 h2 h3 h4 h5 h6 TB hcode hr L nd hj hdef hbind hbody h7 h8 h9 h10 h11 ht
theorem ce_nextD {pl : Sem Bool} {o : Expr} {io : E} {ci fi fk k k' : Nat} {C g gf : Addr} {names : List Str} {m x : Str} {lpos apos pos : Pos}
    (ho : CE X G W tb cf o io) (cl : PCls G X ci C names) (hno : m ∉ names) (hm : Meth X.K C m g) (tk : Takes X W) (np : NextP X.prog X.w X.K X.mg X.base G tb cf k fi g m) (hr : Room (k + 1) X.A) (hk' : k' ≤ k)
    (hg : Gl X x) (hmg : X.mg x = some (.ref gf)) (hkp : PySem.W.keepIn X.K (.ref gf) = true) (F1 : FnR X.prog X.w X.K X.mg X.base (CX X.prog X.w) k' gf (spD G cf fk 1)) (hdb : (x == ("__debug__" : Str)) = false := by decide)
    (ht : eval (.Call (.Attribute o m apos) [.Name x lpos] [] pos) X.env = (do
      let ov ← eval o X.env; standAt apos.atName; let (f, first) ← holding [ov] (getMethod ov m pl); callWith pos f first (backTo pos (starEach [.Name x lpos] X.env)) (backToKw pos (keywordEach [] X.env))) := by rfl) :
    CE X G W tb cf (.Call (.Attribute o m apos) [.Name x lpos] [] pos) (.nextf ci fi io fk) := by
  obtain ⟨qg, pg, sg, fd, p0, a, e1, e2, e3, rest, i1, i2, i3, irest, p1, p2, q1, q2, q3, q4, q5, h1, h2, h3, h4, h5, h6, h7, h8, h9, h10, h11⟩ := np
  exact ce_nextf (pl := pl) ho cl hno hm tk h1 h2 h3 h4 h5 h6 hr hk' hg hmg hkp F1 h7 h8 h9 h10 h11 hdb ht
end
end Ri

set_option maxRecDepth 100000
/-! Pl, part A: what holds behind a run of the small machine, as rules that go from the root. -/
namespace Ri
open PySem L2
/-- Q of a result, E of an exception -/
def W {α : Type} (m : Res α) (Q : α → S → Prop) (E : Xc → S → Prop) : Prop := match m with
  | some (.ok a, s) => Q a s
  | some (.error x, s) => E x s
  | none => False
def Wc (m : Option (Except Xc R × List O)) (Q : R → List O → Prop) (E : Xc → List O → Prop) : Prop := match m with
  | some (.ok a, s) => Q a s
  | some (.error x, s) => E x s
  | none => False
def Wo {α : Type} (m : Option α) (Q : α → Prop) : Prop := match m with
  | some a => Q a
  | none => False
theorem Wc_of {m : Option (Except Xc R × List O)} {r : R} {hp : List O} (e : m = some (.ok r, hp)) {Q : R → List O → Prop} {E : Xc → List O → Prop} : Wc m Q E = Q r hp := by rw [e]; rfl
theorem Wc_to {m : Option (Except Xc R × List O)} {r : R} {hp : List O} (h : Wc m (fun a s => a = r ∧ s = hp) (fun _ _ => False)) : m = some (.ok r, hp) := by
  match m, h with
  | some (.ok a, s), ⟨e1, e2⟩ => rw [e1, e2]
theorem W_of {α : Type} {m : Res α} {a : α} {s : S} (e : m = some (.ok a, s)) {Q : α → S → Prop} {E : Xc → S → Prop} : W m Q E = Q a s := by rw [e]; rfl
theorem W_to {α : Type} {m : Res α} {r : α} {t : S} (h : W m (fun a s => a = r ∧ s = t) (fun _ _ => False)) : m = some (.ok r, t) := by
  match m, h with
  | some (.ok a, s), ⟨e1, e2⟩ => rw [e1, e2]
section
variable {α β : Type} {Q : α → S → Prop} {E : Xc → S → Prop} {s : S} {sl l : List (Option SV)} {hp : List O}
theorem W_bd {m : Res β} {f : β → S → Res α} : W (bd m f) Q E = W m (fun a s => W (f a s) Q E) E := by
  match m with
  | none => rfl
  | some (.ok _, _) => rfl
  | some (.error _, _) => rfl
theorem W_bo {m : Res β} {f : β → S → Res α} : W (bo m f) Q E = W m (fun a s => W (f a s) Q E) (fun _ _ => False) := by
  match m with
  | none => rfl
  | some (.ok _, _) => rfl
  | some (.error _, _) => rfl
theorem W_noX {m : Res α} : W (noX m) Q E = W m Q (fun _ _ => False) := by
  match m with
  | none => rfl
  | some (.ok _, _) => rfl
  | some (.error _, _) => rfl
theorem W_ok {a : α} : W (ok a s) Q E = Q a s := rfl
theorem W_opt {o : Option α} : W (opt o s) Q E = Wo o (fun a => Q a s) := by
  cases o <;> rfl
theorem W_none : W (none : Res α) Q E = False := rfl
theorem Wo_some {a : α} {K : α → Prop} : Wo (some a) K = K a := rfl
theorem Wo_none {K : α → Prop} : Wo (none : Option α) K = False := rfl
theorem Wo_map {a : Option β} {f : β → α} {K : α → Prop} : Wo (a.map f) K = Wo a (fun x => K (f x)) := by cases a <;> rfl
theorem Wo_bind {a : Option β} {f : β → Option α} {K : α → Prop} : Wo (a.bind f) K = Wo a (fun x => Wo (f x) K) := by cases a <;> rfl
theorem Wo_ite {c : Prop} [Decidable c] {a : Option α} {K : α → Prop} : Wo (if c then a else none) K = (c ∧ Wo a K) := by
  by_cases h : c
  · rw [if_pos h]; simp [h]
  · rw [if_neg h]; simp [h, Wo]
theorem W_ite {c : Prop} [Decidable c] {a : Res α} : W (if c then a else none) Q E = (c ∧ W a Q E) := by
  by_cases h : c
  · rw [if_pos h]; simp [h]
  · rw [if_neg h]; simp [h, W]
/-! tests -/
def Wi (b : Bool) (P P' : Prop) : Prop := if b = true then P else P'
theorem Wi_t {P P' : Prop} : Wi true P P' = P := rfl
theorem Wi_f {P P' : Prop} : Wi false P P' = P' := rfl
theorem Wi_pos {p : Prop} [Decidable p] {P P' : Prop} (h : p) : Wi (decide p) P P' = P := by rw [decide_eq_true h]; rfl
theorem Wi_neg {p : Prop} [Decidable p] {P P' : Prop} (h : ¬ p) : Wi (decide p) P P' = P' := by rw [decide_eq_false h]; rfl
theorem Wi_dec {p : Prop} [Decidable p] {P P' : Prop} : Wi (decide p) P P' = ((p → P) ∧ (¬ p → P')) := by
  by_cases h : p
  · rw [Wi_pos h]; simp [h]
  · rw [Wi_neg h]; simp [h]
theorem Wi_not {b : Bool} {P P' : Prop} : Wi (!b) P P' = Wi b P' P := by cases b <;> rfl
theorem Wi_var {b : Bool} {P P' : Prop} : Wi b P P' = ((b = true → P) ∧ (b = false → P')) := by cases b <;> simp [Wi]
theorem Wi_and {a b : Bool} {P P' : Prop} : Wi (a && b) P P' = Wi a (Wi b P P') P' := by cases a <;> rfl
theorem Wi_or {a b : Bool} {P P' : Prop} : Wi (a || b) P P' = Wi a P (Wi b P P') := by cases a <;> rfl
theorem W_bif {b : Bool} {x y : Res α} : W (if b = true then x else y) Q E = Wi b (W x Q E) (W y Q E) := by cases b <;> rfl
/-! slots -/
def Wg (sl : List (Option SV)) (i : Nat) (K : SV → Prop) : Prop := match sl[i]? with
  | some (some v) => K v
  | _ => False
theorem Wg_s {a : Option SV} {i : Nat} {K : SV → Prop} : Wg (a :: l) (i + 1) K = Wg l i K := rfl
theorem Wg_0 {a : SV} {K : SV → Prop} : Wg (some a :: l) 0 K = K a := rfl
def Wt (sl : List (Option SV)) (i : Nat) (x : Option SV) (K : List (Option SV) → Prop) : Prop := i < sl.length ∧ K (sl.set i x)
theorem Wt_s {a x : Option SV} {i : Nat} {K : List (Option SV) → Prop} : Wt (a :: l) (i + 1) x K = Wt l i x (fun l' => K (a :: l')) := by simp [Wt]
theorem Wt_0 {a x : Option SV} {K : List (Option SV) → Prop} : Wt (a :: l) 0 x K = K (x :: l) := by simp [Wt]
def Wv (v : SV) (A : D → Prop) (B : Prop) : Prop := match v with
  | .val d => A d
  | _ => B
theorem Wv_val {d : D} {A : D → Prop} {B : Prop} : Wv (.val d) A B = A d := rfl
theorem Wv_own {c : C} {A : D → Prop} {B : Prop} : Wv (.own c) A B = B := rfl
theorem Wv_bor {c : C} {A : D → Prop} {B : Prop} : Wv (.bor c) A B = B := rfl
/-! the heap -/
def Wh (hp : List O) (n : Nat) (K : O → Prop) : Prop := match hp[n]? with
  | some o => K o
  | _ => False
theorem Wh_s {a : O} {l : List O} {i : Nat} {K : O → Prop} : Wh (a :: l) (i + 1) K = Wh l i K := rfl
theorem Wh_0 {a : O} {l : List O} {K : O → Prop} : Wh (a :: l) 0 K = K a := rfl
theorem Wh_of {n : Nat} {o : O} (h : hp[n]? = some o) {K : O → Prop} : Wh hp n K = K o := by unfold Wh; rw [h]
theorem Wh_set {n : Nat} {o : O} {K : O → Prop} (h : n < hp.length) : Wh (hp.set n o) n K = K o := Wh_of (by simp [h])
theorem Wh_len {o : O} {K : O → Prop} : Wh (hp ++ [o]) hp.length K = K o := Wh_of (by simp)
/-! looking -/
def Wl (s : S) (r : R) (K : D → Prop) : Prop := Wo (look s r) K
def Wol (o : O) (n : Nat) (K : D → Prop) : Prop := match o with
  | .lst xs => K (.lst xs)
  | _ => K (.ref n)
theorem Wol_l {xs : List D} {n : Nat} {K : D → Prop} : Wol (.lst xs) n K = K (.lst xs) := rfl
theorem Wol_i {c : Nat} {xs : List (Option D)} {n : Nat} {K : D → Prop} : Wol (.ins c xs) n K = K (.ref n) := rfl
variable {K : D → Prop}
theorem Wl_int {i : Int} : Wl s (.val (.int i)) K = K (.int i) := rfl
theorem Wl_bl {i : Bool} : Wl s (.val (.bl i)) K = K (.bl i) := rfl
theorem Wl_non : Wl s (.val .non) K = K .non := rfl
theorem Wl_str {i : Str} : Wl s (.val (.str i)) K = K (.str i) := rfl
theorem Wl_tup {i : List D} : Wl s (.val (.tup i)) K = K (.tup i) := rfl
theorem Wl_lst {i : List D} : Wl s (.val (.lst i)) K = K (.lst i) := rfl
theorem Wl_klst {i : List D} : Wl s (.val (.klst i)) K = K (.klst i) := rfl
theorem Wl_ins {c : Nat} {i : List D} : Wl s (.val (.ins c i)) K = K (.ins c i) := rfl
theorem Wl_ref {n : Nat} (o : O) (h : hp[n]? = some o) : Wl ⟨sl, hp⟩ (.val (.ref n)) K = Wol o n K := by
  simp only [Wl, look, peek, Option.map_some, deref, h]
  cases o <;> rfl
theorem Wl_refH {n : Nat} : Wl ⟨sl, hp⟩ (.val (.ref n)) K = (Wh hp n (fun o => Wol o n K) ∨ (hp[n]? = none ∧ K (.ref n))) := by
  simp only [Wl, look, peek, Option.map_some, deref, Wh]
  cases h : hp[n]? with
  | none => simp [Wo]
  | some o => cases o <;> simp [Wo, Wol]
theorem Wl_ref0 {o : O} {t : List O} : Wl ⟨sl, o :: t⟩ (.val (.ref 0)) K = Wol o 0 K := Wl_ref o rfl
theorem Wl_own {xs : List D} : Wl s (.own (.lst xs)) K = K (.lst xs) := rfl
def Wlv (hp : List O) (v : SV) (K : D → Prop) : Prop := match v with
  | .own (.lst xs) => K (.lst xs)
  | .bor (.lst xs) => K (.lst xs)
  | .val d => K (deref ⟨[], hp⟩ d)
theorem Wlv_own {xs : List D} : Wlv hp (.own (.lst xs)) K = K (.lst xs) := rfl
theorem Wlv_bor {xs : List D} : Wlv hp (.bor (.lst xs)) K = K (.lst xs) := rfl
theorem Wl_slot {i : Nat} : Wl ⟨sl, hp⟩ (.slot i) K = Wg sl i (fun v => Wlv hp v K) := by
  simp only [Wl, look, peek, Wg]
  cases e : sl[i]? with
  | none => rfl
  | some x => cases x with
    | none => rfl
    | some v => cases v with
      | val d => cases d <;> rfl
      | own c => cases c; rfl
      | bor c => cases c; rfl
/-- many -/
def Wls (s : S) (rs : List R) (K : List D → Prop) : Prop := Wo (looks s rs) K
theorem Wls_nil {K : List D → Prop} : Wls s [] K = K [] := rfl
theorem Wls_cons {r : R} {rs : List R} {K : List D → Prop} : Wls s (r :: rs) K = Wl s r (fun d => Wls s rs (fun ds => K (d :: ds))) := by
  unfold Wls Wl
  rw [looks]
  cases look s r with
  | none => rfl
  | some d => cases looks s rs <;> rfl
/-! freezing -/
def Wfv (sl : List (Option SV)) (hp : List O) (i : Nat) (v : SV) (K : D → S → Prop) : Prop := match v with
  | .val d => K d ⟨sl, hp⟩
  | .own (.lst xs) => Wt sl i (some (.val (.lst xs))) (fun sl => K (.lst xs) ⟨sl, hp⟩)
  | .bor _ => False
theorem Wfv_val {i : Nat} {d : D} {K : D → S → Prop} : Wfv sl hp i (.val d) K = K d ⟨sl, hp⟩ := rfl
theorem Wfv_own {i : Nat} {xs : List D} {K : D → S → Prop} : Wfv sl hp i (.own (.lst xs)) K = Wt sl i (some (.val (.lst xs))) (fun sl => K (.lst xs) ⟨sl, hp⟩) := rfl
section
variable {Q : D → S → Prop}
theorem W_frz_val {d : D} : W (freeze (.val d) s) Q E = Q d s := rfl
theorem W_frz_own {xs : List D} : W (freeze (.own (.lst xs)) s) Q E = Q (.lst xs) s := rfl
theorem W_frz_slot {i : Nat} : W (freeze (.slot i) ⟨sl, hp⟩) Q E = Wg sl i (fun v => Wfv sl hp i v Q) := by
  simp only [freeze, Wg]
  cases e : sl[i]? with
  | none => rfl
  | some x => cases x with
    | none => rfl
    | some v => cases v with
      | val d => rfl
      | own c => cases c; simp [Wfv, Wt, W, ok, frzC, (List.getElem?_eq_some_iff.mp e).1]
      | bor c => rfl
theorem W_it_val {d : D} : W (itR (.val d) s) Q E = Q d s := rfl
theorem W_it_own {xs : List D} : W (itR (.own (.lst xs)) s) Q E = Q (.lst xs) s := rfl
def Wiv (sl : List (Option SV)) (hp : List O) (i : Nat) (v : SV) (K : D → S → Prop) : Prop := match v with
  | .bor (.lst xs) => K (.lst xs) ⟨sl, hp⟩
  | v => Wfv sl hp i v K
theorem Wiv_val {i : Nat} {d : D} {K : D → S → Prop} : Wiv sl hp i (.val d) K = K d ⟨sl, hp⟩ := rfl
theorem Wiv_bor {i : Nat} {xs : List D} {K : D → S → Prop} : Wiv sl hp i (.bor (.lst xs)) K = K (.lst xs) ⟨sl, hp⟩ := rfl
theorem Wiv_own {i : Nat} {xs : List D} {K : D → S → Prop} : Wiv sl hp i (.own (.lst xs)) K = Wt sl i (some (.val (.lst xs))) (fun sl => K (.lst xs) ⟨sl, hp⟩) := rfl
theorem W_it_slot {i : Nat} : W (itR (.slot i) ⟨sl, hp⟩) Q E = Wg sl i (fun v => Wiv sl hp i v Q) := by
  simp only [itR, freeze, Wg]
  cases e : sl[i]? with
  | none => rfl
  | some x => cases x with
    | none => rfl
    | some v => cases v with
      | val d => rfl
      | own c => cases c; simp [Wiv, Wfv, Wt, W, ok, frzC, (List.getElem?_eq_some_iff.mp e).1]
      | bor c => cases c; rfl
end
end
end Ri

set_option maxRecDepth 100000
/-! Pl, part B: expressions. -/
namespace Ri
open PySem L2
section
variable {F : Rec} {tb : Tb} {c : CallF} {n : Nat} {E : Xc → S → Prop} {s : S} {sl : List (Option SV)} {hp : List O} {Q : R → S → Prop}
theorem run_c {tb : Tb} {c : CallF} {n : Nat} : (run tb c n).call = c := by cases n <;> rfl
theorem x_slot {i : Nat} : W ((run tb c (n + 1)).ex (.slot i) ⟨sl, hp⟩) Q E = Wg sl i (fun v => Wv v (fun d => Q (.val d) ⟨sl, hp⟩) (Q (.slot i) ⟨sl, hp⟩)) := by
  show W (slotR i ⟨sl, hp⟩) Q E = _
  simp only [slotR, Wg]
  cases e : sl[i]? with
  | none => rfl
  | some x => cases x with
    | none => rfl
    | some v => cases v <;> rfl
theorem x_cst {d : D} : W ((run tb c (n + 1)).ex (.cst d) s) Q E = Q (.val d) s := rfl
theorem x_bin {o : Bin} {a b : Ri.E} : W ((run tb c (n + 1)).ex (.bin o a b) s) Q E = W ((run tb c n).ex a s) (fun ra s => W ((run tb c n).ex b s) (fun rb s => W (binR o ra rb s) Q E) E) E := by
  show W (bd _ _) Q E = _
  simp only [W_bd]
theorem x_un {o : Un} {a : Ri.E} : W ((run tb c (n + 1)).ex (.un o a) s) Q E = W ((run tb c n).ex a s) (fun ra s => W (unR o ra s) Q E) E := by
  show W (bd _ _) Q E = _
  simp only [W_bd]
/-- a test -/
def Wb (s : S) (r : R) (K : Bool → Prop) : Prop := W (tEnd r s) (fun b _ => K b) (fun _ _ => False)
theorem W_tEnd {r : R} {Q : Bool → S → Prop} : W (tEnd r s) Q E = Wb s r (fun b => Q b s) := by
  unfold Wb tEnd
  split <;> rfl
theorem Wb_bl {b : Bool} {K : Bool → Prop} : Wb s (.val (.bl b)) K = K b := rfl
theorem x_and {a b : Ri.E} : W ((run tb c (n + 1)).ex (.and a b) s) Q E = W ((run tb c n).ex a s) (fun r s => Wb s r (fun b' => Wi b' (W ((run tb c n).ex b s) Q E) (Q (.val (.bl false)) s))) E := by
  show W (bd (bd _ _) _) Q E = _
  simp only [W_bd, W_tEnd, W_bif, W_ok]
theorem x_or {a b : Ri.E} : W ((run tb c (n + 1)).ex (.or a b) s) Q E = W ((run tb c n).ex a s) (fun r s => Wb s r (fun b' => Wi b' (Q (.val (.bl true)) s) (W ((run tb c n).ex b s) Q E))) E := by
  show W (bd (bd _ _) _) Q E = _
  simp only [W_bd, W_tEnd, W_bif, W_ok]
theorem x_ite {k a b : Ri.E} : W ((run tb c (n + 1)).ex (.ite k a b) s) Q E = W ((run tb c n).ex k s) (fun r s => Wb s r (fun b' => Wi b' (W ((run tb c n).ex a s) Q E) (W ((run tb c n).ex b s) Q E))) E := by
  show W (bd (bd _ _) _) Q E = _
  simp only [W_bd, W_tEnd, W_bif]
theorem W_testR {e : Ri.E} {Q : Bool → S → Prop} : W (testR (run tb c n) e s) Q E = W ((run tb c n).ex e s) (fun r s => Wb s r (fun b => Q b s)) E := by
  show W (bd _ _) Q E = _
  simp only [W_bd, W_tEnd]
theorem x_chain {o p : Bin} {a b d : Ri.E} : W ((run tb c (n + 1)).ex (.chain o p a b d) s) Q E = W ((run tb c n).ex a s) (fun ra s => W ((run tb c n).ex b s) (fun rb s => W (binR o ra rb s) (fun r s => W (chainR (run tb c n) p rb d r s) Q E) E) E) E := by
  show W (bd _ _) Q E = _
  simp only [W_bd]
theorem W_chainR {p : Bin} {rb : R} {d : Ri.E} {b : Bool} : W (chainR (run tb c n) p rb d (.val (.bl b)) s) Q E = Wi b (W ((run tb c n).ex d s) (fun rc s => W (binR p rb rc s) Q E) E) (Q (.val (.bl false)) s) := by
  cases b
  · rfl
  · show W (bd _ _) Q E = _
    simp only [W_bd]; rfl
/-! displays -/
theorem exStar_nil {Q : List D → S → Prop} : W (exStar F [] s) Q E = Q [] s := rfl
theorem exStar_f {e : Ri.E} {es : List (Bool × Ri.E)} {Q : List D → S → Prop} : W (exStar F ((false, e) :: es) s) Q E = W (F.ex e s) (fun r s => W (freeze r s) (fun d s => W (exStar F es s) (fun ds s => Q (d :: ds) s) E) E) E := by
  show W (bd (bd _ _) _) Q E = _
  simp only [W_bd, W_ok]
/-- the items -/
def Wit (d : D) (K : List D → Prop) : Prop := Wo (items d) K
theorem Wit_tup {xs : List D} {K : List D → Prop} : Wit (.tup xs) K = K xs := rfl
theorem Wit_lst {xs : List D} {K : List D → Prop} : Wit (.lst xs) K = K xs := rfl
theorem Wit_klst {xs : List D} {K : List D → Prop} : Wit (.klst xs) K = K xs := rfl
theorem exStar_t {e : Ri.E} {es : List (Bool × Ri.E)} {Q : List D → S → Prop} : W (exStar F ((true, e) :: es) s) Q E = W (F.ex e s) (fun r s => Wl s r (fun d => Wit d (fun xs => W (exStar F es s) (fun ds s => Q (xs ++ ds) s) E))) E := by
  show W (bd _ _) Q E = _
  simp only [W_bd, W_ok, W_opt, Wo_bind]; rfl
theorem x_tup {es : List (Bool × Ri.E)} : W ((run tb c (n + 1)).ex (.tup es) s) Q E = W (exStar (run tb c n) es s) (fun ds s => ds.length ≤ LIM ∧ Q (.val (.tup ds)) s) E := by
  show W (bd _ _) Q E = _
  simp only [W_bd, tupR, W_ite, W_ok]
theorem x_lst {es : List (Bool × Ri.E)} : W ((run tb c (n + 1)).ex (.lst es) s) Q E = W (exStar (run tb c n) es s) (fun ds s => ds.length ≤ LIM ∧ Q (.own (.lst ds)) s) E := by
  show W (bd _ _) Q E = _
  simp only [W_bd, lstR, W_ite, W_ok]
/-! slices -/
theorem optE_none {Q : Option Int → S → Prop} : W (optE F none s) Q E = Q none s := rfl
def Wn (r : R) (K : Int → Prop) : Prop := match r with
  | .val (.int i) => K i
  | _ => False
theorem Wn_int {i : Int} {K : Int → Prop} : Wn (.val (.int i)) K = K i := rfl
theorem optE_some {e : Ri.E} {Q : Option Int → S → Prop} : W (optE F (some e) s) Q E = W (F.ex e s) (fun r s => Wn r (fun i => Q (some i) s)) E := by
  show W (bd _ _) Q E = _
  simp only [W_bd]
  congr 1; funext r s
  cases r with
  | val d => cases d <;> rfl
  | own _ => rfl
  | slot _ => rfl
theorem x_slice {a : Ri.E} {lo hi : Option Ri.E} : W ((run tb c (n + 1)).ex (.slice a lo hi) s) Q E = W ((run tb c n).ex a s) (fun ra s => W (optE (run tb c n) lo s) (fun l s => W (optE (run tb c n) hi s) (fun h s => W (sliceR ra l h s) Q E) E) E) E := by
  show W (bd _ _) Q E = _
  simp only [W_bd]
theorem W_sliceR {r : R} {l h : Option Int} : W (sliceR r l h s) Q E = Wl s r (fun x => Wo (sliceD x l h) (fun r => Q r s)) := by
  unfold sliceR Wl
  cases look s r with
  | none => rfl
  | some x => exact W_opt
def slL (xs : List D) (l h : Option Int) : List D := (xs.drop (HT.sIx xs.length 0 l)).take (HT.sIx xs.length xs.length h - HT.sIx xs.length 0 l)
theorem Wo_sliceT {xs : List D} {l h : Option Int} {K : R → Prop} : Wo (sliceD (.tup xs) l h) K = K (.val (.tup (slL xs l h))) := rfl
theorem Wo_sliceL {xs : List D} {l h : Option Int} {K : R → Prop} : Wo (sliceD (.lst xs) l h) K = K (.own (.lst (slL xs l h))) := rfl
/-! operators -/
theorem W_binR {o : Bin} {ra rb : R} : W (binR o ra rb s) Q E = Wl s ra (fun x => Wl s rb (fun y => Wo (binD o x y) (fun r => Q r s))) := by
  unfold binR Wl
  cases look s ra with
  | none => rfl
  | some x => cases look s rb with
    | none => rfl
    | some y => exact W_opt
theorem W_unR {o : Un} {ra : R} : W (unR o ra s) Q E = Wl s ra (fun x => Wo (unD o x) (fun r => Q r s)) := by
  unfold unR Wl
  cases look s ra with
  | none => rfl
  | some x => exact W_opt
section
variable {K : R → Prop} {a b : Int} {x y : D}
theorem b_add : Wo (binD .add (.int a) (.int b)) K = K (.val (.int (a + b))) := rfl
theorem b_addS {a b : Str} : Wo (binD .add (.str a) (.str b)) K = (a.length + b.length ≤ LIM ∧ K (.val (.str (a ++ b)))) := by simp only [binD, Wo_ite, Wo_some]
theorem b_addL {a b : List D} : Wo (binD .add (.lst a) (.lst b)) K = (a.length + b.length ≤ LIM ∧ K (.own (.lst (a ++ b)))) := by simp only [binD, Wo_ite, Wo_some]
theorem b_addT {a b : List D} : Wo (binD .add (.tup a) (.tup b)) K = (a.length + b.length ≤ LIM ∧ K (.val (.tup (a ++ b)))) := by simp only [binD, Wo_ite, Wo_some]
theorem b_sub : Wo (binD .sub (.int a) (.int b)) K = K (.val (.int (a - b))) := rfl
theorem b_mul : Wo (binD .mul (.int a) (.int b)) K = (((-(2 ^ 64) < a ∧ a < 2 ^ 64) ∨ (-(2 ^ 64) < b ∧ b < 2 ^ 64)) ∧ K (.val (.int (a * b)))) := by simp only [binD, Wo_ite, Wo_some]
theorem b_mulL {a : List D} : Wo (binD .mul (.lst a) (.int b)) K = ((b < 2 ^ 20 ∧ a.length * b.toNat ≤ LIM ∧ -(2 ^ 20) < b) ∧ K (.own (.lst (List.replicate b.toNat a).flatten))) := by simp only [binD, Wo_ite, Wo_some]
theorem b_fdiv : Wo (binD .fdiv (.int a) (.int b)) K = ((b ≠ 0 ∧ b.natAbs < 1073741824) ∧ K (.val (.int (a.fdiv b)))) := by simp only [binD, Wo_ite, Wo_some]
theorem b_mod : Wo (binD .mod (.int a) (.int b)) K = (b ≠ 0 ∧ K (.val (.int (a.fmod b)))) := by simp only [binD, Wo_ite, Wo_some]
theorem b_pow : Wo (binD .pow (.int a) (.int b)) K = ((0 ≤ b ∧ b ≤ 1000000 ∧ a.natAbs < 2 ^ 64) ∧ K (.val (.int (a ^ b.toNat)))) := by simp only [binD, Wo_ite, Wo_some]
theorem b_lt : Wo (binD .lt (.int a) (.int b)) K = K (.val (.bl (decide (a < b)))) := rfl
theorem b_gt : Wo (binD .gt (.int a) (.int b)) K = K (.val (.bl (decide (b < a)))) := rfl
theorem b_le : Wo (binD .le (.int a) (.int b)) K = K (.val (.bl (decide (a ≤ b)))) := rfl
theorem b_ge : Wo (binD .ge (.int a) (.int b)) K = K (.val (.bl (decide (b ≤ a)))) := rfl
theorem b_ltS {a b : Str} : Wo (binD .lt (.str a) (.str b)) K = K (.val (.bl (decide (a.cps.toList < b.cps.toList)))) := rfl
theorem b_eq : Wo (binD .eq x y) K = Wo (deq x y) (fun b => K (.val (.bl b))) := Wo_map
theorem b_ne : Wo (binD .ne x y) K = Wo (deq x y) (fun b => K (.val (.bl (!b)))) := by
  show Wo ((Option.map _ _).map _) K = _
  rw [Wo_map, Wo_map]
theorem b_in : Wo (binD .in_ x y) K = Wo (inD x y) (fun b => K (.val (.bl b))) := Wo_map
theorem b_notin : Wo (binD .notin x y) K = Wo (inD x y) (fun b => K (.val (.bl (!b)))) := by
  show Wo ((Option.map _ _).map _) K = _
  rw [Wo_map, Wo_map]
theorem b_ix : Wo (binD .ix x y) K = Wo (ixD x y) (fun d => K (.val d)) := Wo_map
theorem ix_tup {xs : List D} {K : D → Prop} : Wo (ixD (.tup xs) (.int a)) K = Wo (atI xs a) K := rfl
theorem ix_lst {xs : List D} {K : D → Prop} : Wo (ixD (.lst xs) (.int a)) K = Wo (atI xs a) K := rfl
theorem ix_klst {xs : List D} {K : D → Prop} : Wo (ixD (.klst xs) (.int a)) K = Wo (atI xs a) K := rfl
theorem ix_str {z : Str} {K : D → Prop} : Wo (ixD (.str z) (.int a)) K = Wo (atI z.cps.toList a) (fun c => K (.str ⟨#[c]⟩)) := by
  simp only [ixD]; cases atI z.cps.toList a <;> rfl
theorem u_not {b : Bool} : Wo (unD .not_ (.bl b)) K = K (.val (.bl (!b))) := rfl
theorem u_neg : Wo (unD .neg (.int a)) K = K (.val (.int (-a))) := rfl
section
variable {α : Type} {p q r t u : α} {l : List α} {K : α → Prop}
theorem at0 : Wo (atI (p :: l) 0) K = K p := by simp [atI, ixN, Wo]
theorem at1 : Wo (atI (p :: q :: l) 1) K = K q := by
  have : (1 : Int) < (l.length : Int) + 1 + 1 := by omega
  simp [atI, ixN, Wo, this]
theorem at2 : Wo (atI (p :: q :: r :: l) 2) K = K r := by
  have : (2 : Int) < (l.length : Int) + 1 + 1 + 1 := by omega
  simp [atI, ixN, Wo, this]
theorem at3 : Wo (atI (p :: q :: r :: t :: l) 3) K = K t := by
  have : (3 : Int) < (l.length : Int) + 1 + 1 + 1 + 1 := by omega
  simp [atI, ixN, Wo, this]
theorem at_of {xs : List α} {i : Int} {j : Nat} (e : xs[j]? = some p) (h : i = j) : Wo (atI xs i) K = K p := by
  have hj := (List.getElem?_eq_some_iff.mp e).1
  subst h
  have : (j : Int) < (xs.length : Int) := by omega
  simp [atI, ixN, Wo, this, e]
end
end
/-! built-ins -/
theorem exs_nil {Q : List R → S → Prop} : W (exs F [] s) Q E = Q [] s := rfl
theorem exs_cons {e : Ri.E} {es : List Ri.E} {Q : List R → S → Prop} : W (exs F (e :: es) s) Q E = W (F.ex e s) (fun r s => W (exs F es s) (fun rs s => Q (r :: rs) s) E) E := by
  show W (bd _ _) Q E = _
  simp only [W_bd, W_ok]
theorem exDs_nil {Q : List D → S → Prop} : W (exDs F [] s) Q E = Q [] s := rfl
theorem exDs_cons {e : Ri.E} {es : List Ri.E} {Q : List D → S → Prop} : W (exDs F (e :: es) s) Q E = W (F.ex e s) (fun r s => W (freeze r s) (fun r s => W (exDs F es s) (fun rs s => Q (r :: rs) s) E) E) E := by
  show W (bd (bd _ _) _) Q E = _
  simp only [W_bd, W_ok]
theorem exIs_nil {Q : List D → S → Prop} : W (exIs F [] s) Q E = Q [] s := rfl
theorem exIs_cons {e : Ri.E} {es : List Ri.E} {Q : List D → S → Prop} : W (exIs F (e :: es) s) Q E = W (F.ex e s) (fun r s => W (itR r s) (fun r s => W (exIs F es s) (fun rs s => Q (r :: rs) s) E) E) E := by
  show W (bd (bd _ _) _) Q E = _
  simp only [W_bd, W_ok]
theorem x_bl {o : Bl} {as : List Ri.E} : W ((run tb c (n + 1)).ex (.bl o as) s) Q E = W (exs (run tb c n) as s) (fun rs s => Wls s rs (fun ds => Wo (blD o ds) (fun r => Q r s))) E := by
  show W (bd _ _) Q E = _
  simp only [W_bd]
  congr 1; funext rs s
  unfold blR Wls
  cases looks s rs with
  | none => rfl
  | some x => exact W_opt
section
variable {K : R → Prop} {a b : Int} {x y : D} {xs : List D}
theorem l_lenS {a : Str} : Wo (blD .len [.str a]) K = K (.val (.int a.length)) := rfl
theorem l_lenT : Wo (blD .len [.tup xs]) K = K (.val (.int xs.length)) := rfl
theorem l_lenL : Wo (blD .len [.lst xs]) K = K (.val (.int xs.length)) := rfl
theorem l_lenK : Wo (blD .len [.klst xs]) K = K (.val (.int xs.length)) := rfl
theorem l_all : Wo (blD .all [.lst xs]) K = Wo (bools xs) (fun bs => K (.val (.bl (bs.all id)))) := Wo_map
theorem l_any : Wo (blD .any [.lst xs]) K = Wo (bools xs) (fun bs => K (.val (.bl (bs.any id)))) := Wo_map
theorem l_sum : Wo (blD .sum [.lst xs]) K = Wo (intsOf xs) (fun bs => K (.val (.int bs.sum))) := Wo_map
theorem l_min : Wo (blD .min2 [.int a, .int b]) K = K (.val (.int (if b < a then b else a))) := rfl
theorem l_max : Wo (blD .max2 [.int a, .int b]) K = K (.val (.int (if a < b then b else a))) := rfl
theorem l_tuple : Wo (blD .tuple [x]) K = Wit x (fun ys => K (.val (.tup ys))) := Wo_map
theorem l_list : Wo (blD .list [x]) K = Wit x (fun ys => K (.own (.lst ys))) := Wo_map
theorem l_int : Wo (blD .int [.int a]) K = K (.val (.int a)) := rfl
theorem l_intB {b : Bool} : Wo (blD .int [.bl b]) K = K (.val (.int (if b then 1 else 0))) := rfl
theorem l_isint : Wo (blD .isint [.int a]) K = K (.val (.bl true)) := rfl
theorem l_isintS {a : Str} : Wo (blD .isint [.str a]) K = K (.val (.bl false)) := rfl
theorem l_isbool : Wo (blD .isbool [.int a]) K = K (.val (.bl false)) := rfl
theorem l_isboolB {b : Bool} : Wo (blD .isbool [.bl b]) K = K (.val (.bl true)) := rfl
theorem l_isintB {b : Bool} : Wo (blD .isint [.bl b]) K = K (.val (.bl true)) := rfl
theorem l_isstr {a : Str} : Wo (blD .isstr [.str a]) K = K (.val (.bl true)) := rfl
theorem l_istuple : Wo (blD .istuple [.tup xs]) K = K (.val (.bl true)) := rfl
theorem bools_nil {K : List Bool → Prop} : Wo (bools []) K = K [] := rfl
theorem bools_cons {b : Bool} {K : List Bool → Prop} : Wo (bools (.bl b :: xs)) K = Wo (bools xs) (fun bs => K (b :: bs)) := Wo_map
theorem bools_map {bs : List Bool} {K : List Bool → Prop} : Wo (bools (bs.map .bl)) K = K bs := by
  induction bs generalizing K with
  | nil => rfl
  | cons b bs ih => rw [List.map_cons, bools_cons, ih]
theorem ints_nil {K : List Int → Prop} : Wo (intsOf []) K = K [] := rfl
theorem ints_cons {b : Int} {K : List Int → Prop} : Wo (intsOf (.int b :: xs)) K = Wo (intsOf xs) (fun bs => K (b :: bs)) := Wo_map
theorem ints_map {bs : List Int} {K : List Int → Prop} : Wo (intsOf (bs.map .int)) K = K bs := by
  induction bs generalizing K with
  | nil => rfl
  | cons b bs ih => rw [List.map_cons, ints_cons, ih]
end
/-! calls -/
def Wa (s : S) (rs : List R) (K : List SV → Prop) : Prop := Wo (argSs s rs) K
theorem Wa_nil {K : List SV → Prop} : Wa s [] K = K [] := rfl
theorem Wa_cons {r : R} {rs : List R} {K : List SV → Prop} : Wa s (r :: rs) K = Wo (argS s r) (fun d => Wa s rs (fun ds => K (d :: ds))) := by
  unfold Wa
  rw [argSs]
  cases argS s r with
  | none => rfl
  | some d => cases argSs s rs <;> rfl
theorem Wa_val {d : D} {K : SV → Prop} : Wo (argS s (.val d)) K = K (.val d) := rfl
theorem Wa_own {d : C} {K : SV → Prop} : Wo (argS s (.own d)) K = K (.own d) := rfl
def Wav (v : SV) (K : SV → Prop) : Prop := match v with
  | .val d => K (.val d)
  | .own c => K (.bor c)
  | .bor c => K (.bor c)
theorem Wav_val {d : D} {K : SV → Prop} : Wav (.val d) K = K (.val d) := rfl
theorem Wav_own {d : C} {K : SV → Prop} : Wav (.own d) K = K (.bor d) := rfl
theorem Wav_bor {d : C} {K : SV → Prop} : Wav (.bor d) K = K (.bor d) := rfl
theorem Wa_slot {i : Nat} {K : SV → Prop} : Wo (argS ⟨sl, hp⟩ (.slot i)) K = Wg sl i (fun v => Wav v K) := by
  simp only [argS, Wg]
  cases e : sl[i]? with
  | none => rfl
  | some x => cases x with
    | none => rfl
    | some v => cases v <;> rfl
theorem W_callR {f : Nat} {rs : List R} : W (callR (run tb c n) f rs ⟨sl, hp⟩) Q E = Wa ⟨sl, hp⟩ rs (fun vs => Wc (c f vs hp) (fun r hp => Q r ⟨sl, hp⟩) (fun x hp => E x ⟨sl, hp⟩)) := by
  unfold callR Wa
  cases argSs ⟨sl, hp⟩ rs with
  | none => rfl
  | some vs =>
    simp only [Wo, run_c]
    match c f vs hp with
    | none => rfl
    | some (.ok _, _) => rfl
    | some (.error _, _) => rfl
theorem x_call {f : Nat} {as : List Ri.E} : W ((run tb c (n + 1)).ex (.call f as) s) Q E = W (exs (run tb c n) as s) (fun rs s => W (callR (run tb c n) f rs s) Q E) E := by
  show W (bd _ _) Q E = _
  simp only [W_bd]
/-- an instance -/
def Wn1 (s : S) (k : Nat) (r : R) (K : Prop) : Prop := isIns s k r = true ∧ K
def Wk (o : O) (k : Nat) (K : Prop) : Prop := match o with
  | .ins c' _ => (k == c') = true ∧ K
  | _ => False
theorem Wk_i {k : Nat} {fs : List (Option D)} {K : Prop} : Wk (.ins k fs) k K = K := by simp [Wk]
theorem Wn1_val {k : Nat} {fs : List D} {K : Prop} : Wn1 s k (.val (.ins k fs)) K = K := by simp [Wn1, isIns]
theorem Wn1_ref {k m : Nat} {K : Prop} : Wn1 ⟨sl, hp⟩ k (.val (.ref m)) K = Wh hp m (fun o => Wk o k K) := by
  simp only [Wn1, isIns, Wh]
  cases hp[m]? with
  | none => simp
  | some o => cases o <;> simp [Wk]
theorem W_pif {P : Prop} [Decidable P] {α : Type} {x y : Res α} {Q : α → S → Prop} : W (if P then x else y) Q E = Wi (decide P) (W x Q E) (W y Q E) := by
  by_cases h : P
  · rw [if_pos h, Wi_pos h]
  · rw [if_neg h, Wi_neg h]
theorem x_mcall {k f : Nat} {a : Ri.E} {as : List Ri.E} : W ((run tb c (n + 1)).ex (.mcall k f a as) s) Q E = W ((run tb c n).ex a s) (fun r s => Wn1 s k r (W (exs (run tb c n) as s) (fun rs s => W (callR (run tb c n) f (r :: rs) s) Q E) E)) E := by
  show W (bd _ _) Q E = _
  simp only [W_bd, mcallR, W_ite, Wn1]
theorem x_isi {k : Nat} {a : Ri.E} : W ((run tb c (n + 1)).ex (.isi k a) s) Q E = W ((run tb c n).ex a s) (fun r s => Wn1 s k r (Q (.val (.bl true)) s)) E := by
  show W (bd _ _) Q E = _
  simp only [W_bd, isiR, W_ite, Wn1, W_ok]
theorem x_prop {k f : Nat} {a : Ri.E} : W ((run tb c (n + 1)).ex (.prop k f a) s) Q E = W ((run tb c n).ex a s) (fun r s => Wn1 s k r (W (callR (run tb c n) f [r] s) Q (fun _ _ => False))) E := by
  show W (bd _ _) Q E = _
  simp only [W_bd, propR, W_ite, Wn1, W_noX]
def Wbo (r : R) (K : Bool → Prop) : Prop := match r with
  | .val (.bl b) => K b
  | _ => False
theorem Wbo_bl {b : Bool} {K : Bool → Prop} : Wbo (.val (.bl b)) K = K b := rfl
theorem x_ucmp {ne : Bool} {k f : Nat} {a b : Ri.E} : W ((run tb c (n + 1)).ex (.ucmp ne k f a b) s) Q E = W ((run tb c n).ex a s) (fun ra s => W ((run tb c n).ex b s) (fun rb s => Wn1 s k ra (Wn1 s k rb (W (callR (run tb c n) f [ra, rb] s) (fun r s => Wbo r (fun b => Q (.val (.bl (if ne then !b else b))) s)) (fun _ _ => False)))) E) E := by
  show W (bd _ _) Q E = _
  simp only [W_bd, ucmpR, W_ite, Wn1, Bool.and_eq_true, and_assoc]
  congr 1; funext ra s; congr 1; funext rb s; congr 1; congr 1
  rw [W_noX]
  congr 1; funext r s
  cases r with
  | val d => cases d <;> rfl
  | own _ => rfl
  | slot _ => rfl
def Wle (r : R) (K : Int → Prop) : Prop := match r with
  | .val (.int i) => (0 ≤ i ∧ i < 2 ^ 31) ∧ K i
  | _ => False
theorem Wle_int {i : Int} {K : Int → Prop} : Wle (.val (.int i)) K = ((0 ≤ i ∧ i < 2 ^ 31) ∧ K i) := rfl
theorem x_ulen {k f : Nat} {a : Ri.E} : W ((run tb c (n + 1)).ex (.ulen k f a) s) Q E = W ((run tb c n).ex a s) (fun ra s => Wn1 s k ra (W (callR (run tb c n) f [ra] s) (fun r s => Wle r (fun b => Q (.val (.int b)) s)) (fun _ _ => False))) E := by
  show W (bd _ _) Q E = _
  simp only [W_bd, exs_cons, exs_nil, ulenR, W_ite, Wn1, W_noX]
  congr 1; funext ra s; congr 1; congr 1; funext r s
  cases r with
  | val d => cases d with
    | int i => simp only [lenR, Wle, W_ite, W_ok]
    | _ => rfl
  | own _ => rfl
  | slot _ => rfl
theorem x_fz {a : Ri.E} : W ((run tb c (n + 1)).ex (.fz a) s) Q E = W ((run tb c n).ex a s) (fun r s => W (freeze r s) (fun d s => Q (.val d) s) E) E := by
  show W (bd (bd _ _) _) Q E = _
  simp only [W_bd, W_ok]
/-! fields -/
def Wj (fs : List (Option D)) (k : Nat) (K : D → Prop) : Prop := match fs[k]? with
  | some (some d) => K d
  | _ => False
theorem Wj_s {a : Option D} {l : List (Option D)} {i : Nat} {K : D → Prop} : Wj (a :: l) (i + 1) K = Wj l i K := rfl
theorem Wj_0 {a : D} {l : List (Option D)} {K : D → Prop} : Wj (some a :: l) 0 K = K a := rfl
def Wjd (fs : List D) (k : Nat) (K : D → Prop) : Prop := Wo (fs[k]?) K
theorem Wjd_s {a : D} {l : List D} {i : Nat} {K : D → Prop} : Wjd (a :: l) (i + 1) K = Wjd l i K := rfl
theorem Wjd_0 {a : D} {l : List D} {K : D → Prop} : Wjd (a :: l) 0 K = K a := rfl
/-- the fields of a thing -/
def Wfi (o : O) (k : Nat) (K : List (Option D) → Prop) : Prop := match o with
  | .ins c' fs => k = c' ∧ K fs
  | _ => False
theorem Wfi_i {k : Nat} {fs : List (Option D)} {K : List (Option D) → Prop} : Wfi (.ins k fs) k K = K fs := by simp [Wfi]
theorem W_fld_ins {k j : Nat} {fs : List D} : W (fldR k j (.val (.ins k fs)) s) Q E = Wjd fs j (fun d => Q (.val d) s) := by
  simp only [fldR, getF, W_opt, if_true, Wo_map]; rfl
theorem W_fld_ref {k j m : Nat} : W (fldR k j (.val (.ref m)) ⟨sl, hp⟩) Q E = Wh hp m (fun o => Wfi o k (fun fs => Wj fs j (fun d => Q (.val d) ⟨sl, hp⟩))) := by
  simp only [fldR, getF, W_opt, Wo_map, Wh]
  cases hp[m]? with
  | none => rfl
  | some o => cases o with
    | lst _ => rfl
    | tab _ => rfl
    | ins c' fs =>
      simp only [Wfi]
      by_cases h : k = c'
      · subst h
        simp only [if_true, true_and, Wj]
        cases fs[j]? with
        | none => rfl
        | some x => cases x <;> rfl
      · simp [h, Wo]
theorem x_fld {k j : Nat} {a : Ri.E} : W ((run tb c (n + 1)).ex (.fld k j a) s) Q E = W ((run tb c n).ex a s) (fun r s => W (fldR k j r s) Q E) E := by
  show W (bd _ _) Q E = _
  simp only [W_bd]
theorem x_settle {a : Ri.E} : W ((run tb c (n + 1)).ex (.settle a) s) Q E = W ((run tb c n).ex a s) (fun r s => W (settleR r s) Q E) E := by
  show W (bd _ _) Q E = _
  simp only [W_bd]
theorem W_settle {xs : List D} : W (settleR (.own (.lst xs)) ⟨sl, hp⟩) Q E = Q (.val (.ref hp.length)) ⟨sl, hp ++ [.lst xs]⟩ := rfl
/-! methods of texts -/
def Wst (r : R) (K : Str → Prop) : Prop := match r with
  | .val (.str x) => K x
  | _ => False
theorem Wst_str {x : Str} {K : Str → Prop} : Wst (.val (.str x)) K = K x := rfl
theorem x_mt {m : Mt} {a : Ri.E} {as : List Ri.E} : W ((run tb c (n + 1)).ex (.mt m a as) s) Q E = W ((run tb c n).ex a s) (fun r s => Wst r (fun x => W (exs (run tb c n) as s) (fun rs s => Wls s rs (fun ds => Wo (mtD m x ds) (fun r => Q r s))) E)) E := by
  show W (bd _ _) Q E = _
  simp only [W_bd]
  congr 1; funext r s
  cases r with
  | val d => cases d with
    | str x =>
      simp only [mtR, Wst]
      rw [W_bd]
      congr 1; funext rs s
      unfold mtE Wls
      cases looks s rs with
      | none => rfl
      | some x => exact W_opt
    | _ => rfl
  | own _ => rfl
  | slot _ => rfl
/-! lists that are changed -/
def Wml (v : SV) (K : List D → Prop) : Prop := match v with
  | .own (.lst xs) => K xs
  | _ => False
theorem Wml_own {xs : List D} {K : List D → Prop} : Wml (.own (.lst xs)) K = K xs := rfl
def Wmo (o : O) (K : List D → Prop) : Prop := match o with
  | .lst xs => K xs
  | _ => False
theorem Wmo_l {xs : List D} {K : List D → Prop} : Wmo (.lst xs) K = K xs := rfl
def Wil (s : S) (r : R) (K : Prop) : Prop := isL s r = true ∧ K
theorem Wil_slot {i : Nat} {K : Prop} : Wil ⟨sl, hp⟩ (.slot i) K = Wg sl i (fun v => Wml v (fun _ => K)) := by
  simp only [Wil, isL, Wg]
  cases sl[i]? with
  | none => simp
  | some x => cases x with
    | none => simp
    | some v => cases v with
      | val _ => simp [Wml]
      | own c => cases c; simp [Wml]
      | bor _ => simp [Wml]
theorem Wil_ref {m : Nat} {K : Prop} : Wil ⟨sl, hp⟩ (.val (.ref m)) K = Wh hp m (fun o => Wmo o (fun _ => K)) := by
  simp only [Wil, isL, Wh]
  cases hp[m]? with
  | none => simp
  | some o => cases o <;> simp [Wmo]
def Wwr (m : Mw) (xs as : List D) (K : List D → D → Prop) : Prop := Wo (wrD m xs as) (fun p => K p.1 p.2)
theorem Wwr_append {xs : List D} {d : D} {K : List D → D → Prop} : Wwr .append xs [d] K = (xs.length < LIM ∧ K (xs ++ [d]) .non) := by simp only [Wwr, wrD, Wo_ite, Wo_some]
theorem Wwr_extend {xs ys : List D} {K : List D → D → Prop} : Wwr .extend xs [.lst ys] K = (xs.length + ys.length ≤ LIM ∧ K (xs ++ ys) .non) := by simp only [Wwr, wrD, Wo_ite, Wo_some]
def Wht (hp : List O) (n : Nat) (o : O) (K : List O → Prop) : Prop := K (hp.set n o)
theorem Wht_0 {a o : O} {l : List O} {K : List O → Prop} : Wht (a :: l) 0 o K = K (o :: l) := rfl
theorem Wht_s {a o : O} {l : List O} {i : Nat} {K : List O → Prop} : Wht (a :: l) (i + 1) o K = Wht l i o (fun l => K (a :: l)) := rfl
theorem Wht_any {o : O} {i : Nat} {K : List O → Prop} : Wht hp i o K = K (hp.set i o) := rfl
theorem W_wr_slot {m : Mw} {i : Nat} {as : List D} : W (wrR m (.slot i) as ⟨sl, hp⟩) Q E = Wg sl i (fun v => Wml v (fun xs => Wwr m xs as (fun ys d => Wt sl i (some (.own (.lst ys))) (fun sl => Q (.val d) ⟨sl, hp⟩)))) := by
  simp only [wrR, Wg]
  cases e : sl[i]? with
  | none => rfl
  | some x => cases x with
    | none => rfl
    | some v => cases v with
      | val _ => rfl
      | own c =>
        cases c with | lst xs =>
        simp only [Wml, Wwr]
        cases wrD m xs as with
        | none => rfl
        | some p => simp [Wo, W, ok, Wt, (List.getElem?_eq_some_iff.mp e).1]
      | bor _ => rfl
theorem W_wr_ref {m : Mw} {i : Nat} {as : List D} : W (wrR m (.val (.ref i)) as ⟨sl, hp⟩) Q E = Wh hp i (fun v => Wmo v (fun xs => Wwr m xs as (fun ys d => Wht hp i (.lst ys) (fun hp => Q (.val d) ⟨sl, hp⟩)))) := by
  simp only [wrR, Wh]
  cases e : hp[i]? with
  | none => rfl
  | some o => cases o with
    | ins _ _ => rfl
    | tab _ => rfl
    | lst xs =>
      simp only [Wmo, Wwr]
      cases wrD m xs as with
      | none => rfl
      | some p => rfl
theorem x_mw {m : Mw} {a : Ri.E} {as : List Ri.E} : W ((run tb c (n + 1)).ex (.mw m a as) s) Q E = W ((run tb c n).ex a s) (fun r s => Wil s r (W (exDs (run tb c n) as s) (fun ds s => W (wrR m r ds s) Q E) E)) E := by
  show W (bd _ _) Q E = _
  simp only [W_bd, W_ite, Wil]
end
end Ri

set_option maxRecDepth 100000
/-! Pl, part C: comprehensions, targets, statements, calls. -/
namespace Ri
open PySem L2
section
variable {F : Rec} {tb : Tb} {c : CallF} {n : Nat} {E : Xc → S → Prop} {s : S} {sl l : List (Option SV)} {hp : List O}
/-! comprehensions -/
def Ws (s : S) (K : List (Option SV) → List O → Prop) : Prop := K s.sl s.hp
theorem Ws_m {K : List (Option SV) → List O → Prop} : Ws ⟨sl, hp⟩ K = K sl hp := rfl
/-- a slot set, wherever it is -/
def Wx (sl : List (Option SV)) (i : Nat) (x : Option SV) (K : List (Option SV) → Prop) : Prop := K (sl.set i x)
theorem Wx_s {a x : Option SV} {i : Nat} {K : List (Option SV) → Prop} : Wx (a :: l) (i + 1) x K = Wx l i x (fun l' => K (a :: l')) := rfl
theorem Wx_0 {a x : Option SV} {K : List (Option SV) → Prop} : Wx (a :: l) 0 x K = K (x :: l) := rfl
def Wwp (sl : List (Option SV)) (own : List Nat) (K : List (Option SV) → Prop) : Prop := K (wipeS sl own)
theorem Wwp_nil {K : List (Option SV) → Prop} : Wwp sl [] K = K sl := rfl
theorem Wwp_cons {i : Nat} {is : List Nat} {K : List (Option SV) → Prop} : Wwp sl (i :: is) K = Wwp sl is (fun l => Wx l i none K) := rfl
def Wgo (sl : List (Option SV)) (i : Nat) (K : Option SV → Prop) (N : Prop) : Prop := match sl[i]? with
  | some x => K x
  | none => N
theorem Wgo_s {a : Option SV} {i : Nat} {K : Option SV → Prop} {N : Prop} : Wgo (a :: l) (i + 1) K N = Wgo l i K N := rfl
theorem Wgo_0 {a : Option SV} {K : Option SV → Prop} {N : Prop} : Wgo (a :: l) 0 K N = K a := rfl
def Wun (sl0 sl : List (Option SV)) (own : List Nat) (K : List (Option SV) → Prop) : Prop := K (unwipe sl0 sl own)
theorem Wun_nil {sl0 : List (Option SV)} {K : List (Option SV) → Prop} : Wun sl0 sl [] K = K sl := rfl
theorem Wun_cons {sl0 : List (Option SV)} {i : Nat} {is : List Nat} {K : List (Option SV) → Prop} : Wun sl0 sl (i :: is) K = Wgo sl0 i (fun x => Wx sl i x (fun sl => Wun sl0 sl is K)) (Wun sl0 sl is K) := by
  simp only [Wun, unwipe, Wgo, Wx]
  cases sl0[i]? <;> rfl
def Wpx (x : Option SV) (P : Prop) : Prop := match x with
  | none => P
  | some (.val _) => P
  | _ => False
theorem Wpx_n {P : Prop} : Wpx none P = P := rfl
theorem Wpx_v {P : Prop} {d : D} : Wpx (some (.val d)) P = P := rfl
def Wpl (sl : List (Option SV)) (own : List Nat) (P : Prop) : Prop := own.all (plainS sl) = true ∧ P
theorem Wpl_nil {P : Prop} : Wpl sl [] P = P := by simp [Wpl]
theorem Wpl_cons {P : Prop} {i : Nat} {is : List Nat} : Wpl sl (i :: is) P = Wgo sl i (fun x => Wpx x (Wpl sl is P)) False := by
  simp only [Wpl, List.all_cons, plainS, Wgo]
  cases sl[i]? with
  | none => simp
  | some x => cases x with
    | none => simp [Wpx]
    | some v => cases v <;> simp [Wpx]
theorem W_compR {Q : R → S → Prop} {t : Tg} {k : Ik} {ifs : Option Ri.E} {elt : Ri.E} {own : List Nat} {ds : List D} : W (compR F t k ifs elt own ds ⟨sl, hp⟩) Q E = Wo (walk k ds) (fun xs => Wpl sl own (Wwp sl own (fun wl => W (compL F t ifs elt own xs [] ⟨wl, hp⟩) (fun acc s' => Ws s' (fun sl' hp' => Wun sl sl' own (fun sl' => Q (.own (.lst acc)) ⟨sl', hp'⟩))) (fun _ _ => False)))) := by
  unfold compR
  cases walk k ds with
  | none => rfl
  | some xs =>
    simp only [Wo, Wpl, W_ite, W_bo]; rfl
theorem x_comp {Q : R → S → Prop} {t : Tg} {k : Ik} {as : List Ri.E} {ifs : Option Ri.E} {elt : Ri.E} {own : List Nat} : W ((run tb c (n + 1)).ex (.comp t k as ifs elt own) s) Q E = W (exIs (run tb c n) as s) (fun ds s => W (compR (run tb c n) t k ifs elt own ds s) Q E) E := by
  show W (bd _ _) Q E = _
  simp only [W_bd]
section
variable {Q : List D → S → Prop} {t : Tg} {ifs : Option Ri.E} {elt : Ri.E} {own : List Nat} {acc ds : List D} {d : D}
theorem compL_nil : W (compL F t ifs elt own [] acc s) Q E = Q acc s := rfl
def NoE : Xc → S → Prop := fun _ _ => False
theorem ifR_none {Q : Bool → S → Prop} : W (ifR F none s) Q E = Q true s := rfl
theorem ifR_some {Q : Bool → S → Prop} {e : Ri.E} : W (ifR F (some e) s) Q E = W (F.ex e s) (fun r s => Wb s r (fun b => Q b s)) E := by
  show W (bd _ _) Q E = _
  simp only [W_bd, W_tEnd]
theorem compL_cons : W (compL F t ifs elt own (d :: ds) acc s) Q E = W (asgT F t d s) (fun _ s => W (ifR F ifs s) (fun b s => Wi b (W (F.ex elt s) (fun r s => W (freeze r s) (fun x s => acc.length < LIM ∧ Ws s (fun sl hp => Wwp sl own (fun sl => W (compL F t ifs elt own ds (acc ++ [x]) ⟨sl, hp⟩) Q E))) NoE) NoE) (Ws s (fun sl hp => Wwp sl own (fun sl => W (compL F t ifs elt own ds acc ⟨sl, hp⟩) Q E)))) NoE) NoE := by
  rw [compL]
  simp only [W_bo, W_bif, W_ite]
  rfl
end
/-! walks -/
section
variable {K : List D → Prop} {xs ys : List D} {a b : Int}
theorem wk_str {x : Str} : Wo (walk .seq [.str x]) K = K (strItems x) := rfl
theorem wk_tup : Wo (walk .seq [.tup xs]) K = K xs := rfl
theorem wk_lst : Wo (walk .seq [.lst xs]) K = K xs := rfl
theorem wk_klst : Wo (walk .seq [.klst xs]) K = K xs := rfl
theorem wk_r1 : Wo (walk .range1 [.int a]) K = ((a < 2 ^ 20 ∧ -(2 ^ 20) < a) ∧ K (rangeD 0 a.toNat)) := by simp only [walk, Wo_ite, Wo_some]
theorem wk_r2 : Wo (walk .range2 [.int a, .int b]) K = ((b < 2 ^ 20 ∧ -(2 ^ 20) < b ∧ a < 2 ^ 20 ∧ -(2 ^ 20) < a) ∧ K (rangeD a (b - a).toNat)) := by simp only [walk, Wo_ite, Wo_some]
theorem wk_enT : Wo (walk .enum [.tup xs]) K = K (enumD 0 xs) := rfl
theorem wk_enL : Wo (walk .enum [.lst xs]) K = K (enumD 0 xs) := rfl
theorem wk_zT : Wo (walk .zip [.tup xs, .tup ys]) K = K (List.zipWith (fun x y => .tup [x, y]) xs ys) := rfl
theorem wk_zL : Wo (walk .zip [.lst xs, .lst ys]) K = K (List.zipWith (fun x y => .tup [x, y]) xs ys) := rfl
end
/-! targets -/
section
variable {Q : Unit → S → Prop} {d : D}
theorem t_nm {i : Nat} : W (asgT F (.nm i) d ⟨sl, hp⟩) Q E = Wt sl i (some (.val d)) (fun sl => Q () ⟨sl, hp⟩) := by
  simp only [asgT, W_ite, W_ok]; rfl
theorem t_tp {ts : List Tg} {ds : List D} : W (asgT F (.tp ts) (.tup ds) s) Q E = (ds.length = ts.length ∧ W (asgTs F ts ds s) Q E) := by
  simp only [asgT, W_ite]
theorem ts_nil : W (asgTs F [] [] s) Q E = Q () s := by simp only [asgTs, W_ok]
theorem ts_cons {t : Tg} {ts : List Tg} {ds : List D} : W (asgTs F (t :: ts) (d :: ds) s) Q E = W (asgT F t d s) (fun _ s => W (asgTs F ts ds s) Q E) E := by
  simp only [asgTs, W_bd]
/-- an item set -/
def Wsb (s : S) (ra : R) (j : Int) (d : D) (K : S → Prop) : Prop := match ra with
  | .slot n => Wg s.sl n (fun v => Wml v (fun xs => Wo (ixN xs.length j) (fun k => Wt s.sl n (some (.own (.lst (xs.set k d)))) (fun sl => K ⟨sl, s.hp⟩))))
  | .val (.ref n) => Wh s.hp n (fun v => Wmo v (fun xs => Wo (ixN xs.length j) (fun k => Wht s.hp n (.lst (xs.set k d)) (fun hp => K ⟨s.sl, hp⟩))))
  | _ => False
theorem Wsb_slot {i : Nat} {j : Int} {K : S → Prop} : Wsb ⟨sl, hp⟩ (.slot i) j d K = Wg sl i (fun v => Wml v (fun xs => Wo (ixN xs.length j) (fun k => Wt sl i (some (.own (.lst (xs.set k d)))) (fun sl => K ⟨sl, hp⟩)))) := rfl
theorem Wsb_ref {i : Nat} {j : Int} {K : S → Prop} : Wsb ⟨sl, hp⟩ (.val (.ref i)) j d K = Wh hp i (fun v => Wmo v (fun xs => Wo (ixN xs.length j) (fun k => Wht hp i (.lst (xs.set k d)) (fun hp => K ⟨sl, hp⟩)))) := rfl
theorem t_sub {a i : Ri.E} : W (asgT F (.sub a i) d s) Q E = W (F.ex a s) (fun ra s => W (F.ex i s) (fun ri s => Wn ri (fun j => Wsb s ra j d (fun s => Q () s))) E) E := by
  rw [asgT]
  simp only [W_bd]
  congr 1; funext ra s; congr 1; funext ri s
  cases ri with
  | own _ => rfl
  | slot _ => rfl
  | val x => cases x with
    | int j =>
      simp only [Wn]
      cases ra with
      | own _ => rfl
      | slot m =>
        simp only [Wsb, Wg]
        cases e : s.sl[m]? with
        | none => rfl
        | some x => cases x with
          | none => rfl
          | some v => cases v with
            | val _ => rfl
            | bor _ => rfl
            | own q =>
              cases q with | lst xs =>
              simp only [Wml]
              cases ixN xs.length j with
              | none => rfl
              | some k => simp [Wo, W, ok, Wt, (List.getElem?_eq_some_iff.mp e).1]
      | val x => cases x with
        | ref m =>
          simp only [Wsb, Wh]
          cases e : s.hp[m]? with
          | none => rfl
          | some o => cases o with
            | ins _ _ => rfl
            | tab _ => rfl
            | lst xs =>
              simp only [Wmo]
              cases ixN xs.length j with
              | none => rfl
              | some k => rfl
        | _ => rfl
    | _ => rfl
/-- a field set -/
def Wfs (fs : List (Option D)) (k : Nat) (d : D) (K : List (Option D) → Prop) : Prop := k < fs.length ∧ K (fs.set k (some d))
theorem Wfs_s {a : Option D} {l : List (Option D)} {i : Nat} {K : List (Option D) → Prop} : Wfs (a :: l) (i + 1) d K = Wfs l i d (fun l => K (a :: l)) := by simp [Wfs]
theorem Wfs_0 {a : Option D} {l : List (Option D)} {K : List (Option D) → Prop} : Wfs (a :: l) 0 d K = K (some d :: l) := by simp [Wfs]
def Wrf (r : R) (K : Nat → Prop) : Prop := match r with
  | .val (.ref n) => K n
  | _ => False
theorem Wrf_r {m : Nat} {K : Nat → Prop} : Wrf (.val (.ref m)) K = K m := rfl
theorem t_fld {k j : Nat} {a : Ri.E} : W (asgT F (.fld k j a) d s) Q E = W (F.ex a s) (fun r s => Ws s (fun sl hp => Wrf r (fun m => Wh hp m (fun o => Wfi o k (fun fs => Wfs fs j d (fun fs => Wht hp m (.ins k fs) (fun hp => Q () ⟨sl, hp⟩))))))) E := by
  rw [asgT]
  simp only [W_bd]
  congr 1; funext r s
  cases r with
  | own _ => rfl
  | slot _ => rfl
  | val x => cases x with
    | ref m =>
      simp only [Ws, Wrf, Wh]
      cases s.hp[m]? with
      | none => rfl
      | some o => cases o with
        | lst _ => rfl
        | tab _ => rfl
        | ins c' fs =>
          simp only [W_ite, Wfi, Wfs, and_assoc]; rfl
    | _ => rfl
variable {t : Tg}
theorem r_val : W (asgR F t (.val d) s) Q E = W (asgT F t d s) Q E := by
  cases t <;> rfl
theorem r_own {i : Nat} {q : C} : W (asgR F (.nm i) (.own q) ⟨sl, hp⟩) Q E = Wt sl i (some (.own q)) (fun sl => Q () ⟨sl, hp⟩) := by
  simp only [asgR, W_ite, W_ok]; rfl
theorem r_own_fld {k j : Nat} {a : Ri.E} {xs : List D} : W (asgR F (.fld k j a) (.own (.lst xs)) s) Q E = W (asgT F (.fld k j a) (.lst xs) s) Q E := rfl
theorem r_own_sub {i a : Ri.E} {xs : List D} : W (asgR F (.sub a i) (.own (.lst xs)) s) Q E = W (asgT F (.sub a i) (.lst xs) s) Q E := rfl
theorem r_slot {i : Nat} : W (asgR F t (.slot i) s) Q E = W (freeze (.slot i) s) (fun d s => W (asgT F t d s) Q E) E := by
  cases t <;> exact W_bd
end
/-! statements -/
section
variable {Q : Fl → S → Prop}
theorem s_nil : W (execs F [] s) Q E = Q .next s := rfl
def Wf (f : Fl) (A B : Prop) : Prop := match f with
  | .next => A
  | _ => B
theorem Wf_n {A B : Prop} : Wf .next A B = A := rfl
theorem Wf_r {A B : Prop} {r : R} : Wf (.ret r) A B = B := rfl
theorem Wf_b {A B : Prop} : Wf .brk A B = B := rfl
theorem Wf_c {A B : Prop} : Wf .cnt A B = B := rfl
theorem s_cons {st : Stm} {sts : List Stm} : W (execs F (st :: sts) s) Q E = W (F.st st s) (fun f s => Wf f (W (execs F sts s) Q E) (Q f s)) E := by
  rw [execs, W_bd]
  congr 1; funext f s
  cases f <;> rfl
theorem s_asg {t : Tg} {e : Ri.E} : W ((run tb c (n + 1)).st (.asg t e) s) Q E = W ((run tb c n).ex e s) (fun r s => W (asgR (run tb c n) t r s) (fun _ s => Q .next s) E) E := by
  show W (bd _ _) Q E = _
  simp only [W_bd, W_ok]
theorem s_ex {e : Ri.E} : W ((run tb c (n + 1)).st (.ex e) s) Q E = W ((run tb c n).ex e s) (fun _ s => Q .next s) E := by
  show W (bd _ _) Q E = _
  simp only [W_bd, W_ok]
theorem s_retN : W ((run tb c (n + 1)).st (.ret none) s) Q E = Q (.ret (.val .non)) s := rfl
theorem s_ret {e : Ri.E} : W ((run tb c (n + 1)).st (.ret (some e)) s) Q E = W ((run tb c n).ex e s) (fun r s => W (retR r s) Q E) E := by
  show W (bd _ _) Q E = _
  simp only [W_bd]
theorem ret_val {d : D} : W (retR (.val d) s) Q E = Q (.ret (.val d)) s := rfl
theorem ret_own {d : C} : W (retR (.own d) s) Q E = Q (.ret (.own d)) s := rfl
def Wrv (sl : List (Option SV)) (hp : List O) (i : Nat) (v : SV) (Q : Fl → S → Prop) : Prop := match v with
  | .val d => Q (.ret (.val d)) ⟨sl, hp⟩
  | .own q => Wx sl i none (fun sl => Q (.ret (.own q)) ⟨sl, hp⟩)
  | .bor _ => False
theorem Wrv_val {i : Nat} {d : D} : Wrv sl hp i (.val d) Q = Q (.ret (.val d)) ⟨sl, hp⟩ := rfl
theorem Wrv_own {i : Nat} {d : C} : Wrv sl hp i (.own d) Q = Wx sl i none (fun sl => Q (.ret (.own d)) ⟨sl, hp⟩) := rfl
theorem ret_slot {i : Nat} : W (retR (.slot i) ⟨sl, hp⟩) Q E = Wg sl i (fun v => Wrv sl hp i v Q) := by
  simp only [retR, Wg]
  cases sl[i]? with
  | none => rfl
  | some x => cases x with
    | none => rfl
    | some v => cases v <;> rfl
theorem s_if {e : Ri.E} {a b : List Stm} : W ((run tb c (n + 1)).st (.if_ e a b) s) Q E = W ((run tb c n).ex e s) (fun r s => Wb s r (fun k => Wi k (W (execs (run tb c n) a s) Q E) (W (execs (run tb c n) b s) Q E))) E := by
  show W (bd (bd _ _) _) Q E = _
  simp only [W_bd, W_tEnd, W_bif]
theorem s_for {t : Tg} {k : Ik} {as : List Ri.E} {body : List Stm} : W ((run tb c (n + 1)).st (.for_ t k as body) s) Q E = W (exIs (run tb c n) as s) (fun ds s => Wo (walk k ds) (fun xs => W (forL (run tb c n) t (execs (run tb c n) body) xs s) Q E)) E := by
  show W (bd _ _) Q E = _
  simp only [W_bd]
  congr 1; funext ds s
  unfold forR
  cases walk k ds <;> rfl
section
variable {t : Tg} {body : S → Res Fl} {d : D} {ds : List D}
theorem for_nil : W (forL F t body [] s) Q E = Q .next s := rfl
def Wfl (f : Fl) (A B : Prop) (R' : R → Prop) : Prop := match f with
  | .next => A
  | .cnt => A
  | .brk => B
  | .ret r => R' r
theorem Wfl_n {A B : Prop} {R' : R → Prop} : Wfl .next A B R' = A := rfl
theorem Wfl_c {A B : Prop} {R' : R → Prop} : Wfl .cnt A B R' = A := rfl
theorem Wfl_b {A B : Prop} {R' : R → Prop} : Wfl .brk A B R' = B := rfl
theorem Wfl_r {A B : Prop} {R' : R → Prop} {r : R} : Wfl (.ret r) A B R' = R' r := rfl
theorem for_cons : W (forL F t body (d :: ds) s) Q E = W (asgT F t d s) (fun _ s => W (body s) (fun f s => Wfl f (W (forL F t body ds s) Q E) (Q .next s) (fun r => Q (.ret r) s)) E) E := by
  rw [forL]
  simp only [W_bd]
  congr 1; funext _ s; congr 1; funext f s
  cases f <;> rfl
end
theorem s_while {e : Ri.E} {body : List Stm} : W ((run tb c (n + 1)).st (.while_ e body) s) Q E = W ((run tb c n).ex e s) (fun r s => Wb s r (fun k => Wi k (W (execs (run tb c n) body s) (fun f s => Wfl f (W ((run tb c n).st (.while_ e body) s) Q E) (Q .next s) (fun r => Q (.ret r) s)) E) (Q .next s))) E := by
  show W (bd (bd _ _) _) Q E = _
  simp only [W_bd, W_tEnd, W_bif, W_ok]
  congr 1; funext r s; congr 1; funext k; congr 1; congr 1; funext f s
  cases f <;> rfl
/-- a result in a name -/
def Wnm (i : Nat) (r : R) (s : S) (K : S → Prop) : Prop := Wo (nmR i r s) K
theorem Wnm_val {i : Nat} {d : D} {K : S → Prop} : Wnm i (.val d) ⟨sl, hp⟩ K = Wt sl i (some (.val d)) (fun sl => K ⟨sl, hp⟩) := by
  simp only [Wnm, nmR, toSV, Wo_ite, Wo_some]; rfl
theorem Wnm_own {i : Nat} {d : C} {K : S → Prop} : Wnm i (.own d) ⟨sl, hp⟩ K = Wt sl i (some (.own d)) (fun sl => K ⟨sl, hp⟩) := by
  simp only [Wnm, nmR, toSV, Wo_ite, Wo_some]; rfl
theorem s_asg2 {i j : Nat} {a b : Ri.E} : W ((run tb c (n + 1)).st (.asg2 i j a b) s) Q E = W ((run tb c n).ex a s) (fun ra s => W ((run tb c n).ex b s) (fun rb s => Wnm j rb s (fun s => Wnm i ra s (fun s => Q .next s))) E) E := by
  show W (bd _ _) Q E = _
  simp only [W_bd, exs_cons, exs_nil]
  congr 1; funext ra s; congr 1; funext rb s
  unfold asg2R Wnm
  cases nmR j rb s with
  | none => rfl
  | some s1 =>
    simp only [Wo]
    cases nmR i ra s1 <;> rfl
theorem s_pass : W ((run tb c (n + 1)).st .pass s) Q E = Q .next s := rfl
theorem s_brk : W ((run tb c (n + 1)).st .brk s) Q E = Q .brk s := rfl
theorem s_cnt : W ((run tb c (n + 1)).st .cnt s) Q E = Q .cnt s := rfl
theorem s_wall : W ((run tb c (n + 1)).st .wall s) Q E = False := rfl
def Wi1 (d : D) (K : Int → Prop) : Prop := match d with
  | .int i => K i
  | _ => False
theorem Wi1_i {i : Int} {K : Int → Prop} : Wi1 (.int i) K = K i := rfl
theorem s_incfld {k j : Nat} {a e : Ri.E} : W ((run tb c (n + 1)).st (.aug .add (.fld k j a) e) s) Q E = W ((run tb c n).ex a s) (fun ra s => Ws s (fun sl hp => Wrf ra (fun m => Wh hp m (fun o => Wfi o k (fun fs => Wj fs j (fun d => Wi1 d (fun x => W ((run tb c n).ex e s) (fun r s => Wl s r (fun y => Wi1 y (fun y => Ws s (fun sl hp => Wh hp m (fun o => Wfi o k (fun fs => Wfs fs j (.int (x + y)) (fun fs => Wht hp m (.ins k fs) (fun hp => Q .next ⟨sl, hp⟩)))))))) E))))))) E := by
  show W (bd _ _) Q E = _
  simp only [W_bd]
  congr 1; funext ra s
  cases ra with
  | own _ => rfl
  | slot _ => rfl
  | val x => cases x with
    | ref m =>
      simp only [augA, Ws, Wrf, getF, Wh]
      cases s.hp[m]? with
      | none => rfl
      | some o => cases o with
        | lst _ => rfl
        | tab _ => rfl
        | ins c' fs =>
          simp only [Wfi]
          by_cases h : k = c'
          · subst h
            simp only [if_true, true_and, Wj]
            cases fs[j]? with
            | none => rfl
            | some x => cases x with
              | none => rfl
              | some d => cases d with
                | int x =>
                  simp only [Option.join, Option.bind_some, id, Wi1, W_bd]
                  congr 1; funext r s
                  unfold augF Wl
                  cases look s r with
                  | none => rfl
                  | some y => cases y with
                    | int y =>
                      simp only [augI, Wo]
                      cases s.hp[m]? with
                      | none => rfl
                      | some o => cases o with
                        | lst _ => rfl
                        | tab _ => rfl
                        | ins c' fs =>
                          simp only [W_ite, Wfs, and_assoc]; rfl
                    | _ => rfl
                | _ => rfl
          · simp [h, W]
    | _ => rfl
end
/-! calls -/
def FU : Nat := 999900
theorem fu : FUEL = FU + 100 := rfl
theorem gc_self (r : R) (hp : List O) : gc hp.length r hp = hp := by
  unfold gc; split
  · exact List.take_length
  · rfl
theorem gc_set (r : R) (hp : List O) (k : Nat) (o : O) : gc hp.length r (hp.set k o) = hp.set k o := by
  have := gc_self r (hp.set k o)
  rw [List.length_set] at this; exact this
theorem gc_len {r : R} {m : Nat} {hp' : List O} (h : hp'.length = m) : gc m r hp' = hp' := by rw [← h]; exact gc_self r hp'
theorem gc_app {r : R} {hp l : List O} (h1 : cleanR hp.length r = true) (h2 : hp.all (cleanO hp.length) = true) : gc hp.length r (hp ++ l) = hp := by
  unfold gc
  rw [List.take_left, h1, h2]
  rfl
section
variable {Q : R → List O → Prop} {E : Xc → List O → Prop}
def Wre (f : Fl) (K : R → Prop) : Prop := match f with
  | .next => K (.val .non)
  | .ret (.val d) => K (.val d)
  | .ret (.own q) => K (.own q)
  | _ => False
theorem Wre_n {K : R → Prop} : Wre .next K = K (.val .non) := rfl
theorem Wre_v {K : R → Prop} {d : D} : Wre (.ret (.val d)) K = K (.val d) := rfl
theorem Wre_o {K : R → Prop} {d : C} : Wre (.ret (.own d)) K = K (.own d) := rfl
theorem Wc_call {d f np ns : Nat} {body : List Stm} {vs : List SV} {sl : List (Option SV)} (h : tb.df f = some ⟨np, ns, body⟩) (hl : vs.length = np) (e : vs.map some ++ List.replicate (ns - vs.length) none = sl) :
    Wc (callD tb (d + 1) f vs hp) Q E = W (execs (run tb (callD tb d) (FU + 100)) body ⟨sl, hp⟩) (fun fl s => Ws s (fun _ hp' => Wre fl (fun r => Q r (gc hp.length r hp')))) (fun x s => Ws s (fun _ hp => E x hp)) := by
  subst e
  show Wc (stepC (run tb (callD tb d) (FU + 100)) tb f vs hp) Q E = _
  unfold stepC
  simp only [h]
  rw [if_pos hl]
  match execs (run tb (callD tb d) (FU + 100)) body ⟨vs.map some ++ List.replicate (ns - vs.length) none, hp⟩ with
  | none => rfl
  | some (.error x, s) => rfl
  | some (.ok .next, s) => rfl
  | some (.ok .brk, s) => rfl
  | some (.ok .cnt, s) => rfl
  | some (.ok (.ret (.slot i)), s) => rfl
  | some (.ok (.ret (.val d)), s) => rfl
  | some (.ok (.ret (.own d)), s) => rfl
end
/-! new -/
section
variable {Q : R → S → Prop}
theorem x_new {k f : Nat} {as : List Ri.E} : W ((run tb c (n + 1)).ex (.new k f as) s) Q E = W (exs (run tb c n) as s) (fun rs s => W (newR (run tb c n) tb k f rs s) Q E) E := by
  show W (bd _ _) Q E = _
  simp only [W_bd]
theorem x_frz {k f : Nat} {as : List Ri.E} : W ((run tb c (n + 1)).ex (.frz k f as) s) Q E = W (exs (run tb c n) as s) (fun rs s => W (frzR (run tb c n) tb k f rs s) Q E) E := by
  show W (bd _ _) Q E = _
  simp only [W_bd]
def Wno (r : R) (K : Prop) : Prop := match r with
  | .val .non => K
  | _ => False
theorem Wno_n {K : Prop} : Wno (.val .non) K = K := rfl
theorem W_newR {k f m : Nat} {rs : List R} (h : tb.cl k = some m) : W (newR (run tb c n) tb k f rs ⟨sl, hp⟩) Q E = W (callR (run tb c n) f (.val (.ref hp.length) :: rs) ⟨sl, hp ++ [.ins k (List.replicate m none)]⟩) (fun r s => Wno r (Q (.val (.ref hp.length)) s)) E := by
  simp only [newR, h, W_bd]
  congr 1; funext r s
  cases r with
  | val d => cases d <;> rfl
  | _ => rfl
theorem W_frzR {k f m : Nat} {rs : List R} (h : tb.cl k = some m) : W (frzR (run tb c n) tb k f rs ⟨sl, hp⟩) Q E = W (callR (run tb c n) f (.val (.ref hp.length) :: rs) ⟨sl, hp ++ [.ins k (List.replicate m none)]⟩) (fun r s => Wno r (Ws s (fun sl hp' => Wo (frzH k hp.length hp') (fun ds => Q (.val (.ins k ds)) ⟨sl, hp'.take hp.length⟩)))) E := by
  simp only [frzR, h, W_bd]
  congr 1; funext r s
  cases r with
  | val d => cases d with
    | non =>
      simp only [Wno, Ws]
      cases frzH k hp.length s.hp <;> rfl
    | _ => rfl
  | _ => rfl
theorem frzH_of {k : Nat} {fs : List (Option D)} {ds : List D} (ha : alls fs = some ds) (h : (hp ++ [O.ins k fs]).all (cleanO hp.length) = true) : frzH k hp.length (hp ++ [O.ins k fs]) = some ds := by
  simp only [frzH]
  rw [List.getElem?_append_right (Nat.le_refl _), Nat.sub_self]
  simp only [List.getElem?_cons_zero, List.length_append, List.length_cons, List.length_nil, h, and_self, if_true, ha]
end
end
end Ri

set_option maxRecDepth 100000
/-! Pl, part D: ==. -/
namespace Ri
open PySem L2
def okP : Option PyData → Bool
  | some p => decide (p.depth ≤ 64)
  | none => false
def okD (x : D) : Bool := okP (toPy x)
mutual
def eqD : D → D → Bool
  | .non, .non => true
  | .bl a, .bl b => a == b
  | .bl a, .int b => (if a then 1 else 0) == b
  | .int a, .bl b => a == (if b then 1 else 0)
  | .int a, .int b => decide (a = b)
  | .str a, .str b => a == b
  | .tup a, .tup b => eqDs a b
  | .lst a, .lst b => eqDs a b
  | _, _ => false
def eqDs : List D → List D → Bool
  | [], [] => true
  | x :: xs, y :: ys => eqD x y && eqDs xs ys
  | _, _ => false
end
mutual
theorem eqD_eqv : ∀ (x y : D) {p q : PyData}, toPy x = some p → toPy y = some q → p.eqv q = eqD x y
  | .tup a, .tup b, p, q, h, g => by
    simp only [toPy, Option.map_eq_some_iff] at h g
    obtain ⟨xs, h, rfl⟩ := h
    obtain ⟨ys, g, rfl⟩ := g
    simp only [PyData.eqv, eqD]; exact eqDs_eqv a b h g
  | .lst a, .lst b, p, q, h, g => by
    simp only [toPy, Option.map_eq_some_iff] at h g
    obtain ⟨xs, h, rfl⟩ := h
    obtain ⟨ys, g, rfl⟩ := g
    simp only [PyData.eqv, eqD]; exact eqDs_eqv a b h g
  | .non, y, p, q, h, g => by cases y <;> simp [toPy] at h g <;> (try obtain ⟨_, _, rfl⟩ := g) <;> subst h <;> (try subst g) <;> simp [PyData.eqv, eqD]
  | .bl _, y, p, q, h, g => by cases y <;> simp [toPy] at h g <;> (try obtain ⟨_, _, rfl⟩ := g) <;> subst h <;> (try subst g) <;> simp [PyData.eqv, eqD]
  | .int _, y, p, q, h, g => by cases y <;> simp [toPy] at h g <;> (try obtain ⟨_, _, rfl⟩ := g) <;> subst h <;> (try subst g) <;> simp [PyData.eqv, eqD] <;> rfl
  | .str _, y, p, q, h, g => by cases y <;> simp [toPy] at h g <;> (try obtain ⟨_, _, rfl⟩ := g) <;> subst h <;> (try subst g) <;> simp [PyData.eqv, eqD]
  | .tup a, .non, p, q, h, g => by simp [toPy] at h g; obtain ⟨_, _, rfl⟩ := h; subst g; simp [PyData.eqv, eqD]
  | .tup a, .bl _, p, q, h, g => by simp [toPy] at h g; obtain ⟨_, _, rfl⟩ := h; subst g; simp [PyData.eqv, eqD]
  | .tup a, .int _, p, q, h, g => by simp [toPy] at h g; obtain ⟨_, _, rfl⟩ := h; subst g; simp [PyData.eqv, eqD]
  | .tup a, .str _, p, q, h, g => by simp [toPy] at h g; obtain ⟨_, _, rfl⟩ := h; subst g; simp [PyData.eqv, eqD]
  | .tup a, .lst _, p, q, h, g => by simp [toPy] at h g; obtain ⟨_, _, rfl⟩ := h; obtain ⟨_, _, rfl⟩ := g; simp [PyData.eqv, eqD]
  | .lst a, .non, p, q, h, g => by simp [toPy] at h g; obtain ⟨_, _, rfl⟩ := h; subst g; simp [PyData.eqv, eqD]
  | .lst a, .bl _, p, q, h, g => by simp [toPy] at h g; obtain ⟨_, _, rfl⟩ := h; subst g; simp [PyData.eqv, eqD]
  | .lst a, .int _, p, q, h, g => by simp [toPy] at h g; obtain ⟨_, _, rfl⟩ := h; subst g; simp [PyData.eqv, eqD]
  | .lst a, .str _, p, q, h, g => by simp [toPy] at h g; obtain ⟨_, _, rfl⟩ := h; subst g; simp [PyData.eqv, eqD]
  | .lst a, .tup _, p, q, h, g => by simp [toPy] at h g; obtain ⟨_, _, rfl⟩ := h; obtain ⟨_, _, rfl⟩ := g; simp [PyData.eqv, eqD]
  | .tup a, .klst _, p, q, h, g => by simp [toPy] at g
  | .tup a, .ins _ _, p, q, h, g => by simp [toPy] at g
  | .tup a, .ref _, p, q, h, g => by simp [toPy] at g
  | .tup a, .fn _, p, q, h, g => by simp [toPy] at g
  | .lst a, .klst _, p, q, h, g => by simp [toPy] at g
  | .lst a, .ins _ _, p, q, h, g => by simp [toPy] at g
  | .lst a, .ref _, p, q, h, g => by simp [toPy] at g
  | .lst a, .fn _, p, q, h, g => by simp [toPy] at g
  | .klst _, y, p, q, h, g => by simp [toPy] at h
  | .ins _ _, y, p, q, h, g => by simp [toPy] at h
  | .ref _, y, p, q, h, g => by simp [toPy] at h
  | .fn _, y, p, q, h, g => by simp [toPy] at h
theorem eqDs_eqv : ∀ (x y : List D) {p q : List PyData}, toPys x = some p → toPys y = some q → PyData.eqvAll p q = eqDs x y
  | [], [], p, q, h, g => by simp [toPys] at h g; subst h; subst g; simp [PyData.eqvAll, eqDs]
  | x :: xs, [], p, q, h, g => by
    simp only [toPys] at h g
    split at h <;> simp at h g
    subst h; subst g; simp [PyData.eqvAll, eqDs]
  | [], y :: ys, p, q, h, g => by
    simp only [toPys] at h g
    split at g <;> simp at h g
    subst h; subst g; simp [PyData.eqvAll, eqDs]
  | x :: xs, y :: ys, p, q, h, g => by
    simp only [toPys] at h g
    split at h <;> simp at h
    split at g <;> simp at g
    rename_i e1 e2 _ _ _ _ e3 e4
    subst h; subst g
    simp only [PyData.eqvAll, eqDs, eqD_eqv x y e1 e3, eqDs_eqv xs ys e2 e4]
end
theorem deq_ok {x y : D} (h : okD x = true) (g : okD y = true) : deq x y = some (eqD x y) := by
  unfold okD at h g
  unfold deq
  cases e1 : toPy x with
  | none => rw [e1] at h; cases h
  | some p => cases e2 : toPy y with
    | none => rw [e2] at g; cases g
    | some q =>
      rw [e1] at h; rw [e2] at g
      simp only [okP, decide_eq_true_eq] at h g
      simp only [h, g, and_self, if_true, eqD_eqv x y e1 e2]
theorem Wo_deq {x y : D} {K : Bool → Prop} : Wo (deq x y) K = ((okD x = true ∧ okD y = true) ∧ K (eqD x y)) := by
  by_cases h : okD x = true ∧ okD y = true
  · rw [deq_ok h.1 h.2]; simp [h, Wo]
  · simp only [h, false_and]
    unfold deq
    cases e1 : toPy x with
    | none => simp [Wo]
    | some p => cases e2 : toPy y with
      | none => simp [Wo]
      | some q =>
        simp only [okD, e1, e2, okP, decide_eq_true_eq] at h
        simp only [h, if_false, Wo]
section
variable {K : Bool → Prop}
theorem okD_i {a : Int} : okD (.int a) = true := rfl
theorem okD_s {a : Str} : okD (.str a) = true := rfl
theorem okD_b {a : Bool} : okD (.bl a) = true := rfl
theorem okD_n : okD .non = true := rfl
theorem deq_ii {a b : Int} : Wo (deq (.int a) (.int b)) K = K (decide (a = b)) := by simp only [Wo_deq, okD_i, and_self, true_and, eqD]
theorem deq_ss {a b : Str} : Wo (deq (.str a) (.str b)) K = K (a == b) := by simp only [Wo_deq, okD_s, and_self, true_and, eqD]
theorem deq_nn : Wo (deq .non .non) K = K true := by simp only [Wo_deq, okD_n, and_self, true_and, eqD]
theorem deq_bb {a b : Bool} : Wo (deq (.bl a) (.bl b)) K = K (a == b) := by simp only [Wo_deq, okD_b, and_self, true_and, eqD]
theorem deq_ns {a : Str} : Wo (deq .non (.str a)) K = K false := by simp only [Wo_deq, okD_n, okD_s, and_self, true_and, eqD]
theorem deq_sn {a : Str} : Wo (deq (.str a) .non) K = K false := by simp only [Wo_deq, okD_n, okD_s, and_self, true_and, eqD]
theorem deq_tt {a b : List D} : Wo (deq (.tup a) (.tup b)) K = ((okD (.tup a) = true ∧ okD (.tup b) = true) ∧ K (eqDs a b)) := by simp only [Wo_deq, eqD]
theorem deq_ll {a b : List D} : Wo (deq (.lst a) (.lst b)) K = ((okD (.lst a) = true ∧ okD (.lst b) = true) ∧ K (eqDs a b)) := by simp only [Wo_deq, eqD]
end
mutual
theorem eqD_refl : ∀ (x : D) {p : PyData}, toPy x = some p → eqD x x = true
  | .non, _, _ => rfl
  | .bl b, _, _ => by simp [eqD]
  | .int i, _, _ => by simp [eqD]
  | .str i, _, _ => by simp [eqD]
  | .tup xs, p, h => by
    simp only [toPy, Option.map_eq_some_iff] at h
    obtain ⟨_, h, _⟩ := h
    simp only [eqD]; exact eqDs_refl xs h
  | .lst xs, p, h => by
    simp only [toPy, Option.map_eq_some_iff] at h
    obtain ⟨_, h, _⟩ := h
    simp only [eqD]; exact eqDs_refl xs h
  | .klst _, _, h => by simp [toPy] at h
  | .ins _ _, _, h => by simp [toPy] at h
  | .ref _, _, h => by simp [toPy] at h
  | .fn _, _, h => by simp [toPy] at h
theorem eqDs_refl : ∀ (x : List D) {p : List PyData}, toPys x = some p → eqDs x x = true
  | [], _, _ => rfl
  | x :: xs, p, h => by
    simp only [toPys] at h
    split at h <;> simp at h
    rename_i a as e1 e2
    simp only [eqDs, eqD_refl x e1, eqDs_refl xs e2]; rfl
end
theorem okD_refl {x : D} (h : okD x = true) : eqD x x = true := by
  unfold okD at h
  cases e : toPy x with
  | none => rw [e] at h; cases h
  | some p => exact eqD_refl x e
/-! what can be compared: by depth -/
mutual
def dp : D → Nat
  | .tup xs => dps xs + 1
  | .lst xs => dps xs + 1
  | .klst _ => 1000
  | .ins _ _ => 1000
  | .ref _ => 1000
  | .fn _ => 1000
  | _ => 0
def dps : List D → Nat
  | [] => 0
  | x :: xs => max (dp x) (dps xs)
end
mutual
theorem toPy_dp : ∀ x : D, dp x ≤ 64 → ∃ p, toPy x = some p ∧ p.depth ≤ dp x
  | .non, _ => ⟨_, rfl, by simp [PyData.depth]⟩
  | .bl b, _ => ⟨_, rfl, by simp [PyData.depth]⟩
  | .int b, _ => ⟨_, rfl, by simp [PyData.depth]⟩
  | .str b, _ => ⟨_, rfl, by simp [PyData.depth]⟩
  | .tup xs, h => by
    simp only [dp] at h
    obtain ⟨p, e, g⟩ := toPys_dps xs (by omega)
    exact ⟨.tuple p, by simp [toPy, e], by simp only [PyData.depth, dp]; omega⟩
  | .lst xs, h => by
    simp only [dp] at h
    obtain ⟨p, e, g⟩ := toPys_dps xs (by omega)
    exact ⟨.list p, by simp [toPy, e], by simp only [PyData.depth, dp]; omega⟩
  | .klst _, h => by simp only [dp] at h; omega
  | .ins _ _, h => by simp only [dp] at h; omega
  | .ref _, h => by simp only [dp] at h; omega
  | .fn _, h => by simp only [dp] at h; omega
theorem toPys_dps : ∀ x : List D, dps x ≤ 64 → ∃ p, toPys x = some p ∧ PyData.depthAll p ≤ dps x
  | [], _ => ⟨[], rfl, by simp [PyData.depthAll]⟩
  | x :: xs, h => by
    simp only [dps] at h
    obtain ⟨p, e, g⟩ := toPy_dp x (by omega)
    obtain ⟨ps, e', g'⟩ := toPys_dps xs (by omega)
    exact ⟨p :: ps, by simp only [toPys, e, e'], by simp only [PyData.depthAll, dps]; omega⟩
end
theorem okD_dp {x : D} (h : dp x ≤ 64) : okD x = true := by
  obtain ⟨p, e, g⟩ := toPy_dp x h
  simp only [okD, e, okP, decide_eq_true_eq]; omega
theorem dps_map {α : Type} {f : α → D} {k : Nat} (h : ∀ a, dp (f a) ≤ k) : ∀ xs : List α, dps (xs.map f) ≤ k
  | [] => by simp [dps]
  | x :: xs => by
    have := h x; have := dps_map h xs
    simp only [List.map_cons, dps]; omega
theorem dps_append : ∀ xs ys : List D, dps (xs ++ ys) = max (dps xs) (dps ys)
  | [], ys => by simp [dps]
  | x :: xs, ys => by simp only [List.cons_append, dps, dps_append xs ys]; omega
end Ri

set_option maxRecDepth 100000
/-! Pl, part E: exceptions. -/
namespace Ri
open PySem L2
section
variable {F : Rec} {tb : Tb} {c : CallF} {n : Nat} {E : Xc → S → Prop} {s : S} {sl : List (Option SV)} {hp : List O} {Q : Fl → S → Prop}
theorem s_raise {m : Bool} {k : Nat} {as : List Ri.E} : W ((run tb c (n + 1)).st (.raise_ m k as) s) Q E = W (exDs (run tb c n) as s) (fun ds s => (m = true → fmOk ds = true) ∧ E ⟨k, ds⟩ s) E := by
  show W (bd _ _) Q E = _
  rw [W_bd]
  congr 1; funext ds s
  by_cases h : m = true → fmOk ds = true
  · rw [if_pos h]; exact (propext ⟨fun z => ⟨h, z⟩, fun z => z.2⟩)
  · rw [if_neg h]; exact (propext ⟨fun z => z.elim, fun z => (h z.1).elim⟩)
theorem s_try {b : List Stm} {hs : List Hd} : W ((run tb c (n + 1)).st (.tryR b hs) s) Q E = W (execs (run tb c n) b s) Q (fun x s => W (catchR hs x s) Q E) := by
  show W (tryE hs _) Q E = _
  match execs (run tb c n) b s with
  | none => rfl
  | some (.ok _, _) => rfl
  | some (.error _, _) => rfl
def Wct (hs : List Hd) (x : Xc) (Y : Hd → Prop) (N : Prop) : Prop := match caught x.c hs with
  | some h => Y h
  | none => N
theorem Wct_nil {x : Xc} {Y : Hd → Prop} {N : Prop} : Wct [] x Y N = N := rfl
theorem Wct_cons {h : Hd} {hs : List Hd} {x : Xc} {Y : Hd → Prop} {N : Prop} : Wct (h :: hs) x Y N = Wi (h.cs.contains x.c) (Y h) (Wct hs x Y N) := by
  unfold Wct
  rw [caught]
  cases h.cs.contains x.c <;> rfl
theorem W_catch {hs : List Hd} {x : Xc} : W (catchR hs x ⟨sl, hp⟩) Q E = Wct hs x (fun h => Wo (hxv x.fs h.rv) (fun d => match h.nm with
    | some i => i < sl.length ∧ Wx sl i none (fun sl => Q (.ret (.val d)) ⟨sl, hp⟩)
    | none => Q (.ret (.val d)) ⟨sl, hp⟩)) (E x ⟨sl, hp⟩) := by
  unfold catchR Wct
  cases caught x.c hs with
  | none => rfl
  | some h =>
    dsimp only
    cases hxv x.fs h.rv with
    | none => rfl
    | some d =>
      dsimp only [Wo]
      cases h.nm with
      | none => rfl
      | some i =>
        dsimp only
        rw [W_ite]; rfl
section
variable {Q : List D → S → Prop} {t : Tg} {ifs : Option Ri.E} {elt : Ri.E} {own : List Nat} {acc ds : List D} {d : D} {k : Ik}
theorem compXL_nil : W (compXL F t ifs elt own [] acc s) Q E = Q acc s := rfl
theorem compXL_cons : W (compXL F t ifs elt own (d :: ds) acc s) Q E = W (asgT F t d s) (fun _ s => W (ifR F ifs s) (fun b s => Wi b (W (F.ex elt s) (fun r s => W (freeze r s) (fun x s => acc.length < LIM ∧ Ws s (fun sl hp => Wwp sl own (fun sl => W (compXL F t ifs elt own ds (acc ++ [x]) ⟨sl, hp⟩) Q E))) NoE) E) (Ws s (fun sl hp => Wwp sl own (fun sl => W (compXL F t ifs elt own ds acc ⟨sl, hp⟩) Q E)))) NoE) NoE := by
  rw [compXL]
  simp only [W_bo, W_bd, W_bif, W_ite]
  rfl
theorem W_compXR {Q : R → S → Prop} : W (compXR F t k ifs elt own ds ⟨sl, hp⟩) Q E = Wo (walk k ds) (fun xs => Wpl sl own (Wwp sl own (fun wl => W (compXL F t ifs elt own xs [] ⟨wl, hp⟩) (fun acc s' => Ws s' (fun sl' hp' => Wun sl sl' own (fun sl' => Q (.own (.lst acc)) ⟨sl', hp'⟩))) (fun x s' => Ws s' (fun sl' hp' => Wwp sl' own (fun sl' => Wun sl sl' own (fun sl' => E x ⟨sl', hp'⟩))))))) := by
  unfold compXR
  cases walk k ds with
  | none => rfl
  | some xs =>
    simp only [Wo, Wpl, W_ite, Wwp]
    congr 1
    match compXL F t ifs elt own xs [] ⟨wipeS sl own, hp⟩ with
    | none => rfl
    | some (.ok _, _) => rfl
    | some (.error _, _) => rfl
theorem x_compX {Q : R → S → Prop} {as : List Ri.E} : W ((run tb c (n + 1)).ex (.compX t k as ifs elt own) s) Q E = W (exIs (run tb c n) as s) (fun ds s => W (compXR (run tb c n) t k ifs elt own ds s) Q E) E := by
  show W (bd _ _) Q E = _
  simp only [W_bd]
end
end
end Ri

set_option maxRecDepth 100000
set_option maxHeartbeats 0
namespace Pg
open PySem Ri
def B_is_number : List Stm := [.ret (some (.and (.bl .isint [(.slot 0)]) (.and (.un .not_ (.bl .isbool [(.slot 0)])) (.chain .le .le (.slot 1) (.slot 0) (.slot 2)))))]
def B_is_word : List Stm := [.if_ (.or (.un .not_ (.bl .isstr [(.slot 0)])) (.un .not_ (.chain .le .le (.cst (.int 1)) (.bl .len [(.slot 0)]) (.cst (.int 8))))) [.ret (some (.cst (.bl false)))] [],
    .ret (some (.bl .all [(.comp (.nm 1) .seq [(.slot 0)] none (.bin .in_ (.slot 1) (.cst (.str "abcdefghijklmnopqrstuvwxyz"))) [1])]))]
def B_is_door : List Stm := [.if_ (.or (.un .not_ (.bl .istuple [(.slot 0)])) (.bin .ne (.bl .len [(.slot 0)]) (.cst (.int 2)))) [.ret (some (.cst (.bl false)))] [],
    .ret (some (.and (.call 0 [(.bin .ix (.slot 0) (.cst (.int 0))), (.cst (.int 1)), (.cst (.int 99))]) (.call 0 [(.bin .ix (.slot 0) (.cst (.int 1))), (.cst (.int 1)), (.cst (.int 4))])))]
def B_are_doors_C0 : Ri.E := (.call 2 [(.slot 1)])
theorem V_B_are_doors_C0 {F : Rec} {s : S} {Q : R → S → Prop} {E : Xc → S → Prop} : W (F.ex B_are_doors_C0 s) Q E = W (F.ex (.call 2 [(.slot 1)]) s) Q E := rfl
def B_are_doors : List Stm := [.if_ (.or (.un .not_ (.chain .le .le (.cst (.int 1)) (.bl .len [(.slot 0)]) (.cst (.int 4)))) (.un .not_ (.bl .all [(.comp (.nm 1) .seq [(.slot 0)] none B_are_doors_C0 [1])]))) [.ret (some (.cst (.bl false)))] [],
    .ret (some (.bin .le (.bl .sum [(.comp (.tp [(.nm 2), (.nm 3)]) .seq [(.slot 0)] none (.slot 3) [2, 3])]) (.cst (.int 6))))]
def B_are_crates_C0 : Ri.E := (.call 1 [(.slot 4)])
theorem V_B_are_crates_C0 {F : Rec} {s : S} {Q : R → S → Prop} {E : Xc → S → Prop} : W (F.ex B_are_crates_C0 s) Q E = W (F.ex (.call 1 [(.slot 4)]) s) Q E := rfl
def B_are_crates : List Stm := [.if_ (.or (.un .not_ (.chain .le .le (.cst (.int 1)) (.bl .len [(.slot 0)]) (.bl .min2 [(.cst (.int 5)), (.slot 1)]))) (.un .not_ (.bl .all [(.comp (.nm 4) .seq [(.slot 0)] none B_are_crates_C0 [4])]))) [.ret (some (.cst (.bl false)))] [],
    .ret (some (.bl .all [(.comp (.tp [(.nm 2), (.nm 3)]) .zip [(.slot 0), (.slice (.slot 0) (some (.cst (.int 1))) none)] none (.bin .lt (.slot 2) (.slot 3)) [2, 3])]))]
def B_Store___init___L1 : List Stm := [.ex (.mw .extend (.slot 3) [(.bin .mul (.lst [(false, (.slot 4))]) (.slot 6))])]
theorem V_B_Store___init___L1 {F : Rec} {s : S} {Q : Fl → S → Prop} {E : Xc → S → Prop} : W (execs F B_Store___init___L1 s) Q E = W (execs F [.ex (.mw .extend (.slot 3) [(.bin .mul (.lst [(false, (.slot 4))]) (.slot 6))])] s) Q E := rfl
def B_Store___init__ : List Stm := [.if_ (.un .not_ (.call 3 [(.slot 1)])) [.raise_ true 1 [(.cst (.str "doors"))]] [],
    .if_ (.un .not_ (.call 4 [(.slot 2), (.bl .sum [(.comp (.tp [(.nm 5), (.nm 6)]) .seq [(.slot 1)] none (.slot 6) [5, 6])])])) [.raise_ true 1 [(.cst (.str "crates"))]] [],
    .asg (.fld 0 1 (.slot 0)) (.tup [(false, (.slot 1)), (false, (.slot 2))]),
    .asg (.nm 3) (.lst []),
    .for_ (.tp [(.nm 4), (.tp [(.nm 5), (.nm 6)])]) .enum [(.slot 1)] B_Store___init___L1,
    .asg (.fld 0 0 (.slot 0)) (.bl .tuple [(.slot 3)])]
def B_Store_doors : List Stm := [.ret (some (.bin .ix (.fld 0 1 (.slot 0)) (.cst (.int 0))))]
def B_Store_crates : List Stm := [.ret (some (.bin .ix (.fld 0 1 (.slot 0)) (.cst (.int 1))))]
def B_Store___len__ : List Stm := [.ret (some (.bl .len [(.bin .ix (.fld 0 1 (.slot 0)) (.cst (.int 0)))]))]
def B_Store___eq__ : List Stm := [.ret (some (.and (.isi 0 (.slot 1)) (.bin .eq (.fld 0 1 (.slot 0)) (.tup [(false, (.prop 0 6 (.slot 1))), (false, (.prop 0 7 (.slot 1)))]))))]
def B_checksum_L0 : List Stm := [.asg (.nm 1) (.bin .mod (.bl .int [(.bin .add (.bin .mul (.cst (.int 11)) (.slot 1)) (.slot 2))]) (.cst (.int 251)))]
theorem V_B_checksum_L0 {F : Rec} {s : S} {Q : Fl → S → Prop} {E : Xc → S → Prop} : W (execs F B_checksum_L0 s) Q E = W (execs F [.asg (.nm 1) (.bin .mod (.bl .int [(.bin .add (.bin .mul (.cst (.int 11)) (.slot 1)) (.slot 2))]) (.cst (.int 251)))] s) Q E := rfl
def B_checksum : List Stm := [.asg (.nm 1) (.cst (.int 4)),
    .for_ (.nm 2) .seq [(.slot 0)] B_checksum_L0,
    .ret (some (.slot 1))]
def B_encode_store_L0 : List Stm := [.ex (.mw .extend (.slot 1) [(.lst [(false, (.slot 3)), (false, (.slot 4))])])]
theorem V_B_encode_store_L0 {F : Rec} {s : S} {Q : Fl → S → Prop} {E : Xc → S → Prop} : W (execs F B_encode_store_L0 s) Q E = W (execs F [.ex (.mw .extend (.slot 1) [(.lst [(false, (.slot 3)), (false, (.slot 4))])])] s) Q E := rfl
def B_encode_store_L1 : List Stm := [.ex (.mw .extend (.slot 1) [(.lst [(false, (.bl .len [(.slot 2)])), (true, (.comp (.nm 5) .seq [(.slot 2)] none (.bin .add (.mt .strIndex (.cst (.str "abcdefghijklmnopqrstuvwxyz")) [(.slot 5)]) (.cst (.int 1))) [5]))])])]
theorem V_B_encode_store_L1 {F : Rec} {s : S} {Q : Fl → S → Prop} {E : Xc → S → Prop} : W (execs F B_encode_store_L1 s) Q E = W (execs F [.ex (.mw .extend (.slot 1) [(.lst [(false, (.bl .len [(.slot 2)])), (true, (.comp (.nm 5) .seq [(.slot 2)] none (.bin .add (.mt .strIndex (.cst (.str "abcdefghijklmnopqrstuvwxyz")) [(.slot 5)]) (.cst (.int 1))) [5]))])])] s) Q E := rfl
def B_encode_store : List Stm := [.asg (.nm 1) (.lst [(false, (.cst (.int 71))), (false, (.ulen 0 8 (.slot 0)))]),
    .for_ (.tp [(.nm 3), (.nm 4)]) .seq [(.prop 0 6 (.slot 0))] B_encode_store_L0,
    .ex (.mw .append (.slot 1) [(.bl .len [(.prop 0 7 (.slot 0))])]),
    .for_ (.nm 2) .seq [(.prop 0 7 (.slot 0))] B_encode_store_L1,
    .ret (some (.lst [(true, (.slot 1)), (false, (.call 10 [(.slot 1)]))]))]
def B_Reader___init__ : List Stm := [.asg (.fld 1 0 (.slot 0)) (.slot 1),
    .asg (.fld 1 1 (.slot 0)) (.cst (.int 0))]
def B_Reader_item : List Stm := [.if_ (.or (.bin .ge (.fld 1 1 (.slot 0)) (.bl .len [(.fld 1 0 (.slot 0))])) (.un .not_ (.call 0 [(.bin .ix (.fld 1 0 (.slot 0)) (.fld 1 1 (.slot 0))), (.slot 1), (.slot 2)]))) [.raise_ false 2 [(.fld 1 1 (.slot 0))]] [],
    .aug .add (.fld 1 1 (.slot 0)) (.cst (.int 1)),
    .ret (some (.bin .ix (.fld 1 0 (.slot 0)) (.bin .sub (.fld 1 1 (.slot 0)) (.cst (.int 1)))))]
def B_Reader_read_door : List Stm := [.asg (.nm 1) (.mcall 1 13 (.slot 0) [(.cst (.int 1)), (.cst (.int 99))]),
    .ret (some (.tup [(false, (.slot 1)), (false, (.mcall 1 13 (.slot 0) [(.cst (.int 1)), (.cst (.int 4))]))]))]
def B_Reader_read_crate_C0 : Ri.E := (.bin .ix (.cst (.str "abcdefghijklmnopqrstuvwxyz")) (.bin .sub (.mcall 1 13 (.slot 0) [(.cst (.int 1)), (.bl .len [(.cst (.str "abcdefghijklmnopqrstuvwxyz"))])]) (.cst (.int 1))))
theorem V_B_Reader_read_crate_C0 {F : Rec} {s : S} {Q : R → S → Prop} {E : Xc → S → Prop} : W (F.ex B_Reader_read_crate_C0 s) Q E = W (F.ex (.bin .ix (.cst (.str "abcdefghijklmnopqrstuvwxyz")) (.bin .sub (.mcall 1 13 (.slot 0) [(.cst (.int 1)), (.bl .len [(.cst (.str "abcdefghijklmnopqrstuvwxyz"))])]) (.cst (.int 1)))) s) Q E := rfl
def B_Reader_read_crate : List Stm := [.asg (.nm 1) (.mcall 1 13 (.slot 0) [(.cst (.int 1)), (.cst (.int 8))]),
    .ret (some (.mt .join (.cst (.str "")) [(.compX (.nm 2) .range1 [(.slot 1)] none B_Reader_read_crate_C0 [2])]))]
def B_Reader_finish : List Stm := [.asg (.nm 1) (.call 10 [(.slice (.fld 1 0 (.slot 0)) none (some (.fld 1 1 (.slot 0))))]),
    .ex (.mcall 1 13 (.slot 0) [(.slot 1), (.slot 1)]),
    .if_ (.bin .lt (.fld 1 1 (.slot 0)) (.bl .len [(.fld 1 0 (.slot 0))])) [.raise_ false 2 [(.fld 1 1 (.slot 0))]] []]
def B_decode_store_C0 : Ri.E := (.mcall 1 14 (.slot 1) [])
theorem V_B_decode_store_C0 {F : Rec} {s : S} {Q : R → S → Prop} {E : Xc → S → Prop} : W (F.ex B_decode_store_C0 s) Q E = W (F.ex (.mcall 1 14 (.slot 1) []) s) Q E := rfl
def B_decode_store_C1 : Ri.E := (.mcall 1 15 (.slot 1) [])
theorem V_B_decode_store_C1 {F : Rec} {s : S} {Q : R → S → Prop} {E : Xc → S → Prop} : W (F.ex B_decode_store_C1 s) Q E = W (F.ex (.mcall 1 15 (.slot 1) []) s) Q E := rfl
def B_decode_store : List Stm := [.asg (.nm 1) (.new 1 12 [(.fz (.slot 0))]),
    .ex (.mcall 1 13 (.slot 1) [(.cst (.int 71)), (.cst (.int 71))]),
    .asg (.nm 2) (.compX (.nm 4) .range1 [(.mcall 1 13 (.slot 1) [(.cst (.int 1)), (.cst (.int 4))])] none B_decode_store_C0 [4]),
    .asg (.nm 3) (.compX (.nm 4) .range1 [(.mcall 1 13 (.slot 1) [(.cst (.int 1)), (.cst (.int 5))])] none B_decode_store_C1 [4]),
    .ex (.mcall 1 16 (.slot 1) []),
    .ret (some (.frz 0 5 [(.bl .tuple [(.slot 2)]), (.bl .tuple [(.slot 3)])]))]
def B__law_taken : List Stm := [.if_ (.bin .gt (.bin .ix (.slot 0) (.cst (.int 3))) (.cst (.int 0))) [.asg (.nm 3) (.bin .mod (.bl .int [(.bin .ix (.slot 0) (.cst (.int 3)))]) (.slot 1)),
    .asg (.sub (.slot 0) (.cst (.int 3))) (.bin .fdiv (.bin .ix (.slot 0) (.cst (.int 3))) (.slot 1)),
    .ret (some (.slot 3))] [],
    .asg (.sub (.slot 0) (.cst (.int 1))) (.bin .add (.bin .ix (.slot 0) (.cst (.int 1))) (.cst (.int 1))),
    .if_ (.bin .gt (.bin .ix (.slot 0) (.cst (.int 1))) (.bl .len [(.bin .ix (.slot 0) (.cst (.int 0)))])) [.asg (.sub (.slot 0) (.cst (.int 2))) (.bin .mod (.bl .int [(.bin .add (.bin .mul (.bin .ix (.slot 0) (.cst (.int 2))) (.cst (.int 48271))) (.cst (.int 11)))]) (.cst (.int 2147483647))),
    .ret (some (.bin .mod (.bl .int [(.bin .fdiv (.bin .ix (.slot 0) (.cst (.int 2))) (.cst (.int 7)))]) (.slot 1)))] [],
    .asg (.nm 2) (.bin .ix (.bin .ix (.slot 0) (.cst (.int 0))) (.bin .sub (.bin .ix (.slot 0) (.cst (.int 1))) (.cst (.int 1)))),
    .asg (.sub (.slot 0) (.cst (.int 2))) (.bin .mod (.bl .int [(.bin .add (.bin .add (.bin .mul (.bin .ix (.slot 0) (.cst (.int 2))) (.cst (.int 48271))) (.slot 2)) (.cst (.int 11)))]) (.cst (.int 2147483647))),
    .if_ (.bin .ge (.slot 2) (.bin .pow (.cst (.int 10)) (.cst (.int 18)))) [.asg (.sub (.slot 0) (.cst (.int 3))) (.bin .fdiv (.slot 2) (.slot 1))] [],
    .ret (some (.bin .mod (.bl .int [(.slot 2)]) (.slot 1)))]
def B_is_count : List Stm := [.ret (some (.and (.chain .le .le (.cst (.int 1)) (.bl .len [(.slot 0)]) (.cst (.int 2))) (.and (.bl .all [(.comp (.nm 1) .seq [(.slot 0)] none (.bin .in_ (.slot 1) (.cst (.str "0123456789"))) [1])]) (.bin .ne (.bin .ix (.slot 0) (.cst (.int 0))) (.cst (.str "0"))))))]
def B_Row___init__ : List Stm := [.asg (.fld 2 0 (.slot 0)) (.slot 1),
    .asg (.fld 2 1 (.slot 0)) (.mt .split (.slot 2) [(.cst (.str " "))]),
    .asg (.fld 2 2 (.slot 0)) (.cst (.int 0))]
def B_Row_has_more : List Stm := [.ret (some (.bin .lt (.fld 2 2 (.slot 0)) (.bl .len [(.fld 2 1 (.slot 0))])))]
def B_Row_fail : List Stm := [.raise_ false 3 [(.fld 2 0 (.slot 0)), (.fld 2 2 (.slot 0))]]
def B_Row_next_word : List Stm := [.if_ (.or (.un .not_ (.mcall 2 21 (.slot 0) [])) (.un .not_ (.act 1 [(.bin .ix (.fld 2 1 (.slot 0)) (.fld 2 2 (.slot 0)))]))) [.ex (.mcall 2 22 (.slot 0) [])] [],
    .aug .add (.fld 2 2 (.slot 0)) (.cst (.int 1)),
    .ret (some (.bin .ix (.fld 2 1 (.slot 0)) (.bin .sub (.fld 2 2 (.slot 0)) (.cst (.int 1)))))]
def Q_B_Row_read_crates : Str := ("Row.read_crates" ++ ".<locals>.") ++ "<lambda>"
def B_Row_read_crates_L0 : List Stm := [.if_ (.bin .eq (.bl .len [(.slot 1)]) (.cst (.int 5))) [.ex (.mcall 2 22 (.slot 0) [])] [],
    .asg (.nm 2) (.ite (.bin .ne (.slot 1) (.lst [])) (.bin .ix (.slot 1) (.un .neg (.cst (.int 1)))) (.cst (.str ""))),
    .ex (.mw .append (.slot 1) [(.nextw 0 Q_B_Row_read_crates 2 23 (.slot 0) 3 (.and (.call 1 [(.slot 3)]) (.bin .gt (.slot 3) (.slot 2))))])]
theorem V_B_Row_read_crates_L0 {F : Rec} {s : S} {Q : Fl → S → Prop} {E : Xc → S → Prop} : W (execs F B_Row_read_crates_L0 s) Q E = W (execs F [.if_ (.bin .eq (.bl .len [(.slot 1)]) (.cst (.int 5))) [.ex (.mcall 2 22 (.slot 0) [])] [],
    .asg (.nm 2) (.ite (.bin .ne (.slot 1) (.lst [])) (.bin .ix (.slot 1) (.un .neg (.cst (.int 1)))) (.cst (.str ""))),
    .ex (.mw .append (.slot 1) [(.nextw 0 Q_B_Row_read_crates 2 23 (.slot 0) 3 (.and (.call 1 [(.slot 3)]) (.bin .gt (.slot 3) (.slot 2))))])] s) Q E := rfl
def B_Row_read_crates : List Stm := [.asg (.nm 1) (.lst []),
    .while_ (.or (.bin .eq (.slot 1) (.lst [])) (.mcall 2 21 (.slot 0) [])) B_Row_read_crates_L0,
    .ret (some (.bl .tuple [(.slot 1)]))]
def B_heads_at : List Stm := [.if_ (.bin .ne (.slot 1) (.tup [])) [.ret (some (.tup []))] [],
    .ret (some (.bin .add (.ite (.bin .lt (.bl .len [(.slot 0)]) (.cst (.int 4))) (.tup [(false, (.cst (.str "door")))]) (.tup [])) (.ite (.bin .ne (.slot 0) (.lst [])) (.tup [(false, (.cst (.str "crates")))]) (.tup []))))]
def Q_B_parse_store : Str := ("parse_store" ++ ".<locals>.") ++ "<lambda>"
def B_parse_store_L0 : List Stm := [.asg (.nm 6) (.new 2 20 [(.fz (.slot 4)), (.fz (.slot 5))]),
    .asg (.nm 7) (.call 25 [(.slot 2), (.slot 3)]),
    .if_ (.bin .eq (.nextw 1 Q_B_parse_store 2 23 (.slot 6) 9 (.bin .in_ (.slot 9) (.slot 7))) (.cst (.str "crates"))) [.asg (.nm 3) (.mcall 2 24 (.slot 6) [])] [.asg (.nm 8) (.bl .int [(.nextf 2 23 (.slot 6) 19)]),
    .ex (.mw .append (.slot 2) [(.tup [(false, (.slot 8)), (false, (.bl .int [(.nextf 2 23 (.slot 6) 19)]))])]),
    .if_ (.mcall 2 21 (.slot 6) []) [.ex (.mcall 2 22 (.slot 6) [])] []]]
theorem V_B_parse_store_L0 {F : Rec} {s : S} {Q : Fl → S → Prop} {E : Xc → S → Prop} : W (execs F B_parse_store_L0 s) Q E = W (execs F [.asg (.nm 6) (.new 2 20 [(.fz (.slot 4)), (.fz (.slot 5))]),
    .asg (.nm 7) (.call 25 [(.slot 2), (.slot 3)]),
    .if_ (.bin .eq (.nextw 1 Q_B_parse_store 2 23 (.slot 6) 9 (.bin .in_ (.slot 9) (.slot 7))) (.cst (.str "crates"))) [.asg (.nm 3) (.mcall 2 24 (.slot 6) [])] [.asg (.nm 8) (.bl .int [(.nextf 2 23 (.slot 6) 19)]),
    .ex (.mw .append (.slot 2) [(.tup [(false, (.slot 8)), (false, (.bl .int [(.nextf 2 23 (.slot 6) 19)]))])]),
    .if_ (.mcall 2 21 (.slot 6) []) [.ex (.mcall 2 22 (.slot 6) [])] []]] s) Q E := rfl
def B_parse_store : List Stm := [.asg2 2 3 (.lst []) (.tup []),
    .asg (.nm 1) (.mt .split (.slot 0) [(.cst (.str "\n"))]),
    .for_ (.tp [(.nm 4), (.nm 5)]) .enum [(.slot 1)] B_parse_store_L0,
    .if_ (.bin .eq (.slot 3) (.tup [])) [.raise_ false 3 [(.bl .len [(.slot 1)]), (.cst (.int 0))]] [],
    .ret (some (.frz 0 5 [(.bl .tuple [(.slot 2)]), (.fz (.slot 3))]))]
structure Has (tb : Tb) : Prop where
  d0 : tb.df 0 = some ⟨3, 3, B_is_number⟩
  d1 : tb.df 1 = some ⟨1, 2, B_is_word⟩
  d2 : tb.df 2 = some ⟨1, 1, B_is_door⟩
  d3 : tb.df 3 = some ⟨1, 4, B_are_doors⟩
  d4 : tb.df 4 = some ⟨2, 5, B_are_crates⟩
  d5 : tb.df 5 = some ⟨3, 7, B_Store___init__⟩
  d6 : tb.df 6 = some ⟨1, 1, B_Store_doors⟩
  d7 : tb.df 7 = some ⟨1, 1, B_Store_crates⟩
  d8 : tb.df 8 = some ⟨1, 1, B_Store___len__⟩
  d9 : tb.df 9 = some ⟨2, 2, B_Store___eq__⟩
  d10 : tb.df 10 = some ⟨1, 3, B_checksum⟩
  d11 : tb.df 11 = some ⟨1, 6, B_encode_store⟩
  d12 : tb.df 12 = some ⟨2, 2, B_Reader___init__⟩
  d13 : tb.df 13 = some ⟨3, 3, B_Reader_item⟩
  d14 : tb.df 14 = some ⟨1, 2, B_Reader_read_door⟩
  d15 : tb.df 15 = some ⟨1, 3, B_Reader_read_crate⟩
  d16 : tb.df 16 = some ⟨1, 2, B_Reader_finish⟩
  d17 : tb.df 17 = some ⟨1, 5, B_decode_store⟩
  d18 : tb.df 18 = some ⟨2, 4, B__law_taken⟩
  d19 : tb.df 19 = some ⟨1, 2, B_is_count⟩
  d20 : tb.df 20 = some ⟨3, 3, B_Row___init__⟩
  d21 : tb.df 21 = some ⟨1, 1, B_Row_has_more⟩
  d22 : tb.df 22 = some ⟨1, 1, B_Row_fail⟩
  d23 : tb.df 23 = some ⟨2, 2, B_Row_next_word⟩
  d24 : tb.df 24 = some ⟨1, 4, B_Row_read_crates⟩
  d25 : tb.df 25 = some ⟨2, 2, B_heads_at⟩
  d26 : tb.df 26 = some ⟨1, 10, B_parse_store⟩
  c0 : tb.cl 0 = some 2
  c1 : tb.cl 1 = some 2
  c2 : tb.cl 2 = some 3
section
variable {tb : Tb}
theorem U_B_is_number (T : Has tb) {d : Nat} {v0 : SV} {v1 : SV} {v2 : SV} {hp : List O} {Q : R → List O → Prop} {E : Xc → List O → Prop} : Wc (callD tb (d + 1) 0 [v0, v1, v2] hp) Q E = W (execs (run tb (callD tb d) (FU + 100)) [.ret (some (.and (.bl .isint [(.slot 0)]) (.and (.un .not_ (.bl .isbool [(.slot 0)])) (.chain .le .le (.slot 1) (.slot 0) (.slot 2)))))] ⟨[some v0, some v1, some v2], hp⟩) (fun fl s => Ws s (fun _ hp' => Wre fl (fun r => Q r (gc hp.length r hp')))) (fun x s => Ws s (fun _ hp => E x hp)) := Wc_call (body := B_is_number) T.d0 rfl rfl
theorem U_B_is_word (T : Has tb) {d : Nat} {v0 : SV} {hp : List O} {Q : R → List O → Prop} {E : Xc → List O → Prop} : Wc (callD tb (d + 1) 1 [v0] hp) Q E = W (execs (run tb (callD tb d) (FU + 100)) [.if_ (.or (.un .not_ (.bl .isstr [(.slot 0)])) (.un .not_ (.chain .le .le (.cst (.int 1)) (.bl .len [(.slot 0)]) (.cst (.int 8))))) [.ret (some (.cst (.bl false)))] [],
    .ret (some (.bl .all [(.comp (.nm 1) .seq [(.slot 0)] none (.bin .in_ (.slot 1) (.cst (.str "abcdefghijklmnopqrstuvwxyz"))) [1])]))] ⟨[some v0, none], hp⟩) (fun fl s => Ws s (fun _ hp' => Wre fl (fun r => Q r (gc hp.length r hp')))) (fun x s => Ws s (fun _ hp => E x hp)) := Wc_call (body := B_is_word) T.d1 rfl rfl
theorem U_B_is_door (T : Has tb) {d : Nat} {v0 : SV} {hp : List O} {Q : R → List O → Prop} {E : Xc → List O → Prop} : Wc (callD tb (d + 1) 2 [v0] hp) Q E = W (execs (run tb (callD tb d) (FU + 100)) [.if_ (.or (.un .not_ (.bl .istuple [(.slot 0)])) (.bin .ne (.bl .len [(.slot 0)]) (.cst (.int 2)))) [.ret (some (.cst (.bl false)))] [],
    .ret (some (.and (.call 0 [(.bin .ix (.slot 0) (.cst (.int 0))), (.cst (.int 1)), (.cst (.int 99))]) (.call 0 [(.bin .ix (.slot 0) (.cst (.int 1))), (.cst (.int 1)), (.cst (.int 4))])))] ⟨[some v0], hp⟩) (fun fl s => Ws s (fun _ hp' => Wre fl (fun r => Q r (gc hp.length r hp')))) (fun x s => Ws s (fun _ hp => E x hp)) := Wc_call (body := B_is_door) T.d2 rfl rfl
theorem U_B_are_doors (T : Has tb) {d : Nat} {v0 : SV} {hp : List O} {Q : R → List O → Prop} {E : Xc → List O → Prop} : Wc (callD tb (d + 1) 3 [v0] hp) Q E = W (execs (run tb (callD tb d) (FU + 100)) [.if_ (.or (.un .not_ (.chain .le .le (.cst (.int 1)) (.bl .len [(.slot 0)]) (.cst (.int 4)))) (.un .not_ (.bl .all [(.comp (.nm 1) .seq [(.slot 0)] none B_are_doors_C0 [1])]))) [.ret (some (.cst (.bl false)))] [],
    .ret (some (.bin .le (.bl .sum [(.comp (.tp [(.nm 2), (.nm 3)]) .seq [(.slot 0)] none (.slot 3) [2, 3])]) (.cst (.int 6))))] ⟨[some v0, none, none, none], hp⟩) (fun fl s => Ws s (fun _ hp' => Wre fl (fun r => Q r (gc hp.length r hp')))) (fun x s => Ws s (fun _ hp => E x hp)) := Wc_call (body := B_are_doors) T.d3 rfl rfl
theorem U_B_are_crates (T : Has tb) {d : Nat} {v0 : SV} {v1 : SV} {hp : List O} {Q : R → List O → Prop} {E : Xc → List O → Prop} : Wc (callD tb (d + 1) 4 [v0, v1] hp) Q E = W (execs (run tb (callD tb d) (FU + 100)) [.if_ (.or (.un .not_ (.chain .le .le (.cst (.int 1)) (.bl .len [(.slot 0)]) (.bl .min2 [(.cst (.int 5)), (.slot 1)]))) (.un .not_ (.bl .all [(.comp (.nm 4) .seq [(.slot 0)] none B_are_crates_C0 [4])]))) [.ret (some (.cst (.bl false)))] [],
    .ret (some (.bl .all [(.comp (.tp [(.nm 2), (.nm 3)]) .zip [(.slot 0), (.slice (.slot 0) (some (.cst (.int 1))) none)] none (.bin .lt (.slot 2) (.slot 3)) [2, 3])]))] ⟨[some v0, some v1, none, none, none], hp⟩) (fun fl s => Ws s (fun _ hp' => Wre fl (fun r => Q r (gc hp.length r hp')))) (fun x s => Ws s (fun _ hp => E x hp)) := Wc_call (body := B_are_crates) T.d4 rfl rfl
theorem U_B_Store___init__ (T : Has tb) {d : Nat} {v0 : SV} {v1 : SV} {v2 : SV} {hp : List O} {Q : R → List O → Prop} {E : Xc → List O → Prop} : Wc (callD tb (d + 1) 5 [v0, v1, v2] hp) Q E = W (execs (run tb (callD tb d) (FU + 100)) [.if_ (.un .not_ (.call 3 [(.slot 1)])) [.raise_ true 1 [(.cst (.str "doors"))]] [],
    .if_ (.un .not_ (.call 4 [(.slot 2), (.bl .sum [(.comp (.tp [(.nm 5), (.nm 6)]) .seq [(.slot 1)] none (.slot 6) [5, 6])])])) [.raise_ true 1 [(.cst (.str "crates"))]] [],
    .asg (.fld 0 1 (.slot 0)) (.tup [(false, (.slot 1)), (false, (.slot 2))]),
    .asg (.nm 3) (.lst []),
    .for_ (.tp [(.nm 4), (.tp [(.nm 5), (.nm 6)])]) .enum [(.slot 1)] B_Store___init___L1,
    .asg (.fld 0 0 (.slot 0)) (.bl .tuple [(.slot 3)])] ⟨[some v0, some v1, some v2, none, none, none, none], hp⟩) (fun fl s => Ws s (fun _ hp' => Wre fl (fun r => Q r (gc hp.length r hp')))) (fun x s => Ws s (fun _ hp => E x hp)) := Wc_call (body := B_Store___init__) T.d5 rfl rfl
theorem U_B_Store_doors (T : Has tb) {d : Nat} {v0 : SV} {hp : List O} {Q : R → List O → Prop} {E : Xc → List O → Prop} : Wc (callD tb (d + 1) 6 [v0] hp) Q E = W (execs (run tb (callD tb d) (FU + 100)) [.ret (some (.bin .ix (.fld 0 1 (.slot 0)) (.cst (.int 0))))] ⟨[some v0], hp⟩) (fun fl s => Ws s (fun _ hp' => Wre fl (fun r => Q r (gc hp.length r hp')))) (fun x s => Ws s (fun _ hp => E x hp)) := Wc_call (body := B_Store_doors) T.d6 rfl rfl
theorem U_B_Store_crates (T : Has tb) {d : Nat} {v0 : SV} {hp : List O} {Q : R → List O → Prop} {E : Xc → List O → Prop} : Wc (callD tb (d + 1) 7 [v0] hp) Q E = W (execs (run tb (callD tb d) (FU + 100)) [.ret (some (.bin .ix (.fld 0 1 (.slot 0)) (.cst (.int 1))))] ⟨[some v0], hp⟩) (fun fl s => Ws s (fun _ hp' => Wre fl (fun r => Q r (gc hp.length r hp')))) (fun x s => Ws s (fun _ hp => E x hp)) := Wc_call (body := B_Store_crates) T.d7 rfl rfl
theorem U_B_Store___len__ (T : Has tb) {d : Nat} {v0 : SV} {hp : List O} {Q : R → List O → Prop} {E : Xc → List O → Prop} : Wc (callD tb (d + 1) 8 [v0] hp) Q E = W (execs (run tb (callD tb d) (FU + 100)) [.ret (some (.bl .len [(.bin .ix (.fld 0 1 (.slot 0)) (.cst (.int 0)))]))] ⟨[some v0], hp⟩) (fun fl s => Ws s (fun _ hp' => Wre fl (fun r => Q r (gc hp.length r hp')))) (fun x s => Ws s (fun _ hp => E x hp)) := Wc_call (body := B_Store___len__) T.d8 rfl rfl
theorem U_B_Store___eq__ (T : Has tb) {d : Nat} {v0 : SV} {v1 : SV} {hp : List O} {Q : R → List O → Prop} {E : Xc → List O → Prop} : Wc (callD tb (d + 1) 9 [v0, v1] hp) Q E = W (execs (run tb (callD tb d) (FU + 100)) [.ret (some (.and (.isi 0 (.slot 1)) (.bin .eq (.fld 0 1 (.slot 0)) (.tup [(false, (.prop 0 6 (.slot 1))), (false, (.prop 0 7 (.slot 1)))]))))] ⟨[some v0, some v1], hp⟩) (fun fl s => Ws s (fun _ hp' => Wre fl (fun r => Q r (gc hp.length r hp')))) (fun x s => Ws s (fun _ hp => E x hp)) := Wc_call (body := B_Store___eq__) T.d9 rfl rfl
theorem U_B_checksum (T : Has tb) {d : Nat} {v0 : SV} {hp : List O} {Q : R → List O → Prop} {E : Xc → List O → Prop} : Wc (callD tb (d + 1) 10 [v0] hp) Q E = W (execs (run tb (callD tb d) (FU + 100)) [.asg (.nm 1) (.cst (.int 4)),
    .for_ (.nm 2) .seq [(.slot 0)] B_checksum_L0,
    .ret (some (.slot 1))] ⟨[some v0, none, none], hp⟩) (fun fl s => Ws s (fun _ hp' => Wre fl (fun r => Q r (gc hp.length r hp')))) (fun x s => Ws s (fun _ hp => E x hp)) := Wc_call (body := B_checksum) T.d10 rfl rfl
theorem U_B_encode_store (T : Has tb) {d : Nat} {v0 : SV} {hp : List O} {Q : R → List O → Prop} {E : Xc → List O → Prop} : Wc (callD tb (d + 1) 11 [v0] hp) Q E = W (execs (run tb (callD tb d) (FU + 100)) [.asg (.nm 1) (.lst [(false, (.cst (.int 71))), (false, (.ulen 0 8 (.slot 0)))]),
    .for_ (.tp [(.nm 3), (.nm 4)]) .seq [(.prop 0 6 (.slot 0))] B_encode_store_L0,
    .ex (.mw .append (.slot 1) [(.bl .len [(.prop 0 7 (.slot 0))])]),
    .for_ (.nm 2) .seq [(.prop 0 7 (.slot 0))] B_encode_store_L1,
    .ret (some (.lst [(true, (.slot 1)), (false, (.call 10 [(.slot 1)]))]))] ⟨[some v0, none, none, none, none, none], hp⟩) (fun fl s => Ws s (fun _ hp' => Wre fl (fun r => Q r (gc hp.length r hp')))) (fun x s => Ws s (fun _ hp => E x hp)) := Wc_call (body := B_encode_store) T.d11 rfl rfl
theorem U_B_Reader___init__ (T : Has tb) {d : Nat} {v0 : SV} {v1 : SV} {hp : List O} {Q : R → List O → Prop} {E : Xc → List O → Prop} : Wc (callD tb (d + 1) 12 [v0, v1] hp) Q E = W (execs (run tb (callD tb d) (FU + 100)) [.asg (.fld 1 0 (.slot 0)) (.slot 1),
    .asg (.fld 1 1 (.slot 0)) (.cst (.int 0))] ⟨[some v0, some v1], hp⟩) (fun fl s => Ws s (fun _ hp' => Wre fl (fun r => Q r (gc hp.length r hp')))) (fun x s => Ws s (fun _ hp => E x hp)) := Wc_call (body := B_Reader___init__) T.d12 rfl rfl
theorem U_B_Reader_item (T : Has tb) {d : Nat} {v0 : SV} {v1 : SV} {v2 : SV} {hp : List O} {Q : R → List O → Prop} {E : Xc → List O → Prop} : Wc (callD tb (d + 1) 13 [v0, v1, v2] hp) Q E = W (execs (run tb (callD tb d) (FU + 100)) [.if_ (.or (.bin .ge (.fld 1 1 (.slot 0)) (.bl .len [(.fld 1 0 (.slot 0))])) (.un .not_ (.call 0 [(.bin .ix (.fld 1 0 (.slot 0)) (.fld 1 1 (.slot 0))), (.slot 1), (.slot 2)]))) [.raise_ false 2 [(.fld 1 1 (.slot 0))]] [],
    .aug .add (.fld 1 1 (.slot 0)) (.cst (.int 1)),
    .ret (some (.bin .ix (.fld 1 0 (.slot 0)) (.bin .sub (.fld 1 1 (.slot 0)) (.cst (.int 1)))))] ⟨[some v0, some v1, some v2], hp⟩) (fun fl s => Ws s (fun _ hp' => Wre fl (fun r => Q r (gc hp.length r hp')))) (fun x s => Ws s (fun _ hp => E x hp)) := Wc_call (body := B_Reader_item) T.d13 rfl rfl
theorem U_B_Reader_read_door (T : Has tb) {d : Nat} {v0 : SV} {hp : List O} {Q : R → List O → Prop} {E : Xc → List O → Prop} : Wc (callD tb (d + 1) 14 [v0] hp) Q E = W (execs (run tb (callD tb d) (FU + 100)) [.asg (.nm 1) (.mcall 1 13 (.slot 0) [(.cst (.int 1)), (.cst (.int 99))]),
    .ret (some (.tup [(false, (.slot 1)), (false, (.mcall 1 13 (.slot 0) [(.cst (.int 1)), (.cst (.int 4))]))]))] ⟨[some v0, none], hp⟩) (fun fl s => Ws s (fun _ hp' => Wre fl (fun r => Q r (gc hp.length r hp')))) (fun x s => Ws s (fun _ hp => E x hp)) := Wc_call (body := B_Reader_read_door) T.d14 rfl rfl
theorem U_B_Reader_read_crate (T : Has tb) {d : Nat} {v0 : SV} {hp : List O} {Q : R → List O → Prop} {E : Xc → List O → Prop} : Wc (callD tb (d + 1) 15 [v0] hp) Q E = W (execs (run tb (callD tb d) (FU + 100)) [.asg (.nm 1) (.mcall 1 13 (.slot 0) [(.cst (.int 1)), (.cst (.int 8))]),
    .ret (some (.mt .join (.cst (.str "")) [(.compX (.nm 2) .range1 [(.slot 1)] none B_Reader_read_crate_C0 [2])]))] ⟨[some v0, none, none], hp⟩) (fun fl s => Ws s (fun _ hp' => Wre fl (fun r => Q r (gc hp.length r hp')))) (fun x s => Ws s (fun _ hp => E x hp)) := Wc_call (body := B_Reader_read_crate) T.d15 rfl rfl
theorem U_B_Reader_finish (T : Has tb) {d : Nat} {v0 : SV} {hp : List O} {Q : R → List O → Prop} {E : Xc → List O → Prop} : Wc (callD tb (d + 1) 16 [v0] hp) Q E = W (execs (run tb (callD tb d) (FU + 100)) [.asg (.nm 1) (.call 10 [(.slice (.fld 1 0 (.slot 0)) none (some (.fld 1 1 (.slot 0))))]),
    .ex (.mcall 1 13 (.slot 0) [(.slot 1), (.slot 1)]),
    .if_ (.bin .lt (.fld 1 1 (.slot 0)) (.bl .len [(.fld 1 0 (.slot 0))])) [.raise_ false 2 [(.fld 1 1 (.slot 0))]] []] ⟨[some v0, none], hp⟩) (fun fl s => Ws s (fun _ hp' => Wre fl (fun r => Q r (gc hp.length r hp')))) (fun x s => Ws s (fun _ hp => E x hp)) := Wc_call (body := B_Reader_finish) T.d16 rfl rfl
theorem U_B_decode_store (T : Has tb) {d : Nat} {v0 : SV} {hp : List O} {Q : R → List O → Prop} {E : Xc → List O → Prop} : Wc (callD tb (d + 1) 17 [v0] hp) Q E = W (execs (run tb (callD tb d) (FU + 100)) [.asg (.nm 1) (.new 1 12 [(.fz (.slot 0))]),
    .ex (.mcall 1 13 (.slot 1) [(.cst (.int 71)), (.cst (.int 71))]),
    .asg (.nm 2) (.compX (.nm 4) .range1 [(.mcall 1 13 (.slot 1) [(.cst (.int 1)), (.cst (.int 4))])] none B_decode_store_C0 [4]),
    .asg (.nm 3) (.compX (.nm 4) .range1 [(.mcall 1 13 (.slot 1) [(.cst (.int 1)), (.cst (.int 5))])] none B_decode_store_C1 [4]),
    .ex (.mcall 1 16 (.slot 1) []),
    .ret (some (.frz 0 5 [(.bl .tuple [(.slot 2)]), (.bl .tuple [(.slot 3)])]))] ⟨[some v0, none, none, none, none], hp⟩) (fun fl s => Ws s (fun _ hp' => Wre fl (fun r => Q r (gc hp.length r hp')))) (fun x s => Ws s (fun _ hp => E x hp)) := Wc_call (body := B_decode_store) T.d17 rfl rfl
theorem U_B__law_taken (T : Has tb) {d : Nat} {v0 : SV} {v1 : SV} {hp : List O} {Q : R → List O → Prop} {E : Xc → List O → Prop} : Wc (callD tb (d + 1) 18 [v0, v1] hp) Q E = W (execs (run tb (callD tb d) (FU + 100)) [.if_ (.bin .gt (.bin .ix (.slot 0) (.cst (.int 3))) (.cst (.int 0))) [.asg (.nm 3) (.bin .mod (.bl .int [(.bin .ix (.slot 0) (.cst (.int 3)))]) (.slot 1)),
    .asg (.sub (.slot 0) (.cst (.int 3))) (.bin .fdiv (.bin .ix (.slot 0) (.cst (.int 3))) (.slot 1)),
    .ret (some (.slot 3))] [],
    .asg (.sub (.slot 0) (.cst (.int 1))) (.bin .add (.bin .ix (.slot 0) (.cst (.int 1))) (.cst (.int 1))),
    .if_ (.bin .gt (.bin .ix (.slot 0) (.cst (.int 1))) (.bl .len [(.bin .ix (.slot 0) (.cst (.int 0)))])) [.asg (.sub (.slot 0) (.cst (.int 2))) (.bin .mod (.bl .int [(.bin .add (.bin .mul (.bin .ix (.slot 0) (.cst (.int 2))) (.cst (.int 48271))) (.cst (.int 11)))]) (.cst (.int 2147483647))),
    .ret (some (.bin .mod (.bl .int [(.bin .fdiv (.bin .ix (.slot 0) (.cst (.int 2))) (.cst (.int 7)))]) (.slot 1)))] [],
    .asg (.nm 2) (.bin .ix (.bin .ix (.slot 0) (.cst (.int 0))) (.bin .sub (.bin .ix (.slot 0) (.cst (.int 1))) (.cst (.int 1)))),
    .asg (.sub (.slot 0) (.cst (.int 2))) (.bin .mod (.bl .int [(.bin .add (.bin .add (.bin .mul (.bin .ix (.slot 0) (.cst (.int 2))) (.cst (.int 48271))) (.slot 2)) (.cst (.int 11)))]) (.cst (.int 2147483647))),
    .if_ (.bin .ge (.slot 2) (.bin .pow (.cst (.int 10)) (.cst (.int 18)))) [.asg (.sub (.slot 0) (.cst (.int 3))) (.bin .fdiv (.slot 2) (.slot 1))] [],
    .ret (some (.bin .mod (.bl .int [(.slot 2)]) (.slot 1)))] ⟨[some v0, some v1, none, none], hp⟩) (fun fl s => Ws s (fun _ hp' => Wre fl (fun r => Q r (gc hp.length r hp')))) (fun x s => Ws s (fun _ hp => E x hp)) := Wc_call (body := B__law_taken) T.d18 rfl rfl
theorem U_B_is_count (T : Has tb) {d : Nat} {v0 : SV} {hp : List O} {Q : R → List O → Prop} {E : Xc → List O → Prop} : Wc (callD tb (d + 1) 19 [v0] hp) Q E = W (execs (run tb (callD tb d) (FU + 100)) [.ret (some (.and (.chain .le .le (.cst (.int 1)) (.bl .len [(.slot 0)]) (.cst (.int 2))) (.and (.bl .all [(.comp (.nm 1) .seq [(.slot 0)] none (.bin .in_ (.slot 1) (.cst (.str "0123456789"))) [1])]) (.bin .ne (.bin .ix (.slot 0) (.cst (.int 0))) (.cst (.str "0"))))))] ⟨[some v0, none], hp⟩) (fun fl s => Ws s (fun _ hp' => Wre fl (fun r => Q r (gc hp.length r hp')))) (fun x s => Ws s (fun _ hp => E x hp)) := Wc_call (body := B_is_count) T.d19 rfl rfl
theorem U_B_Row___init__ (T : Has tb) {d : Nat} {v0 : SV} {v1 : SV} {v2 : SV} {hp : List O} {Q : R → List O → Prop} {E : Xc → List O → Prop} : Wc (callD tb (d + 1) 20 [v0, v1, v2] hp) Q E = W (execs (run tb (callD tb d) (FU + 100)) [.asg (.fld 2 0 (.slot 0)) (.slot 1),
    .asg (.fld 2 1 (.slot 0)) (.mt .split (.slot 2) [(.cst (.str " "))]),
    .asg (.fld 2 2 (.slot 0)) (.cst (.int 0))] ⟨[some v0, some v1, some v2], hp⟩) (fun fl s => Ws s (fun _ hp' => Wre fl (fun r => Q r (gc hp.length r hp')))) (fun x s => Ws s (fun _ hp => E x hp)) := Wc_call (body := B_Row___init__) T.d20 rfl rfl
theorem U_B_Row_has_more (T : Has tb) {d : Nat} {v0 : SV} {hp : List O} {Q : R → List O → Prop} {E : Xc → List O → Prop} : Wc (callD tb (d + 1) 21 [v0] hp) Q E = W (execs (run tb (callD tb d) (FU + 100)) [.ret (some (.bin .lt (.fld 2 2 (.slot 0)) (.bl .len [(.fld 2 1 (.slot 0))])))] ⟨[some v0], hp⟩) (fun fl s => Ws s (fun _ hp' => Wre fl (fun r => Q r (gc hp.length r hp')))) (fun x s => Ws s (fun _ hp => E x hp)) := Wc_call (body := B_Row_has_more) T.d21 rfl rfl
theorem U_B_Row_fail (T : Has tb) {d : Nat} {v0 : SV} {hp : List O} {Q : R → List O → Prop} {E : Xc → List O → Prop} : Wc (callD tb (d + 1) 22 [v0] hp) Q E = W (execs (run tb (callD tb d) (FU + 100)) [.raise_ false 3 [(.fld 2 0 (.slot 0)), (.fld 2 2 (.slot 0))]] ⟨[some v0], hp⟩) (fun fl s => Ws s (fun _ hp' => Wre fl (fun r => Q r (gc hp.length r hp')))) (fun x s => Ws s (fun _ hp => E x hp)) := Wc_call (body := B_Row_fail) T.d22 rfl rfl

theorem U_B_Row_read_crates (T : Has tb) {d : Nat} {v0 : SV} {hp : List O} {Q : R → List O → Prop} {E : Xc → List O → Prop} : Wc (callD tb (d + 1) 24 [v0] hp) Q E = W (execs (run tb (callD tb d) (FU + 100)) [.asg (.nm 1) (.lst []),
    .while_ (.or (.bin .eq (.slot 1) (.lst [])) (.mcall 2 21 (.slot 0) [])) B_Row_read_crates_L0,
    .ret (some (.bl .tuple [(.slot 1)]))] ⟨[some v0, none, none, none], hp⟩) (fun fl s => Ws s (fun _ hp' => Wre fl (fun r => Q r (gc hp.length r hp')))) (fun x s => Ws s (fun _ hp => E x hp)) := Wc_call (body := B_Row_read_crates) T.d24 rfl rfl
theorem U_B_heads_at (T : Has tb) {d : Nat} {v0 : SV} {v1 : SV} {hp : List O} {Q : R → List O → Prop} {E : Xc → List O → Prop} : Wc (callD tb (d + 1) 25 [v0, v1] hp) Q E = W (execs (run tb (callD tb d) (FU + 100)) [.if_ (.bin .ne (.slot 1) (.tup [])) [.ret (some (.tup []))] [],
    .ret (some (.bin .add (.ite (.bin .lt (.bl .len [(.slot 0)]) (.cst (.int 4))) (.tup [(false, (.cst (.str "door")))]) (.tup [])) (.ite (.bin .ne (.slot 0) (.lst [])) (.tup [(false, (.cst (.str "crates")))]) (.tup []))))] ⟨[some v0, some v1], hp⟩) (fun fl s => Ws s (fun _ hp' => Wre fl (fun r => Q r (gc hp.length r hp')))) (fun x s => Ws s (fun _ hp => E x hp)) := Wc_call (body := B_heads_at) T.d25 rfl rfl
theorem U_B_parse_store (T : Has tb) {d : Nat} {v0 : SV} {hp : List O} {Q : R → List O → Prop} {E : Xc → List O → Prop} : Wc (callD tb (d + 1) 26 [v0] hp) Q E = W (execs (run tb (callD tb d) (FU + 100)) [.asg2 2 3 (.lst []) (.tup []),
    .asg (.nm 1) (.mt .split (.slot 0) [(.cst (.str "\n"))]),
    .for_ (.tp [(.nm 4), (.nm 5)]) .enum [(.slot 1)] B_parse_store_L0,
    .if_ (.bin .eq (.slot 3) (.tup [])) [.raise_ false 3 [(.bl .len [(.slot 1)]), (.cst (.int 0))]] [],
    .ret (some (.frz 0 5 [(.bl .tuple [(.slot 2)]), (.fz (.slot 3))]))] ⟨[some v0, none, none, none, none, none, none, none, none, none], hp⟩) (fun fl s => Ws s (fun _ hp' => Wre fl (fun r => Q r (gc hp.length r hp')))) (fun x s => Ws s (fun _ hp => E x hp)) := Wc_call (body := B_parse_store) T.d26 rfl rfl
end
end Pg

set_option maxRecDepth 100000
set_option maxHeartbeats 0
/-! St: what the laws draw. -/
namespace Pg
open PySem Ri
section
variable {tb : Tb} {d n : Nat} {hp : List O} {Q : R → List O → Prop} {E : Xc → List O → Prop}
/-- what the row of a law has: where, a number, the rest of a great cell -/
structure Rw where
  a : Nat
  b : Int
  c : Int
abbrev rowO (ns : List Int) (r : Rw) : O := .lst [.klst (ns.map D.int), .int r.a, .int r.b, .int r.c]
theorem gc_cons {o' : O} {l : List O} {r : R} : gc (l.length + 1) r (o' :: l) = o' :: l := gc_len (by simp)
section
variable {α : Type} {p q r t u : α} {l : List α} {K : Nat → Prop}
theorem ix1 : Wo (L2.ixN [p, q, r, t].length 1) K = K 1 := by simp [L2.ixN, Wo]
theorem ix2 : Wo (L2.ixN [p, q, r, t].length 2) K = K 2 := by simp [L2.ixN, Wo]
theorem ix3 : Wo (L2.ixN [p, q, r, t].length 3) K = K 3 := by simp [L2.ixN, Wo]
theorem set1 : [p, q, r, t].set 1 u = [p, u, r, t] := rfl
theorem set2 : [p, q, r, t].set 2 u = [p, q, u, t] := rfl
theorem set3 : [p, q, r, t].set 3 u = [p, q, r, u] := rfl
end
def tk (ns : List Int) (r : Rw) (m : Int) : Int × Rw :=
  if 0 < r.c then (r.c.fmod m, ⟨r.a, r.b, r.c.fdiv m⟩)
  else match ns[r.a]? with
    | none => ((((r.b * 48271 + 11).fmod 2147483647).fdiv 7).fmod m, ⟨r.a + 1, (r.b * 48271 + 11).fmod 2147483647, r.c⟩)
    | some x => (x.fmod m, ⟨r.a + 1, (r.b * 48271 + x + 11).fmod 2147483647, if 10 ^ 18 ≤ x then x.fdiv m else r.c⟩)
theorem w_taken (T : Has tb) {ns : List Int} {r : Rw} {m : Int} (h1 : 0 < m) (h2 : m < 1000000) : Wc (callD tb (d + 1) 18 [.val (.ref 0), .val (.int m)] (rowO ns r :: hp)) Q E = Q (.val (.int (tk ns r m).1)) (rowO ns (tk ns r m).2 :: hp) := by
  have hm : m ≠ 0 := by omega
  have hm2 : m ≠ 0 ∧ m.natAbs < 1073741824 := ⟨by omega, by omega⟩
  rw [U_B__law_taken T]
  unfold tk
  have c1 : (-2 ^ 64 < r.b ∧ r.b < 2 ^ 64 ∨ (-2 ^ 64 < (48271 : Int) ∧ (48271 : Int) < 2 ^ 64)) := .inr ⟨by decide, by decide⟩
  have c2 : ¬ (2147483647 : Int) = 0 := by decide
  have c3 : ¬ (7 : Int) = 0 ∧ Int.natAbs 7 < 1073741824 := by decide
  have c4 : (0 : Int) ≤ 18 ∧ (18 : Int) ≤ 1000000 ∧ Int.natAbs 10 < 2 ^ 64 := by decide
  have c5 : (10 : Int) ^ Int.toNat 18 = 10 ^ 18 := rfl
  by_cases hc : 0 < r.c
  · simp -implicitDefEqProofs (disch := (first | omega | (simp only [List.length_cons, List.length_nil, List.length_map, List.length_append]; done) | (simp only [List.length_cons, List.length_nil, List.length_map, List.length_append]; omega))) only [↓Ri.Ws_m, ↓Ri.W_ok, ↓Ri.W_opt, ↓Ri.Wo_some, ↓Ri.W_none, ↓Ri.Wo_none, ↓Ri.Wi_t, ↓Ri.Wi_f, ↓Ri.Wi_pos, ↓Ri.Wi_neg, ↓Ri.Wi_not, ↓Ri.Wi_and, ↓Ri.Wi_or, ↓Ri.Wg_s, ↓Ri.Wg_0, ↓Ri.Wt_s, ↓Ri.Wt_0, ↓Ri.Wv_val, ↓Ri.Wv_own, ↓Ri.Wv_bor, ↓Ri.Wh_s, ↓Ri.Wh_0, ↓Ri.Wol_l, ↓Ri.Wol_i, ↓Ri.Wl_int, ↓Ri.Wl_bl, ↓Ri.Wl_non, ↓Ri.Wl_str, ↓Ri.Wl_tup, ↓Ri.Wl_lst, ↓Ri.Wl_klst, ↓Ri.Wl_ins, ↓Ri.Wl_ref0, ↓Ri.Wl_own, ↓Ri.Wlv_own, ↓Ri.Wlv_bor, ↓Ri.Wl_slot, ↓Ri.Wls_nil, ↓Ri.Wls_cons, ↓Ri.Wfv_val, ↓Ri.Wfv_own, ↓Ri.W_frz_val, ↓Ri.W_frz_own, ↓Ri.W_frz_slot, ↓Ri.W_it_val, ↓Ri.W_it_own, ↓Ri.Wiv_val, ↓Ri.Wiv_bor, ↓Ri.Wiv_own, ↓Ri.W_it_slot, ↓Ri.x_slot, ↓Ri.x_cst, ↓Ri.x_bin, ↓Ri.x_un, ↓Ri.Wb_bl, ↓Ri.x_and, ↓Ri.x_or, ↓Ri.x_ite, ↓Ri.W_testR, ↓Ri.x_chain, ↓Ri.W_chainR, ↓Ri.exStar_nil, ↓Ri.exStar_f, ↓Ri.exStar_t, ↓Ri.Wit_tup, ↓Ri.Wit_lst, ↓Ri.Wit_klst, ↓Ri.x_tup, ↓Ri.x_lst, ↓Ri.optE_none, ↓Ri.optE_some, ↓Ri.Wn_int, ↓Ri.x_slice, ↓Ri.W_sliceR, ↓Ri.Wo_sliceT, ↓Ri.Wo_sliceL, ↓Ri.W_binR, ↓Ri.W_unR, ↓Ri.b_add, ↓Ri.b_addS, ↓Ri.b_addL, ↓Ri.b_addT, ↓Ri.b_sub, ↓Ri.b_mul, ↓Ri.b_mulL, ↓Ri.b_fdiv, ↓Ri.b_mod, ↓Ri.b_pow, ↓Ri.b_lt, ↓Ri.b_gt, ↓Ri.b_le, ↓Ri.b_ge, ↓Ri.b_ltS, ↓Ri.b_eq, ↓Ri.b_ne, ↓Ri.b_in, ↓Ri.b_notin, ↓Ri.b_ix, ↓Ri.ix_tup, ↓Ri.ix_lst, ↓Ri.ix_klst, ↓Ri.ix_str, ↓Ri.u_not, ↓Ri.u_neg, ↓Ri.at0, ↓Ri.at1, ↓Ri.at2, ↓Ri.at3, ↓Ri.exs_nil, ↓Ri.exs_cons, ↓Ri.exDs_nil, ↓Ri.exDs_cons, ↓Ri.exIs_nil, ↓Ri.exIs_cons, ↓Ri.x_bl, ↓Ri.l_lenS, ↓Ri.l_lenT, ↓Ri.l_lenL, ↓Ri.l_lenK, ↓Ri.l_all, ↓Ri.l_any, ↓Ri.l_sum, ↓Ri.l_min, ↓Ri.l_max, ↓Ri.l_tuple, ↓Ri.l_list, ↓Ri.l_int, ↓Ri.l_intB, ↓Ri.l_isint, ↓Ri.l_isintS, ↓Ri.l_isbool, ↓Ri.l_isboolB, ↓Ri.l_isintB, ↓Ri.l_isstr, ↓Ri.l_istuple, ↓Ri.bools_nil, ↓Ri.bools_cons, ↓Ri.bools_map, ↓Ri.ints_nil, ↓Ri.ints_cons, ↓Ri.ints_map, ↓Ri.Wa_nil, ↓Ri.Wa_cons, ↓Ri.Wa_val, ↓Ri.Wa_own, ↓Ri.Wav_val, ↓Ri.Wav_own, ↓Ri.Wav_bor, ↓Ri.Wa_slot, ↓Ri.W_callR, ↓Ri.x_call, ↓Ri.Wk_i, ↓Ri.Wn1_val, ↓Ri.Wn1_ref, ↓Ri.x_mcall, ↓Ri.x_isi, ↓Ri.x_prop, ↓Ri.Wbo_bl, ↓Ri.x_ucmp, ↓Ri.Wle_int, ↓Ri.x_ulen, ↓Ri.x_fz, ↓Ri.Wj_s, ↓Ri.Wj_0, ↓Ri.Wjd_s, ↓Ri.Wjd_0, ↓Ri.Wfi_i, ↓Ri.W_fld_ins, ↓Ri.W_fld_ref, ↓Ri.x_fld, ↓Ri.x_settle, ↓Ri.W_settle, ↓Ri.Wst_str, ↓Ri.x_mt, ↓Ri.Wml_own, ↓Ri.Wmo_l, ↓Ri.Wil_slot, ↓Ri.Wil_ref, ↓Ri.Wwr_append, ↓Ri.Wwr_extend, ↓Ri.W_wr_slot, ↓Ri.W_wr_ref, ↓Ri.x_mw, ↓Ri.Wx_s, ↓Ri.Wx_0, ↓Ri.Wwp_nil, ↓Ri.Wwp_cons, ↓Ri.Wgo_s, ↓Ri.Wgo_0, ↓Ri.Wun_nil, ↓Ri.Wun_cons, ↓Ri.Wpx_n, ↓Ri.Wpx_v, ↓Ri.Wpl_nil, ↓Ri.Wpl_cons, ↓Ri.W_compR, ↓Ri.x_comp, ↓Ri.compL_nil, ↓Ri.ifR_none, ↓Ri.ifR_some, ↓Ri.compL_cons, ↓Ri.wk_str, ↓Ri.wk_tup, ↓Ri.wk_lst, ↓Ri.wk_klst, ↓Ri.wk_r1, ↓Ri.wk_r2, ↓Ri.wk_enT, ↓Ri.wk_enL, ↓Ri.wk_zT, ↓Ri.wk_zL, ↓Ri.t_nm, ↓Ri.t_tp, ↓Ri.ts_nil, ↓Ri.ts_cons, ↓Ri.Wsb_slot, ↓Ri.Wsb_ref, ↓Ri.t_sub, ↓Ri.Wfs_s, ↓Ri.Wfs_0, ↓Ri.Wrf_r, ↓Ri.t_fld, ↓Ri.r_val, ↓Ri.r_own, ↓Ri.r_own_fld, ↓Ri.r_own_sub, ↓Ri.r_slot, ↓Ri.s_nil, ↓Ri.Wf_n, ↓Ri.Wf_r, ↓Ri.Wf_b, ↓Ri.Wf_c, ↓Ri.s_cons, ↓Ri.s_asg, ↓Ri.s_ex, ↓Ri.s_retN, ↓Ri.s_ret, ↓Ri.ret_val, ↓Ri.ret_own, ↓Ri.Wrv_val, ↓Ri.Wrv_own, ↓Ri.ret_slot, ↓Ri.s_if, ↓Ri.s_for, ↓Ri.for_nil, ↓Ri.Wfl_n, ↓Ri.Wfl_c, ↓Ri.Wfl_b, ↓Ri.Wfl_r, ↓Ri.for_cons, ↓Ri.s_while, ↓Ri.Wnm_val, ↓Ri.Wnm_own, ↓Ri.s_asg2, ↓Ri.s_pass, ↓Ri.s_brk, ↓Ri.s_cnt, ↓Ri.s_wall, ↓Ri.Wi1_i, ↓Ri.s_incfld, ↓Ri.Wre_n, ↓Ri.Wre_v, ↓Ri.Wre_o, ↓Ri.x_new, ↓Ri.x_frz, ↓Ri.Wno_n, ↓Ri.deq_ii, ↓Ri.deq_ss, ↓Ri.deq_nn, ↓Ri.deq_bb, ↓Ri.deq_ns, ↓Ri.deq_sn, ↓Ri.deq_tt, ↓Ri.deq_ll, ↓Ri.s_raise, ↓Ri.s_try, ↓Ri.Wct_nil, ↓Ri.Wct_cons, ↓Ri.W_catch, ↓Ri.compXL_nil, ↓Ri.compXL_cons, ↓Ri.W_compXR, ↓Ri.x_compX, true_and, and_true, List.length_cons, List.length_nil, gc_cons, hc, ↓ix1, ↓ix2, ↓ix3, set1, set2, set3, ↓Wht_0, if_true, List.length_map, hm, hm2, ne_eq, not_false_eq_true]
  · simp only [hc, if_false]
    by_cases ha : r.a < ns.length
    · have e : ns[r.a]? = some ns[r.a] := List.getElem?_eq_getElem ha
      have e' : (ns.map D.int)[r.a]? = some (.int ns[r.a]) := by simp [e]
      simp only [e]
      by_cases h18 : 10 ^ 18 ≤ ns[r.a]
      · simp -implicitDefEqProofs (disch := (first | omega | (simp only [List.length_cons, List.length_nil, List.length_map, List.length_append]; done) | (simp only [List.length_cons, List.length_nil, List.length_map, List.length_append]; omega))) only [↓Ri.Ws_m, ↓Ri.W_ok, ↓Ri.W_opt, ↓Ri.Wo_some, ↓Ri.W_none, ↓Ri.Wo_none, ↓Ri.Wi_t, ↓Ri.Wi_f, ↓Ri.Wi_pos, ↓Ri.Wi_neg, ↓Ri.Wi_not, ↓Ri.Wi_and, ↓Ri.Wi_or, ↓Ri.Wg_s, ↓Ri.Wg_0, ↓Ri.Wt_s, ↓Ri.Wt_0, ↓Ri.Wv_val, ↓Ri.Wv_own, ↓Ri.Wv_bor, ↓Ri.Wh_s, ↓Ri.Wh_0, ↓Ri.Wol_l, ↓Ri.Wol_i, ↓Ri.Wl_int, ↓Ri.Wl_bl, ↓Ri.Wl_non, ↓Ri.Wl_str, ↓Ri.Wl_tup, ↓Ri.Wl_lst, ↓Ri.Wl_klst, ↓Ri.Wl_ins, ↓Ri.Wl_ref0, ↓Ri.Wl_own, ↓Ri.Wlv_own, ↓Ri.Wlv_bor, ↓Ri.Wl_slot, ↓Ri.Wls_nil, ↓Ri.Wls_cons, ↓Ri.Wfv_val, ↓Ri.Wfv_own, ↓Ri.W_frz_val, ↓Ri.W_frz_own, ↓Ri.W_frz_slot, ↓Ri.W_it_val, ↓Ri.W_it_own, ↓Ri.Wiv_val, ↓Ri.Wiv_bor, ↓Ri.Wiv_own, ↓Ri.W_it_slot, ↓Ri.x_slot, ↓Ri.x_cst, ↓Ri.x_bin, ↓Ri.x_un, ↓Ri.Wb_bl, ↓Ri.x_and, ↓Ri.x_or, ↓Ri.x_ite, ↓Ri.W_testR, ↓Ri.x_chain, ↓Ri.W_chainR, ↓Ri.exStar_nil, ↓Ri.exStar_f, ↓Ri.exStar_t, ↓Ri.Wit_tup, ↓Ri.Wit_lst, ↓Ri.Wit_klst, ↓Ri.x_tup, ↓Ri.x_lst, ↓Ri.optE_none, ↓Ri.optE_some, ↓Ri.Wn_int, ↓Ri.x_slice, ↓Ri.W_sliceR, ↓Ri.Wo_sliceT, ↓Ri.Wo_sliceL, ↓Ri.W_binR, ↓Ri.W_unR, ↓Ri.b_add, ↓Ri.b_addS, ↓Ri.b_addL, ↓Ri.b_addT, ↓Ri.b_sub, ↓Ri.b_mul, ↓Ri.b_mulL, ↓Ri.b_fdiv, ↓Ri.b_mod, ↓Ri.b_pow, ↓Ri.b_lt, ↓Ri.b_gt, ↓Ri.b_le, ↓Ri.b_ge, ↓Ri.b_ltS, ↓Ri.b_eq, ↓Ri.b_ne, ↓Ri.b_in, ↓Ri.b_notin, ↓Ri.b_ix, ↓Ri.ix_tup, ↓Ri.ix_lst, ↓Ri.ix_klst, ↓Ri.ix_str, ↓Ri.u_not, ↓Ri.u_neg, ↓Ri.at0, ↓Ri.at1, ↓Ri.at2, ↓Ri.at3, ↓Ri.exs_nil, ↓Ri.exs_cons, ↓Ri.exDs_nil, ↓Ri.exDs_cons, ↓Ri.exIs_nil, ↓Ri.exIs_cons, ↓Ri.x_bl, ↓Ri.l_lenS, ↓Ri.l_lenT, ↓Ri.l_lenL, ↓Ri.l_lenK, ↓Ri.l_all, ↓Ri.l_any, ↓Ri.l_sum, ↓Ri.l_min, ↓Ri.l_max, ↓Ri.l_tuple, ↓Ri.l_list, ↓Ri.l_int, ↓Ri.l_intB, ↓Ri.l_isint, ↓Ri.l_isintS, ↓Ri.l_isbool, ↓Ri.l_isboolB, ↓Ri.l_isintB, ↓Ri.l_isstr, ↓Ri.l_istuple, ↓Ri.bools_nil, ↓Ri.bools_cons, ↓Ri.bools_map, ↓Ri.ints_nil, ↓Ri.ints_cons, ↓Ri.ints_map, ↓Ri.Wa_nil, ↓Ri.Wa_cons, ↓Ri.Wa_val, ↓Ri.Wa_own, ↓Ri.Wav_val, ↓Ri.Wav_own, ↓Ri.Wav_bor, ↓Ri.Wa_slot, ↓Ri.W_callR, ↓Ri.x_call, ↓Ri.Wk_i, ↓Ri.Wn1_val, ↓Ri.Wn1_ref, ↓Ri.x_mcall, ↓Ri.x_isi, ↓Ri.x_prop, ↓Ri.Wbo_bl, ↓Ri.x_ucmp, ↓Ri.Wle_int, ↓Ri.x_ulen, ↓Ri.x_fz, ↓Ri.Wj_s, ↓Ri.Wj_0, ↓Ri.Wjd_s, ↓Ri.Wjd_0, ↓Ri.Wfi_i, ↓Ri.W_fld_ins, ↓Ri.W_fld_ref, ↓Ri.x_fld, ↓Ri.x_settle, ↓Ri.W_settle, ↓Ri.Wst_str, ↓Ri.x_mt, ↓Ri.Wml_own, ↓Ri.Wmo_l, ↓Ri.Wil_slot, ↓Ri.Wil_ref, ↓Ri.Wwr_append, ↓Ri.Wwr_extend, ↓Ri.W_wr_slot, ↓Ri.W_wr_ref, ↓Ri.x_mw, ↓Ri.Wx_s, ↓Ri.Wx_0, ↓Ri.Wwp_nil, ↓Ri.Wwp_cons, ↓Ri.Wgo_s, ↓Ri.Wgo_0, ↓Ri.Wun_nil, ↓Ri.Wun_cons, ↓Ri.Wpx_n, ↓Ri.Wpx_v, ↓Ri.Wpl_nil, ↓Ri.Wpl_cons, ↓Ri.W_compR, ↓Ri.x_comp, ↓Ri.compL_nil, ↓Ri.ifR_none, ↓Ri.ifR_some, ↓Ri.compL_cons, ↓Ri.wk_str, ↓Ri.wk_tup, ↓Ri.wk_lst, ↓Ri.wk_klst, ↓Ri.wk_r1, ↓Ri.wk_r2, ↓Ri.wk_enT, ↓Ri.wk_enL, ↓Ri.wk_zT, ↓Ri.wk_zL, ↓Ri.t_nm, ↓Ri.t_tp, ↓Ri.ts_nil, ↓Ri.ts_cons, ↓Ri.Wsb_slot, ↓Ri.Wsb_ref, ↓Ri.t_sub, ↓Ri.Wfs_s, ↓Ri.Wfs_0, ↓Ri.Wrf_r, ↓Ri.t_fld, ↓Ri.r_val, ↓Ri.r_own, ↓Ri.r_own_fld, ↓Ri.r_own_sub, ↓Ri.r_slot, ↓Ri.s_nil, ↓Ri.Wf_n, ↓Ri.Wf_r, ↓Ri.Wf_b, ↓Ri.Wf_c, ↓Ri.s_cons, ↓Ri.s_asg, ↓Ri.s_ex, ↓Ri.s_retN, ↓Ri.s_ret, ↓Ri.ret_val, ↓Ri.ret_own, ↓Ri.Wrv_val, ↓Ri.Wrv_own, ↓Ri.ret_slot, ↓Ri.s_if, ↓Ri.s_for, ↓Ri.for_nil, ↓Ri.Wfl_n, ↓Ri.Wfl_c, ↓Ri.Wfl_b, ↓Ri.Wfl_r, ↓Ri.for_cons, ↓Ri.s_while, ↓Ri.Wnm_val, ↓Ri.Wnm_own, ↓Ri.s_asg2, ↓Ri.s_pass, ↓Ri.s_brk, ↓Ri.s_cnt, ↓Ri.s_wall, ↓Ri.Wi1_i, ↓Ri.s_incfld, ↓Ri.Wre_n, ↓Ri.Wre_v, ↓Ri.Wre_o, ↓Ri.x_new, ↓Ri.x_frz, ↓Ri.Wno_n, ↓Ri.deq_ii, ↓Ri.deq_ss, ↓Ri.deq_nn, ↓Ri.deq_bb, ↓Ri.deq_ns, ↓Ri.deq_sn, ↓Ri.deq_tt, ↓Ri.deq_ll, ↓Ri.s_raise, ↓Ri.s_try, ↓Ri.Wct_nil, ↓Ri.Wct_cons, ↓Ri.W_catch, ↓Ri.compXL_nil, ↓Ri.compXL_cons, ↓Ri.W_compXR, ↓Ri.x_compX, true_and, and_true, List.length_cons, List.length_nil, gc_cons, ↓ix1, ↓ix2, ↓ix3, set1, set2, set3, ↓Wht_0, List.length_map, ↓Ri.at_of e' (show (r.a : Int) + 1 - 1 = r.a by omega), hm, hm2, ne_eq, not_false_eq_true, c1, c2, c3, c4, c5, h18, ↓Ri.Wi_pos (show (10 : Int) ^ Int.toNat 18 ≤ ns[r.a] from h18), if_true]
        rfl
      · simp -implicitDefEqProofs (disch := (first | omega | (simp only [List.length_cons, List.length_nil, List.length_map, List.length_append]; done) | (simp only [List.length_cons, List.length_nil, List.length_map, List.length_append]; omega))) only [↓Ri.Ws_m, ↓Ri.W_ok, ↓Ri.W_opt, ↓Ri.Wo_some, ↓Ri.W_none, ↓Ri.Wo_none, ↓Ri.Wi_t, ↓Ri.Wi_f, ↓Ri.Wi_pos, ↓Ri.Wi_neg, ↓Ri.Wi_not, ↓Ri.Wi_and, ↓Ri.Wi_or, ↓Ri.Wg_s, ↓Ri.Wg_0, ↓Ri.Wt_s, ↓Ri.Wt_0, ↓Ri.Wv_val, ↓Ri.Wv_own, ↓Ri.Wv_bor, ↓Ri.Wh_s, ↓Ri.Wh_0, ↓Ri.Wol_l, ↓Ri.Wol_i, ↓Ri.Wl_int, ↓Ri.Wl_bl, ↓Ri.Wl_non, ↓Ri.Wl_str, ↓Ri.Wl_tup, ↓Ri.Wl_lst, ↓Ri.Wl_klst, ↓Ri.Wl_ins, ↓Ri.Wl_ref0, ↓Ri.Wl_own, ↓Ri.Wlv_own, ↓Ri.Wlv_bor, ↓Ri.Wl_slot, ↓Ri.Wls_nil, ↓Ri.Wls_cons, ↓Ri.Wfv_val, ↓Ri.Wfv_own, ↓Ri.W_frz_val, ↓Ri.W_frz_own, ↓Ri.W_frz_slot, ↓Ri.W_it_val, ↓Ri.W_it_own, ↓Ri.Wiv_val, ↓Ri.Wiv_bor, ↓Ri.Wiv_own, ↓Ri.W_it_slot, ↓Ri.x_slot, ↓Ri.x_cst, ↓Ri.x_bin, ↓Ri.x_un, ↓Ri.Wb_bl, ↓Ri.x_and, ↓Ri.x_or, ↓Ri.x_ite, ↓Ri.W_testR, ↓Ri.x_chain, ↓Ri.W_chainR, ↓Ri.exStar_nil, ↓Ri.exStar_f, ↓Ri.exStar_t, ↓Ri.Wit_tup, ↓Ri.Wit_lst, ↓Ri.Wit_klst, ↓Ri.x_tup, ↓Ri.x_lst, ↓Ri.optE_none, ↓Ri.optE_some, ↓Ri.Wn_int, ↓Ri.x_slice, ↓Ri.W_sliceR, ↓Ri.Wo_sliceT, ↓Ri.Wo_sliceL, ↓Ri.W_binR, ↓Ri.W_unR, ↓Ri.b_add, ↓Ri.b_addS, ↓Ri.b_addL, ↓Ri.b_addT, ↓Ri.b_sub, ↓Ri.b_mul, ↓Ri.b_mulL, ↓Ri.b_fdiv, ↓Ri.b_mod, ↓Ri.b_pow, ↓Ri.b_lt, ↓Ri.b_gt, ↓Ri.b_le, ↓Ri.b_ge, ↓Ri.b_ltS, ↓Ri.b_eq, ↓Ri.b_ne, ↓Ri.b_in, ↓Ri.b_notin, ↓Ri.b_ix, ↓Ri.ix_tup, ↓Ri.ix_lst, ↓Ri.ix_klst, ↓Ri.ix_str, ↓Ri.u_not, ↓Ri.u_neg, ↓Ri.at0, ↓Ri.at1, ↓Ri.at2, ↓Ri.at3, ↓Ri.exs_nil, ↓Ri.exs_cons, ↓Ri.exDs_nil, ↓Ri.exDs_cons, ↓Ri.exIs_nil, ↓Ri.exIs_cons, ↓Ri.x_bl, ↓Ri.l_lenS, ↓Ri.l_lenT, ↓Ri.l_lenL, ↓Ri.l_lenK, ↓Ri.l_all, ↓Ri.l_any, ↓Ri.l_sum, ↓Ri.l_min, ↓Ri.l_max, ↓Ri.l_tuple, ↓Ri.l_list, ↓Ri.l_int, ↓Ri.l_intB, ↓Ri.l_isint, ↓Ri.l_isintS, ↓Ri.l_isbool, ↓Ri.l_isboolB, ↓Ri.l_isintB, ↓Ri.l_isstr, ↓Ri.l_istuple, ↓Ri.bools_nil, ↓Ri.bools_cons, ↓Ri.bools_map, ↓Ri.ints_nil, ↓Ri.ints_cons, ↓Ri.ints_map, ↓Ri.Wa_nil, ↓Ri.Wa_cons, ↓Ri.Wa_val, ↓Ri.Wa_own, ↓Ri.Wav_val, ↓Ri.Wav_own, ↓Ri.Wav_bor, ↓Ri.Wa_slot, ↓Ri.W_callR, ↓Ri.x_call, ↓Ri.Wk_i, ↓Ri.Wn1_val, ↓Ri.Wn1_ref, ↓Ri.x_mcall, ↓Ri.x_isi, ↓Ri.x_prop, ↓Ri.Wbo_bl, ↓Ri.x_ucmp, ↓Ri.Wle_int, ↓Ri.x_ulen, ↓Ri.x_fz, ↓Ri.Wj_s, ↓Ri.Wj_0, ↓Ri.Wjd_s, ↓Ri.Wjd_0, ↓Ri.Wfi_i, ↓Ri.W_fld_ins, ↓Ri.W_fld_ref, ↓Ri.x_fld, ↓Ri.x_settle, ↓Ri.W_settle, ↓Ri.Wst_str, ↓Ri.x_mt, ↓Ri.Wml_own, ↓Ri.Wmo_l, ↓Ri.Wil_slot, ↓Ri.Wil_ref, ↓Ri.Wwr_append, ↓Ri.Wwr_extend, ↓Ri.W_wr_slot, ↓Ri.W_wr_ref, ↓Ri.x_mw, ↓Ri.Wx_s, ↓Ri.Wx_0, ↓Ri.Wwp_nil, ↓Ri.Wwp_cons, ↓Ri.Wgo_s, ↓Ri.Wgo_0, ↓Ri.Wun_nil, ↓Ri.Wun_cons, ↓Ri.Wpx_n, ↓Ri.Wpx_v, ↓Ri.Wpl_nil, ↓Ri.Wpl_cons, ↓Ri.W_compR, ↓Ri.x_comp, ↓Ri.compL_nil, ↓Ri.ifR_none, ↓Ri.ifR_some, ↓Ri.compL_cons, ↓Ri.wk_str, ↓Ri.wk_tup, ↓Ri.wk_lst, ↓Ri.wk_klst, ↓Ri.wk_r1, ↓Ri.wk_r2, ↓Ri.wk_enT, ↓Ri.wk_enL, ↓Ri.wk_zT, ↓Ri.wk_zL, ↓Ri.t_nm, ↓Ri.t_tp, ↓Ri.ts_nil, ↓Ri.ts_cons, ↓Ri.Wsb_slot, ↓Ri.Wsb_ref, ↓Ri.t_sub, ↓Ri.Wfs_s, ↓Ri.Wfs_0, ↓Ri.Wrf_r, ↓Ri.t_fld, ↓Ri.r_val, ↓Ri.r_own, ↓Ri.r_own_fld, ↓Ri.r_own_sub, ↓Ri.r_slot, ↓Ri.s_nil, ↓Ri.Wf_n, ↓Ri.Wf_r, ↓Ri.Wf_b, ↓Ri.Wf_c, ↓Ri.s_cons, ↓Ri.s_asg, ↓Ri.s_ex, ↓Ri.s_retN, ↓Ri.s_ret, ↓Ri.ret_val, ↓Ri.ret_own, ↓Ri.Wrv_val, ↓Ri.Wrv_own, ↓Ri.ret_slot, ↓Ri.s_if, ↓Ri.s_for, ↓Ri.for_nil, ↓Ri.Wfl_n, ↓Ri.Wfl_c, ↓Ri.Wfl_b, ↓Ri.Wfl_r, ↓Ri.for_cons, ↓Ri.s_while, ↓Ri.Wnm_val, ↓Ri.Wnm_own, ↓Ri.s_asg2, ↓Ri.s_pass, ↓Ri.s_brk, ↓Ri.s_cnt, ↓Ri.s_wall, ↓Ri.Wi1_i, ↓Ri.s_incfld, ↓Ri.Wre_n, ↓Ri.Wre_v, ↓Ri.Wre_o, ↓Ri.x_new, ↓Ri.x_frz, ↓Ri.Wno_n, ↓Ri.deq_ii, ↓Ri.deq_ss, ↓Ri.deq_nn, ↓Ri.deq_bb, ↓Ri.deq_ns, ↓Ri.deq_sn, ↓Ri.deq_tt, ↓Ri.deq_ll, ↓Ri.s_raise, ↓Ri.s_try, ↓Ri.Wct_nil, ↓Ri.Wct_cons, ↓Ri.W_catch, ↓Ri.compXL_nil, ↓Ri.compXL_cons, ↓Ri.W_compXR, ↓Ri.x_compX, true_and, and_true, List.length_cons, List.length_nil, gc_cons, ↓ix1, ↓ix2, ↓ix3, set1, set2, set3, ↓Wht_0, List.length_map, ↓Ri.at_of e' (show (r.a : Int) + 1 - 1 = r.a by omega), hm, hm2, ne_eq, not_false_eq_true, c1, c2, c3, c4, c5, h18, ↓Ri.Wi_neg (show ¬ (10 : Int) ^ Int.toNat 18 ≤ ns[r.a] from h18), if_false]
        rfl
    · have e : ns[r.a]? = none := List.getElem?_eq_none (by omega)
      simp only [e]
      simp -implicitDefEqProofs (disch := (first | omega | (simp only [List.length_cons, List.length_nil, List.length_map, List.length_append]; done) | (simp only [List.length_cons, List.length_nil, List.length_map, List.length_append]; omega))) only [↓Ri.Ws_m, ↓Ri.W_ok, ↓Ri.W_opt, ↓Ri.Wo_some, ↓Ri.W_none, ↓Ri.Wo_none, ↓Ri.Wi_t, ↓Ri.Wi_f, ↓Ri.Wi_pos, ↓Ri.Wi_neg, ↓Ri.Wi_not, ↓Ri.Wi_and, ↓Ri.Wi_or, ↓Ri.Wg_s, ↓Ri.Wg_0, ↓Ri.Wt_s, ↓Ri.Wt_0, ↓Ri.Wv_val, ↓Ri.Wv_own, ↓Ri.Wv_bor, ↓Ri.Wh_s, ↓Ri.Wh_0, ↓Ri.Wol_l, ↓Ri.Wol_i, ↓Ri.Wl_int, ↓Ri.Wl_bl, ↓Ri.Wl_non, ↓Ri.Wl_str, ↓Ri.Wl_tup, ↓Ri.Wl_lst, ↓Ri.Wl_klst, ↓Ri.Wl_ins, ↓Ri.Wl_ref0, ↓Ri.Wl_own, ↓Ri.Wlv_own, ↓Ri.Wlv_bor, ↓Ri.Wl_slot, ↓Ri.Wls_nil, ↓Ri.Wls_cons, ↓Ri.Wfv_val, ↓Ri.Wfv_own, ↓Ri.W_frz_val, ↓Ri.W_frz_own, ↓Ri.W_frz_slot, ↓Ri.W_it_val, ↓Ri.W_it_own, ↓Ri.Wiv_val, ↓Ri.Wiv_bor, ↓Ri.Wiv_own, ↓Ri.W_it_slot, ↓Ri.x_slot, ↓Ri.x_cst, ↓Ri.x_bin, ↓Ri.x_un, ↓Ri.Wb_bl, ↓Ri.x_and, ↓Ri.x_or, ↓Ri.x_ite, ↓Ri.W_testR, ↓Ri.x_chain, ↓Ri.W_chainR, ↓Ri.exStar_nil, ↓Ri.exStar_f, ↓Ri.exStar_t, ↓Ri.Wit_tup, ↓Ri.Wit_lst, ↓Ri.Wit_klst, ↓Ri.x_tup, ↓Ri.x_lst, ↓Ri.optE_none, ↓Ri.optE_some, ↓Ri.Wn_int, ↓Ri.x_slice, ↓Ri.W_sliceR, ↓Ri.Wo_sliceT, ↓Ri.Wo_sliceL, ↓Ri.W_binR, ↓Ri.W_unR, ↓Ri.b_add, ↓Ri.b_addS, ↓Ri.b_addL, ↓Ri.b_addT, ↓Ri.b_sub, ↓Ri.b_mul, ↓Ri.b_mulL, ↓Ri.b_fdiv, ↓Ri.b_mod, ↓Ri.b_pow, ↓Ri.b_lt, ↓Ri.b_gt, ↓Ri.b_le, ↓Ri.b_ge, ↓Ri.b_ltS, ↓Ri.b_eq, ↓Ri.b_ne, ↓Ri.b_in, ↓Ri.b_notin, ↓Ri.b_ix, ↓Ri.ix_tup, ↓Ri.ix_lst, ↓Ri.ix_klst, ↓Ri.ix_str, ↓Ri.u_not, ↓Ri.u_neg, ↓Ri.at0, ↓Ri.at1, ↓Ri.at2, ↓Ri.at3, ↓Ri.exs_nil, ↓Ri.exs_cons, ↓Ri.exDs_nil, ↓Ri.exDs_cons, ↓Ri.exIs_nil, ↓Ri.exIs_cons, ↓Ri.x_bl, ↓Ri.l_lenS, ↓Ri.l_lenT, ↓Ri.l_lenL, ↓Ri.l_lenK, ↓Ri.l_all, ↓Ri.l_any, ↓Ri.l_sum, ↓Ri.l_min, ↓Ri.l_max, ↓Ri.l_tuple, ↓Ri.l_list, ↓Ri.l_int, ↓Ri.l_intB, ↓Ri.l_isint, ↓Ri.l_isintS, ↓Ri.l_isbool, ↓Ri.l_isboolB, ↓Ri.l_isintB, ↓Ri.l_isstr, ↓Ri.l_istuple, ↓Ri.bools_nil, ↓Ri.bools_cons, ↓Ri.bools_map, ↓Ri.ints_nil, ↓Ri.ints_cons, ↓Ri.ints_map, ↓Ri.Wa_nil, ↓Ri.Wa_cons, ↓Ri.Wa_val, ↓Ri.Wa_own, ↓Ri.Wav_val, ↓Ri.Wav_own, ↓Ri.Wav_bor, ↓Ri.Wa_slot, ↓Ri.W_callR, ↓Ri.x_call, ↓Ri.Wk_i, ↓Ri.Wn1_val, ↓Ri.Wn1_ref, ↓Ri.x_mcall, ↓Ri.x_isi, ↓Ri.x_prop, ↓Ri.Wbo_bl, ↓Ri.x_ucmp, ↓Ri.Wle_int, ↓Ri.x_ulen, ↓Ri.x_fz, ↓Ri.Wj_s, ↓Ri.Wj_0, ↓Ri.Wjd_s, ↓Ri.Wjd_0, ↓Ri.Wfi_i, ↓Ri.W_fld_ins, ↓Ri.W_fld_ref, ↓Ri.x_fld, ↓Ri.x_settle, ↓Ri.W_settle, ↓Ri.Wst_str, ↓Ri.x_mt, ↓Ri.Wml_own, ↓Ri.Wmo_l, ↓Ri.Wil_slot, ↓Ri.Wil_ref, ↓Ri.Wwr_append, ↓Ri.Wwr_extend, ↓Ri.W_wr_slot, ↓Ri.W_wr_ref, ↓Ri.x_mw, ↓Ri.Wx_s, ↓Ri.Wx_0, ↓Ri.Wwp_nil, ↓Ri.Wwp_cons, ↓Ri.Wgo_s, ↓Ri.Wgo_0, ↓Ri.Wun_nil, ↓Ri.Wun_cons, ↓Ri.Wpx_n, ↓Ri.Wpx_v, ↓Ri.Wpl_nil, ↓Ri.Wpl_cons, ↓Ri.W_compR, ↓Ri.x_comp, ↓Ri.compL_nil, ↓Ri.ifR_none, ↓Ri.ifR_some, ↓Ri.compL_cons, ↓Ri.wk_str, ↓Ri.wk_tup, ↓Ri.wk_lst, ↓Ri.wk_klst, ↓Ri.wk_r1, ↓Ri.wk_r2, ↓Ri.wk_enT, ↓Ri.wk_enL, ↓Ri.wk_zT, ↓Ri.wk_zL, ↓Ri.t_nm, ↓Ri.t_tp, ↓Ri.ts_nil, ↓Ri.ts_cons, ↓Ri.Wsb_slot, ↓Ri.Wsb_ref, ↓Ri.t_sub, ↓Ri.Wfs_s, ↓Ri.Wfs_0, ↓Ri.Wrf_r, ↓Ri.t_fld, ↓Ri.r_val, ↓Ri.r_own, ↓Ri.r_own_fld, ↓Ri.r_own_sub, ↓Ri.r_slot, ↓Ri.s_nil, ↓Ri.Wf_n, ↓Ri.Wf_r, ↓Ri.Wf_b, ↓Ri.Wf_c, ↓Ri.s_cons, ↓Ri.s_asg, ↓Ri.s_ex, ↓Ri.s_retN, ↓Ri.s_ret, ↓Ri.ret_val, ↓Ri.ret_own, ↓Ri.Wrv_val, ↓Ri.Wrv_own, ↓Ri.ret_slot, ↓Ri.s_if, ↓Ri.s_for, ↓Ri.for_nil, ↓Ri.Wfl_n, ↓Ri.Wfl_c, ↓Ri.Wfl_b, ↓Ri.Wfl_r, ↓Ri.for_cons, ↓Ri.s_while, ↓Ri.Wnm_val, ↓Ri.Wnm_own, ↓Ri.s_asg2, ↓Ri.s_pass, ↓Ri.s_brk, ↓Ri.s_cnt, ↓Ri.s_wall, ↓Ri.Wi1_i, ↓Ri.s_incfld, ↓Ri.Wre_n, ↓Ri.Wre_v, ↓Ri.Wre_o, ↓Ri.x_new, ↓Ri.x_frz, ↓Ri.Wno_n, ↓Ri.deq_ii, ↓Ri.deq_ss, ↓Ri.deq_nn, ↓Ri.deq_bb, ↓Ri.deq_ns, ↓Ri.deq_sn, ↓Ri.deq_tt, ↓Ri.deq_ll, ↓Ri.s_raise, ↓Ri.s_try, ↓Ri.Wct_nil, ↓Ri.Wct_cons, ↓Ri.W_catch, ↓Ri.compXL_nil, ↓Ri.compXL_cons, ↓Ri.W_compXR, ↓Ri.x_compX, true_and, and_true, List.length_cons, List.length_nil, gc_cons, ↓ix1, ↓ix2, ↓ix3, set1, set2, set3, ↓Wht_0, List.length_map, hm, hm2, ne_eq, not_false_eq_true, c1, c2, c3]
      rfl
theorem tk_b {ns : List Int} {r : Rw} {m : Int} (h1 : 0 < m) : 0 ≤ (tk ns r m).1 ∧ (tk ns r m).1 < m := by
  have : ∀ x : Int, 0 ≤ x.fmod m ∧ x.fmod m < m := fun x => ⟨Int.fmod_nonneg_of_pos x h1, Int.fmod_lt_of_pos x h1⟩
  unfold tk
  split
  · exact this _
  · split <;> exact this _
end
end Pg

set_option maxRecDepth 100000
set_option maxHeartbeats 0
/-! St2: what the laws draw, with two tables ahead of the row. -/
namespace Pg
open PySem Ri
section
variable {tb : Tb} {d n : Nat} {hp : List O} {Q : R → List O → Prop} {E : Xc → List O → Prop} {sl : List (Option SV)}
theorem Wl_ref2 {a b o : O} {t : List O} {K : D → Prop} : Wl ⟨sl, a :: b :: o :: t⟩ (.val (.ref 2)) K = Wol o 2 K := Wl_ref o rfl
theorem gc_cons3 {a b o' : O} {l : List O} {r : R} : gc (l.length + 1 + 1 + 1) r (a :: b :: o' :: l) = a :: b :: o' :: l := gc_len (by simp)
theorem w_taken2 (T : Has tb) {x y : O} {ns : List Int} {r : Rw} {m : Int} (h1 : 0 < m) (h2 : m < 1000000) : Wc (callD tb (d + 1) 18 [.val (.ref 2), .val (.int m)] (x :: y :: rowO ns r :: hp)) Q E = Q (.val (.int (tk ns r m).1)) (x :: y :: rowO ns (tk ns r m).2 :: hp) := by
  have hm : m ≠ 0 := by omega
  have hm2 : m ≠ 0 ∧ m.natAbs < 1073741824 := ⟨by omega, by omega⟩
  rw [U_B__law_taken T]
  unfold tk
  have c1 : (-2 ^ 64 < r.b ∧ r.b < 2 ^ 64 ∨ (-2 ^ 64 < (48271 : Int) ∧ (48271 : Int) < 2 ^ 64)) := .inr ⟨by decide, by decide⟩
  have c2 : ¬ (2147483647 : Int) = 0 := by decide
  have c3 : ¬ (7 : Int) = 0 ∧ Int.natAbs 7 < 1073741824 := by decide
  have c4 : (0 : Int) ≤ 18 ∧ (18 : Int) ≤ 1000000 ∧ Int.natAbs 10 < 2 ^ 64 := by decide
  have c5 : (10 : Int) ^ Int.toNat 18 = 10 ^ 18 := rfl
  by_cases hc : 0 < r.c
  · simp -implicitDefEqProofs (disch := (first | omega | (simp only [List.length_cons, List.length_nil, List.length_map, List.length_append]; done) | (simp only [List.length_cons, List.length_nil, List.length_map, List.length_append]; omega))) only [↓Ri.Ws_m, ↓Ri.W_ok, ↓Ri.W_opt, ↓Ri.Wo_some, ↓Ri.W_none, ↓Ri.Wo_none, ↓Ri.Wi_t, ↓Ri.Wi_f, ↓Ri.Wi_pos, ↓Ri.Wi_neg, ↓Ri.Wi_not, ↓Ri.Wi_and, ↓Ri.Wi_or, ↓Ri.Wg_s, ↓Ri.Wg_0, ↓Ri.Wt_s, ↓Ri.Wt_0, ↓Ri.Wv_val, ↓Ri.Wv_own, ↓Ri.Wv_bor, ↓Ri.Wh_s, ↓Ri.Wh_0, ↓Ri.Wol_l, ↓Ri.Wol_i, ↓Ri.Wl_int, ↓Ri.Wl_bl, ↓Ri.Wl_non, ↓Ri.Wl_str, ↓Ri.Wl_tup, ↓Ri.Wl_lst, ↓Ri.Wl_klst, ↓Ri.Wl_ins, ↓Ri.Wl_ref0, ↓Ri.Wl_own, ↓Ri.Wlv_own, ↓Ri.Wlv_bor, ↓Ri.Wl_slot, ↓Ri.Wls_nil, ↓Ri.Wls_cons, ↓Ri.Wfv_val, ↓Ri.Wfv_own, ↓Ri.W_frz_val, ↓Ri.W_frz_own, ↓Ri.W_frz_slot, ↓Ri.W_it_val, ↓Ri.W_it_own, ↓Ri.Wiv_val, ↓Ri.Wiv_bor, ↓Ri.Wiv_own, ↓Ri.W_it_slot, ↓Ri.x_slot, ↓Ri.x_cst, ↓Ri.x_bin, ↓Ri.x_un, ↓Ri.Wb_bl, ↓Ri.x_and, ↓Ri.x_or, ↓Ri.x_ite, ↓Ri.W_testR, ↓Ri.x_chain, ↓Ri.W_chainR, ↓Ri.exStar_nil, ↓Ri.exStar_f, ↓Ri.exStar_t, ↓Ri.Wit_tup, ↓Ri.Wit_lst, ↓Ri.Wit_klst, ↓Ri.x_tup, ↓Ri.x_lst, ↓Ri.optE_none, ↓Ri.optE_some, ↓Ri.Wn_int, ↓Ri.x_slice, ↓Ri.W_sliceR, ↓Ri.Wo_sliceT, ↓Ri.Wo_sliceL, ↓Ri.W_binR, ↓Ri.W_unR, ↓Ri.b_add, ↓Ri.b_addS, ↓Ri.b_addL, ↓Ri.b_addT, ↓Ri.b_sub, ↓Ri.b_mul, ↓Ri.b_mulL, ↓Ri.b_fdiv, ↓Ri.b_mod, ↓Ri.b_pow, ↓Ri.b_lt, ↓Ri.b_gt, ↓Ri.b_le, ↓Ri.b_ge, ↓Ri.b_ltS, ↓Ri.b_eq, ↓Ri.b_ne, ↓Ri.b_in, ↓Ri.b_notin, ↓Ri.b_ix, ↓Ri.ix_tup, ↓Ri.ix_lst, ↓Ri.ix_klst, ↓Ri.ix_str, ↓Ri.u_not, ↓Ri.u_neg, ↓Ri.at0, ↓Ri.at1, ↓Ri.at2, ↓Ri.at3, ↓Ri.exs_nil, ↓Ri.exs_cons, ↓Ri.exDs_nil, ↓Ri.exDs_cons, ↓Ri.exIs_nil, ↓Ri.exIs_cons, ↓Ri.x_bl, ↓Ri.l_lenS, ↓Ri.l_lenT, ↓Ri.l_lenL, ↓Ri.l_lenK, ↓Ri.l_all, ↓Ri.l_any, ↓Ri.l_sum, ↓Ri.l_min, ↓Ri.l_max, ↓Ri.l_tuple, ↓Ri.l_list, ↓Ri.l_int, ↓Ri.l_intB, ↓Ri.l_isint, ↓Ri.l_isintS, ↓Ri.l_isbool, ↓Ri.l_isboolB, ↓Ri.l_isintB, ↓Ri.l_isstr, ↓Ri.l_istuple, ↓Ri.bools_nil, ↓Ri.bools_cons, ↓Ri.bools_map, ↓Ri.ints_nil, ↓Ri.ints_cons, ↓Ri.ints_map, ↓Ri.Wa_nil, ↓Ri.Wa_cons, ↓Ri.Wa_val, ↓Ri.Wa_own, ↓Ri.Wav_val, ↓Ri.Wav_own, ↓Ri.Wav_bor, ↓Ri.Wa_slot, ↓Ri.W_callR, ↓Ri.x_call, ↓Ri.Wk_i, ↓Ri.Wn1_val, ↓Ri.Wn1_ref, ↓Ri.x_mcall, ↓Ri.x_isi, ↓Ri.x_prop, ↓Ri.Wbo_bl, ↓Ri.x_ucmp, ↓Ri.Wle_int, ↓Ri.x_ulen, ↓Ri.x_fz, ↓Ri.Wj_s, ↓Ri.Wj_0, ↓Ri.Wjd_s, ↓Ri.Wjd_0, ↓Ri.Wfi_i, ↓Ri.W_fld_ins, ↓Ri.W_fld_ref, ↓Ri.x_fld, ↓Ri.x_settle, ↓Ri.W_settle, ↓Ri.Wst_str, ↓Ri.x_mt, ↓Ri.Wml_own, ↓Ri.Wmo_l, ↓Ri.Wil_slot, ↓Ri.Wil_ref, ↓Ri.Wwr_append, ↓Ri.Wwr_extend, ↓Ri.W_wr_slot, ↓Ri.W_wr_ref, ↓Ri.x_mw, ↓Ri.Wx_s, ↓Ri.Wx_0, ↓Ri.Wwp_nil, ↓Ri.Wwp_cons, ↓Ri.Wgo_s, ↓Ri.Wgo_0, ↓Ri.Wun_nil, ↓Ri.Wun_cons, ↓Ri.Wpx_n, ↓Ri.Wpx_v, ↓Ri.Wpl_nil, ↓Ri.Wpl_cons, ↓Ri.W_compR, ↓Ri.x_comp, ↓Ri.compL_nil, ↓Ri.ifR_none, ↓Ri.ifR_some, ↓Ri.compL_cons, ↓Ri.wk_str, ↓Ri.wk_tup, ↓Ri.wk_lst, ↓Ri.wk_klst, ↓Ri.wk_r1, ↓Ri.wk_r2, ↓Ri.wk_enT, ↓Ri.wk_enL, ↓Ri.wk_zT, ↓Ri.wk_zL, ↓Ri.t_nm, ↓Ri.t_tp, ↓Ri.ts_nil, ↓Ri.ts_cons, ↓Ri.Wsb_slot, ↓Ri.Wsb_ref, ↓Ri.t_sub, ↓Ri.Wfs_s, ↓Ri.Wfs_0, ↓Ri.Wrf_r, ↓Ri.t_fld, ↓Ri.r_val, ↓Ri.r_own, ↓Ri.r_own_fld, ↓Ri.r_own_sub, ↓Ri.r_slot, ↓Ri.s_nil, ↓Ri.Wf_n, ↓Ri.Wf_r, ↓Ri.Wf_b, ↓Ri.Wf_c, ↓Ri.s_cons, ↓Ri.s_asg, ↓Ri.s_ex, ↓Ri.s_retN, ↓Ri.s_ret, ↓Ri.ret_val, ↓Ri.ret_own, ↓Ri.Wrv_val, ↓Ri.Wrv_own, ↓Ri.ret_slot, ↓Ri.s_if, ↓Ri.s_for, ↓Ri.for_nil, ↓Ri.Wfl_n, ↓Ri.Wfl_c, ↓Ri.Wfl_b, ↓Ri.Wfl_r, ↓Ri.for_cons, ↓Ri.s_while, ↓Ri.Wnm_val, ↓Ri.Wnm_own, ↓Ri.s_asg2, ↓Ri.s_pass, ↓Ri.s_brk, ↓Ri.s_cnt, ↓Ri.s_wall, ↓Ri.Wi1_i, ↓Ri.s_incfld, ↓Ri.Wre_n, ↓Ri.Wre_v, ↓Ri.Wre_o, ↓Ri.x_new, ↓Ri.x_frz, ↓Ri.Wno_n, ↓Ri.deq_ii, ↓Ri.deq_ss, ↓Ri.deq_nn, ↓Ri.deq_bb, ↓Ri.deq_ns, ↓Ri.deq_sn, ↓Ri.deq_tt, ↓Ri.deq_ll, ↓Ri.s_raise, ↓Ri.s_try, ↓Ri.Wct_nil, ↓Ri.Wct_cons, ↓Ri.W_catch, ↓Ri.compXL_nil, ↓Ri.compXL_cons, ↓Ri.W_compXR, ↓Ri.x_compX, true_and, and_true, List.length_cons, List.length_nil, gc_cons3, hc, ↓Wl_ref2, ↓ix1, ↓ix2, ↓ix3, set1, set2, set3, ↓Wht_0, ↓Wht_s, if_true, List.length_map, hm, hm2, ne_eq, not_false_eq_true]
  · simp only [hc, if_false]
    by_cases ha : r.a < ns.length
    · have e : ns[r.a]? = some ns[r.a] := List.getElem?_eq_getElem ha
      have e' : (ns.map D.int)[r.a]? = some (.int ns[r.a]) := by simp [e]
      simp only [e]
      by_cases h18 : 10 ^ 18 ≤ ns[r.a]
      · simp -implicitDefEqProofs (disch := (first | omega | (simp only [List.length_cons, List.length_nil, List.length_map, List.length_append]; done) | (simp only [List.length_cons, List.length_nil, List.length_map, List.length_append]; omega))) only [↓Ri.Ws_m, ↓Ri.W_ok, ↓Ri.W_opt, ↓Ri.Wo_some, ↓Ri.W_none, ↓Ri.Wo_none, ↓Ri.Wi_t, ↓Ri.Wi_f, ↓Ri.Wi_pos, ↓Ri.Wi_neg, ↓Ri.Wi_not, ↓Ri.Wi_and, ↓Ri.Wi_or, ↓Ri.Wg_s, ↓Ri.Wg_0, ↓Ri.Wt_s, ↓Ri.Wt_0, ↓Ri.Wv_val, ↓Ri.Wv_own, ↓Ri.Wv_bor, ↓Ri.Wh_s, ↓Ri.Wh_0, ↓Ri.Wol_l, ↓Ri.Wol_i, ↓Ri.Wl_int, ↓Ri.Wl_bl, ↓Ri.Wl_non, ↓Ri.Wl_str, ↓Ri.Wl_tup, ↓Ri.Wl_lst, ↓Ri.Wl_klst, ↓Ri.Wl_ins, ↓Ri.Wl_ref0, ↓Ri.Wl_own, ↓Ri.Wlv_own, ↓Ri.Wlv_bor, ↓Ri.Wl_slot, ↓Ri.Wls_nil, ↓Ri.Wls_cons, ↓Ri.Wfv_val, ↓Ri.Wfv_own, ↓Ri.W_frz_val, ↓Ri.W_frz_own, ↓Ri.W_frz_slot, ↓Ri.W_it_val, ↓Ri.W_it_own, ↓Ri.Wiv_val, ↓Ri.Wiv_bor, ↓Ri.Wiv_own, ↓Ri.W_it_slot, ↓Ri.x_slot, ↓Ri.x_cst, ↓Ri.x_bin, ↓Ri.x_un, ↓Ri.Wb_bl, ↓Ri.x_and, ↓Ri.x_or, ↓Ri.x_ite, ↓Ri.W_testR, ↓Ri.x_chain, ↓Ri.W_chainR, ↓Ri.exStar_nil, ↓Ri.exStar_f, ↓Ri.exStar_t, ↓Ri.Wit_tup, ↓Ri.Wit_lst, ↓Ri.Wit_klst, ↓Ri.x_tup, ↓Ri.x_lst, ↓Ri.optE_none, ↓Ri.optE_some, ↓Ri.Wn_int, ↓Ri.x_slice, ↓Ri.W_sliceR, ↓Ri.Wo_sliceT, ↓Ri.Wo_sliceL, ↓Ri.W_binR, ↓Ri.W_unR, ↓Ri.b_add, ↓Ri.b_addS, ↓Ri.b_addL, ↓Ri.b_addT, ↓Ri.b_sub, ↓Ri.b_mul, ↓Ri.b_mulL, ↓Ri.b_fdiv, ↓Ri.b_mod, ↓Ri.b_pow, ↓Ri.b_lt, ↓Ri.b_gt, ↓Ri.b_le, ↓Ri.b_ge, ↓Ri.b_ltS, ↓Ri.b_eq, ↓Ri.b_ne, ↓Ri.b_in, ↓Ri.b_notin, ↓Ri.b_ix, ↓Ri.ix_tup, ↓Ri.ix_lst, ↓Ri.ix_klst, ↓Ri.ix_str, ↓Ri.u_not, ↓Ri.u_neg, ↓Ri.at0, ↓Ri.at1, ↓Ri.at2, ↓Ri.at3, ↓Ri.exs_nil, ↓Ri.exs_cons, ↓Ri.exDs_nil, ↓Ri.exDs_cons, ↓Ri.exIs_nil, ↓Ri.exIs_cons, ↓Ri.x_bl, ↓Ri.l_lenS, ↓Ri.l_lenT, ↓Ri.l_lenL, ↓Ri.l_lenK, ↓Ri.l_all, ↓Ri.l_any, ↓Ri.l_sum, ↓Ri.l_min, ↓Ri.l_max, ↓Ri.l_tuple, ↓Ri.l_list, ↓Ri.l_int, ↓Ri.l_intB, ↓Ri.l_isint, ↓Ri.l_isintS, ↓Ri.l_isbool, ↓Ri.l_isboolB, ↓Ri.l_isintB, ↓Ri.l_isstr, ↓Ri.l_istuple, ↓Ri.bools_nil, ↓Ri.bools_cons, ↓Ri.bools_map, ↓Ri.ints_nil, ↓Ri.ints_cons, ↓Ri.ints_map, ↓Ri.Wa_nil, ↓Ri.Wa_cons, ↓Ri.Wa_val, ↓Ri.Wa_own, ↓Ri.Wav_val, ↓Ri.Wav_own, ↓Ri.Wav_bor, ↓Ri.Wa_slot, ↓Ri.W_callR, ↓Ri.x_call, ↓Ri.Wk_i, ↓Ri.Wn1_val, ↓Ri.Wn1_ref, ↓Ri.x_mcall, ↓Ri.x_isi, ↓Ri.x_prop, ↓Ri.Wbo_bl, ↓Ri.x_ucmp, ↓Ri.Wle_int, ↓Ri.x_ulen, ↓Ri.x_fz, ↓Ri.Wj_s, ↓Ri.Wj_0, ↓Ri.Wjd_s, ↓Ri.Wjd_0, ↓Ri.Wfi_i, ↓Ri.W_fld_ins, ↓Ri.W_fld_ref, ↓Ri.x_fld, ↓Ri.x_settle, ↓Ri.W_settle, ↓Ri.Wst_str, ↓Ri.x_mt, ↓Ri.Wml_own, ↓Ri.Wmo_l, ↓Ri.Wil_slot, ↓Ri.Wil_ref, ↓Ri.Wwr_append, ↓Ri.Wwr_extend, ↓Ri.W_wr_slot, ↓Ri.W_wr_ref, ↓Ri.x_mw, ↓Ri.Wx_s, ↓Ri.Wx_0, ↓Ri.Wwp_nil, ↓Ri.Wwp_cons, ↓Ri.Wgo_s, ↓Ri.Wgo_0, ↓Ri.Wun_nil, ↓Ri.Wun_cons, ↓Ri.Wpx_n, ↓Ri.Wpx_v, ↓Ri.Wpl_nil, ↓Ri.Wpl_cons, ↓Ri.W_compR, ↓Ri.x_comp, ↓Ri.compL_nil, ↓Ri.ifR_none, ↓Ri.ifR_some, ↓Ri.compL_cons, ↓Ri.wk_str, ↓Ri.wk_tup, ↓Ri.wk_lst, ↓Ri.wk_klst, ↓Ri.wk_r1, ↓Ri.wk_r2, ↓Ri.wk_enT, ↓Ri.wk_enL, ↓Ri.wk_zT, ↓Ri.wk_zL, ↓Ri.t_nm, ↓Ri.t_tp, ↓Ri.ts_nil, ↓Ri.ts_cons, ↓Ri.Wsb_slot, ↓Ri.Wsb_ref, ↓Ri.t_sub, ↓Ri.Wfs_s, ↓Ri.Wfs_0, ↓Ri.Wrf_r, ↓Ri.t_fld, ↓Ri.r_val, ↓Ri.r_own, ↓Ri.r_own_fld, ↓Ri.r_own_sub, ↓Ri.r_slot, ↓Ri.s_nil, ↓Ri.Wf_n, ↓Ri.Wf_r, ↓Ri.Wf_b, ↓Ri.Wf_c, ↓Ri.s_cons, ↓Ri.s_asg, ↓Ri.s_ex, ↓Ri.s_retN, ↓Ri.s_ret, ↓Ri.ret_val, ↓Ri.ret_own, ↓Ri.Wrv_val, ↓Ri.Wrv_own, ↓Ri.ret_slot, ↓Ri.s_if, ↓Ri.s_for, ↓Ri.for_nil, ↓Ri.Wfl_n, ↓Ri.Wfl_c, ↓Ri.Wfl_b, ↓Ri.Wfl_r, ↓Ri.for_cons, ↓Ri.s_while, ↓Ri.Wnm_val, ↓Ri.Wnm_own, ↓Ri.s_asg2, ↓Ri.s_pass, ↓Ri.s_brk, ↓Ri.s_cnt, ↓Ri.s_wall, ↓Ri.Wi1_i, ↓Ri.s_incfld, ↓Ri.Wre_n, ↓Ri.Wre_v, ↓Ri.Wre_o, ↓Ri.x_new, ↓Ri.x_frz, ↓Ri.Wno_n, ↓Ri.deq_ii, ↓Ri.deq_ss, ↓Ri.deq_nn, ↓Ri.deq_bb, ↓Ri.deq_ns, ↓Ri.deq_sn, ↓Ri.deq_tt, ↓Ri.deq_ll, ↓Ri.s_raise, ↓Ri.s_try, ↓Ri.Wct_nil, ↓Ri.Wct_cons, ↓Ri.W_catch, ↓Ri.compXL_nil, ↓Ri.compXL_cons, ↓Ri.W_compXR, ↓Ri.x_compX, true_and, and_true, List.length_cons, List.length_nil, gc_cons3, ↓Wl_ref2, ↓ix1, ↓ix2, ↓ix3, set1, set2, set3, ↓Wht_0, ↓Wht_s, List.length_map, ↓Ri.at_of e' (show (r.a : Int) + 1 - 1 = r.a by omega), hm, hm2, ne_eq, not_false_eq_true, c1, c2, c3, c4, c5, h18, ↓Ri.Wi_pos (show (10 : Int) ^ Int.toNat 18 ≤ ns[r.a] from h18), if_true]
        rfl
      · simp -implicitDefEqProofs (disch := (first | omega | (simp only [List.length_cons, List.length_nil, List.length_map, List.length_append]; done) | (simp only [List.length_cons, List.length_nil, List.length_map, List.length_append]; omega))) only [↓Ri.Ws_m, ↓Ri.W_ok, ↓Ri.W_opt, ↓Ri.Wo_some, ↓Ri.W_none, ↓Ri.Wo_none, ↓Ri.Wi_t, ↓Ri.Wi_f, ↓Ri.Wi_pos, ↓Ri.Wi_neg, ↓Ri.Wi_not, ↓Ri.Wi_and, ↓Ri.Wi_or, ↓Ri.Wg_s, ↓Ri.Wg_0, ↓Ri.Wt_s, ↓Ri.Wt_0, ↓Ri.Wv_val, ↓Ri.Wv_own, ↓Ri.Wv_bor, ↓Ri.Wh_s, ↓Ri.Wh_0, ↓Ri.Wol_l, ↓Ri.Wol_i, ↓Ri.Wl_int, ↓Ri.Wl_bl, ↓Ri.Wl_non, ↓Ri.Wl_str, ↓Ri.Wl_tup, ↓Ri.Wl_lst, ↓Ri.Wl_klst, ↓Ri.Wl_ins, ↓Ri.Wl_ref0, ↓Ri.Wl_own, ↓Ri.Wlv_own, ↓Ri.Wlv_bor, ↓Ri.Wl_slot, ↓Ri.Wls_nil, ↓Ri.Wls_cons, ↓Ri.Wfv_val, ↓Ri.Wfv_own, ↓Ri.W_frz_val, ↓Ri.W_frz_own, ↓Ri.W_frz_slot, ↓Ri.W_it_val, ↓Ri.W_it_own, ↓Ri.Wiv_val, ↓Ri.Wiv_bor, ↓Ri.Wiv_own, ↓Ri.W_it_slot, ↓Ri.x_slot, ↓Ri.x_cst, ↓Ri.x_bin, ↓Ri.x_un, ↓Ri.Wb_bl, ↓Ri.x_and, ↓Ri.x_or, ↓Ri.x_ite, ↓Ri.W_testR, ↓Ri.x_chain, ↓Ri.W_chainR, ↓Ri.exStar_nil, ↓Ri.exStar_f, ↓Ri.exStar_t, ↓Ri.Wit_tup, ↓Ri.Wit_lst, ↓Ri.Wit_klst, ↓Ri.x_tup, ↓Ri.x_lst, ↓Ri.optE_none, ↓Ri.optE_some, ↓Ri.Wn_int, ↓Ri.x_slice, ↓Ri.W_sliceR, ↓Ri.Wo_sliceT, ↓Ri.Wo_sliceL, ↓Ri.W_binR, ↓Ri.W_unR, ↓Ri.b_add, ↓Ri.b_addS, ↓Ri.b_addL, ↓Ri.b_addT, ↓Ri.b_sub, ↓Ri.b_mul, ↓Ri.b_mulL, ↓Ri.b_fdiv, ↓Ri.b_mod, ↓Ri.b_pow, ↓Ri.b_lt, ↓Ri.b_gt, ↓Ri.b_le, ↓Ri.b_ge, ↓Ri.b_ltS, ↓Ri.b_eq, ↓Ri.b_ne, ↓Ri.b_in, ↓Ri.b_notin, ↓Ri.b_ix, ↓Ri.ix_tup, ↓Ri.ix_lst, ↓Ri.ix_klst, ↓Ri.ix_str, ↓Ri.u_not, ↓Ri.u_neg, ↓Ri.at0, ↓Ri.at1, ↓Ri.at2, ↓Ri.at3, ↓Ri.exs_nil, ↓Ri.exs_cons, ↓Ri.exDs_nil, ↓Ri.exDs_cons, ↓Ri.exIs_nil, ↓Ri.exIs_cons, ↓Ri.x_bl, ↓Ri.l_lenS, ↓Ri.l_lenT, ↓Ri.l_lenL, ↓Ri.l_lenK, ↓Ri.l_all, ↓Ri.l_any, ↓Ri.l_sum, ↓Ri.l_min, ↓Ri.l_max, ↓Ri.l_tuple, ↓Ri.l_list, ↓Ri.l_int, ↓Ri.l_intB, ↓Ri.l_isint, ↓Ri.l_isintS, ↓Ri.l_isbool, ↓Ri.l_isboolB, ↓Ri.l_isintB, ↓Ri.l_isstr, ↓Ri.l_istuple, ↓Ri.bools_nil, ↓Ri.bools_cons, ↓Ri.bools_map, ↓Ri.ints_nil, ↓Ri.ints_cons, ↓Ri.ints_map, ↓Ri.Wa_nil, ↓Ri.Wa_cons, ↓Ri.Wa_val, ↓Ri.Wa_own, ↓Ri.Wav_val, ↓Ri.Wav_own, ↓Ri.Wav_bor, ↓Ri.Wa_slot, ↓Ri.W_callR, ↓Ri.x_call, ↓Ri.Wk_i, ↓Ri.Wn1_val, ↓Ri.Wn1_ref, ↓Ri.x_mcall, ↓Ri.x_isi, ↓Ri.x_prop, ↓Ri.Wbo_bl, ↓Ri.x_ucmp, ↓Ri.Wle_int, ↓Ri.x_ulen, ↓Ri.x_fz, ↓Ri.Wj_s, ↓Ri.Wj_0, ↓Ri.Wjd_s, ↓Ri.Wjd_0, ↓Ri.Wfi_i, ↓Ri.W_fld_ins, ↓Ri.W_fld_ref, ↓Ri.x_fld, ↓Ri.x_settle, ↓Ri.W_settle, ↓Ri.Wst_str, ↓Ri.x_mt, ↓Ri.Wml_own, ↓Ri.Wmo_l, ↓Ri.Wil_slot, ↓Ri.Wil_ref, ↓Ri.Wwr_append, ↓Ri.Wwr_extend, ↓Ri.W_wr_slot, ↓Ri.W_wr_ref, ↓Ri.x_mw, ↓Ri.Wx_s, ↓Ri.Wx_0, ↓Ri.Wwp_nil, ↓Ri.Wwp_cons, ↓Ri.Wgo_s, ↓Ri.Wgo_0, ↓Ri.Wun_nil, ↓Ri.Wun_cons, ↓Ri.Wpx_n, ↓Ri.Wpx_v, ↓Ri.Wpl_nil, ↓Ri.Wpl_cons, ↓Ri.W_compR, ↓Ri.x_comp, ↓Ri.compL_nil, ↓Ri.ifR_none, ↓Ri.ifR_some, ↓Ri.compL_cons, ↓Ri.wk_str, ↓Ri.wk_tup, ↓Ri.wk_lst, ↓Ri.wk_klst, ↓Ri.wk_r1, ↓Ri.wk_r2, ↓Ri.wk_enT, ↓Ri.wk_enL, ↓Ri.wk_zT, ↓Ri.wk_zL, ↓Ri.t_nm, ↓Ri.t_tp, ↓Ri.ts_nil, ↓Ri.ts_cons, ↓Ri.Wsb_slot, ↓Ri.Wsb_ref, ↓Ri.t_sub, ↓Ri.Wfs_s, ↓Ri.Wfs_0, ↓Ri.Wrf_r, ↓Ri.t_fld, ↓Ri.r_val, ↓Ri.r_own, ↓Ri.r_own_fld, ↓Ri.r_own_sub, ↓Ri.r_slot, ↓Ri.s_nil, ↓Ri.Wf_n, ↓Ri.Wf_r, ↓Ri.Wf_b, ↓Ri.Wf_c, ↓Ri.s_cons, ↓Ri.s_asg, ↓Ri.s_ex, ↓Ri.s_retN, ↓Ri.s_ret, ↓Ri.ret_val, ↓Ri.ret_own, ↓Ri.Wrv_val, ↓Ri.Wrv_own, ↓Ri.ret_slot, ↓Ri.s_if, ↓Ri.s_for, ↓Ri.for_nil, ↓Ri.Wfl_n, ↓Ri.Wfl_c, ↓Ri.Wfl_b, ↓Ri.Wfl_r, ↓Ri.for_cons, ↓Ri.s_while, ↓Ri.Wnm_val, ↓Ri.Wnm_own, ↓Ri.s_asg2, ↓Ri.s_pass, ↓Ri.s_brk, ↓Ri.s_cnt, ↓Ri.s_wall, ↓Ri.Wi1_i, ↓Ri.s_incfld, ↓Ri.Wre_n, ↓Ri.Wre_v, ↓Ri.Wre_o, ↓Ri.x_new, ↓Ri.x_frz, ↓Ri.Wno_n, ↓Ri.deq_ii, ↓Ri.deq_ss, ↓Ri.deq_nn, ↓Ri.deq_bb, ↓Ri.deq_ns, ↓Ri.deq_sn, ↓Ri.deq_tt, ↓Ri.deq_ll, ↓Ri.s_raise, ↓Ri.s_try, ↓Ri.Wct_nil, ↓Ri.Wct_cons, ↓Ri.W_catch, ↓Ri.compXL_nil, ↓Ri.compXL_cons, ↓Ri.W_compXR, ↓Ri.x_compX, true_and, and_true, List.length_cons, List.length_nil, gc_cons3, ↓Wl_ref2, ↓ix1, ↓ix2, ↓ix3, set1, set2, set3, ↓Wht_0, ↓Wht_s, List.length_map, ↓Ri.at_of e' (show (r.a : Int) + 1 - 1 = r.a by omega), hm, hm2, ne_eq, not_false_eq_true, c1, c2, c3, c4, c5, h18, ↓Ri.Wi_neg (show ¬ (10 : Int) ^ Int.toNat 18 ≤ ns[r.a] from h18), if_false]
        rfl
    · have e : ns[r.a]? = none := List.getElem?_eq_none (by omega)
      simp only [e]
      simp -implicitDefEqProofs (disch := (first | omega | (simp only [List.length_cons, List.length_nil, List.length_map, List.length_append]; done) | (simp only [List.length_cons, List.length_nil, List.length_map, List.length_append]; omega))) only [↓Ri.Ws_m, ↓Ri.W_ok, ↓Ri.W_opt, ↓Ri.Wo_some, ↓Ri.W_none, ↓Ri.Wo_none, ↓Ri.Wi_t, ↓Ri.Wi_f, ↓Ri.Wi_pos, ↓Ri.Wi_neg, ↓Ri.Wi_not, ↓Ri.Wi_and, ↓Ri.Wi_or, ↓Ri.Wg_s, ↓Ri.Wg_0, ↓Ri.Wt_s, ↓Ri.Wt_0, ↓Ri.Wv_val, ↓Ri.Wv_own, ↓Ri.Wv_bor, ↓Ri.Wh_s, ↓Ri.Wh_0, ↓Ri.Wol_l, ↓Ri.Wol_i, ↓Ri.Wl_int, ↓Ri.Wl_bl, ↓Ri.Wl_non, ↓Ri.Wl_str, ↓Ri.Wl_tup, ↓Ri.Wl_lst, ↓Ri.Wl_klst, ↓Ri.Wl_ins, ↓Ri.Wl_ref0, ↓Ri.Wl_own, ↓Ri.Wlv_own, ↓Ri.Wlv_bor, ↓Ri.Wl_slot, ↓Ri.Wls_nil, ↓Ri.Wls_cons, ↓Ri.Wfv_val, ↓Ri.Wfv_own, ↓Ri.W_frz_val, ↓Ri.W_frz_own, ↓Ri.W_frz_slot, ↓Ri.W_it_val, ↓Ri.W_it_own, ↓Ri.Wiv_val, ↓Ri.Wiv_bor, ↓Ri.Wiv_own, ↓Ri.W_it_slot, ↓Ri.x_slot, ↓Ri.x_cst, ↓Ri.x_bin, ↓Ri.x_un, ↓Ri.Wb_bl, ↓Ri.x_and, ↓Ri.x_or, ↓Ri.x_ite, ↓Ri.W_testR, ↓Ri.x_chain, ↓Ri.W_chainR, ↓Ri.exStar_nil, ↓Ri.exStar_f, ↓Ri.exStar_t, ↓Ri.Wit_tup, ↓Ri.Wit_lst, ↓Ri.Wit_klst, ↓Ri.x_tup, ↓Ri.x_lst, ↓Ri.optE_none, ↓Ri.optE_some, ↓Ri.Wn_int, ↓Ri.x_slice, ↓Ri.W_sliceR, ↓Ri.Wo_sliceT, ↓Ri.Wo_sliceL, ↓Ri.W_binR, ↓Ri.W_unR, ↓Ri.b_add, ↓Ri.b_addS, ↓Ri.b_addL, ↓Ri.b_addT, ↓Ri.b_sub, ↓Ri.b_mul, ↓Ri.b_mulL, ↓Ri.b_fdiv, ↓Ri.b_mod, ↓Ri.b_pow, ↓Ri.b_lt, ↓Ri.b_gt, ↓Ri.b_le, ↓Ri.b_ge, ↓Ri.b_ltS, ↓Ri.b_eq, ↓Ri.b_ne, ↓Ri.b_in, ↓Ri.b_notin, ↓Ri.b_ix, ↓Ri.ix_tup, ↓Ri.ix_lst, ↓Ri.ix_klst, ↓Ri.ix_str, ↓Ri.u_not, ↓Ri.u_neg, ↓Ri.at0, ↓Ri.at1, ↓Ri.at2, ↓Ri.at3, ↓Ri.exs_nil, ↓Ri.exs_cons, ↓Ri.exDs_nil, ↓Ri.exDs_cons, ↓Ri.exIs_nil, ↓Ri.exIs_cons, ↓Ri.x_bl, ↓Ri.l_lenS, ↓Ri.l_lenT, ↓Ri.l_lenL, ↓Ri.l_lenK, ↓Ri.l_all, ↓Ri.l_any, ↓Ri.l_sum, ↓Ri.l_min, ↓Ri.l_max, ↓Ri.l_tuple, ↓Ri.l_list, ↓Ri.l_int, ↓Ri.l_intB, ↓Ri.l_isint, ↓Ri.l_isintS, ↓Ri.l_isbool, ↓Ri.l_isboolB, ↓Ri.l_isintB, ↓Ri.l_isstr, ↓Ri.l_istuple, ↓Ri.bools_nil, ↓Ri.bools_cons, ↓Ri.bools_map, ↓Ri.ints_nil, ↓Ri.ints_cons, ↓Ri.ints_map, ↓Ri.Wa_nil, ↓Ri.Wa_cons, ↓Ri.Wa_val, ↓Ri.Wa_own, ↓Ri.Wav_val, ↓Ri.Wav_own, ↓Ri.Wav_bor, ↓Ri.Wa_slot, ↓Ri.W_callR, ↓Ri.x_call, ↓Ri.Wk_i, ↓Ri.Wn1_val, ↓Ri.Wn1_ref, ↓Ri.x_mcall, ↓Ri.x_isi, ↓Ri.x_prop, ↓Ri.Wbo_bl, ↓Ri.x_ucmp, ↓Ri.Wle_int, ↓Ri.x_ulen, ↓Ri.x_fz, ↓Ri.Wj_s, ↓Ri.Wj_0, ↓Ri.Wjd_s, ↓Ri.Wjd_0, ↓Ri.Wfi_i, ↓Ri.W_fld_ins, ↓Ri.W_fld_ref, ↓Ri.x_fld, ↓Ri.x_settle, ↓Ri.W_settle, ↓Ri.Wst_str, ↓Ri.x_mt, ↓Ri.Wml_own, ↓Ri.Wmo_l, ↓Ri.Wil_slot, ↓Ri.Wil_ref, ↓Ri.Wwr_append, ↓Ri.Wwr_extend, ↓Ri.W_wr_slot, ↓Ri.W_wr_ref, ↓Ri.x_mw, ↓Ri.Wx_s, ↓Ri.Wx_0, ↓Ri.Wwp_nil, ↓Ri.Wwp_cons, ↓Ri.Wgo_s, ↓Ri.Wgo_0, ↓Ri.Wun_nil, ↓Ri.Wun_cons, ↓Ri.Wpx_n, ↓Ri.Wpx_v, ↓Ri.Wpl_nil, ↓Ri.Wpl_cons, ↓Ri.W_compR, ↓Ri.x_comp, ↓Ri.compL_nil, ↓Ri.ifR_none, ↓Ri.ifR_some, ↓Ri.compL_cons, ↓Ri.wk_str, ↓Ri.wk_tup, ↓Ri.wk_lst, ↓Ri.wk_klst, ↓Ri.wk_r1, ↓Ri.wk_r2, ↓Ri.wk_enT, ↓Ri.wk_enL, ↓Ri.wk_zT, ↓Ri.wk_zL, ↓Ri.t_nm, ↓Ri.t_tp, ↓Ri.ts_nil, ↓Ri.ts_cons, ↓Ri.Wsb_slot, ↓Ri.Wsb_ref, ↓Ri.t_sub, ↓Ri.Wfs_s, ↓Ri.Wfs_0, ↓Ri.Wrf_r, ↓Ri.t_fld, ↓Ri.r_val, ↓Ri.r_own, ↓Ri.r_own_fld, ↓Ri.r_own_sub, ↓Ri.r_slot, ↓Ri.s_nil, ↓Ri.Wf_n, ↓Ri.Wf_r, ↓Ri.Wf_b, ↓Ri.Wf_c, ↓Ri.s_cons, ↓Ri.s_asg, ↓Ri.s_ex, ↓Ri.s_retN, ↓Ri.s_ret, ↓Ri.ret_val, ↓Ri.ret_own, ↓Ri.Wrv_val, ↓Ri.Wrv_own, ↓Ri.ret_slot, ↓Ri.s_if, ↓Ri.s_for, ↓Ri.for_nil, ↓Ri.Wfl_n, ↓Ri.Wfl_c, ↓Ri.Wfl_b, ↓Ri.Wfl_r, ↓Ri.for_cons, ↓Ri.s_while, ↓Ri.Wnm_val, ↓Ri.Wnm_own, ↓Ri.s_asg2, ↓Ri.s_pass, ↓Ri.s_brk, ↓Ri.s_cnt, ↓Ri.s_wall, ↓Ri.Wi1_i, ↓Ri.s_incfld, ↓Ri.Wre_n, ↓Ri.Wre_v, ↓Ri.Wre_o, ↓Ri.x_new, ↓Ri.x_frz, ↓Ri.Wno_n, ↓Ri.deq_ii, ↓Ri.deq_ss, ↓Ri.deq_nn, ↓Ri.deq_bb, ↓Ri.deq_ns, ↓Ri.deq_sn, ↓Ri.deq_tt, ↓Ri.deq_ll, ↓Ri.s_raise, ↓Ri.s_try, ↓Ri.Wct_nil, ↓Ri.Wct_cons, ↓Ri.W_catch, ↓Ri.compXL_nil, ↓Ri.compXL_cons, ↓Ri.W_compXR, ↓Ri.x_compX, true_and, and_true, List.length_cons, List.length_nil, gc_cons3, ↓Wl_ref2, ↓ix1, ↓ix2, ↓ix3, set1, set2, set3, ↓Wht_0, ↓Wht_s, List.length_map, hm, hm2, ne_eq, not_false_eq_true, c1, c2, c3]
      rfl
end
end Pg

set_option maxRecDepth 100000
set_option maxHeartbeats 0
namespace L45
open PySem PySem.Spec PyProof.Rows L2 He Ri Pg
def top (i : Nat) : Stmt := PySem.Challenge.pw_coldcrates_k45_texts_rejected.main.body.getD i (.Pass ⟨0, 0, 0, 0⟩)
abbrev s0 : Stmt := top 13
abbrev s1 : Stmt := top 14
abbrev s2 : Stmt := top 15
abbrev s3 : Stmt := top 16
abbrev s4 : Stmt := top 17
abbrev s5 : Stmt := inClass (top 18) 1
abbrev s6 : Stmt := inClass (top 18) 2
abbrev s7 : Stmt := inClass (top 18) 3
abbrev s8 : Stmt := inClass (top 18) 5
abbrev s9 : Stmt := inClass (top 18) 6
abbrev s19 : Stmt := top 24
abbrev s20 : Stmt := inClass (top 25) 0
abbrev s21 : Stmt := inClass (top 25) 1
abbrev s22 : Stmt := inClass (top 25) 2
abbrev s23 : Stmt := inClass (top 25) 3
abbrev s24 : Stmt := inClass (top 25) 4
abbrev s25 : Stmt := top 26
abbrev s26 : Stmt := top 27
abbrev s18 : Stmt := top 29
abbrev s1000 : Stmt := top 30
abbrev s1001 : Stmt := top 31
def L45__law_place : List Stm := [.tryR [.ex (.call 26 [(.mt .join (.cst (.str "\n")) [(.slot 0)])])] [⟨[3], some 1, (.pair (.fld 0) (.fld 1))⟩, ⟨[1], some 1, (.pair (.cst (.str "store")) (.fld 0))⟩],
    .ret (some (.cst .non))]
def L45_law_L0 : List Stm := [.asg (.nm 6) (.call 18 [(.slot 1), (.cst (.int 2))]),
    .asg (.tp [(.nm 7), (.nm 9)]) (.bin .ix (.slot 3) (.call 18 [(.slot 1), (.bl .len [(.slot 3)])])),
    .if_ (.bin .ne (.call 1000 [(.bin .add (.bin .add (.slice (.slot 2) none (some (.slot 6))) (.lst [(false, (.slot 7))])) (.slice (.slot 2) (some (.bin .add (.slot 6) (.cst (.int 1)))) none))]) (.tup [(false, (.slot 6)), (false, (.slot 9))])) [.ret (some (.cst (.bl false)))] [],
    .asg (.tp [(.nm 7), (.nm 9)]) (.bin .ix (.slot 4) (.call 18 [(.slot 1), (.bl .len [(.slot 4)])])),
    .if_ (.bin .ne (.call 1000 [(.bin .add (.slice (.slot 2) none (some (.cst (.int 2)))) (.lst [(false, (.slot 7))]))]) (.tup [(false, (.cst (.int 2))), (false, (.slot 9))])) [.ret (some (.cst (.bl false)))] [],
    .asg (.nm 7) (.bin .ix (.lst [(false, (.cst (.str "door 5 2"))), (false, (.cst (.str "crates kiwi"))), (false, (.cst (.str ""))), (false, (.cst (.str "end")))]) (.call 18 [(.slot 1), (.cst (.int 4))])),
    .if_ (.or (.bin .ne (.call 1000 [(.bin .add (.slot 2) (.lst [(false, (.slot 7))]))]) (.tup [(false, (.cst (.int 3))), (false, (.cst (.int 0)))])) (.bin .ne (.call 1000 [(.bin .add (.lst [(false, (.cst (.str "crates fig")))]) (.slot 2))]) (.tup [(false, (.cst (.int 0))), (false, (.cst (.int 0)))]))) [.ret (some (.cst (.bl false)))] [],
    .asg (.nm 8) (.bin .add (.cst (.int 1)) (.call 18 [(.slot 1), (.cst (.int 6))])),
    .if_ (.bin .ne (.call 1000 [(.bin .add (.bin .mul (.lst [(false, (.cst (.str "door 1 1")))]) (.slot 8)) (.lst [(false, (.cst (.str "crates fig")))]))]) (.ite (.bin .gt (.slot 8) (.cst (.int 4))) (.tup [(false, (.cst (.int 4))), (false, (.cst (.int 0)))]) (.cst .non))) [.ret (some (.cst (.bl false)))] [],
    .if_ (.bin .ne (.call 1000 [(.bin .mul (.lst [(false, (.cst (.str "door 1 1")))]) (.bl .min2 [(.slot 8), (.cst (.int 4))]))]) (.tup [(false, (.bl .min2 [(.slot 8), (.cst (.int 4))])), (false, (.cst (.int 0)))])) [.ret (some (.cst (.bl false)))] []]
theorem V_L45_law_L0 {F : Rec} {s : S} {Q : Fl → S → Prop} {E : Xc → S → Prop} : W (execs F L45_law_L0 s) Q E = W (execs F [.asg (.nm 6) (.call 18 [(.slot 1), (.cst (.int 2))]),
    .asg (.tp [(.nm 7), (.nm 9)]) (.bin .ix (.slot 3) (.call 18 [(.slot 1), (.bl .len [(.slot 3)])])),
    .if_ (.bin .ne (.call 1000 [(.bin .add (.bin .add (.slice (.slot 2) none (some (.slot 6))) (.lst [(false, (.slot 7))])) (.slice (.slot 2) (some (.bin .add (.slot 6) (.cst (.int 1)))) none))]) (.tup [(false, (.slot 6)), (false, (.slot 9))])) [.ret (some (.cst (.bl false)))] [],
    .asg (.tp [(.nm 7), (.nm 9)]) (.bin .ix (.slot 4) (.call 18 [(.slot 1), (.bl .len [(.slot 4)])])),
    .if_ (.bin .ne (.call 1000 [(.bin .add (.slice (.slot 2) none (some (.cst (.int 2)))) (.lst [(false, (.slot 7))]))]) (.tup [(false, (.cst (.int 2))), (false, (.slot 9))])) [.ret (some (.cst (.bl false)))] [],
    .asg (.nm 7) (.bin .ix (.lst [(false, (.cst (.str "door 5 2"))), (false, (.cst (.str "crates kiwi"))), (false, (.cst (.str ""))), (false, (.cst (.str "end")))]) (.call 18 [(.slot 1), (.cst (.int 4))])),
    .if_ (.or (.bin .ne (.call 1000 [(.bin .add (.slot 2) (.lst [(false, (.slot 7))]))]) (.tup [(false, (.cst (.int 3))), (false, (.cst (.int 0)))])) (.bin .ne (.call 1000 [(.bin .add (.lst [(false, (.cst (.str "crates fig")))]) (.slot 2))]) (.tup [(false, (.cst (.int 0))), (false, (.cst (.int 0)))]))) [.ret (some (.cst (.bl false)))] [],
    .asg (.nm 8) (.bin .add (.cst (.int 1)) (.call 18 [(.slot 1), (.cst (.int 6))])),
    .if_ (.bin .ne (.call 1000 [(.bin .add (.bin .mul (.lst [(false, (.cst (.str "door 1 1")))]) (.slot 8)) (.lst [(false, (.cst (.str "crates fig")))]))]) (.ite (.bin .gt (.slot 8) (.cst (.int 4))) (.tup [(false, (.cst (.int 4))), (false, (.cst (.int 0)))]) (.cst .non))) [.ret (some (.cst (.bl false)))] [],
    .if_ (.bin .ne (.call 1000 [(.bin .mul (.lst [(false, (.cst (.str "door 1 1")))]) (.bl .min2 [(.slot 8), (.cst (.int 4))]))]) (.tup [(false, (.bl .min2 [(.slot 8), (.cst (.int 4))])), (false, (.cst (.int 0)))])) [.ret (some (.cst (.bl false)))] []] s) Q E := rfl
def L45_law : List Stm := [.asg (.nm 1) (.settle (.lst [(false, (.slot 0)), (false, (.cst (.int 0))), (false, (.cst (.int 0))), (false, (.cst (.int 0)))])),
    .asg (.nm 2) (.lst [(false, (.cst (.str "door 5 2"))), (false, (.cst (.str "door 10 1"))), (false, (.cst (.str "crates fig plum")))]),
    .if_ (.bin .isnot (.call 1000 [(.slot 2)]) (.cst .non)) [.ret (some (.cst (.bl false)))] [],
    .asg (.nm 3) (.lst [(false, (.tup [(false, (.cst (.str ""))), (false, (.cst (.int 0)))])), (false, (.tup [(false, (.cst (.str "doors 5 2"))), (false, (.cst (.int 0)))])), (false, (.tup [(false, (.cst (.str "door"))), (false, (.cst (.int 1)))])), (false, (.tup [(false, (.cst (.str "door 5"))), (false, (.cst (.int 2)))])), (false, (.tup [(false, (.cst (.str "door 0 2"))), (false, (.cst (.int 1)))])), (false, (.tup [(false, (.cst (.str "door 5 02"))), (false, (.cst (.int 2)))]))]),
    .ex (.mw .append (.slot 3) [(.tup [(false, (.cst (.str "door 100 2"))), (false, (.cst (.int 1)))])]),
    .asg (.nm 3) (.bin .add (.slot 3) (.lst [(false, (.tup [(false, (.cst (.str "door 5 2 1"))), (false, (.cst (.int 3)))])), (false, (.tup [(false, (.cst (.str "door x 2"))), (false, (.cst (.int 1)))])), (false, (.tup [(false, (.cst (.str "door  5"))), (false, (.cst (.int 1)))])), (false, (.tup [(false, (.cst (.str "door 5 2 "))), (false, (.cst (.int 3)))])), (false, (.tup [(false, (.cst (.str "crate fig"))), (false, (.cst (.int 0)))]))])),
    .asg (.nm 4) (.lst [(false, (.tup [(false, (.cst (.str "crates"))), (false, (.cst (.int 1)))])), (false, (.tup [(false, (.cst (.str "crates Fig"))), (false, (.cst (.int 1)))])), (false, (.tup [(false, (.cst (.str "crates plum fig"))), (false, (.cst (.int 2)))])), (false, (.tup [(false, (.cst (.str "crates fig fig"))), (false, (.cst (.int 2)))])), (false, (.tup [(false, (.cst (.str "crates fig "))), (false, (.cst (.int 2)))]))]),
    .asg (.nm 4) (.bin .add (.slot 4) (.lst [(false, (.tup [(false, (.cst (.str "crates  fig"))), (false, (.cst (.int 1)))])), (false, (.tup [(false, (.cst (.str "crates a b c d e f"))), (false, (.cst (.int 6)))])), (false, (.tup [(false, (.cst (.str "crates figfigfig"))), (false, (.cst (.int 1)))])), (false, (.tup [(false, (.cst (.str "crate fig"))), (false, (.cst (.int 0)))]))])),
    .asg (.nm 4) (.bin .add (.slot 4) (.lst [(false, (.tup [(false, (.cst (.str ""))), (false, (.cst (.int 0)))])), (false, (.tup [(false, (.cst (.str "door 5"))), (false, (.cst (.int 2)))]))])),
    .for_ (.nm 5) .range1 [(.cst (.int 8))] L45_law_L0,
    .if_ (.or (.bin .ne (.call 1000 [(.lst [(false, (.cst (.str "")))])]) (.tup [(false, (.cst (.int 0))), (false, (.cst (.int 0)))])) (.bin .ne (.call 1000 [(.lst [(false, (.cst (.str "door 5 7"))), (false, (.cst (.str "crates fig")))])]) (.tup [(false, (.cst (.str "store"))), (false, (.cst (.str "doors")))]))) [.ret (some (.cst (.bl false)))] [],
    .ret (some (.bin .eq (.call 1000 [(.lst [(false, (.cst (.str "door 5 1"))), (false, (.cst (.str "crates fig plum")))])]) (.tup [(false, (.cst (.str "store"))), (false, (.cst (.str "crates")))])))]
def tb : Tb := ⟨fun n => match n with
  | 0 => some ⟨3, 3, B_is_number⟩
  | 1 => some ⟨1, 2, B_is_word⟩
  | 2 => some ⟨1, 1, B_is_door⟩
  | 3 => some ⟨1, 4, B_are_doors⟩
  | 4 => some ⟨2, 5, B_are_crates⟩
  | 5 => some ⟨3, 7, B_Store___init__⟩
  | 6 => some ⟨1, 1, B_Store_doors⟩
  | 7 => some ⟨1, 1, B_Store_crates⟩
  | 8 => some ⟨1, 1, B_Store___len__⟩
  | 9 => some ⟨2, 2, B_Store___eq__⟩
  | 10 => some ⟨1, 3, B_checksum⟩
  | 11 => some ⟨1, 6, B_encode_store⟩
  | 12 => some ⟨2, 2, B_Reader___init__⟩
  | 13 => some ⟨3, 3, B_Reader_item⟩
  | 14 => some ⟨1, 2, B_Reader_read_door⟩
  | 15 => some ⟨1, 3, B_Reader_read_crate⟩
  | 16 => some ⟨1, 2, B_Reader_finish⟩
  | 17 => some ⟨1, 5, B_decode_store⟩
  | 18 => some ⟨2, 4, B__law_taken⟩
  | 19 => some ⟨1, 2, B_is_count⟩
  | 20 => some ⟨3, 3, B_Row___init__⟩
  | 21 => some ⟨1, 1, B_Row_has_more⟩
  | 22 => some ⟨1, 1, B_Row_fail⟩
  | 23 => some ⟨2, 2, B_Row_next_word⟩
  | 24 => some ⟨1, 4, B_Row_read_crates⟩
  | 25 => some ⟨2, 2, B_heads_at⟩
  | 26 => some ⟨1, 10, B_parse_store⟩
  | 1000 => some ⟨1, 2, L45__law_place⟩
  | 1001 => some ⟨1, 10, L45_law⟩
  | _ => none, fun n => match n with
  | 0 => some 2
  | 1 => some 2
  | 2 => some 3
  | _ => none⟩
theorem has : Has tb := ⟨rfl, rfl, rfl, rfl, rfl, rfl, rfl, rfl, rfl, rfl, rfl, rfl, rfl, rfl, rfl, rfl, rfl, rfl, rfl, rfl, rfl, rfl, rfl, rfl, rfl, rfl, rfl, rfl, rfl, rfl⟩
theorem U_L45__law_place {d : Nat} {v0 : SV} {hp : List O} {Q : R → List O → Prop} {E : Xc → List O → Prop} : Wc (callD tb (d + 1) 1000 [v0] hp) Q E = W (execs (run tb (callD tb d) (FU + 100)) [.tryR [.ex (.call 26 [(.mt .join (.cst (.str "\n")) [(.slot 0)])])] [⟨[3], some 1, (.pair (.fld 0) (.fld 1))⟩, ⟨[1], some 1, (.pair (.cst (.str "store")) (.fld 0))⟩],
    .ret (some (.cst .non))] ⟨[some v0, none], hp⟩) (fun fl s => Ws s (fun _ hp' => Wre fl (fun r => Q r (gc hp.length r hp')))) (fun x s => Ws s (fun _ hp => E x hp)) := Wc_call (body := L45__law_place) rfl rfl rfl
theorem U_L45_law {d : Nat} {v0 : SV} {hp : List O} {Q : R → List O → Prop} {E : Xc → List O → Prop} : Wc (callD tb (d + 1) 1001 [v0] hp) Q E = W (execs (run tb (callD tb d) (FU + 100)) [.asg (.nm 1) (.settle (.lst [(false, (.slot 0)), (false, (.cst (.int 0))), (false, (.cst (.int 0))), (false, (.cst (.int 0)))])),
    .asg (.nm 2) (.lst [(false, (.cst (.str "door 5 2"))), (false, (.cst (.str "door 10 1"))), (false, (.cst (.str "crates fig plum")))]),
    .if_ (.bin .isnot (.call 1000 [(.slot 2)]) (.cst .non)) [.ret (some (.cst (.bl false)))] [],
    .asg (.nm 3) (.lst [(false, (.tup [(false, (.cst (.str ""))), (false, (.cst (.int 0)))])), (false, (.tup [(false, (.cst (.str "doors 5 2"))), (false, (.cst (.int 0)))])), (false, (.tup [(false, (.cst (.str "door"))), (false, (.cst (.int 1)))])), (false, (.tup [(false, (.cst (.str "door 5"))), (false, (.cst (.int 2)))])), (false, (.tup [(false, (.cst (.str "door 0 2"))), (false, (.cst (.int 1)))])), (false, (.tup [(false, (.cst (.str "door 5 02"))), (false, (.cst (.int 2)))]))]),
    .ex (.mw .append (.slot 3) [(.tup [(false, (.cst (.str "door 100 2"))), (false, (.cst (.int 1)))])]),
    .asg (.nm 3) (.bin .add (.slot 3) (.lst [(false, (.tup [(false, (.cst (.str "door 5 2 1"))), (false, (.cst (.int 3)))])), (false, (.tup [(false, (.cst (.str "door x 2"))), (false, (.cst (.int 1)))])), (false, (.tup [(false, (.cst (.str "door  5"))), (false, (.cst (.int 1)))])), (false, (.tup [(false, (.cst (.str "door 5 2 "))), (false, (.cst (.int 3)))])), (false, (.tup [(false, (.cst (.str "crate fig"))), (false, (.cst (.int 0)))]))])),
    .asg (.nm 4) (.lst [(false, (.tup [(false, (.cst (.str "crates"))), (false, (.cst (.int 1)))])), (false, (.tup [(false, (.cst (.str "crates Fig"))), (false, (.cst (.int 1)))])), (false, (.tup [(false, (.cst (.str "crates plum fig"))), (false, (.cst (.int 2)))])), (false, (.tup [(false, (.cst (.str "crates fig fig"))), (false, (.cst (.int 2)))])), (false, (.tup [(false, (.cst (.str "crates fig "))), (false, (.cst (.int 2)))]))]),
    .asg (.nm 4) (.bin .add (.slot 4) (.lst [(false, (.tup [(false, (.cst (.str "crates  fig"))), (false, (.cst (.int 1)))])), (false, (.tup [(false, (.cst (.str "crates a b c d e f"))), (false, (.cst (.int 6)))])), (false, (.tup [(false, (.cst (.str "crates figfigfig"))), (false, (.cst (.int 1)))])), (false, (.tup [(false, (.cst (.str "crate fig"))), (false, (.cst (.int 0)))]))])),
    .asg (.nm 4) (.bin .add (.slot 4) (.lst [(false, (.tup [(false, (.cst (.str ""))), (false, (.cst (.int 0)))])), (false, (.tup [(false, (.cst (.str "door 5"))), (false, (.cst (.int 2)))]))])),
    .for_ (.nm 5) .range1 [(.cst (.int 8))] L45_law_L0,
    .if_ (.or (.bin .ne (.call 1000 [(.lst [(false, (.cst (.str "")))])]) (.tup [(false, (.cst (.int 0))), (false, (.cst (.int 0)))])) (.bin .ne (.call 1000 [(.lst [(false, (.cst (.str "door 5 7"))), (false, (.cst (.str "crates fig")))])]) (.tup [(false, (.cst (.str "store"))), (false, (.cst (.str "doors")))]))) [.ret (some (.cst (.bl false)))] [],
    .ret (some (.bin .eq (.call 1000 [(.lst [(false, (.cst (.str "door 5 1"))), (false, (.cst (.str "crates fig plum")))])]) (.tup [(false, (.cst (.str "store"))), (false, (.cst (.str "crates")))])))] ⟨[some v0, none, none, none, none, none, none, none, none, none], hp⟩) (fun fl s => Ws s (fun _ hp' => Wre fl (fun r => Q r (gc hp.length r hp')))) (fun x s => Ws s (fun _ hp => E x hp)) := Wc_call (body := L45_law) rfl rfl rfl
def cfg (K : PySem.W.Frag) : Cfg := ⟨K, fun _ => none, fun n => match n with
  | 0 => some ⟨ga K "Store", true, ["edges", "parts"]⟩
  | 2 => some ⟨ga K "Row", false, ["number", "words", "spot"]⟩
  | _ => none, fun n => match n with
  | 0 => some (ga K "StoreError", [])
  | 1 => some (ga K "InvalidStore", ["part"])
  | 3 => some (ga K "InvalidText", ["row", "word"])
  | _ => none, fun q => if q = Q_B_Row_read_crates then tabA K (ma K (ga K "Row") "read_crates") else if q = Q_B_parse_store then tabA K (ga K "parse_store") else 0⟩
def a0 (K : PySem.W.Frag) : Addr := ga K "is_number"
def a1 (K : PySem.W.Frag) : Addr := ga K "is_word"
def a2 (K : PySem.W.Frag) : Addr := ga K "is_door"
def a3 (K : PySem.W.Frag) : Addr := ga K "are_doors"
def a4 (K : PySem.W.Frag) : Addr := ga K "are_crates"
def a5 (K : PySem.W.Frag) : Addr := ma K (ga K "Store") "__init__"
def a6 (K : PySem.W.Frag) : Addr := recG K (ma K (ga K "Store") "doors")
def a7 (K : PySem.W.Frag) : Addr := recG K (ma K (ga K "Store") "crates")
def a8 (K : PySem.W.Frag) : Addr := ma K (ga K "Store") "__len__"
def a9 (K : PySem.W.Frag) : Addr := ma K (ga K "Store") "__eq__"
def a19 (K : PySem.W.Frag) : Addr := ga K "is_count"
def a20 (K : PySem.W.Frag) : Addr := ma K (ga K "Row") "__init__"
def a21 (K : PySem.W.Frag) : Addr := ma K (ga K "Row") "has_more"
def a22 (K : PySem.W.Frag) : Addr := ma K (ga K "Row") "fail"
def a23 (K : PySem.W.Frag) : Addr := ma K (ga K "Row") "next_word"
def a24 (K : PySem.W.Frag) : Addr := ma K (ga K "Row") "read_crates"
def a25 (K : PySem.W.Frag) : Addr := ga K "heads_at"
def a26 (K : PySem.W.Frag) : Addr := ga K "parse_store"
def a18 (K : PySem.W.Frag) : Addr := ga K "_law_taken"
def a1000 (K : PySem.W.Frag) : Addr := ga K "_law_place"
def a1001 (K : PySem.W.Frag) : Addr := ga K "law"
abbrev sx1 : Stmt := inClass (top 3) 0
def ax1 (K : PySem.W.Frag) : Addr := ma K (ga K "InvalidStore") "__init__"
abbrev sx3 : Stmt := inClass (top 4) 0
def ax3 (K : PySem.W.Frag) : Addr := ma K (ga K "InvalidText") "__init__"
structure Fx (K : PySem.W.Frag) (mg : Str → Option Value) : Prop where
  f_all : mg "all" = none
  f_bool : mg "bool" = none
  f_enumerate : mg "enumerate" = none
  f_int : mg "int" = none
  f_isinstance : mg "isinstance" = none
  f_len : mg "len" = none
  f_min : mg "min" = none
  f_range : mg "range" = none
  f_str : mg "str" = none
  f_sum : mg "sum" = none
  f_tuple : mg "tuple" = none
  f_zip : mg "zip" = none
  c_CRATES : ∃ t, mg "CRATES" = some (.str "crates" t)
  c_DIGITS : ∃ t, mg "DIGITS" = some (.str "0123456789" t)
  c_DOOR : ∃ t, mg "DOOR" = some (.str "door" t)
  c_LETTERS : ∃ t, mg "LETTERS" = some (.str "abcdefghijklmnopqrstuvwxyz" t)
  c_MAX_BEHIND : ∃ t, mg "MAX_BEHIND" = some (.int 4 t)
  c_MAX_CRATES : ∃ t, mg "MAX_CRATES" = some (.int 5 t)
  c_MAX_DOORS : ∃ t, mg "MAX_DOORS" = some (.int 4 t)
  c_MAX_LETTERS : ∃ t, mg "MAX_LETTERS" = some (.int 8 t)
  c_MAX_PLACES : ∃ t, mg "MAX_PLACES" = some (.int 6 t)
  c_MAX_WARMTH : ∃ t, mg "MAX_WARMTH" = some (.int 99 t)
  c_MOST_DIGITS : ∃ t, mg "MOST_DIGITS" = some (.int 2 t)
  m0 : mg "is_number" = some (.ref (a0 K))
  k0 : PySem.W.keepIn K (.ref (a0 K)) = true
  m1 : mg "is_word" = some (.ref (a1 K))
  k1 : PySem.W.keepIn K (.ref (a1 K)) = true
  m2 : mg "is_door" = some (.ref (a2 K))
  k2 : PySem.W.keepIn K (.ref (a2 K)) = true
  m3 : mg "are_doors" = some (.ref (a3 K))
  k3 : PySem.W.keepIn K (.ref (a3 K)) = true
  m4 : mg "are_crates" = some (.ref (a4 K))
  k4 : PySem.W.keepIn K (.ref (a4 K)) = true
  me5 : Meth K (ga K "Store") "__init__" (a5 K)
  me8 : Meth K (ga K "Store") "__len__" (a8 K)
  me9 : Meth K (ga K "Store") "__eq__" (a9 K)
  m19 : mg "is_count" = some (.ref (a19 K))
  k19 : PySem.W.keepIn K (.ref (a19 K)) = true
  me20 : Meth K (ga K "Row") "__init__" (a20 K)
  me21 : Meth K (ga K "Row") "has_more" (a21 K)
  me22 : Meth K (ga K "Row") "fail" (a22 K)
  me23 : Meth K (ga K "Row") "next_word" (a23 K)
  me24 : Meth K (ga K "Row") "read_crates" (a24 K)
  m25 : mg "heads_at" = some (.ref (a25 K))
  k25 : PySem.W.keepIn K (.ref (a25 K)) = true
  m26 : mg "parse_store" = some (.ref (a26 K))
  k26 : PySem.W.keepIn K (.ref (a26 K)) = true
  m18 : mg "_law_taken" = some (.ref (a18 K))
  k18 : PySem.W.keepIn K (.ref (a18 K)) = true
  m1000 : mg "_law_place" = some (.ref (a1000 K))
  k1000 : PySem.W.keepIn K (.ref (a1000 K)) = true
  m1001 : mg "law" = some (.ref (a1001 K))
  k1001 : PySem.W.keepIn K (.ref (a1001 K)) = true
  mc0 : mg "Store" = some (.ref (ga K "Store"))
  mk0 : Mk K (ga K "Store") (a5 K)
  cc0 : SlX.SCls K (ga K "Store")
  s0_0 : SlX.Slot1 K (ga K "Store") "edges" (ma K (ga K "Store") "edges") 0
  s0_1 : SlX.Slot1 K (ga K "Store") "parts" (ma K (ga K "Store") "parts") 1
  is0 : SlX.SIsi K (ga K "Store") ∧ PySem.W.kitOne K (.ref (ga K "Store")) (.ref (ga K "Store")) = some true ∧ PySem.W.notFirst K (ga K "Store") (.ref (ga K "Store")) = true
  ne0 : PySem.W.findIn K (.ref (ga K "Store")) "__ne__" = some (some (.builtin "object.__ne__"))
  p6 : PySem.W.findIn K (.ref (ga K "Store")) "doors" = some (some (.ref (ma K (ga K "Store") "doors"))) ∧ PySem.W.specialIn K (.ref (ma K (ga K "Store") "doors")) "__get__" = some (some (.builtin "property.__get__")) ∧ PySem.W.takesIn K (.ref (ma K (ga K "Store") "doors")) = some true ∧ ∃ rest, PySem.W.recIn K (ma K (ga K "Store") "doors") "property" = some (.ref (a6 K) :: rest)
  p7 : PySem.W.findIn K (.ref (ga K "Store")) "crates" = some (some (.ref (ma K (ga K "Store") "crates"))) ∧ PySem.W.specialIn K (.ref (ma K (ga K "Store") "crates")) "__get__" = some (some (.builtin "property.__get__")) ∧ PySem.W.takesIn K (.ref (ma K (ga K "Store") "crates")) = some true ∧ ∃ rest, PySem.W.recIn K (ma K (ga K "Store") "crates") "property" = some (.ref (a7 K) :: rest)
  mc2 : mg "Row" = some (.ref (ga K "Row"))
  mk2 : Mk K (ga K "Row") (a20 K)
  cc2 : Cls K (ga K "Row")
  n2_0 : NoAttr K (ga K "Row") "number"
  n2_1 : NoAttr K (ga K "Row") "words"
  n2_2 : NoAttr K (ga K "Row") "spot"
  mx1 : mg "InvalidStore" = some (.ref (ga K "InvalidStore"))
  xx1 : OexC K (ga K "InvalidStore") ∧ (∀ f ∈ (["part"] : List Str), PySem.W.findIn K (.ref (ga K "InvalidStore")) f = some none) ∧ PySem.W.findIn K (.ref (ga K "InvalidStore")) "__init__" = some (some (.ref (ma K (ga K "InvalidStore") "__init__"))) ∧ PySem.W.typeIn K (.ref (ma K (ga K "InvalidStore") "__init__")) = some (.type "function")
  xf1 : XfC K (ga K "InvalidStore")
  em0_1 : PySem.W.exmOne K (.ref (ga K "StoreError")) (.ref (ga K "InvalidStore")) = some false
  em1_1 : PySem.W.exmOne K (.ref (ga K "InvalidStore")) (.ref (ga K "InvalidStore")) = some true
  em3_1 : PySem.W.exmOne K (.ref (ga K "InvalidText")) (.ref (ga K "InvalidStore")) = some false
  mx3 : mg "InvalidText" = some (.ref (ga K "InvalidText"))
  xx3 : OexC K (ga K "InvalidText") ∧ (∀ f ∈ (["row", "word"] : List Str), PySem.W.findIn K (.ref (ga K "InvalidText")) f = some none) ∧ PySem.W.findIn K (.ref (ga K "InvalidText")) "__init__" = some (some (.ref (ma K (ga K "InvalidText") "__init__"))) ∧ PySem.W.typeIn K (.ref (ma K (ga K "InvalidText") "__init__")) = some (.type "function")
  xf3 : XfC K (ga K "InvalidText")
  em0_3 : PySem.W.exmOne K (.ref (ga K "StoreError")) (.ref (ga K "InvalidText")) = some false
  em1_3 : PySem.W.exmOne K (.ref (ga K "InvalidStore")) (.ref (ga K "InvalidText")) = some false
  em3_3 : PySem.W.exmOne K (.ref (ga K "InvalidText")) (.ref (ga K "InvalidText")) = some true
  cd24 : codeAt K (a24 K) = .ref (codA K (a24 K))
  cd26 : codeAt K (a26 K) = .ref (codA K (a26 K))
  tn24_26 : tabA K (a24 K) ≠ tabA K (a26 K)
  mse : mg "StoreError" = some (.ref (ga K "StoreError"))
  so : ClX.CRead K (ga K "StoreError") (.type "type") ∧ PySem.W.findCls K (.ref (ga K "StoreError")) (.type "type") "__init__" = some (.val (.builtin "ValueError.__init__"))
theorem Fx.cl0 {K : PySem.W.Frag} {mg : Str → Option Value} (T : Fx K mg) {X : Cx} (h : X.K = K := by rfl) : SlCls (cfg K) X 0 (ga K "Store") ["edges", "parts"] := ⟨rfl, h ▸ T.cc0⟩
theorem Fx.md0 {K : PySem.W.Frag} {mg : Str → Option Value} (T : Fx K mg) : Made (cfg K) 0 (ga K "Store") 2 := fun Z H ρ x dx hne => made_s (names := ["edges", "parts"]) rfl hne
theorem Fx.cl2 {K : PySem.W.Frag} {mg : Str → Option Value} (T : Fx K mg) {X : Cx} (h : X.K = K := by rfl) : PCls (cfg K) X 2 (ga K "Row") ["number", "words", "spot"] := ⟨rfl, h ▸ T.cc2, by decide +kernel, by decide⟩
theorem Fx.md2 {K : PySem.W.Frag} {mg : Str → Option Value} (T : Fx K mg) : Made (cfg K) 2 (ga K "Row") 3 := fun Z H ρ x dx hne => made_p (names := ["number", "words", "spot"]) rfl hne
theorem exo1 {K : PySem.W.Frag} {mg : Str → Option Value} (T : Fx K mg) : exOk (cfg K) K (.ref (ga K "InvalidStore")) [1] := by
  intro x C ns e
  simp only [cfg] at e
  split at e
  · cases e; exact T.em0_1
  · cases e; exact T.em1_1
  · cases e; exact T.em3_1
  · cases e
theorem exo3 {K : PySem.W.Frag} {mg : Str → Option Value} (T : Fx K mg) : exOk (cfg K) K (.ref (ga K "InvalidText")) [3] := by
  intro x C ns e
  simp only [cfg] at e
  split at e
  · cases e; exact T.em0_3
  · cases e; exact T.em1_3
  · cases e; exact T.em3_3
  · cases e
theorem np0 (dd : Nat) : NpOk (callD tb dd) 0 3 := callD_np (tb := tb) (d := ⟨3, 3, B_is_number⟩) rfl dd
theorem np1 (dd : Nat) : NpOk (callD tb dd) 1 1 := callD_np (tb := tb) (d := ⟨1, 2, B_is_word⟩) rfl dd
theorem np2 (dd : Nat) : NpOk (callD tb dd) 2 1 := callD_np (tb := tb) (d := ⟨1, 1, B_is_door⟩) rfl dd
theorem np3 (dd : Nat) : NpOk (callD tb dd) 3 1 := callD_np (tb := tb) (d := ⟨1, 4, B_are_doors⟩) rfl dd
theorem np4 (dd : Nat) : NpOk (callD tb dd) 4 2 := callD_np (tb := tb) (d := ⟨2, 5, B_are_crates⟩) rfl dd
theorem np5 (dd : Nat) : NpOk (callD tb dd) 5 3 := callD_np (tb := tb) (d := ⟨3, 7, B_Store___init__⟩) rfl dd
theorem np6 (dd : Nat) : NpOk (callD tb dd) 6 1 := callD_np (tb := tb) (d := ⟨1, 1, B_Store_doors⟩) rfl dd
theorem np7 (dd : Nat) : NpOk (callD tb dd) 7 1 := callD_np (tb := tb) (d := ⟨1, 1, B_Store_crates⟩) rfl dd
theorem np8 (dd : Nat) : NpOk (callD tb dd) 8 1 := callD_np (tb := tb) (d := ⟨1, 1, B_Store___len__⟩) rfl dd
theorem np9 (dd : Nat) : NpOk (callD tb dd) 9 2 := callD_np (tb := tb) (d := ⟨2, 2, B_Store___eq__⟩) rfl dd
theorem np19 (dd : Nat) : NpOk (callD tb dd) 19 1 := callD_np (tb := tb) (d := ⟨1, 2, B_is_count⟩) rfl dd
theorem np20 (dd : Nat) : NpOk (callD tb dd) 20 3 := callD_np (tb := tb) (d := ⟨3, 3, B_Row___init__⟩) rfl dd
theorem np21 (dd : Nat) : NpOk (callD tb dd) 21 1 := callD_np (tb := tb) (d := ⟨1, 1, B_Row_has_more⟩) rfl dd
theorem np22 (dd : Nat) : NpOk (callD tb dd) 22 1 := callD_np (tb := tb) (d := ⟨1, 1, B_Row_fail⟩) rfl dd
theorem np24 (dd : Nat) : NpOk (callD tb dd) 24 1 := callD_np (tb := tb) (d := ⟨1, 4, B_Row_read_crates⟩) rfl dd
theorem np25 (dd : Nat) : NpOk (callD tb dd) 25 2 := callD_np (tb := tb) (d := ⟨2, 2, B_heads_at⟩) rfl dd
theorem np26 (dd : Nat) : NpOk (callD tb dd) 26 1 := callD_np (tb := tb) (d := ⟨1, 10, B_parse_store⟩) rfl dd
theorem np18 (dd : Nat) : NpOk (callD tb dd) 18 2 := callD_np (tb := tb) (d := ⟨2, 4, B__law_taken⟩) rfl dd
theorem np1000 (dd : Nat) : NpOk (callD tb dd) 1000 1 := callD_np (tb := tb) (d := ⟨1, 2, L45__law_place⟩) rfl dd
theorem np1001 (dd : Nat) : NpOk (callD tb dd) 1001 1 := callD_np (tb := tb) (d := ⟨1, 10, L45_law⟩) rfl dd
structure Good (P : Program) (w : World) (K : PySem.W.Frag) (mg : Str → Option Value) (base : Heap) (dd : Nat) : Prop where
  g0 : FnR P w K mg base (CX P w) (4 * dd) (a0 K) (spD (cfg K) (callD tb dd) 0 3)
  g1 : FnR P w K mg base (CX P w) (4 * dd) (a1 K) (spD (cfg K) (callD tb dd) 1 1)
  g2 : FnR P w K mg base (CX P w) (4 * dd) (a2 K) (spD (cfg K) (callD tb dd) 2 1)
  g3 : FnR P w K mg base (CX P w) (4 * dd) (a3 K) (spD (cfg K) (callD tb dd) 3 1)
  g4 : FnR P w K mg base (CX P w) (4 * dd) (a4 K) (spD (cfg K) (callD tb dd) 4 2)
  g5 : FnR P w K mg base (CX P w) (4 * dd) (a5 K) (spD (cfg K) (callD tb dd) 5 3)
  g6 : FnR P w K mg base (CX P w) (4 * dd) (a6 K) (spD (cfg K) (callD tb dd) 6 1)
  g7 : FnR P w K mg base (CX P w) (4 * dd) (a7 K) (spD (cfg K) (callD tb dd) 7 1)
  g8 : FnR P w K mg base (CX P w) (4 * dd) (a8 K) (spD (cfg K) (callD tb dd) 8 1)
  g9 : FnR P w K mg base (CX P w) (4 * dd) (a9 K) (spD (cfg K) (callD tb dd) 9 2)
  g19 : FnR P w K mg base (CX P w) (4 * dd) (a19 K) (spD (cfg K) (callD tb dd) 19 1)
  g20 : FnR P w K mg base (CX P w) (4 * dd) (a20 K) (spD (cfg K) (callD tb dd) 20 3)
  g21 : FnR P w K mg base (CX P w) (4 * dd) (a21 K) (spD (cfg K) (callD tb dd) 21 1)
  g22 : FnR P w K mg base (CX P w) (4 * dd) (a22 K) (spD (cfg K) (callD tb dd) 22 1)
  f23 : ∃ fd, FunD K "next_word" "Row.next_word" (defArgs s23) (defBody s23) (defScope s23) [] [] (a23 K) fd
  g24 : FnR P w K mg base (CX P w) (4 * dd) (a24 K) (spD (cfg K) (callD tb dd) 24 1)
  g25 : FnR P w K mg base (CX P w) (4 * dd) (a25 K) (spD (cfg K) (callD tb dd) 25 2)
  g26 : FnR P w K mg base (CX P w) (4 * dd) (a26 K) (spD (cfg K) (callD tb dd) 26 1)
  g18 : FnR P w K mg base (CX P w) (4 * dd) (a18 K) (spD (cfg K) (callD tb dd) 18 2)
  g1000 : FnR P w K mg base (CX P w) (4 * dd) (a1000 K) (spD (cfg K) (callD tb dd) 1000 1)
  g1001 : FnR P w K mg base (CX P w) (4 * dd) (a1001 K) (spD (cfg K) (callD tb dd) 1001 1)
  tb24 : LamX.TabB base mg (codA K (a24 K)) ((cfg K).tabP Q_B_Row_read_crates)
  tb26 : LamX.TabB base mg (codA K (a26 K)) ((cfg K).tabP Q_B_parse_store)
  x1 : ∃ fd, FnOk P w K mg base (CX P w) 1 (ax1 K) fd ["self", "part"] (spI K Fm ["part"]) ∧ Binds K fd ["self", "part"] []
  x3 : ∃ fd, FnOk P w K mg base (CX P w) 1 (ax3 K) fd ["self", "row", "word"] (spI K (fun _ => True) ["row", "word"]) ∧ Binds K fd ["self", "row", "word"] []
section
variable {P : Program} {w : World} {K : PySem.W.Frag} {mg : Str → Option Value} {base : Heap} {dd : Nat}
theorem sc23 : FnScope ["self", "is_right"] ["self", "is_right"] (defScope s23) := ⟨rfl, rfl, rfl, by decide +kernel, rfl, by decide +kernel, by decide +kernel⟩
theorem bi23 {K : PySem.W.Frag} {fd : FuncData} (F : FunD K "next_word" "Row.next_word" (defArgs s23) (defBody s23) (defScope s23) [] [] (a23 K) fd) : Binds K fd ["self", "is_right"] [] := F.bindsN fun _ _ _ _ _ _ us hl => match us, hl with | [_, _], _ => rfl
theorem nx23 (T : Fx K mg) (D : Good P w K mg base dd) : NextP P w K mg base (cfg K) tb (callD tb dd) (4 * dd + 1) 23 (a23 K) "next_word" := by
  obtain ⟨fd, F⟩ := D.f23
  refine ⟨_, _, _, fd, "self", "is_right", _, _, _, _, _, _, _, _, _, _, _, _, _, _, _, F, bi23 F, sc23, .inl rfl, rfl, (fun cdv A outer s H E hr tk => ?_), (fun _ => rfl), (fun _ _ => rfl), (fun _ => rfl), by decide, by decide⟩
  have hu := hr.units
  have S := sc23
  exact ⟨(ct_val (ce_meth0 (ce_slot 0) T.cl2 (by decide +kernel) T.me21 D.g21 (np21 dd) (hr.mono (by omega)) (passW tk))), (ce_ix (by rfl) (ce_fld (ce_slot 0) T.cl2 T.n2_1 (by rfl)) (ce_fld (ce_slot 0) T.cl2 T.n2_2 (by rfl))), (ce_meth0 (ce_slot 0) T.cl2 (by decide +kernel) T.me22 D.g22 (np22 dd) (hr.mono (by omega)) (passW tk)), (css_cons (cs_incfld (ce_slot 0) ce_int T.cl2 T.n2_2 (by rfl))
      (css_cons (cs_ret (ce_ix (by rfl) (ce_fld (ce_slot 0) T.cl2 T.n2_1 (by rfl)) (ce_sub (ce_fld (ce_slot 0) T.cl2 T.n2_2 (by rfl)) ce_int)))
      css_nil))⟩
theorem sc0 : FnScope ["value", "smallest", "largest"] ["value", "smallest", "largest"] (defScope s0) := ⟨rfl, rfl, rfl, by decide +kernel, rfl, by decide +kernel, by decide +kernel⟩
theorem bi0 {K : PySem.W.Frag} {fd : FuncData} (F : FunD K "is_number" "is_number" (defArgs s0) (defBody s0) (defScope s0) [] [] (a0 K) fd) : Binds K fd ["value", "smallest", "largest"] [] := F.bindsN fun _ _ _ _ _ _ us hl => match us, hl with | [_, _, _], _ => rfl
theorem b0 (T : Fx K mg) (D : Good P w K mg base dd) {f : Addr} {cdv : Value} {A : Around} {outer : List Env} {s : Shared} {H : Hp} {E : XK} (hr : Room (4 * dd + 3) (A.deeper (envOfC "is_number" (defScope s0) s.heap.objs.size f cdv)))
    (tk : Takes (cxOf (CX P w) P w K mg base ["value", "smallest", "largest"] "is_number" (defScope s0) f cdv A outer s H E) (fun cls d _ H => E cls d H)) :
    CSs (cxOf (CX P w) P w K mg base ["value", "smallest", "largest"] "is_number" (defScope s0) f cdv A outer s H E) (cfg K) (fun cls d _ H => E cls d H) tb (callD tb dd) (defBody s0) B_is_number := by
  have hu := hr.units
  have S := sc0
  exact (css_cons (cs_ret (ce_and (ce_isint (by rfl) (ce_slot 0) (by rfl) T.f_isinstance (by rfl) T.f_int) (ce_and (ce_not (ce_isbool (by rfl) (ce_slot 0) (by rfl) T.f_isinstance (by rfl) T.f_bool)) (ce_one (ce_lele (ce_slot 1) (ce_slot 0) (ce_slot 2))))))
      css_nil)
theorem sc1 : FnScope ["value", "letter"] ["value"] (defScope s1) := ⟨rfl, rfl, rfl, by decide +kernel, rfl, by decide +kernel, by decide +kernel⟩
theorem bi1 {K : PySem.W.Frag} {fd : FuncData} (F : FunD K "is_word" "is_word" (defArgs s1) (defBody s1) (defScope s1) [] [] (a1 K) fd) : Binds K fd ["value"] [] := F.bindsN fun _ _ _ _ _ _ us hl => match us, hl with | [_], _ => rfl
theorem b1 (T : Fx K mg) (D : Good P w K mg base dd) {f : Addr} {cdv : Value} {A : Around} {outer : List Env} {s : Shared} {H : Hp} {E : XK} (hr : Room (4 * dd + 3) (A.deeper (envOfC "is_word" (defScope s1) s.heap.objs.size f cdv)))
    (tk : Takes (cxOf (CX P w) P w K mg base ["value", "letter"] "is_word" (defScope s1) f cdv A outer s H E) (fun cls d _ H => E cls d H)) :
    CSs (cxOf (CX P w) P w K mg base ["value", "letter"] "is_word" (defScope s1) f cdv A outer s H E) (cfg K) (fun cls d _ H => E cls d H) tb (callD tb dd) (defBody s1) B_is_word := by
  have hu := hr.units
  have S := sc1
  exact (css_cons (cs_if (CW.ct (cw_or (ct_not (ct_val (ce_isstr (by rfl) (ce_slot 0) (by rfl) T.f_isinstance (by rfl) T.f_str))) (cw_or1 (ct_not (ct_lele ce_int (ce_len (by rfl) (ca_cons (ce_slot 0) ca_nil) (by rfl) T.f_len) (ce_globI' (by rfl) T.c_MAX_LETTERS)))))) (css_cons (cs_ret ce_bl)
      css_nil) css_nil)
      (css_cons (cs_ret (ce_all (by rfl) (by rfl) (ca_cons (ce_comp (own := [("letter", 1)]) (by rfl) S.nd (ci_seq (by rfl) (ce_slot 0)) (blk_by (N := ["value", "letter"]) (sc := defScope s1) (by decide +kernel)) (by decide) (fun _ _ _ _ _ => (cgw_name S.nd (by rfl) (by first | exact Or.inl rfl | exact Or.inr rfl) (by decide))) (fun _ _ _ _ _ => cts_nil) (fun _ _ _ _ _ => (ce_in (by rfl) (ce_slot 1) (ce_globS' (by rfl) T.c_LETTERS)))) ca_nil) (by rfl) T.f_all))
      css_nil))
theorem sc2 : FnScope ["value"] ["value"] (defScope s2) := ⟨rfl, rfl, rfl, by decide +kernel, rfl, by decide +kernel, by decide +kernel⟩
theorem bi2 {K : PySem.W.Frag} {fd : FuncData} (F : FunD K "is_door" "is_door" (defArgs s2) (defBody s2) (defScope s2) [] [] (a2 K) fd) : Binds K fd ["value"] [] := F.bindsN fun _ _ _ _ _ _ us hl => match us, hl with | [_], _ => rfl
theorem b2 (T : Fx K mg) (D : Good P w K mg base dd) {f : Addr} {cdv : Value} {A : Around} {outer : List Env} {s : Shared} {H : Hp} {E : XK} (hr : Room (4 * dd + 3) (A.deeper (envOfC "is_door" (defScope s2) s.heap.objs.size f cdv)))
    (tk : Takes (cxOf (CX P w) P w K mg base ["value"] "is_door" (defScope s2) f cdv A outer s H E) (fun cls d _ H => E cls d H)) :
    CSs (cxOf (CX P w) P w K mg base ["value"] "is_door" (defScope s2) f cdv A outer s H E) (cfg K) (fun cls d _ H => E cls d H) tb (callD tb dd) (defBody s2) B_is_door := by
  have hu := hr.units
  have S := sc2
  exact (css_cons (cs_if (CW.ct (cw_or (ct_not (ct_val (ce_istuple (by rfl) (ce_slot 0) (by rfl) T.f_isinstance (by rfl) T.f_tuple))) (cw_or1 (ct_ne (by rfl) hu (ce_len (by rfl) (ca_cons (ce_slot 0) ca_nil) (by rfl) T.f_len) ce_int)))) (css_cons (cs_ret ce_bl)
      css_nil) css_nil)
      (css_cons (cs_ret (ce_and (ce_call D.g0 (np0 dd) (hr.mono (by omega)) (by rfl) T.m0 T.k0 (passW tk) (ca_cons (ce_ix (by rfl) (ce_slot 0) ce_int) (ca_cons ce_int (ca_cons (ce_globI' (by rfl) T.c_MAX_WARMTH) ca_nil)))) (ce_one (ce_call D.g0 (np0 dd) (hr.mono (by omega)) (by rfl) T.m0 T.k0 (passW tk) (ca_cons (ce_ix (by rfl) (ce_slot 0) ce_int) (ca_cons ce_int (ca_cons (ce_globI' (by rfl) T.c_MAX_BEHIND) ca_nil)))))))
      css_nil))
theorem sc3 : FnScope ["row", "door", "warmth", "places"] ["row"] (defScope s3) := ⟨rfl, rfl, rfl, by decide +kernel, rfl, by decide +kernel, by decide +kernel⟩
theorem bi3 {K : PySem.W.Frag} {fd : FuncData} (F : FunD K "are_doors" "are_doors" (defArgs s3) (defBody s3) (defScope s3) [] [] (a3 K) fd) : Binds K fd ["row"] [] := F.bindsN fun _ _ _ _ _ _ us hl => match us, hl with | [_], _ => rfl
theorem b3 (T : Fx K mg) (D : Good P w K mg base dd) {f : Addr} {cdv : Value} {A : Around} {outer : List Env} {s : Shared} {H : Hp} {E : XK} (hr : Room (4 * dd + 3) (A.deeper (envOfC "are_doors" (defScope s3) s.heap.objs.size f cdv)))
    (tk : Takes (cxOf (CX P w) P w K mg base ["row", "door", "warmth", "places"] "are_doors" (defScope s3) f cdv A outer s H E) (fun cls d _ H => E cls d H)) :
    CSs (cxOf (CX P w) P w K mg base ["row", "door", "warmth", "places"] "are_doors" (defScope s3) f cdv A outer s H E) (cfg K) (fun cls d _ H => E cls d H) tb (callD tb dd) (defBody s3) B_are_doors := by
  have hu := hr.units
  have S := sc3
  exact (css_cons (cs_if (CW.ct (cw_or (ct_not (ct_lele ce_int (ce_len (by rfl) (ca_cons (ce_slot 0) ca_nil) (by rfl) T.f_len) (ce_globI' (by rfl) T.c_MAX_DOORS))) (cw_or1 (ct_not (ct_val (ce_all (by rfl) (by rfl) (ca_cons (ce_comp (own := [("door", 1)]) (by rfl) S.nd (ci_seq (by rfl) (ce_slot 0)) (blk_by (N := ["row", "door", "warmth", "places"]) (sc := defScope s3) (by decide +kernel)) (by decide) (fun _ _ _ _ _ => (cgw_name S.nd (by rfl) (by first | exact Or.inl rfl | exact Or.inr rfl) (by decide))) (fun _ _ _ _ _ => cts_nil) (fun _ _ _ _ _ => (ce_call D.g2 (np2 dd) (hr.mono (by omega)) (by rfl) T.m2 T.k2 passW0 (ca_cons (ce_slot 1) ca_nil)))) ca_nil) (by rfl) T.f_all)))))) (css_cons (cs_ret ce_bl)
      css_nil) css_nil)
      (css_cons (cs_ret (ce_le (ce_sum (by rfl) (by rfl) (ca_cons (ce_comp (own := [("warmth", 2), ("places", 3)]) (by rfl) S.nd (ci_seq (by rfl) (ce_slot 0)) (blk_by (N := ["row", "door", "warmth", "places"]) (sc := defScope s3) (by decide +kernel)) (by decide) (fun _ _ _ _ _ => (cgw_tup (by rfl) (by rfl) (cgws_cons (cgw_name S.nd (by rfl) (by first | exact Or.inl rfl | exact Or.inr rfl) (by decide)) (cgws_cons (cgw_name S.nd (by rfl) (by first | exact Or.inl rfl | exact Or.inr rfl) (by decide)) cgws_nil)))) (fun _ _ _ _ _ => cts_nil) (fun _ _ _ _ _ => (ce_slot 3))) ca_nil) (by rfl) T.f_sum) (ce_globI' (by rfl) T.c_MAX_PLACES)))
      css_nil))
theorem sc4 : FnScope ["row", "places", "one", "other", "name"] ["row", "places"] (defScope s4) := ⟨rfl, rfl, rfl, by decide +kernel, rfl, by decide +kernel, by decide +kernel⟩
theorem bi4 {K : PySem.W.Frag} {fd : FuncData} (F : FunD K "are_crates" "are_crates" (defArgs s4) (defBody s4) (defScope s4) [] [] (a4 K) fd) : Binds K fd ["row", "places"] [] := F.bindsN fun _ _ _ _ _ _ us hl => match us, hl with | [_, _], _ => rfl
theorem b4 (T : Fx K mg) (D : Good P w K mg base dd) {f : Addr} {cdv : Value} {A : Around} {outer : List Env} {s : Shared} {H : Hp} {E : XK} (hr : Room (4 * dd + 3) (A.deeper (envOfC "are_crates" (defScope s4) s.heap.objs.size f cdv)))
    (tk : Takes (cxOf (CX P w) P w K mg base ["row", "places", "one", "other", "name"] "are_crates" (defScope s4) f cdv A outer s H E) (fun cls d _ H => E cls d H)) :
    CSs (cxOf (CX P w) P w K mg base ["row", "places", "one", "other", "name"] "are_crates" (defScope s4) f cdv A outer s H E) (cfg K) (fun cls d _ H => E cls d H) tb (callD tb dd) (defBody s4) B_are_crates := by
  have hu := hr.units
  have S := sc4
  exact (css_cons (cs_if (CW.ct (cw_or (ct_not (ct_lele ce_int (ce_len (by rfl) (ca_cons (ce_slot 0) ca_nil) (by rfl) T.f_len) (ce_min2 (by rfl) (ca_cons (ce_globI' (by rfl) T.c_MAX_CRATES) (ca_cons (ce_slot 1) ca_nil)) (by rfl) T.f_min))) (cw_or1 (ct_not (ct_val (ce_all (by rfl) (by rfl) (ca_cons (ce_comp (own := [("name", 4)]) (by rfl) S.nd (ci_seq (by rfl) (ce_slot 0)) (blk_by (N := ["row", "places", "one", "other", "name"]) (sc := defScope s4) (by decide +kernel)) (by decide) (fun _ _ _ _ _ => (cgw_name S.nd (by rfl) (by first | exact Or.inl rfl | exact Or.inr rfl) (by decide))) (fun _ _ _ _ _ => cts_nil) (fun _ _ _ _ _ => (ce_call D.g1 (np1 dd) (hr.mono (by omega)) (by rfl) T.m1 T.k1 passW0 (ca_cons (ce_slot 4) ca_nil)))) ca_nil) (by rfl) T.f_all)))))) (css_cons (cs_ret ce_bl)
      css_nil) css_nil)
      (css_cons (cs_ret (ce_all (by rfl) (by rfl) (ca_cons (ce_comp (own := [("one", 2), ("other", 3)]) (by rfl) S.nd (ci_zip (by rfl) (ce_slot 0) (ce_slice (by rfl) (ce_slot 0) (co_some ce_int) co_none) (by rfl) T.f_zip) (blk_by (N := ["row", "places", "one", "other", "name"]) (sc := defScope s4) (by decide +kernel)) (by decide) (fun _ _ _ _ _ => (cgw_tup (by rfl) (by rfl) (cgws_cons (cgw_name S.nd (by rfl) (by first | exact Or.inl rfl | exact Or.inr rfl) (by decide)) (cgws_cons (cgw_name S.nd (by rfl) (by first | exact Or.inl rfl | exact Or.inr rfl) (by decide)) cgws_nil)))) (fun _ _ _ _ _ => cts_nil) (fun _ _ _ _ _ => (ce_lt (ce_slot 2) (ce_slot 3)))) ca_nil) (by rfl) T.f_all))
      css_nil))
theorem sc5 : FnScope ["self", "doors", "crates", "edges", "door", "warmth", "places"] ["self", "doors", "crates"] (defScope s5) := ⟨rfl, rfl, rfl, by decide +kernel, rfl, by decide +kernel, by decide +kernel⟩
theorem bi5 {K : PySem.W.Frag} {fd : FuncData} (F : FunD K "__init__" "Store.__init__" (defArgs s5) (defBody s5) (defScope s5) [] [] (a5 K) fd) : Binds K fd ["self", "doors", "crates"] [] := F.bindsN fun _ _ _ _ _ _ us hl => match us, hl with | [_, _, _], _ => rfl
theorem b5 (T : Fx K mg) (D : Good P w K mg base dd) {f : Addr} {cdv : Value} {A : Around} {outer : List Env} {s : Shared} {H : Hp} {E : XK} (hr : Room (4 * dd + 3) (A.deeper (envOfC "Store.__init__" (defScope s5) s.heap.objs.size f cdv)))
    (tk : Takes (cxOf (CX P w) P w K mg base ["self", "doors", "crates", "edges", "door", "warmth", "places"] "Store.__init__" (defScope s5) f cdv A outer s H E) (fun cls d _ H => E cls d H)) :
    CSs (cxOf (CX P w) P w K mg base ["self", "doors", "crates", "edges", "door", "warmth", "places"] "Store.__init__" (defScope s5) f cdv A outer s H E) (cfg K) (fun cls d _ H => E cls d H) tb (callD tb dd) (defBody s5) B_Store___init__ := by
  have hu := hr.units
  have S := sc5
  exact (css_cons (cs_if (ct_not (ct_val (ce_call D.g3 (np3 dd) (hr.mono (by omega)) (by rfl) T.m3 T.k3 (passW tk) (ca_cons (ce_slot 1) ca_nil)))) (css_cons (cs_raiseF (by rfl) tk (by rfl) (by first | exact .inl rfl | exact .inr ⟨rfl, by decide⟩) T.xx1 D.x1 (hr.mono (by omega)) rfl rfl (by rfl) T.mx1 (cds_cons ce_str cds_nil))
      css_nil) css_nil)
      (css_cons (cs_if (ct_not (ct_val (ce_call D.g4 (np4 dd) (hr.mono (by omega)) (by rfl) T.m4 T.k4 (passW tk) (ca_cons (ce_slot 2) (ca_cons (ce_sum (by rfl) (by rfl) (ca_cons (ce_comp (own := [("warmth", 5), ("places", 6)]) (by rfl) S.nd (ci_seq (by rfl) (ce_slot 1)) (blk_by (N := ["self", "doors", "crates", "edges", "door", "warmth", "places"]) (sc := defScope s5) (by decide +kernel)) (by decide) (fun _ _ _ _ _ => (cgw_tup (by rfl) (by rfl) (cgws_cons (cgw_name S.nd (by rfl) (by first | exact Or.inl rfl | exact Or.inr rfl) (by decide)) (cgws_cons (cgw_name S.nd (by rfl) (by first | exact Or.inl rfl | exact Or.inr rfl) (by decide)) cgws_nil)))) (fun _ _ _ _ _ => cts_nil) (fun _ _ _ _ _ => (ce_slot 6))) ca_nil) (by rfl) T.f_sum) ca_nil))))) (css_cons (cs_raiseF (by rfl) tk (by rfl) (by first | exact .inl rfl | exact .inr ⟨rfl, by decide⟩) T.xx1 D.x1 (hr.mono (by omega)) rfl rfl (by rfl) T.mx1 (cds_cons ce_str cds_nil))
      css_nil) css_nil)
      (css_cons (cs_fldSl (ce_slot 0) (ce_tup (cv_cons (ce_slot 1) (cv_cons (ce_slot 2) cv_nil))) T.cl0 T.s0_1)
      (css_cons (cs_set (i := 3) S.nd (by rfl) (by first | exact Or.inl rfl | exact Or.inr rfl) (ce_lst cv_nil))
      (css_cons (cs_for (passes_of rfl) (by rfl) (ci_enum (by rfl) (ce_slot 1) (by rfl) T.f_enumerate) (cg_tup (by rfl) (by rfl) (cgs_cons (cg_name S.nd (i := 4) (by rfl) (by first | exact Or.inl rfl | exact Or.inr rfl)) (cgs_cons (cg_tup (by rfl) (by rfl) (cgs_cons (cg_name S.nd (i := 5) (by rfl) (by first | exact Or.inl rfl | exact Or.inr rfl)) (cgs_cons (cg_name S.nd (i := 6) (by rfl) (by first | exact Or.inl rfl | exact Or.inr rfl)) cgs_nil))) cgs_nil))) (css_cons (cs_expr (ce_extend (ce_slot 3) (cds_cons (ce_mul (ce_lst (cv_cons (ce_slot 4) cv_nil)) (ce_slot 6)) cds_nil)))
      css_nil))
      (css_cons (cs_fldSl (ce_slot 0) (ce_tupleF (by rfl) (ca_cons (ce_slot 3) ca_nil) (by rfl) T.f_tuple) T.cl0 T.s0_0)
      css_nil))))))
theorem sc6 : FnScope ["self"] ["self"] (defScope s6) := ⟨rfl, rfl, rfl, by decide +kernel, rfl, by decide +kernel, by decide +kernel⟩
theorem bi6 {K : PySem.W.Frag} {fd : FuncData} (F : FunD K "doors" "Store.doors" (defArgs s6) (defBody s6) (defScope s6) [] [] (a6 K) fd) : Binds K fd ["self"] [] := F.bindsN fun _ _ _ _ _ _ us hl => match us, hl with | [_], _ => rfl
theorem b6 (T : Fx K mg) (D : Good P w K mg base dd) {f : Addr} {cdv : Value} {A : Around} {outer : List Env} {s : Shared} {H : Hp} {E : XK} (hr : Room (4 * dd + 3) (A.deeper (envOfC "Store.doors" (defScope s6) s.heap.objs.size f cdv)))
    (tk : Takes (cxOf (CX P w) P w K mg base ["self"] "Store.doors" (defScope s6) f cdv A outer s H E) (fun cls d _ H => E cls d H)) :
    CSs (cxOf (CX P w) P w K mg base ["self"] "Store.doors" (defScope s6) f cdv A outer s H E) (cfg K) (fun cls d _ H => E cls d H) tb (callD tb dd) (defBody s6) B_Store_doors := by
  have hu := hr.units
  have S := sc6
  exact (css_cons (cs_ret (ce_ix (by rfl) (ce_fldSl (ce_slot 0) T.cl0 T.s0_1) ce_int))
      css_nil)
theorem sc7 : FnScope ["self"] ["self"] (defScope s7) := ⟨rfl, rfl, rfl, by decide +kernel, rfl, by decide +kernel, by decide +kernel⟩
theorem bi7 {K : PySem.W.Frag} {fd : FuncData} (F : FunD K "crates" "Store.crates" (defArgs s7) (defBody s7) (defScope s7) [] [] (a7 K) fd) : Binds K fd ["self"] [] := F.bindsN fun _ _ _ _ _ _ us hl => match us, hl with | [_], _ => rfl
theorem b7 (T : Fx K mg) (D : Good P w K mg base dd) {f : Addr} {cdv : Value} {A : Around} {outer : List Env} {s : Shared} {H : Hp} {E : XK} (hr : Room (4 * dd + 3) (A.deeper (envOfC "Store.crates" (defScope s7) s.heap.objs.size f cdv)))
    (tk : Takes (cxOf (CX P w) P w K mg base ["self"] "Store.crates" (defScope s7) f cdv A outer s H E) (fun cls d _ H => E cls d H)) :
    CSs (cxOf (CX P w) P w K mg base ["self"] "Store.crates" (defScope s7) f cdv A outer s H E) (cfg K) (fun cls d _ H => E cls d H) tb (callD tb dd) (defBody s7) B_Store_crates := by
  have hu := hr.units
  have S := sc7
  exact (css_cons (cs_ret (ce_ix (by rfl) (ce_fldSl (ce_slot 0) T.cl0 T.s0_1) ce_int))
      css_nil)
theorem sc8 : FnScope ["self"] ["self"] (defScope s8) := ⟨rfl, rfl, rfl, by decide +kernel, rfl, by decide +kernel, by decide +kernel⟩
theorem bi8 {K : PySem.W.Frag} {fd : FuncData} (F : FunD K "__len__" "Store.__len__" (defArgs s8) (defBody s8) (defScope s8) [] [] (a8 K) fd) : Binds K fd ["self"] [] := F.bindsN fun _ _ _ _ _ _ us hl => match us, hl with | [_], _ => rfl
theorem b8 (T : Fx K mg) (D : Good P w K mg base dd) {f : Addr} {cdv : Value} {A : Around} {outer : List Env} {s : Shared} {H : Hp} {E : XK} (hr : Room (4 * dd + 3) (A.deeper (envOfC "Store.__len__" (defScope s8) s.heap.objs.size f cdv)))
    (tk : Takes (cxOf (CX P w) P w K mg base ["self"] "Store.__len__" (defScope s8) f cdv A outer s H E) (fun cls d _ H => E cls d H)) :
    CSs (cxOf (CX P w) P w K mg base ["self"] "Store.__len__" (defScope s8) f cdv A outer s H E) (cfg K) (fun cls d _ H => E cls d H) tb (callD tb dd) (defBody s8) B_Store___len__ := by
  have hu := hr.units
  have S := sc8
  exact (css_cons (cs_ret (ce_len (by rfl) (ca_cons (ce_ix (by rfl) (ce_fldSl (ce_slot 0) T.cl0 T.s0_1) ce_int) ca_nil) (by rfl) T.f_len))
      css_nil)
theorem sc9 : FnScope ["self", "other"] ["self", "other"] (defScope s9) := ⟨rfl, rfl, rfl, by decide +kernel, rfl, by decide +kernel, by decide +kernel⟩
theorem bi9 {K : PySem.W.Frag} {fd : FuncData} (F : FunD K "__eq__" "Store.__eq__" (defArgs s9) (defBody s9) (defScope s9) [] [] (a9 K) fd) : Binds K fd ["self", "other"] [] := F.bindsN fun _ _ _ _ _ _ us hl => match us, hl with | [_, _], _ => rfl
theorem b9 (T : Fx K mg) (D : Good P w K mg base dd) {f : Addr} {cdv : Value} {A : Around} {outer : List Env} {s : Shared} {H : Hp} {E : XK} (hr : Room (4 * dd + 3) (A.deeper (envOfC "Store.__eq__" (defScope s9) s.heap.objs.size f cdv)))
    (tk : Takes (cxOf (CX P w) P w K mg base ["self", "other"] "Store.__eq__" (defScope s9) f cdv A outer s H E) (fun cls d _ H => E cls d H)) :
    CSs (cxOf (CX P w) P w K mg base ["self", "other"] "Store.__eq__" (defScope s9) f cdv A outer s H E) (cfg K) (fun cls d _ H => E cls d H) tb (callD tb dd) (defBody s9) B_Store___eq__ := by
  have hu := hr.units
  have S := sc9
  exact (css_cons (cs_ret (ce_and (ce_isi T.cl0 T.is0.1 T.is0.2.1 (ce_slot 1) (by rfl) T.f_isinstance (by rfl) T.mc0) (ce_one (ce_eq (by rfl) hu (ce_fldSl (ce_slot 0) T.cl0 T.s0_1) (ce_tup (cv_cons (ce_prop (ce_slot 1) T.cl0 T.p6.1 T.p6.2.1 T.p6.2.2.1 T.p6.2.2.2 D.g6 (np6 dd) (hr.mono (by omega))) (cv_cons (ce_prop (ce_slot 1) T.cl0 T.p7.1 T.p7.2.1 T.p7.2.2.1 T.p7.2.2.2 D.g7 (np7 dd) (hr.mono (by omega))) cv_nil)))))))
      css_nil)
theorem sc19 : FnScope ["word", "sign"] ["word"] (defScope s19) := ⟨rfl, rfl, rfl, by decide +kernel, rfl, by decide +kernel, by decide +kernel⟩
theorem bi19 {K : PySem.W.Frag} {fd : FuncData} (F : FunD K "is_count" "is_count" (defArgs s19) (defBody s19) (defScope s19) [] [] (a19 K) fd) : Binds K fd ["word"] [] := F.bindsN fun _ _ _ _ _ _ us hl => match us, hl with | [_], _ => rfl
theorem b19 (T : Fx K mg) (D : Good P w K mg base dd) {f : Addr} {cdv : Value} {A : Around} {outer : List Env} {s : Shared} {H : Hp} {E : XK} (hr : Room (4 * dd + 3) (A.deeper (envOfC "is_count" (defScope s19) s.heap.objs.size f cdv)))
    (tk : Takes (cxOf (CX P w) P w K mg base ["word", "sign"] "is_count" (defScope s19) f cdv A outer s H E) (fun cls d _ H => E cls d H)) :
    CSs (cxOf (CX P w) P w K mg base ["word", "sign"] "is_count" (defScope s19) f cdv A outer s H E) (cfg K) (fun cls d _ H => E cls d H) tb (callD tb dd) (defBody s19) B_is_count := by
  have hu := hr.units
  have S := sc19
  exact (css_cons (cs_ret (ce_and (ce_lele ce_int (ce_len (by rfl) (ca_cons (ce_slot 0) ca_nil) (by rfl) T.f_len) (ce_globI' (by rfl) T.c_MOST_DIGITS)) (ce_and (ce_all (by rfl) (by rfl) (ca_cons (ce_comp (own := [("sign", 1)]) (by rfl) S.nd (ci_seq (by rfl) (ce_slot 0)) (blk_by (N := ["word", "sign"]) (sc := defScope s19) (by decide +kernel)) (by decide) (fun _ _ _ _ _ => (cgw_name S.nd (by rfl) (by first | exact Or.inl rfl | exact Or.inr rfl) (by decide))) (fun _ _ _ _ _ => cts_nil) (fun _ _ _ _ _ => (ce_in (by rfl) (ce_slot 1) (ce_globS' (by rfl) T.c_DIGITS)))) ca_nil) (by rfl) T.f_all) (ce_one (ce_ne (by rfl) hu (ce_ix (by rfl) (ce_slot 0) ce_int) ce_str)))))
      css_nil)
theorem sc20 : FnScope ["self", "number", "text"] ["self", "number", "text"] (defScope s20) := ⟨rfl, rfl, rfl, by decide +kernel, rfl, by decide +kernel, by decide +kernel⟩
theorem bi20 {K : PySem.W.Frag} {fd : FuncData} (F : FunD K "__init__" "Row.__init__" (defArgs s20) (defBody s20) (defScope s20) [] [] (a20 K) fd) : Binds K fd ["self", "number", "text"] [] := F.bindsN fun _ _ _ _ _ _ us hl => match us, hl with | [_, _, _], _ => rfl
theorem b20 (T : Fx K mg) (D : Good P w K mg base dd) {f : Addr} {cdv : Value} {A : Around} {outer : List Env} {s : Shared} {H : Hp} {E : XK} (hr : Room (4 * dd + 3) (A.deeper (envOfC "Row.__init__" (defScope s20) s.heap.objs.size f cdv)))
    (tk : Takes (cxOf (CX P w) P w K mg base ["self", "number", "text"] "Row.__init__" (defScope s20) f cdv A outer s H E) (fun cls d _ H => E cls d H)) :
    CSs (cxOf (CX P w) P w K mg base ["self", "number", "text"] "Row.__init__" (defScope s20) f cdv A outer s H E) (cfg K) (fun cls d _ H => E cls d H) tb (callD tb dd) (defBody s20) B_Row___init__ := by
  have hu := hr.units
  have S := sc20
  exact (css_cons (cs_fld (ce_slot 0) (ce_slot 1) T.cl2 T.n2_0 (by rfl))
      (css_cons (cs_fld (ce_slot 0) (ce_split (ce_slot 2) (ca_cons ce_str ca_nil)) T.cl2 T.n2_1 (by rfl))
      (css_cons (cs_fld (ce_slot 0) ce_int T.cl2 T.n2_2 (by rfl))
      css_nil)))
theorem sc21 : FnScope ["self"] ["self"] (defScope s21) := ⟨rfl, rfl, rfl, by decide +kernel, rfl, by decide +kernel, by decide +kernel⟩
theorem bi21 {K : PySem.W.Frag} {fd : FuncData} (F : FunD K "has_more" "Row.has_more" (defArgs s21) (defBody s21) (defScope s21) [] [] (a21 K) fd) : Binds K fd ["self"] [] := F.bindsN fun _ _ _ _ _ _ us hl => match us, hl with | [_], _ => rfl
theorem b21 (T : Fx K mg) (D : Good P w K mg base dd) {f : Addr} {cdv : Value} {A : Around} {outer : List Env} {s : Shared} {H : Hp} {E : XK} (hr : Room (4 * dd + 3) (A.deeper (envOfC "Row.has_more" (defScope s21) s.heap.objs.size f cdv)))
    (tk : Takes (cxOf (CX P w) P w K mg base ["self"] "Row.has_more" (defScope s21) f cdv A outer s H E) (fun cls d _ H => E cls d H)) :
    CSs (cxOf (CX P w) P w K mg base ["self"] "Row.has_more" (defScope s21) f cdv A outer s H E) (cfg K) (fun cls d _ H => E cls d H) tb (callD tb dd) (defBody s21) B_Row_has_more := by
  have hu := hr.units
  have S := sc21
  exact (css_cons (cs_ret (ce_lt (ce_fld (ce_slot 0) T.cl2 T.n2_2 (by rfl)) (ce_len (by rfl) (ca_cons (ce_fld (ce_slot 0) T.cl2 T.n2_1 (by rfl)) ca_nil) (by rfl) T.f_len)))
      css_nil)
theorem sc22 : FnScope ["self"] ["self"] (defScope s22) := ⟨rfl, rfl, rfl, by decide +kernel, rfl, by decide +kernel, by decide +kernel⟩
theorem bi22 {K : PySem.W.Frag} {fd : FuncData} (F : FunD K "fail" "Row.fail" (defArgs s22) (defBody s22) (defScope s22) [] [] (a22 K) fd) : Binds K fd ["self"] [] := F.bindsN fun _ _ _ _ _ _ us hl => match us, hl with | [_], _ => rfl
theorem b22 (T : Fx K mg) (D : Good P w K mg base dd) {f : Addr} {cdv : Value} {A : Around} {outer : List Env} {s : Shared} {H : Hp} {E : XK} (hr : Room (4 * dd + 3) (A.deeper (envOfC "Row.fail" (defScope s22) s.heap.objs.size f cdv)))
    (tk : Takes (cxOf (CX P w) P w K mg base ["self"] "Row.fail" (defScope s22) f cdv A outer s H E) (fun cls d _ H => E cls d H)) :
    CSs (cxOf (CX P w) P w K mg base ["self"] "Row.fail" (defScope s22) f cdv A outer s H E) (cfg K) (fun cls d _ H => E cls d H) tb (callD tb dd) (defBody s22) B_Row_fail := by
  have hu := hr.units
  have S := sc22
  exact (css_cons (cs_raiseS (by rfl) tk (by rfl) (by first | exact .inl rfl | exact .inr ⟨rfl, by decide⟩) T.xx3 D.x3 (hr.mono (by omega)) rfl rfl (by rfl) T.mx3 (cds_cons (ce_fld (ce_slot 0) T.cl2 T.n2_0 (by rfl)) (cds_cons (ce_fld (ce_slot 0) T.cl2 T.n2_2 (by rfl)) cds_nil)))
      css_nil)
theorem sc24 : FnScope ["self", "found", "last", "word"] ["self"] (defScope s24) := ⟨rfl, rfl, rfl, by decide +kernel, rfl, by decide +kernel, by decide +kernel⟩
theorem bi24 {K : PySem.W.Frag} {fd : FuncData} (F : FunD K "read_crates" "Row.read_crates" (defArgs s24) (defBody s24) (defScope s24) [] [] (a24 K) fd) : Binds K fd ["self"] [] := F.bindsN fun _ _ _ _ _ _ us hl => match us, hl with | [_], _ => rfl
theorem b24 (T : Fx K mg) (D : Good P w K mg base dd) {A : Around} {outer : List Env} {s : Shared} {H : Hp} {E : XK} (hr : Room (4 * dd + 3) (A.deeper (envOfC "Row.read_crates" (defScope s24) s.heap.objs.size (a24 K) (codeAt K (a24 K)))))
    (tk : Takes (cxOf (CX P w) P w K mg base ["self", "found", "last", "word"] "Row.read_crates" (defScope s24) (a24 K) (codeAt K (a24 K)) A outer s H E) (fun cls d _ H => E cls d H)) :
    CSs (cxOf (CX P w) P w K mg base ["self", "found", "last", "word"] "Row.read_crates" (defScope s24) (a24 K) (codeAt K (a24 K)) A outer s H E) (cfg K) (fun cls d _ H => E cls d H) tb (callD tb dd) (defBody s24) B_Row_read_crates := by
  have hu := hr.units
  have S := sc24
  exact (css_cons (cs_set (i := 1) S.nd (by rfl) (by first | exact Or.inl rfl | exact Or.inr rfl) (ce_lst cv_nil))
      (css_cons (cs_while (passes_of rfl) (CW.ct (cw_or (ct_eq (by rfl) hu (ce_slot 1) (ce_lst cv_nil)) (cw_or1 (ct_val (ce_meth0 (ce_slot 0) T.cl2 (by decide +kernel) T.me21 D.g21 (np21 dd) (hr.mono (by omega)) (passW tk)))))) (css_cons (cs_if (ct_eq (by rfl) hu (ce_len (by rfl) (ca_cons (ce_slot 1) ca_nil) (by rfl) T.f_len) (ce_globI' (by rfl) T.c_MAX_CRATES)) (css_cons (cs_expr (ce_meth0 (ce_slot 0) T.cl2 (by decide +kernel) T.me22 D.g22 (np22 dd) (hr.mono (by omega)) (passW tk)))
      css_nil) css_nil)
      (css_cons (cs_set (i := 2) S.nd (by rfl) (by first | exact Or.inl rfl | exact Or.inr rfl) (ce_ite (ct_ne (by rfl) hu (ce_slot 1) (ce_lst cv_nil)) (ce_ix (by rfl) (ce_slot 1) (ce_neg ce_int)) ce_str))
      (css_cons (cs_expr (ce_append (ce_slot 1) (cds_cons (ce_nextL (ce_slot 0) T.cl2 (by decide +kernel) T.me23 tk (nx23 T D) D.tb24 T.cd24 (hr.mono (by omega)) (lamP_by (sc := defScope s24) (wd := "word") (by decide +kernel)) S.nd (by rfl) (by rfl) (fun _ _ _ _ _ _ => rfl) (fun A outer s H f c' hr => by have hu := hr.units; exact (ce_and (ce_call D.g1 (np1 dd) (hr.mono (by omega)) (by rfl) T.m1 T.k1 passW0 (ca_cons (ce_slot 3) ca_nil)) (ce_one (ce_gt (ce_slot 3) (ce_slot 2)))))) cds_nil)))
      css_nil))))
      (css_cons (cs_ret (ce_tupleF (by rfl) (ca_cons (ce_slot 1) ca_nil) (by rfl) T.f_tuple))
      css_nil)))
theorem sc25 : FnScope ["rows", "names"] ["rows", "names"] (defScope s25) := ⟨rfl, rfl, rfl, by decide +kernel, rfl, by decide +kernel, by decide +kernel⟩
theorem bi25 {K : PySem.W.Frag} {fd : FuncData} (F : FunD K "heads_at" "heads_at" (defArgs s25) (defBody s25) (defScope s25) [] [] (a25 K) fd) : Binds K fd ["rows", "names"] [] := F.bindsN fun _ _ _ _ _ _ us hl => match us, hl with | [_, _], _ => rfl
theorem b25 (T : Fx K mg) (D : Good P w K mg base dd) {f : Addr} {cdv : Value} {A : Around} {outer : List Env} {s : Shared} {H : Hp} {E : XK} (hr : Room (4 * dd + 3) (A.deeper (envOfC "heads_at" (defScope s25) s.heap.objs.size f cdv)))
    (tk : Takes (cxOf (CX P w) P w K mg base ["rows", "names"] "heads_at" (defScope s25) f cdv A outer s H E) (fun cls d _ H => E cls d H)) :
    CSs (cxOf (CX P w) P w K mg base ["rows", "names"] "heads_at" (defScope s25) f cdv A outer s H E) (cfg K) (fun cls d _ H => E cls d H) tb (callD tb dd) (defBody s25) B_heads_at := by
  have hu := hr.units
  have S := sc25
  exact (css_cons (cs_if (ct_ne (by rfl) hu (ce_slot 1) (ce_tup cv_nil)) (css_cons (cs_ret (ce_tup cv_nil))
      css_nil) css_nil)
      (css_cons (cs_ret (ce_add (by rfl) (ce_ite (ct_lt (ce_len (by rfl) (ca_cons (ce_slot 0) ca_nil) (by rfl) T.f_len) (ce_globI' (by rfl) T.c_MAX_DOORS)) (ce_tup (cv_cons (ce_globS' (by rfl) T.c_DOOR) cv_nil)) (ce_tup cv_nil)) (ce_ite (ct_ne (by rfl) hu (ce_slot 0) (ce_lst cv_nil)) (ce_tup (cv_cons (ce_globS' (by rfl) T.c_CRATES) cv_nil)) (ce_tup cv_nil))))
      css_nil))
theorem sc26 : FnScope ["text", "lines", "rows", "names", "number", "line", "row", "heads", "warmth", "word"] ["text"] (defScope s26) := ⟨rfl, rfl, rfl, by decide +kernel, rfl, by decide +kernel, by decide +kernel⟩
theorem bi26 {K : PySem.W.Frag} {fd : FuncData} (F : FunD K "parse_store" "parse_store" (defArgs s26) (defBody s26) (defScope s26) [] [] (a26 K) fd) : Binds K fd ["text"] [] := F.bindsN fun _ _ _ _ _ _ us hl => match us, hl with | [_], _ => rfl
theorem b26 (T : Fx K mg) (D : Good P w K mg base dd) {A : Around} {outer : List Env} {s : Shared} {H : Hp} {E : XK} (hr : Room (4 * dd + 3) (A.deeper (envOfC "parse_store" (defScope s26) s.heap.objs.size (a26 K) (codeAt K (a26 K)))))
    (tk : Takes (cxOf (CX P w) P w K mg base ["text", "lines", "rows", "names", "number", "line", "row", "heads", "warmth", "word"] "parse_store" (defScope s26) (a26 K) (codeAt K (a26 K)) A outer s H E) (fun cls d _ H => E cls d H)) :
    CSs (cxOf (CX P w) P w K mg base ["text", "lines", "rows", "names", "number", "line", "row", "heads", "warmth", "word"] "parse_store" (defScope s26) (a26 K) (codeAt K (a26 K)) A outer s H E) (cfg K) (fun cls d _ H => E cls d H) tb (callD tb dd) (defBody s26) B_parse_store := by
  have hu := hr.units
  have S := sc26
  exact (css_cons (cs_asg2 (by rfl) S.nd (by rfl) (by rfl) (by decide) (by rfl) (by rfl) (ca_cons (ce_lst cv_nil) (ca_cons (ce_tup cv_nil) ca_nil)) (by rfl))
      (css_cons (cs_set (i := 1) S.nd (by rfl) (by first | exact Or.inl rfl | exact Or.inr rfl) (ce_split (ce_slot 0) (ca_cons ce_str ca_nil)))
      (css_cons (cs_for (passes_of rfl) (by rfl) (ci_enum (by rfl) (ce_slot 1) (by rfl) T.f_enumerate) (cg_tup (by rfl) (by rfl) (cgs_cons (cg_name S.nd (i := 4) (by rfl) (by first | exact Or.inl rfl | exact Or.inr rfl)) (cgs_cons (cg_name S.nd (i := 5) (by rfl) (by first | exact Or.inl rfl | exact Or.inr rfl)) cgs_nil))) (css_cons (cs_set (i := 6) S.nd (by rfl) (by first | exact Or.inl rfl | exact Or.inr rfl) (ce_new T.mk2 T.md2 (by rfl) D.g20 (np20 dd) (hr.mono (by omega)) (by rfl) T.mc2 (passW tk) (ca_cons (ce_fz (ce_slot 4)) (ca_cons (ce_fz (ce_slot 5)) ca_nil))))
      (css_cons (cs_set (i := 7) S.nd (by rfl) (by first | exact Or.inl rfl | exact Or.inr rfl) (ce_call D.g25 (np25 dd) (hr.mono (by omega)) (by rfl) T.m25 T.k25 (passW tk) (ca_cons (ce_slot 2) (ca_cons (ce_slot 3) ca_nil))))
      (css_cons (cs_if (ct_eq (by rfl) hu (ce_nextL (ce_slot 6) T.cl2 (by decide +kernel) T.me23 tk (nx23 T D) D.tb26 T.cd26 (hr.mono (by omega)) (lamP_by (sc := defScope s26) (wd := "word") (by decide +kernel)) S.nd (by rfl) (by rfl) (fun _ _ _ _ _ _ => rfl) (fun A outer s H f c' hr => by have hu := hr.units; exact (ce_in (by rfl) (ce_slot 9) (ce_slot 7)))) (ce_globS' (by rfl) T.c_CRATES)) (css_cons (cs_set (i := 3) S.nd (by rfl) (by first | exact Or.inl rfl | exact Or.inr rfl) (ce_meth0 (ce_slot 6) T.cl2 (by decide +kernel) T.me24 D.g24 (np24 dd) (hr.mono (by omega)) (passW tk)))
      css_nil) (css_cons (cs_set (i := 8) S.nd (by rfl) (by first | exact Or.inl rfl | exact Or.inr rfl) (ce_intF (ca_cons (ce_nextD (ce_slot 6) T.cl2 (by decide +kernel) T.me23 tk (nx23 T D) (hr.mono (by omega)) (by omega) (by rfl) T.m19 T.k19 D.g19) ca_nil) (by rfl) T.f_int))
      (css_cons (cs_expr (ce_append (ce_slot 2) (cds_cons (ce_tup (cv_cons (ce_slot 8) (cv_cons (ce_intF (ca_cons (ce_nextD (ce_slot 6) T.cl2 (by decide +kernel) T.me23 tk (nx23 T D) (hr.mono (by omega)) (by omega) (by rfl) T.m19 T.k19 D.g19) ca_nil) (by rfl) T.f_int) cv_nil))) cds_nil)))
      (css_cons (cs_if (ct_val (ce_meth0 (ce_slot 6) T.cl2 (by decide +kernel) T.me21 D.g21 (np21 dd) (hr.mono (by omega)) (passW tk))) (css_cons (cs_expr (ce_meth0 (ce_slot 6) T.cl2 (by decide +kernel) T.me22 D.g22 (np22 dd) (hr.mono (by omega)) (passW tk)))
      css_nil) css_nil)
      css_nil))))
      css_nil))))
      (css_cons (cs_if (ct_eq (by rfl) hu (ce_slot 3) (ce_tup cv_nil)) (css_cons (cs_raiseS (by rfl) tk (by rfl) (by first | exact .inl rfl | exact .inr ⟨rfl, by decide⟩) T.xx3 D.x3 (hr.mono (by omega)) rfl rfl (by rfl) T.mx3 (cds_cons (ce_len (by rfl) (ca_cons (ce_slot 1) ca_nil) (by rfl) T.f_len) (cds_cons ce_int cds_nil)))
      css_nil) css_nil)
      (css_cons (cs_ret (ce_frz T.mk0 T.md0 (by rfl) D.g5 (np5 dd) (hr.mono (by omega)) (by rfl) T.mc0 (passW tk) (ca_cons (ce_tupleF (by rfl) (ca_cons (ce_slot 2) ca_nil) (by rfl) T.f_tuple) (ca_cons (ce_fz (ce_slot 3)) ca_nil))))
      css_nil)))))
theorem sc18 : FnScope ["_law_row", "_law_many", "_law_cell", "_law_found"] ["_law_row", "_law_many"] (defScope s18) := ⟨rfl, rfl, rfl, by decide +kernel, rfl, by decide +kernel, by decide +kernel⟩
theorem bi18 {K : PySem.W.Frag} {fd : FuncData} (F : FunD K "_law_taken" "_law_taken" (defArgs s18) (defBody s18) (defScope s18) [] [] (a18 K) fd) : Binds K fd ["_law_row", "_law_many"] [] := F.bindsN fun _ _ _ _ _ _ us hl => match us, hl with | [_, _], _ => rfl
theorem b18 (T : Fx K mg) (D : Good P w K mg base dd) {f : Addr} {cdv : Value} {A : Around} {outer : List Env} {s : Shared} {H : Hp} {E : XK} (hr : Room (4 * dd + 3) (A.deeper (envOfC "_law_taken" (defScope s18) s.heap.objs.size f cdv)))
    (tk : Takes (cxOf (CX P w) P w K mg base ["_law_row", "_law_many", "_law_cell", "_law_found"] "_law_taken" (defScope s18) f cdv A outer s H E) (fun cls d _ H => E cls d H)) :
    CSs (cxOf (CX P w) P w K mg base ["_law_row", "_law_many", "_law_cell", "_law_found"] "_law_taken" (defScope s18) f cdv A outer s H E) (cfg K) (fun cls d _ H => E cls d H) tb (callD tb dd) (defBody s18) B__law_taken := by
  have hu := hr.units
  have S := sc18
  exact (css_cons (cs_if (ct_gt (ce_ix (by rfl) (ce_slot 0) ce_int) ce_int) (css_cons (cs_set (i := 3) S.nd (by rfl) (by first | exact Or.inl rfl | exact Or.inr rfl) (ce_mod (ce_intF (ca_cons (ce_ix (by rfl) (ce_slot 0) ce_int) ca_nil) (by rfl) T.f_int) (ce_slot 1)))
      (css_cons (cs_asg (cg_sub (ce_slot 0) ce_int) (fun _ z => nomatch z) (ce_fdiv (ce_ix (by rfl) (ce_slot 0) ce_int) (ce_slot 1)))
      (css_cons (cs_ret (ce_slot 3))
      css_nil))) css_nil)
      (css_cons (cs_asg (cg_sub (ce_slot 0) ce_int) (fun _ z => nomatch z) (ce_add (by rfl) (ce_ix (by rfl) (ce_slot 0) ce_int) ce_int))
      (css_cons (cs_if (ct_gt (ce_ix (by rfl) (ce_slot 0) ce_int) (ce_len (by rfl) (ca_cons (ce_ix (by rfl) (ce_slot 0) ce_int) ca_nil) (by rfl) T.f_len)) (css_cons (cs_asg (cg_sub (ce_slot 0) ce_int) (fun _ z => nomatch z) (ce_mod (ce_intF (ca_cons (ce_add (by rfl) (ce_mul (ce_ix (by rfl) (ce_slot 0) ce_int) ce_int) ce_int) ca_nil) (by rfl) T.f_int) ce_int))
      (css_cons (cs_ret (ce_mod (ce_intF (ca_cons (ce_fdiv (ce_ix (by rfl) (ce_slot 0) ce_int) ce_int) ca_nil) (by rfl) T.f_int) (ce_slot 1)))
      css_nil)) css_nil)
      (css_cons (cs_set (i := 2) S.nd (by rfl) (by first | exact Or.inl rfl | exact Or.inr rfl) (ce_ix (by rfl) (ce_ix (by rfl) (ce_slot 0) ce_int) (ce_sub (ce_ix (by rfl) (ce_slot 0) ce_int) ce_int)))
      (css_cons (cs_asg (cg_sub (ce_slot 0) ce_int) (fun _ z => nomatch z) (ce_mod (ce_intF (ca_cons (ce_add (by rfl) (ce_add (by rfl) (ce_mul (ce_ix (by rfl) (ce_slot 0) ce_int) ce_int) (ce_slot 2)) ce_int) ca_nil) (by rfl) T.f_int) ce_int))
      (css_cons (cs_if (ct_ge (ce_slot 2) (ce_pow ce_int ce_int)) (css_cons (cs_asg (cg_sub (ce_slot 0) ce_int) (fun _ z => nomatch z) (ce_fdiv (ce_slot 2) (ce_slot 1)))
      css_nil) css_nil)
      (css_cons (cs_ret (ce_mod (ce_intF (ca_cons (ce_slot 2) ca_nil) (by rfl) T.f_int) (ce_slot 1)))
      css_nil)))))))
theorem sc1000 : FnScope ["_law_rows", "e"] ["_law_rows"] (defScope s1000) := ⟨rfl, rfl, rfl, by decide +kernel, rfl, by decide +kernel, by decide +kernel⟩
theorem bi1000 {K : PySem.W.Frag} {fd : FuncData} (F : FunD K "_law_place" "_law_place" (defArgs s1000) (defBody s1000) (defScope s1000) [] [] (a1000 K) fd) : Binds K fd ["_law_rows"] [] := F.bindsN fun _ _ _ _ _ _ us hl => match us, hl with | [_], _ => rfl
theorem b1000 (T : Fx K mg) (D : Good P w K mg base dd) {f : Addr} {cdv : Value} {A : Around} {outer : List Env} {s : Shared} {H : Hp} {E : XK} (hr : Room (4 * dd + 3) (A.deeper (envOfC "_law_place" (defScope s1000) s.heap.objs.size f cdv)))
    (tk : Takes (cxOf (CX P w) P w K mg base ["_law_rows", "e"] "_law_place" (defScope s1000) f cdv A outer s H E) (fun cls d _ H => E cls d H)) :
    CSs (cxOf (CX P w) P w K mg base ["_law_rows", "e"] "_law_place" (defScope s1000) f cdv A outer s H E) (cfg K) (fun cls d _ H => E cls d H) tb (callD tb dd) (defBody s1000) L45__law_place := by
  have hu := hr.units
  have S := sc1000
  exact (css_cons (cs_tryR (by rfl) (by rfl) S.nd tk (fun W' pn xe tk _ => (css_cons (cs_expr (ce_call D.g26 (np26 dd) (hr.mono (by omega)) (by rfl) T.m26 T.k26 (passW tk) (ca_cons (ce_join ce_str (ca_cons (ce_slot 0) ca_nil)) ca_nil)))
      css_nil)) (CHs.named ⟨(by rfl), by decide, .inl T.mx3⟩ (by rfl) (by rfl) (exo3 T) (chx_pair (chx_fld (n := 1) (ns := ["row", "word"]) (by rfl) (by rfl) T.xf3 (T.xx3.2.1 "row" (by decide)) (by rfl) (.inl rfl)) (chx_fld (n := 1) (ns := ["row", "word"]) (by rfl) (by rfl) T.xf3 (T.xx3.2.1 "word" (by decide)) (by rfl) (.inl rfl))) (CHs.named ⟨(by rfl), by decide, .inl T.mx1⟩ (by rfl) (by rfl) (exo1 T) (chx_pair chx_str (chx_fld (n := 1) (ns := ["part"]) (by rfl) (by rfl) T.xf1 (T.xx1.2.1 "part" (by decide)) (by rfl) (.inl rfl))) CHs.nil)))
      (css_cons (cs_ret ce_non)
      css_nil))
theorem sc1001 : FnScope ["_law_script", "_law_row", "_law_good", "_law_early", "_law_late", "_law_turn", "_law_k", "_law_line", "_law_many", "_law_word"] ["_law_script"] (defScope s1001) := ⟨rfl, rfl, rfl, by decide +kernel, rfl, by decide +kernel, by decide +kernel⟩
theorem bi1001 {K : PySem.W.Frag} {fd : FuncData} (F : FunD K "law" "law" (defArgs s1001) (defBody s1001) (defScope s1001) [] [] (a1001 K) fd) : Binds K fd ["_law_script"] [] := F.bindsN fun _ _ _ _ _ _ us hl => match us, hl with | [_], _ => rfl
theorem b1001 (T : Fx K mg) (D : Good P w K mg base dd) {f : Addr} {cdv : Value} {A : Around} {outer : List Env} {s : Shared} {H : Hp} {E : XK} (hr : Room (4 * dd + 3) (A.deeper (envOfC "law" (defScope s1001) s.heap.objs.size f cdv)))
    (tk : Takes (cxOf (CX P w) P w K mg base ["_law_script", "_law_row", "_law_good", "_law_early", "_law_late", "_law_turn", "_law_k", "_law_line", "_law_many", "_law_word"] "law" (defScope s1001) f cdv A outer s H E) (fun cls d _ H => E cls d H)) :
    CSs (cxOf (CX P w) P w K mg base ["_law_script", "_law_row", "_law_good", "_law_early", "_law_late", "_law_turn", "_law_k", "_law_line", "_law_many", "_law_word"] "law" (defScope s1001) f cdv A outer s H E) (cfg K) (fun cls d _ H => E cls d H) tb (callD tb dd) (defBody s1001) L45_law := by
  have hu := hr.units
  have S := sc1001
  exact (css_cons (cs_set (i := 1) S.nd (by rfl) (by first | exact Or.inl rfl | exact Or.inr rfl) (ce_settle (ce_lst (cv_cons (ce_slot 0) (cv_cons ce_int (cv_cons ce_int (cv_cons ce_int cv_nil)))))))
      (css_cons (cs_set (i := 2) S.nd (by rfl) (by first | exact Or.inl rfl | exact Or.inr rfl) (ce_lst (cv_cons ce_str (cv_cons ce_str (cv_cons ce_str cv_nil)))))
      (css_cons (cs_if (ct_isnot (ce_call D.g1000 (np1000 dd) (hr.mono (by omega)) (by rfl) T.m1000 T.k1000 (passW tk) (ca_cons (ce_slot 2) ca_nil)) ce_non) (css_cons (cs_ret ce_bl)
      css_nil) css_nil)
      (css_cons (cs_set (i := 3) S.nd (by rfl) (by first | exact Or.inl rfl | exact Or.inr rfl) (ce_lst (cv_cons (ce_tup (cv_cons ce_str (cv_cons ce_int cv_nil))) (cv_cons (ce_tup (cv_cons ce_str (cv_cons ce_int cv_nil))) (cv_cons (ce_tup (cv_cons ce_str (cv_cons ce_int cv_nil))) (cv_cons (ce_tup (cv_cons ce_str (cv_cons ce_int cv_nil))) (cv_cons (ce_tup (cv_cons ce_str (cv_cons ce_int cv_nil))) (cv_cons (ce_tup (cv_cons ce_str (cv_cons ce_int cv_nil))) cv_nil))))))))
      (css_cons (cs_expr (ce_append (ce_slot 3) (cds_cons (ce_tup (cv_cons ce_str (cv_cons ce_int cv_nil))) cds_nil)))
      (css_cons (cs_set (i := 3) S.nd (by rfl) (by first | exact Or.inl rfl | exact Or.inr rfl) (ce_add (by rfl) (ce_slot 3) (ce_lst (cv_cons (ce_tup (cv_cons ce_str (cv_cons ce_int cv_nil))) (cv_cons (ce_tup (cv_cons ce_str (cv_cons ce_int cv_nil))) (cv_cons (ce_tup (cv_cons ce_str (cv_cons ce_int cv_nil))) (cv_cons (ce_tup (cv_cons ce_str (cv_cons ce_int cv_nil))) (cv_cons (ce_tup (cv_cons ce_str (cv_cons ce_int cv_nil))) cv_nil))))))))
      (css_cons (cs_set (i := 4) S.nd (by rfl) (by first | exact Or.inl rfl | exact Or.inr rfl) (ce_lst (cv_cons (ce_tup (cv_cons ce_str (cv_cons ce_int cv_nil))) (cv_cons (ce_tup (cv_cons ce_str (cv_cons ce_int cv_nil))) (cv_cons (ce_tup (cv_cons ce_str (cv_cons ce_int cv_nil))) (cv_cons (ce_tup (cv_cons ce_str (cv_cons ce_int cv_nil))) (cv_cons (ce_tup (cv_cons ce_str (cv_cons ce_int cv_nil))) cv_nil)))))))
      (css_cons (cs_set (i := 4) S.nd (by rfl) (by first | exact Or.inl rfl | exact Or.inr rfl) (ce_add (by rfl) (ce_slot 4) (ce_lst (cv_cons (ce_tup (cv_cons ce_str (cv_cons ce_int cv_nil))) (cv_cons (ce_tup (cv_cons ce_str (cv_cons ce_int cv_nil))) (cv_cons (ce_tup (cv_cons ce_str (cv_cons ce_int cv_nil))) (cv_cons (ce_tup (cv_cons ce_str (cv_cons ce_int cv_nil))) cv_nil)))))))
      (css_cons (cs_set (i := 4) S.nd (by rfl) (by first | exact Or.inl rfl | exact Or.inr rfl) (ce_add (by rfl) (ce_slot 4) (ce_lst (cv_cons (ce_tup (cv_cons ce_str (cv_cons ce_int cv_nil))) (cv_cons (ce_tup (cv_cons ce_str (cv_cons ce_int cv_nil))) cv_nil)))))
      (css_cons (cs_for (passes_of rfl) (by rfl) (ci_range1 ce_int (by rfl) T.f_range) (cg_name S.nd (i := 5) (by rfl) (by first | exact Or.inl rfl | exact Or.inr rfl)) (css_cons (cs_set (i := 6) S.nd (by rfl) (by first | exact Or.inl rfl | exact Or.inr rfl) (ce_call D.g18 (np18 dd) (hr.mono (by omega)) (by rfl) T.m18 T.k18 (passW tk) (ca_cons (ce_slot 1) (ca_cons ce_int ca_nil))))
      (css_cons (cs_asg (cg_tup (by rfl) (by rfl) (cgs_cons (cg_name S.nd (i := 7) (by rfl) (by first | exact Or.inl rfl | exact Or.inr rfl)) (cgs_cons (cg_name S.nd (i := 9) (by rfl) (by first | exact Or.inl rfl | exact Or.inr rfl)) cgs_nil))) (fun _ z => nomatch z) (ce_ix (by rfl) (ce_slot 3) (ce_call D.g18 (np18 dd) (hr.mono (by omega)) (by rfl) T.m18 T.k18 (passW tk) (ca_cons (ce_slot 1) (ca_cons (ce_len (by rfl) (ca_cons (ce_slot 3) ca_nil) (by rfl) T.f_len) ca_nil)))))
      (css_cons (cs_if (ct_ne (by rfl) hu (ce_call D.g1000 (np1000 dd) (hr.mono (by omega)) (by rfl) T.m1000 T.k1000 (passW tk) (ca_cons (ce_add (by rfl) (ce_add (by rfl) (ce_slice (by rfl) (ce_slot 2) co_none (co_some (ce_slot 6))) (ce_lst (cv_cons (ce_slot 7) cv_nil))) (ce_slice (by rfl) (ce_slot 2) (co_some (ce_add (by rfl) (ce_slot 6) ce_int)) co_none)) ca_nil)) (ce_tup (cv_cons (ce_slot 6) (cv_cons (ce_slot 9) cv_nil)))) (css_cons (cs_ret ce_bl)
      css_nil) css_nil)
      (css_cons (cs_asg (cg_tup (by rfl) (by rfl) (cgs_cons (cg_name S.nd (i := 7) (by rfl) (by first | exact Or.inl rfl | exact Or.inr rfl)) (cgs_cons (cg_name S.nd (i := 9) (by rfl) (by first | exact Or.inl rfl | exact Or.inr rfl)) cgs_nil))) (fun _ z => nomatch z) (ce_ix (by rfl) (ce_slot 4) (ce_call D.g18 (np18 dd) (hr.mono (by omega)) (by rfl) T.m18 T.k18 (passW tk) (ca_cons (ce_slot 1) (ca_cons (ce_len (by rfl) (ca_cons (ce_slot 4) ca_nil) (by rfl) T.f_len) ca_nil)))))
      (css_cons (cs_if (ct_ne (by rfl) hu (ce_call D.g1000 (np1000 dd) (hr.mono (by omega)) (by rfl) T.m1000 T.k1000 (passW tk) (ca_cons (ce_add (by rfl) (ce_slice (by rfl) (ce_slot 2) co_none (co_some ce_int)) (ce_lst (cv_cons (ce_slot 7) cv_nil))) ca_nil)) (ce_tup (cv_cons ce_int (cv_cons (ce_slot 9) cv_nil)))) (css_cons (cs_ret ce_bl)
      css_nil) css_nil)
      (css_cons (cs_set (i := 7) S.nd (by rfl) (by first | exact Or.inl rfl | exact Or.inr rfl) (ce_ix (by rfl) (ce_lst (cv_cons ce_str (cv_cons ce_str (cv_cons ce_str (cv_cons ce_str cv_nil))))) (ce_call D.g18 (np18 dd) (hr.mono (by omega)) (by rfl) T.m18 T.k18 (passW tk) (ca_cons (ce_slot 1) (ca_cons ce_int ca_nil)))))
      (css_cons (cs_if (CW.ct (cw_or (ct_ne (by rfl) hu (ce_call D.g1000 (np1000 dd) (hr.mono (by omega)) (by rfl) T.m1000 T.k1000 (passW tk) (ca_cons (ce_add (by rfl) (ce_slot 2) (ce_lst (cv_cons (ce_slot 7) cv_nil))) ca_nil)) (ce_tup (cv_cons ce_int (cv_cons ce_int cv_nil)))) (cw_or1 (ct_ne (by rfl) hu (ce_call D.g1000 (np1000 dd) (hr.mono (by omega)) (by rfl) T.m1000 T.k1000 (passW tk) (ca_cons (ce_add (by rfl) (ce_lst (cv_cons ce_str cv_nil)) (ce_slot 2)) ca_nil)) (ce_tup (cv_cons ce_int (cv_cons ce_int cv_nil))))))) (css_cons (cs_ret ce_bl)
      css_nil) css_nil)
      (css_cons (cs_set (i := 8) S.nd (by rfl) (by first | exact Or.inl rfl | exact Or.inr rfl) (ce_add (by rfl) ce_int (ce_call D.g18 (np18 dd) (hr.mono (by omega)) (by rfl) T.m18 T.k18 (passW tk) (ca_cons (ce_slot 1) (ca_cons ce_int ca_nil)))))
      (css_cons (cs_if (ct_ne (by rfl) hu (ce_call D.g1000 (np1000 dd) (hr.mono (by omega)) (by rfl) T.m1000 T.k1000 (passW tk) (ca_cons (ce_add (by rfl) (ce_mul (ce_lst (cv_cons ce_str cv_nil)) (ce_slot 8)) (ce_lst (cv_cons ce_str cv_nil))) ca_nil)) (ce_ite (ct_gt (ce_slot 8) ce_int) (ce_tup (cv_cons ce_int (cv_cons ce_int cv_nil))) ce_non)) (css_cons (cs_ret ce_bl)
      css_nil) css_nil)
      (css_cons (cs_if (ct_ne (by rfl) hu (ce_call D.g1000 (np1000 dd) (hr.mono (by omega)) (by rfl) T.m1000 T.k1000 (passW tk) (ca_cons (ce_mul (ce_lst (cv_cons ce_str cv_nil)) (ce_min2 (by rfl) (ca_cons (ce_slot 8) (ca_cons ce_int ca_nil)) (by rfl) T.f_min)) ca_nil)) (ce_tup (cv_cons (ce_min2 (by rfl) (ca_cons (ce_slot 8) (ca_cons ce_int ca_nil)) (by rfl) T.f_min) (cv_cons ce_int cv_nil)))) (css_cons (cs_ret ce_bl)
      css_nil) css_nil)
      css_nil)))))))))))
      (css_cons (cs_if (CW.ct (cw_or (ct_ne (by rfl) hu (ce_call D.g1000 (np1000 dd) (hr.mono (by omega)) (by rfl) T.m1000 T.k1000 (passW tk) (ca_cons (ce_lst (cv_cons ce_str cv_nil)) ca_nil)) (ce_tup (cv_cons ce_int (cv_cons ce_int cv_nil)))) (cw_or1 (ct_ne (by rfl) hu (ce_call D.g1000 (np1000 dd) (hr.mono (by omega)) (by rfl) T.m1000 T.k1000 (passW tk) (ca_cons (ce_lst (cv_cons ce_str (cv_cons ce_str cv_nil))) ca_nil)) (ce_tup (cv_cons ce_str (cv_cons ce_str cv_nil))))))) (css_cons (cs_ret ce_bl)
      css_nil) css_nil)
      (css_cons (cs_ret (ce_eq (by rfl) hu (ce_call D.g1000 (np1000 dd) (hr.mono (by omega)) (by rfl) T.m1000 T.k1000 (passW tk) (ca_cons (ce_lst (cv_cons ce_str (cv_cons ce_str cv_nil))) ca_nil)) (ce_tup (cv_cons ce_str (cv_cons ce_str cv_nil)))))
      css_nil))))))))))))
end
def dn0 : Dn := ⟨a0, "is_number", "is_number", s0⟩
def dn1 : Dn := ⟨a1, "is_word", "is_word", s1⟩
def dn2 : Dn := ⟨a2, "is_door", "is_door", s2⟩
def dn3 : Dn := ⟨a3, "are_doors", "are_doors", s3⟩
def dn4 : Dn := ⟨a4, "are_crates", "are_crates", s4⟩
def dn5 : Dn := ⟨a5, "__init__", "Store.__init__", s5⟩
def dn6 : Dn := ⟨a6, "doors", "Store.doors", s6⟩
def dn7 : Dn := ⟨a7, "crates", "Store.crates", s7⟩
def dn8 : Dn := ⟨a8, "__len__", "Store.__len__", s8⟩
def dn9 : Dn := ⟨a9, "__eq__", "Store.__eq__", s9⟩
def dn19 : Dn := ⟨a19, "is_count", "is_count", s19⟩
def dn20 : Dn := ⟨a20, "__init__", "Row.__init__", s20⟩
def dn21 : Dn := ⟨a21, "has_more", "Row.has_more", s21⟩
def dn22 : Dn := ⟨a22, "fail", "Row.fail", s22⟩
def dn23 : Dn := ⟨a23, "next_word", "Row.next_word", s23⟩
def dn24 : Dn := ⟨a24, "read_crates", "Row.read_crates", s24⟩
def dn25 : Dn := ⟨a25, "heads_at", "heads_at", s25⟩
def dn26 : Dn := ⟨a26, "parse_store", "parse_store", s26⟩
def dn18 : Dn := ⟨a18, "_law_taken", "_law_taken", s18⟩
def dn1000 : Dn := ⟨a1000, "_law_place", "_law_place", s1000⟩
def dn1001 : Dn := ⟨a1001, "law", "law", s1001⟩
def dnx1 : Dn := ⟨ax1, "__init__", "InvalidStore.__init__", sx1⟩
def dnx3 : Dn := ⟨ax3, "__init__", "InvalidText.__init__", sx3⟩
def dns : List Dn := [dn0, dn1, dn2, dn3, dn4, dn5, dn6, dn7, dn8, dn9, dn19, dn20, dn21, dn22, dn23, dn24, dn25, dn26, dn18, dn1000, dn1001, dnx1, dnx3]
def fas : List Fa := [.free "all",
  .free "bool",
  .free "enumerate",
  .free "int",
  .free "isinstance",
  .free "len",
  .free "min",
  .free "range",
  .free "str",
  .free "sum",
  .free "tuple",
  .free "zip",
  .str "CRATES" "crates",
  .str "DIGITS" "0123456789",
  .str "DOOR" "door",
  .str "LETTERS" "abcdefghijklmnopqrstuvwxyz",
  .int "MAX_BEHIND" 4,
  .int "MAX_CRATES" 5,
  .int "MAX_DOORS" 4,
  .int "MAX_LETTERS" 8,
  .int "MAX_PLACES" 6,
  .int "MAX_WARMTH" 99,
  .int "MOST_DIGITS" 2,
  .glo "is_number",
  .glo "is_word",
  .glo "is_door",
  .glo "are_doors",
  .glo "are_crates",
  .meth "Store" "__init__",
  .meth "Store" "__len__",
  .meth "Store" "__eq__",
  .glo "is_count",
  .meth "Row" "__init__",
  .meth "Row" "has_more",
  .meth "Row" "fail",
  .meth "Row" "next_word",
  .meth "Row" "read_crates",
  .glo "heads_at",
  .glo "parse_store",
  .glo "_law_taken",
  .glo "_law_place",
  .glo "law",
  .glo "Store",
  .mkr "Store",
  .glo "Row",
  .mkr "Row",
  .cls "Row",
  .noat "Row" "number",
  .noat "Row" "words",
  .noat "Row" "spot",
  .glo "InvalidStore",
  .exm "StoreError" "InvalidStore" false,
  .exm "InvalidStore" "InvalidStore" true,
  .exm "InvalidText" "InvalidStore" false,
  .glo "InvalidText",
  .exm "StoreError" "InvalidText" false,
  .exm "InvalidStore" "InvalidText" false,
  .exm "InvalidText" "InvalidText" true,
  .glo "StoreError"]
def exb (K : PySem.W.Frag) : Bool := sclsB K "Store" && (slotB K "Store" "edges" 0 && (slotB K "Store" "parts" 1 && (sisiB K "Store" && (bltB K "Store" "__ne__" "object.__ne__" && (propB K "Store" "doors" && (propB K "Store" "crates" && (oexB K "InvalidStore" ["part"] && (xfcB K "InvalidStore" && (oexB K "InvalidText" ["row", "word"] && (xfcB K "InvalidText" && (isRefTo (codeAt K (ma K (ga K "Row") "read_crates")) (codA K (ma K (ga K "Row") "read_crates")) && (isRefTo (codeAt K (ga K "parse_store")) (codA K (ga K "parse_store")) && ((!(tabA K (ma K (ga K "Row") "read_crates") == tabA K (ga K "parse_store"))) && (soB K "StoreError" && (true)))))))))))))))
theorem fx_of {K : PySem.W.Frag} {h : Heap} {mg : Str → Option Value} (X : K.In h) (G : h.Ns mainGlobals mg) (c : seeR fas dns exb K = dueR dns) : Fx K mg := by
  have e := says_ex c
  unfold exb at e
  obtain ⟨ex0, e⟩ := ba e
  obtain ⟨ex1, e⟩ := ba e
  obtain ⟨ex2, e⟩ := ba e
  obtain ⟨ex3, e⟩ := ba e
  obtain ⟨ex4, e⟩ := ba e
  obtain ⟨ex5, e⟩ := ba e
  obtain ⟨ex6, e⟩ := ba e
  obtain ⟨ex7, e⟩ := ba e
  obtain ⟨ex8, e⟩ := ba e
  obtain ⟨ex9, e⟩ := ba e
  obtain ⟨ex10, e⟩ := ba e
  obtain ⟨ex11, e⟩ := ba e
  obtain ⟨ex12, e⟩ := ba e
  obtain ⟨ex13, e⟩ := ba e
  obtain ⟨ex14, e⟩ := ba e
  exact {
    f_all := He.free_ok X G (says_fact c 0 rfl),
    f_bool := He.free_ok X G (says_fact c 1 rfl),
    f_enumerate := He.free_ok X G (says_fact c 2 rfl),
    f_int := He.free_ok X G (says_fact c 3 rfl),
    f_isinstance := He.free_ok X G (says_fact c 4 rfl),
    f_len := He.free_ok X G (says_fact c 5 rfl),
    f_min := He.free_ok X G (says_fact c 6 rfl),
    f_range := He.free_ok X G (says_fact c 7 rfl),
    f_str := He.free_ok X G (says_fact c 8 rfl),
    f_sum := He.free_ok X G (says_fact c 9 rfl),
    f_tuple := He.free_ok X G (says_fact c 10 rfl),
    f_zip := He.free_ok X G (says_fact c 11 rfl),
    c_CRATES := He.str_ok X G (says_fact c 12 rfl),
    c_DIGITS := He.str_ok X G (says_fact c 13 rfl),
    c_DOOR := He.str_ok X G (says_fact c 14 rfl),
    c_LETTERS := He.str_ok X G (says_fact c 15 rfl),
    c_MAX_BEHIND := He.int_ok X G (says_fact c 16 rfl),
    c_MAX_CRATES := He.int_ok X G (says_fact c 17 rfl),
    c_MAX_DOORS := He.int_ok X G (says_fact c 18 rfl),
    c_MAX_LETTERS := He.int_ok X G (says_fact c 19 rfl),
    c_MAX_PLACES := He.int_ok X G (says_fact c 20 rfl),
    c_MAX_WARMTH := He.int_ok X G (says_fact c 21 rfl),
    c_MOST_DIGITS := He.int_ok X G (says_fact c 22 rfl),
    m0 := He.glo_ok X G (says_fact c 23 rfl),
    k0 := (says_def c (d := dn0) 0 rfl).2.1,
    m1 := He.glo_ok X G (says_fact c 24 rfl),
    k1 := (says_def c (d := dn1) 1 rfl).2.1,
    m2 := He.glo_ok X G (says_fact c 25 rfl),
    k2 := (says_def c (d := dn2) 2 rfl).2.1,
    m3 := He.glo_ok X G (says_fact c 26 rfl),
    k3 := (says_def c (d := dn3) 3 rfl).2.1,
    m4 := He.glo_ok X G (says_fact c 27 rfl),
    k4 := (says_def c (d := dn4) 4 rfl).2.1,
    me5 := He.meth_ok (says_fact c 28 rfl),
    me8 := He.meth_ok (says_fact c 29 rfl),
    me9 := He.meth_ok (says_fact c 30 rfl),
    m19 := He.glo_ok X G (says_fact c 31 rfl),
    k19 := (says_def c (d := dn19) 10 rfl).2.1,
    me20 := He.meth_ok (says_fact c 32 rfl),
    me21 := He.meth_ok (says_fact c 33 rfl),
    me22 := He.meth_ok (says_fact c 34 rfl),
    me23 := He.meth_ok (says_fact c 35 rfl),
    me24 := He.meth_ok (says_fact c 36 rfl),
    m25 := He.glo_ok X G (says_fact c 37 rfl),
    k25 := (says_def c (d := dn25) 16 rfl).2.1,
    m26 := He.glo_ok X G (says_fact c 38 rfl),
    k26 := (says_def c (d := dn26) 17 rfl).2.1,
    m18 := He.glo_ok X G (says_fact c 39 rfl),
    k18 := (says_def c (d := dn18) 18 rfl).2.1,
    m1000 := He.glo_ok X G (says_fact c 40 rfl),
    k1000 := (says_def c (d := dn1000) 19 rfl).2.1,
    m1001 := He.glo_ok X G (says_fact c 41 rfl),
    k1001 := (says_def c (d := dn1001) 20 rfl).2.1,
    mc0 := He.glo_ok X G (says_fact c 42 rfl),
    mk0 := He.mkr_ok (says_fact c 43 rfl),
    cc0 := sclsB_ok ex0,
    s0_0 := slotB_ok ex1,
    s0_1 := slotB_ok ex2,
    is0 := sisiB_ok ex3,
    ne0 := eqO_ok ex4,
    p6 := propB_ok ex5,
    p7 := propB_ok ex6,
    mc2 := He.glo_ok X G (says_fact c 44 rfl),
    mk2 := He.mkr_ok (says_fact c 45 rfl),
    cc2 := He.cls_ok (says_fact c 46 rfl),
    n2_0 := He.noat_ok (says_fact c 47 rfl),
    n2_1 := He.noat_ok (says_fact c 48 rfl),
    n2_2 := He.noat_ok (says_fact c 49 rfl),
    mx1 := He.glo_ok X G (says_fact c 50 rfl),
    xx1 := oexB_ok ex7,
    xf1 := xfcB_ok ex8,
    em0_1 := He.exm_ok (says_fact c 51 rfl),
    em1_1 := He.exm_ok (says_fact c 52 rfl),
    em3_1 := He.exm_ok (says_fact c 53 rfl),
    mx3 := He.glo_ok X G (says_fact c 54 rfl),
    xx3 := oexB_ok ex9,
    xf3 := xfcB_ok ex10,
    em0_3 := He.exm_ok (says_fact c 55 rfl),
    em1_3 := He.exm_ok (says_fact c 56 rfl),
    em3_3 := He.exm_ok (says_fact c 57 rfl),
    cd24 := isRefTo_ok ex11,
    cd26 := isRefTo_ok ex12,
    tn24_26 := ne_ok ex13,
    mse := He.glo_ok X G (says_fact c 58 rfl),
    so := soB_ok ex14 }
section
variable {P : Program} {w : World} {K : PySem.W.Frag} {mg : Str → Option Value} {base : Heap}
theorem ok0 (T : Fx K mg) {dd : Nat} (D : Good P w K mg base dd) {fd : FuncData} (F : FunD K "is_number" "is_number" (defArgs s0) (defBody s0) (defScope s0) [] [] (a0 K) fd) : FnOk P w K mg base (CX P w) (4 * (dd + 1)) (a0 K) fd ["value", "smallest", "largest"] (spD (cfg K) (callD tb (dd + 1)) 0 3) := def_ok (k := 4 * dd + 3) F sc0 rfl rfl rfl fun cdv A outer s H E hr tk => b0 T D hr tk
theorem ok1 (T : Fx K mg) {dd : Nat} (D : Good P w K mg base dd) {fd : FuncData} (F : FunD K "is_word" "is_word" (defArgs s1) (defBody s1) (defScope s1) [] [] (a1 K) fd) : FnOk P w K mg base (CX P w) (4 * (dd + 1)) (a1 K) fd ["value"] (spD (cfg K) (callD tb (dd + 1)) 1 1) := def_ok (k := 4 * dd + 3) F sc1 rfl rfl rfl fun cdv A outer s H E hr tk => b1 T D hr tk
theorem ok2 (T : Fx K mg) {dd : Nat} (D : Good P w K mg base dd) {fd : FuncData} (F : FunD K "is_door" "is_door" (defArgs s2) (defBody s2) (defScope s2) [] [] (a2 K) fd) : FnOk P w K mg base (CX P w) (4 * (dd + 1)) (a2 K) fd ["value"] (spD (cfg K) (callD tb (dd + 1)) 2 1) := def_ok (k := 4 * dd + 3) F sc2 rfl rfl rfl fun cdv A outer s H E hr tk => b2 T D hr tk
theorem ok3 (T : Fx K mg) {dd : Nat} (D : Good P w K mg base dd) {fd : FuncData} (F : FunD K "are_doors" "are_doors" (defArgs s3) (defBody s3) (defScope s3) [] [] (a3 K) fd) : FnOk P w K mg base (CX P w) (4 * (dd + 1)) (a3 K) fd ["row"] (spD (cfg K) (callD tb (dd + 1)) 3 1) := def_ok (k := 4 * dd + 3) F sc3 rfl rfl rfl fun cdv A outer s H E hr tk => b3 T D hr tk
theorem ok4 (T : Fx K mg) {dd : Nat} (D : Good P w K mg base dd) {fd : FuncData} (F : FunD K "are_crates" "are_crates" (defArgs s4) (defBody s4) (defScope s4) [] [] (a4 K) fd) : FnOk P w K mg base (CX P w) (4 * (dd + 1)) (a4 K) fd ["row", "places"] (spD (cfg K) (callD tb (dd + 1)) 4 2) := def_ok (k := 4 * dd + 3) F sc4 rfl rfl rfl fun cdv A outer s H E hr tk => b4 T D hr tk
theorem ok5 (T : Fx K mg) {dd : Nat} (D : Good P w K mg base dd) {fd : FuncData} (F : FunD K "__init__" "Store.__init__" (defArgs s5) (defBody s5) (defScope s5) [] [] (a5 K) fd) : FnOk P w K mg base (CX P w) (4 * (dd + 1)) (a5 K) fd ["self", "doors", "crates"] (spD (cfg K) (callD tb (dd + 1)) 5 3) := def_ok (k := 4 * dd + 3) F sc5 rfl rfl rfl fun cdv A outer s H E hr tk => b5 T D hr tk
theorem ok6 (T : Fx K mg) {dd : Nat} (D : Good P w K mg base dd) {fd : FuncData} (F : FunD K "doors" "Store.doors" (defArgs s6) (defBody s6) (defScope s6) [] [] (a6 K) fd) : FnOk P w K mg base (CX P w) (4 * (dd + 1)) (a6 K) fd ["self"] (spD (cfg K) (callD tb (dd + 1)) 6 1) := def_ok (k := 4 * dd + 3) F sc6 rfl rfl rfl fun cdv A outer s H E hr tk => b6 T D hr tk
theorem ok7 (T : Fx K mg) {dd : Nat} (D : Good P w K mg base dd) {fd : FuncData} (F : FunD K "crates" "Store.crates" (defArgs s7) (defBody s7) (defScope s7) [] [] (a7 K) fd) : FnOk P w K mg base (CX P w) (4 * (dd + 1)) (a7 K) fd ["self"] (spD (cfg K) (callD tb (dd + 1)) 7 1) := def_ok (k := 4 * dd + 3) F sc7 rfl rfl rfl fun cdv A outer s H E hr tk => b7 T D hr tk
theorem ok8 (T : Fx K mg) {dd : Nat} (D : Good P w K mg base dd) {fd : FuncData} (F : FunD K "__len__" "Store.__len__" (defArgs s8) (defBody s8) (defScope s8) [] [] (a8 K) fd) : FnOk P w K mg base (CX P w) (4 * (dd + 1)) (a8 K) fd ["self"] (spD (cfg K) (callD tb (dd + 1)) 8 1) := def_ok (k := 4 * dd + 3) F sc8 rfl rfl rfl fun cdv A outer s H E hr tk => b8 T D hr tk
theorem ok9 (T : Fx K mg) {dd : Nat} (D : Good P w K mg base dd) {fd : FuncData} (F : FunD K "__eq__" "Store.__eq__" (defArgs s9) (defBody s9) (defScope s9) [] [] (a9 K) fd) : FnOk P w K mg base (CX P w) (4 * (dd + 1)) (a9 K) fd ["self", "other"] (spD (cfg K) (callD tb (dd + 1)) 9 2) := def_ok (k := 4 * dd + 3) F sc9 rfl rfl rfl fun cdv A outer s H E hr tk => b9 T D hr tk
theorem ok19 (T : Fx K mg) {dd : Nat} (D : Good P w K mg base dd) {fd : FuncData} (F : FunD K "is_count" "is_count" (defArgs s19) (defBody s19) (defScope s19) [] [] (a19 K) fd) : FnOk P w K mg base (CX P w) (4 * (dd + 1)) (a19 K) fd ["word"] (spD (cfg K) (callD tb (dd + 1)) 19 1) := def_ok (k := 4 * dd + 3) F sc19 rfl rfl rfl fun cdv A outer s H E hr tk => b19 T D hr tk
theorem ok20 (T : Fx K mg) {dd : Nat} (D : Good P w K mg base dd) {fd : FuncData} (F : FunD K "__init__" "Row.__init__" (defArgs s20) (defBody s20) (defScope s20) [] [] (a20 K) fd) : FnOk P w K mg base (CX P w) (4 * (dd + 1)) (a20 K) fd ["self", "number", "text"] (spD (cfg K) (callD tb (dd + 1)) 20 3) := def_ok (k := 4 * dd + 3) F sc20 rfl rfl rfl fun cdv A outer s H E hr tk => b20 T D hr tk
theorem ok21 (T : Fx K mg) {dd : Nat} (D : Good P w K mg base dd) {fd : FuncData} (F : FunD K "has_more" "Row.has_more" (defArgs s21) (defBody s21) (defScope s21) [] [] (a21 K) fd) : FnOk P w K mg base (CX P w) (4 * (dd + 1)) (a21 K) fd ["self"] (spD (cfg K) (callD tb (dd + 1)) 21 1) := def_ok (k := 4 * dd + 3) F sc21 rfl rfl rfl fun cdv A outer s H E hr tk => b21 T D hr tk
theorem ok22 (T : Fx K mg) {dd : Nat} (D : Good P w K mg base dd) {fd : FuncData} (F : FunD K "fail" "Row.fail" (defArgs s22) (defBody s22) (defScope s22) [] [] (a22 K) fd) : FnOk P w K mg base (CX P w) (4 * (dd + 1)) (a22 K) fd ["self"] (spD (cfg K) (callD tb (dd + 1)) 22 1) := def_ok (k := 4 * dd + 3) F sc22 rfl rfl rfl fun cdv A outer s H E hr tk => b22 T D hr tk
theorem ok24 (T : Fx K mg) {dd : Nat} (D : Good P w K mg base dd) {fd : FuncData} (F : FunD K "read_crates" "Row.read_crates" (defArgs s24) (defBody s24) (defScope s24) [] [] (a24 K) fd) : FnOk P w K mg base (CX P w) (4 * (dd + 1)) (a24 K) fd ["self"] (spD (cfg K) (callD tb (dd + 1)) 24 1) := def_ok2 (k := 4 * dd + 3) F sc24 rfl rfl rfl fun A outer s H E hr tk => b24 T D hr tk
theorem ok25 (T : Fx K mg) {dd : Nat} (D : Good P w K mg base dd) {fd : FuncData} (F : FunD K "heads_at" "heads_at" (defArgs s25) (defBody s25) (defScope s25) [] [] (a25 K) fd) : FnOk P w K mg base (CX P w) (4 * (dd + 1)) (a25 K) fd ["rows", "names"] (spD (cfg K) (callD tb (dd + 1)) 25 2) := def_ok (k := 4 * dd + 3) F sc25 rfl rfl rfl fun cdv A outer s H E hr tk => b25 T D hr tk
theorem ok26 (T : Fx K mg) {dd : Nat} (D : Good P w K mg base dd) {fd : FuncData} (F : FunD K "parse_store" "parse_store" (defArgs s26) (defBody s26) (defScope s26) [] [] (a26 K) fd) : FnOk P w K mg base (CX P w) (4 * (dd + 1)) (a26 K) fd ["text"] (spD (cfg K) (callD tb (dd + 1)) 26 1) := def_ok2 (k := 4 * dd + 3) F sc26 rfl rfl rfl fun A outer s H E hr tk => b26 T D hr tk
theorem ok18 (T : Fx K mg) {dd : Nat} (D : Good P w K mg base dd) {fd : FuncData} (F : FunD K "_law_taken" "_law_taken" (defArgs s18) (defBody s18) (defScope s18) [] [] (a18 K) fd) : FnOk P w K mg base (CX P w) (4 * (dd + 1)) (a18 K) fd ["_law_row", "_law_many"] (spD (cfg K) (callD tb (dd + 1)) 18 2) := def_ok (k := 4 * dd + 3) F sc18 rfl rfl rfl fun cdv A outer s H E hr tk => b18 T D hr tk
theorem ok1000 (T : Fx K mg) {dd : Nat} (D : Good P w K mg base dd) {fd : FuncData} (F : FunD K "_law_place" "_law_place" (defArgs s1000) (defBody s1000) (defScope s1000) [] [] (a1000 K) fd) : FnOk P w K mg base (CX P w) (4 * (dd + 1)) (a1000 K) fd ["_law_rows"] (spD (cfg K) (callD tb (dd + 1)) 1000 1) := def_ok (k := 4 * dd + 3) F sc1000 rfl rfl rfl fun cdv A outer s H E hr tk => b1000 T D hr tk
theorem ok1001 (T : Fx K mg) {dd : Nat} (D : Good P w K mg base dd) {fd : FuncData} (F : FunD K "law" "law" (defArgs s1001) (defBody s1001) (defScope s1001) [] [] (a1001 K) fd) : FnOk P w K mg base (CX P w) (4 * (dd + 1)) (a1001 K) fd ["_law_script"] (spD (cfg K) (callD tb (dd + 1)) 1001 1) := def_ok (k := 4 * dd + 3) F sc1001 rfl rfl rfl fun cdv A outer s H E hr tk => b1001 T D hr tk
theorem xok1 (T : Fx K mg) {fd : FuncData} (F : FunD K "__init__" "InvalidStore.__init__" (defArgs sx1) (defBody sx1) (defScope sx1) [] [] (ax1 K) fd) : FnOk P w K mg base (CX P w) 1 (ax1 K) fd ["self", "part"] (spI K Fm ["part"]) :=
  init1_ok F ⟨rfl, rfl, rfl, by decide +kernel, rfl, by decide +kernel, by decide +kernel⟩ (msg_f (by decide +kernel)) fun cdv A outer s H E => pss_cons (ps_expr (pe_soinit (by rfl) T.mse T.so.1 T.so.2 (pa_cons (pe_var (i := 0) (by rfl) (.inl rfl)) (pa_cons (pe_joined (.cons pe_str (.cons (pe_fmt (pe_var (i := 1) (by rfl) (.inl rfl))) .nil))) pa_nil)))) (pss_cons (ps_ost (pe_var (i := 0) (by rfl) (.inl rfl)) (pe_var (i := 1) (by rfl) (.inl rfl))) pss_nil)
theorem xg1 (T : Fx K mg) (c : seeR fas dns exb K = dueR dns) : ∃ fd, FnOk P w K mg base (CX P w) 1 (ax1 K) fd ["self", "part"] (spI K Fm ["part"]) ∧ Binds K fd ["self", "part"] [] := by
  obtain ⟨fd, F⟩ := (says_def c (d := dnx1) 21 rfl).1
  exact ⟨fd, xok1 T F, F.bindsN fun _ _ _ _ _ _ us hl => match us, hl with | [_, _], _ => rfl⟩
theorem xok3 (T : Fx K mg) {fd : FuncData} (F : FunD K "__init__" "InvalidText.__init__" (defArgs sx3) (defBody sx3) (defScope sx3) [] [] (ax3 K) fd) : FnOk P w K mg base (CX P w) 1 (ax3 K) fd ["self", "row", "word"] (spI K (fun _ => True) ["row", "word"]) :=
  init2_ok F ⟨rfl, rfl, rfl, by decide +kernel, rfl, by decide +kernel, by decide +kernel⟩ msg_str fun cdv A outer s H E => pss_cons (ps_expr (pe_soinit (by rfl) T.mse T.so.1 T.so.2 (pa_cons (pe_var (i := 0) (by rfl) (.inl rfl)) (pa_cons pe_str pa_nil)))) (pss_cons (ps_ost (pe_var (i := 0) (by rfl) (.inl rfl)) (pe_var (i := 1) (by rfl) (.inl rfl))) (pss_cons (ps_ost (pe_var (i := 0) (by rfl) (.inl rfl)) (pe_var (i := 2) (by rfl) (.inl rfl))) pss_nil))
theorem xg3 (T : Fx K mg) (c : seeR fas dns exb K = dueR dns) : ∃ fd, FnOk P w K mg base (CX P w) 1 (ax3 K) fd ["self", "row", "word"] (spI K (fun _ => True) ["row", "word"]) ∧ Binds K fd ["self", "row", "word"] [] := by
  obtain ⟨fd, F⟩ := (says_def c (d := dnx3) 22 rfl).1
  exact ⟨fd, xok3 T F, F.bindsN fun _ _ _ _ _ _ us hl => match us, hl with | [_, _, _], _ => rfl⟩
theorem tp24 (K : PySem.W.Frag) : (cfg K).tabP Q_B_Row_read_crates = tabA K (a24 K) := by
  show (if Q_B_Row_read_crates = Q_B_Row_read_crates then tabA K (ma K (ga K "Row") "read_crates") else if Q_B_Row_read_crates = Q_B_parse_store then tabA K (ga K "parse_store") else 0) = _
  rw [if_pos rfl]
  try rfl
theorem tp26 (K : PySem.W.Frag) : (cfg K).tabP Q_B_parse_store = tabA K (a26 K) := by
  show (if Q_B_parse_store = Q_B_Row_read_crates then tabA K (ma K (ga K "Row") "read_crates") else if Q_B_parse_store = Q_B_parse_store then tabA K (ga K "parse_store") else 0) = _
  rw [if_neg (show ¬ Q_B_parse_store = Q_B_Row_read_crates by decide +kernel), if_pos rfl]
  try rfl
theorem good (T : Fx K mg) (c : seeR fas dns exb K = dueR dns) (t24 : LamX.TabB base mg (codA K (a24 K)) (tabA K (a24 K))) (t26 : LamX.TabB base mg (codA K (a26 K)) (tabA K (a26 K))) : ∀ dd, Good P w K mg base dd
  | 0 => ⟨fun _ _ _ _ _ _ _ _ _ _ _ h => by obtain ⟨_, _, _, _, _, _, _, g⟩ := h; exact g.elim, fun _ _ _ _ _ _ _ _ _ _ _ h => by obtain ⟨_, _, _, _, _, _, _, g⟩ := h; exact g.elim, fun _ _ _ _ _ _ _ _ _ _ _ h => by obtain ⟨_, _, _, _, _, _, _, g⟩ := h; exact g.elim, fun _ _ _ _ _ _ _ _ _ _ _ h => by obtain ⟨_, _, _, _, _, _, _, g⟩ := h; exact g.elim, fun _ _ _ _ _ _ _ _ _ _ _ h => by obtain ⟨_, _, _, _, _, _, _, g⟩ := h; exact g.elim, fun _ _ _ _ _ _ _ _ _ _ _ h => by obtain ⟨_, _, _, _, _, _, _, g⟩ := h; exact g.elim, fun _ _ _ _ _ _ _ _ _ _ _ h => by obtain ⟨_, _, _, _, _, _, _, g⟩ := h; exact g.elim, fun _ _ _ _ _ _ _ _ _ _ _ h => by obtain ⟨_, _, _, _, _, _, _, g⟩ := h; exact g.elim, fun _ _ _ _ _ _ _ _ _ _ _ h => by obtain ⟨_, _, _, _, _, _, _, g⟩ := h; exact g.elim, fun _ _ _ _ _ _ _ _ _ _ _ h => by obtain ⟨_, _, _, _, _, _, _, g⟩ := h; exact g.elim, fun _ _ _ _ _ _ _ _ _ _ _ h => by obtain ⟨_, _, _, _, _, _, _, g⟩ := h; exact g.elim, fun _ _ _ _ _ _ _ _ _ _ _ h => by obtain ⟨_, _, _, _, _, _, _, g⟩ := h; exact g.elim, fun _ _ _ _ _ _ _ _ _ _ _ h => by obtain ⟨_, _, _, _, _, _, _, g⟩ := h; exact g.elim, fun _ _ _ _ _ _ _ _ _ _ _ h => by obtain ⟨_, _, _, _, _, _, _, g⟩ := h; exact g.elim, (says_def c (d := dn23) 14 rfl).1, fun _ _ _ _ _ _ _ _ _ _ _ h => by obtain ⟨_, _, _, _, _, _, _, g⟩ := h; exact g.elim, fun _ _ _ _ _ _ _ _ _ _ _ h => by obtain ⟨_, _, _, _, _, _, _, g⟩ := h; exact g.elim, fun _ _ _ _ _ _ _ _ _ _ _ h => by obtain ⟨_, _, _, _, _, _, _, g⟩ := h; exact g.elim, fun _ _ _ _ _ _ _ _ _ _ _ h => by obtain ⟨_, _, _, _, _, _, _, g⟩ := h; exact g.elim, fun _ _ _ _ _ _ _ _ _ _ _ h => by obtain ⟨_, _, _, _, _, _, _, g⟩ := h; exact g.elim, fun _ _ _ _ _ _ _ _ _ _ _ h => by obtain ⟨_, _, _, _, _, _, _, g⟩ := h; exact g.elim, by rw [tp24]; exact t24, by rw [tp26]; exact t26, xg1 T c, xg3 T c⟩
  | dd + 1 => by
    have D := good T c t24 t26 dd
    obtain ⟨fd0, F0⟩ := (says_def c (d := dn0) 0 rfl).1
    obtain ⟨fd1, F1⟩ := (says_def c (d := dn1) 1 rfl).1
    obtain ⟨fd2, F2⟩ := (says_def c (d := dn2) 2 rfl).1
    obtain ⟨fd3, F3⟩ := (says_def c (d := dn3) 3 rfl).1
    obtain ⟨fd4, F4⟩ := (says_def c (d := dn4) 4 rfl).1
    obtain ⟨fd5, F5⟩ := (says_def c (d := dn5) 5 rfl).1
    obtain ⟨fd6, F6⟩ := (says_def c (d := dn6) 6 rfl).1
    obtain ⟨fd7, F7⟩ := (says_def c (d := dn7) 7 rfl).1
    obtain ⟨fd8, F8⟩ := (says_def c (d := dn8) 8 rfl).1
    obtain ⟨fd9, F9⟩ := (says_def c (d := dn9) 9 rfl).1
    obtain ⟨fd19, F19⟩ := (says_def c (d := dn19) 10 rfl).1
    obtain ⟨fd20, F20⟩ := (says_def c (d := dn20) 11 rfl).1
    obtain ⟨fd21, F21⟩ := (says_def c (d := dn21) 12 rfl).1
    obtain ⟨fd22, F22⟩ := (says_def c (d := dn22) 13 rfl).1
    obtain ⟨fd23, F23⟩ := (says_def c (d := dn23) 14 rfl).1
    obtain ⟨fd24, F24⟩ := (says_def c (d := dn24) 15 rfl).1
    obtain ⟨fd25, F25⟩ := (says_def c (d := dn25) 16 rfl).1
    obtain ⟨fd26, F26⟩ := (says_def c (d := dn26) 17 rfl).1
    obtain ⟨fd18, F18⟩ := (says_def c (d := dn18) 18 rfl).1
    obtain ⟨fd1000, F1000⟩ := (says_def c (d := dn1000) 19 rfl).1
    obtain ⟨fd1001, F1001⟩ := (says_def c (d := dn1001) 20 rfl).1
    exact ⟨fnR_of (ok0 T D F0) (bi0 F0), fnR_of (ok1 T D F1) (bi1 F1), fnR_of (ok2 T D F2) (bi2 F2), fnR_of (ok3 T D F3) (bi3 F3), fnR_of (ok4 T D F4) (bi4 F4), fnR_of (ok5 T D F5) (bi5 F5), fnR_of (ok6 T D F6) (bi6 F6), fnR_of (ok7 T D F7) (bi7 F7), fnR_of (ok8 T D F8) (bi8 F8), fnR_of (ok9 T D F9) (bi9 F9), fnR_of (ok19 T D F19) (bi19 F19), fnR_of (ok20 T D F20) (bi20 F20), fnR_of (ok21 T D F21) (bi21 F21), fnR_of (ok22 T D F22) (bi22 F22), ⟨fd23, F23⟩, fnR_of (ok24 T D F24) (bi24 F24), fnR_of (ok25 T D F25) (bi25 F25), fnR_of (ok26 T D F26) (bi26 F26), fnR_of (ok18 T D F18) (bi18 F18), fnR_of (ok1000 T D F1000) (bi1000 F1000), fnR_of (ok1001 T D F1001) (bi1001 F1001), by rw [tp24]; exact t24, by rw [tp26]; exact t26, xg1 T c, xg3 T c⟩
end
def LAW : Nat := 1001
end L45

set_option maxRecDepth 100000
set_option maxHeartbeats 0
namespace L45
open PySem Ri Pg
abbrev hR (ns : List Int) (r : Rw) : List O := [.tab Q_B_Row_read_crates, .tab Q_B_parse_store, rowO ns r]
/-- what a list of rows leads to -/
abbrev pc (ns : List Int) (r : Rw) (xs : List Str) : Option (Except Xc R × List O) := callD tb 19 1000 [.own (.lst (xs.map D.str))] (hR ns r)
abbrev pb (ns : List Int) (r : Rw) (xs : List Str) : Option (Except Xc R × List O) := callD tb 19 1000 [.bor (.lst (xs.map D.str))] (hR ns r)
abbrev ans (ns : List Int) (r : Rw) (d : D) : Option (Except Xc R × List O) := some (.ok (.val d), hR ns r)
def early : List (Str × Int) := [("", 0), ("doors 5 2", 0), ("door", 1), ("door 5", 2), ("door 0 2", 1), ("door 5 02", 2), ("door 100 2", 1), ("door 5 2 1", 3), ("door x 2", 1), ("door  5", 1), ("door 5 2 ", 3), ("crate fig", 0)]
def late : List (Str × Int) := [("crates", 1), ("crates Fig", 1), ("crates plum fig", 2), ("crates fig fig", 2), ("crates fig ", 2), ("crates  fig", 1), ("crates a b c d e f", 6), ("crates figfigfig", 1), ("crate fig", 0), ("", 0), ("door 5", 2)]
theorem g0 (ns : List Int) (r : Rw) : pb ns r ["door 5 2", "door 10 1", "crates fig plum"] = ans ns r .non := by kernel_rfl
theorem e0 (ns : List Int) (r : Rw) : early.map (fun p => pc ns r [p.1, "door 10 1", "crates fig plum"]) = early.map fun p => ans ns r (.tup [.int 0, .int p.2]) := by kernel_rfl
theorem e1 (ns : List Int) (r : Rw) : early.map (fun p => pc ns r ["door 5 2", p.1, "crates fig plum"]) = early.map fun p => ans ns r (.tup [.int 1, .int p.2]) := by kernel_rfl
theorem l0 (ns : List Int) (r : Rw) : late.map (fun p => pc ns r ["door 5 2", "door 10 1", p.1]) = late.map fun p => ans ns r (.tup [.int 2, .int p.2]) := by kernel_rfl
def more : List Str := ["door 5 2", "crates kiwi", "", "end"]
theorem x0 (ns : List Int) (r : Rw) : more.map (fun p => pc ns r ["door 5 2", "door 10 1", "crates fig plum", p]) = more.map fun p => ans ns r (.tup [.int 3, .int 0]) := by kernel_rfl
theorem x1 (ns : List Int) (r : Rw) : pc ns r ["crates fig", "door 5 2", "door 10 1", "crates fig plum"] = ans ns r (.tup [.int 0, .int 0]) := by kernel_rfl
theorem m1 (ns : List Int) (r : Rw) : [1, 2, 3, 4].map (fun k => pc ns r (List.replicate k ("door 1 1" : Str) ++ [("crates fig" : Str)])) = [1, 2, 3, 4].map fun _ => ans ns r .non := by kernel_rfl
theorem m2 (ns : List Int) (r : Rw) : [5, 6].map (fun k => pc ns r (List.replicate k ("door 1 1" : Str) ++ [("crates fig" : Str)])) = [5, 6].map fun _ => ans ns r (.tup [.int 4, .int 0]) := by kernel_rfl
theorem m3 (ns : List Int) (r : Rw) : [1, 2, 3, 4].map (fun k => pc ns r (List.replicate k ("door 1 1" : Str))) = [1, 2, 3, 4].map fun k => ans ns r (.tup [.int (k : Nat), .int 0]) := by kernel_rfl
theorem f1 (ns : List Int) (r : Rw) : pc ns r [""] = ans ns r (.tup [.int 0, .int 0]) := by kernel_rfl
theorem f2 (ns : List Int) (r : Rw) : pc ns r ["door 5 7", "crates fig"] = ans ns r (.tup [.str "store", .str "doors"]) := by kernel_rfl
theorem f3 (ns : List Int) (r : Rw) : pc ns r ["door 5 1", "crates fig plum"] = ans ns r (.tup [.str "store", .str "crates"]) := by kernel_rfl
section
variable {ns : List Int} {r : Rw} {Q : R → List O → Prop} {E : Xc → List O → Prop}
theorem Wc_eq {m : Option (Except Xc R × List O)} {d : D} (h : m = ans ns r d) : Wc m Q E = Q (.val d) (hR ns r) := by rw [h]; rfl
theorem w_g0 : Wc (callD tb 19 1000 [.bor (.lst [D.str "door 5 2", D.str "door 10 1", D.str "crates fig plum"])] (hR ns r)) Q E = Q (.val .non) (hR ns r) := Wc_eq (g0 ns r)
theorem w_e0 {p : Str × Int} (hp : p ∈ early) : Wc (callD tb 19 1000 [.own (.lst [D.str p.1, D.str "door 10 1", D.str "crates fig plum"])] (hR ns r)) Q E = Q (.val (.tup [.int 0, .int p.2])) (hR ns r) := Wc_eq (List.map_inj_left.mp (e0 ns r) p hp)
theorem w_e1 {p : Str × Int} (hp : p ∈ early) : Wc (callD tb 19 1000 [.own (.lst [D.str "door 5 2", D.str p.1, D.str "crates fig plum"])] (hR ns r)) Q E = Q (.val (.tup [.int 1, .int p.2])) (hR ns r) := Wc_eq (List.map_inj_left.mp (e1 ns r) p hp)
theorem w_l0 {p : Str × Int} (hp : p ∈ late) : Wc (callD tb 19 1000 [.own (.lst [D.str "door 5 2", D.str "door 10 1", D.str p.1])] (hR ns r)) Q E = Q (.val (.tup [.int 2, .int p.2])) (hR ns r) := Wc_eq (List.map_inj_left.mp (l0 ns r) p hp)
theorem w_x0 {p : Str} (hp : p ∈ more) : Wc (callD tb 19 1000 [.own (.lst [D.str "door 5 2", D.str "door 10 1", D.str "crates fig plum", D.str p])] (hR ns r)) Q E = Q (.val (.tup [.int 3, .int 0])) (hR ns r) := Wc_eq (List.map_inj_left.mp (x0 ns r) p hp)
theorem w_x1 : Wc (callD tb 19 1000 [.own (.lst [D.str "crates fig", D.str "door 5 2", D.str "door 10 1", D.str "crates fig plum"])] (hR ns r)) Q E = Q (.val (.tup [.int 0, .int 0])) (hR ns r) := Wc_eq (x1 ns r)
theorem w_m1 {k : Nat} (hk : k ∈ [1, 2, 3, 4]) : Wc (callD tb 19 1000 [.own (.lst ((List.replicate k ("door 1 1" : Str) ++ [("crates fig" : Str)]).map D.str))] (hR ns r)) Q E = Q (.val .non) (hR ns r) := Wc_eq (List.map_inj_left.mp (m1 ns r) k hk)
theorem w_m2 {k : Nat} (hk : k ∈ [5, 6]) : Wc (callD tb 19 1000 [.own (.lst ((List.replicate k ("door 1 1" : Str) ++ [("crates fig" : Str)]).map D.str))] (hR ns r)) Q E = Q (.val (.tup [.int 4, .int 0])) (hR ns r) := Wc_eq (List.map_inj_left.mp (m2 ns r) k hk)
theorem w_m3 {k : Nat} (hk : k ∈ [1, 2, 3, 4]) : Wc (callD tb 19 1000 [.own (.lst ((List.replicate k ("door 1 1" : Str)).map D.str))] (hR ns r)) Q E = Q (.val (.tup [.int k, .int 0])) (hR ns r) := Wc_eq (List.map_inj_left.mp (m3 ns r) k hk)
theorem w_n1 {k : Nat} (hk : 1 ≤ k ∧ k ≤ 4) : Wc (callD tb 19 1000 [.own (.lst (List.replicate k (D.str "door 1 1") ++ [D.str "crates fig"]))] (hR ns r)) Q E = Q (.val .non) (hR ns r) := by
  have := w_m1 (ns := ns) (r := r) (Q := Q) (E := E) (k := k) (by have : k = 1 ∨ k = 2 ∨ k = 3 ∨ k = 4 := by omega
                                                                  rcases this with rfl | rfl | rfl | rfl <;> decide)
  rw [List.map_append, List.map_replicate] at this
  exact this
theorem w_n2 {k : Nat} (hk : 5 ≤ k ∧ k ≤ 6) : Wc (callD tb 19 1000 [.own (.lst (List.replicate k (D.str "door 1 1") ++ [D.str "crates fig"]))] (hR ns r)) Q E = Q (.val (.tup [.int 4, .int 0])) (hR ns r) := by
  have := w_m2 (ns := ns) (r := r) (Q := Q) (E := E) (k := k) (by have : k = 5 ∨ k = 6 := by omega
                                                                  rcases this with rfl | rfl <;> decide)
  rw [List.map_append, List.map_replicate] at this
  exact this
theorem w_n3 {k : Nat} (hk : 1 ≤ k ∧ k ≤ 4) : Wc (callD tb 19 1000 [.own (.lst (List.replicate k (D.str "door 1 1")))] (hR ns r)) Q E = Q (.val (.tup [.int k, .int 0])) (hR ns r) := by
  have := w_m3 (ns := ns) (r := r) (Q := Q) (E := E) (k := k) (by have : k = 1 ∨ k = 2 ∨ k = 3 ∨ k = 4 := by omega
                                                                  rcases this with rfl | rfl | rfl | rfl <;> decide)
  rw [List.map_replicate] at this
  exact this
theorem w_f1 : Wc (callD tb 19 1000 [.own (.lst [D.str ""])] (hR ns r)) Q E = Q (.val (.tup [.int 0, .int 0])) (hR ns r) := Wc_eq (f1 ns r)
theorem w_f2 : Wc (callD tb 19 1000 [.own (.lst [D.str "door 5 7", D.str "crates fig"])] (hR ns r)) Q E = Q (.val (.tup [.str "store", .str "doors"])) (hR ns r) := Wc_eq (f2 ns r)
theorem w_f3 : Wc (callD tb 19 1000 [.own (.lst [D.str "door 5 1", D.str "crates fig plum"])] (hR ns r)) Q E = Q (.val (.tup [.str "store", .str "crates"])) (hR ns r) := Wc_eq (f3 ns r)
end
abbrev pD (p : Str × Int) : D := .tup [.str p.1, .int p.2]
@[irreducible] def EL : List D := early.map pD
@[irreducible] def LL : List D := late.map pD
@[irreducible] def ML : List D := more.map D.str
theorem EL_len : EL.length = 12 := by unfold EL; rfl
theorem LL_len : LL.length = 11 := by unfold LL; rfl
theorem EL_at {k : Nat} (h : k < 12) : ∃ p ∈ early, EL[k]? = some (pD p) := by
  unfold EL
  have hl : k < early.length := h
  exact ⟨early[k], List.getElem_mem hl, by simp [hl]⟩
theorem LL_at {k : Nat} (h : k < 11) : ∃ p ∈ late, LL[k]? = some (pD p) := by
  unfold LL
  have hl : k < late.length := h
  exact ⟨late[k], List.getElem_mem hl, by simp [hl]⟩
theorem ML_at {k : Nat} (h : k < 4) : ∃ p ∈ more, ML[k]? = some (.str p) := by
  unfold ML
  have hl : k < more.length := h
  exact ⟨more[k], List.getElem_mem hl, by simp [hl]⟩
theorem okT2 {a b : Int} : okD (.tup [.int a, .int b]) = true := rfl
theorem eq2 {a b : Int} : eqDs [.int a, .int b] [.int a, .int b] = true := by simp [eqDs, eqD]
end L45

set_option maxRecDepth 100000
set_option maxHeartbeats 400000
namespace L45
open PySem Ri Pg
section
variable {ns : List Int}
theorem leL {k : Nat} (h : k ≤ 1000) : (k ≤ LIM) = True := eq_true (by unfold LIM; omega)
theorem ltL {k : Nat} (h : k ≤ 1000) : (k < LIM) = True := eq_true (by unfold LIM; omega)
abbrev G3 : List D := [D.str "door 5 2", D.str "door 10 1", D.str "crates fig plum"]
@[irreducible] def rT1 : List Stm := L45_law_L0.drop 1
@[irreducible] def rT2 : List Stm := L45_law_L0.drop 3
@[irreducible] def rT3 : List Stm := L45_law_L0.drop 5
@[irreducible] def rT4 : List Stm := L45_law_L0.drop 7
@[irreducible] def rT5 : List Stm := L45_law_L0.drop 8
@[irreducible] def rT6 : List Stm := L45_law_L0.drop 9
theorem rTe0 : L45_law_L0 = (Stm.asg (.nm 6) (.call 18 [(.slot 1), (.cst (.int 2))])) :: rT1 := by
  unfold rT1
  rfl
theorem rTe1 : rT1 = (Stm.asg (.tp [(.nm 7), (.nm 9)]) (.bin .ix (.slot 3) (.call 18 [(.slot 1), (.bl .len [(.slot 3)])]))) :: (Stm.if_ (.bin .ne (.call 1000 [(.bin .add (.bin .add (.slice (.slot 2) none (some (.slot 6))) (.lst [(false, (.slot 7))])) (.slice (.slot 2) (some (.bin .add (.slot 6) (.cst (.int 1)))) none))]) (.tup [(false, (.slot 6)), (false, (.slot 9))])) [.ret (some (.cst (.bl false)))] []) :: rT2 := by
  unfold rT1 rT2
  rfl
theorem rTe2 : rT2 = (Stm.asg (.tp [(.nm 7), (.nm 9)]) (.bin .ix (.slot 4) (.call 18 [(.slot 1), (.bl .len [(.slot 4)])]))) :: (Stm.if_ (.bin .ne (.call 1000 [(.bin .add (.slice (.slot 2) none (some (.cst (.int 2)))) (.lst [(false, (.slot 7))]))]) (.tup [(false, (.cst (.int 2))), (false, (.slot 9))])) [.ret (some (.cst (.bl false)))] []) :: rT3 := by
  unfold rT2 rT3
  rfl
theorem rTe3 : rT3 = (Stm.asg (.nm 7) (.bin .ix (.lst [(false, (.cst (.str "door 5 2"))), (false, (.cst (.str "crates kiwi"))), (false, (.cst (.str ""))), (false, (.cst (.str "end")))]) (.call 18 [(.slot 1), (.cst (.int 4))]))) :: (Stm.if_ (.or (.bin .ne (.call 1000 [(.bin .add (.slot 2) (.lst [(false, (.slot 7))]))]) (.tup [(false, (.cst (.int 3))), (false, (.cst (.int 0)))])) (.bin .ne (.call 1000 [(.bin .add (.lst [(false, (.cst (.str "crates fig")))]) (.slot 2))]) (.tup [(false, (.cst (.int 0))), (false, (.cst (.int 0)))]))) [.ret (some (.cst (.bl false)))] []) :: rT4 := by
  unfold rT3 rT4
  rfl
theorem rTe4 : rT4 = (Stm.asg (.nm 8) (.bin .add (.cst (.int 1)) (.call 18 [(.slot 1), (.cst (.int 6))]))) :: rT5 := by
  unfold rT4 rT5
  rfl
theorem rTe5 : rT5 = (Stm.if_ (.bin .ne (.call 1000 [(.bin .add (.bin .mul (.lst [(false, (.cst (.str "door 1 1")))]) (.slot 8)) (.lst [(false, (.cst (.str "crates fig")))]))]) (.ite (.bin .gt (.slot 8) (.cst (.int 4))) (.tup [(false, (.cst (.int 4))), (false, (.cst (.int 0)))]) (.cst .non))) [.ret (some (.cst (.bl false)))] []) :: rT6 := by
  unfold rT5 rT6
  rfl
theorem rTe6 : rT6 = (Stm.if_ (.bin .ne (.call 1000 [(.bin .mul (.lst [(false, (.cst (.str "door 1 1")))]) (.bl .min2 [(.slot 8), (.cst (.int 4))]))]) (.tup [(false, (.bl .min2 [(.slot 8), (.cst (.int 4))])), (false, (.cst (.int 0)))])) [.ret (some (.cst (.bl false)))] []) :: [] := by
  unfold rT6
  rfl
theorem rp {k : Nat} {x : D} : (List.replicate k [x]).flatten = List.replicate k x := by simp
theorem lmk {k : Nat} (h : k ≤ 6) : (0 + 1) * k ≤ LIM := by unfold LIM; omega
theorem t6 {r : Rw} {n : Nat} {v0 v5 v6 v7 v8 v9 : Option SV} {Q : Fl → S → Prop} {E : Xc → S → Prop} {k : Nat} (hk : 1 ≤ k ∧ k ≤ 6) (h : ∀ r v6 v7 v8 v9, Q .next ⟨[v0, some (.val (.ref 2)), some (.own (.lst G3)), some (.own (.lst EL)), some (.own (.lst LL)), v5, v6, v7, v8, v9], hR ns r⟩) :
    W (execs (run tb (callD tb 19) (n + 39)) rT6 ⟨[v0, some (.val (.ref 2)), some (.own (.lst G3)), some (.own (.lst EL)), some (.own (.lst LL)), v5, v6, v7, some (.val (.int k)), v9], hR ns r⟩) Q E := by
  rw [rTe6]
  by_cases h4 : 4 < k
  · have e4 : (if (4 : Int) < k then (4 : Int) else k) = (4 : Nat) := by rw [if_pos (by omega)]; rfl
    simp -implicitDefEqProofs (disch := (first | omega | (simp only [List.length_cons, List.length_nil, List.length_map, List.length_append]; done) | (simp only [List.length_cons, List.length_nil, List.length_map, List.length_append]; omega))) only [↓Ri.Ws_m, ↓Ri.W_ok, ↓Ri.W_opt, ↓Ri.Wo_some, ↓Ri.W_none, ↓Ri.Wo_none, ↓Ri.Wi_t, ↓Ri.Wi_f, ↓Ri.Wi_pos, ↓Ri.Wi_neg, ↓Ri.Wi_not, ↓Ri.Wi_and, ↓Ri.Wi_or, ↓Ri.Wg_s, ↓Ri.Wg_0, ↓Ri.Wt_s, ↓Ri.Wt_0, ↓Ri.Wv_val, ↓Ri.Wv_own, ↓Ri.Wv_bor, ↓Ri.Wh_s, ↓Ri.Wh_0, ↓Ri.Wol_l, ↓Ri.Wol_i, ↓Ri.Wl_int, ↓Ri.Wl_bl, ↓Ri.Wl_non, ↓Ri.Wl_str, ↓Ri.Wl_tup, ↓Ri.Wl_lst, ↓Ri.Wl_klst, ↓Ri.Wl_ins, ↓Ri.Wl_ref0, ↓Ri.Wl_own, ↓Ri.Wlv_own, ↓Ri.Wlv_bor, ↓Ri.Wl_slot, ↓Ri.Wls_nil, ↓Ri.Wls_cons, ↓Ri.Wfv_val, ↓Ri.Wfv_own, ↓Ri.W_frz_val, ↓Ri.W_frz_own, ↓Ri.W_frz_slot, ↓Ri.W_it_val, ↓Ri.W_it_own, ↓Ri.Wiv_val, ↓Ri.Wiv_bor, ↓Ri.Wiv_own, ↓Ri.W_it_slot, ↓Ri.x_slot, ↓Ri.x_cst, ↓Ri.x_bin, ↓Ri.x_un, ↓Ri.Wb_bl, ↓Ri.x_and, ↓Ri.x_or, ↓Ri.x_ite, ↓Ri.W_testR, ↓Ri.x_chain, ↓Ri.W_chainR, ↓Ri.exStar_nil, ↓Ri.exStar_f, ↓Ri.exStar_t, ↓Ri.Wit_tup, ↓Ri.Wit_lst, ↓Ri.Wit_klst, ↓Ri.x_tup, ↓Ri.x_lst, ↓Ri.optE_none, ↓Ri.optE_some, ↓Ri.Wn_int, ↓Ri.x_slice, ↓Ri.W_sliceR, ↓Ri.Wo_sliceT, ↓Ri.Wo_sliceL, ↓Ri.W_binR, ↓Ri.W_unR, ↓Ri.b_add, ↓Ri.b_addS, ↓Ri.b_addL, ↓Ri.b_addT, ↓Ri.b_sub, ↓Ri.b_mul, ↓Ri.b_mulL, ↓Ri.b_fdiv, ↓Ri.b_mod, ↓Ri.b_pow, ↓Ri.b_lt, ↓Ri.b_gt, ↓Ri.b_le, ↓Ri.b_ge, ↓Ri.b_ltS, ↓Ri.b_eq, ↓Ri.b_ne, ↓Ri.b_in, ↓Ri.b_notin, ↓Ri.b_ix, ↓Ri.ix_tup, ↓Ri.ix_lst, ↓Ri.ix_klst, ↓Ri.ix_str, ↓Ri.u_not, ↓Ri.u_neg, ↓Ri.at0, ↓Ri.at1, ↓Ri.at2, ↓Ri.at3, ↓Ri.exs_nil, ↓Ri.exs_cons, ↓Ri.exDs_nil, ↓Ri.exDs_cons, ↓Ri.exIs_nil, ↓Ri.exIs_cons, ↓Ri.x_bl, ↓Ri.l_lenS, ↓Ri.l_lenT, ↓Ri.l_lenL, ↓Ri.l_lenK, ↓Ri.l_all, ↓Ri.l_any, ↓Ri.l_sum, ↓Ri.l_min, ↓Ri.l_max, ↓Ri.l_tuple, ↓Ri.l_list, ↓Ri.l_int, ↓Ri.l_intB, ↓Ri.l_isint, ↓Ri.l_isintS, ↓Ri.l_isbool, ↓Ri.l_isboolB, ↓Ri.l_isintB, ↓Ri.l_isstr, ↓Ri.l_istuple, ↓Ri.bools_nil, ↓Ri.bools_cons, ↓Ri.bools_map, ↓Ri.ints_nil, ↓Ri.ints_cons, ↓Ri.ints_map, ↓Ri.Wa_nil, ↓Ri.Wa_cons, ↓Ri.Wa_val, ↓Ri.Wa_own, ↓Ri.Wav_val, ↓Ri.Wav_own, ↓Ri.Wav_bor, ↓Ri.Wa_slot, ↓Ri.W_callR, ↓Ri.x_call, ↓Ri.Wk_i, ↓Ri.Wn1_val, ↓Ri.Wn1_ref, ↓Ri.x_mcall, ↓Ri.x_isi, ↓Ri.x_prop, ↓Ri.Wbo_bl, ↓Ri.x_ucmp, ↓Ri.Wle_int, ↓Ri.x_ulen, ↓Ri.x_fz, ↓Ri.Wj_s, ↓Ri.Wj_0, ↓Ri.Wjd_s, ↓Ri.Wjd_0, ↓Ri.Wfi_i, ↓Ri.W_fld_ins, ↓Ri.W_fld_ref, ↓Ri.x_fld, ↓Ri.x_settle, ↓Ri.W_settle, ↓Ri.Wst_str, ↓Ri.x_mt, ↓Ri.Wml_own, ↓Ri.Wmo_l, ↓Ri.Wil_slot, ↓Ri.Wil_ref, ↓Ri.Wwr_append, ↓Ri.Wwr_extend, ↓Ri.W_wr_slot, ↓Ri.W_wr_ref, ↓Ri.x_mw, ↓Ri.Wx_s, ↓Ri.Wx_0, ↓Ri.Wwp_nil, ↓Ri.Wwp_cons, ↓Ri.Wgo_s, ↓Ri.Wgo_0, ↓Ri.Wun_nil, ↓Ri.Wun_cons, ↓Ri.Wpx_n, ↓Ri.Wpx_v, ↓Ri.Wpl_nil, ↓Ri.Wpl_cons, ↓Ri.W_compR, ↓Ri.x_comp, ↓Ri.compL_nil, ↓Ri.ifR_none, ↓Ri.ifR_some, ↓Ri.compL_cons, ↓Ri.wk_str, ↓Ri.wk_tup, ↓Ri.wk_lst, ↓Ri.wk_klst, ↓Ri.wk_r1, ↓Ri.wk_r2, ↓Ri.wk_enT, ↓Ri.wk_enL, ↓Ri.wk_zT, ↓Ri.wk_zL, ↓Ri.t_nm, ↓Ri.t_tp, ↓Ri.ts_nil, ↓Ri.ts_cons, ↓Ri.Wsb_slot, ↓Ri.Wsb_ref, ↓Ri.t_sub, ↓Ri.Wfs_s, ↓Ri.Wfs_0, ↓Ri.Wrf_r, ↓Ri.t_fld, ↓Ri.r_val, ↓Ri.r_own, ↓Ri.r_own_fld, ↓Ri.r_own_sub, ↓Ri.r_slot, ↓Ri.s_nil, ↓Ri.Wf_n, ↓Ri.Wf_r, ↓Ri.Wf_b, ↓Ri.Wf_c, ↓Ri.s_cons, ↓Ri.s_asg, ↓Ri.s_ex, ↓Ri.s_retN, ↓Ri.s_ret, ↓Ri.ret_val, ↓Ri.ret_own, ↓Ri.Wrv_val, ↓Ri.Wrv_own, ↓Ri.ret_slot, ↓Ri.s_if, ↓Ri.s_for, ↓Ri.for_nil, ↓Ri.Wfl_n, ↓Ri.Wfl_c, ↓Ri.Wfl_b, ↓Ri.Wfl_r, ↓Ri.for_cons, ↓Ri.s_while, ↓Ri.Wnm_val, ↓Ri.Wnm_own, ↓Ri.s_asg2, ↓Ri.s_pass, ↓Ri.s_brk, ↓Ri.s_cnt, ↓Ri.s_wall, ↓Ri.Wi1_i, ↓Ri.s_incfld, ↓Ri.Wre_n, ↓Ri.Wre_v, ↓Ri.Wre_o, ↓Ri.x_new, ↓Ri.x_frz, ↓Ri.Wno_n, ↓Ri.deq_ii, ↓Ri.deq_ss, ↓Ri.deq_nn, ↓Ri.deq_bb, ↓Ri.deq_ns, ↓Ri.deq_sn, ↓Ri.deq_tt, ↓Ri.deq_ll, ↓Ri.s_raise, ↓Ri.s_try, ↓Ri.Wct_nil, ↓Ri.Wct_cons, ↓Ri.W_catch, ↓Ri.compXL_nil, ↓Ri.compXL_cons, ↓Ri.W_compXR, ↓Ri.x_compX, true_and, and_true, List.length_cons, List.length_nil, e4, Int.toNat_natCast, rp, ↓w_n3 (k := 4) (by omega), okT2, eq2]
    exact ⟨by decide, ⟨by omega, by decide, by omega⟩, by decide, h _ _ _ _ _⟩
  · have e4 : (if (4 : Int) < k then (4 : Int) else k) = (k : Nat) := by rw [if_neg (by omega)]
    simp -implicitDefEqProofs (disch := (first | omega | (simp only [List.length_cons, List.length_nil, List.length_map, List.length_append]; done) | (simp only [List.length_cons, List.length_nil, List.length_map, List.length_append]; omega))) only [↓Ri.Ws_m, ↓Ri.W_ok, ↓Ri.W_opt, ↓Ri.Wo_some, ↓Ri.W_none, ↓Ri.Wo_none, ↓Ri.Wi_t, ↓Ri.Wi_f, ↓Ri.Wi_pos, ↓Ri.Wi_neg, ↓Ri.Wi_not, ↓Ri.Wi_and, ↓Ri.Wi_or, ↓Ri.Wg_s, ↓Ri.Wg_0, ↓Ri.Wt_s, ↓Ri.Wt_0, ↓Ri.Wv_val, ↓Ri.Wv_own, ↓Ri.Wv_bor, ↓Ri.Wh_s, ↓Ri.Wh_0, ↓Ri.Wol_l, ↓Ri.Wol_i, ↓Ri.Wl_int, ↓Ri.Wl_bl, ↓Ri.Wl_non, ↓Ri.Wl_str, ↓Ri.Wl_tup, ↓Ri.Wl_lst, ↓Ri.Wl_klst, ↓Ri.Wl_ins, ↓Ri.Wl_ref0, ↓Ri.Wl_own, ↓Ri.Wlv_own, ↓Ri.Wlv_bor, ↓Ri.Wl_slot, ↓Ri.Wls_nil, ↓Ri.Wls_cons, ↓Ri.Wfv_val, ↓Ri.Wfv_own, ↓Ri.W_frz_val, ↓Ri.W_frz_own, ↓Ri.W_frz_slot, ↓Ri.W_it_val, ↓Ri.W_it_own, ↓Ri.Wiv_val, ↓Ri.Wiv_bor, ↓Ri.Wiv_own, ↓Ri.W_it_slot, ↓Ri.x_slot, ↓Ri.x_cst, ↓Ri.x_bin, ↓Ri.x_un, ↓Ri.Wb_bl, ↓Ri.x_and, ↓Ri.x_or, ↓Ri.x_ite, ↓Ri.W_testR, ↓Ri.x_chain, ↓Ri.W_chainR, ↓Ri.exStar_nil, ↓Ri.exStar_f, ↓Ri.exStar_t, ↓Ri.Wit_tup, ↓Ri.Wit_lst, ↓Ri.Wit_klst, ↓Ri.x_tup, ↓Ri.x_lst, ↓Ri.optE_none, ↓Ri.optE_some, ↓Ri.Wn_int, ↓Ri.x_slice, ↓Ri.W_sliceR, ↓Ri.Wo_sliceT, ↓Ri.Wo_sliceL, ↓Ri.W_binR, ↓Ri.W_unR, ↓Ri.b_add, ↓Ri.b_addS, ↓Ri.b_addL, ↓Ri.b_addT, ↓Ri.b_sub, ↓Ri.b_mul, ↓Ri.b_mulL, ↓Ri.b_fdiv, ↓Ri.b_mod, ↓Ri.b_pow, ↓Ri.b_lt, ↓Ri.b_gt, ↓Ri.b_le, ↓Ri.b_ge, ↓Ri.b_ltS, ↓Ri.b_eq, ↓Ri.b_ne, ↓Ri.b_in, ↓Ri.b_notin, ↓Ri.b_ix, ↓Ri.ix_tup, ↓Ri.ix_lst, ↓Ri.ix_klst, ↓Ri.ix_str, ↓Ri.u_not, ↓Ri.u_neg, ↓Ri.at0, ↓Ri.at1, ↓Ri.at2, ↓Ri.at3, ↓Ri.exs_nil, ↓Ri.exs_cons, ↓Ri.exDs_nil, ↓Ri.exDs_cons, ↓Ri.exIs_nil, ↓Ri.exIs_cons, ↓Ri.x_bl, ↓Ri.l_lenS, ↓Ri.l_lenT, ↓Ri.l_lenL, ↓Ri.l_lenK, ↓Ri.l_all, ↓Ri.l_any, ↓Ri.l_sum, ↓Ri.l_min, ↓Ri.l_max, ↓Ri.l_tuple, ↓Ri.l_list, ↓Ri.l_int, ↓Ri.l_intB, ↓Ri.l_isint, ↓Ri.l_isintS, ↓Ri.l_isbool, ↓Ri.l_isboolB, ↓Ri.l_isintB, ↓Ri.l_isstr, ↓Ri.l_istuple, ↓Ri.bools_nil, ↓Ri.bools_cons, ↓Ri.bools_map, ↓Ri.ints_nil, ↓Ri.ints_cons, ↓Ri.ints_map, ↓Ri.Wa_nil, ↓Ri.Wa_cons, ↓Ri.Wa_val, ↓Ri.Wa_own, ↓Ri.Wav_val, ↓Ri.Wav_own, ↓Ri.Wav_bor, ↓Ri.Wa_slot, ↓Ri.W_callR, ↓Ri.x_call, ↓Ri.Wk_i, ↓Ri.Wn1_val, ↓Ri.Wn1_ref, ↓Ri.x_mcall, ↓Ri.x_isi, ↓Ri.x_prop, ↓Ri.Wbo_bl, ↓Ri.x_ucmp, ↓Ri.Wle_int, ↓Ri.x_ulen, ↓Ri.x_fz, ↓Ri.Wj_s, ↓Ri.Wj_0, ↓Ri.Wjd_s, ↓Ri.Wjd_0, ↓Ri.Wfi_i, ↓Ri.W_fld_ins, ↓Ri.W_fld_ref, ↓Ri.x_fld, ↓Ri.x_settle, ↓Ri.W_settle, ↓Ri.Wst_str, ↓Ri.x_mt, ↓Ri.Wml_own, ↓Ri.Wmo_l, ↓Ri.Wil_slot, ↓Ri.Wil_ref, ↓Ri.Wwr_append, ↓Ri.Wwr_extend, ↓Ri.W_wr_slot, ↓Ri.W_wr_ref, ↓Ri.x_mw, ↓Ri.Wx_s, ↓Ri.Wx_0, ↓Ri.Wwp_nil, ↓Ri.Wwp_cons, ↓Ri.Wgo_s, ↓Ri.Wgo_0, ↓Ri.Wun_nil, ↓Ri.Wun_cons, ↓Ri.Wpx_n, ↓Ri.Wpx_v, ↓Ri.Wpl_nil, ↓Ri.Wpl_cons, ↓Ri.W_compR, ↓Ri.x_comp, ↓Ri.compL_nil, ↓Ri.ifR_none, ↓Ri.ifR_some, ↓Ri.compL_cons, ↓Ri.wk_str, ↓Ri.wk_tup, ↓Ri.wk_lst, ↓Ri.wk_klst, ↓Ri.wk_r1, ↓Ri.wk_r2, ↓Ri.wk_enT, ↓Ri.wk_enL, ↓Ri.wk_zT, ↓Ri.wk_zL, ↓Ri.t_nm, ↓Ri.t_tp, ↓Ri.ts_nil, ↓Ri.ts_cons, ↓Ri.Wsb_slot, ↓Ri.Wsb_ref, ↓Ri.t_sub, ↓Ri.Wfs_s, ↓Ri.Wfs_0, ↓Ri.Wrf_r, ↓Ri.t_fld, ↓Ri.r_val, ↓Ri.r_own, ↓Ri.r_own_fld, ↓Ri.r_own_sub, ↓Ri.r_slot, ↓Ri.s_nil, ↓Ri.Wf_n, ↓Ri.Wf_r, ↓Ri.Wf_b, ↓Ri.Wf_c, ↓Ri.s_cons, ↓Ri.s_asg, ↓Ri.s_ex, ↓Ri.s_retN, ↓Ri.s_ret, ↓Ri.ret_val, ↓Ri.ret_own, ↓Ri.Wrv_val, ↓Ri.Wrv_own, ↓Ri.ret_slot, ↓Ri.s_if, ↓Ri.s_for, ↓Ri.for_nil, ↓Ri.Wfl_n, ↓Ri.Wfl_c, ↓Ri.Wfl_b, ↓Ri.Wfl_r, ↓Ri.for_cons, ↓Ri.s_while, ↓Ri.Wnm_val, ↓Ri.Wnm_own, ↓Ri.s_asg2, ↓Ri.s_pass, ↓Ri.s_brk, ↓Ri.s_cnt, ↓Ri.s_wall, ↓Ri.Wi1_i, ↓Ri.s_incfld, ↓Ri.Wre_n, ↓Ri.Wre_v, ↓Ri.Wre_o, ↓Ri.x_new, ↓Ri.x_frz, ↓Ri.Wno_n, ↓Ri.deq_ii, ↓Ri.deq_ss, ↓Ri.deq_nn, ↓Ri.deq_bb, ↓Ri.deq_ns, ↓Ri.deq_sn, ↓Ri.deq_tt, ↓Ri.deq_ll, ↓Ri.s_raise, ↓Ri.s_try, ↓Ri.Wct_nil, ↓Ri.Wct_cons, ↓Ri.W_catch, ↓Ri.compXL_nil, ↓Ri.compXL_cons, ↓Ri.W_compXR, ↓Ri.x_compX, true_and, and_true, List.length_cons, List.length_nil, e4, Int.toNat_natCast, rp, ↓w_n3 (k := k) (by omega), okT2, eq2]
    exact ⟨by decide, ⟨by omega, lmk hk.2, by omega⟩, by decide, h _ _ _ _ _⟩
theorem t5 {r : Rw} {n : Nat} {v0 v5 v6 v7 v8 v9 : Option SV} {Q : Fl → S → Prop} {E : Xc → S → Prop} {k : Nat} (hk : 1 ≤ k ∧ k ≤ 6) (h : ∀ r v6 v7 v8 v9, Q .next ⟨[v0, some (.val (.ref 2)), some (.own (.lst G3)), some (.own (.lst EL)), some (.own (.lst LL)), v5, v6, v7, v8, v9], hR ns r⟩) :
    W (execs (run tb (callD tb 19) (n + 39)) rT5 ⟨[v0, some (.val (.ref 2)), some (.own (.lst G3)), some (.own (.lst EL)), some (.own (.lst LL)), v5, v6, v7, some (.val (.int k)), v9], hR ns r⟩) Q E := by
  have l7 : k + (0 + 1) ≤ LIM := by unfold LIM; omega
  by_cases h4 : 4 < k
  · have p4 : (4 : Int) < k := by omega
    rw [rTe5]
    simp -implicitDefEqProofs (disch := (first | omega | (simp only [List.length_cons, List.length_nil, List.length_map, List.length_append]; done) | (simp only [List.length_cons, List.length_nil, List.length_map, List.length_append]; omega))) only [↓Ri.Ws_m, ↓Ri.W_ok, ↓Ri.W_opt, ↓Ri.Wo_some, ↓Ri.W_none, ↓Ri.Wo_none, ↓Ri.Wi_t, ↓Ri.Wi_f, ↓Ri.Wi_pos, ↓Ri.Wi_neg, ↓Ri.Wi_not, ↓Ri.Wi_and, ↓Ri.Wi_or, ↓Ri.Wg_s, ↓Ri.Wg_0, ↓Ri.Wt_s, ↓Ri.Wt_0, ↓Ri.Wv_val, ↓Ri.Wv_own, ↓Ri.Wv_bor, ↓Ri.Wh_s, ↓Ri.Wh_0, ↓Ri.Wol_l, ↓Ri.Wol_i, ↓Ri.Wl_int, ↓Ri.Wl_bl, ↓Ri.Wl_non, ↓Ri.Wl_str, ↓Ri.Wl_tup, ↓Ri.Wl_lst, ↓Ri.Wl_klst, ↓Ri.Wl_ins, ↓Ri.Wl_ref0, ↓Ri.Wl_own, ↓Ri.Wlv_own, ↓Ri.Wlv_bor, ↓Ri.Wl_slot, ↓Ri.Wls_nil, ↓Ri.Wls_cons, ↓Ri.Wfv_val, ↓Ri.Wfv_own, ↓Ri.W_frz_val, ↓Ri.W_frz_own, ↓Ri.W_frz_slot, ↓Ri.W_it_val, ↓Ri.W_it_own, ↓Ri.Wiv_val, ↓Ri.Wiv_bor, ↓Ri.Wiv_own, ↓Ri.W_it_slot, ↓Ri.x_slot, ↓Ri.x_cst, ↓Ri.x_bin, ↓Ri.x_un, ↓Ri.Wb_bl, ↓Ri.x_and, ↓Ri.x_or, ↓Ri.x_ite, ↓Ri.W_testR, ↓Ri.x_chain, ↓Ri.W_chainR, ↓Ri.exStar_nil, ↓Ri.exStar_f, ↓Ri.exStar_t, ↓Ri.Wit_tup, ↓Ri.Wit_lst, ↓Ri.Wit_klst, ↓Ri.x_tup, ↓Ri.x_lst, ↓Ri.optE_none, ↓Ri.optE_some, ↓Ri.Wn_int, ↓Ri.x_slice, ↓Ri.W_sliceR, ↓Ri.Wo_sliceT, ↓Ri.Wo_sliceL, ↓Ri.W_binR, ↓Ri.W_unR, ↓Ri.b_add, ↓Ri.b_addS, ↓Ri.b_addL, ↓Ri.b_addT, ↓Ri.b_sub, ↓Ri.b_mul, ↓Ri.b_mulL, ↓Ri.b_fdiv, ↓Ri.b_mod, ↓Ri.b_pow, ↓Ri.b_lt, ↓Ri.b_gt, ↓Ri.b_le, ↓Ri.b_ge, ↓Ri.b_ltS, ↓Ri.b_eq, ↓Ri.b_ne, ↓Ri.b_in, ↓Ri.b_notin, ↓Ri.b_ix, ↓Ri.ix_tup, ↓Ri.ix_lst, ↓Ri.ix_klst, ↓Ri.ix_str, ↓Ri.u_not, ↓Ri.u_neg, ↓Ri.at0, ↓Ri.at1, ↓Ri.at2, ↓Ri.at3, ↓Ri.exs_nil, ↓Ri.exs_cons, ↓Ri.exDs_nil, ↓Ri.exDs_cons, ↓Ri.exIs_nil, ↓Ri.exIs_cons, ↓Ri.x_bl, ↓Ri.l_lenS, ↓Ri.l_lenT, ↓Ri.l_lenL, ↓Ri.l_lenK, ↓Ri.l_all, ↓Ri.l_any, ↓Ri.l_sum, ↓Ri.l_min, ↓Ri.l_max, ↓Ri.l_tuple, ↓Ri.l_list, ↓Ri.l_int, ↓Ri.l_intB, ↓Ri.l_isint, ↓Ri.l_isintS, ↓Ri.l_isbool, ↓Ri.l_isboolB, ↓Ri.l_isintB, ↓Ri.l_isstr, ↓Ri.l_istuple, ↓Ri.bools_nil, ↓Ri.bools_cons, ↓Ri.bools_map, ↓Ri.ints_nil, ↓Ri.ints_cons, ↓Ri.ints_map, ↓Ri.Wa_nil, ↓Ri.Wa_cons, ↓Ri.Wa_val, ↓Ri.Wa_own, ↓Ri.Wav_val, ↓Ri.Wav_own, ↓Ri.Wav_bor, ↓Ri.Wa_slot, ↓Ri.W_callR, ↓Ri.x_call, ↓Ri.Wk_i, ↓Ri.Wn1_val, ↓Ri.Wn1_ref, ↓Ri.x_mcall, ↓Ri.x_isi, ↓Ri.x_prop, ↓Ri.Wbo_bl, ↓Ri.x_ucmp, ↓Ri.Wle_int, ↓Ri.x_ulen, ↓Ri.x_fz, ↓Ri.Wj_s, ↓Ri.Wj_0, ↓Ri.Wjd_s, ↓Ri.Wjd_0, ↓Ri.Wfi_i, ↓Ri.W_fld_ins, ↓Ri.W_fld_ref, ↓Ri.x_fld, ↓Ri.x_settle, ↓Ri.W_settle, ↓Ri.Wst_str, ↓Ri.x_mt, ↓Ri.Wml_own, ↓Ri.Wmo_l, ↓Ri.Wil_slot, ↓Ri.Wil_ref, ↓Ri.Wwr_append, ↓Ri.Wwr_extend, ↓Ri.W_wr_slot, ↓Ri.W_wr_ref, ↓Ri.x_mw, ↓Ri.Wx_s, ↓Ri.Wx_0, ↓Ri.Wwp_nil, ↓Ri.Wwp_cons, ↓Ri.Wgo_s, ↓Ri.Wgo_0, ↓Ri.Wun_nil, ↓Ri.Wun_cons, ↓Ri.Wpx_n, ↓Ri.Wpx_v, ↓Ri.Wpl_nil, ↓Ri.Wpl_cons, ↓Ri.W_compR, ↓Ri.x_comp, ↓Ri.compL_nil, ↓Ri.ifR_none, ↓Ri.ifR_some, ↓Ri.compL_cons, ↓Ri.wk_str, ↓Ri.wk_tup, ↓Ri.wk_lst, ↓Ri.wk_klst, ↓Ri.wk_r1, ↓Ri.wk_r2, ↓Ri.wk_enT, ↓Ri.wk_enL, ↓Ri.wk_zT, ↓Ri.wk_zL, ↓Ri.t_nm, ↓Ri.t_tp, ↓Ri.ts_nil, ↓Ri.ts_cons, ↓Ri.Wsb_slot, ↓Ri.Wsb_ref, ↓Ri.t_sub, ↓Ri.Wfs_s, ↓Ri.Wfs_0, ↓Ri.Wrf_r, ↓Ri.t_fld, ↓Ri.r_val, ↓Ri.r_own, ↓Ri.r_own_fld, ↓Ri.r_own_sub, ↓Ri.r_slot, ↓Ri.s_nil, ↓Ri.Wf_n, ↓Ri.Wf_r, ↓Ri.Wf_b, ↓Ri.Wf_c, ↓Ri.s_cons, ↓Ri.s_asg, ↓Ri.s_ex, ↓Ri.s_retN, ↓Ri.s_ret, ↓Ri.ret_val, ↓Ri.ret_own, ↓Ri.Wrv_val, ↓Ri.Wrv_own, ↓Ri.ret_slot, ↓Ri.s_if, ↓Ri.s_for, ↓Ri.for_nil, ↓Ri.Wfl_n, ↓Ri.Wfl_c, ↓Ri.Wfl_b, ↓Ri.Wfl_r, ↓Ri.for_cons, ↓Ri.s_while, ↓Ri.Wnm_val, ↓Ri.Wnm_own, ↓Ri.s_asg2, ↓Ri.s_pass, ↓Ri.s_brk, ↓Ri.s_cnt, ↓Ri.s_wall, ↓Ri.Wi1_i, ↓Ri.s_incfld, ↓Ri.Wre_n, ↓Ri.Wre_v, ↓Ri.Wre_o, ↓Ri.x_new, ↓Ri.x_frz, ↓Ri.Wno_n, ↓Ri.deq_ii, ↓Ri.deq_ss, ↓Ri.deq_nn, ↓Ri.deq_bb, ↓Ri.deq_ns, ↓Ri.deq_sn, ↓Ri.deq_tt, ↓Ri.deq_ll, ↓Ri.s_raise, ↓Ri.s_try, ↓Ri.Wct_nil, ↓Ri.Wct_cons, ↓Ri.W_catch, ↓Ri.compXL_nil, ↓Ri.compXL_cons, ↓Ri.W_compXR, ↓Ri.x_compX, true_and, and_true, List.length_cons, List.length_nil, Int.toNat_natCast, rp, ↓w_n2 (k := k) (by omega), okT2, eq2, ↓Ri.Wi_pos p4, List.length_replicate, l7]
    refine ⟨by decide, ⟨by omega, lmk hk.2, by omega⟩, by decide, by decide, ?_⟩
    exact t6 (v8 := none) hk h
  · have p4 : ¬ (4 : Int) < k := by omega
    rw [rTe5]
    simp -implicitDefEqProofs (disch := (first | omega | (simp only [List.length_cons, List.length_nil, List.length_map, List.length_append]; done) | (simp only [List.length_cons, List.length_nil, List.length_map, List.length_append]; omega))) only [↓Ri.Ws_m, ↓Ri.W_ok, ↓Ri.W_opt, ↓Ri.Wo_some, ↓Ri.W_none, ↓Ri.Wo_none, ↓Ri.Wi_t, ↓Ri.Wi_f, ↓Ri.Wi_pos, ↓Ri.Wi_neg, ↓Ri.Wi_not, ↓Ri.Wi_and, ↓Ri.Wi_or, ↓Ri.Wg_s, ↓Ri.Wg_0, ↓Ri.Wt_s, ↓Ri.Wt_0, ↓Ri.Wv_val, ↓Ri.Wv_own, ↓Ri.Wv_bor, ↓Ri.Wh_s, ↓Ri.Wh_0, ↓Ri.Wol_l, ↓Ri.Wol_i, ↓Ri.Wl_int, ↓Ri.Wl_bl, ↓Ri.Wl_non, ↓Ri.Wl_str, ↓Ri.Wl_tup, ↓Ri.Wl_lst, ↓Ri.Wl_klst, ↓Ri.Wl_ins, ↓Ri.Wl_ref0, ↓Ri.Wl_own, ↓Ri.Wlv_own, ↓Ri.Wlv_bor, ↓Ri.Wl_slot, ↓Ri.Wls_nil, ↓Ri.Wls_cons, ↓Ri.Wfv_val, ↓Ri.Wfv_own, ↓Ri.W_frz_val, ↓Ri.W_frz_own, ↓Ri.W_frz_slot, ↓Ri.W_it_val, ↓Ri.W_it_own, ↓Ri.Wiv_val, ↓Ri.Wiv_bor, ↓Ri.Wiv_own, ↓Ri.W_it_slot, ↓Ri.x_slot, ↓Ri.x_cst, ↓Ri.x_bin, ↓Ri.x_un, ↓Ri.Wb_bl, ↓Ri.x_and, ↓Ri.x_or, ↓Ri.x_ite, ↓Ri.W_testR, ↓Ri.x_chain, ↓Ri.W_chainR, ↓Ri.exStar_nil, ↓Ri.exStar_f, ↓Ri.exStar_t, ↓Ri.Wit_tup, ↓Ri.Wit_lst, ↓Ri.Wit_klst, ↓Ri.x_tup, ↓Ri.x_lst, ↓Ri.optE_none, ↓Ri.optE_some, ↓Ri.Wn_int, ↓Ri.x_slice, ↓Ri.W_sliceR, ↓Ri.Wo_sliceT, ↓Ri.Wo_sliceL, ↓Ri.W_binR, ↓Ri.W_unR, ↓Ri.b_add, ↓Ri.b_addS, ↓Ri.b_addL, ↓Ri.b_addT, ↓Ri.b_sub, ↓Ri.b_mul, ↓Ri.b_mulL, ↓Ri.b_fdiv, ↓Ri.b_mod, ↓Ri.b_pow, ↓Ri.b_lt, ↓Ri.b_gt, ↓Ri.b_le, ↓Ri.b_ge, ↓Ri.b_ltS, ↓Ri.b_eq, ↓Ri.b_ne, ↓Ri.b_in, ↓Ri.b_notin, ↓Ri.b_ix, ↓Ri.ix_tup, ↓Ri.ix_lst, ↓Ri.ix_klst, ↓Ri.ix_str, ↓Ri.u_not, ↓Ri.u_neg, ↓Ri.at0, ↓Ri.at1, ↓Ri.at2, ↓Ri.at3, ↓Ri.exs_nil, ↓Ri.exs_cons, ↓Ri.exDs_nil, ↓Ri.exDs_cons, ↓Ri.exIs_nil, ↓Ri.exIs_cons, ↓Ri.x_bl, ↓Ri.l_lenS, ↓Ri.l_lenT, ↓Ri.l_lenL, ↓Ri.l_lenK, ↓Ri.l_all, ↓Ri.l_any, ↓Ri.l_sum, ↓Ri.l_min, ↓Ri.l_max, ↓Ri.l_tuple, ↓Ri.l_list, ↓Ri.l_int, ↓Ri.l_intB, ↓Ri.l_isint, ↓Ri.l_isintS, ↓Ri.l_isbool, ↓Ri.l_isboolB, ↓Ri.l_isintB, ↓Ri.l_isstr, ↓Ri.l_istuple, ↓Ri.bools_nil, ↓Ri.bools_cons, ↓Ri.bools_map, ↓Ri.ints_nil, ↓Ri.ints_cons, ↓Ri.ints_map, ↓Ri.Wa_nil, ↓Ri.Wa_cons, ↓Ri.Wa_val, ↓Ri.Wa_own, ↓Ri.Wav_val, ↓Ri.Wav_own, ↓Ri.Wav_bor, ↓Ri.Wa_slot, ↓Ri.W_callR, ↓Ri.x_call, ↓Ri.Wk_i, ↓Ri.Wn1_val, ↓Ri.Wn1_ref, ↓Ri.x_mcall, ↓Ri.x_isi, ↓Ri.x_prop, ↓Ri.Wbo_bl, ↓Ri.x_ucmp, ↓Ri.Wle_int, ↓Ri.x_ulen, ↓Ri.x_fz, ↓Ri.Wj_s, ↓Ri.Wj_0, ↓Ri.Wjd_s, ↓Ri.Wjd_0, ↓Ri.Wfi_i, ↓Ri.W_fld_ins, ↓Ri.W_fld_ref, ↓Ri.x_fld, ↓Ri.x_settle, ↓Ri.W_settle, ↓Ri.Wst_str, ↓Ri.x_mt, ↓Ri.Wml_own, ↓Ri.Wmo_l, ↓Ri.Wil_slot, ↓Ri.Wil_ref, ↓Ri.Wwr_append, ↓Ri.Wwr_extend, ↓Ri.W_wr_slot, ↓Ri.W_wr_ref, ↓Ri.x_mw, ↓Ri.Wx_s, ↓Ri.Wx_0, ↓Ri.Wwp_nil, ↓Ri.Wwp_cons, ↓Ri.Wgo_s, ↓Ri.Wgo_0, ↓Ri.Wun_nil, ↓Ri.Wun_cons, ↓Ri.Wpx_n, ↓Ri.Wpx_v, ↓Ri.Wpl_nil, ↓Ri.Wpl_cons, ↓Ri.W_compR, ↓Ri.x_comp, ↓Ri.compL_nil, ↓Ri.ifR_none, ↓Ri.ifR_some, ↓Ri.compL_cons, ↓Ri.wk_str, ↓Ri.wk_tup, ↓Ri.wk_lst, ↓Ri.wk_klst, ↓Ri.wk_r1, ↓Ri.wk_r2, ↓Ri.wk_enT, ↓Ri.wk_enL, ↓Ri.wk_zT, ↓Ri.wk_zL, ↓Ri.t_nm, ↓Ri.t_tp, ↓Ri.ts_nil, ↓Ri.ts_cons, ↓Ri.Wsb_slot, ↓Ri.Wsb_ref, ↓Ri.t_sub, ↓Ri.Wfs_s, ↓Ri.Wfs_0, ↓Ri.Wrf_r, ↓Ri.t_fld, ↓Ri.r_val, ↓Ri.r_own, ↓Ri.r_own_fld, ↓Ri.r_own_sub, ↓Ri.r_slot, ↓Ri.s_nil, ↓Ri.Wf_n, ↓Ri.Wf_r, ↓Ri.Wf_b, ↓Ri.Wf_c, ↓Ri.s_cons, ↓Ri.s_asg, ↓Ri.s_ex, ↓Ri.s_retN, ↓Ri.s_ret, ↓Ri.ret_val, ↓Ri.ret_own, ↓Ri.Wrv_val, ↓Ri.Wrv_own, ↓Ri.ret_slot, ↓Ri.s_if, ↓Ri.s_for, ↓Ri.for_nil, ↓Ri.Wfl_n, ↓Ri.Wfl_c, ↓Ri.Wfl_b, ↓Ri.Wfl_r, ↓Ri.for_cons, ↓Ri.s_while, ↓Ri.Wnm_val, ↓Ri.Wnm_own, ↓Ri.s_asg2, ↓Ri.s_pass, ↓Ri.s_brk, ↓Ri.s_cnt, ↓Ri.s_wall, ↓Ri.Wi1_i, ↓Ri.s_incfld, ↓Ri.Wre_n, ↓Ri.Wre_v, ↓Ri.Wre_o, ↓Ri.x_new, ↓Ri.x_frz, ↓Ri.Wno_n, ↓Ri.deq_ii, ↓Ri.deq_ss, ↓Ri.deq_nn, ↓Ri.deq_bb, ↓Ri.deq_ns, ↓Ri.deq_sn, ↓Ri.deq_tt, ↓Ri.deq_ll, ↓Ri.s_raise, ↓Ri.s_try, ↓Ri.Wct_nil, ↓Ri.Wct_cons, ↓Ri.W_catch, ↓Ri.compXL_nil, ↓Ri.compXL_cons, ↓Ri.W_compXR, ↓Ri.x_compX, true_and, and_true, List.length_cons, List.length_nil, Int.toNat_natCast, rp, ↓w_n1 (k := k) (by omega), ↓Ri.Wi_neg p4, List.length_replicate, l7]
    refine ⟨by decide, ⟨by omega, lmk hk.2, by omega⟩, by decide, ?_⟩
    exact t6 (v8 := none) hk h
theorem t4 {r : Rw} {n : Nat} {v0 v5 v6 v7 v8 v9 : Option SV} {Q : Fl → S → Prop} {E : Xc → S → Prop} (h : ∀ r v6 v7 v8 v9, Q .next ⟨[v0, some (.val (.ref 2)), some (.own (.lst G3)), some (.own (.lst EL)), some (.own (.lst LL)), v5, v6, v7, v8, v9], hR ns r⟩) :
    W (execs (run tb (callD tb 19) (n + 39)) rT4 ⟨[v0, some (.val (.ref 2)), some (.own (.lst G3)), some (.own (.lst EL)), some (.own (.lst LL)), v5, v6, v7, v8, v9], hR ns r⟩) Q E := by
  rw [rTe4]
  have b := tk_b (ns := ns) (r := r) (m := 6) (by omega)
  obtain ⟨m, hm⟩ := Int.eq_ofNat_of_zero_le b.1
  have e : (1 : Int) + (m : Nat) = ((m + 1 : Nat) : Int) := by omega
  simp -implicitDefEqProofs (disch := (first | omega | (simp only [List.length_cons, List.length_nil, List.length_map, List.length_append]; done) | (simp only [List.length_cons, List.length_nil, List.length_map, List.length_append]; omega))) only [↓Ri.Ws_m, ↓Ri.W_ok, ↓Ri.W_opt, ↓Ri.Wo_some, ↓Ri.W_none, ↓Ri.Wo_none, ↓Ri.Wi_t, ↓Ri.Wi_f, ↓Ri.Wi_pos, ↓Ri.Wi_neg, ↓Ri.Wi_not, ↓Ri.Wi_and, ↓Ri.Wi_or, ↓Ri.Wg_s, ↓Ri.Wg_0, ↓Ri.Wt_s, ↓Ri.Wt_0, ↓Ri.Wv_val, ↓Ri.Wv_own, ↓Ri.Wv_bor, ↓Ri.Wh_s, ↓Ri.Wh_0, ↓Ri.Wol_l, ↓Ri.Wol_i, ↓Ri.Wl_int, ↓Ri.Wl_bl, ↓Ri.Wl_non, ↓Ri.Wl_str, ↓Ri.Wl_tup, ↓Ri.Wl_lst, ↓Ri.Wl_klst, ↓Ri.Wl_ins, ↓Ri.Wl_ref0, ↓Ri.Wl_own, ↓Ri.Wlv_own, ↓Ri.Wlv_bor, ↓Ri.Wl_slot, ↓Ri.Wls_nil, ↓Ri.Wls_cons, ↓Ri.Wfv_val, ↓Ri.Wfv_own, ↓Ri.W_frz_val, ↓Ri.W_frz_own, ↓Ri.W_frz_slot, ↓Ri.W_it_val, ↓Ri.W_it_own, ↓Ri.Wiv_val, ↓Ri.Wiv_bor, ↓Ri.Wiv_own, ↓Ri.W_it_slot, ↓Ri.x_slot, ↓Ri.x_cst, ↓Ri.x_bin, ↓Ri.x_un, ↓Ri.Wb_bl, ↓Ri.x_and, ↓Ri.x_or, ↓Ri.x_ite, ↓Ri.W_testR, ↓Ri.x_chain, ↓Ri.W_chainR, ↓Ri.exStar_nil, ↓Ri.exStar_f, ↓Ri.exStar_t, ↓Ri.Wit_tup, ↓Ri.Wit_lst, ↓Ri.Wit_klst, ↓Ri.x_tup, ↓Ri.x_lst, ↓Ri.optE_none, ↓Ri.optE_some, ↓Ri.Wn_int, ↓Ri.x_slice, ↓Ri.W_sliceR, ↓Ri.Wo_sliceT, ↓Ri.Wo_sliceL, ↓Ri.W_binR, ↓Ri.W_unR, ↓Ri.b_add, ↓Ri.b_addS, ↓Ri.b_addL, ↓Ri.b_addT, ↓Ri.b_sub, ↓Ri.b_mul, ↓Ri.b_mulL, ↓Ri.b_fdiv, ↓Ri.b_mod, ↓Ri.b_pow, ↓Ri.b_lt, ↓Ri.b_gt, ↓Ri.b_le, ↓Ri.b_ge, ↓Ri.b_ltS, ↓Ri.b_eq, ↓Ri.b_ne, ↓Ri.b_in, ↓Ri.b_notin, ↓Ri.b_ix, ↓Ri.ix_tup, ↓Ri.ix_lst, ↓Ri.ix_klst, ↓Ri.ix_str, ↓Ri.u_not, ↓Ri.u_neg, ↓Ri.at0, ↓Ri.at1, ↓Ri.at2, ↓Ri.at3, ↓Ri.exs_nil, ↓Ri.exs_cons, ↓Ri.exDs_nil, ↓Ri.exDs_cons, ↓Ri.exIs_nil, ↓Ri.exIs_cons, ↓Ri.x_bl, ↓Ri.l_lenS, ↓Ri.l_lenT, ↓Ri.l_lenL, ↓Ri.l_lenK, ↓Ri.l_all, ↓Ri.l_any, ↓Ri.l_sum, ↓Ri.l_min, ↓Ri.l_max, ↓Ri.l_tuple, ↓Ri.l_list, ↓Ri.l_int, ↓Ri.l_intB, ↓Ri.l_isint, ↓Ri.l_isintS, ↓Ri.l_isbool, ↓Ri.l_isboolB, ↓Ri.l_isintB, ↓Ri.l_isstr, ↓Ri.l_istuple, ↓Ri.bools_nil, ↓Ri.bools_cons, ↓Ri.bools_map, ↓Ri.ints_nil, ↓Ri.ints_cons, ↓Ri.ints_map, ↓Ri.Wa_nil, ↓Ri.Wa_cons, ↓Ri.Wa_val, ↓Ri.Wa_own, ↓Ri.Wav_val, ↓Ri.Wav_own, ↓Ri.Wav_bor, ↓Ri.Wa_slot, ↓Ri.W_callR, ↓Ri.x_call, ↓Ri.Wk_i, ↓Ri.Wn1_val, ↓Ri.Wn1_ref, ↓Ri.x_mcall, ↓Ri.x_isi, ↓Ri.x_prop, ↓Ri.Wbo_bl, ↓Ri.x_ucmp, ↓Ri.Wle_int, ↓Ri.x_ulen, ↓Ri.x_fz, ↓Ri.Wj_s, ↓Ri.Wj_0, ↓Ri.Wjd_s, ↓Ri.Wjd_0, ↓Ri.Wfi_i, ↓Ri.W_fld_ins, ↓Ri.W_fld_ref, ↓Ri.x_fld, ↓Ri.x_settle, ↓Ri.W_settle, ↓Ri.Wst_str, ↓Ri.x_mt, ↓Ri.Wml_own, ↓Ri.Wmo_l, ↓Ri.Wil_slot, ↓Ri.Wil_ref, ↓Ri.Wwr_append, ↓Ri.Wwr_extend, ↓Ri.W_wr_slot, ↓Ri.W_wr_ref, ↓Ri.x_mw, ↓Ri.Wx_s, ↓Ri.Wx_0, ↓Ri.Wwp_nil, ↓Ri.Wwp_cons, ↓Ri.Wgo_s, ↓Ri.Wgo_0, ↓Ri.Wun_nil, ↓Ri.Wun_cons, ↓Ri.Wpx_n, ↓Ri.Wpx_v, ↓Ri.Wpl_nil, ↓Ri.Wpl_cons, ↓Ri.W_compR, ↓Ri.x_comp, ↓Ri.compL_nil, ↓Ri.ifR_none, ↓Ri.ifR_some, ↓Ri.compL_cons, ↓Ri.wk_str, ↓Ri.wk_tup, ↓Ri.wk_lst, ↓Ri.wk_klst, ↓Ri.wk_r1, ↓Ri.wk_r2, ↓Ri.wk_enT, ↓Ri.wk_enL, ↓Ri.wk_zT, ↓Ri.wk_zL, ↓Ri.t_nm, ↓Ri.t_tp, ↓Ri.ts_nil, ↓Ri.ts_cons, ↓Ri.Wsb_slot, ↓Ri.Wsb_ref, ↓Ri.t_sub, ↓Ri.Wfs_s, ↓Ri.Wfs_0, ↓Ri.Wrf_r, ↓Ri.t_fld, ↓Ri.r_val, ↓Ri.r_own, ↓Ri.r_own_fld, ↓Ri.r_own_sub, ↓Ri.r_slot, ↓Ri.s_nil, ↓Ri.Wf_n, ↓Ri.Wf_r, ↓Ri.Wf_b, ↓Ri.Wf_c, ↓Ri.s_cons, ↓Ri.s_asg, ↓Ri.s_ex, ↓Ri.s_retN, ↓Ri.s_ret, ↓Ri.ret_val, ↓Ri.ret_own, ↓Ri.Wrv_val, ↓Ri.Wrv_own, ↓Ri.ret_slot, ↓Ri.s_if, ↓Ri.s_for, ↓Ri.for_nil, ↓Ri.Wfl_n, ↓Ri.Wfl_c, ↓Ri.Wfl_b, ↓Ri.Wfl_r, ↓Ri.for_cons, ↓Ri.s_while, ↓Ri.Wnm_val, ↓Ri.Wnm_own, ↓Ri.s_asg2, ↓Ri.s_pass, ↓Ri.s_brk, ↓Ri.s_cnt, ↓Ri.s_wall, ↓Ri.Wi1_i, ↓Ri.s_incfld, ↓Ri.Wre_n, ↓Ri.Wre_v, ↓Ri.Wre_o, ↓Ri.x_new, ↓Ri.x_frz, ↓Ri.Wno_n, ↓Ri.deq_ii, ↓Ri.deq_ss, ↓Ri.deq_nn, ↓Ri.deq_bb, ↓Ri.deq_ns, ↓Ri.deq_sn, ↓Ri.deq_tt, ↓Ri.deq_ll, ↓Ri.s_raise, ↓Ri.s_try, ↓Ri.Wct_nil, ↓Ri.Wct_cons, ↓Ri.W_catch, ↓Ri.compXL_nil, ↓Ri.compXL_cons, ↓Ri.W_compXR, ↓Ri.x_compX, true_and, and_true, List.length_cons, List.length_nil, ↓w_taken2 has, hm, e]
  exact t5 (v8 := none) (by omega) h
theorem t3 {r : Rw} {n : Nat} {v0 v5 v6 v7 v8 v9 : Option SV} {Q : Fl → S → Prop} {E : Xc → S → Prop} (h : ∀ r v6 v7 v8 v9, Q .next ⟨[v0, some (.val (.ref 2)), some (.own (.lst G3)), some (.own (.lst EL)), some (.own (.lst LL)), v5, v6, v7, v8, v9], hR ns r⟩) :
    W (execs (run tb (callD tb 19) (n + 39)) rT3 ⟨[v0, some (.val (.ref 2)), some (.own (.lst G3)), some (.own (.lst EL)), some (.own (.lst LL)), v5, v6, v7, v8, v9], hR ns r⟩) Q E := by
  rw [rTe3]
  have b := tk_b (ns := ns) (r := r) (m := 4) (by omega)
  obtain ⟨j, hj⟩ := Int.eq_ofNat_of_zero_le b.1
  obtain ⟨p, hp, hx⟩ := ML_at (k := j) (by omega)
  have eM : [D.str "door 5 2", D.str "crates kiwi", D.str "", D.str "end"] = ML := by unfold ML; rfl
  simp -implicitDefEqProofs (disch := (first | omega | (simp only [List.length_cons, List.length_nil, List.length_map, List.length_append]; done) | (simp only [List.length_cons, List.length_nil, List.length_map, List.length_append]; omega))) only [↓Ri.Ws_m, ↓Ri.W_ok, ↓Ri.W_opt, ↓Ri.Wo_some, ↓Ri.W_none, ↓Ri.Wo_none, ↓Ri.Wi_t, ↓Ri.Wi_f, ↓Ri.Wi_pos, ↓Ri.Wi_neg, ↓Ri.Wi_not, ↓Ri.Wi_and, ↓Ri.Wi_or, ↓Ri.Wg_s, ↓Ri.Wg_0, ↓Ri.Wt_s, ↓Ri.Wt_0, ↓Ri.Wv_val, ↓Ri.Wv_own, ↓Ri.Wv_bor, ↓Ri.Wh_s, ↓Ri.Wh_0, ↓Ri.Wol_l, ↓Ri.Wol_i, ↓Ri.Wl_int, ↓Ri.Wl_bl, ↓Ri.Wl_non, ↓Ri.Wl_str, ↓Ri.Wl_tup, ↓Ri.Wl_lst, ↓Ri.Wl_klst, ↓Ri.Wl_ins, ↓Ri.Wl_ref0, ↓Ri.Wl_own, ↓Ri.Wlv_own, ↓Ri.Wlv_bor, ↓Ri.Wl_slot, ↓Ri.Wls_nil, ↓Ri.Wls_cons, ↓Ri.Wfv_val, ↓Ri.Wfv_own, ↓Ri.W_frz_val, ↓Ri.W_frz_own, ↓Ri.W_frz_slot, ↓Ri.W_it_val, ↓Ri.W_it_own, ↓Ri.Wiv_val, ↓Ri.Wiv_bor, ↓Ri.Wiv_own, ↓Ri.W_it_slot, ↓Ri.x_slot, ↓Ri.x_cst, ↓Ri.x_bin, ↓Ri.x_un, ↓Ri.Wb_bl, ↓Ri.x_and, ↓Ri.x_or, ↓Ri.x_ite, ↓Ri.W_testR, ↓Ri.x_chain, ↓Ri.W_chainR, ↓Ri.exStar_nil, ↓Ri.exStar_f, ↓Ri.exStar_t, ↓Ri.Wit_tup, ↓Ri.Wit_lst, ↓Ri.Wit_klst, ↓Ri.x_tup, ↓Ri.x_lst, ↓Ri.optE_none, ↓Ri.optE_some, ↓Ri.Wn_int, ↓Ri.x_slice, ↓Ri.W_sliceR, ↓Ri.Wo_sliceT, ↓Ri.Wo_sliceL, ↓Ri.W_binR, ↓Ri.W_unR, ↓Ri.b_add, ↓Ri.b_addS, ↓Ri.b_addL, ↓Ri.b_addT, ↓Ri.b_sub, ↓Ri.b_mul, ↓Ri.b_mulL, ↓Ri.b_fdiv, ↓Ri.b_mod, ↓Ri.b_pow, ↓Ri.b_lt, ↓Ri.b_gt, ↓Ri.b_le, ↓Ri.b_ge, ↓Ri.b_ltS, ↓Ri.b_eq, ↓Ri.b_ne, ↓Ri.b_in, ↓Ri.b_notin, ↓Ri.b_ix, ↓Ri.ix_tup, ↓Ri.ix_lst, ↓Ri.ix_klst, ↓Ri.ix_str, ↓Ri.u_not, ↓Ri.u_neg, ↓Ri.at0, ↓Ri.at1, ↓Ri.at2, ↓Ri.at3, ↓Ri.exs_nil, ↓Ri.exs_cons, ↓Ri.exDs_nil, ↓Ri.exDs_cons, ↓Ri.exIs_nil, ↓Ri.exIs_cons, ↓Ri.x_bl, ↓Ri.l_lenS, ↓Ri.l_lenT, ↓Ri.l_lenL, ↓Ri.l_lenK, ↓Ri.l_all, ↓Ri.l_any, ↓Ri.l_sum, ↓Ri.l_min, ↓Ri.l_max, ↓Ri.l_tuple, ↓Ri.l_list, ↓Ri.l_int, ↓Ri.l_intB, ↓Ri.l_isint, ↓Ri.l_isintS, ↓Ri.l_isbool, ↓Ri.l_isboolB, ↓Ri.l_isintB, ↓Ri.l_isstr, ↓Ri.l_istuple, ↓Ri.bools_nil, ↓Ri.bools_cons, ↓Ri.bools_map, ↓Ri.ints_nil, ↓Ri.ints_cons, ↓Ri.ints_map, ↓Ri.Wa_nil, ↓Ri.Wa_cons, ↓Ri.Wa_val, ↓Ri.Wa_own, ↓Ri.Wav_val, ↓Ri.Wav_own, ↓Ri.Wav_bor, ↓Ri.Wa_slot, ↓Ri.W_callR, ↓Ri.x_call, ↓Ri.Wk_i, ↓Ri.Wn1_val, ↓Ri.Wn1_ref, ↓Ri.x_mcall, ↓Ri.x_isi, ↓Ri.x_prop, ↓Ri.Wbo_bl, ↓Ri.x_ucmp, ↓Ri.Wle_int, ↓Ri.x_ulen, ↓Ri.x_fz, ↓Ri.Wj_s, ↓Ri.Wj_0, ↓Ri.Wjd_s, ↓Ri.Wjd_0, ↓Ri.Wfi_i, ↓Ri.W_fld_ins, ↓Ri.W_fld_ref, ↓Ri.x_fld, ↓Ri.x_settle, ↓Ri.W_settle, ↓Ri.Wst_str, ↓Ri.x_mt, ↓Ri.Wml_own, ↓Ri.Wmo_l, ↓Ri.Wil_slot, ↓Ri.Wil_ref, ↓Ri.Wwr_append, ↓Ri.Wwr_extend, ↓Ri.W_wr_slot, ↓Ri.W_wr_ref, ↓Ri.x_mw, ↓Ri.Wx_s, ↓Ri.Wx_0, ↓Ri.Wwp_nil, ↓Ri.Wwp_cons, ↓Ri.Wgo_s, ↓Ri.Wgo_0, ↓Ri.Wun_nil, ↓Ri.Wun_cons, ↓Ri.Wpx_n, ↓Ri.Wpx_v, ↓Ri.Wpl_nil, ↓Ri.Wpl_cons, ↓Ri.W_compR, ↓Ri.x_comp, ↓Ri.compL_nil, ↓Ri.ifR_none, ↓Ri.ifR_some, ↓Ri.compL_cons, ↓Ri.wk_str, ↓Ri.wk_tup, ↓Ri.wk_lst, ↓Ri.wk_klst, ↓Ri.wk_r1, ↓Ri.wk_r2, ↓Ri.wk_enT, ↓Ri.wk_enL, ↓Ri.wk_zT, ↓Ri.wk_zL, ↓Ri.t_nm, ↓Ri.t_tp, ↓Ri.ts_nil, ↓Ri.ts_cons, ↓Ri.Wsb_slot, ↓Ri.Wsb_ref, ↓Ri.t_sub, ↓Ri.Wfs_s, ↓Ri.Wfs_0, ↓Ri.Wrf_r, ↓Ri.t_fld, ↓Ri.r_val, ↓Ri.r_own, ↓Ri.r_own_fld, ↓Ri.r_own_sub, ↓Ri.r_slot, ↓Ri.s_nil, ↓Ri.Wf_n, ↓Ri.Wf_r, ↓Ri.Wf_b, ↓Ri.Wf_c, ↓Ri.s_cons, ↓Ri.s_asg, ↓Ri.s_ex, ↓Ri.s_retN, ↓Ri.s_ret, ↓Ri.ret_val, ↓Ri.ret_own, ↓Ri.Wrv_val, ↓Ri.Wrv_own, ↓Ri.ret_slot, ↓Ri.s_if, ↓Ri.s_for, ↓Ri.for_nil, ↓Ri.Wfl_n, ↓Ri.Wfl_c, ↓Ri.Wfl_b, ↓Ri.Wfl_r, ↓Ri.for_cons, ↓Ri.s_while, ↓Ri.Wnm_val, ↓Ri.Wnm_own, ↓Ri.s_asg2, ↓Ri.s_pass, ↓Ri.s_brk, ↓Ri.s_cnt, ↓Ri.s_wall, ↓Ri.Wi1_i, ↓Ri.s_incfld, ↓Ri.Wre_n, ↓Ri.Wre_v, ↓Ri.Wre_o, ↓Ri.x_new, ↓Ri.x_frz, ↓Ri.Wno_n, ↓Ri.deq_ii, ↓Ri.deq_ss, ↓Ri.deq_nn, ↓Ri.deq_bb, ↓Ri.deq_ns, ↓Ri.deq_sn, ↓Ri.deq_tt, ↓Ri.deq_ll, ↓Ri.s_raise, ↓Ri.s_try, ↓Ri.Wct_nil, ↓Ri.Wct_cons, ↓Ri.W_catch, ↓Ri.compXL_nil, ↓Ri.compXL_cons, ↓Ri.W_compXR, ↓Ri.x_compX, true_and, and_true, List.length_cons, List.length_nil, eM, ↓w_taken2 has, hj, ↓Ri.at_of hx rfl, List.nil_append, List.cons_append, ↓w_x0 hp, ↓w_x1, okT2, eq2]
  refine ⟨by rw [← eM]; decide, by decide, by decide, by decide, by decide, by decide, by decide, ?_⟩
  exact t4 h
theorem t2 {r : Rw} {n : Nat} {v0 v5 v6 v7 v8 v9 : Option SV} {Q : Fl → S → Prop} {E : Xc → S → Prop} (h : ∀ r v6 v7 v8 v9, Q .next ⟨[v0, some (.val (.ref 2)), some (.own (.lst G3)), some (.own (.lst EL)), some (.own (.lst LL)), v5, v6, v7, v8, v9], hR ns r⟩) :
    W (execs (run tb (callD tb 19) (n + 39)) rT2 ⟨[v0, some (.val (.ref 2)), some (.own (.lst G3)), some (.own (.lst EL)), some (.own (.lst LL)), v5, v6, v7, v8, v9], hR ns r⟩) Q E := by
  rw [rTe2]
  have el : (LL.length : Int) = 11 := by rw [LL_len]; rfl
  have b2 := tk_b (ns := ns) (r := r) (m := 11) (by omega)
  obtain ⟨j, hj⟩ := Int.eq_ofNat_of_zero_le b2.1
  obtain ⟨p, hp, hx⟩ := LL_at (k := j) (by omega)
  have s00 : slL G3 none (some 2) = [D.str "door 5 2", D.str "door 10 1"] := rfl
  simp -implicitDefEqProofs (disch := (first | omega | (simp only [List.length_cons, List.length_nil, List.length_map, List.length_append]; done) | (simp only [List.length_cons, List.length_nil, List.length_map, List.length_append]; omega))) only [↓Ri.Ws_m, ↓Ri.W_ok, ↓Ri.W_opt, ↓Ri.Wo_some, ↓Ri.W_none, ↓Ri.Wo_none, ↓Ri.Wi_t, ↓Ri.Wi_f, ↓Ri.Wi_pos, ↓Ri.Wi_neg, ↓Ri.Wi_not, ↓Ri.Wi_and, ↓Ri.Wi_or, ↓Ri.Wg_s, ↓Ri.Wg_0, ↓Ri.Wt_s, ↓Ri.Wt_0, ↓Ri.Wv_val, ↓Ri.Wv_own, ↓Ri.Wv_bor, ↓Ri.Wh_s, ↓Ri.Wh_0, ↓Ri.Wol_l, ↓Ri.Wol_i, ↓Ri.Wl_int, ↓Ri.Wl_bl, ↓Ri.Wl_non, ↓Ri.Wl_str, ↓Ri.Wl_tup, ↓Ri.Wl_lst, ↓Ri.Wl_klst, ↓Ri.Wl_ins, ↓Ri.Wl_ref0, ↓Ri.Wl_own, ↓Ri.Wlv_own, ↓Ri.Wlv_bor, ↓Ri.Wl_slot, ↓Ri.Wls_nil, ↓Ri.Wls_cons, ↓Ri.Wfv_val, ↓Ri.Wfv_own, ↓Ri.W_frz_val, ↓Ri.W_frz_own, ↓Ri.W_frz_slot, ↓Ri.W_it_val, ↓Ri.W_it_own, ↓Ri.Wiv_val, ↓Ri.Wiv_bor, ↓Ri.Wiv_own, ↓Ri.W_it_slot, ↓Ri.x_slot, ↓Ri.x_cst, ↓Ri.x_bin, ↓Ri.x_un, ↓Ri.Wb_bl, ↓Ri.x_and, ↓Ri.x_or, ↓Ri.x_ite, ↓Ri.W_testR, ↓Ri.x_chain, ↓Ri.W_chainR, ↓Ri.exStar_nil, ↓Ri.exStar_f, ↓Ri.exStar_t, ↓Ri.Wit_tup, ↓Ri.Wit_lst, ↓Ri.Wit_klst, ↓Ri.x_tup, ↓Ri.x_lst, ↓Ri.optE_none, ↓Ri.optE_some, ↓Ri.Wn_int, ↓Ri.x_slice, ↓Ri.W_sliceR, ↓Ri.Wo_sliceT, ↓Ri.Wo_sliceL, ↓Ri.W_binR, ↓Ri.W_unR, ↓Ri.b_add, ↓Ri.b_addS, ↓Ri.b_addL, ↓Ri.b_addT, ↓Ri.b_sub, ↓Ri.b_mul, ↓Ri.b_mulL, ↓Ri.b_fdiv, ↓Ri.b_mod, ↓Ri.b_pow, ↓Ri.b_lt, ↓Ri.b_gt, ↓Ri.b_le, ↓Ri.b_ge, ↓Ri.b_ltS, ↓Ri.b_eq, ↓Ri.b_ne, ↓Ri.b_in, ↓Ri.b_notin, ↓Ri.b_ix, ↓Ri.ix_tup, ↓Ri.ix_lst, ↓Ri.ix_klst, ↓Ri.ix_str, ↓Ri.u_not, ↓Ri.u_neg, ↓Ri.at0, ↓Ri.at1, ↓Ri.at2, ↓Ri.at3, ↓Ri.exs_nil, ↓Ri.exs_cons, ↓Ri.exDs_nil, ↓Ri.exDs_cons, ↓Ri.exIs_nil, ↓Ri.exIs_cons, ↓Ri.x_bl, ↓Ri.l_lenS, ↓Ri.l_lenT, ↓Ri.l_lenL, ↓Ri.l_lenK, ↓Ri.l_all, ↓Ri.l_any, ↓Ri.l_sum, ↓Ri.l_min, ↓Ri.l_max, ↓Ri.l_tuple, ↓Ri.l_list, ↓Ri.l_int, ↓Ri.l_intB, ↓Ri.l_isint, ↓Ri.l_isintS, ↓Ri.l_isbool, ↓Ri.l_isboolB, ↓Ri.l_isintB, ↓Ri.l_isstr, ↓Ri.l_istuple, ↓Ri.bools_nil, ↓Ri.bools_cons, ↓Ri.bools_map, ↓Ri.ints_nil, ↓Ri.ints_cons, ↓Ri.ints_map, ↓Ri.Wa_nil, ↓Ri.Wa_cons, ↓Ri.Wa_val, ↓Ri.Wa_own, ↓Ri.Wav_val, ↓Ri.Wav_own, ↓Ri.Wav_bor, ↓Ri.Wa_slot, ↓Ri.W_callR, ↓Ri.x_call, ↓Ri.Wk_i, ↓Ri.Wn1_val, ↓Ri.Wn1_ref, ↓Ri.x_mcall, ↓Ri.x_isi, ↓Ri.x_prop, ↓Ri.Wbo_bl, ↓Ri.x_ucmp, ↓Ri.Wle_int, ↓Ri.x_ulen, ↓Ri.x_fz, ↓Ri.Wj_s, ↓Ri.Wj_0, ↓Ri.Wjd_s, ↓Ri.Wjd_0, ↓Ri.Wfi_i, ↓Ri.W_fld_ins, ↓Ri.W_fld_ref, ↓Ri.x_fld, ↓Ri.x_settle, ↓Ri.W_settle, ↓Ri.Wst_str, ↓Ri.x_mt, ↓Ri.Wml_own, ↓Ri.Wmo_l, ↓Ri.Wil_slot, ↓Ri.Wil_ref, ↓Ri.Wwr_append, ↓Ri.Wwr_extend, ↓Ri.W_wr_slot, ↓Ri.W_wr_ref, ↓Ri.x_mw, ↓Ri.Wx_s, ↓Ri.Wx_0, ↓Ri.Wwp_nil, ↓Ri.Wwp_cons, ↓Ri.Wgo_s, ↓Ri.Wgo_0, ↓Ri.Wun_nil, ↓Ri.Wun_cons, ↓Ri.Wpx_n, ↓Ri.Wpx_v, ↓Ri.Wpl_nil, ↓Ri.Wpl_cons, ↓Ri.W_compR, ↓Ri.x_comp, ↓Ri.compL_nil, ↓Ri.ifR_none, ↓Ri.ifR_some, ↓Ri.compL_cons, ↓Ri.wk_str, ↓Ri.wk_tup, ↓Ri.wk_lst, ↓Ri.wk_klst, ↓Ri.wk_r1, ↓Ri.wk_r2, ↓Ri.wk_enT, ↓Ri.wk_enL, ↓Ri.wk_zT, ↓Ri.wk_zL, ↓Ri.t_nm, ↓Ri.t_tp, ↓Ri.ts_nil, ↓Ri.ts_cons, ↓Ri.Wsb_slot, ↓Ri.Wsb_ref, ↓Ri.t_sub, ↓Ri.Wfs_s, ↓Ri.Wfs_0, ↓Ri.Wrf_r, ↓Ri.t_fld, ↓Ri.r_val, ↓Ri.r_own, ↓Ri.r_own_fld, ↓Ri.r_own_sub, ↓Ri.r_slot, ↓Ri.s_nil, ↓Ri.Wf_n, ↓Ri.Wf_r, ↓Ri.Wf_b, ↓Ri.Wf_c, ↓Ri.s_cons, ↓Ri.s_asg, ↓Ri.s_ex, ↓Ri.s_retN, ↓Ri.s_ret, ↓Ri.ret_val, ↓Ri.ret_own, ↓Ri.Wrv_val, ↓Ri.Wrv_own, ↓Ri.ret_slot, ↓Ri.s_if, ↓Ri.s_for, ↓Ri.for_nil, ↓Ri.Wfl_n, ↓Ri.Wfl_c, ↓Ri.Wfl_b, ↓Ri.Wfl_r, ↓Ri.for_cons, ↓Ri.s_while, ↓Ri.Wnm_val, ↓Ri.Wnm_own, ↓Ri.s_asg2, ↓Ri.s_pass, ↓Ri.s_brk, ↓Ri.s_cnt, ↓Ri.s_wall, ↓Ri.Wi1_i, ↓Ri.s_incfld, ↓Ri.Wre_n, ↓Ri.Wre_v, ↓Ri.Wre_o, ↓Ri.x_new, ↓Ri.x_frz, ↓Ri.Wno_n, ↓Ri.deq_ii, ↓Ri.deq_ss, ↓Ri.deq_nn, ↓Ri.deq_bb, ↓Ri.deq_ns, ↓Ri.deq_sn, ↓Ri.deq_tt, ↓Ri.deq_ll, ↓Ri.s_raise, ↓Ri.s_try, ↓Ri.Wct_nil, ↓Ri.Wct_cons, ↓Ri.W_catch, ↓Ri.compXL_nil, ↓Ri.compXL_cons, ↓Ri.W_compXR, ↓Ri.x_compX, true_and, and_true, List.length_cons, List.length_nil, ↓w_taken2 has, el, hj, ↓Ri.at_of hx rfl, s00, List.nil_append, List.cons_append, ↓w_l0 hp, okT2, eq2]
  refine ⟨by decide, by decide, by decide, ?_⟩
  exact t3 h
theorem turn {r : Rw} {n : Nat} {v0 v5 v6 v7 v8 v9 : Option SV} {Q : Fl → S → Prop} {E : Xc → S → Prop} (h : ∀ r v6 v7 v8 v9, Q .next ⟨[v0, some (.val (.ref 2)), some (.own (.lst G3)), some (.own (.lst EL)), some (.own (.lst LL)), v5, v6, v7, v8, v9], hR ns r⟩) :
    W (execs (run tb (callD tb 19) (n + 39)) L45_law_L0 ⟨[v0, some (.val (.ref 2)), some (.own (.lst G3)), some (.own (.lst EL)), some (.own (.lst LL)), v5, v6, v7, v8, v9], hR ns r⟩) Q E := by
  rw [rTe0]
  have b1 := tk_b (ns := ns) (r := r) (m := 2) (by omega)
  simp -implicitDefEqProofs (disch := (first | omega | (simp only [List.length_cons, List.length_nil, List.length_map, List.length_append]; done) | (simp only [List.length_cons, List.length_nil, List.length_map, List.length_append]; omega))) only [↓Ri.Ws_m, ↓Ri.W_ok, ↓Ri.W_opt, ↓Ri.Wo_some, ↓Ri.W_none, ↓Ri.Wo_none, ↓Ri.Wi_t, ↓Ri.Wi_f, ↓Ri.Wi_pos, ↓Ri.Wi_neg, ↓Ri.Wi_not, ↓Ri.Wi_and, ↓Ri.Wi_or, ↓Ri.Wg_s, ↓Ri.Wg_0, ↓Ri.Wt_s, ↓Ri.Wt_0, ↓Ri.Wv_val, ↓Ri.Wv_own, ↓Ri.Wv_bor, ↓Ri.Wh_s, ↓Ri.Wh_0, ↓Ri.Wol_l, ↓Ri.Wol_i, ↓Ri.Wl_int, ↓Ri.Wl_bl, ↓Ri.Wl_non, ↓Ri.Wl_str, ↓Ri.Wl_tup, ↓Ri.Wl_lst, ↓Ri.Wl_klst, ↓Ri.Wl_ins, ↓Ri.Wl_ref0, ↓Ri.Wl_own, ↓Ri.Wlv_own, ↓Ri.Wlv_bor, ↓Ri.Wl_slot, ↓Ri.Wls_nil, ↓Ri.Wls_cons, ↓Ri.Wfv_val, ↓Ri.Wfv_own, ↓Ri.W_frz_val, ↓Ri.W_frz_own, ↓Ri.W_frz_slot, ↓Ri.W_it_val, ↓Ri.W_it_own, ↓Ri.Wiv_val, ↓Ri.Wiv_bor, ↓Ri.Wiv_own, ↓Ri.W_it_slot, ↓Ri.x_slot, ↓Ri.x_cst, ↓Ri.x_bin, ↓Ri.x_un, ↓Ri.Wb_bl, ↓Ri.x_and, ↓Ri.x_or, ↓Ri.x_ite, ↓Ri.W_testR, ↓Ri.x_chain, ↓Ri.W_chainR, ↓Ri.exStar_nil, ↓Ri.exStar_f, ↓Ri.exStar_t, ↓Ri.Wit_tup, ↓Ri.Wit_lst, ↓Ri.Wit_klst, ↓Ri.x_tup, ↓Ri.x_lst, ↓Ri.optE_none, ↓Ri.optE_some, ↓Ri.Wn_int, ↓Ri.x_slice, ↓Ri.W_sliceR, ↓Ri.Wo_sliceT, ↓Ri.Wo_sliceL, ↓Ri.W_binR, ↓Ri.W_unR, ↓Ri.b_add, ↓Ri.b_addS, ↓Ri.b_addL, ↓Ri.b_addT, ↓Ri.b_sub, ↓Ri.b_mul, ↓Ri.b_mulL, ↓Ri.b_fdiv, ↓Ri.b_mod, ↓Ri.b_pow, ↓Ri.b_lt, ↓Ri.b_gt, ↓Ri.b_le, ↓Ri.b_ge, ↓Ri.b_ltS, ↓Ri.b_eq, ↓Ri.b_ne, ↓Ri.b_in, ↓Ri.b_notin, ↓Ri.b_ix, ↓Ri.ix_tup, ↓Ri.ix_lst, ↓Ri.ix_klst, ↓Ri.ix_str, ↓Ri.u_not, ↓Ri.u_neg, ↓Ri.at0, ↓Ri.at1, ↓Ri.at2, ↓Ri.at3, ↓Ri.exs_nil, ↓Ri.exs_cons, ↓Ri.exDs_nil, ↓Ri.exDs_cons, ↓Ri.exIs_nil, ↓Ri.exIs_cons, ↓Ri.x_bl, ↓Ri.l_lenS, ↓Ri.l_lenT, ↓Ri.l_lenL, ↓Ri.l_lenK, ↓Ri.l_all, ↓Ri.l_any, ↓Ri.l_sum, ↓Ri.l_min, ↓Ri.l_max, ↓Ri.l_tuple, ↓Ri.l_list, ↓Ri.l_int, ↓Ri.l_intB, ↓Ri.l_isint, ↓Ri.l_isintS, ↓Ri.l_isbool, ↓Ri.l_isboolB, ↓Ri.l_isintB, ↓Ri.l_isstr, ↓Ri.l_istuple, ↓Ri.bools_nil, ↓Ri.bools_cons, ↓Ri.bools_map, ↓Ri.ints_nil, ↓Ri.ints_cons, ↓Ri.ints_map, ↓Ri.Wa_nil, ↓Ri.Wa_cons, ↓Ri.Wa_val, ↓Ri.Wa_own, ↓Ri.Wav_val, ↓Ri.Wav_own, ↓Ri.Wav_bor, ↓Ri.Wa_slot, ↓Ri.W_callR, ↓Ri.x_call, ↓Ri.Wk_i, ↓Ri.Wn1_val, ↓Ri.Wn1_ref, ↓Ri.x_mcall, ↓Ri.x_isi, ↓Ri.x_prop, ↓Ri.Wbo_bl, ↓Ri.x_ucmp, ↓Ri.Wle_int, ↓Ri.x_ulen, ↓Ri.x_fz, ↓Ri.Wj_s, ↓Ri.Wj_0, ↓Ri.Wjd_s, ↓Ri.Wjd_0, ↓Ri.Wfi_i, ↓Ri.W_fld_ins, ↓Ri.W_fld_ref, ↓Ri.x_fld, ↓Ri.x_settle, ↓Ri.W_settle, ↓Ri.Wst_str, ↓Ri.x_mt, ↓Ri.Wml_own, ↓Ri.Wmo_l, ↓Ri.Wil_slot, ↓Ri.Wil_ref, ↓Ri.Wwr_append, ↓Ri.Wwr_extend, ↓Ri.W_wr_slot, ↓Ri.W_wr_ref, ↓Ri.x_mw, ↓Ri.Wx_s, ↓Ri.Wx_0, ↓Ri.Wwp_nil, ↓Ri.Wwp_cons, ↓Ri.Wgo_s, ↓Ri.Wgo_0, ↓Ri.Wun_nil, ↓Ri.Wun_cons, ↓Ri.Wpx_n, ↓Ri.Wpx_v, ↓Ri.Wpl_nil, ↓Ri.Wpl_cons, ↓Ri.W_compR, ↓Ri.x_comp, ↓Ri.compL_nil, ↓Ri.ifR_none, ↓Ri.ifR_some, ↓Ri.compL_cons, ↓Ri.wk_str, ↓Ri.wk_tup, ↓Ri.wk_lst, ↓Ri.wk_klst, ↓Ri.wk_r1, ↓Ri.wk_r2, ↓Ri.wk_enT, ↓Ri.wk_enL, ↓Ri.wk_zT, ↓Ri.wk_zL, ↓Ri.t_nm, ↓Ri.t_tp, ↓Ri.ts_nil, ↓Ri.ts_cons, ↓Ri.Wsb_slot, ↓Ri.Wsb_ref, ↓Ri.t_sub, ↓Ri.Wfs_s, ↓Ri.Wfs_0, ↓Ri.Wrf_r, ↓Ri.t_fld, ↓Ri.r_val, ↓Ri.r_own, ↓Ri.r_own_fld, ↓Ri.r_own_sub, ↓Ri.r_slot, ↓Ri.s_nil, ↓Ri.Wf_n, ↓Ri.Wf_r, ↓Ri.Wf_b, ↓Ri.Wf_c, ↓Ri.s_cons, ↓Ri.s_asg, ↓Ri.s_ex, ↓Ri.s_retN, ↓Ri.s_ret, ↓Ri.ret_val, ↓Ri.ret_own, ↓Ri.Wrv_val, ↓Ri.Wrv_own, ↓Ri.ret_slot, ↓Ri.s_if, ↓Ri.s_for, ↓Ri.for_nil, ↓Ri.Wfl_n, ↓Ri.Wfl_c, ↓Ri.Wfl_b, ↓Ri.Wfl_r, ↓Ri.for_cons, ↓Ri.s_while, ↓Ri.Wnm_val, ↓Ri.Wnm_own, ↓Ri.s_asg2, ↓Ri.s_pass, ↓Ri.s_brk, ↓Ri.s_cnt, ↓Ri.s_wall, ↓Ri.Wi1_i, ↓Ri.s_incfld, ↓Ri.Wre_n, ↓Ri.Wre_v, ↓Ri.Wre_o, ↓Ri.x_new, ↓Ri.x_frz, ↓Ri.Wno_n, ↓Ri.deq_ii, ↓Ri.deq_ss, ↓Ri.deq_nn, ↓Ri.deq_bb, ↓Ri.deq_ns, ↓Ri.deq_sn, ↓Ri.deq_tt, ↓Ri.deq_ll, ↓Ri.s_raise, ↓Ri.s_try, ↓Ri.Wct_nil, ↓Ri.Wct_cons, ↓Ri.W_catch, ↓Ri.compXL_nil, ↓Ri.compXL_cons, ↓Ri.W_compXR, ↓Ri.x_compX, true_and, and_true, List.length_cons, List.length_nil, ↓w_taken2 has]
  generalize hk : (tk ns r 2).1 = k at b1
  generalize (tk ns r 2).2 = r1
  rw [rTe1]
  have el : (EL.length : Int) = 12 := by rw [EL_len]; rfl
  have b2 := tk_b (ns := ns) (r := r1) (m := 12) (by omega)
  obtain ⟨j, hj⟩ := Int.eq_ofNat_of_zero_le b2.1
  obtain ⟨p, hp, hx⟩ := EL_at (k := j) (by omega)
  have s00 : slL G3 none (some 0) = [] := rfl
  have s01 : slL G3 (some (0 + 1)) none = [D.str "door 10 1", D.str "crates fig plum"] := rfl
  have s10 : slL G3 none (some 1) = [D.str "door 5 2"] := rfl
  have s11 : slL G3 (some (1 + 1)) none = [D.str "crates fig plum"] := rfl
  have lm : 0 + 1 ≤ LIM := by decide
  have lm0 : 0 + (0 + 1) ≤ LIM := by decide
  have lm1 : 0 + 1 + (0 + 1 + 1) ≤ LIM := by decide
  have k01 : k = 0 ∨ k = 1 := by omega
  have nx : W (execs (run tb (callD tb 19) (n + 39)) rT2 ⟨[v0, some (.val (.ref 2)), some (.own (.lst G3)), some (.own (.lst EL)), some (.own (.lst LL)), v5, some (.val (.int k)), some (.val (.str p.1)), v8, some (.val (.int p.2))], hR ns (tk ns r1 12).2⟩) Q E := t2 h
  rcases k01 with rfl | rfl
  · simp -implicitDefEqProofs (disch := (first | omega | (simp only [List.length_cons, List.length_nil, List.length_map, List.length_append]; done) | (simp only [List.length_cons, List.length_nil, List.length_map, List.length_append]; omega))) only [↓Ri.Ws_m, ↓Ri.W_ok, ↓Ri.W_opt, ↓Ri.Wo_some, ↓Ri.W_none, ↓Ri.Wo_none, ↓Ri.Wi_t, ↓Ri.Wi_f, ↓Ri.Wi_pos, ↓Ri.Wi_neg, ↓Ri.Wi_not, ↓Ri.Wi_and, ↓Ri.Wi_or, ↓Ri.Wg_s, ↓Ri.Wg_0, ↓Ri.Wt_s, ↓Ri.Wt_0, ↓Ri.Wv_val, ↓Ri.Wv_own, ↓Ri.Wv_bor, ↓Ri.Wh_s, ↓Ri.Wh_0, ↓Ri.Wol_l, ↓Ri.Wol_i, ↓Ri.Wl_int, ↓Ri.Wl_bl, ↓Ri.Wl_non, ↓Ri.Wl_str, ↓Ri.Wl_tup, ↓Ri.Wl_lst, ↓Ri.Wl_klst, ↓Ri.Wl_ins, ↓Ri.Wl_ref0, ↓Ri.Wl_own, ↓Ri.Wlv_own, ↓Ri.Wlv_bor, ↓Ri.Wl_slot, ↓Ri.Wls_nil, ↓Ri.Wls_cons, ↓Ri.Wfv_val, ↓Ri.Wfv_own, ↓Ri.W_frz_val, ↓Ri.W_frz_own, ↓Ri.W_frz_slot, ↓Ri.W_it_val, ↓Ri.W_it_own, ↓Ri.Wiv_val, ↓Ri.Wiv_bor, ↓Ri.Wiv_own, ↓Ri.W_it_slot, ↓Ri.x_slot, ↓Ri.x_cst, ↓Ri.x_bin, ↓Ri.x_un, ↓Ri.Wb_bl, ↓Ri.x_and, ↓Ri.x_or, ↓Ri.x_ite, ↓Ri.W_testR, ↓Ri.x_chain, ↓Ri.W_chainR, ↓Ri.exStar_nil, ↓Ri.exStar_f, ↓Ri.exStar_t, ↓Ri.Wit_tup, ↓Ri.Wit_lst, ↓Ri.Wit_klst, ↓Ri.x_tup, ↓Ri.x_lst, ↓Ri.optE_none, ↓Ri.optE_some, ↓Ri.Wn_int, ↓Ri.x_slice, ↓Ri.W_sliceR, ↓Ri.Wo_sliceT, ↓Ri.Wo_sliceL, ↓Ri.W_binR, ↓Ri.W_unR, ↓Ri.b_add, ↓Ri.b_addS, ↓Ri.b_addL, ↓Ri.b_addT, ↓Ri.b_sub, ↓Ri.b_mul, ↓Ri.b_mulL, ↓Ri.b_fdiv, ↓Ri.b_mod, ↓Ri.b_pow, ↓Ri.b_lt, ↓Ri.b_gt, ↓Ri.b_le, ↓Ri.b_ge, ↓Ri.b_ltS, ↓Ri.b_eq, ↓Ri.b_ne, ↓Ri.b_in, ↓Ri.b_notin, ↓Ri.b_ix, ↓Ri.ix_tup, ↓Ri.ix_lst, ↓Ri.ix_klst, ↓Ri.ix_str, ↓Ri.u_not, ↓Ri.u_neg, ↓Ri.at0, ↓Ri.at1, ↓Ri.at2, ↓Ri.at3, ↓Ri.exs_nil, ↓Ri.exs_cons, ↓Ri.exDs_nil, ↓Ri.exDs_cons, ↓Ri.exIs_nil, ↓Ri.exIs_cons, ↓Ri.x_bl, ↓Ri.l_lenS, ↓Ri.l_lenT, ↓Ri.l_lenL, ↓Ri.l_lenK, ↓Ri.l_all, ↓Ri.l_any, ↓Ri.l_sum, ↓Ri.l_min, ↓Ri.l_max, ↓Ri.l_tuple, ↓Ri.l_list, ↓Ri.l_int, ↓Ri.l_intB, ↓Ri.l_isint, ↓Ri.l_isintS, ↓Ri.l_isbool, ↓Ri.l_isboolB, ↓Ri.l_isintB, ↓Ri.l_isstr, ↓Ri.l_istuple, ↓Ri.bools_nil, ↓Ri.bools_cons, ↓Ri.bools_map, ↓Ri.ints_nil, ↓Ri.ints_cons, ↓Ri.ints_map, ↓Ri.Wa_nil, ↓Ri.Wa_cons, ↓Ri.Wa_val, ↓Ri.Wa_own, ↓Ri.Wav_val, ↓Ri.Wav_own, ↓Ri.Wav_bor, ↓Ri.Wa_slot, ↓Ri.W_callR, ↓Ri.x_call, ↓Ri.Wk_i, ↓Ri.Wn1_val, ↓Ri.Wn1_ref, ↓Ri.x_mcall, ↓Ri.x_isi, ↓Ri.x_prop, ↓Ri.Wbo_bl, ↓Ri.x_ucmp, ↓Ri.Wle_int, ↓Ri.x_ulen, ↓Ri.x_fz, ↓Ri.Wj_s, ↓Ri.Wj_0, ↓Ri.Wjd_s, ↓Ri.Wjd_0, ↓Ri.Wfi_i, ↓Ri.W_fld_ins, ↓Ri.W_fld_ref, ↓Ri.x_fld, ↓Ri.x_settle, ↓Ri.W_settle, ↓Ri.Wst_str, ↓Ri.x_mt, ↓Ri.Wml_own, ↓Ri.Wmo_l, ↓Ri.Wil_slot, ↓Ri.Wil_ref, ↓Ri.Wwr_append, ↓Ri.Wwr_extend, ↓Ri.W_wr_slot, ↓Ri.W_wr_ref, ↓Ri.x_mw, ↓Ri.Wx_s, ↓Ri.Wx_0, ↓Ri.Wwp_nil, ↓Ri.Wwp_cons, ↓Ri.Wgo_s, ↓Ri.Wgo_0, ↓Ri.Wun_nil, ↓Ri.Wun_cons, ↓Ri.Wpx_n, ↓Ri.Wpx_v, ↓Ri.Wpl_nil, ↓Ri.Wpl_cons, ↓Ri.W_compR, ↓Ri.x_comp, ↓Ri.compL_nil, ↓Ri.ifR_none, ↓Ri.ifR_some, ↓Ri.compL_cons, ↓Ri.wk_str, ↓Ri.wk_tup, ↓Ri.wk_lst, ↓Ri.wk_klst, ↓Ri.wk_r1, ↓Ri.wk_r2, ↓Ri.wk_enT, ↓Ri.wk_enL, ↓Ri.wk_zT, ↓Ri.wk_zL, ↓Ri.t_nm, ↓Ri.t_tp, ↓Ri.ts_nil, ↓Ri.ts_cons, ↓Ri.Wsb_slot, ↓Ri.Wsb_ref, ↓Ri.t_sub, ↓Ri.Wfs_s, ↓Ri.Wfs_0, ↓Ri.Wrf_r, ↓Ri.t_fld, ↓Ri.r_val, ↓Ri.r_own, ↓Ri.r_own_fld, ↓Ri.r_own_sub, ↓Ri.r_slot, ↓Ri.s_nil, ↓Ri.Wf_n, ↓Ri.Wf_r, ↓Ri.Wf_b, ↓Ri.Wf_c, ↓Ri.s_cons, ↓Ri.s_asg, ↓Ri.s_ex, ↓Ri.s_retN, ↓Ri.s_ret, ↓Ri.ret_val, ↓Ri.ret_own, ↓Ri.Wrv_val, ↓Ri.Wrv_own, ↓Ri.ret_slot, ↓Ri.s_if, ↓Ri.s_for, ↓Ri.for_nil, ↓Ri.Wfl_n, ↓Ri.Wfl_c, ↓Ri.Wfl_b, ↓Ri.Wfl_r, ↓Ri.for_cons, ↓Ri.s_while, ↓Ri.Wnm_val, ↓Ri.Wnm_own, ↓Ri.s_asg2, ↓Ri.s_pass, ↓Ri.s_brk, ↓Ri.s_cnt, ↓Ri.s_wall, ↓Ri.Wi1_i, ↓Ri.s_incfld, ↓Ri.Wre_n, ↓Ri.Wre_v, ↓Ri.Wre_o, ↓Ri.x_new, ↓Ri.x_frz, ↓Ri.Wno_n, ↓Ri.deq_ii, ↓Ri.deq_ss, ↓Ri.deq_nn, ↓Ri.deq_bb, ↓Ri.deq_ns, ↓Ri.deq_sn, ↓Ri.deq_tt, ↓Ri.deq_ll, ↓Ri.s_raise, ↓Ri.s_try, ↓Ri.Wct_nil, ↓Ri.Wct_cons, ↓Ri.W_catch, ↓Ri.compXL_nil, ↓Ri.compXL_cons, ↓Ri.W_compXR, ↓Ri.x_compX, true_and, and_true, List.length_cons, List.length_nil, ↓w_taken2 has, el, hj, ↓Ri.at_of hx rfl, s00, s01, List.nil_append, List.cons_append, ↓w_e0 hp, okT2, eq2, lm, lm0, lm1]
    exact ⟨by decide, nx⟩
  · simp -implicitDefEqProofs (disch := (first | omega | (simp only [List.length_cons, List.length_nil, List.length_map, List.length_append]; done) | (simp only [List.length_cons, List.length_nil, List.length_map, List.length_append]; omega))) only [↓Ri.Ws_m, ↓Ri.W_ok, ↓Ri.W_opt, ↓Ri.Wo_some, ↓Ri.W_none, ↓Ri.Wo_none, ↓Ri.Wi_t, ↓Ri.Wi_f, ↓Ri.Wi_pos, ↓Ri.Wi_neg, ↓Ri.Wi_not, ↓Ri.Wi_and, ↓Ri.Wi_or, ↓Ri.Wg_s, ↓Ri.Wg_0, ↓Ri.Wt_s, ↓Ri.Wt_0, ↓Ri.Wv_val, ↓Ri.Wv_own, ↓Ri.Wv_bor, ↓Ri.Wh_s, ↓Ri.Wh_0, ↓Ri.Wol_l, ↓Ri.Wol_i, ↓Ri.Wl_int, ↓Ri.Wl_bl, ↓Ri.Wl_non, ↓Ri.Wl_str, ↓Ri.Wl_tup, ↓Ri.Wl_lst, ↓Ri.Wl_klst, ↓Ri.Wl_ins, ↓Ri.Wl_ref0, ↓Ri.Wl_own, ↓Ri.Wlv_own, ↓Ri.Wlv_bor, ↓Ri.Wl_slot, ↓Ri.Wls_nil, ↓Ri.Wls_cons, ↓Ri.Wfv_val, ↓Ri.Wfv_own, ↓Ri.W_frz_val, ↓Ri.W_frz_own, ↓Ri.W_frz_slot, ↓Ri.W_it_val, ↓Ri.W_it_own, ↓Ri.Wiv_val, ↓Ri.Wiv_bor, ↓Ri.Wiv_own, ↓Ri.W_it_slot, ↓Ri.x_slot, ↓Ri.x_cst, ↓Ri.x_bin, ↓Ri.x_un, ↓Ri.Wb_bl, ↓Ri.x_and, ↓Ri.x_or, ↓Ri.x_ite, ↓Ri.W_testR, ↓Ri.x_chain, ↓Ri.W_chainR, ↓Ri.exStar_nil, ↓Ri.exStar_f, ↓Ri.exStar_t, ↓Ri.Wit_tup, ↓Ri.Wit_lst, ↓Ri.Wit_klst, ↓Ri.x_tup, ↓Ri.x_lst, ↓Ri.optE_none, ↓Ri.optE_some, ↓Ri.Wn_int, ↓Ri.x_slice, ↓Ri.W_sliceR, ↓Ri.Wo_sliceT, ↓Ri.Wo_sliceL, ↓Ri.W_binR, ↓Ri.W_unR, ↓Ri.b_add, ↓Ri.b_addS, ↓Ri.b_addL, ↓Ri.b_addT, ↓Ri.b_sub, ↓Ri.b_mul, ↓Ri.b_mulL, ↓Ri.b_fdiv, ↓Ri.b_mod, ↓Ri.b_pow, ↓Ri.b_lt, ↓Ri.b_gt, ↓Ri.b_le, ↓Ri.b_ge, ↓Ri.b_ltS, ↓Ri.b_eq, ↓Ri.b_ne, ↓Ri.b_in, ↓Ri.b_notin, ↓Ri.b_ix, ↓Ri.ix_tup, ↓Ri.ix_lst, ↓Ri.ix_klst, ↓Ri.ix_str, ↓Ri.u_not, ↓Ri.u_neg, ↓Ri.at0, ↓Ri.at1, ↓Ri.at2, ↓Ri.at3, ↓Ri.exs_nil, ↓Ri.exs_cons, ↓Ri.exDs_nil, ↓Ri.exDs_cons, ↓Ri.exIs_nil, ↓Ri.exIs_cons, ↓Ri.x_bl, ↓Ri.l_lenS, ↓Ri.l_lenT, ↓Ri.l_lenL, ↓Ri.l_lenK, ↓Ri.l_all, ↓Ri.l_any, ↓Ri.l_sum, ↓Ri.l_min, ↓Ri.l_max, ↓Ri.l_tuple, ↓Ri.l_list, ↓Ri.l_int, ↓Ri.l_intB, ↓Ri.l_isint, ↓Ri.l_isintS, ↓Ri.l_isbool, ↓Ri.l_isboolB, ↓Ri.l_isintB, ↓Ri.l_isstr, ↓Ri.l_istuple, ↓Ri.bools_nil, ↓Ri.bools_cons, ↓Ri.bools_map, ↓Ri.ints_nil, ↓Ri.ints_cons, ↓Ri.ints_map, ↓Ri.Wa_nil, ↓Ri.Wa_cons, ↓Ri.Wa_val, ↓Ri.Wa_own, ↓Ri.Wav_val, ↓Ri.Wav_own, ↓Ri.Wav_bor, ↓Ri.Wa_slot, ↓Ri.W_callR, ↓Ri.x_call, ↓Ri.Wk_i, ↓Ri.Wn1_val, ↓Ri.Wn1_ref, ↓Ri.x_mcall, ↓Ri.x_isi, ↓Ri.x_prop, ↓Ri.Wbo_bl, ↓Ri.x_ucmp, ↓Ri.Wle_int, ↓Ri.x_ulen, ↓Ri.x_fz, ↓Ri.Wj_s, ↓Ri.Wj_0, ↓Ri.Wjd_s, ↓Ri.Wjd_0, ↓Ri.Wfi_i, ↓Ri.W_fld_ins, ↓Ri.W_fld_ref, ↓Ri.x_fld, ↓Ri.x_settle, ↓Ri.W_settle, ↓Ri.Wst_str, ↓Ri.x_mt, ↓Ri.Wml_own, ↓Ri.Wmo_l, ↓Ri.Wil_slot, ↓Ri.Wil_ref, ↓Ri.Wwr_append, ↓Ri.Wwr_extend, ↓Ri.W_wr_slot, ↓Ri.W_wr_ref, ↓Ri.x_mw, ↓Ri.Wx_s, ↓Ri.Wx_0, ↓Ri.Wwp_nil, ↓Ri.Wwp_cons, ↓Ri.Wgo_s, ↓Ri.Wgo_0, ↓Ri.Wun_nil, ↓Ri.Wun_cons, ↓Ri.Wpx_n, ↓Ri.Wpx_v, ↓Ri.Wpl_nil, ↓Ri.Wpl_cons, ↓Ri.W_compR, ↓Ri.x_comp, ↓Ri.compL_nil, ↓Ri.ifR_none, ↓Ri.ifR_some, ↓Ri.compL_cons, ↓Ri.wk_str, ↓Ri.wk_tup, ↓Ri.wk_lst, ↓Ri.wk_klst, ↓Ri.wk_r1, ↓Ri.wk_r2, ↓Ri.wk_enT, ↓Ri.wk_enL, ↓Ri.wk_zT, ↓Ri.wk_zL, ↓Ri.t_nm, ↓Ri.t_tp, ↓Ri.ts_nil, ↓Ri.ts_cons, ↓Ri.Wsb_slot, ↓Ri.Wsb_ref, ↓Ri.t_sub, ↓Ri.Wfs_s, ↓Ri.Wfs_0, ↓Ri.Wrf_r, ↓Ri.t_fld, ↓Ri.r_val, ↓Ri.r_own, ↓Ri.r_own_fld, ↓Ri.r_own_sub, ↓Ri.r_slot, ↓Ri.s_nil, ↓Ri.Wf_n, ↓Ri.Wf_r, ↓Ri.Wf_b, ↓Ri.Wf_c, ↓Ri.s_cons, ↓Ri.s_asg, ↓Ri.s_ex, ↓Ri.s_retN, ↓Ri.s_ret, ↓Ri.ret_val, ↓Ri.ret_own, ↓Ri.Wrv_val, ↓Ri.Wrv_own, ↓Ri.ret_slot, ↓Ri.s_if, ↓Ri.s_for, ↓Ri.for_nil, ↓Ri.Wfl_n, ↓Ri.Wfl_c, ↓Ri.Wfl_b, ↓Ri.Wfl_r, ↓Ri.for_cons, ↓Ri.s_while, ↓Ri.Wnm_val, ↓Ri.Wnm_own, ↓Ri.s_asg2, ↓Ri.s_pass, ↓Ri.s_brk, ↓Ri.s_cnt, ↓Ri.s_wall, ↓Ri.Wi1_i, ↓Ri.s_incfld, ↓Ri.Wre_n, ↓Ri.Wre_v, ↓Ri.Wre_o, ↓Ri.x_new, ↓Ri.x_frz, ↓Ri.Wno_n, ↓Ri.deq_ii, ↓Ri.deq_ss, ↓Ri.deq_nn, ↓Ri.deq_bb, ↓Ri.deq_ns, ↓Ri.deq_sn, ↓Ri.deq_tt, ↓Ri.deq_ll, ↓Ri.s_raise, ↓Ri.s_try, ↓Ri.Wct_nil, ↓Ri.Wct_cons, ↓Ri.W_catch, ↓Ri.compXL_nil, ↓Ri.compXL_cons, ↓Ri.W_compXR, ↓Ri.x_compX, true_and, and_true, List.length_cons, List.length_nil, ↓w_taken2 has, el, hj, ↓Ri.at_of hx rfl, s10, s11, List.nil_append, List.cons_append, ↓w_e1 hp, okT2, eq2, lm, lm0, lm1]
    exact ⟨by decide, by decide, nx⟩
theorem turns {n : Nat} {v0 : Option SV} {Q : Fl → S → Prop} {E : Xc → S → Prop} : ∀ (k : Nat) (lo : Int) (r : Rw) (v5 v6 v7 v8 v9 : Option SV), (∀ r v5 v6 v7 v8 v9, Q .next ⟨[v0, some (.val (.ref 2)), some (.own (.lst G3)), some (.own (.lst EL)), some (.own (.lst LL)), v5, v6, v7, v8, v9], hR ns r⟩) →
    W (forL (run tb (callD tb 19) (n + 39)) (.nm 5) (execs (run tb (callD tb 19) (n + 39)) L45_law_L0) (rangeD lo k) ⟨[v0, some (.val (.ref 2)), some (.own (.lst G3)), some (.own (.lst EL)), some (.own (.lst LL)), v5, v6, v7, v8, v9], hR ns r⟩) Q E
  | 0, lo, r, v5, v6, v7, v8, v9, h => by
    simp -implicitDefEqProofs (disch := (first | omega | (simp only [List.length_cons, List.length_nil, List.length_map, List.length_append]; done) | (simp only [List.length_cons, List.length_nil, List.length_map, List.length_append]; omega))) only [↓Ri.Ws_m, ↓Ri.W_ok, ↓Ri.W_opt, ↓Ri.Wo_some, ↓Ri.W_none, ↓Ri.Wo_none, ↓Ri.Wi_t, ↓Ri.Wi_f, ↓Ri.Wi_pos, ↓Ri.Wi_neg, ↓Ri.Wi_not, ↓Ri.Wi_and, ↓Ri.Wi_or, ↓Ri.Wg_s, ↓Ri.Wg_0, ↓Ri.Wt_s, ↓Ri.Wt_0, ↓Ri.Wv_val, ↓Ri.Wv_own, ↓Ri.Wv_bor, ↓Ri.Wh_s, ↓Ri.Wh_0, ↓Ri.Wol_l, ↓Ri.Wol_i, ↓Ri.Wl_int, ↓Ri.Wl_bl, ↓Ri.Wl_non, ↓Ri.Wl_str, ↓Ri.Wl_tup, ↓Ri.Wl_lst, ↓Ri.Wl_klst, ↓Ri.Wl_ins, ↓Ri.Wl_ref0, ↓Ri.Wl_own, ↓Ri.Wlv_own, ↓Ri.Wlv_bor, ↓Ri.Wl_slot, ↓Ri.Wls_nil, ↓Ri.Wls_cons, ↓Ri.Wfv_val, ↓Ri.Wfv_own, ↓Ri.W_frz_val, ↓Ri.W_frz_own, ↓Ri.W_frz_slot, ↓Ri.W_it_val, ↓Ri.W_it_own, ↓Ri.Wiv_val, ↓Ri.Wiv_bor, ↓Ri.Wiv_own, ↓Ri.W_it_slot, ↓Ri.x_slot, ↓Ri.x_cst, ↓Ri.x_bin, ↓Ri.x_un, ↓Ri.Wb_bl, ↓Ri.x_and, ↓Ri.x_or, ↓Ri.x_ite, ↓Ri.W_testR, ↓Ri.x_chain, ↓Ri.W_chainR, ↓Ri.exStar_nil, ↓Ri.exStar_f, ↓Ri.exStar_t, ↓Ri.Wit_tup, ↓Ri.Wit_lst, ↓Ri.Wit_klst, ↓Ri.x_tup, ↓Ri.x_lst, ↓Ri.optE_none, ↓Ri.optE_some, ↓Ri.Wn_int, ↓Ri.x_slice, ↓Ri.W_sliceR, ↓Ri.Wo_sliceT, ↓Ri.Wo_sliceL, ↓Ri.W_binR, ↓Ri.W_unR, ↓Ri.b_add, ↓Ri.b_addS, ↓Ri.b_addL, ↓Ri.b_addT, ↓Ri.b_sub, ↓Ri.b_mul, ↓Ri.b_mulL, ↓Ri.b_fdiv, ↓Ri.b_mod, ↓Ri.b_pow, ↓Ri.b_lt, ↓Ri.b_gt, ↓Ri.b_le, ↓Ri.b_ge, ↓Ri.b_ltS, ↓Ri.b_eq, ↓Ri.b_ne, ↓Ri.b_in, ↓Ri.b_notin, ↓Ri.b_ix, ↓Ri.ix_tup, ↓Ri.ix_lst, ↓Ri.ix_klst, ↓Ri.ix_str, ↓Ri.u_not, ↓Ri.u_neg, ↓Ri.at0, ↓Ri.at1, ↓Ri.at2, ↓Ri.at3, ↓Ri.exs_nil, ↓Ri.exs_cons, ↓Ri.exDs_nil, ↓Ri.exDs_cons, ↓Ri.exIs_nil, ↓Ri.exIs_cons, ↓Ri.x_bl, ↓Ri.l_lenS, ↓Ri.l_lenT, ↓Ri.l_lenL, ↓Ri.l_lenK, ↓Ri.l_all, ↓Ri.l_any, ↓Ri.l_sum, ↓Ri.l_min, ↓Ri.l_max, ↓Ri.l_tuple, ↓Ri.l_list, ↓Ri.l_int, ↓Ri.l_intB, ↓Ri.l_isint, ↓Ri.l_isintS, ↓Ri.l_isbool, ↓Ri.l_isboolB, ↓Ri.l_isintB, ↓Ri.l_isstr, ↓Ri.l_istuple, ↓Ri.bools_nil, ↓Ri.bools_cons, ↓Ri.bools_map, ↓Ri.ints_nil, ↓Ri.ints_cons, ↓Ri.ints_map, ↓Ri.Wa_nil, ↓Ri.Wa_cons, ↓Ri.Wa_val, ↓Ri.Wa_own, ↓Ri.Wav_val, ↓Ri.Wav_own, ↓Ri.Wav_bor, ↓Ri.Wa_slot, ↓Ri.W_callR, ↓Ri.x_call, ↓Ri.Wk_i, ↓Ri.Wn1_val, ↓Ri.Wn1_ref, ↓Ri.x_mcall, ↓Ri.x_isi, ↓Ri.x_prop, ↓Ri.Wbo_bl, ↓Ri.x_ucmp, ↓Ri.Wle_int, ↓Ri.x_ulen, ↓Ri.x_fz, ↓Ri.Wj_s, ↓Ri.Wj_0, ↓Ri.Wjd_s, ↓Ri.Wjd_0, ↓Ri.Wfi_i, ↓Ri.W_fld_ins, ↓Ri.W_fld_ref, ↓Ri.x_fld, ↓Ri.x_settle, ↓Ri.W_settle, ↓Ri.Wst_str, ↓Ri.x_mt, ↓Ri.Wml_own, ↓Ri.Wmo_l, ↓Ri.Wil_slot, ↓Ri.Wil_ref, ↓Ri.Wwr_append, ↓Ri.Wwr_extend, ↓Ri.W_wr_slot, ↓Ri.W_wr_ref, ↓Ri.x_mw, ↓Ri.Wx_s, ↓Ri.Wx_0, ↓Ri.Wwp_nil, ↓Ri.Wwp_cons, ↓Ri.Wgo_s, ↓Ri.Wgo_0, ↓Ri.Wun_nil, ↓Ri.Wun_cons, ↓Ri.Wpx_n, ↓Ri.Wpx_v, ↓Ri.Wpl_nil, ↓Ri.Wpl_cons, ↓Ri.W_compR, ↓Ri.x_comp, ↓Ri.compL_nil, ↓Ri.ifR_none, ↓Ri.ifR_some, ↓Ri.compL_cons, ↓Ri.wk_str, ↓Ri.wk_tup, ↓Ri.wk_lst, ↓Ri.wk_klst, ↓Ri.wk_r1, ↓Ri.wk_r2, ↓Ri.wk_enT, ↓Ri.wk_enL, ↓Ri.wk_zT, ↓Ri.wk_zL, ↓Ri.t_nm, ↓Ri.t_tp, ↓Ri.ts_nil, ↓Ri.ts_cons, ↓Ri.Wsb_slot, ↓Ri.Wsb_ref, ↓Ri.t_sub, ↓Ri.Wfs_s, ↓Ri.Wfs_0, ↓Ri.Wrf_r, ↓Ri.t_fld, ↓Ri.r_val, ↓Ri.r_own, ↓Ri.r_own_fld, ↓Ri.r_own_sub, ↓Ri.r_slot, ↓Ri.s_nil, ↓Ri.Wf_n, ↓Ri.Wf_r, ↓Ri.Wf_b, ↓Ri.Wf_c, ↓Ri.s_cons, ↓Ri.s_asg, ↓Ri.s_ex, ↓Ri.s_retN, ↓Ri.s_ret, ↓Ri.ret_val, ↓Ri.ret_own, ↓Ri.Wrv_val, ↓Ri.Wrv_own, ↓Ri.ret_slot, ↓Ri.s_if, ↓Ri.s_for, ↓Ri.for_nil, ↓Ri.Wfl_n, ↓Ri.Wfl_c, ↓Ri.Wfl_b, ↓Ri.Wfl_r, ↓Ri.for_cons, ↓Ri.s_while, ↓Ri.Wnm_val, ↓Ri.Wnm_own, ↓Ri.s_asg2, ↓Ri.s_pass, ↓Ri.s_brk, ↓Ri.s_cnt, ↓Ri.s_wall, ↓Ri.Wi1_i, ↓Ri.s_incfld, ↓Ri.Wre_n, ↓Ri.Wre_v, ↓Ri.Wre_o, ↓Ri.x_new, ↓Ri.x_frz, ↓Ri.Wno_n, ↓Ri.deq_ii, ↓Ri.deq_ss, ↓Ri.deq_nn, ↓Ri.deq_bb, ↓Ri.deq_ns, ↓Ri.deq_sn, ↓Ri.deq_tt, ↓Ri.deq_ll, ↓Ri.s_raise, ↓Ri.s_try, ↓Ri.Wct_nil, ↓Ri.Wct_cons, ↓Ri.W_catch, ↓Ri.compXL_nil, ↓Ri.compXL_cons, ↓Ri.W_compXR, ↓Ri.x_compX, true_and, and_true, List.length_cons, List.length_nil, rangeD]
    exact h _ _ _ _ _ _
  | k + 1, lo, r, v5, v6, v7, v8, v9, h => by
    rw [rangeD]
    simp -implicitDefEqProofs (disch := (first | omega | (simp only [List.length_cons, List.length_nil, List.length_map, List.length_append]; done) | (simp only [List.length_cons, List.length_nil, List.length_map, List.length_append]; omega))) only [↓Ri.Ws_m, ↓Ri.W_ok, ↓Ri.W_opt, ↓Ri.Wo_some, ↓Ri.W_none, ↓Ri.Wo_none, ↓Ri.Wi_t, ↓Ri.Wi_f, ↓Ri.Wi_pos, ↓Ri.Wi_neg, ↓Ri.Wi_not, ↓Ri.Wi_and, ↓Ri.Wi_or, ↓Ri.Wg_s, ↓Ri.Wg_0, ↓Ri.Wt_s, ↓Ri.Wt_0, ↓Ri.Wv_val, ↓Ri.Wv_own, ↓Ri.Wv_bor, ↓Ri.Wh_s, ↓Ri.Wh_0, ↓Ri.Wol_l, ↓Ri.Wol_i, ↓Ri.Wl_int, ↓Ri.Wl_bl, ↓Ri.Wl_non, ↓Ri.Wl_str, ↓Ri.Wl_tup, ↓Ri.Wl_lst, ↓Ri.Wl_klst, ↓Ri.Wl_ins, ↓Ri.Wl_ref0, ↓Ri.Wl_own, ↓Ri.Wlv_own, ↓Ri.Wlv_bor, ↓Ri.Wl_slot, ↓Ri.Wls_nil, ↓Ri.Wls_cons, ↓Ri.Wfv_val, ↓Ri.Wfv_own, ↓Ri.W_frz_val, ↓Ri.W_frz_own, ↓Ri.W_frz_slot, ↓Ri.W_it_val, ↓Ri.W_it_own, ↓Ri.Wiv_val, ↓Ri.Wiv_bor, ↓Ri.Wiv_own, ↓Ri.W_it_slot, ↓Ri.x_slot, ↓Ri.x_cst, ↓Ri.x_bin, ↓Ri.x_un, ↓Ri.Wb_bl, ↓Ri.x_and, ↓Ri.x_or, ↓Ri.x_ite, ↓Ri.W_testR, ↓Ri.x_chain, ↓Ri.W_chainR, ↓Ri.exStar_nil, ↓Ri.exStar_f, ↓Ri.exStar_t, ↓Ri.Wit_tup, ↓Ri.Wit_lst, ↓Ri.Wit_klst, ↓Ri.x_tup, ↓Ri.x_lst, ↓Ri.optE_none, ↓Ri.optE_some, ↓Ri.Wn_int, ↓Ri.x_slice, ↓Ri.W_sliceR, ↓Ri.Wo_sliceT, ↓Ri.Wo_sliceL, ↓Ri.W_binR, ↓Ri.W_unR, ↓Ri.b_add, ↓Ri.b_addS, ↓Ri.b_addL, ↓Ri.b_addT, ↓Ri.b_sub, ↓Ri.b_mul, ↓Ri.b_mulL, ↓Ri.b_fdiv, ↓Ri.b_mod, ↓Ri.b_pow, ↓Ri.b_lt, ↓Ri.b_gt, ↓Ri.b_le, ↓Ri.b_ge, ↓Ri.b_ltS, ↓Ri.b_eq, ↓Ri.b_ne, ↓Ri.b_in, ↓Ri.b_notin, ↓Ri.b_ix, ↓Ri.ix_tup, ↓Ri.ix_lst, ↓Ri.ix_klst, ↓Ri.ix_str, ↓Ri.u_not, ↓Ri.u_neg, ↓Ri.at0, ↓Ri.at1, ↓Ri.at2, ↓Ri.at3, ↓Ri.exs_nil, ↓Ri.exs_cons, ↓Ri.exDs_nil, ↓Ri.exDs_cons, ↓Ri.exIs_nil, ↓Ri.exIs_cons, ↓Ri.x_bl, ↓Ri.l_lenS, ↓Ri.l_lenT, ↓Ri.l_lenL, ↓Ri.l_lenK, ↓Ri.l_all, ↓Ri.l_any, ↓Ri.l_sum, ↓Ri.l_min, ↓Ri.l_max, ↓Ri.l_tuple, ↓Ri.l_list, ↓Ri.l_int, ↓Ri.l_intB, ↓Ri.l_isint, ↓Ri.l_isintS, ↓Ri.l_isbool, ↓Ri.l_isboolB, ↓Ri.l_isintB, ↓Ri.l_isstr, ↓Ri.l_istuple, ↓Ri.bools_nil, ↓Ri.bools_cons, ↓Ri.bools_map, ↓Ri.ints_nil, ↓Ri.ints_cons, ↓Ri.ints_map, ↓Ri.Wa_nil, ↓Ri.Wa_cons, ↓Ri.Wa_val, ↓Ri.Wa_own, ↓Ri.Wav_val, ↓Ri.Wav_own, ↓Ri.Wav_bor, ↓Ri.Wa_slot, ↓Ri.W_callR, ↓Ri.x_call, ↓Ri.Wk_i, ↓Ri.Wn1_val, ↓Ri.Wn1_ref, ↓Ri.x_mcall, ↓Ri.x_isi, ↓Ri.x_prop, ↓Ri.Wbo_bl, ↓Ri.x_ucmp, ↓Ri.Wle_int, ↓Ri.x_ulen, ↓Ri.x_fz, ↓Ri.Wj_s, ↓Ri.Wj_0, ↓Ri.Wjd_s, ↓Ri.Wjd_0, ↓Ri.Wfi_i, ↓Ri.W_fld_ins, ↓Ri.W_fld_ref, ↓Ri.x_fld, ↓Ri.x_settle, ↓Ri.W_settle, ↓Ri.Wst_str, ↓Ri.x_mt, ↓Ri.Wml_own, ↓Ri.Wmo_l, ↓Ri.Wil_slot, ↓Ri.Wil_ref, ↓Ri.Wwr_append, ↓Ri.Wwr_extend, ↓Ri.W_wr_slot, ↓Ri.W_wr_ref, ↓Ri.x_mw, ↓Ri.Wx_s, ↓Ri.Wx_0, ↓Ri.Wwp_nil, ↓Ri.Wwp_cons, ↓Ri.Wgo_s, ↓Ri.Wgo_0, ↓Ri.Wun_nil, ↓Ri.Wun_cons, ↓Ri.Wpx_n, ↓Ri.Wpx_v, ↓Ri.Wpl_nil, ↓Ri.Wpl_cons, ↓Ri.W_compR, ↓Ri.x_comp, ↓Ri.compL_nil, ↓Ri.ifR_none, ↓Ri.ifR_some, ↓Ri.compL_cons, ↓Ri.wk_str, ↓Ri.wk_tup, ↓Ri.wk_lst, ↓Ri.wk_klst, ↓Ri.wk_r1, ↓Ri.wk_r2, ↓Ri.wk_enT, ↓Ri.wk_enL, ↓Ri.wk_zT, ↓Ri.wk_zL, ↓Ri.t_nm, ↓Ri.t_tp, ↓Ri.ts_nil, ↓Ri.ts_cons, ↓Ri.Wsb_slot, ↓Ri.Wsb_ref, ↓Ri.t_sub, ↓Ri.Wfs_s, ↓Ri.Wfs_0, ↓Ri.Wrf_r, ↓Ri.t_fld, ↓Ri.r_val, ↓Ri.r_own, ↓Ri.r_own_fld, ↓Ri.r_own_sub, ↓Ri.r_slot, ↓Ri.s_nil, ↓Ri.Wf_n, ↓Ri.Wf_r, ↓Ri.Wf_b, ↓Ri.Wf_c, ↓Ri.s_cons, ↓Ri.s_asg, ↓Ri.s_ex, ↓Ri.s_retN, ↓Ri.s_ret, ↓Ri.ret_val, ↓Ri.ret_own, ↓Ri.Wrv_val, ↓Ri.Wrv_own, ↓Ri.ret_slot, ↓Ri.s_if, ↓Ri.s_for, ↓Ri.for_nil, ↓Ri.Wfl_n, ↓Ri.Wfl_c, ↓Ri.Wfl_b, ↓Ri.Wfl_r, ↓Ri.for_cons, ↓Ri.s_while, ↓Ri.Wnm_val, ↓Ri.Wnm_own, ↓Ri.s_asg2, ↓Ri.s_pass, ↓Ri.s_brk, ↓Ri.s_cnt, ↓Ri.s_wall, ↓Ri.Wi1_i, ↓Ri.s_incfld, ↓Ri.Wre_n, ↓Ri.Wre_v, ↓Ri.Wre_o, ↓Ri.x_new, ↓Ri.x_frz, ↓Ri.Wno_n, ↓Ri.deq_ii, ↓Ri.deq_ss, ↓Ri.deq_nn, ↓Ri.deq_bb, ↓Ri.deq_ns, ↓Ri.deq_sn, ↓Ri.deq_tt, ↓Ri.deq_ll, ↓Ri.s_raise, ↓Ri.s_try, ↓Ri.Wct_nil, ↓Ri.Wct_cons, ↓Ri.W_catch, ↓Ri.compXL_nil, ↓Ri.compXL_cons, ↓Ri.W_compXR, ↓Ri.x_compX, true_and, and_true, List.length_cons, List.length_nil]
    refine turn fun r v6 v7 v8 v9 => ?_
    simp -implicitDefEqProofs (disch := (first | omega | (simp only [List.length_cons, List.length_nil, List.length_map, List.length_append]; done) | (simp only [List.length_cons, List.length_nil, List.length_map, List.length_append]; omega))) only [↓Ri.Ws_m, ↓Ri.W_ok, ↓Ri.W_opt, ↓Ri.Wo_some, ↓Ri.W_none, ↓Ri.Wo_none, ↓Ri.Wi_t, ↓Ri.Wi_f, ↓Ri.Wi_pos, ↓Ri.Wi_neg, ↓Ri.Wi_not, ↓Ri.Wi_and, ↓Ri.Wi_or, ↓Ri.Wg_s, ↓Ri.Wg_0, ↓Ri.Wt_s, ↓Ri.Wt_0, ↓Ri.Wv_val, ↓Ri.Wv_own, ↓Ri.Wv_bor, ↓Ri.Wh_s, ↓Ri.Wh_0, ↓Ri.Wol_l, ↓Ri.Wol_i, ↓Ri.Wl_int, ↓Ri.Wl_bl, ↓Ri.Wl_non, ↓Ri.Wl_str, ↓Ri.Wl_tup, ↓Ri.Wl_lst, ↓Ri.Wl_klst, ↓Ri.Wl_ins, ↓Ri.Wl_ref0, ↓Ri.Wl_own, ↓Ri.Wlv_own, ↓Ri.Wlv_bor, ↓Ri.Wl_slot, ↓Ri.Wls_nil, ↓Ri.Wls_cons, ↓Ri.Wfv_val, ↓Ri.Wfv_own, ↓Ri.W_frz_val, ↓Ri.W_frz_own, ↓Ri.W_frz_slot, ↓Ri.W_it_val, ↓Ri.W_it_own, ↓Ri.Wiv_val, ↓Ri.Wiv_bor, ↓Ri.Wiv_own, ↓Ri.W_it_slot, ↓Ri.x_slot, ↓Ri.x_cst, ↓Ri.x_bin, ↓Ri.x_un, ↓Ri.Wb_bl, ↓Ri.x_and, ↓Ri.x_or, ↓Ri.x_ite, ↓Ri.W_testR, ↓Ri.x_chain, ↓Ri.W_chainR, ↓Ri.exStar_nil, ↓Ri.exStar_f, ↓Ri.exStar_t, ↓Ri.Wit_tup, ↓Ri.Wit_lst, ↓Ri.Wit_klst, ↓Ri.x_tup, ↓Ri.x_lst, ↓Ri.optE_none, ↓Ri.optE_some, ↓Ri.Wn_int, ↓Ri.x_slice, ↓Ri.W_sliceR, ↓Ri.Wo_sliceT, ↓Ri.Wo_sliceL, ↓Ri.W_binR, ↓Ri.W_unR, ↓Ri.b_add, ↓Ri.b_addS, ↓Ri.b_addL, ↓Ri.b_addT, ↓Ri.b_sub, ↓Ri.b_mul, ↓Ri.b_mulL, ↓Ri.b_fdiv, ↓Ri.b_mod, ↓Ri.b_pow, ↓Ri.b_lt, ↓Ri.b_gt, ↓Ri.b_le, ↓Ri.b_ge, ↓Ri.b_ltS, ↓Ri.b_eq, ↓Ri.b_ne, ↓Ri.b_in, ↓Ri.b_notin, ↓Ri.b_ix, ↓Ri.ix_tup, ↓Ri.ix_lst, ↓Ri.ix_klst, ↓Ri.ix_str, ↓Ri.u_not, ↓Ri.u_neg, ↓Ri.at0, ↓Ri.at1, ↓Ri.at2, ↓Ri.at3, ↓Ri.exs_nil, ↓Ri.exs_cons, ↓Ri.exDs_nil, ↓Ri.exDs_cons, ↓Ri.exIs_nil, ↓Ri.exIs_cons, ↓Ri.x_bl, ↓Ri.l_lenS, ↓Ri.l_lenT, ↓Ri.l_lenL, ↓Ri.l_lenK, ↓Ri.l_all, ↓Ri.l_any, ↓Ri.l_sum, ↓Ri.l_min, ↓Ri.l_max, ↓Ri.l_tuple, ↓Ri.l_list, ↓Ri.l_int, ↓Ri.l_intB, ↓Ri.l_isint, ↓Ri.l_isintS, ↓Ri.l_isbool, ↓Ri.l_isboolB, ↓Ri.l_isintB, ↓Ri.l_isstr, ↓Ri.l_istuple, ↓Ri.bools_nil, ↓Ri.bools_cons, ↓Ri.bools_map, ↓Ri.ints_nil, ↓Ri.ints_cons, ↓Ri.ints_map, ↓Ri.Wa_nil, ↓Ri.Wa_cons, ↓Ri.Wa_val, ↓Ri.Wa_own, ↓Ri.Wav_val, ↓Ri.Wav_own, ↓Ri.Wav_bor, ↓Ri.Wa_slot, ↓Ri.W_callR, ↓Ri.x_call, ↓Ri.Wk_i, ↓Ri.Wn1_val, ↓Ri.Wn1_ref, ↓Ri.x_mcall, ↓Ri.x_isi, ↓Ri.x_prop, ↓Ri.Wbo_bl, ↓Ri.x_ucmp, ↓Ri.Wle_int, ↓Ri.x_ulen, ↓Ri.x_fz, ↓Ri.Wj_s, ↓Ri.Wj_0, ↓Ri.Wjd_s, ↓Ri.Wjd_0, ↓Ri.Wfi_i, ↓Ri.W_fld_ins, ↓Ri.W_fld_ref, ↓Ri.x_fld, ↓Ri.x_settle, ↓Ri.W_settle, ↓Ri.Wst_str, ↓Ri.x_mt, ↓Ri.Wml_own, ↓Ri.Wmo_l, ↓Ri.Wil_slot, ↓Ri.Wil_ref, ↓Ri.Wwr_append, ↓Ri.Wwr_extend, ↓Ri.W_wr_slot, ↓Ri.W_wr_ref, ↓Ri.x_mw, ↓Ri.Wx_s, ↓Ri.Wx_0, ↓Ri.Wwp_nil, ↓Ri.Wwp_cons, ↓Ri.Wgo_s, ↓Ri.Wgo_0, ↓Ri.Wun_nil, ↓Ri.Wun_cons, ↓Ri.Wpx_n, ↓Ri.Wpx_v, ↓Ri.Wpl_nil, ↓Ri.Wpl_cons, ↓Ri.W_compR, ↓Ri.x_comp, ↓Ri.compL_nil, ↓Ri.ifR_none, ↓Ri.ifR_some, ↓Ri.compL_cons, ↓Ri.wk_str, ↓Ri.wk_tup, ↓Ri.wk_lst, ↓Ri.wk_klst, ↓Ri.wk_r1, ↓Ri.wk_r2, ↓Ri.wk_enT, ↓Ri.wk_enL, ↓Ri.wk_zT, ↓Ri.wk_zL, ↓Ri.t_nm, ↓Ri.t_tp, ↓Ri.ts_nil, ↓Ri.ts_cons, ↓Ri.Wsb_slot, ↓Ri.Wsb_ref, ↓Ri.t_sub, ↓Ri.Wfs_s, ↓Ri.Wfs_0, ↓Ri.Wrf_r, ↓Ri.t_fld, ↓Ri.r_val, ↓Ri.r_own, ↓Ri.r_own_fld, ↓Ri.r_own_sub, ↓Ri.r_slot, ↓Ri.s_nil, ↓Ri.Wf_n, ↓Ri.Wf_r, ↓Ri.Wf_b, ↓Ri.Wf_c, ↓Ri.s_cons, ↓Ri.s_asg, ↓Ri.s_ex, ↓Ri.s_retN, ↓Ri.s_ret, ↓Ri.ret_val, ↓Ri.ret_own, ↓Ri.Wrv_val, ↓Ri.Wrv_own, ↓Ri.ret_slot, ↓Ri.s_if, ↓Ri.s_for, ↓Ri.for_nil, ↓Ri.Wfl_n, ↓Ri.Wfl_c, ↓Ri.Wfl_b, ↓Ri.Wfl_r, ↓Ri.for_cons, ↓Ri.s_while, ↓Ri.Wnm_val, ↓Ri.Wnm_own, ↓Ri.s_asg2, ↓Ri.s_pass, ↓Ri.s_brk, ↓Ri.s_cnt, ↓Ri.s_wall, ↓Ri.Wi1_i, ↓Ri.s_incfld, ↓Ri.Wre_n, ↓Ri.Wre_v, ↓Ri.Wre_o, ↓Ri.x_new, ↓Ri.x_frz, ↓Ri.Wno_n, ↓Ri.deq_ii, ↓Ri.deq_ss, ↓Ri.deq_nn, ↓Ri.deq_bb, ↓Ri.deq_ns, ↓Ri.deq_sn, ↓Ri.deq_tt, ↓Ri.deq_ll, ↓Ri.s_raise, ↓Ri.s_try, ↓Ri.Wct_nil, ↓Ri.Wct_cons, ↓Ri.W_catch, ↓Ri.compXL_nil, ↓Ri.compXL_cons, ↓Ri.W_compXR, ↓Ri.x_compX, true_and, and_true, List.length_cons, List.length_nil]
    exact turns k (lo + 1) r _ _ _ _ _ h
@[irreducible] def rL1 : List Stm := L45_law.drop 3
@[irreducible] def rL2 : List Stm := L45_law.drop 9
@[irreducible] def rL3 : List Stm := L45_law.drop 10
@[irreducible] def rL4 : List Stm := L45_law.drop 11
theorem rLe0 : L45_law = (Stm.asg (.nm 1) (.settle (.lst [(false, (.slot 0)), (false, (.cst (.int 0))), (false, (.cst (.int 0))), (false, (.cst (.int 0)))]))) :: (Stm.asg (.nm 2) (.lst [(false, (.cst (.str "door 5 2"))), (false, (.cst (.str "door 10 1"))), (false, (.cst (.str "crates fig plum")))])) :: (Stm.if_ (.bin .isnot (.call 1000 [(.slot 2)]) (.cst .non)) [.ret (some (.cst (.bl false)))] []) :: rL1 := by
  unfold rL1
  rfl
theorem rLe1 : rL1 = (Stm.asg (.nm 3) (.lst [(false, (.tup [(false, (.cst (.str ""))), (false, (.cst (.int 0)))])), (false, (.tup [(false, (.cst (.str "doors 5 2"))), (false, (.cst (.int 0)))])), (false, (.tup [(false, (.cst (.str "door"))), (false, (.cst (.int 1)))])), (false, (.tup [(false, (.cst (.str "door 5"))), (false, (.cst (.int 2)))])), (false, (.tup [(false, (.cst (.str "door 0 2"))), (false, (.cst (.int 1)))])), (false, (.tup [(false, (.cst (.str "door 5 02"))), (false, (.cst (.int 2)))]))])) :: (Stm.ex (.mw .append (.slot 3) [(.tup [(false, (.cst (.str "door 100 2"))), (false, (.cst (.int 1)))])])) :: (Stm.asg (.nm 3) (.bin .add (.slot 3) (.lst [(false, (.tup [(false, (.cst (.str "door 5 2 1"))), (false, (.cst (.int 3)))])), (false, (.tup [(false, (.cst (.str "door x 2"))), (false, (.cst (.int 1)))])), (false, (.tup [(false, (.cst (.str "door  5"))), (false, (.cst (.int 1)))])), (false, (.tup [(false, (.cst (.str "door 5 2 "))), (false, (.cst (.int 3)))])), (false, (.tup [(false, (.cst (.str "crate fig"))), (false, (.cst (.int 0)))]))]))) :: (Stm.asg (.nm 4) (.lst [(false, (.tup [(false, (.cst (.str "crates"))), (false, (.cst (.int 1)))])), (false, (.tup [(false, (.cst (.str "crates Fig"))), (false, (.cst (.int 1)))])), (false, (.tup [(false, (.cst (.str "crates plum fig"))), (false, (.cst (.int 2)))])), (false, (.tup [(false, (.cst (.str "crates fig fig"))), (false, (.cst (.int 2)))])), (false, (.tup [(false, (.cst (.str "crates fig "))), (false, (.cst (.int 2)))]))])) :: (Stm.asg (.nm 4) (.bin .add (.slot 4) (.lst [(false, (.tup [(false, (.cst (.str "crates  fig"))), (false, (.cst (.int 1)))])), (false, (.tup [(false, (.cst (.str "crates a b c d e f"))), (false, (.cst (.int 6)))])), (false, (.tup [(false, (.cst (.str "crates figfigfig"))), (false, (.cst (.int 1)))])), (false, (.tup [(false, (.cst (.str "crate fig"))), (false, (.cst (.int 0)))]))]))) :: (Stm.asg (.nm 4) (.bin .add (.slot 4) (.lst [(false, (.tup [(false, (.cst (.str ""))), (false, (.cst (.int 0)))])), (false, (.tup [(false, (.cst (.str "door 5"))), (false, (.cst (.int 2)))]))]))) :: rL2 := by
  unfold rL1 rL2
  rfl
theorem rLe2 : rL2 = (Stm.for_ (.nm 5) .range1 [(.cst (.int 8))] L45_law_L0) :: rL3 := by
  unfold rL2 rL3
  rfl
theorem rLe3 : rL3 = (Stm.if_ (.or (.bin .ne (.call 1000 [(.lst [(false, (.cst (.str "")))])]) (.tup [(false, (.cst (.int 0))), (false, (.cst (.int 0)))])) (.bin .ne (.call 1000 [(.lst [(false, (.cst (.str "door 5 7"))), (false, (.cst (.str "crates fig")))])]) (.tup [(false, (.cst (.str "store"))), (false, (.cst (.str "doors")))]))) [.ret (some (.cst (.bl false)))] []) :: rL4 := by
  unfold rL3 rL4
  rfl
theorem rLe4 : rL4 = (Stm.ret (some (.bin .eq (.call 1000 [(.lst [(false, (.cst (.str "door 5 1"))), (false, (.cst (.str "crates fig plum")))])]) (.tup [(false, (.cst (.str "store"))), (false, (.cst (.str "crates")))])))) :: [] := by
  unfold rL4
  rfl
theorem Ulaw {d : Nat} {v0 : SV} {hp : List O} {Q : R → List O → Prop} {E : Xc → List O → Prop} : Wc (callD tb (d + 1) 1001 [v0] hp) Q E = W (execs (run tb (callD tb d) (FU + 100)) L45_law ⟨[some v0, none, none, none, none, none, none, none, none, none], hp⟩) (fun fl s => Ws s (fun _ hp' => Wre fl (fun r => Q r (gc hp.length r hp')))) (fun x s => Ws s (fun _ hp => E x hp)) := U_L45_law
theorem lawP (ns : List Int) : ∃ hp', callD tb 20 1001 [.val (.klst (ns.map D.int))] ([Q_B_Row_read_crates, Q_B_parse_store].map O.tab) = some (.ok (.val (.bl true)), hp') := by
  have : Wc (callD tb 20 1001 [.val (.klst (ns.map D.int))] [O.tab Q_B_Row_read_crates, O.tab Q_B_parse_store]) (fun r hp => r = .val (.bl true)) (fun _ _ => False) := by
    rw [Ulaw, rLe0]
    have wg : ∀ {Q : R → List O → Prop} {E : Xc → List O → Prop}, Wc (callD tb 19 1000 [.bor (.lst G3)] [O.tab Q_B_Row_read_crates, O.tab Q_B_parse_store, O.lst [D.klst (ns.map D.int), D.int 0, D.int 0, D.int 0]]) Q E = Q (.val .non) [O.tab Q_B_Row_read_crates, O.tab Q_B_parse_store, O.lst [D.klst (ns.map D.int), D.int 0, D.int 0, D.int 0]] := w_g0 (r := ⟨0, 0, 0⟩)
    have c0 : binD Bin.isnot D.non D.non = some (.val (.bl false)) := rfl
    simp -implicitDefEqProofs (disch := (first | omega | (simp only [List.length_cons, List.length_nil, List.length_map, List.length_append]; done) | (simp only [List.length_cons, List.length_nil, List.length_map, List.length_append]; omega))) only [↓Ri.Ws_m, ↓Ri.W_ok, ↓Ri.W_opt, ↓Ri.Wo_some, ↓Ri.W_none, ↓Ri.Wo_none, ↓Ri.Wi_t, ↓Ri.Wi_f, ↓Ri.Wi_pos, ↓Ri.Wi_neg, ↓Ri.Wi_not, ↓Ri.Wi_and, ↓Ri.Wi_or, ↓Ri.Wg_s, ↓Ri.Wg_0, ↓Ri.Wt_s, ↓Ri.Wt_0, ↓Ri.Wv_val, ↓Ri.Wv_own, ↓Ri.Wv_bor, ↓Ri.Wh_s, ↓Ri.Wh_0, ↓Ri.Wol_l, ↓Ri.Wol_i, ↓Ri.Wl_int, ↓Ri.Wl_bl, ↓Ri.Wl_non, ↓Ri.Wl_str, ↓Ri.Wl_tup, ↓Ri.Wl_lst, ↓Ri.Wl_klst, ↓Ri.Wl_ins, ↓Ri.Wl_ref0, ↓Ri.Wl_own, ↓Ri.Wlv_own, ↓Ri.Wlv_bor, ↓Ri.Wl_slot, ↓Ri.Wls_nil, ↓Ri.Wls_cons, ↓Ri.Wfv_val, ↓Ri.Wfv_own, ↓Ri.W_frz_val, ↓Ri.W_frz_own, ↓Ri.W_frz_slot, ↓Ri.W_it_val, ↓Ri.W_it_own, ↓Ri.Wiv_val, ↓Ri.Wiv_bor, ↓Ri.Wiv_own, ↓Ri.W_it_slot, ↓Ri.x_slot, ↓Ri.x_cst, ↓Ri.x_bin, ↓Ri.x_un, ↓Ri.Wb_bl, ↓Ri.x_and, ↓Ri.x_or, ↓Ri.x_ite, ↓Ri.W_testR, ↓Ri.x_chain, ↓Ri.W_chainR, ↓Ri.exStar_nil, ↓Ri.exStar_f, ↓Ri.exStar_t, ↓Ri.Wit_tup, ↓Ri.Wit_lst, ↓Ri.Wit_klst, ↓Ri.x_tup, ↓Ri.x_lst, ↓Ri.optE_none, ↓Ri.optE_some, ↓Ri.Wn_int, ↓Ri.x_slice, ↓Ri.W_sliceR, ↓Ri.Wo_sliceT, ↓Ri.Wo_sliceL, ↓Ri.W_binR, ↓Ri.W_unR, ↓Ri.b_add, ↓Ri.b_addS, ↓Ri.b_addL, ↓Ri.b_addT, ↓Ri.b_sub, ↓Ri.b_mul, ↓Ri.b_mulL, ↓Ri.b_fdiv, ↓Ri.b_mod, ↓Ri.b_pow, ↓Ri.b_lt, ↓Ri.b_gt, ↓Ri.b_le, ↓Ri.b_ge, ↓Ri.b_ltS, ↓Ri.b_eq, ↓Ri.b_ne, ↓Ri.b_in, ↓Ri.b_notin, ↓Ri.b_ix, ↓Ri.ix_tup, ↓Ri.ix_lst, ↓Ri.ix_klst, ↓Ri.ix_str, ↓Ri.u_not, ↓Ri.u_neg, ↓Ri.at0, ↓Ri.at1, ↓Ri.at2, ↓Ri.at3, ↓Ri.exs_nil, ↓Ri.exs_cons, ↓Ri.exDs_nil, ↓Ri.exDs_cons, ↓Ri.exIs_nil, ↓Ri.exIs_cons, ↓Ri.x_bl, ↓Ri.l_lenS, ↓Ri.l_lenT, ↓Ri.l_lenL, ↓Ri.l_lenK, ↓Ri.l_all, ↓Ri.l_any, ↓Ri.l_sum, ↓Ri.l_min, ↓Ri.l_max, ↓Ri.l_tuple, ↓Ri.l_list, ↓Ri.l_int, ↓Ri.l_intB, ↓Ri.l_isint, ↓Ri.l_isintS, ↓Ri.l_isbool, ↓Ri.l_isboolB, ↓Ri.l_isintB, ↓Ri.l_isstr, ↓Ri.l_istuple, ↓Ri.bools_nil, ↓Ri.bools_cons, ↓Ri.bools_map, ↓Ri.ints_nil, ↓Ri.ints_cons, ↓Ri.ints_map, ↓Ri.Wa_nil, ↓Ri.Wa_cons, ↓Ri.Wa_val, ↓Ri.Wa_own, ↓Ri.Wav_val, ↓Ri.Wav_own, ↓Ri.Wav_bor, ↓Ri.Wa_slot, ↓Ri.W_callR, ↓Ri.x_call, ↓Ri.Wk_i, ↓Ri.Wn1_val, ↓Ri.Wn1_ref, ↓Ri.x_mcall, ↓Ri.x_isi, ↓Ri.x_prop, ↓Ri.Wbo_bl, ↓Ri.x_ucmp, ↓Ri.Wle_int, ↓Ri.x_ulen, ↓Ri.x_fz, ↓Ri.Wj_s, ↓Ri.Wj_0, ↓Ri.Wjd_s, ↓Ri.Wjd_0, ↓Ri.Wfi_i, ↓Ri.W_fld_ins, ↓Ri.W_fld_ref, ↓Ri.x_fld, ↓Ri.x_settle, ↓Ri.W_settle, ↓Ri.Wst_str, ↓Ri.x_mt, ↓Ri.Wml_own, ↓Ri.Wmo_l, ↓Ri.Wil_slot, ↓Ri.Wil_ref, ↓Ri.Wwr_append, ↓Ri.Wwr_extend, ↓Ri.W_wr_slot, ↓Ri.W_wr_ref, ↓Ri.x_mw, ↓Ri.Wx_s, ↓Ri.Wx_0, ↓Ri.Wwp_nil, ↓Ri.Wwp_cons, ↓Ri.Wgo_s, ↓Ri.Wgo_0, ↓Ri.Wun_nil, ↓Ri.Wun_cons, ↓Ri.Wpx_n, ↓Ri.Wpx_v, ↓Ri.Wpl_nil, ↓Ri.Wpl_cons, ↓Ri.W_compR, ↓Ri.x_comp, ↓Ri.compL_nil, ↓Ri.ifR_none, ↓Ri.ifR_some, ↓Ri.compL_cons, ↓Ri.wk_str, ↓Ri.wk_tup, ↓Ri.wk_lst, ↓Ri.wk_klst, ↓Ri.wk_r1, ↓Ri.wk_r2, ↓Ri.wk_enT, ↓Ri.wk_enL, ↓Ri.wk_zT, ↓Ri.wk_zL, ↓Ri.t_nm, ↓Ri.t_tp, ↓Ri.ts_nil, ↓Ri.ts_cons, ↓Ri.Wsb_slot, ↓Ri.Wsb_ref, ↓Ri.t_sub, ↓Ri.Wfs_s, ↓Ri.Wfs_0, ↓Ri.Wrf_r, ↓Ri.t_fld, ↓Ri.r_val, ↓Ri.r_own, ↓Ri.r_own_fld, ↓Ri.r_own_sub, ↓Ri.r_slot, ↓Ri.s_nil, ↓Ri.Wf_n, ↓Ri.Wf_r, ↓Ri.Wf_b, ↓Ri.Wf_c, ↓Ri.s_cons, ↓Ri.s_asg, ↓Ri.s_ex, ↓Ri.s_retN, ↓Ri.s_ret, ↓Ri.ret_val, ↓Ri.ret_own, ↓Ri.Wrv_val, ↓Ri.Wrv_own, ↓Ri.ret_slot, ↓Ri.s_if, ↓Ri.s_for, ↓Ri.for_nil, ↓Ri.Wfl_n, ↓Ri.Wfl_c, ↓Ri.Wfl_b, ↓Ri.Wfl_r, ↓Ri.for_cons, ↓Ri.s_while, ↓Ri.Wnm_val, ↓Ri.Wnm_own, ↓Ri.s_asg2, ↓Ri.s_pass, ↓Ri.s_brk, ↓Ri.s_cnt, ↓Ri.s_wall, ↓Ri.Wi1_i, ↓Ri.s_incfld, ↓Ri.Wre_n, ↓Ri.Wre_v, ↓Ri.Wre_o, ↓Ri.x_new, ↓Ri.x_frz, ↓Ri.Wno_n, ↓Ri.deq_ii, ↓Ri.deq_ss, ↓Ri.deq_nn, ↓Ri.deq_bb, ↓Ri.deq_ns, ↓Ri.deq_sn, ↓Ri.deq_tt, ↓Ri.deq_ll, ↓Ri.s_raise, ↓Ri.s_try, ↓Ri.Wct_nil, ↓Ri.Wct_cons, ↓Ri.W_catch, ↓Ri.compXL_nil, ↓Ri.compXL_cons, ↓Ri.W_compXR, ↓Ri.x_compX, true_and, and_true, List.length_cons, List.length_nil, List.nil_append, List.cons_append, Nat.reduceAdd, ↓wg, c0, ↓leL, ↓ltL]
    rw [rLe1]
    simp -implicitDefEqProofs (disch := (first | omega | (simp only [List.length_cons, List.length_nil, List.length_map, List.length_append]; done) | (simp only [List.length_cons, List.length_nil, List.length_map, List.length_append]; omega))) only [↓Ri.Ws_m, ↓Ri.W_ok, ↓Ri.W_opt, ↓Ri.Wo_some, ↓Ri.W_none, ↓Ri.Wo_none, ↓Ri.Wi_t, ↓Ri.Wi_f, ↓Ri.Wi_pos, ↓Ri.Wi_neg, ↓Ri.Wi_not, ↓Ri.Wi_and, ↓Ri.Wi_or, ↓Ri.Wg_s, ↓Ri.Wg_0, ↓Ri.Wt_s, ↓Ri.Wt_0, ↓Ri.Wv_val, ↓Ri.Wv_own, ↓Ri.Wv_bor, ↓Ri.Wh_s, ↓Ri.Wh_0, ↓Ri.Wol_l, ↓Ri.Wol_i, ↓Ri.Wl_int, ↓Ri.Wl_bl, ↓Ri.Wl_non, ↓Ri.Wl_str, ↓Ri.Wl_tup, ↓Ri.Wl_lst, ↓Ri.Wl_klst, ↓Ri.Wl_ins, ↓Ri.Wl_ref0, ↓Ri.Wl_own, ↓Ri.Wlv_own, ↓Ri.Wlv_bor, ↓Ri.Wl_slot, ↓Ri.Wls_nil, ↓Ri.Wls_cons, ↓Ri.Wfv_val, ↓Ri.Wfv_own, ↓Ri.W_frz_val, ↓Ri.W_frz_own, ↓Ri.W_frz_slot, ↓Ri.W_it_val, ↓Ri.W_it_own, ↓Ri.Wiv_val, ↓Ri.Wiv_bor, ↓Ri.Wiv_own, ↓Ri.W_it_slot, ↓Ri.x_slot, ↓Ri.x_cst, ↓Ri.x_bin, ↓Ri.x_un, ↓Ri.Wb_bl, ↓Ri.x_and, ↓Ri.x_or, ↓Ri.x_ite, ↓Ri.W_testR, ↓Ri.x_chain, ↓Ri.W_chainR, ↓Ri.exStar_nil, ↓Ri.exStar_f, ↓Ri.exStar_t, ↓Ri.Wit_tup, ↓Ri.Wit_lst, ↓Ri.Wit_klst, ↓Ri.x_tup, ↓Ri.x_lst, ↓Ri.optE_none, ↓Ri.optE_some, ↓Ri.Wn_int, ↓Ri.x_slice, ↓Ri.W_sliceR, ↓Ri.Wo_sliceT, ↓Ri.Wo_sliceL, ↓Ri.W_binR, ↓Ri.W_unR, ↓Ri.b_add, ↓Ri.b_addS, ↓Ri.b_addL, ↓Ri.b_addT, ↓Ri.b_sub, ↓Ri.b_mul, ↓Ri.b_mulL, ↓Ri.b_fdiv, ↓Ri.b_mod, ↓Ri.b_pow, ↓Ri.b_lt, ↓Ri.b_gt, ↓Ri.b_le, ↓Ri.b_ge, ↓Ri.b_ltS, ↓Ri.b_eq, ↓Ri.b_ne, ↓Ri.b_in, ↓Ri.b_notin, ↓Ri.b_ix, ↓Ri.ix_tup, ↓Ri.ix_lst, ↓Ri.ix_klst, ↓Ri.ix_str, ↓Ri.u_not, ↓Ri.u_neg, ↓Ri.at0, ↓Ri.at1, ↓Ri.at2, ↓Ri.at3, ↓Ri.exs_nil, ↓Ri.exs_cons, ↓Ri.exDs_nil, ↓Ri.exDs_cons, ↓Ri.exIs_nil, ↓Ri.exIs_cons, ↓Ri.x_bl, ↓Ri.l_lenS, ↓Ri.l_lenT, ↓Ri.l_lenL, ↓Ri.l_lenK, ↓Ri.l_all, ↓Ri.l_any, ↓Ri.l_sum, ↓Ri.l_min, ↓Ri.l_max, ↓Ri.l_tuple, ↓Ri.l_list, ↓Ri.l_int, ↓Ri.l_intB, ↓Ri.l_isint, ↓Ri.l_isintS, ↓Ri.l_isbool, ↓Ri.l_isboolB, ↓Ri.l_isintB, ↓Ri.l_isstr, ↓Ri.l_istuple, ↓Ri.bools_nil, ↓Ri.bools_cons, ↓Ri.bools_map, ↓Ri.ints_nil, ↓Ri.ints_cons, ↓Ri.ints_map, ↓Ri.Wa_nil, ↓Ri.Wa_cons, ↓Ri.Wa_val, ↓Ri.Wa_own, ↓Ri.Wav_val, ↓Ri.Wav_own, ↓Ri.Wav_bor, ↓Ri.Wa_slot, ↓Ri.W_callR, ↓Ri.x_call, ↓Ri.Wk_i, ↓Ri.Wn1_val, ↓Ri.Wn1_ref, ↓Ri.x_mcall, ↓Ri.x_isi, ↓Ri.x_prop, ↓Ri.Wbo_bl, ↓Ri.x_ucmp, ↓Ri.Wle_int, ↓Ri.x_ulen, ↓Ri.x_fz, ↓Ri.Wj_s, ↓Ri.Wj_0, ↓Ri.Wjd_s, ↓Ri.Wjd_0, ↓Ri.Wfi_i, ↓Ri.W_fld_ins, ↓Ri.W_fld_ref, ↓Ri.x_fld, ↓Ri.x_settle, ↓Ri.W_settle, ↓Ri.Wst_str, ↓Ri.x_mt, ↓Ri.Wml_own, ↓Ri.Wmo_l, ↓Ri.Wil_slot, ↓Ri.Wil_ref, ↓Ri.Wwr_append, ↓Ri.Wwr_extend, ↓Ri.W_wr_slot, ↓Ri.W_wr_ref, ↓Ri.x_mw, ↓Ri.Wx_s, ↓Ri.Wx_0, ↓Ri.Wwp_nil, ↓Ri.Wwp_cons, ↓Ri.Wgo_s, ↓Ri.Wgo_0, ↓Ri.Wun_nil, ↓Ri.Wun_cons, ↓Ri.Wpx_n, ↓Ri.Wpx_v, ↓Ri.Wpl_nil, ↓Ri.Wpl_cons, ↓Ri.W_compR, ↓Ri.x_comp, ↓Ri.compL_nil, ↓Ri.ifR_none, ↓Ri.ifR_some, ↓Ri.compL_cons, ↓Ri.wk_str, ↓Ri.wk_tup, ↓Ri.wk_lst, ↓Ri.wk_klst, ↓Ri.wk_r1, ↓Ri.wk_r2, ↓Ri.wk_enT, ↓Ri.wk_enL, ↓Ri.wk_zT, ↓Ri.wk_zL, ↓Ri.t_nm, ↓Ri.t_tp, ↓Ri.ts_nil, ↓Ri.ts_cons, ↓Ri.Wsb_slot, ↓Ri.Wsb_ref, ↓Ri.t_sub, ↓Ri.Wfs_s, ↓Ri.Wfs_0, ↓Ri.Wrf_r, ↓Ri.t_fld, ↓Ri.r_val, ↓Ri.r_own, ↓Ri.r_own_fld, ↓Ri.r_own_sub, ↓Ri.r_slot, ↓Ri.s_nil, ↓Ri.Wf_n, ↓Ri.Wf_r, ↓Ri.Wf_b, ↓Ri.Wf_c, ↓Ri.s_cons, ↓Ri.s_asg, ↓Ri.s_ex, ↓Ri.s_retN, ↓Ri.s_ret, ↓Ri.ret_val, ↓Ri.ret_own, ↓Ri.Wrv_val, ↓Ri.Wrv_own, ↓Ri.ret_slot, ↓Ri.s_if, ↓Ri.s_for, ↓Ri.for_nil, ↓Ri.Wfl_n, ↓Ri.Wfl_c, ↓Ri.Wfl_b, ↓Ri.Wfl_r, ↓Ri.for_cons, ↓Ri.s_while, ↓Ri.Wnm_val, ↓Ri.Wnm_own, ↓Ri.s_asg2, ↓Ri.s_pass, ↓Ri.s_brk, ↓Ri.s_cnt, ↓Ri.s_wall, ↓Ri.Wi1_i, ↓Ri.s_incfld, ↓Ri.Wre_n, ↓Ri.Wre_v, ↓Ri.Wre_o, ↓Ri.x_new, ↓Ri.x_frz, ↓Ri.Wno_n, ↓Ri.deq_ii, ↓Ri.deq_ss, ↓Ri.deq_nn, ↓Ri.deq_bb, ↓Ri.deq_ns, ↓Ri.deq_sn, ↓Ri.deq_tt, ↓Ri.deq_ll, ↓Ri.s_raise, ↓Ri.s_try, ↓Ri.Wct_nil, ↓Ri.Wct_cons, ↓Ri.W_catch, ↓Ri.compXL_nil, ↓Ri.compXL_cons, ↓Ri.W_compXR, ↓Ri.x_compX, true_and, and_true, List.length_cons, List.length_nil, List.nil_append, List.cons_append, Nat.reduceAdd, ↓leL, ↓ltL]
    have eE : [D.tup [D.str "", D.int 0], D.tup [D.str "doors 5 2", D.int 0], D.tup [D.str "door", D.int 1], D.tup [D.str "door 5", D.int 2], D.tup [D.str "door 0 2", D.int 1], D.tup [D.str "door 5 02", D.int 2], D.tup [D.str "door 100 2", D.int 1], D.tup [D.str "door 5 2 1", D.int 3], D.tup [D.str "door x 2", D.int 1], D.tup [D.str "door  5", D.int 1], D.tup [D.str "door 5 2 ", D.int 3], D.tup [D.str "crate fig", D.int 0]] = EL := by unfold EL; rfl
    have eL : [D.tup [D.str "crates", D.int 1], D.tup [D.str "crates Fig", D.int 1], D.tup [D.str "crates plum fig", D.int 2], D.tup [D.str "crates fig fig", D.int 2], D.tup [D.str "crates fig ", D.int 2], D.tup [D.str "crates  fig", D.int 1], D.tup [D.str "crates a b c d e f", D.int 6], D.tup [D.str "crates figfigfig", D.int 1], D.tup [D.str "crate fig", D.int 0], D.tup [D.str "", D.int 0], D.tup [D.str "door 5", D.int 2]] = LL := by unfold LL; rfl
    rw [eE, eL, rLe2]
    simp -implicitDefEqProofs (disch := (first | omega | (simp only [List.length_cons, List.length_nil, List.length_map, List.length_append]; done) | (simp only [List.length_cons, List.length_nil, List.length_map, List.length_append]; omega))) only [↓Ri.Ws_m, ↓Ri.W_ok, ↓Ri.W_opt, ↓Ri.Wo_some, ↓Ri.W_none, ↓Ri.Wo_none, ↓Ri.Wi_t, ↓Ri.Wi_f, ↓Ri.Wi_pos, ↓Ri.Wi_neg, ↓Ri.Wi_not, ↓Ri.Wi_and, ↓Ri.Wi_or, ↓Ri.Wg_s, ↓Ri.Wg_0, ↓Ri.Wt_s, ↓Ri.Wt_0, ↓Ri.Wv_val, ↓Ri.Wv_own, ↓Ri.Wv_bor, ↓Ri.Wh_s, ↓Ri.Wh_0, ↓Ri.Wol_l, ↓Ri.Wol_i, ↓Ri.Wl_int, ↓Ri.Wl_bl, ↓Ri.Wl_non, ↓Ri.Wl_str, ↓Ri.Wl_tup, ↓Ri.Wl_lst, ↓Ri.Wl_klst, ↓Ri.Wl_ins, ↓Ri.Wl_ref0, ↓Ri.Wl_own, ↓Ri.Wlv_own, ↓Ri.Wlv_bor, ↓Ri.Wl_slot, ↓Ri.Wls_nil, ↓Ri.Wls_cons, ↓Ri.Wfv_val, ↓Ri.Wfv_own, ↓Ri.W_frz_val, ↓Ri.W_frz_own, ↓Ri.W_frz_slot, ↓Ri.W_it_val, ↓Ri.W_it_own, ↓Ri.Wiv_val, ↓Ri.Wiv_bor, ↓Ri.Wiv_own, ↓Ri.W_it_slot, ↓Ri.x_slot, ↓Ri.x_cst, ↓Ri.x_bin, ↓Ri.x_un, ↓Ri.Wb_bl, ↓Ri.x_and, ↓Ri.x_or, ↓Ri.x_ite, ↓Ri.W_testR, ↓Ri.x_chain, ↓Ri.W_chainR, ↓Ri.exStar_nil, ↓Ri.exStar_f, ↓Ri.exStar_t, ↓Ri.Wit_tup, ↓Ri.Wit_lst, ↓Ri.Wit_klst, ↓Ri.x_tup, ↓Ri.x_lst, ↓Ri.optE_none, ↓Ri.optE_some, ↓Ri.Wn_int, ↓Ri.x_slice, ↓Ri.W_sliceR, ↓Ri.Wo_sliceT, ↓Ri.Wo_sliceL, ↓Ri.W_binR, ↓Ri.W_unR, ↓Ri.b_add, ↓Ri.b_addS, ↓Ri.b_addL, ↓Ri.b_addT, ↓Ri.b_sub, ↓Ri.b_mul, ↓Ri.b_mulL, ↓Ri.b_fdiv, ↓Ri.b_mod, ↓Ri.b_pow, ↓Ri.b_lt, ↓Ri.b_gt, ↓Ri.b_le, ↓Ri.b_ge, ↓Ri.b_ltS, ↓Ri.b_eq, ↓Ri.b_ne, ↓Ri.b_in, ↓Ri.b_notin, ↓Ri.b_ix, ↓Ri.ix_tup, ↓Ri.ix_lst, ↓Ri.ix_klst, ↓Ri.ix_str, ↓Ri.u_not, ↓Ri.u_neg, ↓Ri.at0, ↓Ri.at1, ↓Ri.at2, ↓Ri.at3, ↓Ri.exs_nil, ↓Ri.exs_cons, ↓Ri.exDs_nil, ↓Ri.exDs_cons, ↓Ri.exIs_nil, ↓Ri.exIs_cons, ↓Ri.x_bl, ↓Ri.l_lenS, ↓Ri.l_lenT, ↓Ri.l_lenL, ↓Ri.l_lenK, ↓Ri.l_all, ↓Ri.l_any, ↓Ri.l_sum, ↓Ri.l_min, ↓Ri.l_max, ↓Ri.l_tuple, ↓Ri.l_list, ↓Ri.l_int, ↓Ri.l_intB, ↓Ri.l_isint, ↓Ri.l_isintS, ↓Ri.l_isbool, ↓Ri.l_isboolB, ↓Ri.l_isintB, ↓Ri.l_isstr, ↓Ri.l_istuple, ↓Ri.bools_nil, ↓Ri.bools_cons, ↓Ri.bools_map, ↓Ri.ints_nil, ↓Ri.ints_cons, ↓Ri.ints_map, ↓Ri.Wa_nil, ↓Ri.Wa_cons, ↓Ri.Wa_val, ↓Ri.Wa_own, ↓Ri.Wav_val, ↓Ri.Wav_own, ↓Ri.Wav_bor, ↓Ri.Wa_slot, ↓Ri.W_callR, ↓Ri.x_call, ↓Ri.Wk_i, ↓Ri.Wn1_val, ↓Ri.Wn1_ref, ↓Ri.x_mcall, ↓Ri.x_isi, ↓Ri.x_prop, ↓Ri.Wbo_bl, ↓Ri.x_ucmp, ↓Ri.Wle_int, ↓Ri.x_ulen, ↓Ri.x_fz, ↓Ri.Wj_s, ↓Ri.Wj_0, ↓Ri.Wjd_s, ↓Ri.Wjd_0, ↓Ri.Wfi_i, ↓Ri.W_fld_ins, ↓Ri.W_fld_ref, ↓Ri.x_fld, ↓Ri.x_settle, ↓Ri.W_settle, ↓Ri.Wst_str, ↓Ri.x_mt, ↓Ri.Wml_own, ↓Ri.Wmo_l, ↓Ri.Wil_slot, ↓Ri.Wil_ref, ↓Ri.Wwr_append, ↓Ri.Wwr_extend, ↓Ri.W_wr_slot, ↓Ri.W_wr_ref, ↓Ri.x_mw, ↓Ri.Wx_s, ↓Ri.Wx_0, ↓Ri.Wwp_nil, ↓Ri.Wwp_cons, ↓Ri.Wgo_s, ↓Ri.Wgo_0, ↓Ri.Wun_nil, ↓Ri.Wun_cons, ↓Ri.Wpx_n, ↓Ri.Wpx_v, ↓Ri.Wpl_nil, ↓Ri.Wpl_cons, ↓Ri.W_compR, ↓Ri.x_comp, ↓Ri.compL_nil, ↓Ri.ifR_none, ↓Ri.ifR_some, ↓Ri.compL_cons, ↓Ri.wk_str, ↓Ri.wk_tup, ↓Ri.wk_lst, ↓Ri.wk_klst, ↓Ri.wk_r1, ↓Ri.wk_r2, ↓Ri.wk_enT, ↓Ri.wk_enL, ↓Ri.wk_zT, ↓Ri.wk_zL, ↓Ri.t_nm, ↓Ri.t_tp, ↓Ri.ts_nil, ↓Ri.ts_cons, ↓Ri.Wsb_slot, ↓Ri.Wsb_ref, ↓Ri.t_sub, ↓Ri.Wfs_s, ↓Ri.Wfs_0, ↓Ri.Wrf_r, ↓Ri.t_fld, ↓Ri.r_val, ↓Ri.r_own, ↓Ri.r_own_fld, ↓Ri.r_own_sub, ↓Ri.r_slot, ↓Ri.s_nil, ↓Ri.Wf_n, ↓Ri.Wf_r, ↓Ri.Wf_b, ↓Ri.Wf_c, ↓Ri.s_cons, ↓Ri.s_asg, ↓Ri.s_ex, ↓Ri.s_retN, ↓Ri.s_ret, ↓Ri.ret_val, ↓Ri.ret_own, ↓Ri.Wrv_val, ↓Ri.Wrv_own, ↓Ri.ret_slot, ↓Ri.s_if, ↓Ri.s_for, ↓Ri.for_nil, ↓Ri.Wfl_n, ↓Ri.Wfl_c, ↓Ri.Wfl_b, ↓Ri.Wfl_r, ↓Ri.for_cons, ↓Ri.s_while, ↓Ri.Wnm_val, ↓Ri.Wnm_own, ↓Ri.s_asg2, ↓Ri.s_pass, ↓Ri.s_brk, ↓Ri.s_cnt, ↓Ri.s_wall, ↓Ri.Wi1_i, ↓Ri.s_incfld, ↓Ri.Wre_n, ↓Ri.Wre_v, ↓Ri.Wre_o, ↓Ri.x_new, ↓Ri.x_frz, ↓Ri.Wno_n, ↓Ri.deq_ii, ↓Ri.deq_ss, ↓Ri.deq_nn, ↓Ri.deq_bb, ↓Ri.deq_ns, ↓Ri.deq_sn, ↓Ri.deq_tt, ↓Ri.deq_ll, ↓Ri.s_raise, ↓Ri.s_try, ↓Ri.Wct_nil, ↓Ri.Wct_cons, ↓Ri.W_catch, ↓Ri.compXL_nil, ↓Ri.compXL_cons, ↓Ri.W_compXR, ↓Ri.x_compX, true_and, and_true, List.length_cons, List.length_nil, ↓leL, ↓ltL]
    refine And.intro (by decide) (turns (n := FU + 60) (ns := ns) (v0 := some (.val (.klst (ns.map D.int)))) (Int.toNat 8) 0 ⟨0, 0, 0⟩ none none none none none ?_)
    intro r v5 v6 v7 v8 v9
    rw [Wf_n, rLe3]
    simp -implicitDefEqProofs (disch := (first | omega | (simp only [List.length_cons, List.length_nil, List.length_map, List.length_append]; done) | (simp only [List.length_cons, List.length_nil, List.length_map, List.length_append]; omega))) only [↓Ri.Ws_m, ↓Ri.W_ok, ↓Ri.W_opt, ↓Ri.Wo_some, ↓Ri.W_none, ↓Ri.Wo_none, ↓Ri.Wi_t, ↓Ri.Wi_f, ↓Ri.Wi_pos, ↓Ri.Wi_neg, ↓Ri.Wi_not, ↓Ri.Wi_and, ↓Ri.Wi_or, ↓Ri.Wg_s, ↓Ri.Wg_0, ↓Ri.Wt_s, ↓Ri.Wt_0, ↓Ri.Wv_val, ↓Ri.Wv_own, ↓Ri.Wv_bor, ↓Ri.Wh_s, ↓Ri.Wh_0, ↓Ri.Wol_l, ↓Ri.Wol_i, ↓Ri.Wl_int, ↓Ri.Wl_bl, ↓Ri.Wl_non, ↓Ri.Wl_str, ↓Ri.Wl_tup, ↓Ri.Wl_lst, ↓Ri.Wl_klst, ↓Ri.Wl_ins, ↓Ri.Wl_ref0, ↓Ri.Wl_own, ↓Ri.Wlv_own, ↓Ri.Wlv_bor, ↓Ri.Wl_slot, ↓Ri.Wls_nil, ↓Ri.Wls_cons, ↓Ri.Wfv_val, ↓Ri.Wfv_own, ↓Ri.W_frz_val, ↓Ri.W_frz_own, ↓Ri.W_frz_slot, ↓Ri.W_it_val, ↓Ri.W_it_own, ↓Ri.Wiv_val, ↓Ri.Wiv_bor, ↓Ri.Wiv_own, ↓Ri.W_it_slot, ↓Ri.x_slot, ↓Ri.x_cst, ↓Ri.x_bin, ↓Ri.x_un, ↓Ri.Wb_bl, ↓Ri.x_and, ↓Ri.x_or, ↓Ri.x_ite, ↓Ri.W_testR, ↓Ri.x_chain, ↓Ri.W_chainR, ↓Ri.exStar_nil, ↓Ri.exStar_f, ↓Ri.exStar_t, ↓Ri.Wit_tup, ↓Ri.Wit_lst, ↓Ri.Wit_klst, ↓Ri.x_tup, ↓Ri.x_lst, ↓Ri.optE_none, ↓Ri.optE_some, ↓Ri.Wn_int, ↓Ri.x_slice, ↓Ri.W_sliceR, ↓Ri.Wo_sliceT, ↓Ri.Wo_sliceL, ↓Ri.W_binR, ↓Ri.W_unR, ↓Ri.b_add, ↓Ri.b_addS, ↓Ri.b_addL, ↓Ri.b_addT, ↓Ri.b_sub, ↓Ri.b_mul, ↓Ri.b_mulL, ↓Ri.b_fdiv, ↓Ri.b_mod, ↓Ri.b_pow, ↓Ri.b_lt, ↓Ri.b_gt, ↓Ri.b_le, ↓Ri.b_ge, ↓Ri.b_ltS, ↓Ri.b_eq, ↓Ri.b_ne, ↓Ri.b_in, ↓Ri.b_notin, ↓Ri.b_ix, ↓Ri.ix_tup, ↓Ri.ix_lst, ↓Ri.ix_klst, ↓Ri.ix_str, ↓Ri.u_not, ↓Ri.u_neg, ↓Ri.at0, ↓Ri.at1, ↓Ri.at2, ↓Ri.at3, ↓Ri.exs_nil, ↓Ri.exs_cons, ↓Ri.exDs_nil, ↓Ri.exDs_cons, ↓Ri.exIs_nil, ↓Ri.exIs_cons, ↓Ri.x_bl, ↓Ri.l_lenS, ↓Ri.l_lenT, ↓Ri.l_lenL, ↓Ri.l_lenK, ↓Ri.l_all, ↓Ri.l_any, ↓Ri.l_sum, ↓Ri.l_min, ↓Ri.l_max, ↓Ri.l_tuple, ↓Ri.l_list, ↓Ri.l_int, ↓Ri.l_intB, ↓Ri.l_isint, ↓Ri.l_isintS, ↓Ri.l_isbool, ↓Ri.l_isboolB, ↓Ri.l_isintB, ↓Ri.l_isstr, ↓Ri.l_istuple, ↓Ri.bools_nil, ↓Ri.bools_cons, ↓Ri.bools_map, ↓Ri.ints_nil, ↓Ri.ints_cons, ↓Ri.ints_map, ↓Ri.Wa_nil, ↓Ri.Wa_cons, ↓Ri.Wa_val, ↓Ri.Wa_own, ↓Ri.Wav_val, ↓Ri.Wav_own, ↓Ri.Wav_bor, ↓Ri.Wa_slot, ↓Ri.W_callR, ↓Ri.x_call, ↓Ri.Wk_i, ↓Ri.Wn1_val, ↓Ri.Wn1_ref, ↓Ri.x_mcall, ↓Ri.x_isi, ↓Ri.x_prop, ↓Ri.Wbo_bl, ↓Ri.x_ucmp, ↓Ri.Wle_int, ↓Ri.x_ulen, ↓Ri.x_fz, ↓Ri.Wj_s, ↓Ri.Wj_0, ↓Ri.Wjd_s, ↓Ri.Wjd_0, ↓Ri.Wfi_i, ↓Ri.W_fld_ins, ↓Ri.W_fld_ref, ↓Ri.x_fld, ↓Ri.x_settle, ↓Ri.W_settle, ↓Ri.Wst_str, ↓Ri.x_mt, ↓Ri.Wml_own, ↓Ri.Wmo_l, ↓Ri.Wil_slot, ↓Ri.Wil_ref, ↓Ri.Wwr_append, ↓Ri.Wwr_extend, ↓Ri.W_wr_slot, ↓Ri.W_wr_ref, ↓Ri.x_mw, ↓Ri.Wx_s, ↓Ri.Wx_0, ↓Ri.Wwp_nil, ↓Ri.Wwp_cons, ↓Ri.Wgo_s, ↓Ri.Wgo_0, ↓Ri.Wun_nil, ↓Ri.Wun_cons, ↓Ri.Wpx_n, ↓Ri.Wpx_v, ↓Ri.Wpl_nil, ↓Ri.Wpl_cons, ↓Ri.W_compR, ↓Ri.x_comp, ↓Ri.compL_nil, ↓Ri.ifR_none, ↓Ri.ifR_some, ↓Ri.compL_cons, ↓Ri.wk_str, ↓Ri.wk_tup, ↓Ri.wk_lst, ↓Ri.wk_klst, ↓Ri.wk_r1, ↓Ri.wk_r2, ↓Ri.wk_enT, ↓Ri.wk_enL, ↓Ri.wk_zT, ↓Ri.wk_zL, ↓Ri.t_nm, ↓Ri.t_tp, ↓Ri.ts_nil, ↓Ri.ts_cons, ↓Ri.Wsb_slot, ↓Ri.Wsb_ref, ↓Ri.t_sub, ↓Ri.Wfs_s, ↓Ri.Wfs_0, ↓Ri.Wrf_r, ↓Ri.t_fld, ↓Ri.r_val, ↓Ri.r_own, ↓Ri.r_own_fld, ↓Ri.r_own_sub, ↓Ri.r_slot, ↓Ri.s_nil, ↓Ri.Wf_n, ↓Ri.Wf_r, ↓Ri.Wf_b, ↓Ri.Wf_c, ↓Ri.s_cons, ↓Ri.s_asg, ↓Ri.s_ex, ↓Ri.s_retN, ↓Ri.s_ret, ↓Ri.ret_val, ↓Ri.ret_own, ↓Ri.Wrv_val, ↓Ri.Wrv_own, ↓Ri.ret_slot, ↓Ri.s_if, ↓Ri.s_for, ↓Ri.for_nil, ↓Ri.Wfl_n, ↓Ri.Wfl_c, ↓Ri.Wfl_b, ↓Ri.Wfl_r, ↓Ri.for_cons, ↓Ri.s_while, ↓Ri.Wnm_val, ↓Ri.Wnm_own, ↓Ri.s_asg2, ↓Ri.s_pass, ↓Ri.s_brk, ↓Ri.s_cnt, ↓Ri.s_wall, ↓Ri.Wi1_i, ↓Ri.s_incfld, ↓Ri.Wre_n, ↓Ri.Wre_v, ↓Ri.Wre_o, ↓Ri.x_new, ↓Ri.x_frz, ↓Ri.Wno_n, ↓Ri.deq_ii, ↓Ri.deq_ss, ↓Ri.deq_nn, ↓Ri.deq_bb, ↓Ri.deq_ns, ↓Ri.deq_sn, ↓Ri.deq_tt, ↓Ri.deq_ll, ↓Ri.s_raise, ↓Ri.s_try, ↓Ri.Wct_nil, ↓Ri.Wct_cons, ↓Ri.W_catch, ↓Ri.compXL_nil, ↓Ri.compXL_cons, ↓Ri.W_compXR, ↓Ri.x_compX, true_and, and_true, List.length_cons, List.length_nil, ↓leL, ↓ltL, Nat.reduceAdd, ↓w_f1, ↓w_f2, ↓w_f3, okT2, eq2]
    have k1 : okD (D.tup [D.str (Str.ofString "store"), D.str (Str.ofString "doors")]) = true := by decide +kernel
    have k2 : okD (D.tup [D.str (Str.ofString "store"), D.str (Str.ofString "crates")]) = true := by decide +kernel
    have e1 : eqDs [D.str (Str.ofString "store"), D.str (Str.ofString "doors")] [D.str (Str.ofString "store"), D.str (Str.ofString "doors")] = true := by decide +kernel
    have e2 : eqDs [D.str (Str.ofString "store"), D.str (Str.ofString "crates")] [D.str (Str.ofString "store"), D.str (Str.ofString "crates")] = true := by decide +kernel
    rw [e1, Ri.Wi_t, rLe4]
    refine And.intro ⟨k1, k1⟩ ?_
    simp -implicitDefEqProofs (disch := (first | omega | (simp only [List.length_cons, List.length_nil, List.length_map, List.length_append]; done) | (simp only [List.length_cons, List.length_nil, List.length_map, List.length_append]; omega))) only [↓Ri.Ws_m, ↓Ri.W_ok, ↓Ri.W_opt, ↓Ri.Wo_some, ↓Ri.W_none, ↓Ri.Wo_none, ↓Ri.Wi_t, ↓Ri.Wi_f, ↓Ri.Wi_pos, ↓Ri.Wi_neg, ↓Ri.Wi_not, ↓Ri.Wi_and, ↓Ri.Wi_or, ↓Ri.Wg_s, ↓Ri.Wg_0, ↓Ri.Wt_s, ↓Ri.Wt_0, ↓Ri.Wv_val, ↓Ri.Wv_own, ↓Ri.Wv_bor, ↓Ri.Wh_s, ↓Ri.Wh_0, ↓Ri.Wol_l, ↓Ri.Wol_i, ↓Ri.Wl_int, ↓Ri.Wl_bl, ↓Ri.Wl_non, ↓Ri.Wl_str, ↓Ri.Wl_tup, ↓Ri.Wl_lst, ↓Ri.Wl_klst, ↓Ri.Wl_ins, ↓Ri.Wl_ref0, ↓Ri.Wl_own, ↓Ri.Wlv_own, ↓Ri.Wlv_bor, ↓Ri.Wl_slot, ↓Ri.Wls_nil, ↓Ri.Wls_cons, ↓Ri.Wfv_val, ↓Ri.Wfv_own, ↓Ri.W_frz_val, ↓Ri.W_frz_own, ↓Ri.W_frz_slot, ↓Ri.W_it_val, ↓Ri.W_it_own, ↓Ri.Wiv_val, ↓Ri.Wiv_bor, ↓Ri.Wiv_own, ↓Ri.W_it_slot, ↓Ri.x_slot, ↓Ri.x_cst, ↓Ri.x_bin, ↓Ri.x_un, ↓Ri.Wb_bl, ↓Ri.x_and, ↓Ri.x_or, ↓Ri.x_ite, ↓Ri.W_testR, ↓Ri.x_chain, ↓Ri.W_chainR, ↓Ri.exStar_nil, ↓Ri.exStar_f, ↓Ri.exStar_t, ↓Ri.Wit_tup, ↓Ri.Wit_lst, ↓Ri.Wit_klst, ↓Ri.x_tup, ↓Ri.x_lst, ↓Ri.optE_none, ↓Ri.optE_some, ↓Ri.Wn_int, ↓Ri.x_slice, ↓Ri.W_sliceR, ↓Ri.Wo_sliceT, ↓Ri.Wo_sliceL, ↓Ri.W_binR, ↓Ri.W_unR, ↓Ri.b_add, ↓Ri.b_addS, ↓Ri.b_addL, ↓Ri.b_addT, ↓Ri.b_sub, ↓Ri.b_mul, ↓Ri.b_mulL, ↓Ri.b_fdiv, ↓Ri.b_mod, ↓Ri.b_pow, ↓Ri.b_lt, ↓Ri.b_gt, ↓Ri.b_le, ↓Ri.b_ge, ↓Ri.b_ltS, ↓Ri.b_eq, ↓Ri.b_ne, ↓Ri.b_in, ↓Ri.b_notin, ↓Ri.b_ix, ↓Ri.ix_tup, ↓Ri.ix_lst, ↓Ri.ix_klst, ↓Ri.ix_str, ↓Ri.u_not, ↓Ri.u_neg, ↓Ri.at0, ↓Ri.at1, ↓Ri.at2, ↓Ri.at3, ↓Ri.exs_nil, ↓Ri.exs_cons, ↓Ri.exDs_nil, ↓Ri.exDs_cons, ↓Ri.exIs_nil, ↓Ri.exIs_cons, ↓Ri.x_bl, ↓Ri.l_lenS, ↓Ri.l_lenT, ↓Ri.l_lenL, ↓Ri.l_lenK, ↓Ri.l_all, ↓Ri.l_any, ↓Ri.l_sum, ↓Ri.l_min, ↓Ri.l_max, ↓Ri.l_tuple, ↓Ri.l_list, ↓Ri.l_int, ↓Ri.l_intB, ↓Ri.l_isint, ↓Ri.l_isintS, ↓Ri.l_isbool, ↓Ri.l_isboolB, ↓Ri.l_isintB, ↓Ri.l_isstr, ↓Ri.l_istuple, ↓Ri.bools_nil, ↓Ri.bools_cons, ↓Ri.bools_map, ↓Ri.ints_nil, ↓Ri.ints_cons, ↓Ri.ints_map, ↓Ri.Wa_nil, ↓Ri.Wa_cons, ↓Ri.Wa_val, ↓Ri.Wa_own, ↓Ri.Wav_val, ↓Ri.Wav_own, ↓Ri.Wav_bor, ↓Ri.Wa_slot, ↓Ri.W_callR, ↓Ri.x_call, ↓Ri.Wk_i, ↓Ri.Wn1_val, ↓Ri.Wn1_ref, ↓Ri.x_mcall, ↓Ri.x_isi, ↓Ri.x_prop, ↓Ri.Wbo_bl, ↓Ri.x_ucmp, ↓Ri.Wle_int, ↓Ri.x_ulen, ↓Ri.x_fz, ↓Ri.Wj_s, ↓Ri.Wj_0, ↓Ri.Wjd_s, ↓Ri.Wjd_0, ↓Ri.Wfi_i, ↓Ri.W_fld_ins, ↓Ri.W_fld_ref, ↓Ri.x_fld, ↓Ri.x_settle, ↓Ri.W_settle, ↓Ri.Wst_str, ↓Ri.x_mt, ↓Ri.Wml_own, ↓Ri.Wmo_l, ↓Ri.Wil_slot, ↓Ri.Wil_ref, ↓Ri.Wwr_append, ↓Ri.Wwr_extend, ↓Ri.W_wr_slot, ↓Ri.W_wr_ref, ↓Ri.x_mw, ↓Ri.Wx_s, ↓Ri.Wx_0, ↓Ri.Wwp_nil, ↓Ri.Wwp_cons, ↓Ri.Wgo_s, ↓Ri.Wgo_0, ↓Ri.Wun_nil, ↓Ri.Wun_cons, ↓Ri.Wpx_n, ↓Ri.Wpx_v, ↓Ri.Wpl_nil, ↓Ri.Wpl_cons, ↓Ri.W_compR, ↓Ri.x_comp, ↓Ri.compL_nil, ↓Ri.ifR_none, ↓Ri.ifR_some, ↓Ri.compL_cons, ↓Ri.wk_str, ↓Ri.wk_tup, ↓Ri.wk_lst, ↓Ri.wk_klst, ↓Ri.wk_r1, ↓Ri.wk_r2, ↓Ri.wk_enT, ↓Ri.wk_enL, ↓Ri.wk_zT, ↓Ri.wk_zL, ↓Ri.t_nm, ↓Ri.t_tp, ↓Ri.ts_nil, ↓Ri.ts_cons, ↓Ri.Wsb_slot, ↓Ri.Wsb_ref, ↓Ri.t_sub, ↓Ri.Wfs_s, ↓Ri.Wfs_0, ↓Ri.Wrf_r, ↓Ri.t_fld, ↓Ri.r_val, ↓Ri.r_own, ↓Ri.r_own_fld, ↓Ri.r_own_sub, ↓Ri.r_slot, ↓Ri.s_nil, ↓Ri.Wf_n, ↓Ri.Wf_r, ↓Ri.Wf_b, ↓Ri.Wf_c, ↓Ri.s_cons, ↓Ri.s_asg, ↓Ri.s_ex, ↓Ri.s_retN, ↓Ri.s_ret, ↓Ri.ret_val, ↓Ri.ret_own, ↓Ri.Wrv_val, ↓Ri.Wrv_own, ↓Ri.ret_slot, ↓Ri.s_if, ↓Ri.s_for, ↓Ri.for_nil, ↓Ri.Wfl_n, ↓Ri.Wfl_c, ↓Ri.Wfl_b, ↓Ri.Wfl_r, ↓Ri.for_cons, ↓Ri.s_while, ↓Ri.Wnm_val, ↓Ri.Wnm_own, ↓Ri.s_asg2, ↓Ri.s_pass, ↓Ri.s_brk, ↓Ri.s_cnt, ↓Ri.s_wall, ↓Ri.Wi1_i, ↓Ri.s_incfld, ↓Ri.Wre_n, ↓Ri.Wre_v, ↓Ri.Wre_o, ↓Ri.x_new, ↓Ri.x_frz, ↓Ri.Wno_n, ↓Ri.deq_ii, ↓Ri.deq_ss, ↓Ri.deq_nn, ↓Ri.deq_bb, ↓Ri.deq_ns, ↓Ri.deq_sn, ↓Ri.deq_tt, ↓Ri.deq_ll, ↓Ri.s_raise, ↓Ri.s_try, ↓Ri.Wct_nil, ↓Ri.Wct_cons, ↓Ri.W_catch, ↓Ri.compXL_nil, ↓Ri.compXL_cons, ↓Ri.W_compXR, ↓Ri.x_compX, true_and, and_true, List.length_cons, List.length_nil, ↓leL, ↓ltL, Nat.reduceAdd, ↓w_f3, k2, e2]
  match callD tb 20 1001 [.val (.klst (ns.map D.int))] ([Q_B_Row_read_crates, Q_B_parse_store].map O.tab), this with
  | some (.ok a, s), e => exact ⟨s, by rw [show a = _ from e]⟩
end
end L45

set_option maxRecDepth 100000
set_option maxHeartbeats 0
namespace L45
open PySem PySem.Spec PyProof.Rows L2 He Ri Pg
abbrev row : PySem.W.OpenRow := PySem.W.OpenLaw.row PySem.Challenge.rw_coldcrates_k45_texts_rejected
def ms : List (PySem.W.Frag → Addr) := [a24, a26]
abbrev hk : PySem.W.Hook := hookR3 6 fas dns exb ms
def ob (s : PySem.W.SharedT) : He.AlD := obsR3 6 fas dns exb ms (HandSHeadRun.getT s)
theorem ob_eq (s : PySem.W.SharedT) : ob s = hk.obs s.abs := obsR3_eq (HandSHeadRun.getT_eq s)
def loose : List PySem.Str := ["_wall", "__name__", "StoreError", "InvalidStore", "InvalidText", "LETTERS", "MAX_LETTERS", "MAX_DOORS", "MAX_WARMTH", "MAX_BEHIND", "MAX_PLACES", "MAX_CRATES", "is_number", "is_word", "is_door", "are_doors", "are_crates", "Store", "DOOR", "CRATES", "DIGITS", "MOST_DIGITS", "is_count", "Row", "heads_at", "parse_store", "_law_taken", "_law_place"]
theorem runL (w : World) : HandSHeadRun.RunEq row (PySem.W.view row.prog [31]) hk ob 3000 loose w := by
  intro os
  kernel_rfl
theorem facts {l : PySem.W.OpenLaw} {w : World} {K : PySem.W.Frag} {h : Heap} {mg : Str → Option Value} {f : Addr} (Y : SaysM fas dns exb ms h K) (G : h.Ns mainGlobals mg) (hfa : mg ("law" : Str) = some (.ref f)) :
    LamX.LawAtS l w K (CX l.prog w) 80 63 "_law_script" mg f h := by
  obtain ⟨X, c, t⟩ := Y
  have T := fx_of X G c
  obtain ⟨fd, F⟩ := (says_def c (d := dn1001) 20 rfl).1
  have e := hfa.symm.trans T.m1001
  cases e
  have b := FunD.bindsA (ps := ["_law_script"]) F fun _ _ _ _ _ _ us hl => match us, hl with | [_], _ => rfl
  have mem : ∀ p ∈ ms.map (fun m => (codA K (m K), tabA K (m K))), ∃ m ∈ ms, p = (codA K (m K), tabA K (m K)) := fun p hp => by
    obtain ⟨m, h1, h2⟩ := List.mem_map.mp hp
    exact ⟨m, h1, h2.symm⟩
  refine ⟨fd, ms.map (fun m => (codA K (m K), tabA K (m K))), spD (cfg K) (callD tb 20) 1001 1, fun p hp => ?_, fun p hp => ?_, fun p hp => ?_, fun s v => b s [v] rfl, fun H a ns _ _ hH hS => law_startT [Q_B_Row_read_crates, Q_B_parse_store] (by simp only [List.map_cons, List.map_nil, tp24, tp26]; exact nodup2 T.tn24_26) (fun q hq => by
      rcases List.mem_cons.mp hq with rfl | hq
      · rw [tp24]; exact hH (codA K (a24 K), tabA K (a24 K)) (by simp [ms])
      rcases List.mem_cons.mp hq with rfl | hq
      · rw [tp26]; exact hH (codA K (a26 K), tabA K (a26 K)) (by simp [ms])
      cases hq) hS (lawP ns), fun base _ _ tbs => ok1001 T (good T c (tbs (codA K (a24 K), tabA K (a24 K)) (by simp [ms])) (tbs (codA K (a26 K), tabA K (a26 K)) (by simp [ms])) 19) F⟩
  · obtain ⟨m, hm, rfl⟩ := mem p hp
    exact (t m hm).2
  · obtain ⟨m, hm, rfl⟩ := mem p hp
    exact (t m hm).1.2.2
  · obtain ⟨m, hm, rfl⟩ := mem p hp
    exact PySem.W.codeHd_of_K X (t m hm).1.2.1
end L45
open PySem PySem.W PySem.Calls PyProof.Rows
theorem PySem.Challenge.cw_coldcrates_k45_texts_rejected_holds : PySem.Challenge.rw_coldcrates_k45_texts_rejected.Holds := by
  w_on; o_law
  refine HandSHeadRun.head_any (r := L45.row) (q := view L45.row.prog [31]) (H := L45.hk) (ob := L45.ob) (M := 3000) (loose := L45.loose) (d := HandSHeadRun.topDef L45.row.prog 31) (kwd := []) L45.ob_eq
    (by kernel_rfl) (fun s => by kernel_rfl) L45.runL (by kernel_rfl) (by kernel_rfl) (by kernel_rfl) (by rfl) (by first | assumption | decide +kernel) (by decide +kernel) ⟨rfl, rfl, rfl, rfl, rfl, by decide +kernel⟩ ?hw ?hc
  case hw => w_witness2
  case hc =>
    refine LamX.walk_ofTsE (l := PySem.Challenge.rw_coldcrates_k45_texts_rejected) (n := 63) (k := 80) (x := "_law_script") (CX := fun w => L2.CX PySem.Challenge.pw_coldcrates_k45_texts_rejected w) rfl (by decide) (by kernel_rfl) ⟨rfl, by decide, by decide⟩ ?F (fun _ _ _ _ _ z => Ri.noCX z)
    intro w mg fa h Y G hmg0
    obtain ⟨K, Y⟩ := Y
    have hmg : mg ("law" : PySem.Str) = some (.ref fa) := by
      have e : (HandSHeadRun.topDef L45.row.prog 31).name = ("law" : PySem.Str) := by kernel_rfl
      rw [← e]; exact hmg0
    exact ⟨K, Y.1, L45.facts Y G hmg⟩

