import PyProof.Rows.All
import Wide.All
import OpenK.AllK
import Wide.FinOn
import HandS.ForMost
import HandS.ForSpec
import HandS.Wide
import HandS.NoneIn
import HandS.IsInst
import HandS.Style
import HandS.Conv
import HandS.SetFor
import HandS.SortInts
import HandS.Strs
import HandS.Property
import HandS.Iter
import HandS.WideBits
import HandS.ExcInit
import HandS.ExcIs
import HandS.ExcField
import HandS.RaiseMore
import HandS.ExcValue
import HandS.Words
import HandS.Dict
import PyProof.ReprRoads
import PySem.Challenge.RW_leafsplits_k41_errors_of_fitting
set_option Elab.async false
set_option linter.all false
set_option maxRecDepth 100000
/-! The pure layer: readings over plain data (D), with no heap in sight. -/
namespace Zz
open PySem PySem.Spec PyProof.Rows L2

/-- plain data -/
inductive D where
  | non | bl (b : Bool) | int (i : Int) | str (s : Str) | lst (xs : List D) | tup (xs : List D)
  | fls (xs : List D) | obj (c : Str) (fs : List (Str × D)) | dic | adr (a : Addr)
  /-- an exception of the own class c that was caught, without or with a field -/
  | exc (c : Str) (f : Option (Str × D))

def mutb : HO → Bool
  | .tup _ => false
  | .frz _ _ => false
  | .ext _ => false
  | .xd _ => false
  | _ => true
/-- an exception object at a -/
def exk (a : Addr) (cls : Value) (dd : Option Addr) : HO := .ext fun h => ∃ (o : Obj) (vs : Array Value), h.get? a = some o ∧ o.cls = cls ∧ o.dict = dd ∧ o.data = .fields vs

/-- a list that is never written: the script, or one of the written part -/
def SqF (K : PySem.W.Frag) (H : Hp) (a : Addr) (vs : List V) : Prop := (∃ o, H a = some (.frz o (.lst vs))) ∨ SqL K (fun _ => none) a vs
theorem SqF.seq {K : PySem.W.Frag} {H : Hp} {a : Addr} {vs : List V} (h : SqF K H a vs) : SqL K H a vs := by
  rcases h with ⟨o, h⟩ | h
  · exact .inl (.inr ⟨o, h⟩)
  · rcases h with (h | ⟨o, h⟩) | h
    · cases h
    · cases h
    · exact .inr h
theorem seqF {K : PySem.W.Frag} {H : Hp} {a : Addr} {vs : List V} (h : SqL K H a vs) : H a = some (.lst vs) ∨ SqF K H a vs := by
  rcases h with (h | ⟨o, h⟩) | h
  · exact .inl h
  · exact .inr (.inl ⟨o, h⟩)
  · exact .inr (.inr (.inr h))

mutual
/-- the value v stands for the data d; no mutable object of it lies in av -/
inductive Rep (K : PySem.W.Frag) (mg : Str → Option Value) (H : Hp) (av : Addr → Prop) : V → D → Prop
  | non : Rep K mg H av .non .non
  | bl (b : Bool) : Rep K mg H av (.bl b) (.bl b)
  | int (i : Int) : Rep K mg H av (.int i) (.int i)
  | str (s : Str) : Rep K mg H av (.str s) (.str s)
  | lst {a : Addr} {vs : List V} {ds : List D} : H a = some (.lst vs) → ¬ av a → Reps K mg H av vs ds → Rep K mg H av (.ref a) (.lst ds)
  | lsf {a : Addr} {vs : List V} {ds : List D} : SqF K H a vs → Reps K mg H av vs ds → Rep K mg H av (.ref a) (.fls ds)
  | tup {a : Addr} {vs : List V} {ds : List D} : SqT K H a vs → Reps K mg H av vs ds → Rep K mg H av (.ref a) (.tup ds)
  | obj {a C dx : Addr} {c : Str} {vs : List (Str × V)} {fs : List (Str × D)} : H a = some (.ins C dx vs) → mg c = some (.ref C) → ¬ av a → RepF K mg H av vs fs → Rep K mg H av (.ref a) (.obj c fs)
  | dic {a : Addr} : H a = some (.dK []) → ¬ av a → Rep K mg H av (.ref a) .dic
  /-- an address alone -/
  | adr (a : Addr) : Rep K mg H av (.ref a) (.adr a)
  | exc0 {a C : Addr} {c : Str} : H a = some (exk a (.ref C) none) → mg c = some (.ref C) → Rep K mg H av (.ref a) (.exc c none)
  | exc1 {a C dx : Addr} {c n : Str} {v : V} {d : D} : H a = some (exk a (.ref C) (some dx)) → mg c = some (.ref C) → H dx = some (.xd [(n, v)]) → Rep K mg H av v d → Rep K mg H av (.ref a) (.exc c (some (n, d)))
inductive Reps (K : PySem.W.Frag) (mg : Str → Option Value) (H : Hp) (av : Addr → Prop) : List V → List D → Prop
  | nil : Reps K mg H av [] []
  | cons {v : V} {d : D} {vs : List V} {ds : List D} : Rep K mg H av v d → Reps K mg H av vs ds → Reps K mg H av (v :: vs) (d :: ds)
inductive RepF (K : PySem.W.Frag) (mg : Str → Option Value) (H : Hp) (av : Addr → Prop) : List (Str × V) → List (Str × D) → Prop
  | nil : RepF K mg H av [] []
  | cons {n : Str} {v : V} {d : D} {vs : List (Str × V)} {ds : List (Str × D)} : Rep K mg H av v d → RepF K mg H av vs ds → RepF K mg H av ((n, v) :: vs) ((n, d) :: ds)
end

section
variable {K : PySem.W.Frag} {mg : Str → Option Value} {H H' : Hp} {av av' : Addr → Prop}
/-- what carries a representation to another heap -/
def Carry (H H' : Hp) (av av' : Addr → Prop) : Prop := ∀ a o, H a = some o → (mutb o = true → ¬ av a) → H' a = some o ∧ (mutb o = true → ¬ av' a)
theorem Carry.sqF (k : Carry H H' av av') {a : Addr} {vs : List V} (h : SqF K H a vs) : SqF K H' a vs := by
  rcases h with ⟨o, h⟩ | h
  · exact .inl ⟨o, (k a _ h fun z => by cases z).1⟩
  · exact .inr h
theorem Carry.sqT (k : Carry H H' av av') {a : Addr} {vs : List V} (h : SqT K H a vs) : SqT K H' a vs := by
  rcases h with (h | ⟨o, h⟩) | h
  · exact .inl (.inl (k a _ h fun z => by cases z).1)
  · exact .inl (.inr ⟨o, (k a _ h fun z => by cases z).1⟩)
  · exact .inr h
mutual
theorem Rep.carry (k : Carry H H' av av') : ∀ {v : V} {d : D}, Rep K mg H av v d → Rep K mg H' av' v d
  | _, _, .non => .non
  | _, _, .bl b => .bl b
  | _, _, .int i => .int i
  | _, _, .str s => .str s
  | _, _, .lst h n r => .lst (k _ _ h fun _ => n).1 ((k _ _ h fun _ => n).2 rfl) (Reps.carry k r)
  | _, _, .lsf h r => .lsf (k.sqF h) (Reps.carry k r)
  | _, _, .tup h r => .tup (k.sqT h) (Reps.carry k r)
  | _, _, .obj h m n r => .obj (k _ _ h fun _ => n).1 m ((k _ _ h fun _ => n).2 rfl) (RepF.carry k r)
  | _, _, .dic h n => .dic (k _ _ h fun _ => n).1 ((k _ _ h fun _ => n).2 rfl)
  | _, _, .adr a => .adr a
  | _, _, .exc0 h m => .exc0 (k _ _ h fun z => Bool.noConfusion (show false = true from z)).1 m
  | _, _, .exc1 h m h2 r => .exc1 (k _ _ h fun z => Bool.noConfusion (show false = true from z)).1 m (k _ _ h2 fun z => Bool.noConfusion (show false = true from z)).1 (Rep.carry k r)
theorem Reps.carry (k : Carry H H' av av') : ∀ {vs : List V} {ds : List D}, Reps K mg H av vs ds → Reps K mg H' av' vs ds
  | _, _, .nil => .nil
  | _, _, .cons r t => .cons (Rep.carry k r) (Reps.carry k t)
theorem RepF.carry (k : Carry H H' av av') : ∀ {vs : List (Str × V)} {ds : List (Str × D)}, RepF K mg H av vs ds → RepF K mg H' av' vs ds
  | _, _, .nil => .nil
  | _, _, .cons r t => .cons (Rep.carry k r) (RepF.carry k t)
end
theorem Carry.same (s : Same H H') (h : ∀ a, av' a → av a) : Carry H H' av av' := fun a o e n => ⟨s a o e, fun m z => n m (h a z)⟩
theorem Carry.new {p : Addr} {o : HO} (hp : H p = none) : Carry H (upd H p o) av (fun a => av a ∨ a = p) := fun a u e n => by
  have ne : a ≠ p := fun z => by rw [z, hp] at e; cases e
  exact ⟨by rw [upd_ne ne]; exact e, fun m z => z.elim (n m) ne⟩
theorem Carry.write {p : Addr} {o u : HO} (hp : H p = some u) (hm : mutb u = true) (ha : av p) : Carry H (upd H p o) av av := fun a w e n => by
  have ne : a ≠ p := fun z => by
    rw [z, hp] at e
    cases e
    exact n hm (z ▸ ha)
  exact ⟨by rw [upd_ne ne]; exact e, n⟩
theorem Carry.trans {H'' : Hp} {av'' : Addr → Prop} (a : Carry H H' av av') (b : Carry H' H'' av' av'') : Carry H H'' av av'' := fun c o e n =>
  let ⟨x, y⟩ := a c o e n
  b c o x y
theorem Carry.refl : Carry H H av av := fun _ _ e n => ⟨e, n⟩
theorem Same.upd {p : Addr} {o : HO} (hp : H p = none) : Same H (upd H p o) := fun b x e => by
  rw [upd_ne (ne_of_none e hp)]
  exact e

theorem Reps.length : ∀ {vs : List V} {ds : List D}, Reps K mg H av vs ds → vs.length = ds.length
  | _, _, .nil => rfl
  | _, _, .cons _ t => congrArg (· + 1) t.length
theorem Reps.get : ∀ {vs : List V} {ds : List D} {i : Nat} {d : D}, Reps K mg H av vs ds → ds[i]? = some d → ∃ v, vs[i]? = some v ∧ Rep K mg H av v d
  | _, _, _, _, .nil, e => by simp at e
  | _, _, 0, _, .cons r _, e => by simp at e; subst e; exact ⟨_, rfl, r⟩
  | _, _, i + 1, d, .cons r t, e => by
    obtain ⟨v, h1, h2⟩ := Reps.get (i := i) (d := d) t (by simpa using e)
    exact ⟨v, by simpa using h1, h2⟩
theorem Reps.getV : ∀ {vs : List V} {ds : List D} {i : Nat} {v : V}, Reps K mg H av vs ds → vs[i]? = some v → ∃ d, ds[i]? = some d ∧ Rep K mg H av v d
  | _, _, _, _, .nil, e => by simp at e
  | _, _, 0, _, .cons r _, e => by simp at e; subst e; exact ⟨_, rfl, r⟩
  | _, _, i + 1, v, .cons r t, e => by
    obtain ⟨d, h1, h2⟩ := Reps.getV (i := i) (v := v) t (by simpa using e)
    exact ⟨d, by simpa using h1, h2⟩
theorem Reps.append : ∀ {vs ws : List V} {ds es : List D}, Reps K mg H av vs ds → Reps K mg H av ws es → Reps K mg H av (vs ++ ws) (ds ++ es)
  | _, _, _, _, .nil, s => s
  | _, _, _, _, .cons r t, s => .cons r (t.append s)
theorem Reps.set {x : V} {d : D} (r : Rep K mg H av x d) : ∀ {vs : List V} {ds : List D} (i : Nat), Reps K mg H av vs ds → Reps K mg H av (vs.set i x) (ds.set i d)
  | _, _, _, .nil => .nil
  | _, _, 0, .cons _ t => .cons r t
  | _, _, i + 1, .cons q t => .cons q (Reps.set r i t)
theorem Reps.drop : ∀ {vs : List V} {ds : List D} (n : Nat), Reps K mg H av vs ds → Reps K mg H av (vs.drop n) (ds.drop n)
  | _, _, 0, r => r
  | _, _, _ + 1, .nil => .nil
  | _, _, n + 1, .cons _ t => Reps.drop n t
theorem Reps.take : ∀ {vs : List V} {ds : List D} (n : Nat), Reps K mg H av vs ds → Reps K mg H av (vs.take n) (ds.take n)
  | _, _, 0, _ => .nil
  | _, _, _ + 1, .nil => .nil
  | _, _, n + 1, .cons r t => .cons r (Reps.take n t)
theorem Reps.dropLast : ∀ {vs : List V} {ds : List D}, Reps K mg H av vs ds → Reps K mg H av vs.dropLast ds.dropLast
  | _, _, .nil => .nil
  | _, _, .cons _ .nil => .nil
  | _, _, .cons r (.cons q t) => .cons r (Reps.dropLast (.cons q t))
theorem Reps.reverse : ∀ {vs : List V} {ds : List D}, Reps K mg H av vs ds → Reps K mg H av vs.reverse ds.reverse
  | _, _, .nil => .nil
  | _, _, .cons r t => by
    rw [List.reverse_cons, List.reverse_cons]
    exact (Reps.reverse t).append (.cons r .nil)
theorem Rep.int_inv {v : V} {i : Int} (r : Rep K mg H av v (.int i)) : v = .int i := by cases r; rfl
theorem Rep.bl_inv {v : V} {b : Bool} (r : Rep K mg H av v (.bl b)) : v = .bl b := by cases r; rfl
theorem Rep.str_inv {v : V} {b : Str} (r : Rep K mg H av v (.str b)) : v = .str b := by cases r; rfl
theorem Rep.non_inv {v : V} (r : Rep K mg H av v .non) : v = .non := by cases r; rfl
theorem Rep.lst_inv {v : V} {ds : List D} (r : Rep K mg H av v (.lst ds)) : ∃ a vs, v = .ref a ∧ H a = some (.lst vs) ∧ Reps K mg H av vs ds := by
  cases r with
  | lst h n r => exact ⟨_, _, rfl, h, r⟩
theorem Rep.fls_inv {v : V} {ds : List D} (r : Rep K mg H av v (.fls ds)) : ∃ a vs, v = .ref a ∧ SqF K H a vs ∧ Reps K mg H av vs ds := by
  cases r with
  | lsf h r => exact ⟨_, _, rfl, h, r⟩
theorem Rep.tup_inv {v : V} {ds : List D} (r : Rep K mg H av v (.tup ds)) : ∃ a vs, v = .ref a ∧ SqT K H a vs ∧ Reps K mg H av vs ds := by
  cases r with
  | tup h r => exact ⟨_, _, rfl, h, r⟩
theorem Reps.ints : ∀ {vs : List V} {ns : List Int}, Reps K mg H av vs (ns.map D.int) → vs = ns.map V.int
  | _, [], .nil => rfl
  | _, n :: ns, .cons r t => by
    rw [r.int_inv, Reps.ints t]
    rfl
theorem Reps.ofInts : ∀ (ns : List Int), Reps K mg H av (ns.map V.int) (ns.map D.int)
  | [] => .nil
  | n :: ns => .cons (.int n) (Reps.ofInts ns)
theorem Reps.bls : ∀ {vs : List V} {ns : List Bool}, Reps K mg H av vs (ns.map D.bl) → vs = ns.map V.bl
  | _, [], .nil => rfl
  | _, n :: ns, .cons r t => by
    rw [r.bl_inv, Reps.bls t]
    rfl
theorem Reps.strs : ∀ {vs : List V} {ns : List Str}, Reps K mg H av vs (ns.map D.str) → vs = ns.map V.str
  | _, [], .nil => rfl
  | _, n :: ns, .cons r t => by
    rw [r.str_inv, Reps.strs t]
    rfl
end

/-! ### data without mutable objects -/
mutual
def D.tdata : D → Bool
  | .lst _ => false
  | .fls _ => false
  | .obj _ _ => false
  | .adr _ => false
  | .dic => false
  | .exc _ _ => false
  | .tup xs => D.tdatas xs
  | _ => true
def D.tdatas : List D → Bool
  | [] => true
  | x :: xs => x.tdata && D.tdatas xs
end
section
variable {K : PySem.W.Frag} {mg : Str → Option Value} {H : Hp} {av av' : Addr → Prop}
mutual
theorem Rep.free : ∀ {v : V} {d : D}, Rep K mg H av v d → d.tdata = true → Rep K mg H av' v d
  | _, _, .non, _ => .non
  | _, _, .bl b, _ => .bl b
  | _, _, .int i, _ => .int i
  | _, _, .str s, _ => .str s
  | _, _, .lst _ _ _, e => by simp [D.tdata] at e
  | _, _, .lsf _ _, e => by simp [D.tdata] at e
  | _, _, .tup h r, e => .tup h (Reps.free r (by simpa [D.tdata] using e))
  | _, _, .obj _ _ _ _, e => by simp [D.tdata] at e
  | _, _, .adr _, e => by simp [D.tdata] at e
  | _, _, .dic _ _, e => by simp [D.tdata] at e
  | _, _, .exc0 _ _, e => by simp [D.tdata] at e
  | _, _, .exc1 _ _ _ _, e => by simp [D.tdata] at e
theorem Reps.free : ∀ {vs : List V} {ds : List D}, Reps K mg H av vs ds → D.tdatas ds = true → Reps K mg H av' vs ds
  | _, _, .nil, _ => .nil
  | _, _, .cons r t, e => by
    simp only [D.tdatas, Bool.and_eq_true] at e
    exact .cons (Rep.free r e.1) (Reps.free t e.2)
end
end

/-! ### as data that == and repr know -/
mutual
def D.py : D → Option PyData
  | .non => some .none
  | .bl b => some (.bool b)
  | .int i => some (.int i)
  | .str s => some (.str s)
  | .lst xs => (D.pys xs).map .list
  | .fls xs => (D.pys xs).map .list
  | .tup xs => (D.pys xs).map .tuple
  | _ => none
def D.pys : List D → Option (List PyData)
  | [] => some []
  | x :: xs => x.py.bind fun p => (D.pys xs).map fun ps => p :: ps
end
section
variable {K : PySem.W.Frag} {mg : Str → Option Value} {H : Hp} {av : Addr → Prop}
mutual
theorem Rep.dp : ∀ {v : V} {d : D} {p : PyData}, Rep K mg H av v d → d.py = some p → Dp K H v p
  | _, _, _, .non, e => by simp [D.py] at e; subst e; exact .non
  | _, _, _, .bl b, e => by simp [D.py] at e; subst e; exact .bl b
  | _, _, _, .int i, e => by simp [D.py] at e; subst e; exact .int i
  | _, _, _, .str s, e => by simp [D.py] at e; subst e; exact .str s
  | _, _, _, .lst h n r, e => by
    simp only [D.py, Option.map_eq_some_iff] at e
    obtain ⟨ps, e, rfl⟩ := e
    exact .lst (.inl (.inl h)) (Reps.dp r e)
  | _, _, _, .lsf h r, e => by
    simp only [D.py, Option.map_eq_some_iff] at e
    obtain ⟨ps, e, rfl⟩ := e
    exact .lst h.seq (Reps.dp r e)
  | _, _, _, .tup h r, e => by
    simp only [D.py, Option.map_eq_some_iff] at e
    obtain ⟨ps, e, rfl⟩ := e
    exact .tup h (Reps.dp r e)
  | _, _, _, .obj _ _ _ _, e => by simp [D.py] at e
  | _, _, _, .dic _ _, e => by simp [D.py] at e
  | _, _, _, .exc0 _ _, e => by simp [D.py] at e
  | _, _, _, .exc1 _ _ _ _, e => by simp [D.py] at e
theorem Reps.dp : ∀ {vs : List V} {ds : List D} {ps : List PyData}, Reps K mg H av vs ds → D.pys ds = some ps → DpAll K H vs ps
  | _, _, _, .nil, e => by simp [D.pys] at e; subst e; exact .nil
  | _, _, _, .cons r t, e => by
    simp only [D.pys, Option.bind_eq_some_iff, Option.map_eq_some_iff] at e
    obtain ⟨p, e1, ps, e2, rfl⟩ := e
    exact .cons (Rep.dp r e1) (Reps.dp t e2)
end
end

/-! ### the state -/
/-- what a slot holds: nothing known, data, a list of its own -/
inductive Sl where
  | un | sh (d : D) | ow (xs : List D)
abbrev SS := List Sl

structure Zc where
  H0 : Hp
  av : Addr → Prop
  bag : Option Addr
  ez : Str → Option (Str × D) → Prop

def avs (Z : Zc) (S : SS) (σ : L2.St) : Addr → Prop := fun a => Z.av a ∨ ∃ (i : Nat) (xs : List D), S[i]? = some (.ow xs) ∧ σ[i]? = some (some (.ref a))

structure SlotsOk (X : Cx) (av : Addr → Prop) (S : SS) (σ : L2.St) (H : Hp) : Prop where
  sh : ∀ (i : Nat) d, S[i]? = some (.sh d) → ∃ v, σ[i]? = some (some v) ∧ Rep X.K X.mg H av v d
  ow : ∀ (i : Nat) xs, S[i]? = some (.ow xs) → ∃ a vs, σ[i]? = some (some (.ref a)) ∧ H a = some (.lst vs) ∧ Reps X.K X.mg H av vs xs

structure Ok (X : Cx) (Z : Zc) (S : SS) (σ : L2.St) (H : Hp) : Prop where
  len : S.length = σ.length
  sl : SlotsOk X (avs Z S σ) S σ H
  inj : ∀ (i j : Nat) xs ys a, S[i]? = some (.ow xs) → S[j]? = some (.ow ys) → σ[i]? = some (some (.ref a)) → σ[j]? = some (some (.ref a)) → i = j
  own : ∀ (i : Nat) xs a, S[i]? = some (.ow xs) → σ[i]? = some (some (.ref a)) → (Z.H0 a = none ∨ Z.bag = some a) ∧ ¬ Z.av a
  ext : ∀ a o, Z.H0 a = some o → Z.bag ≠ some a → H a = some o
  avd : ∀ a, Z.av a → H a ≠ none
  bag : ∀ b, Z.bag = some b → ∃ xs, S[0]? = some (.ow xs) ∧ σ[0]? = some (some (.ref b))

section
variable {X : Cx} {Z : Zc} {S S' : SS} {σ σ' : L2.St} {H H' : Hp}
theorem SlotsOk.carry {av av' : Addr → Prop} (s : SlotsOk X av S σ H) (k : Carry H H' av av') (ko : ∀ (i : Nat) xs a vs, S[i]? = some (.ow xs) → σ[i]? = some (some (.ref a)) → H a = some (.lst vs) → H' a = some (.lst vs)) : SlotsOk X av' S σ H' := by
  refine ⟨fun i d e => ?_, fun i xs e => ?_⟩
  · obtain ⟨v, h1, h2⟩ := s.sh i d e
    exact ⟨v, h1, h2.carry k⟩
  · obtain ⟨a, vs, h1, h2, h3⟩ := s.ow i xs e
    exact ⟨a, vs, h1, ko i xs a vs e h1 h2, h3.carry k⟩
/-- nothing but new objects -/
theorem Ok.same (ok : Ok X Z S σ H) (s : Same H H') : Ok X Z S σ H' :=
  ⟨ok.len, ok.sl.carry (.same s fun _ z => z) fun _ _ a vs _ _ e => s a _ e, ok.inj, ok.own, fun a o e n => s a o (ok.ext a o e n), fun a z e => ok.avd a z (s.free e), ok.bag⟩
theorem Ok.hasOw (ok : Ok X Z S σ H) {i : Nat} {xs : List D} (e : S[i]? = some (.ow xs)) : ∃ a vs, σ[i]? = some (some (.ref a)) ∧ H a = some (.lst vs) ∧ Reps X.K X.mg H (avs Z S σ) vs xs := ok.sl.ow i xs e
theorem avs_at {i : Nat} {xs : List D} {a : Addr} (e : S[i]? = some (.ow xs)) (h : σ[i]? = some (some (.ref a))) : avs Z S σ a := .inr ⟨i, xs, e, h⟩
/-- the content of an own list changes -/
theorem set_ow {i j : Nat} {xs ys zs : List D} (e : S[i]? = some (.ow xs)) (h : (S.set i (.ow ys))[j]? = some (.ow zs)) : ∃ ws, S[j]? = some (.ow ws) := by
  by_cases hj : i = j
  · subst hj; exact ⟨xs, e⟩
  · rw [List.getElem?_set_ne hj] at h; exact ⟨zs, h⟩
theorem ow_set {i j : Nat} {xs ys ws : List D} (e : S[i]? = some (.ow xs)) (h : S[j]? = some (.ow ws)) : ∃ zs, (S.set i (.ow ys))[j]? = some (.ow zs) := by
  by_cases hj : i = j
  · subst hj
    exact ⟨ys, List.getElem?_set_self (List.getElem?_eq_some_iff.mp e).1⟩
  · exact ⟨ws, by rw [List.getElem?_set_ne hj]; exact h⟩
theorem avs_set {i : Nat} {xs ys : List D} (e : S[i]? = some (.ow xs)) : avs Z (S.set i (.ow ys)) σ = avs Z S σ := by
  funext a
  refine propext ⟨fun h => ?_, fun h => ?_⟩
  · rcases h with h | ⟨j, zs, h1, h2⟩
    · exact .inl h
    · obtain ⟨ws, h3⟩ := set_ow e h1
      exact .inr ⟨j, ws, h3, h2⟩
  · rcases h with h | ⟨j, zs, h1, h2⟩
    · exact .inl h
    · obtain ⟨ws, h3⟩ := ow_set (ys := ys) e h1
      exact .inr ⟨j, ws, h3, h2⟩
theorem Ok.write (ok : Ok X Z S σ H) {i : Nat} {xs ys : List D} {a : Addr} {vs ws : List V} (e : S[i]? = some (.ow xs)) (ha : σ[i]? = some (some (.ref a))) (hv : H a = some (.lst vs)) (hw : Reps X.K X.mg H (avs Z S σ) ws ys) :
    Ok X Z (S.set i (.ow ys)) σ (upd H a (.lst ws)) := by
  have k : Carry H (upd H a (.lst ws)) (avs Z S σ) (avs Z S σ) := .write hv rfl (avs_at e ha)
  have hil : i < S.length := (List.getElem?_eq_some_iff.mp e).1
  refine ⟨by rw [List.length_set]; exact ok.len, ⟨fun j d h => ?_, fun j zs h => ?_⟩, fun j l zs ys' b h1 h2 h3 h4 => ?_, fun j zs b h1 h2 => ?_, fun b o h n => ?_, fun b z h => ?_, fun b h => ?_⟩
  · have hj : i ≠ j := fun z => by
      subst z
      rw [List.getElem?_set_self hil] at h
      cases h
    rw [List.getElem?_set_ne hj] at h
    obtain ⟨v, h1, h2⟩ := ok.sl.sh j d h
    rw [avs_set e]
    exact ⟨v, h1, h2.carry k⟩
  · rw [avs_set e]
    by_cases hj : i = j
    · subst hj
      rw [List.getElem?_set_self hil] at h
      cases h
      exact ⟨a, ws, ha, upd_same, hw.carry k⟩
    · rw [List.getElem?_set_ne hj] at h
      obtain ⟨b, us, h1, h2, h3⟩ := ok.sl.ow j zs h
      have ne : b ≠ a := fun z => hj (ok.inj i j _ _ a e h ha (z ▸ h1))
      exact ⟨b, us, h1, by rw [upd_ne ne]; exact h2, h3.carry k⟩
  · obtain ⟨_, q1⟩ := set_ow e h1
    obtain ⟨_, q2⟩ := set_ow e h2
    exact ok.inj j l _ _ b q1 q2 h3 h4
  · obtain ⟨_, q1⟩ := set_ow e h1
    exact ok.own j _ b q1 h2
  · have ne : b ≠ a := fun z => by
      subst z
      rcases (ok.own i xs b e ha).1 with q | q
      · rw [h] at q; cases q
      · exact n q
    rw [upd_ne ne]
    exact ok.ext b o h n
  · by_cases hb : b = a
    · subst hb; rw [upd_same] at h; cases h
    · rw [upd_ne hb] at h; exact ok.avd b z h
  · obtain ⟨zs, h1, h2⟩ := ok.bag b h
    obtain ⟨us, h3⟩ := ow_set (ys := ys) e h1
    exact ⟨us, h3, h2⟩
/-- an own list is not changed any more -/
theorem avs_frz {i : Nat} {d : D} : ∀ a, avs Z (S.set i (.sh d)) σ a → avs Z S σ a := fun a h => by
  rcases h with h | ⟨j, zs, h1, h2⟩
  · exact .inl h
  · have hj : i ≠ j := fun z => by
      subst z
      by_cases hl : i < S.length
      · rw [List.getElem?_set_self hl] at h1; cases h1
      · rw [List.getElem?_eq_none (by simpa using hl)] at h1; cases h1
    rw [List.getElem?_set_ne hj] at h1
    exact .inr ⟨j, zs, h1, h2⟩
theorem Ok.frz (ok : Ok X Z S σ H) {i : Nat} {xs : List D} {a : Addr} (e : S[i]? = some (.ow xs)) (ha : σ[i]? = some (some (.ref a))) (hb : Z.bag = none ∨ i ≠ 0) :
    Ok X Z (S.set i (.sh (.lst xs))) σ H ∧ Rep X.K X.mg H (avs Z (S.set i (.sh (.lst xs))) σ) (.ref a) (.lst xs) := by
  have hil : i < S.length := (List.getElem?_eq_some_iff.mp e).1
  obtain ⟨a', vs, ha', hv, hr⟩ := ok.sl.ow i xs e
  rw [ha] at ha'
  cases ha'
  have k : Carry H H (avs Z S σ) (avs Z (S.set i (.sh (.lst xs))) σ) := .same (Same.refl H) avs_frz
  have back : ∀ {j : Nat} {zs : List D}, (S.set i (.sh (.lst xs)))[j]? = some (.ow zs) → i ≠ j ∧ S[j]? = some (.ow zs) := fun {j zs} h => by
    have hj : i ≠ j := fun z => by
      subst z
      rw [List.getElem?_set_self hil] at h; cases h
    rw [List.getElem?_set_ne hj] at h
    exact ⟨hj, h⟩
  have na : ¬ avs Z (S.set i (.sh (.lst xs))) σ a := fun h => by
    rcases h with h | ⟨j, zs, h1, h2⟩
    · exact (ok.own i xs a e ha).2 h
    · obtain ⟨hj, h1⟩ := back h1
      exact hj (ok.inj i j _ _ a e h1 ha h2)
  have rep : Rep X.K X.mg H (avs Z (S.set i (.sh (.lst xs))) σ) (.ref a) (.lst xs) := .lst hv na (hr.carry k)
  refine ⟨⟨by rw [List.length_set]; exact ok.len, ⟨fun j d h => ?_, fun j zs h => ?_⟩, fun j l zs ys' b h1 h2 h3 h4 => ?_, fun j zs b h1 h2 => ?_, ok.ext, ok.avd, fun b h => ?_⟩, rep⟩
  · by_cases hj : i = j
    · subst hj
      rw [List.getElem?_set_self hil] at h
      cases h
      exact ⟨_, ha, rep⟩
    · rw [List.getElem?_set_ne hj] at h
      obtain ⟨v, h1, h2⟩ := ok.sl.sh j d h
      exact ⟨v, h1, h2.carry k⟩
  · obtain ⟨_, h⟩ := back h
    obtain ⟨b, us, h1, h2, h3⟩ := ok.sl.ow j zs h
    exact ⟨b, us, h1, h2, h3.carry k⟩
  · exact ok.inj j l _ _ b (back h1).2 (back h2).2 h3 h4
  · exact ok.own j _ b (back h1).2 h2
  · obtain ⟨zs, h1, h2⟩ := ok.bag b h
    have hi0 : i ≠ 0 := by
      rcases hb with z | z
      · rw [z] at h; cases h
      · exact z
    exact ⟨zs, by rw [List.getElem?_set_ne hi0]; exact h1, h2⟩
/-- a slot gets data -/
theorem Ok.setSh (ok : Ok X Z S σ H) {i : Nat} {v : V} {d : D} (r : Rep X.K X.mg H (avs Z S σ) v d) (hb : Z.bag = none ∨ i ≠ 0) :
    Ok X Z (S.set i (.sh d)) (σ.set i (some v)) H ∧ Carry H H (avs Z S σ) (avs Z (S.set i (.sh d)) (σ.set i (some v))) := by
  have back : ∀ {j : Nat} {zs : List D}, (S.set i (.sh d))[j]? = some (.ow zs) → i ≠ j ∧ S[j]? = some (.ow zs) := fun {j zs} h => by
    have hj : i ≠ j := fun z => by
      subst z
      by_cases hl : i < S.length
      · rw [List.getElem?_set_self hl] at h; cases h
      · rw [List.getElem?_eq_none (by simpa using hl)] at h; cases h
    rw [List.getElem?_set_ne hj] at h
    exact ⟨hj, h⟩
  have sub : ∀ a, avs Z (S.set i (.sh d)) (σ.set i (some v)) a → avs Z S σ a := fun a h => by
    rcases h with h | ⟨j, zs, h1, h2⟩
    · exact .inl h
    · obtain ⟨hj, h1⟩ := back h1
      rw [List.getElem?_set_ne hj] at h2
      exact .inr ⟨j, zs, h1, h2⟩
  have k : Carry H H (avs Z S σ) (avs Z (S.set i (.sh d)) (σ.set i (some v))) := .same (Same.refl H) sub
  refine ⟨⟨by rw [List.length_set, List.length_set]; exact ok.len, ⟨fun j d' h => ?_, fun j zs h => ?_⟩, fun j l zs ys' b h1 h2 h3 h4 => ?_, fun j zs b h1 h2 => ?_, ok.ext, ok.avd, fun b h => ?_⟩, k⟩
  · by_cases hj : i = j
    · subst hj
      have hil : i < S.length := by
        have := (List.getElem?_eq_some_iff.mp h).1
        simpa using this
      rw [List.getElem?_set_self hil] at h
      cases h
      exact ⟨v, List.getElem?_set_self (ok.len ▸ hil), r.carry k⟩
    · rw [List.getElem?_set_ne hj] at h
      obtain ⟨v', h1, h2⟩ := ok.sl.sh j d' h
      exact ⟨v', by rw [List.getElem?_set_ne hj]; exact h1, h2.carry k⟩
  · obtain ⟨hj, h⟩ := back h
    obtain ⟨b, us, h1, h2, h3⟩ := ok.sl.ow j zs h
    exact ⟨b, us, by rw [List.getElem?_set_ne hj]; exact h1, h2, h3.carry k⟩
  · obtain ⟨n1, h1⟩ := back h1
    obtain ⟨n2, h2⟩ := back h2
    rw [List.getElem?_set_ne n1] at h3
    rw [List.getElem?_set_ne n2] at h4
    exact ok.inj j l _ _ b h1 h2 h3 h4
  · obtain ⟨n1, h1⟩ := back h1
    rw [List.getElem?_set_ne n1] at h2
    exact ok.own j _ b h1 h2
  · obtain ⟨zs, h1, h2⟩ := ok.bag b h
    have hi0 : i ≠ 0 := by
      rcases hb with z | z
      · rw [z] at h; cases h
      · exact z
    exact ⟨zs, by rw [List.getElem?_set_ne hi0]; exact h1, by rw [List.getElem?_set_ne hi0]; exact h2⟩
/-- a list that nobody else knows, at a -/
structure Fresh (X : Cx) (Z : Zc) (S : SS) (σ : L2.St) (H : Hp) (a : Addr) (xs : List D) : Prop where
  at_ : ∃ vs, H a = some (.lst vs) ∧ Reps X.K X.mg H (fun b => avs Z S σ b ∨ b = a) vs xs
  new : Z.H0 a = none
  nav : ¬ avs Z S σ a
  sl : SlotsOk X (fun b => avs Z S σ b ∨ b = a) S σ H
theorem Fresh.rep {a : Addr} {xs : List D} (f : Fresh X Z S σ H a xs) : Rep X.K X.mg H (avs Z S σ) (.ref a) (.lst xs) := by
  obtain ⟨vs, h, r⟩ := f.at_
  exact .lst h f.nav (r.carry (.same (Same.refl H) fun _ z => .inl z))
/-- a new list is laid -/
theorem Ok.newL (ok : Ok X Z S σ H) {a : Addr} {vs : List V} {xs : List D} (ha : H a = none) (r : Reps X.K X.mg H (avs Z S σ) vs xs) : Ok X Z S σ (upd H a (.lst vs)) ∧ Fresh X Z S σ (upd H a (.lst vs)) a xs := by
  have s : Same H (upd H a (.lst vs)) := Same.upd ha
  have k : Carry H (upd H a (.lst vs)) (avs Z S σ) (fun b => avs Z S σ b ∨ b = a) := .new ha
  refine ⟨ok.same s, ⟨vs, upd_same, r.carry k⟩, ?_, fun h => ?_, ok.sl.carry k fun _ _ b us _ _ e => s b _ e⟩
  · cases e : Z.H0 a with
    | none => rfl
    | some o =>
      by_cases hb : Z.bag = some a
      · obtain ⟨zs, h1, h2⟩ := ok.bag a hb
        obtain ⟨b, us, h3, h4, _⟩ := ok.sl.ow 0 zs h1
        rw [h2] at h3
        cases h3
        rw [ha] at h4
        cases h4
      · have := ok.ext a o e hb
        rw [ha] at this
        cases this
  · rcases h with h | ⟨j, zs, h1, h2⟩
    · exact ok.avd a h ha
    · obtain ⟨b, us, h3, h4, _⟩ := ok.sl.ow j zs h1
      rw [h2] at h3
      cases h3
      rw [ha] at h4
      cases h4
/-- a slot gets a list of its own -/
theorem Ok.setOw (ok : Ok X Z S σ H) {i : Nat} {a : Addr} {xs : List D} (f : Fresh X Z S σ H a xs) (hb : Z.bag = none ∨ i ≠ 0) :
    Ok X Z (S.set i (.ow xs)) (σ.set i (some (.ref a))) H ∧ (∀ {v : V} {d : D}, Rep X.K X.mg H (fun b => avs Z S σ b ∨ b = a) v d → Rep X.K X.mg H (avs Z (S.set i (.ow xs)) (σ.set i (some (.ref a)))) v d) := by
  obtain ⟨vs, hv, hr⟩ := f.at_
  have sub : ∀ b, avs Z (S.set i (.ow xs)) (σ.set i (some (.ref a))) b → avs Z S σ b ∨ b = a := fun b h => by
    rcases h with h | ⟨j, zs, h1, h2⟩
    · exact .inl (.inl h)
    · by_cases hj : i = j
      · subst hj
        have hil : i < S.length := by
          have := (List.getElem?_eq_some_iff.mp h1).1
          simpa using this
        rw [List.getElem?_set_self (ok.len ▸ hil)] at h2
        cases h2
        exact .inr rfl
      · rw [List.getElem?_set_ne hj] at h1 h2
        exact .inl (.inr ⟨j, zs, h1, h2⟩)
  have k : Carry H H (fun b => avs Z S σ b ∨ b = a) (avs Z (S.set i (.ow xs)) (σ.set i (some (.ref a)))) := .same (Same.refl H) sub
  have other : ∀ {j : Nat} {zs : List D} {b : Addr}, S[j]? = some (.ow zs) → σ[j]? = some (some (.ref b)) → b ≠ a := fun {j zs b} h1 h2 z => f.nav (.inr ⟨j, zs, h1, z ▸ h2⟩)
  refine ⟨⟨by rw [List.length_set, List.length_set]; exact ok.len, ⟨fun j d' h => ?_, fun j zs h => ?_⟩, fun j l zs ys' b h1 h2 h3 h4 => ?_, fun j zs b h1 h2 => ?_, ok.ext, ok.avd, fun b h => ?_⟩, fun r => r.carry k⟩
  · have hj : i ≠ j := fun z => by
      subst z
      have hil : i < S.length := by
        have := (List.getElem?_eq_some_iff.mp h).1
        simpa using this
      rw [List.getElem?_set_self hil] at h
      cases h
    rw [List.getElem?_set_ne hj] at h
    obtain ⟨v', h1, h2⟩ := f.sl.sh j d' h
    exact ⟨v', by rw [List.getElem?_set_ne hj]; exact h1, h2.carry k⟩
  · by_cases hj : i = j
    · subst hj
      have hil : i < S.length := by
        have := (List.getElem?_eq_some_iff.mp h).1
        simpa using this
      rw [List.getElem?_set_self hil] at h
      cases h
      exact ⟨a, vs, List.getElem?_set_self (ok.len ▸ hil), hv, hr.carry k⟩
    · rw [List.getElem?_set_ne hj] at h
      obtain ⟨b, us, h1, h2, h3⟩ := f.sl.ow j zs h
      exact ⟨b, us, by rw [List.getElem?_set_ne hj]; exact h1, h2, h3.carry k⟩
  · by_cases hj : i = j
    · by_cases hl : i = l
      · rw [← hj, ← hl]
      · subst hj
        have hil : i < S.length := by
          have := (List.getElem?_eq_some_iff.mp h1).1
          simpa using this
        rw [List.getElem?_set_self (ok.len ▸ hil)] at h3
        cases h3
        rw [List.getElem?_set_ne hl] at h2 h4
        exact absurd rfl (other h2 h4)
    · rw [List.getElem?_set_ne hj] at h1 h3
      by_cases hl : i = l
      · subst hl
        have hil : i < S.length := by
          have := (List.getElem?_eq_some_iff.mp h2).1
          simpa using this
        rw [List.getElem?_set_self (ok.len ▸ hil)] at h4
        cases h4
        exact absurd rfl (other h1 h3)
      · rw [List.getElem?_set_ne hl] at h2 h4
        exact ok.inj j l _ _ b h1 h2 h3 h4
  · by_cases hj : i = j
    · subst hj
      have hil : i < S.length := by
        have := (List.getElem?_eq_some_iff.mp h1).1
        simpa using this
      rw [List.getElem?_set_self (ok.len ▸ hil)] at h2
      cases h2
      exact ⟨.inl f.new, fun z => f.nav (.inl z)⟩
    · rw [List.getElem?_set_ne hj] at h1 h2
      exact ok.own j zs b h1 h2
  · obtain ⟨zs, h1, h2⟩ := ok.bag b h
    have hi0 : i ≠ 0 := by
      rcases hb with z | z
      · rw [z] at h; cases h
      · exact z
    exact ⟨zs, by rw [List.getElem?_set_ne hi0]; exact h1, by rw [List.getElem?_set_ne hi0]; exact h2⟩
end
end Zz

/-! The pure layer: judgements and rules for expressions. -/
namespace Zz
open PySem PySem.Spec PyProof.Rows L2

abbrev ZE := SS → (D → SS → Prop) → Prop
abbrev ZT := SS → (Bool → SS → Prop) → Prop
abbrev ZA := SS → (List D → SS → Prop) → Prop
/-- a value that is looked at: data, or the own list of a slot -/
inductive DV where
  | sh (d : D) | at (i : Nat)
abbrev ZV := SS → (DV → SS → Prop) → Prop

/-- all that was represented still is; what is not ours stays -/
structure Frm (X : Cx) (Z : Zc) (S : SS) (σ : L2.St) (H : Hp) (S' : SS) (σ' : L2.St) (H' : Hp) : Prop where
  rp : ∀ v d, Rep X.K X.mg H (avs Z S σ) v d → Rep X.K X.mg H' (avs Z S' σ') v d
  pr : ∀ a, Z.av a → H' a = H a
section
variable {X : Cx} {Z : Zc} {S S' S'' : SS} {σ σ' σ'' : L2.St} {H H' H'' : Hp}
theorem Frm.refl : Frm X Z S σ H S σ H := ⟨fun _ _ r => r, fun _ _ => rfl⟩
theorem Frm.trans (a : Frm X Z S σ H S' σ' H') (b : Frm X Z S' σ' H' S'' σ'' H'') : Frm X Z S σ H S'' σ'' H'' := ⟨fun v d r => b.rp v d (a.rp v d r), fun c h => (b.pr c h).trans (a.pr c h)⟩
theorem Frm.of (k : Carry H H' (avs Z S σ) (avs Z S' σ')) (p : ∀ a, Z.av a → H' a = H a) : Frm X Z S σ H S' σ' H' := ⟨fun _ _ r => r.carry k, p⟩
theorem Ok.prot (ok : Ok X Z S σ H) (s : Same H H') : ∀ a, Z.av a → H' a = H a := fun a h => by
  cases e : H a with
  | none => exact absurd e (ok.avd a h)
  | some o => exact s a o e
theorem Frm.same (ok : Ok X Z S σ H) (s : Same H H') : Frm X Z S σ H S σ H' := .of (.same s fun _ z => z) (ok.prot s)
theorem Frm.reps (f : Frm X Z S σ H S' σ' H') : ∀ {vs : List V} {ds : List D}, Reps X.K X.mg H (avs Z S σ) vs ds → Reps X.K X.mg H' (avs Z S' σ') vs ds
  | _, _, .nil => .nil
  | _, _, .cons r t => .cons (f.rp _ _ r) (f.reps t)
theorem Ok.avsd (ok : Ok X Z S σ H) : ∀ a, avs Z S σ a → H a ≠ none := fun a h => by
  rcases h with h | ⟨i, xs, h1, h2⟩
  · exact ok.avd a h
  · obtain ⟨b, vs, h3, h4, _⟩ := ok.sl.ow i xs h1
    rw [h2] at h3
    cases h3
    rw [h4]
    simp
end

def RVal (X : Cx) (Z : Zc) (S : SS) (σ : L2.St) (H : Hp) (v : V) : DV → Prop
  | .sh d => Rep X.K X.mg H (avs Z S σ) v d
  | .at i => σ[i]? = some (some v)
theorem RVal.frm {X : Cx} {Z : Zc} {S S' : SS} {σ : L2.St} {H H' : Hp} {v : V} {dv : DV} (r : RVal X Z S σ H v dv) (f : Frm X Z S σ H S' σ H') : RVal X Z S' σ H' v dv := by
  cases dv with
  | sh d => exact f.rp _ _ r
  | «at» i => exact r

/-- an expression: its value is data -/
structure PD (X : Cx) (P : Zc → Prop) (e : Expr) (t : ZE) : Prop where
  ex : ∃ t0 : TE, PE X e t0 ∧ ∀ (Z : Zc), P Z → ∀ (S : SS) (σ : L2.St) (H : Hp) (Qz : D → SS → Prop) (Q : VK), Ok X Z S σ H → t S Qz →
    (∀ d S' v H', Qz d S' → Ok X Z S' σ H' → Frm X Z S σ H S' σ H' → Rep X.K X.mg H' (avs Z S' σ) v d → Q v H') → t0 σ H Q
/-- .. is a new list -/
structure PF (X : Cx) (P : Zc → Prop) (e : Expr) (t : ZA) : Prop where
  ex : ∃ t0 : TE, PE X e t0 ∧ ∀ (Z : Zc), P Z → ∀ (S : SS) (σ : L2.St) (H : Hp) (Qz : List D → SS → Prop) (Q : VK), Ok X Z S σ H → t S Qz →
    (∀ xs S' a H', Qz xs S' → Ok X Z S' σ H' → Frm X Z S σ H S' σ H' → Fresh X Z S' σ H' a xs → (∀ v d, Rep X.K X.mg H (avs Z S σ) v d → Rep X.K X.mg H' (fun b => avs Z S' σ b ∨ b = a) v d) → Q (.ref a) H') → t0 σ H Q
/-- .. is looked at at once -/
structure PV (X : Cx) (P : Zc → Prop) (e : Expr) (t : ZV) : Prop where
  ex : ∃ t0 : TE, PE X e t0 ∧ ∀ (Z : Zc), P Z → ∀ (S : SS) (σ : L2.St) (H : Hp) (Qz : DV → SS → Prop) (Q : VK), Ok X Z S σ H → t S Qz →
    (∀ d S' v H', Qz d S' → Ok X Z S' σ H' → Frm X Z S σ H S' σ H' → RVal X Z S' σ H' v d → Q v H') → t0 σ H Q
structure PTd (X : Cx) (P : Zc → Prop) (e : Expr) (t : ZT) : Prop where
  ex : ∃ t0 : TT, PT X e t0 ∧ ∀ (Z : Zc), P Z → ∀ (S : SS) (σ : L2.St) (H : Hp) (Qz : Bool → SS → Prop) (Q : Bool → Hp → Prop), Ok X Z S σ H → t S Qz →
    (∀ b S' H', Qz b S' → Ok X Z S' σ H' → Frm X Z S σ H S' σ H' → Q b H') → t0 σ H Q
structure PWd (X : Cx) (P : Zc → Prop) (e : Expr) (t : ZT) : Prop where
  ex : ∃ t0 : TT, PW X e t0 ∧ ∀ (Z : Zc), P Z → ∀ (S : SS) (σ : L2.St) (H : Hp) (Qz : Bool → SS → Prop) (Q : Bool → Hp → Prop), Ok X Z S σ H → t S Qz →
    (∀ b S' H', Qz b S' → Ok X Z S' σ H' → Frm X Z S σ H S' σ H' → Q b H') → t0 σ H Q
structure PAd (X : Cx) (P : Zc → Prop) (es : List Expr) (t : ZA) : Prop where
  ex : ∃ t0 : TA, PA X es t0 ∧ ∀ (Z : Zc), P Z → ∀ (S : SS) (σ : L2.St) (H : Hp) (Qz : List D → SS → Prop) (Q : List V → Hp → Prop), Ok X Z S σ H → t S Qz →
    (∀ ds S' vs H', Qz ds S' → Ok X Z S' σ H' → Frm X Z S σ H S' σ H' → Reps X.K X.mg H' (avs Z S' σ) vs ds → Q vs H') → t0 σ H Q

section
variable {X : Cx} {Z : Zc} {P : Zc → Prop} {e a b c : Expr} {pos : Pos}

/-! ### coercions -/
def zShV (t : ZE) : ZV := fun S Q => t S fun d S' => Q (.sh d) S'
theorem PD.pv {t : ZE} (h : PD X P e t) : PV X P e (zShV t) := by
  obtain ⟨t0, p, q⟩ := h.ex
  exact ⟨t0, p, fun Z hZ S σ H Qz Q ok hq k => q Z hZ S σ H _ Q ok hq fun d S' v H' h1 o f r => k _ S' v H' h1 o f r⟩
def zFD (t : ZA) : ZE := fun S Q => t S fun xs S' => Q (.lst xs) S'
theorem PF.pd {t : ZA} (h : PF X P e t) : PD X P e (zFD t) := by
  obtain ⟨t0, p, q⟩ := h.ex
  exact ⟨t0, p, fun Z hZ S σ H Qz Q ok hq k => q Z hZ S σ H _ Q ok hq fun xs S' a H' h1 o f r _ => k _ S' _ H' h1 o f r.rep⟩

/-! ### names and constants -/
/-- a name whose slot holds data; an own list is frozen by it -/
def zVar (i : Nat) : ZE := fun S Q => match S[i]? with
  | some (.sh d) => Q d S
  | some (.ow xs) => Q (.lst xs) (S.set i (.sh (.lst xs)))
  | _ => False
def zVarV (i : Nat) : ZV := fun S Q => match S[i]? with
  | some (.sh d) => Q (.sh d) S
  | some (.ow _) => Q (.at i) S
  | _ => False
theorem pd_var (i : Nat) {x : Str} (hb : ∀ Z, P Z → Z.bag = none ∨ i ≠ 0) (hN : X.N[i]? = some x := by rfl) (hv : Vis X.env.scope x := by first | exact Or.inl rfl | exact Or.inr (Or.inl rfl) | exact Or.inr (Or.inr rfl)) (hd : (x == ("__debug__" : Str)) = false := by decide)
    (hcd : (x == ("__classdict__" : Str)) = false := by decide) : PD X P (.Name x pos) (zVar i) := by
  refine ⟨_, pe_var (i := i) hN hv hd hcd, fun Z hZ S σ H Qz Q ok h k => ?_⟩
  unfold zVar at h
  split at h
  · rename_i d e
    obtain ⟨v, h1, h2⟩ := ok.sl.sh i d e
    exact ⟨v, h1, k d S v H h ok .refl h2⟩
  · rename_i xs e
    obtain ⟨a, vs, h1, h2, h3⟩ := ok.sl.ow i xs e
    obtain ⟨ok2, r⟩ := ok.frz e h1 (hb Z hZ)
    exact ⟨_, h1, k _ _ _ H h ok2 (Frm.of (.same (Same.refl H) avs_frz) fun _ _ => rfl) r⟩
  · exact h.elim
theorem pv_var (i : Nat) {x : Str} (hN : X.N[i]? = some x := by rfl) (hv : Vis X.env.scope x := by first | exact Or.inl rfl | exact Or.inr (Or.inl rfl) | exact Or.inr (Or.inr rfl)) (hd : (x == ("__debug__" : Str)) = false := by decide)
    (hcd : (x == ("__classdict__" : Str)) = false := by decide) : PV X P (.Name x pos) (zVarV i) := by
  refine ⟨_, pe_var (i := i) hN hv hd hcd, fun Z hZ S σ H Qz Q ok h k => ?_⟩
  unfold zVarV at h
  split at h
  · rename_i d e
    obtain ⟨v, h1, h2⟩ := ok.sl.sh i d e
    exact ⟨v, h1, k _ S v H h ok .refl h2⟩
  · rename_i xs e
    obtain ⟨a, vs, h1, h2, h3⟩ := ok.sl.ow i xs e
    exact ⟨_, h1, k _ _ _ H h ok .refl h1⟩
  · exact h.elim
def zC (d : D) : ZE := fun S Q => Q d S
theorem pd_c {v : V} {d : D} (h : PE X e (tC v)) (r : ∀ H av, Rep X.K X.mg H av v d) : PD X P e (zC d) :=
  ⟨_, h, fun Z hZ S σ H Qz Q ok h k => k d S v H h ok .refl (r _ _)⟩
theorem pd_int {i j} : PD X P (.Constant (.int i) j pos) (zC (.int i)) := pd_c pe_int fun _ _ => .int i
theorem pd_bl {b j} : PD X P (.Constant (.bool b) j pos) (zC (.bl b)) := pd_c pe_bl fun _ _ => .bl b
theorem pd_non {j} : PD X P (.Constant .none j pos) (zC .non) := pd_c pe_non fun _ _ => .non
theorem pd_str {s j} : PD X P (.Constant (.str s) j pos) (zC (.str s)) := pd_c pe_str fun _ _ => .str s
theorem pd_glob {x : Str} {i : Int} {t : Tok} (hg : Gl X x) (hm : X.mg x = some (.int i t)) (hd : (x == ("__debug__" : Str)) = false := by decide) : PD X P (.Name x pos) (zC (.int i)) :=
  pd_c (pe_glob (v := .int i) hg hm ⟨t, rfl⟩ hd) fun _ _ => .int i

/-! ### two-place operations -/
def zOp (f : D → D → (D → Prop) → Prop) (ta tb : ZE) : ZE := fun S Q => ta S fun d S1 => tb S1 fun e S2 => f d e fun r => Q r S2
/-- what an operation by values must do -/
def OpZ (K : PySem.W.Frag) (mg : Str → Option Value) (r : R2) (f : D → D → (D → Prop) → Prop) : Prop :=
  ∀ (H : Hp) (av : Addr → Prop) (x y : V) (d e : D) (Qd : D → Prop) (Q : VK), (∀ a, av a → H a ≠ none) → Rep K mg H av x d → Rep K mg H av y e → f d e Qd →
    (∀ d' v H', Qd d' → Same H H' → Rep K mg H' av v d' → Q v H') → r x y H Q
theorem pd_op {op : Operator} {r : R2} {f : D → D → (D → Prop) → Prop} {ta tb : ZE} (ho : OpR X (binaryOp op) r) (hf : OpZ X.K X.mg r f) (ha : PD X P a ta) (hb : PD X P b tb) : PD X P (.BinOp a op b pos) (zOp f ta tb) := by
  obtain ⟨t0, p0, q0⟩ := ha.ex
  obtain ⟨t1, p1, q1⟩ := hb.ex
  refine ⟨_, pe_op ho p0 p1, fun Z hZ S σ H Qz Q ok h k => ?_⟩
  refine q0 Z hZ S σ H _ _ ok h fun d S1 v H1 h1 ok1 f1 r1 => ?_
  refine q1 Z hZ S1 σ H1 _ _ ok1 h1 fun e S2 u H2 h2 ok2 f2 r2 => ?_
  exact hf H2 _ v u d e _ Q ok2.avsd (f2.rp _ _ r1) r2 h2 fun d' w H3 h3 s r3 => k d' S2 w H3 h3 (ok2.same s) ((f1.trans f2).trans (.same ok2 s)) r3
def fI (g : Int → Int → Int) : D → D → (D → Prop) → Prop := fun d e Q => match d, e with
  | .int i, .int j => Q (.int (g i j))
  | _, _ => False
def fIC (C : Int → Int → Prop) (g : Int → Int → Int) : D → D → (D → Prop) → Prop := fun d e Q => match d, e with
  | .int i, .int j => C i j ∧ Q (.int (g i j))
  | _, _ => False
theorem opz_I0 {g : Int → Int → Int} {K mg} : OpZ K mg (rI0 fun i j => .int (g i j)) (fI g) := by
  intro H av x y d e Qd Q _ r1 r2 h k
  unfold fI at h
  split at h
  · obtain rfl := r1.int_inv
    obtain rfl := r2.int_inv
    exact ⟨_, _, rfl, rfl, k _ _ H h (Same.refl H) (.int _)⟩
  · exact h.elim
theorem opz_IC {C : Int → Int → Prop} {g : Int → Int → Int} {K mg} : OpZ K mg (rI C fun i j => .int (g i j)) (fIC C g) := by
  intro H av x y d e Qd Q _ r1 r2 h k
  unfold fIC at h
  split at h
  · obtain rfl := r1.int_inv
    obtain rfl := r2.int_inv
    exact ⟨_, _, rfl, rfl, h.1, k _ _ H h.2 (Same.refl H) (.int _)⟩
  · exact h.elim
variable {ta tb tc : ZE}
abbrev zAdd := zOp (fI fun i j => i + j)
abbrev zSub := zOp (fI fun i j => i - j)
abbrev zMul := zOp (fIC CMulW fun i j => i * j)
abbrev zDiv := zOp (fIC CDivW fun i j => i / j)
abbrev zMod := zOp (fIC (fun _ j => 0 < j) fun i j => i % j)
theorem pd_add (ha : PD X P a ta) (hb : PD X P b tb) : PD X P (.BinOp a .Add b pos) (zAdd ta tb) := pd_op op_add opz_I0 ha hb
theorem pd_sub (ha : PD X P a ta) (hb : PD X P b tb) : PD X P (.BinOp a .Sub b pos) (zSub ta tb) := pd_op op_sub opz_I0 ha hb
theorem pd_mul (ha : PD X P a ta) (hb : PD X P b tb) : PD X P (.BinOp a .Mult b pos) (zMul ta tb) := pd_op op_mulW opz_IC ha hb
theorem pd_div (ha : PD X P a ta) (hb : PD X P b tb) : PD X P (.BinOp a .FloorDiv b pos) (zDiv ta tb) := pd_op op_fdivW opz_IC ha hb
theorem pd_mod (ha : PD X P a ta) (hb : PD X P b tb) : PD X P (.BinOp a .Mod b pos) (zMod ta tb) := pd_op op_mod opz_IC ha hb
/-- -a -/
def zNeg (ta : ZE) : ZE := fun S Q => ta S fun d S1 => match d with
  | .int i => Q (.int (-i)) S1
  | _ => False
theorem pd_neg (ha : PD X P a ta) : PD X P (.UnaryOp .USub a pos) (zNeg ta) := by
  obtain ⟨t0, p0, q0⟩ := ha.ex
  refine ⟨_, pe_un un_neg p0, fun Z hZ S σ H Qz Q ok h k => ?_⟩
  refine q0 Z hZ S σ H _ _ ok h fun d S1 v H1 h1 ok1 f1 r1 => ?_
  split at h1
  · obtain rfl := r1.int_inv
    exact ⟨_, rfl, k _ S1 _ H1 h1 ok1 f1 (.int _)⟩
  · exact h1.elim

/-! ### comparisons -/
/-- a comparison by values -/
def CmpZ (K : PySem.W.Frag) (mg : Str → Option Value) (r : R2) (f : D → D → (Bool → Prop) → Prop) : Prop :=
  ∀ (H : Hp) (av : Addr → Prop) (x y : V) (d e : D) (Qd : Bool → Prop) (Q : VK), Rep K mg H av x d → Rep K mg H av y e → f d e Qd → (∀ b, Qd b → Q (.bl b) H) → r x y H Q
def zCmp (f : D → D → (Bool → Prop) → Prop) (ta tb : ZE) : ZE := fun S Q => ta S fun d S1 => tb S1 fun e S2 => f d e fun b => Q (.bl b) S2
def zCmpT (f : D → D → (Bool → Prop) → Prop) (ta tb : ZE) : ZT := fun S Q => ta S fun d S1 => tb S1 fun e S2 => f d e fun b => Q b S2
theorem pd_cmp {op : CmpOp} {r : R2} {f : D → D → (Bool → Prop) → Prop} (ho : OpR X (compareOp op) r) (hf : CmpZ X.K X.mg r f) (ha : PD X P a ta) (hb : PD X P b tb) (hm : behindInMarks op b = false := by rfl) : PD X P (.Compare a [op] [b] pos) (zCmp f ta tb) := by
  obtain ⟨t0, p0, q0⟩ := ha.ex
  obtain ⟨t1, p1, q1⟩ := hb.ex
  refine ⟨_, pe_cmpR ho p0 p1 hm, fun Z hZ S σ H Qz Q ok h k => ?_⟩
  refine q0 Z hZ S σ H _ _ ok h fun d S1 v H1 h1 ok1 f1 r1 => ?_
  refine q1 Z hZ S1 σ H1 _ _ ok1 h1 fun e S2 u H2 h2 ok2 f2 r2 => ?_
  exact hf H2 _ v u d e _ Q (f2.rp _ _ r1) r2 h2 fun b h3 => k _ S2 _ H2 h3 ok2 (f1.trans f2) (.bl b)
theorem pt_cmp {op : CmpOp} {r : R2} {f : D → D → (Bool → Prop) → Prop} (ho : OpR X (compareOp op) r) (hf : CmpZ X.K X.mg r f) (ha : PD X P a ta) (hb : PD X P b tb) (hm : behindInMarks op b = false := by rfl) : PTd X P (.Compare a [op] [b] pos) (zCmpT f ta tb) := by
  obtain ⟨t0, p0, q0⟩ := ha.ex
  obtain ⟨t1, p1, q1⟩ := hb.ex
  refine ⟨_, pt_cmpR ho p0 p1 hm, fun Z hZ S σ H Qz Q ok h k => ?_⟩
  refine q0 Z hZ S σ H _ _ ok h fun d S1 v H1 h1 ok1 f1 r1 => ?_
  refine q1 Z hZ S1 σ H1 _ _ ok1 h1 fun e S2 u H2 h2 ok2 f2 r2 => ?_
  exact hf H2 _ v u d e _ _ (f2.rp _ _ r1) r2 h2 fun b h3 => ⟨b, rfl, k _ S2 H2 h3 ok2 (f1.trans f2)⟩
def fB (g : Int → Int → Bool) : D → D → (Bool → Prop) → Prop := fun d e Q => match d, e with
  | .int i, .int j => Q (g i j)
  | _, _ => False
theorem cmpz_I0 {g : Int → Int → Bool} {K mg} : CmpZ K mg (rI0 fun i j => .bl (g i j)) (fB g) := by
  intro H av x y d e Qd Q r1 r2 h k
  unfold fB at h
  split at h
  · obtain rfl := r1.int_inv
    obtain rfl := r2.int_inv
    exact ⟨_, _, rfl, rfl, k _ h⟩
  · exact h.elim
abbrev fLt := fB fun i j => decide (i < j)
abbrev fLe := fB fun i j => decide (i ≤ j)
abbrev fGt := fB fun i j => decide (j < i)
abbrev fGe := fB fun i j => decide (j ≤ i)
theorem cz_lt {K mg} : CmpZ K mg (rI0 fun i j => .bl (decide (i < j))) fLt := cmpz_I0
theorem cz_le {K mg} : CmpZ K mg (rI0 fun i j => .bl (decide (i ≤ j))) fLe := cmpz_I0
theorem cz_gt {K mg} : CmpZ K mg (rI0 fun i j => .bl (decide (j < i))) fGt := cmpz_I0
theorem cz_ge {K mg} : CmpZ K mg (rI0 fun i j => .bl (decide (j ≤ i))) fGe := cmpz_I0
/-- == over data -/
def fEq : D → D → (Bool → Prop) → Prop := fun d e Q => match d, e with
  | .int i, .int j => Q (decide (i = j))
  | .str i, .str j => Q (decide (i = j))
  | .bl i, .bl j => Q (decide (i = j))
  | .non, .non => Q true
  | d, e => ∃ p q, d.py = some p ∧ e.py = some q ∧ SeqAt.shaped p = true ∧ SeqAt.shaped q = true ∧ Q (PyData.eqv p q)
def rEqA (K : PySem.W.Frag) : R2 := fun x y H Q => rEq x y H Q ∨ rEqD K x y H Q
def rNeA (K : PySem.W.Frag) : R2 := fun x y H Q => rNe x y H Q ∨ rNeD K x y H Q
theorem cz_eq {K mg} : CmpZ K mg (rEqA K) fEq := by
  intro H av x y d e Qd Q r1 r2 h k
  unfold fEq at h
  split at h
  · obtain rfl := r1.int_inv
    obtain rfl := r2.int_inv
    exact .inl ⟨rfl, by have := k _ h; simpa only [V.int.injEq] using this⟩
  · obtain rfl := r1.str_inv
    obtain rfl := r2.str_inv
    exact .inl ⟨rfl, by have := k _ h; simpa only [V.str.injEq] using this⟩
  · obtain rfl := r1.bl_inv
    obtain rfl := r2.bl_inv
    exact .inl ⟨rfl, by have := k _ h; simpa only [V.bl.injEq] using this⟩
  · obtain rfl := r1.non_inv
    obtain rfl := r2.non_inv
    exact .inl ⟨rfl, by have := k _ h; simpa using this⟩
  · obtain ⟨p, q, h1, h2, h3, h4, h5⟩ := h
    exact .inr ⟨p, q, r1.dp h1, r2.dp h2, h3, h4, k _ h5⟩
def fNe : D → D → (Bool → Prop) → Prop := fun d e Q => fEq d e fun b => Q (!b)
theorem cz_ne {K mg} : CmpZ K mg (rNeA K) fNe := by
  intro H av x y d e Qd Q r1 r2 h k
  unfold fNe at h
  rcases cz_eq (K := K) (mg := mg) H av x y d e _ (fun v H' => ∃ b, v = .bl b ∧ Q (.bl (!b)) H') r1 r2 h (fun b hb => ⟨b, rfl, k _ hb⟩) with ⟨h1, b, e, h2⟩ | ⟨p, q, h1, h2, h3, h4, b, e, h5⟩
  · cases e
    exact .inl ⟨h1, h2⟩
  · cases e
    exact .inr ⟨p, q, h1, h2, h3, h4, h5⟩
theorem op_eqA (hu : X.A.units + 64 < cLine) : OpR X (compareOp .Eq) (rEqA X.K) := op_eq.or (op_eqD hu)
theorem op_neA (hu : X.A.units + 64 < cLine) : OpR X (compareOp .NotEq) (rNeA X.K) := op_ne.or (op_neD hu)
/-- .. of values that are looked at -/
def asD (S : SS) : DV → Option D
  | .sh d => some d
  | .at i => match S[i]? with
    | some (.ow xs) => some (.lst xs)
    | _ => none
theorem asD_rep {S : SS} {σ : L2.St} {H : Hp} {v : V} {dv : DV} {d : D} (ok : Ok X Z S σ H) (r : RVal X Z S σ H v dv) (e : asD S dv = some d) : Rep X.K X.mg H (fun _ => False) v d := by
  have k : Carry H H (avs Z S σ) (fun _ => False) := .same (Same.refl H) fun _ z => z.elim
  cases dv with
  | sh d' =>
    cases e
    exact Rep.carry k r
  | «at» i =>
    have e' : (match S[i]? with | some (.ow xs) => some (D.lst xs) | _ => none) = some d := e
    split at e'
    · rename_i xs h
      cases e'
      obtain ⟨a, vs, h1, h2, h3⟩ := ok.sl.ow i xs h
      have r' : σ[i]? = some (some v) := r
      rw [h1] at r'
      cases r'
      exact .lst h2 (fun z => z) (h3.carry k)
    · cases e'
def zCmpV (f : D → D → (Bool → Prop) → Prop) (ta : ZV) (tb : ZV) : ZE := fun S Q => ta S fun d S1 => tb S1 fun e S2 => ∃ x y, asD S2 d = some x ∧ asD S2 e = some y ∧ f x y fun b => Q (.bl b) S2
def zCmpVT (f : D → D → (Bool → Prop) → Prop) (ta : ZV) (tb : ZV) : ZT := fun S Q => ta S fun d S1 => tb S1 fun e S2 => ∃ x y, asD S2 d = some x ∧ asD S2 e = some y ∧ f x y fun b => Q b S2
theorem pd_cmpV {op : CmpOp} {r : R2} {f : D → D → (Bool → Prop) → Prop} {va vb : ZV} (ho : OpR X (compareOp op) r) (hf : CmpZ X.K X.mg r f) (ha : PV X P a va) (hb : PV X P b vb) (hm : behindInMarks op b = false := by rfl) : PD X P (.Compare a [op] [b] pos) (zCmpV f va vb) := by
  obtain ⟨t0, p0, q0⟩ := ha.ex
  obtain ⟨t1, p1, q1⟩ := hb.ex
  refine ⟨_, pe_cmpR ho p0 p1 hm, fun Z hZ S σ H Qz Q ok h k => ?_⟩
  refine q0 Z hZ S σ H _ _ ok h fun d S1 v H1 h1 ok1 f1 r1 => ?_
  refine q1 Z hZ S1 σ H1 _ _ ok1 h1 fun e S2 u H2 h2 ok2 f2 r2 => ?_
  obtain ⟨x, y, h3, h4, h5⟩ := h2
  exact hf H2 _ v u x y _ Q (asD_rep ok2 (r1.frm f2) h3) (asD_rep ok2 r2 h4) h5 fun b h3 => k _ S2 _ H2 h3 ok2 (f1.trans f2) (.bl b)
theorem pt_cmpV {op : CmpOp} {r : R2} {f : D → D → (Bool → Prop) → Prop} {va vb : ZV} (ho : OpR X (compareOp op) r) (hf : CmpZ X.K X.mg r f) (ha : PV X P a va) (hb : PV X P b vb) (hm : behindInMarks op b = false := by rfl) : PTd X P (.Compare a [op] [b] pos) (zCmpVT f va vb) := by
  obtain ⟨t0, p0, q0⟩ := ha.ex
  obtain ⟨t1, p1, q1⟩ := hb.ex
  refine ⟨_, pt_cmpR ho p0 p1 hm, fun Z hZ S σ H Qz Q ok h k => ?_⟩
  refine q0 Z hZ S σ H _ _ ok h fun d S1 v H1 h1 ok1 f1 r1 => ?_
  refine q1 Z hZ S1 σ H1 _ _ ok1 h1 fun e S2 u H2 h2 ok2 f2 r2 => ?_
  obtain ⟨x, y, h3, h4, h5⟩ := h2
  exact hf H2 _ v u x y _ _ (asD_rep ok2 (r1.frm f2) h3) (asD_rep ok2 r2 h4) h5 fun b h3 => ⟨b, rfl, k _ S2 H2 h3 ok2 (f1.trans f2)⟩
/-- a op b op' c -/
def zChain (f f' : D → D → (Bool → Prop) → Prop) (ta tb tc : ZE) : ZE := fun S Q => ta S fun x S1 => tb S1 fun y S2 => f x y fun k => (k = true → tc S2 fun w S3 => f' y w fun b => Q (.bl b) S3) ∧ (k = false → Q (.bl false) S2)
def zChainT (f f' : D → D → (Bool → Prop) → Prop) (ta tb tc : ZE) : ZT := fun S Q => ta S fun x S1 => tb S1 fun y S2 => f x y fun k => (k = true → tc S2 fun w S3 => f' y w fun b => Q b S3) ∧ (k = false → Q false S2)
theorem pd_chain {op op' : CmpOp} {r r' : R2} {f f' : D → D → (Bool → Prop) → Prop} (ho : OpR X (compareOp op) r) (hf : CmpZ X.K X.mg r f) (ho' : OpR X (compareOp op') r') (hf' : CmpZ X.K X.mg r' f') (ha : PD X P a ta) (hb : PD X P b tb) (hc : PD X P c tc)
    (hm : lastMarks [op, op'] [b, c] = false := by with_unfolding_all rfl) : PD X P (.Compare a [op, op'] [b, c] pos) (zChain f f' ta tb tc) := by
  obtain ⟨t0, p0, q0⟩ := ha.ex
  obtain ⟨t1, p1, q1⟩ := hb.ex
  obtain ⟨t2, p2, q2⟩ := hc.ex
  refine ⟨_, pe_chain ho ho' p0 p1 p2 hm, fun Z hZ S σ H Qz Q ok h k => ?_⟩
  refine q0 Z hZ S σ H _ _ ok h fun d S1 v H1 h1 ok1 f1 r1 => ?_
  refine q1 Z hZ S1 σ H1 _ _ ok1 h1 fun e S2 u H2 h2 ok2 f2 r2 => ?_
  refine hf H2 _ v u d e _ _ (f2.rp _ _ r1) r2 h2 fun b h3 => ⟨b, rfl, ?_⟩
  cases b with
  | false => exact iteF (k _ S2 _ H2 (h3.2 rfl) ok2 (f1.trans f2) (.bl false))
  | true =>
    refine iteT (q2 Z hZ S2 σ H2 _ _ ok2 (h3.1 rfl) fun g S3 w H3 h4 ok3 f3 r3 => ?_)
    exact hf' H3 _ u w e g _ _ (f3.rp _ _ r2) r3 h4 fun b h5 => k _ S3 _ H3 h5 ok3 ((f1.trans f2).trans f3) (.bl b)
theorem pt_chainZ {op op' : CmpOp} {r r' : R2} {f f' : D → D → (Bool → Prop) → Prop} (ho : OpR X (compareOp op) r) (hf : CmpZ X.K X.mg r f) (ho' : OpR X (compareOp op') r') (hf' : CmpZ X.K X.mg r' f') (ha : PD X P a ta) (hb : PD X P b tb) (hc : PD X P c tc)
    (hm : lastMarks [op, op'] [b, c] = false := by with_unfolding_all rfl) : PTd X P (.Compare a [op, op'] [b, c] pos) (zChainT f f' ta tb tc) := by
  obtain ⟨t0, p0, q0⟩ := ha.ex
  obtain ⟨t1, p1, q1⟩ := hb.ex
  obtain ⟨t2, p2, q2⟩ := hc.ex
  refine ⟨_, pt_chain ho ho' p0 p1 p2 hm, fun Z hZ S σ H Qz Q ok h k => ?_⟩
  refine q0 Z hZ S σ H _ _ ok h fun d S1 v H1 h1 ok1 f1 r1 => ?_
  refine q1 Z hZ S1 σ H1 _ _ ok1 h1 fun e S2 u H2 h2 ok2 f2 r2 => ?_
  refine hf H2 _ v u d e _ _ (f2.rp _ _ r1) r2 h2 fun b h3 => ⟨b, rfl, ?_⟩
  cases b with
  | false => exact iteF ⟨_, rfl, k _ S2 H2 (h3.2 rfl) ok2 (f1.trans f2)⟩
  | true =>
    refine iteT (q2 Z hZ S2 σ H2 _ _ ok2 (h3.1 rfl) fun g S3 w H3 h4 ok3 f3 r3 => ?_)
    exact hf' H3 _ u w e g _ _ (f3.rp _ _ r2) r3 h4 fun b h5 => ⟨b, rfl, k _ S3 H3 h5 ok3 ((f1.trans f2).trans f3)⟩

/-! ### is None, tests, and, or, not -/
def D.isNon : D → Bool
  | .non => true
  | _ => false
theorem rep_isNon {H : Hp} {av : Addr → Prop} {v : V} {d : D} (r : Rep X.K X.mg H av v d) : decide (v = .non) = d.isNon := by
  cases r <;> simp [D.isNon]
def zIsN (ta : ZV) : ZE := fun S Q => ta S fun d S1 => ∃ x, asD S1 d = some x ∧ Q (.bl x.isNon) S1
def zIsNT (ta : ZV) : ZT := fun S Q => ta S fun d S1 => ∃ x, asD S1 d = some x ∧ Q x.isNon S1
def zNotNT (ta : ZV) : ZT := fun S Q => ta S fun d S1 => ∃ x, asD S1 d = some x ∧ Q (!x.isNon) S1
theorem pd_isN {va : ZV} {j pos'} (ha : PV X P a va) : PD X P (.Compare a [.Is] [.Constant .none j pos'] pos) (zIsN va) := by
  obtain ⟨t0, p0, q0⟩ := ha.ex
  refine ⟨_, pe_cmpR op_isN p0 pe_non (nomark _), fun Z hZ S σ H Qz Q ok h k => ?_⟩
  refine q0 Z hZ S σ H _ _ ok h fun d S1 v H1 h1 ok1 f1 r1 => ?_
  obtain ⟨x, h2, h3⟩ := h1
  exact ⟨rfl, by rw [rep_isNon (asD_rep ok1 r1 h2)]; exact k _ S1 _ H1 h3 ok1 f1 (.bl _)⟩
theorem pt_isN {va : ZV} {j pos'} (ha : PV X P a va) : PTd X P (.Compare a [.Is] [.Constant .none j pos'] pos) (zIsNT va) := by
  obtain ⟨t0, p0, q0⟩ := ha.ex
  refine ⟨_, pt_cmpR op_isN p0 pe_non (nomark _), fun Z hZ S σ H Qz Q ok h k => ?_⟩
  refine q0 Z hZ S σ H _ _ ok h fun d S1 v H1 h1 ok1 f1 r1 => ?_
  obtain ⟨x, h2, h3⟩ := h1
  exact ⟨rfl, _, rfl, by rw [rep_isNon (asD_rep ok1 r1 h2)]; exact k _ S1 H1 h3 ok1 f1⟩
theorem pt_notN {va : ZV} {j pos'} (ha : PV X P a va) : PTd X P (.Compare a [.IsNot] [.Constant .none j pos'] pos) (zNotNT va) := by
  obtain ⟨t0, p0, q0⟩ := ha.ex
  refine ⟨_, pt_cmpR op_notN p0 pe_non (nomark _), fun Z hZ S σ H Qz Q ok h k => ?_⟩
  refine q0 Z hZ S σ H _ _ ok h fun d S1 v H1 h1 ok1 f1 r1 => ?_
  obtain ⟨x, h2, h3⟩ := h1
  exact ⟨rfl, _, rfl, by rw [rep_isNon (asD_rep ok1 r1 h2)]; exact k _ S1 H1 h3 ok1 f1⟩
/-- a value that is a bool, as a test -/
def zB (ta : ZE) : ZT := fun S Q => ta S fun d S1 => match d with
  | .bl b => Q b S1
  | _ => False
theorem pt_b (h : PD X P e ta) (he : ∀ whole, isTrue e X.env whole = (do let v ← whole; standAt e.pos; holding [v] (truthy v)) := by intro _; rfl) : PTd X P e (zB ta) := by
  obtain ⟨t0, p0, q0⟩ := h.ex
  refine ⟨_, pt_val p0 he, fun Z hZ S σ H Qz Q ok h k => ?_⟩
  refine q0 Z hZ S σ H _ _ ok h fun d S1 v H1 h1 ok1 f1 r1 => ?_
  split at h1
  · obtain rfl := r1.bl_inv
    exact ⟨_, rfl, k _ S1 H1 h1 ok1 f1⟩
  · exact h1.elim
variable {qa qb : ZT} {rest : List Expr}
def zAndT (t u : ZT) : ZT := fun S Q => t S fun c S1 => (c = true → u S1 Q) ∧ (c = false → Q false S1)
def zOrT (t u : ZT) : ZT := fun S Q => t S fun c S1 => (c = true → Q true S1) ∧ (c = false → u S1 Q)
def zNotT (t : ZT) : ZT := fun S Q => t S fun c S1 => Q (!c) S1
theorem PWd.pt (h : PWd X P e qa) : PTd X P e qa := by
  obtain ⟨t0, p0, q0⟩ := h.ex
  exact ⟨_, p0.pt, q0⟩
theorem wd_and1 (ha : PTd X P a qa) : PWd X P (.BoolOp .And [a] pos) qa := by
  obtain ⟨t0, p0, q0⟩ := ha.ex
  exact ⟨_, pw_and1 p0, q0⟩
theorem wd_or1 (ha : PTd X P a qa) : PWd X P (.BoolOp .Or [a] pos) qa := by
  obtain ⟨t0, p0, q0⟩ := ha.ex
  exact ⟨_, pw_or1 p0, q0⟩
theorem wd_and (ha : PTd X P a qa) (hb : PWd X P (.BoolOp .And (b :: rest) pos) qb) : PWd X P (.BoolOp .And (a :: b :: rest) pos) (zAndT qa qb) := by
  obtain ⟨t0, p0, q0⟩ := ha.ex
  obtain ⟨t1, p1, q1⟩ := hb.ex
  refine ⟨_, pw_and p0 p1, fun Z hZ S σ H Qz Q ok h k => ?_⟩
  refine q0 Z hZ S σ H _ _ ok h fun c S1 H1 h1 ok1 f1 => ?_
  cases c with
  | true => exact iteT (q1 Z hZ S1 σ H1 _ _ ok1 (h1.1 rfl) fun b S2 H2 h2 ok2 f2 => k b S2 H2 h2 ok2 (f1.trans f2))
  | false => exact iteF (k _ S1 H1 (h1.2 rfl) ok1 f1)
theorem wd_or (ha : PTd X P a qa) (hb : PWd X P (.BoolOp .Or (b :: rest) pos) qb) : PWd X P (.BoolOp .Or (a :: b :: rest) pos) (zOrT qa qb) := by
  obtain ⟨t0, p0, q0⟩ := ha.ex
  obtain ⟨t1, p1, q1⟩ := hb.ex
  refine ⟨_, pw_or p0 p1, fun Z hZ S σ H Qz Q ok h k => ?_⟩
  refine q0 Z hZ S σ H _ _ ok h fun c S1 H1 h1 ok1 f1 => ?_
  cases c with
  | true => exact iteT (k _ S1 H1 (h1.1 rfl) ok1 f1)
  | false => exact iteF (q1 Z hZ S1 σ H1 _ _ ok1 (h1.2 rfl) fun b S2 H2 h2 ok2 f2 => k b S2 H2 h2 ok2 (f1.trans f2))
theorem td_not (ha : PTd X P a qa) : PTd X P (.UnaryOp .Not a pos) (zNotT qa) := by
  obtain ⟨t0, p0, q0⟩ := ha.ex
  exact ⟨_, pt_not p0, fun Z hZ S σ H Qz Q ok h k => q0 Z hZ S σ H _ _ ok h fun c S1 H1 h1 ok1 f1 => k _ S1 H1 h1 ok1 f1⟩
/-- .. as values (of bools) -/
def zAndV (ta tb : ZE) : ZE := fun S Q => ta S fun d S1 => match d with
  | .bl b => (b = true → tb S1 Q) ∧ (b = false → Q (.bl false) S1)
  | _ => False
def zOrV (ta tb : ZE) : ZE := fun S Q => ta S fun d S1 => match d with
  | .bl b => (b = true → Q (.bl true) S1) ∧ (b = false → tb S1 Q)
  | _ => False
def zNotV (ta : ZE) : ZE := fun S Q => ta S fun d S1 => match d with
  | .bl b => Q (.bl (!b)) S1
  | _ => False
theorem pd_one {op} (h : PD X P a ta) : PD X P (.BoolOp op [a] pos) ta := by
  obtain ⟨t0, p0, q0⟩ := h.ex
  exact ⟨_, pe_one p0, q0⟩
theorem pd_and (ha : PD X P a ta) (hb : PD X P (.BoolOp .And (b :: rest) pos) tb) : PD X P (.BoolOp .And (a :: b :: rest) pos) (zAndV ta tb) := by
  obtain ⟨t0, p0, q0⟩ := ha.ex
  obtain ⟨t1, p1, q1⟩ := hb.ex
  refine ⟨_, pe_and p0 p1, fun Z hZ S σ H Qz Q ok h k => ?_⟩
  refine q0 Z hZ S σ H _ _ ok h fun d S1 v H1 h1 ok1 f1 r1 => ?_
  split at h1
  · rename_i c
    obtain rfl := r1.bl_inv
    cases c with
    | true => exact ⟨_, rfl, iteT (q1 Z hZ S1 σ H1 _ _ ok1 (h1.1 rfl) fun b S2 u H2 h2 ok2 f2 r2 => k b S2 u H2 h2 ok2 (f1.trans f2) r2)⟩
    | false => exact ⟨_, rfl, iteF (k _ S1 _ H1 (h1.2 rfl) ok1 f1 (.bl false))⟩
  · exact h1.elim
theorem pd_or (ha : PD X P a ta) (hb : PD X P (.BoolOp .Or (b :: rest) pos) tb) : PD X P (.BoolOp .Or (a :: b :: rest) pos) (zOrV ta tb) := by
  obtain ⟨t0, p0, q0⟩ := ha.ex
  obtain ⟨t1, p1, q1⟩ := hb.ex
  refine ⟨_, pe_or p0 p1, fun Z hZ S σ H Qz Q ok h k => ?_⟩
  refine q0 Z hZ S σ H _ _ ok h fun d S1 v H1 h1 ok1 f1 r1 => ?_
  split at h1
  · rename_i c
    obtain rfl := r1.bl_inv
    cases c with
    | true => exact ⟨_, rfl, iteT (k _ S1 _ H1 (h1.1 rfl) ok1 f1 (.bl true))⟩
    | false => exact ⟨_, rfl, iteF (q1 Z hZ S1 σ H1 _ _ ok1 (h1.2 rfl) fun b S2 u H2 h2 ok2 f2 r2 => k b S2 u H2 h2 ok2 (f1.trans f2) r2)⟩
  · exact h1.elim
theorem pd_not (ha : PD X P a ta) : PD X P (.UnaryOp .Not a pos) (zNotV ta) := by
  obtain ⟨t0, p0, q0⟩ := ha.ex
  refine ⟨_, pe_not p0, fun Z hZ S σ H Qz Q ok h k => ?_⟩
  refine q0 Z hZ S σ H _ _ ok h fun d S1 v H1 h1 ok1 f1 r1 => ?_
  split at h1
  · obtain rfl := r1.bl_inv
    exact ⟨_, rfl, k _ S1 _ H1 h1 ok1 f1 (.bl _)⟩
  · exact h1.elim
def zIf (t : ZT) (ta tb : ZE) : ZE := fun S Q => t S fun c S1 => (c = true → ta S1 Q) ∧ (c = false → tb S1 Q)
theorem pd_if (hc : PTd X P c qa) (ha : PD X P a ta) (hb : PD X P b tb) : PD X P (.IfExp c a b pos) (zIf qa ta tb) := by
  obtain ⟨tC, pC, qC⟩ := hc.ex
  obtain ⟨t0, p0, q0⟩ := ha.ex
  obtain ⟨t1, p1, q1⟩ := hb.ex
  refine ⟨_, pe_ifExp pC p0 p1, fun Z hZ S σ H Qz Q ok h k => ?_⟩
  refine qC Z hZ S σ H _ _ ok h fun c S1 H1 h1 ok1 f1 => ?_
  cases c with
  | true => exact iteT (q0 Z hZ S1 σ H1 _ _ ok1 (h1.1 rfl) fun d S2 v H2 h2 ok2 f2 r2 => k d S2 v H2 h2 ok2 (f1.trans f2) r2)
  | false => exact iteF (q1 Z hZ S1 σ H1 _ _ ok1 (h1.2 rfl) fun d S2 v H2 h2 ok2 f2 r2 => k d S2 v H2 h2 ok2 (f1.trans f2) r2)

/-! ### arguments and displays -/
def zNil : ZA := fun S Q => Q [] S
def zCons (t : ZE) (u : ZA) : ZA := fun S Q => t S fun d S1 => u S1 fun ds S2 => Q (d :: ds) S2
variable {es : List Expr} {tz : ZA}
theorem ad_nil : PAd X P [] zNil := ⟨_, pa_nil, fun Z hZ S σ H Qz Q ok h k => k [] S [] H h ok .refl .nil⟩
theorem ad_cons (ha : PD X P e ta) (hr : PAd X P es tz) (hs : starEach (e :: es) X.env = (false, eval e X.env) :: starEach es X.env := by rfl) : PAd X P (e :: es) (zCons ta tz) := by
  obtain ⟨t0, p0, q0⟩ := ha.ex
  obtain ⟨t1, p1, q1⟩ := hr.ex
  refine ⟨_, pa_cons p0 p1 hs, fun Z hZ S σ H Qz Q ok h k => ?_⟩
  refine q0 Z hZ S σ H _ _ ok h fun d S1 v H1 h1 ok1 f1 r1 => ?_
  exact q1 Z hZ S1 σ H1 _ _ ok1 h1 fun ds S2 vs H2 h2 ok2 f2 r2 => k _ S2 _ H2 h2 ok2 (f1.trans f2) (.cons (f2.rp _ _ r1) r2)
def zTup (t : ZA) : ZE := fun S Q => t S fun ds S1 => ds.length ≤ sizeLine ∧ Q (.tup ds) S1
def zLst (t : ZA) : ZA := fun S Q => t S fun ds S1 => ds.length ≤ sizeLine ∧ Q ds S1
theorem pd_tup {x1} (h : PAd X P es tz) : PD X P (.Tuple es x1 pos) (zTup tz) := by
  obtain ⟨t0, p0, q0⟩ := h.ex
  refine ⟨_, pe_tup p0, fun Z hZ S σ H Qz Q ok h k => ?_⟩
  refine q0 Z hZ S σ H _ _ ok h fun ds S1 vs H1 h1 ok1 f1 r1 => ⟨by rw [r1.length]; exact h1.1, fun p hp => ?_⟩
  have s : Same H1 (upd H1 p (.tup vs)) := Same.upd hp
  exact k _ S1 _ _ h1.2 (ok1.same s) (f1.trans (.same ok1 s)) (.tup (.inl (.inl upd_same)) (r1.carry (.same s fun _ z => z)))
/-- a new list comes -/
theorem fresh_k {S S1 : SS} {σ : L2.St} {H H1 : Hp} {Qz : List D → SS → Prop} {Q : VK} (ok1 : Ok X Z S1 σ H1) (f1 : Frm X Z S σ H S1 σ H1) {xs : List D} {vs : List V} (r : Reps X.K X.mg H1 (avs Z S1 σ) vs xs) (hq : Qz xs S1)
    (k : ∀ xs S' a H', Qz xs S' → Ok X Z S' σ H' → Frm X Z S σ H S' σ H' → Fresh X Z S' σ H' a xs → (∀ v d, Rep X.K X.mg H (avs Z S σ) v d → Rep X.K X.mg H' (fun b => avs Z S' σ b ∨ b = a) v d) → Q (.ref a) H') : ∀ p, H1 p = none → Q (.ref p) (upd H1 p (.lst vs)) := fun p hp => by
  obtain ⟨ok2, fr⟩ := ok1.newL hp r
  exact k _ S1 p _ hq ok2 (f1.trans (.same ok1 (Same.upd hp))) fr fun v d rv => (f1.rp v d rv).carry (.new hp)
theorem pf_lst (h : PAd X P es tz) : PF X P (.List es pos) (zLst tz) := by
  obtain ⟨t0, p0, q0⟩ := h.ex
  refine ⟨_, pe_lst p0, fun Z hZ S σ H Qz Q ok h k => ?_⟩
  refine q0 Z hZ S σ H _ _ ok h fun ds S1 vs H1 h1 ok1 f1 r1 => ⟨by rw [r1.length]; exact h1.1, fresh_k ok1 f1 r1 h1.2 k⟩

/-! ### lists and tuples that are looked at -/
def cnt (S : SS) : DV → Option (List D)
  | .sh (.lst xs) => some xs
  | .sh (.fls xs) => some xs
  | .sh (.tup xs) => some xs
  | .at i => match S[i]? with
    | some (.ow xs) => some xs
    | _ => none
  | _ => none
theorem cnt_at {S : SS} {σ : L2.St} {H : Hp} {v : V} {dv : DV} {xs : List D} (ok : Ok X Z S σ H) (r : RVal X Z S σ H v dv) (e : cnt S dv = some xs) :
    ∃ a vs, v = .ref a ∧ (SqL X.K H a vs ∨ SqT X.K H a vs) ∧ Reps X.K X.mg H (avs Z S σ) vs xs := by
  cases dv with
  | sh d =>
    cases d with
    | lst ys =>
      cases (show some ys = some xs from e)
      obtain ⟨a, vs, h1, h2, h3⟩ := Rep.lst_inv r
      exact ⟨a, vs, h1, .inl (.inl (.inl h2)), h3⟩
    | fls ys =>
      cases (show some ys = some xs from e)
      obtain ⟨a, vs, h1, h2, h3⟩ := Rep.fls_inv r
      exact ⟨a, vs, h1, .inl h2.seq, h3⟩
    | tup ys =>
      cases (show some ys = some xs from e)
      obtain ⟨a, vs, h1, h2, h3⟩ := Rep.tup_inv r
      exact ⟨a, vs, h1, .inr h2, h3⟩
    | _ => cases e
  | «at» i =>
    have e' : (match S[i]? with | some (.ow ys) => some ys | _ => none) = some xs := e
    split at e'
    · rename_i ys h
      cases e'
      obtain ⟨a, vs, h1, h2, h3⟩ := ok.sl.ow i _ h
      have r' : σ[i]? = some (some v) := r
      rw [h1] at r'
      cases r'
      exact ⟨a, vs, rfl, .inl (.inl (.inl h2)), h3⟩
    · cases e'
def zLen (t : ZV) : ZE := fun S Q => t S fun d S1 => ∃ xs, cnt S1 d = some xs ∧ Q (.int xs.length) S1
theorem pd_len {x : Str} {p : Pos} {va : ZV} (hg : Gl X x) (hm : X.mg x = none) (hv : bootBuiltins x = some (.builtin "len")) (ha : PV X P e va) (hn : x ≠ "__name__" := by decide) (hdb : (x == ("__debug__" : Str)) = false := by decide)
    (he : starEach [e] X.env = (false, eval e X.env) :: starEach [] X.env := by rfl) (hpl : (backTo pos (starEach [] X.env)).any (·.1) = false := by rfl) : PD X P (.Call (.Name x p) [e] [] pos) (zLen va) := by
  obtain ⟨t0, p0, q0⟩ := ha.ex
  refine ⟨_, pe_callB call_len_seq hg hm hv (pa_cons p0 pa_nil he) hn hdb he hpl, fun Z hZ S σ H Qz Q ok h k => ?_⟩
  refine q0 Z hZ S σ H _ _ ok h fun d S1 v H1 h1 ok1 f1 r1 => ?_
  obtain ⟨xs, h2, h3⟩ := h1
  obtain ⟨a, vs, rfl, h4, h5⟩ := cnt_at ok1 r1 h2
  exact ⟨a, vs, rfl, h4, by rw [h5.length]; exact k _ S1 _ H1 h3 ok1 f1 (.int _)⟩
/-- e[i] -/
theorem ixN_eq {n m : Nat} (h : n = m) (i : Int) : ixN n i = ixN m i := by rw [h]
theorem reps_at {H : Hp} {av : Addr → Prop} {vs : List V} {xs : List D} {i : Int} {d : D} (r : Reps X.K X.mg H av vs xs) (e : atI xs i = some d) : ∃ v, atI vs i = some v ∧ Rep X.K X.mg H av v d := by
  unfold atI at e ⊢
  rw [r.length]
  cases hj : ixN xs.length i with
  | none => rw [hj] at e; cases e
  | some j =>
    rw [hj] at e
    exact r.get e
def zIx (ta : ZV) (tb : ZE) : ZE := fun S Q => ta S fun d S1 => tb S1 fun e S2 => match e with
  | .int i => ∃ xs, cnt S2 d = some xs ∧ ∃ x, atI xs i = some x ∧ Q x S2
  | _ => False
theorem pd_ix {va : ZV} (ha : PV X P a va) (hb : PD X P b tb) (hs : PlainIx b := by exact fun _ _ => rfl) : PD X P (.Subscript a b pos) (zIx va tb) := by
  obtain ⟨t0, p0, q0⟩ := ha.ex
  obtain ⟨t1, p1, q1⟩ := hb.ex
  refine ⟨_, pe_ix ix_seq p0 p1 hs, fun Z hZ S σ H Qz Q ok h k => ?_⟩
  refine q0 Z hZ S σ H _ _ ok h fun d S1 v H1 h1 ok1 f1 r1 => ?_
  refine q1 Z hZ S1 σ H1 _ _ ok1 h1 fun e S2 u H2 h2 ok2 f2 r2 => ?_
  split at h2
  · obtain rfl := r2.int_inv
    obtain ⟨xs, h3, x, h4, h5⟩ := h2
    obtain ⟨p, vs, rfl, h6, h7⟩ := cnt_at ok2 (r1.frm f2) h3
    obtain ⟨w, h8, h9⟩ := reps_at h7 h4
    have q := k _ S2 w H2 h5 ok2 (f1.trans f2) h9
    rcases h6 with h6 | h6
    · exact .inl ⟨p, vs, _, w, rfl, rfl, h6, h8, q⟩
    · exact .inr (.inl ⟨p, vs, _, w, rfl, rfl, h6, h8, q⟩)
  · exact h2.elim
/-- x in e, x not in e: flat items -/
def D.flat : D → Option V
  | .non => some .non
  | .bl b => some (.bl b)
  | .int i => some (.int i)
  | .str s => some (.str s)
  | _ => none
theorem rep_flat {H : Hp} {av : Addr → Prop} {v w : V} {d : D} (r : Rep X.K X.mg H av v d) (e : d.flat = some w) : v = w := by
  cases r <;> simp [D.flat] at e <;> exact e
def D.flats : List D → Option (List V)
  | [] => some []
  | x :: xs => x.flat.bind fun v => (D.flats xs).map fun vs => v :: vs
theorem reps_flats {H : Hp} {av : Addr → Prop} : ∀ {vs : List V} {ds : List D} {ws : List V}, Reps X.K X.mg H av vs ds → D.flats ds = some ws → vs = ws
  | _, _, _, .nil, e => by simp [D.flats] at e; exact e.symm ▸ rfl
  | _, _, _, .cons r t, e => by
    simp only [D.flats, Option.bind_eq_some_iff, Option.map_eq_some_iff] at e
    obtain ⟨v, h1, vs, h2, rfl⟩ := e
    rw [rep_flat r h1, reps_flats t h2]
def zIn (neg : Bool) (ta : ZE) (tb : ZV) : ZT := fun S Q => ta S fun d S1 => tb S1 fun e S2 => ∃ xs, cnt S2 e = some xs ∧ ∃ v vs, d.flat = some v ∧ D.flats xs = some vs ∧ flatV v = true ∧ vs.all flatV = true ∧ Q (if neg then !inV v vs else inV v vs) S2
theorem pt_in {vb : ZV} (ha : PD X P a ta) (hb : PV X P b vb) (hm : behindInMarks .In b = false := by rfl) : PTd X P (.Compare a [.In] [b] pos) (zIn false ta vb) := by
  obtain ⟨t0, p0, q0⟩ := ha.ex
  obtain ⟨t1, p1, q1⟩ := hb.ex
  refine ⟨_, pt_cmpR op_in_seq p0 p1 hm, fun Z hZ S σ H Qz Q ok h k => ?_⟩
  refine q0 Z hZ S σ H _ _ ok h fun d S1 v H1 h1 ok1 f1 r1 => ?_
  refine q1 Z hZ S1 σ H1 _ _ ok1 h1 fun e S2 u H2 h2 ok2 f2 r2 => ?_
  obtain ⟨xs, h3, w, ws, h4, h5, h6, h7, h8⟩ := h2
  obtain ⟨p, vs, rfl, h9, h10⟩ := cnt_at ok2 r2 h3
  obtain rfl := rep_flat r1 h4
  obtain rfl := reps_flats h10 h5
  exact ⟨p, vs, rfl, h9, h6, h7, _, rfl, k _ S2 H2 h8 ok2 (f1.trans f2)⟩
theorem pt_notin {vb : ZV} (ha : PD X P a ta) (hb : PV X P b vb) (hm : behindInMarks .NotIn b = false := by rfl) : PTd X P (.Compare a [.NotIn] [b] pos) (zIn true ta vb) := by
  obtain ⟨t0, p0, q0⟩ := ha.ex
  obtain ⟨t1, p1, q1⟩ := hb.ex
  refine ⟨_, pt_cmpR op_notIn_seq p0 p1 hm, fun Z hZ S σ H Qz Q ok h k => ?_⟩
  refine q0 Z hZ S σ H _ _ ok h fun d S1 v H1 h1 ok1 f1 r1 => ?_
  refine q1 Z hZ S1 σ H1 _ _ ok1 h1 fun e S2 u H2 h2 ok2 f2 r2 => ?_
  obtain ⟨xs, h3, w, ws, h4, h5, h6, h7, h8⟩ := h2
  obtain ⟨p, vs, rfl, h9, h10⟩ := cnt_at ok2 r2 h3
  obtain rfl := rep_flat r1 h4
  obtain rfl := reps_flats h10 h5
  exact ⟨p, vs, rfl, h9, h6, h7, _, rfl, k _ S2 H2 h8 ok2 (f1.trans f2)⟩
end
end Zz

/-! The pure layer: statements, loops. -/
namespace Zz
open PySem PySem.Spec PyProof.Rows L2

structure ZD where
  nx : SS → Prop
  rt : Sl → SS → Prop
  bk : SS → Prop := fun _ => False
  ct : SS → Prop := fun _ => False
abbrev ZS := ZD → SS → Prop
abbrev ZG := D → SS → (SS → Prop) → Prop

section
variable {X : Cx} {Z : Zc} {S S' S1 : SS} {σ σ' : L2.St} {H H' H1 : Hp}
theorem Ok.setUn (ok : Ok X Z S σ H) {i : Nat} (hb : Z.bag = none ∨ i ≠ 0) : Ok X Z (S.set i .un) (σ.set i none) H ∧ ∀ a, avs Z (S.set i .un) (σ.set i none) a → avs Z S σ a := by
  have back : ∀ {j : Nat} {x : Sl}, (∀ y, x ≠ y ∨ y ≠ Sl.un) → (S.set i .un)[j]? = some x → i ≠ j ∧ S[j]? = some x := fun {j x} hx h => by
    have hj : i ≠ j := fun z => by
      subst z
      by_cases hl : i < S.length
      · rw [List.getElem?_set_self hl] at h
        cases h
        rcases hx .un with q | q <;> exact q rfl
      · rw [List.getElem?_eq_none (by simpa using hl)] at h; cases h
    rw [List.getElem?_set_ne hj] at h
    exact ⟨hj, h⟩
  have bo : ∀ {j : Nat} {zs : List D}, (S.set i .un)[j]? = some (.ow zs) → i ≠ j ∧ S[j]? = some (.ow zs) := fun {j zs} h => back (fun y => by cases y <;> simp) h
  have bs : ∀ {j : Nat} {d : D}, (S.set i .un)[j]? = some (.sh d) → i ≠ j ∧ S[j]? = some (.sh d) := fun {j d} h => back (fun y => by cases y <;> simp) h
  have sub : ∀ a, avs Z (S.set i .un) (σ.set i none) a → avs Z S σ a := fun a h => by
    rcases h with h | ⟨j, zs, h1, h2⟩
    · exact .inl h
    · obtain ⟨hj, h1⟩ := bo h1
      rw [List.getElem?_set_ne hj] at h2
      exact .inr ⟨j, zs, h1, h2⟩
  have k : Carry H H (avs Z S σ) (avs Z (S.set i .un) (σ.set i none)) := .same (Same.refl H) sub
  refine ⟨⟨by rw [List.length_set, List.length_set]; exact ok.len, ⟨fun j d' h => ?_, fun j zs h => ?_⟩, fun j l zs ys' b h1 h2 h3 h4 => ?_, fun j zs b h1 h2 => ?_, ok.ext, ok.avd, fun b h => ?_⟩, sub⟩
  · obtain ⟨hj, h⟩ := bs h
    obtain ⟨v', h1, h2⟩ := ok.sl.sh j d' h
    exact ⟨v', by rw [List.getElem?_set_ne hj]; exact h1, h2.carry k⟩
  · obtain ⟨hj, h⟩ := bo h
    obtain ⟨b, us, h1, h2, h3⟩ := ok.sl.ow j zs h
    exact ⟨b, us, by rw [List.getElem?_set_ne hj]; exact h1, h2, h3.carry k⟩
  · obtain ⟨n1, h1⟩ := bo h1
    obtain ⟨n2, h2⟩ := bo h2
    rw [List.getElem?_set_ne n1] at h3
    rw [List.getElem?_set_ne n2] at h4
    exact ok.inj j l _ _ b h1 h2 h3 h4
  · obtain ⟨n1, h1⟩ := bo h1
    rw [List.getElem?_set_ne n1] at h2
    exact ok.own j _ b h1 h2
  · obtain ⟨zs, h1, h2⟩ := ok.bag b h
    have hi0 : i ≠ 0 := by
      rcases hb with z | z
      · rw [z] at h; cases h
      · exact z
    exact ⟨zs, by rw [List.getElem?_set_ne hi0]; exact h1, by rw [List.getElem?_set_ne hi0]; exact h2⟩
end
/-- what comes back: data, or a new list -/
def RRel (X : Cx) (Z : Zc) (S : SS) (σ : L2.St) (H : Hp) (v : V) : Sl → Prop
  | .sh d => Rep X.K X.mg H (avs Z S σ) v d
  | .ow xs => ∃ a, v = .ref a ∧ Fresh X Z S σ H a xs
  | .un => False
structure Imp (X : Cx) (Z : Zc) (S : SS) (σ : L2.St) (H : Hp) (E : ZD) (D0 : Ends) : Prop where
  nx : ∀ S' σ' H', E.nx S' → Ok X Z S' σ' H' → Frm X Z S σ H S' σ' H' → D0.nx σ' H'
  rt : ∀ r S' σ' v H', E.rt r S' → Ok X Z S' σ' H' → Frm X Z S σ H S' σ' H' → RRel X Z S' σ' H' v r → D0.rt v H'
  bk : ∀ S' σ' H', E.bk S' → Ok X Z S' σ' H' → Frm X Z S σ H S' σ' H' → D0.bk σ' H'
  ct : ∀ S' σ' H', E.ct S' → Ok X Z S' σ' H' → Frm X Z S σ H S' σ' H' → D0.ct σ' H'
theorem Imp.frm {X : Cx} {Z : Zc} {S S' : SS} {σ σ' : L2.St} {H H' : Hp} {E : ZD} {D0 : Ends} (i : Imp X Z S σ H E D0) (f : Frm X Z S σ H S' σ' H') : Imp X Z S' σ' H' E D0 :=
  ⟨fun _ _ _ h o g => i.nx _ _ _ h o (f.trans g), fun _ _ _ _ _ h o g r => i.rt _ _ _ _ _ h o (f.trans g) r, fun _ _ _ h o g => i.bk _ _ _ h o (f.trans g), fun _ _ _ h o g => i.ct _ _ _ h o (f.trans g)⟩

structure PSd (X : Cx) (P : Zc → Prop) (st : Stmt) (t : ZS) : Prop where
  ex : ∃ t0 : TS, PS X st t0 ∧ ∀ (Z : Zc), P Z → ∀ (S : SS) (σ : L2.St) (H : Hp) (E : ZD) (D0 : Ends), Ok X Z S σ H → t E S → Imp X Z S σ H E D0 → t0 D0 σ H
structure PSsd (X : Cx) (P : Zc → Prop) (st : List Stmt) (t : ZS) : Prop where
  ex : ∃ t0 : TS, PSs X st t0 ∧ ∀ (Z : Zc), P Z → ∀ (S : SS) (σ : L2.St) (H : Hp) (E : ZD) (D0 : Ends), Ok X Z S σ H → t E S → Imp X Z S σ H E D0 → t0 D0 σ H
/-- only the slots js were stored -/
def Wp (js : List Nat) (σ σ' : L2.St) : Prop := ∀ vs : List Nat, (∀ j ∈ js, j ∈ vs) → wipe σ' vs = wipe σ vs
structure PGd (X : Cx) (P : Zc → Prop) (tg : Expr) (g : ZG) (js : List Nat) : Prop where
  ex : ∃ g0 : TG, PG X tg g0 ∧ ∀ (Z : Zc), P Z → ∀ (S : SS) (σ : L2.St) (H : Hp) (v : V) (d : D) (Qz : SS → Prop) (Q : L2.St → Hp → Prop), Ok X Z S σ H → Rep X.K X.mg H (avs Z S σ) v d → g d S Qz →
    (∀ S' σ' H', Qz S' → Ok X Z S' σ' H' → Frm X Z S σ H S' σ' H' → Wp js σ σ' → Q σ' H') → g0 v σ H Q
abbrev ZGs := List D → SS → (SS → Prop) → Prop
structure PGsd (X : Cx) (P : Zc → Prop) (tgs : List Expr) (g : ZGs) (js : List Nat) : Prop where
  ex : ∃ g0 : TGs, PGs X tgs g0 ∧ ∀ (Z : Zc), P Z → ∀ (S : SS) (σ : L2.St) (H : Hp) (vs : List V) (ds : List D) (Qz : SS → Prop) (Q : L2.St → Hp → Prop), Ok X Z S σ H → Reps X.K X.mg H (avs Z S σ) vs ds → g ds S Qz →
    (∀ S' σ' H', Qz S' → Ok X Z S' σ' H' → Frm X Z S σ H S' σ' H' → Wp js σ σ' → Q σ' H') → g0 vs σ H Q
theorem Wp.refl {js : List Nat} {σ : L2.St} : Wp js σ σ := fun _ _ => rfl
theorem Wp.trans {js ks : List Nat} {σ σ' σ'' : L2.St} (a : Wp js σ σ') (b : Wp ks σ' σ'') : Wp (js ++ ks) σ σ'' := fun vs h =>
  (b vs fun j hj => h j (List.mem_append_right _ hj)).trans (a vs fun j hj => h j (List.mem_append_left _ hj))
theorem wipe_set {i : Nat} {x : Option V} : ∀ (σ : L2.St) (vs : List Nat), i ∈ vs → wipe (σ.set i x) vs = wipe σ vs
  | σ, [], h => by simp at h
  | σ, v :: vs, h => by
    show (wipe (σ.set i x) vs).set v none = (wipe σ vs).set v none
    by_cases hi : i ∈ vs
    · rw [wipe_set σ vs hi]
    · have e : v = i := by
        rcases List.mem_cons.mp h with e | e
        · exact e.symm
        · exact absurd e hi
      subst e
      have : ∀ (ws : List Nat), wipe (σ.set v x) ws = (wipe σ ws).set v (if v ∈ ws then none else x) ∨ (v ∈ ws ∧ wipe (σ.set v x) ws = wipe σ ws) := by
        intro ws
        induction ws with
        | nil => left; rfl
        | cons w ws ih =>
          show (wipe (σ.set v x) ws).set w none = _ ∨ _
          by_cases hw : w = v
          · subst hw
            refine .inr ⟨List.mem_cons_self, ?_⟩
            show (wipe (σ.set w x) ws).set w none = (wipe σ ws).set w none
            rcases ih with ih | ⟨_, ih⟩
            · rw [ih, List.set_set]
            · rw [ih]
          · rcases ih with ih | ⟨h1, ih⟩
            · by_cases hm : v ∈ ws
              · refine .inl ?_
                rw [ih, List.set_comm _ _ (Ne.symm hw), if_pos hm, if_pos (List.mem_cons_of_mem _ hm)]
                rfl
              · refine .inl ?_
                rw [ih, List.set_comm _ _ (Ne.symm hw), if_neg hm, if_neg (fun z => (List.mem_cons.mp z).elim (fun e => hw e.symm) hm)]
                rfl
            · exact .inr ⟨List.mem_cons_of_mem _ h1, by show (wipe (σ.set v x) ws).set w none = (wipe σ ws).set w none; rw [ih]⟩
      rcases this vs with e | ⟨e, _⟩
      · rw [e, List.set_set]
      · exact absurd e hi
theorem Wp.set {i : Nat} {x : Option V} {σ : L2.St} : Wp [i] σ (σ.set i x) := fun vs h => wipe_set σ vs (h i List.mem_cons_self)

section
variable {X : Cx} {Z : Zc} {P : Zc → Prop} {st : Stmt} {rest : List Stmt} {e : Expr} {t u : ZS} {te : ZE} {pos : Pos}
def zNext : ZS := fun E S => E.nx S
def zSeq (t u : ZS) : ZS := fun E S => t { E with nx := u E } S
theorem ssd_nil : PSsd X P [] zNext := ⟨_, pss_nil, fun Z hZ S σ H E D0 ok h i => i.nx S σ H h ok .refl⟩
theorem ssd_cons (h1 : PSd X P st t) (h2 : PSsd X P rest u) : PSsd X P (st :: rest) (zSeq t u) := by
  obtain ⟨t0, p0, q0⟩ := h1.ex
  obtain ⟨t1, p1, q1⟩ := h2.ex
  refine ⟨_, pss_cons p0 p1, fun Z hZ S σ H E D0 ok h i => ?_⟩
  exact q0 Z hZ S σ H _ _ ok h ⟨fun S' σ' H' h2 o f => q1 Z hZ S' σ' H' E D0 o h2 (i.frm f), i.rt, i.bk, i.ct⟩
theorem ssd_one (h1 : PSd X P st t) : PSsd X P [st] t := by
  obtain ⟨t0, p0, q0⟩ := h1.ex
  exact ⟨_, pss_one p0, q0⟩
def zBrk : ZS := fun E S => E.bk S
def zCnt : ZS := fun E S => E.ct S
theorem sd_pass : PSd X P (.Pass pos) zNext := ⟨_, ps_pass, fun Z hZ S σ H E D0 ok h i => i.nx S σ H h ok .refl⟩
theorem sd_break : PSd X P (.Break pos) zBrk := ⟨_, ps_break, fun Z hZ S σ H E D0 ok h i => i.bk S σ H h ok .refl⟩
theorem sd_continue : PSd X P (.Continue pos) zCnt := ⟨_, ps_continue, fun Z hZ S σ H E D0 ok h i => i.ct S σ H h ok .refl⟩
def zNever : ZS := fun _ _ => False
theorem sd_never : PSd X P st zNever := ⟨_, ps_never, fun _ _ _ _ _ _ _ _ h _ => h.elim⟩
theorem ssd_never {sts : List Stmt} : PSsd X P sts zNever := ⟨_, pss_never, fun _ _ _ _ _ _ _ _ h _ => h.elim⟩
def zDrop (te : ZE) : ZS := fun E S => te S fun _ S1 => E.nx S1
theorem sd_expr (he : PD X P e te) (hs : swapsWith e none pos.line X.env = pure false := by rfl) : PSd X P (.Expr e pos) (zDrop te) := by
  obtain ⟨t0, p0, q0⟩ := he.ex
  exact ⟨_, ps_expr p0 hs, fun Z hZ S σ H E D0 ok h i => q0 Z hZ S σ H _ _ ok h fun d S1 v H1 h1 o f r => i.nx _ _ _ h1 o f⟩
def zRet (te : ZE) : ZS := fun E S => te S fun d S1 => E.rt (.sh d) S1
theorem sd_ret (he : PD X P e te) : PSd X P (.Return (some e) pos) (zRet te) := by
  obtain ⟨t0, p0, q0⟩ := he.ex
  exact ⟨_, ps_ret p0, fun Z hZ S σ H E D0 ok h i => q0 Z hZ S σ H _ _ ok h fun d S1 v H1 h1 o f r => i.rt (.sh d) _ _ _ _ h1 o f r⟩
def zRetN : ZS := fun E S => E.rt (.sh .non) S
theorem sd_retN : PSd X P (.Return none pos) zRetN := ⟨_, ps_retN, fun Z hZ S σ H E D0 ok h i => i.rt (.sh .non) _ _ _ _ h ok .refl .non⟩
/-- return of a new list -/
def zRetF (tf : ZA) : ZS := fun E S => tf S fun xs S1 => E.rt (.ow xs) S1
theorem sd_retF {tf : ZA} (he : PF X P e tf) : PSd X P (.Return (some e) pos) (zRetF tf) := by
  obtain ⟨t0, p0, q0⟩ := he.ex
  exact ⟨_, ps_ret p0, fun Z hZ S σ H E D0 ok h i => q0 Z hZ S σ H _ _ ok h fun xs S1 a H1 h1 o f fr _ => i.rt (.ow xs) _ _ _ _ h1 o f ⟨a, rfl, fr⟩⟩
/-- return of a name: an own list is handed out -/
def zRetO (i : Nat) : ZS := fun E S => match S[i]? with
  | some (.sh d) => E.rt (.sh d) S
  | some (.ow xs) => E.rt (.ow xs) (S.set i .un)
  | _ => False
theorem Ok.out {Z : Zc} {S : SS} {σ : L2.St} {H : Hp} (ok : Ok X Z S σ H) {i : Nat} {xs : List D} {a : Addr} (e : S[i]? = some (.ow xs)) (ha : σ[i]? = some (some (.ref a))) (hb : Z.bag = none ∨ i ≠ 0) :
    Ok X Z (S.set i .un) (σ.set i none) H ∧ Frm X Z S σ H (S.set i .un) (σ.set i none) H ∧ Fresh X Z (S.set i .un) (σ.set i none) H a xs := by
  obtain ⟨o, k⟩ := ok.setUn (i := i) hb
  obtain ⟨a', vs, h1, h2, h3⟩ := ok.sl.ow i xs e
  rw [ha] at h1
  cases h1
  have back : ∀ {j : Nat} {zs : List D}, (S.set i .un)[j]? = some (.ow zs) → i ≠ j ∧ S[j]? = some (.ow zs) := fun {j zs} h => by
    have hj : i ≠ j := fun z => by
      subst z
      rw [List.getElem?_set_self (List.getElem?_eq_some_iff.mp e).1] at h
      cases h
    rw [List.getElem?_set_ne hj] at h
    exact ⟨hj, h⟩
  have na : ¬ avs Z (S.set i .un) (σ.set i none) a := fun h => by
    rcases h with h | ⟨j, zs, e1, e2⟩
    · exact (ok.own i xs a e ha).2 h
    · obtain ⟨hj, e1⟩ := back e1
      rw [List.getElem?_set_ne hj] at e2
      exact hj (ok.inj i j _ _ a e e1 ha e2)
  have kk : Carry H H (avs Z S σ) (fun b => avs Z (S.set i .un) (σ.set i none) b ∨ b = a) := .same (Same.refl H) fun b h => h.elim (k b) fun z => by rw [z]; exact avs_at e ha
  refine ⟨o, .of (.same (Same.refl H) k) fun _ _ => rfl, ⟨vs, h2, h3.carry kk⟩, ?_, na, ⟨fun j d h => ?_, fun j zs h => ?_⟩⟩
  · rcases (ok.own i xs a e ha).1 with z | z
    · exact z
    · rcases hb with q | q
      · rw [z] at q; cases q
      · obtain ⟨ws, e1, e2⟩ := ok.bag a z
        exact absurd (ok.inj i 0 _ _ a e e1 ha e2) q
  · have hj : i ≠ j := fun z => by
      subst z
      rw [List.getElem?_set_self (List.getElem?_eq_some_iff.mp e).1] at h
      cases h
    rw [List.getElem?_set_ne hj] at h
    obtain ⟨v, q1, q2⟩ := ok.sl.sh j d h
    exact ⟨v, by rw [List.getElem?_set_ne hj]; exact q1, q2.carry kk⟩
  · obtain ⟨hj, h⟩ := back h
    obtain ⟨b, us, q1, q2, q3⟩ := ok.sl.ow j zs h
    exact ⟨b, us, by rw [List.getElem?_set_ne hj]; exact q1, q2, q3.carry kk⟩
theorem sd_retO {i : Nat} {x : Str} {p : Pos} (hb : ∀ Z, P Z → Z.bag = none ∨ i ≠ 0) (hN : X.N[i]? = some x := by rfl) (hv : Vis X.env.scope x := by first | exact Or.inl rfl | exact Or.inr (Or.inl rfl) | exact Or.inr (Or.inr rfl)) (hd : (x == ("__debug__" : Str)) = false := by decide)
    (hcd : (x == ("__classdict__" : Str)) = false := by decide) : PSd X P (.Return (some (.Name x p)) pos) (zRetO i) := by
  refine ⟨_, ps_ret (pe_var (i := i) hN hv hd hcd), fun Z hZ S σ H E D0 ok h j => ?_⟩
  unfold zRetO at h
  split at h
  · rename_i d e
    obtain ⟨v, h1, h2⟩ := ok.sl.sh i d e
    exact ⟨v, h1, j.rt (.sh d) S σ v H h ok .refl h2⟩
  · rename_i xs e
    obtain ⟨a, vs, h1, h2, h3⟩ := ok.sl.ow i xs e
    obtain ⟨o, f, fr⟩ := ok.out e h1 (hb Z hZ)
    exact ⟨_, h1, j.rt (.ow xs) _ _ _ H h o f ⟨a, rfl, fr⟩⟩
  · exact h.elim
def zIfS (c : ZT) (t u : ZS) : ZS := fun E S => c S fun b S1 => (b = true → t E S1) ∧ (b = false → u E S1)
theorem sd_if {c : Expr} {a b : List Stmt} {tc : ZT} (hc : PTd X P c tc) (ha : PSsd X P a t) (hb : PSsd X P b u) : PSd X P (.If c a b pos) (zIfS tc t u) := by
  obtain ⟨tC, pC, qC⟩ := hc.ex
  obtain ⟨t0, p0, q0⟩ := ha.ex
  obtain ⟨t1, p1, q1⟩ := hb.ex
  refine ⟨_, ps_if pC p0 p1, fun Z hZ S σ H E D0 ok h i => qC Z hZ S σ H _ _ ok h fun b S1 H1 h1 o f => ?_⟩
  cases b with
  | true => exact iteT (q0 Z hZ S1 σ H1 E D0 o (h1.1 rfl) (i.frm f))
  | false => exact iteF (q1 Z hZ S1 σ H1 E D0 o (h1.2 rfl) (i.frm f))

/-! ### stores -/
def gzName (i : Nat) : ZG := fun d S Q => Q (S.set i (.sh d))
theorem frm_set {S : SS} {σ : L2.St} {H : Hp} {i : Nat} {v : V} {d : D} (k : Carry H H (avs Z S σ) (avs Z (S.set i (.sh d)) (σ.set i (some v)))) : Frm X Z S σ H (S.set i (.sh d)) (σ.set i (some v)) H := .of k fun _ _ => rfl
theorem gd_name {i : Nat} {x : Str} (hb : ∀ Z, P Z → Z.bag = none ∨ i ≠ 0) (hN : X.N.Nodup) (hi : X.N[i]? = some x := by rfl) (hx : Loc X.env.scope x := by first | exact Or.inl rfl | exact Or.inr rfl)
    (hf : X.fn x = true ∨ X.env.scope.names.lookup x = some .local := by first | exact .inl rfl | exact .inr rfl) : PGd X P (.Name x pos) (gzName i) [i] := by
  refine ⟨_, pg_name hN hi hx hf, fun Z hZ S σ H v d Qz Q ok r h k => ?_⟩
  obtain ⟨o, c⟩ := ok.setSh (i := i) r (hb Z hZ)
  exact k _ _ _ h o (frm_set c) .set
def gzNil : ZGs := fun ds S Q => match ds with
  | [] => Q S
  | _ => False
def gzCons (g : ZG) (h : ZGs) : ZGs := fun ds S Q => match ds with
  | d :: r => g d S fun S1 => h r S1 Q
  | [] => False
theorem gsd_nil : PGsd X P [] gzNil [] := by
  refine ⟨_, pgs_nil, fun Z hZ S σ H vs ds Qz Q ok r h k => ?_⟩
  cases r with
  | nil => exact ⟨rfl, k _ _ _ h ok .refl .refl⟩
  | cons _ _ => exact h.elim
theorem gsd_cons {es : List Expr} {g : ZG} {h : ZGs} {js ks : List Nat} (h1 : PGd X P e g js) (h2 : PGsd X P es h ks)
    (hs : (assignEach (e :: es) X.env).map (·.2) = assign e X.env :: (assignEach es X.env).map (·.2) := by rfl) : PGsd X P (e :: es) (gzCons g h) (js ++ ks) := by
  obtain ⟨t0, p0, q0⟩ := h1.ex
  obtain ⟨t1, p1, q1⟩ := h2.ex
  refine ⟨_, pgs_cons p0 p1 hs, fun Z hZ S σ H vs ds Qz Q ok r hq k => ?_⟩
  cases r with
  | nil => exact hq.elim
  | cons r rr => exact ⟨_, _, rfl, q0 Z hZ S σ H _ _ _ _ ok r hq fun S1 σ1 H1 h1 o f w1 => q1 Z hZ S1 σ1 H1 _ _ _ _ o (f.reps rr) h1 fun S2 σ2 H2 h2 o2 f2 w2 => k _ _ _ h2 o2 (f.trans f2) (w1.trans w2)⟩
theorem pg_or {tg : Expr} {g g' : TG} (h : PG X tg g) (h' : PG X tg g') : PG X tg (fun v σ H Q => g v σ H Q ∨ g' v σ H Q) :=
  ⟨fun pins s σ H v u Q I r q => q.elim (fun q => h.run pins s σ H v u Q I r q) fun q => h'.run pins s σ H v u Q I r q⟩
/-- a, b, .. = a tuple or a list of that length -/
def gzTup (n : Nat) (g : ZGs) : ZG := fun d S Q => match d with
  | .tup ds => ds.length = n ∧ g ds S Q
  | .lst ds => ds.length = n ∧ g ds S Q
  | _ => False
theorem gd_tup {es : List Expr} {k : Nat} {g : ZGs} {n : Nat} {js : List Nat} (hc : X.calm = true) (h : PGsd X P es g js)
    (hn : (assignEach es X.env).length = n := by rfl) (hst : (assignEach es X.env).findIdx? (·.1) = none := by rfl) : PGd X P (.Tuple es k pos) (gzTup n g) js := by
  obtain ⟨t0, p0, q0⟩ := h.ex
  refine ⟨_, pg_or (pg_tup hc p0 hn hst) (pg_unl hc p0 hn hst), fun Z hZ S σ H v d Qz Q ok r hq k => ?_⟩
  unfold gzTup at hq
  split at hq
  · obtain ⟨a, vs, rfl, h2, h3⟩ := r.tup_inv
    exact .inl ⟨a, vs, rfl, h2, h3.length.trans hq.1, q0 Z hZ S σ H _ _ _ _ ok h3 hq.2 k⟩
  · obtain ⟨a, vs, rfl, h2, h3⟩ := r.lst_inv
    exact .inr ⟨a, vs, rfl, .inl (.inl h2), h3.length.trans hq.1, q0 Z hZ S σ H _ _ _ _ ok h3 hq.2 k⟩
  · exact hq.elim
def zAsg (te : ZE) (g : ZG) : ZS := fun E S => te S fun d S1 => g d S1 E.nx
theorem sd_asg {tg : Expr} {g : ZG} {js : List Nat} (he : PD X P e te) (hg : PGd X P tg g js) (hs : swapsWithSole [tg] e pos.line X.env = pure false := by rfl) (hw : swappedStores [tg] e X.env = pure none := by rfl)
    (h1 : (assignEach [tg] X.env).map (·.2) = [assign tg X.env] := by rfl) : PSd X P (.Assign [tg] e pos) (zAsg te g) := by
  obtain ⟨t0, p0, q0⟩ := he.ex
  obtain ⟨t1, p1, q1⟩ := hg.ex
  refine ⟨_, ps_asg p0 p1 hs hw h1, fun Z hZ S σ H E D0 ok h i => q0 Z hZ S σ H _ _ ok h fun d S1 v H1 h1 o f r => ?_⟩
  exact q1 Z hZ S1 σ H1 _ _ _ _ o r h1 fun S2 σ2 H2 h2 o2 f2 _ => i.nx _ _ _ h2 o2 (f.trans f2)
def zSet (te : ZE) (i : Nat) : ZS := fun E S => te S fun d S1 => E.nx (S1.set i (.sh d))
theorem sd_set {i : Nat} {x : Str} {pos' : Pos} (hb : ∀ Z, P Z → Z.bag = none ∨ i ≠ 0) (hN : X.N.Nodup) (he : PD X P e te) (hi : X.N[i]? = some x := by rfl) (hx : Loc X.env.scope x := by first | exact Or.inl rfl | exact Or.inr rfl)
    (hs : swapsWith e (some (.Name x pos')) pos.line X.env = pure false := by rfl) (hf : X.fn x = true ∨ X.env.scope.names.lookup x = some .local := by first | exact .inl rfl | exact .inr rfl) : PSd X P (.Assign [.Name x pos'] e pos) (zSet te i) := by
  obtain ⟨t0, p0, q0⟩ := he.ex
  refine ⟨_, ps_set hN hi hx p0 hs hf, fun Z hZ S σ H E D0 ok h j => q0 Z hZ S σ H _ _ ok h fun d S1 v H1 h1 o f r => ?_⟩
  obtain ⟨o2, c⟩ := o.setSh (i := i) r (hb Z hZ)
  exact j.nx _ _ _ h1 o2 (f.trans (frm_set c))
/-- name = a new list, kept as its own -/
def zSetF (te : ZA) (i : Nat) : ZS := fun E S => te S fun d S1 => E.nx (S1.set i (.ow d))
theorem fresh_set {S S1 : SS} {σ : L2.St} {H H1 : Hp} {i : Nat} {a : Addr} {xs : List D} (hb : Z.bag = none ∨ i ≠ 0) (o : Ok X Z S1 σ H1) (f : Frm X Z S σ H S1 σ H1) (fr : Fresh X Z S1 σ H1 a xs)
    (c : ∀ v d, Rep X.K X.mg H (avs Z S σ) v d → Rep X.K X.mg H1 (fun b => avs Z S1 σ b ∨ b = a) v d) : Ok X Z (S1.set i (.ow xs)) (σ.set i (some (.ref a))) H1 ∧ Frm X Z S σ H (S1.set i (.ow xs)) (σ.set i (some (.ref a))) H1 := by
  obtain ⟨o2, k⟩ := o.setOw (i := i) fr hb
  exact ⟨o2, ⟨fun v d r => k (c v d r), f.pr⟩⟩
theorem sd_setF {i : Nat} {x : Str} {pos' : Pos} {tf : ZA} (hb : ∀ Z, P Z → Z.bag = none ∨ i ≠ 0) (hN : X.N.Nodup) (he : PF X P e tf) (hi : X.N[i]? = some x := by rfl) (hx : Loc X.env.scope x := by first | exact Or.inl rfl | exact Or.inr rfl)
    (hs : swapsWith e (some (.Name x pos')) pos.line X.env = pure false := by rfl) (hf : X.fn x = true ∨ X.env.scope.names.lookup x = some .local := by first | exact .inl rfl | exact .inr rfl) : PSd X P (.Assign [.Name x pos'] e pos) (zSetF tf i) := by
  obtain ⟨t0, p0, q0⟩ := he.ex
  refine ⟨_, ps_set hN hi hx p0 hs hf, fun Z hZ S σ H E D0 ok h j => q0 Z hZ S σ H _ _ ok h fun d S1 a H1 h1 o f fr c => ?_⟩
  obtain ⟨o2, f2⟩ := fresh_set (i := i) (hb Z hZ) o f fr c
  exact j.nx _ _ _ h1 o2 f2
/-- name op= e -/
def zAug (i : Nat) (f : Int → Int → Int) (te : ZE) : ZS := fun E S => match S[i]? with
  | some (.sh (.int a)) => te S fun d S1 => match d with
    | .int b => E.nx (S1.set i (.sh (.int (f a b))))
    | _ => False
  | _ => False
theorem sd_aug {i : Nat} {x : Str} {pos' : Pos} {op : Operator} {f : Int → Int → Int} (ho : PIp X op (ipI f)) (hb : ∀ Z, P Z → Z.bag = none ∨ i ≠ 0) (hN : X.N.Nodup) (he : PD X P e te) (hi : X.N[i]? = some x := by rfl) (hx : Loc X.env.scope x := by first | exact Or.inl rfl | exact Or.inr rfl)
    (hf : X.fn x = true ∨ X.env.scope.names.lookup x = some .local := by first | exact .inl rfl | exact .inr rfl) : PSd X P (.AugAssign (.Name x pos') op e pos) (zAug i f te) := by
  obtain ⟨t0, p0, q0⟩ := he.ex
  refine ⟨_, ps_aug hN hi hx p0 ho hf, fun Z hZ S σ H E D0 ok h j => ?_⟩
  unfold zAug at h
  split at h
  · rename_i n e1
    obtain ⟨v, h1, h2⟩ := ok.sl.sh i _ e1
    obtain rfl := h2.int_inv
    refine ⟨_, h1, q0 Z hZ S σ H _ _ ok h fun d S1 v H1 h3 o f1 r => ?_⟩
    split at h3
    · obtain rfl := r.int_inv
      refine ⟨_, _, rfl, rfl, ?_⟩
      obtain ⟨o2, c⟩ := o.setSh (i := i) (.int (f n _)) (hb Z hZ)
      exact j.nx _ _ _ h3 o2 (f1.trans (frm_set c))
    · exact h3.elim
  · exact h.elim
theorem frm_write {S : SS} {σ : L2.St} {H : Hp} {i : Nat} {xs : List D} {a : Addr} {vs ws : List V} {ys : List D} (ok : Ok X Z S σ H) (e : S[i]? = some (.ow xs)) (ha : σ[i]? = some (some (.ref a))) (hv : H a = some (.lst vs)) :
    Frm X Z S σ H (S.set i (.ow ys)) σ (upd H a (.lst ws)) := by
  refine .of ?_ fun b hb => upd_ne fun z => (ok.own i xs a e ha).2 (z ▸ hb)
  rw [avs_set e]
  exact .write hv rfl (avs_at e ha)
/-! ### methods of an own list -/
/-- content, arguments: what comes, the new content -/
abbrev ZM := List D → List D → (D → List D → Prop) → Prop
def MtZ (K : PySem.W.Frag) (mg : Str → Option Value) (r : V → List V → Hp → VK → Prop) (f : ZM) : Prop :=
  ∀ (H : Hp) (av : Addr → Prop) (l : Addr) (us vs : List V) (ys ds : List D) (Qd : D → List D → Prop) (Q : VK), H l = some (.lst us) → Reps K mg H av us ys → Reps K mg H av vs ds → f ys ds Qd →
    (∀ d ns nvs v, Qd d ns → Reps K mg H av nvs ns → Rep K mg H av v d → Q v (upd H l (.lst nvs))) → r (.ref l) vs H Q
def zLM (i : Nat) (f : ZM) (ta : ZA) : ZE := fun S Q => match S[i]? with
  | some (.ow _) => ta S fun ds S1 => match S1[i]? with
    | some (.ow xs) => f xs ds fun d ys => Q d (S1.set i (.ow ys))
    | _ => False
  | _ => False
theorem pd_lm {i : Nat} {x name : Str} {id : String} {r : V → List V → Hp → VK → Prop} {f : ZM} {npos apos cpos : Pos} {es : List Expr} {ta : ZA} (slot : Slot "list" name id) (hty : typeOf (.builtin id) = pure (.type "method_descriptor")) (hm : MtR X id r) (hf : MtZ X.K X.mg r f)
    (he : PAd X P (e :: es) ta) (hN : X.N[i]? = some x := by rfl) (hv : Vis X.env.scope x := by first | exact Or.inl rfl | exact Or.inr (Or.inl rfl) | exact Or.inr (Or.inr rfl)) (hd : (x == ("__debug__" : Str)) = false := by decide)
    (hcd : (x == ("__classdict__" : Str)) = false := by decide) (hbase : attributeBase (.Name x npos) name X.env (eval (.Name x npos) X.env) = eval (.Name x npos) X.env := by rfl)
    (hfew : ((backTo cpos (starEach (e :: es) X.env)).all (fun x => !x.1) && (backToKw cpos (keywordEach [] X.env)).all (fun x => x.1.isSome)
      && decide ((e :: es).length + ([] : List Keyword).length + (if ([] : List Keyword).isEmpty then 0 else 1) < 30)) = true := by rfl)
    (hline : (apos.endLine == cpos.line) = true := by rfl) (hs : starEach (e :: es) X.env = (false, eval e X.env) :: starEach es X.env := by rfl) (hplain : (backTo cpos (starEach es X.env)).any (·.1) = false := by rfl) :
    PD X P (.Call (.Attribute (.Name x npos) name apos) (e :: es) [] cpos) (zLM i f ta) := by
  obtain ⟨t0, p0, q0⟩ := he.ex
  refine ⟨_, pe_bm PySem.F.plainAttrs_list slot hty hm (pe_var (i := i) hN hv hd hcd) p0 hbase hfew hline hs hplain, fun Z hZ S σ H Qz Q ok h k => ?_⟩
  unfold zLM at h
  split at h
  · rename_i ws e0
    obtain ⟨a, us, h1, h2, h3⟩ := ok.sl.ow i ws e0
    refine ⟨_, h1, .inl ⟨rfl, _, .inl (.inl h2)⟩, ?_⟩
    refine q0 Z hZ S σ H _ _ ok h fun ds S1 vs H1 h4 o1 f1 r1 => ?_
    split at h4
    · rename_i xs e1
      obtain ⟨a', us', g1, g2, g3⟩ := o1.sl.ow i xs e1
      rw [h1] at g1
      cases g1
      exact hf H1 _ a us' vs xs ds _ Q g2 g3 r1 h4 fun d ns nvs v h5 h6 h7 => k d _ v _ h5 (o1.write e1 h1 g2 h6) (f1.trans (frm_write o1 e1 h1 g2)) ((frm_write o1 e1 h1 g2).rp _ _ h7)
    · exact h4.elim
  · exact h.elim
theorem pd_lm0 {i : Nat} {x name : Str} {id : String} {r : V → List V → Hp → VK → Prop} {f : ZM} {npos apos cpos : Pos} (slot : Slot "list" name id) (hty : typeOf (.builtin id) = pure (.type "method_descriptor")) (hm : MtR X id r) (hf : MtZ X.K X.mg r f)
    (hN : X.N[i]? = some x := by rfl) (hv : Vis X.env.scope x := by first | exact Or.inl rfl | exact Or.inr (Or.inl rfl) | exact Or.inr (Or.inr rfl)) (hd : (x == ("__debug__" : Str)) = false := by decide)
    (hcd : (x == ("__classdict__" : Str)) = false := by decide) (hbase : attributeBase (.Name x npos) name X.env (eval (.Name x npos) X.env) = eval (.Name x npos) X.env := by rfl)
    (hline : (apos.endLine == cpos.line) = true := by rfl) :
    PD X P (.Call (.Attribute (.Name x npos) name apos) [] [] cpos) (zLM i f zNil) := by
  refine ⟨_, pe_bm0 PySem.F.plainAttrs_list slot hty hm (pe_var (i := i) hN hv hd hcd) hbase hline, fun Z hZ S σ H Qz Q ok h k => ?_⟩
  unfold zLM zNil at h
  split at h
  · rename_i xs e1
    obtain ⟨a, us, h1, g2, g3⟩ := ok.sl.ow i xs e1
    refine ⟨_, h1, .inl ⟨rfl, _, .inl (.inl g2)⟩, ?_⟩
    have h' : (match S[i]? with | some (.ow xs) => f xs [] fun d ys => Qz d (S.set i (.ow ys)) | _ => False) := h
    rw [e1] at h'
    exact hf H _ a us [] xs [] _ Q g2 g3 .nil h' fun d ns nvs v h5 h6 h7 => k d _ v _ h5 (ok.write e1 h1 g2 h6) (frm_write ok e1 h1 g2) ((frm_write ok e1 h1 g2).rp _ _ h7)
  · exact h.elim
def fApp : ZM := fun ys ds Q => match ds with
  | [d] => ys.length < sizeLine ∧ Q .non (ys ++ [d])
  | _ => False
theorem mz_append {K mg} : MtZ K mg rAppend fApp := by
  intro H av l us vs ys ds Qd Q hl r1 r2 h k
  unfold fApp at h
  split at h
  · cases r2 with
    | cons r rr =>
      cases rr
      exact ⟨l, us, _, rfl, rfl, hl, by rw [r1.length]; exact h.1, k _ _ _ _ h.2 (r1.append (.cons r .nil)) .non⟩
  · exact h.elim
def fPop : ZM := fun ys ds Q => match ds with
  | [] => ∃ d, ys[ys.length - 1]? = some d ∧ Q d ys.dropLast
  | _ => False
theorem mz_pop {K mg} : MtZ K mg rPop fPop := by
  intro H av l us vs ys ds Qd Q hl r1 r2 h k
  unfold fPop at h
  split at h
  · cases r2
    obtain ⟨d, h1, h2⟩ := h
    obtain ⟨v, h3, h4⟩ := r1.get h1
    exact ⟨l, us, v, rfl, rfl, hl, by rw [r1.length]; exact h3, k _ _ _ _ h2 r1.dropLast h4⟩
  · exact h.elim
def fClear : ZM := fun ys ds Q => match ds with
  | [] => Q .non []
  | _ => False
theorem mz_clear {K mg} : MtZ K mg rClear fClear := by
  intro H av l us vs ys ds Qd Q hl r1 r2 h k
  unfold fClear at h
  split at h
  · cases r2
    exact ⟨l, us, rfl, rfl, hl, k _ _ _ _ h .nil .non⟩
  · exact h.elim
/-- xs[k] = e, xs an own list -/
def zSetIx (i : Nat) (te tk : ZE) : ZS := fun E S => te S fun d S1 => match S1[i]? with
  | some (.ow _) => tk S1 fun k S2 => (match k with
    | .int k => (match S2[i]? with
      | some (.ow xs) => ∃ n, ixN xs.length k = some n ∧ E.nx (S2.set i (.ow (xs.set n d)))
      | _ => False)
    | _ => False)
  | _ => False
theorem sd_setIx {i : Nat} {x : Str} {npos tpos : Pos} {ke : Expr} {tk : ZE} (he : PD X P e te) (hk : PD X P ke tk) (hN : X.N[i]? = some x := by rfl) (hv : Vis X.env.scope x := by first | exact Or.inl rfl | exact Or.inr (Or.inl rfl) | exact Or.inr (Or.inr rfl)) (hd : (x == ("__debug__" : Str)) = false := by decide)
    (hcd : (x == ("__classdict__" : Str)) = false := by decide)
    (ha : ∀ v, assign (.Subscript (.Name x npos) ke tpos) X.env v = (do
      let ov ← holding [v] (eval (.Name x npos) X.env)
      let iv ← holding [v, ov] (eval ke X.env)
      standAt tpos
      holding [v, ov, iv] (setItem ov iv v)
      release [v, ov, iv] []) := by intro _; rfl)
    (hs : swapsWithSole [.Subscript (.Name x npos) ke tpos] e pos.line X.env = pure false := by rfl) (hw : swappedStores [.Subscript (.Name x npos) ke tpos] e X.env = pure none := by rfl)
    (h1 : (assignEach [.Subscript (.Name x npos) ke tpos] X.env).map (·.2) = [assign (.Subscript (.Name x npos) ke tpos) X.env] := by rfl) :
    PSd X P (.Assign [.Subscript (.Name x npos) ke tpos] e pos) (zSetIx i te tk) := by
  obtain ⟨t0, p0, q0⟩ := he.ex
  obtain ⟨t1, p1, q1⟩ := hk.ex
  refine ⟨_, ps_asg p0 (pg_sub (pe_var (i := i) hN hv hd hcd) p1 set_list ha) hs hw h1, fun Z hZ S σ H E D0 ok h j => q0 Z hZ S σ H _ _ ok h fun d S1 v H1 h1 o f r => ?_⟩
  split at h1
  · rename_i ws e0
    obtain ⟨a0, us0, g0, _, _⟩ := o.sl.ow i ws e0
    refine ⟨_, g0, q1 Z hZ S1 σ H1 _ _ o h1 fun k S2 u H2 h2 o2 f2 r2 => ?_⟩
    split at h2
    · split at h2
      · rename_i xs e1
        obtain ⟨n, h3, h4⟩ := h2
        obtain ⟨a, us, g1, g2, g3⟩ := o2.sl.ow i xs e1
        rw [g0] at g1
        cases g1
        obtain rfl := r2.int_inv
        refine ⟨_, us, _, n, rfl, rfl, g2, by rw [g3.length]; exact h3, ?_⟩
        exact j.nx _ _ _ h4 (o2.write e1 g0 g2 (Reps.set (f2.rp _ _ r) n g3)) ((f.trans f2).trans (frm_write o2 e1 g0 g2))
      · exact h2.elim
    · exact h2.elim
  · exact h1.elim
end
end Zz

/-! The pure layer: loops, comprehensions, slices. -/
namespace Zz
open PySem PySem.Spec PyProof.Rows L2

def forz (g : ZG) (tb : ZS) : List D → ZD → SS → Prop
  | [], E, S => E.nx S
  | d :: ds, E, S => g d S fun S1 => tb { E with nx := forz g tb ds E, ct := forz g tb ds E, bk := E.nx } S1

/-- what is walked gives the items ds, whatever the body does -/
def Gives (X : Cx) (Z : Zc) (S : SS) (σ : L2.St) (H : Hp) (J : It) (ds : List D) : Prop :=
  ∀ (Z' : Zc) (S' : SS) (σ' : L2.St) (H' : Hp), Ok X Z' S' σ' H' → (∀ v d, Rep X.K X.mg H (avs Z S σ) v d → Rep X.K X.mg H' (avs Z' S' σ') v d) → ∀ i : Nat,
    (∀ d, ds[i]? = some d → J.go i H' ∧ ∀ x H'', J.yld i H' x H'' → Same H' H'' ∧ Rep X.K X.mg H'' (avs Z' S' σ') x d) ∧ (ds.length ≤ i → J.stop i H')

section
variable {X : Cx} {Z : Zc} {P : Zc → Prop} {st : Stmt} {rest : List Stmt} {e : Expr} {t u : ZS} {te : ZE} {pos : Pos}

theorem drop_at {ds : List D} {i : Nat} {d : D} (h : ds[i]? = some d) : ds.drop i = d :: ds.drop (i + 1) := by
  obtain ⟨hl, e⟩ := List.getElem?_eq_some_iff.mp h
  rw [List.drop_eq_getElem_cons hl, e]
theorem for_core {js : List Nat} {g0 : TG} {tb0 : TS} {g : ZG} {tb : ZS}
    (q0 : ∀ (S : SS) (σ : L2.St) (H : Hp) (v : V) (d : D) (Qz : SS → Prop) (Q : L2.St → Hp → Prop), Ok X Z S σ H → Rep X.K X.mg H (avs Z S σ) v d → g d S Qz →
      (∀ S' σ' H', Qz S' → Ok X Z S' σ' H' → Frm X Z S σ H S' σ' H' → Wp js σ σ' → Q σ' H') → g0 v σ H Q)
    (q1 : ∀ (S : SS) (σ : L2.St) (H : Hp) (E : ZD) (D0 : Ends), Ok X Z S σ H → tb E S → Imp X Z S σ H E D0 → tb0 D0 σ H)
    {S : SS} {σ : L2.St} {H : Hp} {E : ZD} {D0 : Ends} {J : It} {ds : List D} (ok : Ok X Z S σ H) (h : forz g tb ds E S) (im : Imp X Z S σ H E D0) (gv : Gives X Z S σ H J ds) :
    ∃ W : Nat → Nat → L2.St → Hp → Prop, (∃ m, W 0 m σ H) ∧ ∀ i m σ H, W i m σ H →
      (J.stop i H ∧ D0.nx σ H) ∨ (J.go i H ∧ ∃ N : L2.St → Hp → Prop, (∀ σ' H', N σ' H' → ∃ m', m' < m ∧ W (i + 1) m' σ' H') ∧ ∀ x H', J.yld i H x H' → g0 x σ H' fun σ2 H2 => tb0 { D0 with nx := N, ct := N, bk := D0.nx } σ2 H2) := by
  refine ⟨fun i m σ' H' => ∃ S', m = ds.length - i ∧ i ≤ ds.length ∧ Ok X Z S' σ' H' ∧ Frm X Z S σ H S' σ' H' ∧ forz g tb (ds.drop i) E S', ⟨_, S, rfl, Nat.zero_le _, ok, .refl, h⟩, ?_⟩
  rintro i m σ' H' ⟨S', rfl, hi, ok', f, h'⟩
  have gi := gv Z S' σ' H' ok' f.rp i
  by_cases hlt : i < ds.length
  · obtain ⟨d, hd⟩ : ∃ d, ds[i]? = some d := ⟨_, List.getElem?_eq_getElem hlt⟩
    rw [drop_at hd] at h'
    obtain ⟨go, yl⟩ := gi.1 d hd
    refine .inr ⟨go, fun σ2 H2 => ∃ S2, Ok X Z S2 σ2 H2 ∧ Frm X Z S σ H S2 σ2 H2 ∧ forz g tb (ds.drop (i + 1)) E S2, fun σ2 H2 ⟨S2, o2, f2, h2⟩ => ⟨ds.length - (i + 1), by omega, S2, rfl, by omega, o2, f2, h2⟩, fun x H'' hy => ?_⟩
    obtain ⟨s, r⟩ := yl x H'' hy
    have f0 : Frm X Z S' σ' H' S' σ' H'' := .same ok' s
    refine q0 S' σ' H'' x d _ _ (ok'.same s) r h' fun S2 σ2 H2 h2 o2 f2 _ => ?_
    have ff := (f.trans f0).trans f2
    refine q1 S2 σ2 H2 _ _ o2 h2 ⟨fun S3 σ3 H3 h3 o3 f3 => ⟨S3, o3, ff.trans f3, h3⟩, fun d S3 σ3 v H3 h3 o3 f3 r3 => im.rt _ _ _ _ _ h3 o3 (ff.trans f3) r3, fun S3 σ3 H3 h3 o3 f3 => im.nx _ _ _ h3 o3 (ff.trans f3), fun S3 σ3 H3 h3 o3 f3 => ⟨S3, o3, ff.trans f3, h3⟩⟩
  · have ei : i = ds.length := by omega
    refine .inl ⟨gi.2 (by omega), ?_⟩
    rw [ei, List.drop_length] at h'
    exact im.nx _ _ _ h' ok' f

/-- the ways to walk -/
theorem gives_list {S : SS} {σ : L2.St} {H : Hp} {a : Addr} {d : D} {ds : List D} (hd : d = .lst ds ∨ d = .fls ds) (r : Rep X.K X.mg H (avs Z S σ) (.ref a) d) : Gives X Z S σ H (Itl X.K a) ds := by
  intro Z' S' σ' H' ok f i
  have r' := f _ _ r
  obtain ⟨vs, hs, hr⟩ : ∃ vs, SqL X.K H' a vs ∧ Reps X.K X.mg H' (avs Z' S' σ') vs ds := by
    rcases hd with rfl | rfl
    · obtain ⟨b, vs, e, h1, h2⟩ := r'.lst_inv
      cases e
      exact ⟨vs, .inl (.inl h1), h2⟩
    · obtain ⟨b, vs, e, h1, h2⟩ := r'.fls_inv
      cases e
      exact ⟨vs, h1.seq, h2⟩
  refine ⟨fun d hd => ?_, fun hl => ⟨vs, hs, by rw [hr.length]; exact hl⟩⟩
  obtain ⟨v, h1, h2⟩ := hr.get hd
  refine ⟨⟨vs, v, hs, h1⟩, fun x H'' ⟨e, hy⟩ => ?_⟩
  subst e
  have := hy vs hs
  rw [h1] at this
  cases this
  exact ⟨Same.refl _, h2⟩
theorem gives_tup {S : SS} {σ : L2.St} {H : Hp} {a : Addr} {ds : List D} (r : Rep X.K X.mg H (avs Z S σ) (.ref a) (.tup ds)) : Gives X Z S σ H (Itt X.K a) ds := by
  intro Z' S' σ' H' ok f i
  obtain ⟨b, vs, e, hs, hr⟩ := (f _ _ r).tup_inv
  cases e
  refine ⟨fun d hd => ?_, fun hl => ⟨vs, hs, by rw [hr.length]; exact hl⟩⟩
  obtain ⟨v, h1, h2⟩ := hr.get hd
  refine ⟨⟨vs, v, hs, h1⟩, fun x H'' ⟨e, hy⟩ => ?_⟩
  subst e
  have := hy vs hs
  rw [h1] at this
  cases this
  exact ⟨Same.refl _, h2⟩
/-- lo, lo + 1, .. -/
def rangeD (lo : Int) (n : Nat) : List D := (List.range n).map fun (i : Nat) => D.int (lo + (i : Int))
theorem rangeD_get {lo : Int} {n i : Nat} {d : D} (h : (rangeD lo n)[i]? = some d) : i < n ∧ d = .int (lo + (i : Int)) := by
  unfold rangeD at h
  rw [List.getElem?_map] at h
  cases e : (List.range n)[i]? with
  | none => rw [e] at h; cases h
  | some k =>
    rw [e] at h
    obtain ⟨h1, h2⟩ := List.getElem?_eq_some_iff.mp e
    rw [List.getElem_range] at h2
    subst h2
    exact ⟨by simpa using h1, by cases h; rfl⟩
theorem rangeD_length {lo : Int} {n : Nat} : (rangeD lo n).length = n := by unfold rangeD; rw [List.length_map, List.length_range]
theorem gives_range {S : SS} {σ : L2.St} {H : Hp} {lo : Int} {n : Nat} : Gives X Z S σ H (Itr lo n) (rangeD lo n) := by
  intro Z' S' σ' H' ok f i
  refine ⟨fun d hd => ?_, fun hl => by rw [rangeD_length] at hl; exact hl⟩
  obtain ⟨h1, rfl⟩ := rangeD_get hd
  refine ⟨h1, fun x H'' ⟨e, hy⟩ => ?_⟩
  subst e hy
  exact ⟨Same.refl _, .int _⟩

/-! ### for -/
/-- the source of a loop: its reading hands on the items -/
structure PId (X : Cx) (P : Zc → Prop) (tg iter : Expr) (w : ZA) : Prop where
  ex : ∃ w0 : TI, PI X tg iter w0 ∧ ∀ (Z : Zc), P Z → ∀ (S : SS) (σ : L2.St) (H : Hp) (Qz : List D → SS → Prop) (R : It → Hp → Prop), Ok X Z S σ H → w S Qz →
    (∀ ds S' J H', Qz ds S' → Ok X Z S' σ H' → Frm X Z S σ H S' σ H' → Gives X Z S' σ H' J ds → R J H') → w0 σ H R
def zItL (te : ZE) : ZA := fun S Q => te S fun d S1 => match d with
  | .lst ds => Q ds S1
  | .fls ds => Q ds S1
  | _ => False
def zItT (te : ZE) : ZA := fun S Q => te S fun d S1 => match d with
  | .tup ds => Q ds S1
  | _ => False
theorem id_list {tg : Expr} (h : PD X P e te) : PId X P tg e (zItL te) := by
  obtain ⟨t0, p0, q0⟩ := h.ex
  refine ⟨_, pi_list p0, fun Z hZ S σ H Qz R ok h k => q0 Z hZ S σ H _ _ ok h fun d S1 v H1 h1 o f r => ?_⟩
  split at h1
  · obtain ⟨a, vs, rfl, h2, h3⟩ := r.lst_inv
    exact ⟨a, rfl, ⟨vs, .inl (.inl h2)⟩, k _ _ _ _ h1 o f (gives_list (.inl rfl) r)⟩
  · obtain ⟨a, vs, rfl, h2, h3⟩ := r.fls_inv
    exact ⟨a, rfl, ⟨vs, h2.seq⟩, k _ _ _ _ h1 o f (gives_list (.inr rfl) r)⟩
  · exact h1.elim
theorem id_tup {tg : Expr} (h : PD X P e te) : PId X P tg e (zItT te) := by
  obtain ⟨t0, p0, q0⟩ := h.ex
  refine ⟨_, pi_tup p0, fun Z hZ S σ H Qz R ok h k => q0 Z hZ S σ H _ _ ok h fun d S1 v H1 h1 o f r => ?_⟩
  split at h1
  · obtain ⟨a, vs, rfl, h2, h3⟩ := r.tup_inv
    exact ⟨a, rfl, ⟨vs, h2⟩, k _ _ _ _ h1 o f (gives_tup r)⟩
  · exact h1.elim
/-- range(a), range(a, b) -/
def zItR1 (te : ZE) : ZA := fun S Q => te S fun d S1 => match d with
  | .int j => -(2 ^ 62) ≤ j ∧ j < 2 ^ 62 ∧ Q (rangeD 0 j.toNat) S1
  | _ => False
def zItR2 (ta tb : ZE) : ZA := fun S Q => ta S fun d S1 => tb S1 fun e S2 => match d, e with
  | .int i, .int j => (-(2 ^ 62) ≤ i ∧ i < 2 ^ 62 ∧ -(2 ^ 62) ≤ j ∧ j < 2 ^ 62) ∧ Q (rangeD i (j - i).toNat) S2
  | _, _ => False
theorem id_range1 {tg a : Expr} {p : Pos} (hg : Gl X "range") (hm : X.mg "range" = none) (h : PD X P a te) (hs : starEach [a] X.env = [(false, eval a X.env)] := by rfl) : PId X P tg (.Call (.Name "range" p) [a] [] pos) (zItR1 te) := by
  obtain ⟨t0, p0, q0⟩ := h.ex
  refine ⟨_, pi_range1 hg hm (pa_cons p0 pa_nil hs) hs, fun Z hZ S σ H Qz R ok h k => q0 Z hZ S σ H _ _ ok h fun d S1 v H1 h1 o f r => ?_⟩
  split at h1
  · obtain rfl := r.int_inv
    exact ⟨_, rfl, h1.1, h1.2.1, k _ _ _ _ h1.2.2 o f gives_range⟩
  · exact h1.elim
theorem id_range2 {tg a b : Expr} {ta tb : ZE} {p : Pos} (hg : Gl X "range") (hm : X.mg "range" = none) (ha : PD X P a ta) (hb : PD X P b tb)
    (hs : starEach [a, b] X.env = [(false, eval a X.env), (false, eval b X.env)] := by rfl) (hs2 : starEach [b] X.env = [(false, eval b X.env)] := by rfl) : PId X P tg (.Call (.Name "range" p) [a, b] [] pos) (zItR2 ta tb) := by
  obtain ⟨t0, p0, q0⟩ := ha.ex
  obtain ⟨t1, p1, q1⟩ := hb.ex
  refine ⟨_, pi_range2 hg hm (pa_cons p0 (pa_cons p1 pa_nil hs2) (by rw [hs, hs2])) hs hs2, fun Z hZ S σ H Qz R ok h k => q0 Z hZ S σ H _ _ ok h fun d S1 v H1 h1 o f r => q1 Z hZ S1 σ H1 _ _ o h1 fun e S2 w H2 h2 o2 f2 r2 => ?_⟩
  split at h2
  · obtain rfl := r.int_inv
    obtain rfl := r2.int_inv
    exact ⟨_, _, rfl, h2.1, k _ _ _ _ h2.2 o2 (f.trans f2) gives_range⟩
  · exact h2.elim
def zFor (w : ZA) (g : ZG) (tb : ZS) : ZS := fun E S => w S fun ds S1 => forz g tb ds E S1
theorem sd_for {tg iter : Expr} {body : List Stmt} {w : ZA} {g : ZG} {tb : ZS} {js : List Nat} (hp : PassesOwn (model X.prog X.w) X.A X.env X.xe) (hc : X.calm = true) (hi : PId X P tg iter w) (hg : PGd X P tg g js) (hb : PSsd X P body tb)
    (hs : ∀ x, foldedSetIterable iter X.env x = pure x := by intro _; rfl) : PSd X P (.For tg iter body [] pos) (zFor w g tb) := by
  obtain ⟨w0, pw, qw⟩ := hi.ex
  obtain ⟨g0, pg, qg⟩ := hg.ex
  obtain ⟨t0, pt, qt⟩ := hb.ex
  refine ⟨_, ps_for hp hc pw pg pt hs, fun Z hZ S σ H E D0 ok h j => qw Z hZ S σ H _ _ ok h fun ds S1 J H1 h1 o f gv => ?_⟩
  exact for_core (qg Z hZ) (qt Z hZ) o h1 (j.frm f) gv

/-! ### while -/
def whz (c : ZT) (tb : ZS) : Nat → ZD → SS → Prop
  | 0, _, _ => False
  | n + 1, E, S => c S fun b S1 => (b = true → tb { E with nx := whz c tb n E, ct := whz c tb n E, bk := E.nx } S1) ∧ (b = false → E.nx S1)
def zWhile (c : ZT) (tb : ZS) : ZS := fun E S => ∃ n, whz c tb n E S
theorem sd_while {c : Expr} {body : List Stmt} {tc : ZT} {tb : ZS} (hp : PassesOwn (model X.prog X.w) X.A X.env X.xe) (hc : PTd X P c tc) (hb : PSsd X P body tb) : PSd X P (.While c body [] pos) (zWhile tc tb) := by
  obtain ⟨c0, pc, qc⟩ := hc.ex
  obtain ⟨t0, pt, qt⟩ := hb.ex
  refine ⟨_, ps_while hp pc pt, fun Z hZ S σ H E D0 ok h j => ?_⟩
  obtain ⟨n, h⟩ := h
  refine ⟨fun m σ' H' => ∃ S', Ok X Z S' σ' H' ∧ Frm X Z S σ H S' σ' H' ∧ whz tc tb m E S', ⟨n, S, ok, .refl, h⟩, ?_⟩
  rintro m σ' H' ⟨S', ok', f, h'⟩
  cases m with
  | zero => exact h'.elim
  | succ m =>
    refine qc Z hZ S' σ' H' _ _ ok' h' fun b S1 H1 h1 o1 f1 => ?_
    have ff := f.trans f1
    cases b with
    | false => exact iteF (j.nx _ _ _ (h1.2 rfl) o1 ff)
    | true =>
      refine iteT ⟨fun σ2 H2 => ∃ S2, Ok X Z S2 σ2 H2 ∧ Frm X Z S σ H S2 σ2 H2 ∧ whz tc tb m E S2, fun σ2 H2 q => ⟨m, Nat.lt_succ_self m, q⟩, ?_⟩
      exact qt Z hZ S1 σ' H1 _ _ o1 (h1.1 rfl) ⟨fun S3 σ3 H3 h3 o3 f3 => ⟨S3, o3, ff.trans f3, h3⟩, fun d S3 σ3 v H3 h3 o3 f3 r3 => j.rt _ _ _ _ _ h3 o3 (ff.trans f3) r3, fun S3 σ3 H3 h3 o3 f3 => j.nx _ _ _ h3 o3 (ff.trans f3), fun S3 σ3 H3 h3 o3 f3 => ⟨S3, o3, ff.trans f3, h3⟩⟩

/-! ### slices -/
abbrev ZO := SS → (Option Int → SS → Prop) → Prop
structure POd (X : Cx) (P : Zc → Prop) (e : Option Expr) (t : ZO) : Prop where
  ex : ∃ t0 : TO, PO X e t0 ∧ ∀ (Z : Zc), P Z → ∀ (S : SS) (σ : L2.St) (H : Hp) (Qz : Option Int → SS → Prop) (Q : Option Int → Hp → Prop), Ok X Z S σ H → t S Qz →
    (∀ o S' H', Qz o S' → Ok X Z S' σ H' → Frm X Z S σ H S' σ H' → Q o H') → t0 σ H Q
def zNoPart : ZO := fun S Q => Q none S
def zPart (te : ZE) : ZO := fun S Q => te S fun d S1 => match d with
  | .int i => Q (some i) S1
  | _ => False
theorem od_none : POd X P none zNoPart := ⟨_, po_none, fun Z hZ S σ H Qz Q ok h k => k _ _ _ h ok .refl⟩
theorem od_some (h : PD X P e te) : POd X P (some e) (zPart te) := by
  obtain ⟨t0, p0, q0⟩ := h.ex
  refine ⟨_, po_some p0, fun Z hZ S σ H Qz Q ok h k => q0 Z hZ S σ H _ _ ok h fun d S1 v H1 h1 o f r => ?_⟩
  split at h1
  · obtain rfl := r.int_inv
    exact ⟨_, rfl, k _ _ _ h1 o f⟩
  · exact h1.elim
def cutD (xs : List D) (lo hi : Option Int) : List D := (xs.drop (HT.sIx xs.length 0 lo)).take (HT.sIx xs.length xs.length hi - HT.sIx xs.length 0 lo)
theorem reps_cut {H : Hp} {av : Addr → Prop} {vs : List V} {xs : List D} {lo hi : Option Int} (r : Reps X.K X.mg H av vs xs) : Reps X.K X.mg H av (cutV vs lo hi) (cutD xs lo hi) := by
  unfold cutV cutD
  rw [r.length]
  exact (r.drop _).take _
def cntL (S : SS) : DV → Option (List D)
  | .sh (.lst xs) => some xs
  | .sh (.fls xs) => some xs
  | .at i => match S[i]? with
    | some (.ow xs) => some xs
    | _ => none
  | _ => none
theorem cntL_at {S : SS} {σ : L2.St} {H : Hp} {v : V} {dv : DV} {xs : List D} (ok : Ok X Z S σ H) (r : RVal X Z S σ H v dv) (e : cntL S dv = some xs) :
    ∃ a vs, v = .ref a ∧ SqL X.K H a vs ∧ Reps X.K X.mg H (avs Z S σ) vs xs := by
  cases dv with
  | sh d =>
    cases d with
    | lst ys =>
      cases (show some ys = some xs from e)
      obtain ⟨a, vs, h1, h2, h3⟩ := Rep.lst_inv r
      exact ⟨a, vs, h1, .inl (.inl h2), h3⟩
    | fls ys =>
      cases (show some ys = some xs from e)
      obtain ⟨a, vs, h1, h2, h3⟩ := Rep.fls_inv r
      exact ⟨a, vs, h1, h2.seq, h3⟩
    | _ => cases e
  | «at» i =>
    have e' : (match S[i]? with | some (.ow ys) => some ys | _ => none) = some xs := e
    split at e'
    · rename_i ys h
      cases e'
      obtain ⟨a, vs, h1, h2, h3⟩ := ok.sl.ow i _ h
      have r' : σ[i]? = some (some v) := r
      rw [h1] at r'
      cases r'
      exact ⟨a, vs, rfl, .inl (.inl h2), h3⟩
    · cases e'
def zSlice (ta : ZV) (lo hi : ZO) : ZA := fun S Q => ta S fun dv S1 => lo S1 fun l S2 => hi S2 fun h S3 => ∃ xs, cntL S3 dv = some xs ∧ Q (cutD xs l h) S3
theorem pf_slice {a : Expr} {lo hi : Option Expr} {va : ZV} {tl th : ZO} {p2 : Pos} (ha : PV X P a va) (hl : POd X P lo tl) (hh : POd X P hi th) : PF X P (.Subscript a (.Slice lo hi none p2) pos) (zSlice va tl th) := by
  obtain ⟨t0, p0, q0⟩ := ha.ex
  obtain ⟨t1, p1, q1⟩ := hl.ex
  obtain ⟨t2, p2, q2⟩ := hh.ex
  refine ⟨_, pe_slice sl_list p0 p1 p2, fun Z hZ S σ H Qz Q ok h k => ?_⟩
  refine q0 Z hZ S σ H _ _ ok h fun dv S1 v H1 h1 o1 f1 r1 => q1 Z hZ S1 σ H1 _ _ o1 h1 fun l S2 H2 h2 o2 f2 => q2 Z hZ S2 σ H2 _ _ o2 h2 fun u S3 H3 h3 o3 f3 => ?_
  obtain ⟨xs, h4, h5⟩ := h3
  obtain ⟨b, vs, rfl, h6, h7⟩ := cntL_at o3 ((r1.frm f2).frm f3) h4
  exact ⟨b, vs, rfl, h6, fresh_k o3 ((f1.trans f2).trans f3) (reps_cut h7) h5 k⟩
end

/-! ### comprehensions -/
def wipeS (S : SS) : List Nat → SS
  | [] => S
  | v :: vs => (wipeS S vs).set v .un
/-- the slots vs as they stood -/
def backS (S S' : SS) : List Nat → SS
  | [] => S'
  | v :: vs => match S[v]? with
    | some x => (backS S S' vs).set v x
    | none => backS S S' vs
def noOw (S : SS) : List Nat → Prop
  | [] => True
  | v :: vs => (match S[v]? with | some (.ow _) => False | _ => True) ∧ noOw S vs
def lcz (vs : List Nat) (g : ZG) (tt : ZT) (te : ZE) : List D → List D → SS → (List D → SS → Prop) → Prop
  | [], acc, S, Q => Q acc S
  | d :: ds, acc, S, Q => g d S fun S1 => tt S1 fun b S2 => (b = true → te S2 fun y S3 => acc.length < sizeLine ∧ lcz vs g tt te ds (acc ++ [y]) (wipeS S3 vs) Q) ∧ (b = false → lcz vs g tt te ds acc (wipeS S2 vs) Q)
def zLc (vs : List Nat) (w : ZA) (g : ZG) (tt : ZT) (te : ZE) : ZA := fun S Q => w S fun ds S1 => noOw S1 vs ∧ lcz vs g tt te ds [] (wipeS S1 vs) fun acc S2 => Q acc (backS S1 S2 vs)
end Zz

/-! The pure layer: list comprehensions. -/
namespace Zz
open PySem PySem.Spec PyProof.Rows L2

section
variable {X : Cx} {Z : Zc} {S S' S1 : SS} {σ σ' : L2.St} {H H' H1 : Hp}
theorem Ok.blk {s : Shared} {Hb : Hp} {sc : Scope} {env : Env} {fp : List Addr} (ok : Ok X Z S σ H) : Ok (X.blk s Hb sc env fp) Z S σ H := ⟨ok.len, ⟨ok.sl.sh, ok.sl.ow⟩, ok.inj, ok.own, ok.ext, ok.avd, ok.bag⟩
theorem Ok.unblk {s : Shared} {Hb : Hp} {sc : Scope} {env : Env} {fp : List Addr} (ok : Ok (X.blk s Hb sc env fp) Z S σ H) : Ok X Z S σ H := ⟨ok.len, ⟨ok.sl.sh, ok.sl.ow⟩, ok.inj, ok.own, ok.ext, ok.avd, ok.bag⟩
theorem Frm.unblk {s : Shared} {Hb : Hp} {sc : Scope} {env : Env} {fp : List Addr} (f : Frm (X.blk s Hb sc env fp) Z S σ H S' σ' H') : Frm X Z S σ H S' σ' H' := ⟨f.rp, f.pr⟩

theorem Ok.wipe (ok : Ok X Z S σ H) : ∀ (vs : List Nat), (∀ i ∈ vs, Z.bag = none ∨ i ≠ 0) → Ok X Z (wipeS S vs) (L2.wipe σ vs) H ∧ ∀ a, avs Z (wipeS S vs) (L2.wipe σ vs) a → avs Z S σ a
  | [], _ => ⟨ok, fun _ h => h⟩
  | v :: vs, hb => by
    obtain ⟨o, k⟩ := ok.wipe vs fun i hi => hb i (List.mem_cons_of_mem _ hi)
    obtain ⟨o2, k2⟩ := o.setUn (hb v List.mem_cons_self)
    exact ⟨o2, fun a h => k a (k2 a h)⟩
theorem wipe_get_ne {j : Nat} : ∀ {vs : List Nat}, j ∉ vs → (L2.wipe σ vs)[j]? = σ[j]?
  | [], _ => rfl
  | v :: vs, h => by
    show ((L2.wipe σ vs).set v none)[j]? = _
    have hv : v ≠ j := fun e => h (by rw [e]; exact List.mem_cons_self)
    rw [List.getElem?_set_ne hv, wipe_get_ne fun e => h (List.mem_cons_of_mem _ e)]
theorem wipe_get_in {j : Nat} : ∀ {vs : List Nat}, j ∈ vs → (L2.wipe σ vs)[j]? = if j < σ.length then some none else none
  | [], h => by simp at h
  | v :: vs, h => by
    show ((L2.wipe σ vs).set v none)[j]? = _
    by_cases hv : v = j
    · subst hv
      by_cases hl : v < σ.length
      · rw [List.getElem?_set_self (by rw [wipe_length]; exact hl), if_pos hl]
      · rw [if_neg hl, List.getElem?_eq_none_iff, List.length_set, wipe_length]
        omega
    · rw [List.getElem?_set_ne hv]
      exact wipe_get_in ((List.mem_cons.mp h).resolve_left fun e => hv e.symm)
theorem wipe_wipe (vs : List Nat) : L2.wipe (L2.wipe σ vs) vs = L2.wipe σ vs := by
  apply List.ext_getElem?
  intro j
  by_cases h : j ∈ vs
  · rw [wipe_get_in h, wipe_get_in h, wipe_length]
  · rw [wipe_get_ne h]
theorem backS_length : ∀ (vs : List Nat), (backS S S' vs).length = S'.length
  | [] => rfl
  | v :: vs => by
    unfold backS
    split
    · rw [List.length_set, backS_length vs]
    · exact backS_length vs
theorem backS_get (hl : S.length = S'.length) {j : Nat} : ∀ (vs : List Nat), (j ∈ vs → (backS S S' vs)[j]? = S[j]?) ∧ (j ∉ vs → (backS S S' vs)[j]? = S'[j]?)
  | [] => ⟨fun h => by simp at h, fun _ => rfl⟩
  | v :: vs => by
    obtain ⟨i1, i2⟩ := backS_get hl (j := j) vs
    unfold backS
    split
    · rename_i x e
      have hv : v < S.length := (List.getElem?_eq_some_iff.mp e).1
      by_cases hj : v = j
      · subst hj
        refine ⟨fun _ => by rw [List.getElem?_set_self (by rw [backS_length]; omega), e], fun h => absurd List.mem_cons_self h⟩
      · rw [List.getElem?_set_ne hj]
        exact ⟨fun h => i1 ((List.mem_cons.mp h).resolve_left fun e => hj e.symm), fun h => i2 fun z => h (List.mem_cons_of_mem _ z)⟩
    · rename_i e
      refine ⟨fun h => ?_, fun h => i2 fun z => h (List.mem_cons_of_mem _ z)⟩
      by_cases hj : j ∈ vs
      · exact i1 hj
      · have ej : j = v := (List.mem_cons.mp h).resolve_right hj
        subst ej
        rw [i2 hj, e]
        rw [List.getElem?_eq_none_iff] at e ⊢
        omega
theorem noOw_get {j : Nat} {xs : List D} : ∀ {vs : List Nat}, noOw S vs → j ∈ vs → S[j]? ≠ some (.ow xs)
  | [], _, h => by simp at h
  | v :: vs, h, hj => fun e => by
    rcases List.mem_cons.mp hj with q | q
    · subst q
      have := h.1
      rw [e] at this
      exact this
    · exact noOw_get h.2 q e
theorem Ok.back {vs : List Nat} (o1 : Ok X Z S1 σ H1) (ok : Ok X Z S' (L2.wipe σ vs) H) (hno : noOw S1 vs) (rp : ∀ v d, Rep X.K X.mg H1 (avs Z S1 σ) v d → Rep X.K X.mg H (avs Z S' (L2.wipe σ vs)) v d) :
    Ok X Z (backS S1 S' vs) σ H ∧ ∀ a, avs Z (backS S1 S' vs) σ a → avs Z S' (L2.wipe σ vs) a := by
  have hl : S1.length = S'.length := by
    rw [o1.len, ok.len, wipe_length]
  have low : ∀ {j : Nat} {zs : List D}, (backS S1 S' vs)[j]? = some (.ow zs) → j ∉ vs ∧ S'[j]? = some (.ow zs) := fun {j zs} h => by
    obtain ⟨b1, b2⟩ := backS_get (S := S1) (S' := S') hl (j := j) vs
    by_cases hj : j ∈ vs
    · rw [b1 hj] at h
      exact absurd h (noOw_get hno hj)
    · rw [b2 hj] at h
      exact ⟨hj, h⟩
  have sub : ∀ a, avs Z (backS S1 S' vs) σ a → avs Z S' (L2.wipe σ vs) a := fun a h => by
    rcases h with h | ⟨j, zs, h1, h2⟩
    · exact .inl h
    · obtain ⟨hj, h1⟩ := low h1
      exact .inr ⟨j, zs, h1, by rw [wipe_get_ne hj]; exact h2⟩
  have k : Carry H H (avs Z S' (L2.wipe σ vs)) (avs Z (backS S1 S' vs) σ) := .same (Same.refl H) sub
  refine ⟨⟨by rw [backS_length, ← hl]; exact o1.len, ⟨fun j d h => ?_, fun j zs h => ?_⟩, fun j l zs ys b h1 h2 h3 h4 => ?_, fun j zs b h1 h2 => ?_, ok.ext, ok.avd, fun b h => ?_⟩, sub⟩
  · obtain ⟨b1, b2⟩ := backS_get (S := S1) (S' := S') hl (j := j) vs
    by_cases hj : j ∈ vs
    · rw [b1 hj] at h
      obtain ⟨v, h1, h2⟩ := o1.sl.sh j d h
      exact ⟨v, h1, (rp _ _ h2).carry k⟩
    · rw [b2 hj] at h
      obtain ⟨v, h1, h2⟩ := ok.sl.sh j d h
      rw [wipe_get_ne hj] at h1
      exact ⟨v, h1, h2.carry k⟩
  · obtain ⟨hj, h⟩ := low h
    obtain ⟨b, us, h1, h2, h3⟩ := ok.sl.ow j zs h
    rw [wipe_get_ne hj] at h1
    exact ⟨b, us, h1, h2, h3.carry k⟩
  · obtain ⟨n1, h1⟩ := low h1
    obtain ⟨n2, h2⟩ := low h2
    exact ok.inj j l _ _ b h1 h2 (by rw [wipe_get_ne n1]; exact h3) (by rw [wipe_get_ne n2]; exact h4)
  · obtain ⟨n1, h1⟩ := low h1
    exact ok.own j _ b h1 (by rw [wipe_get_ne n1]; exact h2)
  · obtain ⟨zs, h1, h2⟩ := o1.bag b h
    obtain ⟨zs', h3, h4⟩ := ok.bag b h
    have h0 : 0 ∉ vs := fun z => noOw_get hno z h1
    obtain ⟨b1, b2⟩ := backS_get (S := S1) (S' := S') hl (j := 0) vs
    exact ⟨zs', by rw [b2 h0]; exact h3, h2⟩

/-- a list at D that is being made, avoided -/
abbrev Zc.at (Z : Zc) (D : Addr) : Zc := { Z with av := fun a => Z.av a ∨ a = D, ez := fun _ _ => False }
theorem avs_at_iff {D a : Addr} : avs (Z.at D) S σ a ↔ (avs Z S σ a ∨ a = D) := by
  constructor
  · rintro ((h | h) | h)
    · exact .inl (.inl h)
    · exact .inr h
    · exact .inl (.inr h)
  · rintro ((h | h) | h)
    · exact .inl (.inl h)
    · exact .inr h
    · exact .inl (.inr h)
theorem Ok.toAt (ok : Ok X Z S σ H) {D : Addr} {vs : List V} (hD : H D = none) : Ok X (Z.at D) S σ (upd H D (.lst vs)) := by
  have s : Same H (upd H D (.lst vs)) := Same.upd hD
  have k : Carry H (upd H D (.lst vs)) (avs Z S σ) (avs (Z.at D) S σ) := fun a o e n => by
    obtain ⟨h1, h2⟩ := Carry.new (av := avs Z S σ) (o := .lst vs) hD a o e n
    exact ⟨h1, fun m z => h2 m (avs_at_iff.mp z)⟩
  refine ⟨ok.len, ok.sl.carry k fun _ _ a us _ _ e => s a _ e, ok.inj, fun i xs a h1 h2 => ?_, fun a o e n => s a o (ok.ext a o e n), fun a z e => ?_, ok.bag⟩
  · obtain ⟨h3, h4⟩ := ok.own i xs a h1 h2
    refine ⟨h3, fun z => z.elim h4 fun e => ?_⟩
    obtain ⟨b, us, h5, h6, _⟩ := ok.sl.ow i xs h1
    rw [h2] at h5
    cases h5
    rw [e, hD] at h6
    cases h6
  · rcases z with z | z
    · exact ok.avd a z (s.free e)
    · rw [z, upd_same] at e
      cases e
theorem Ok.ofAt {D : Addr} (ok : Ok X (Z.at D) S σ H) : Ok X Z S σ H := by
  have k : Carry H H (avs (Z.at D) S σ) (avs Z S σ) := .same (Same.refl H) fun a h => avs_at_iff.mpr (.inl h)
  exact ⟨ok.len, ok.sl.carry k fun _ _ _ _ _ _ e => e, ok.inj, fun i xs a h1 h2 => ⟨(ok.own i xs a h1 h2).1, fun z => (ok.own i xs a h1 h2).2 (.inl z)⟩, ok.ext, fun a z => ok.avd a (.inl z), ok.bag⟩
/-- the list at D is written -/
theorem Ok.wrAt {D : Addr} {us ws : List V} (ok : Ok X (Z.at D) S σ H) (h : H D = some (.lst us)) (h0 : Z.H0 D = none) : Ok X (Z.at D) S σ (upd H D (.lst ws)) := by
  have hav : avs (Z.at D) S σ D := .inl (.inr rfl)
  have k : Carry H (upd H D (.lst ws)) (avs (Z.at D) S σ) (avs (Z.at D) S σ) := .write h rfl hav
  refine ⟨ok.len, ok.sl.carry k fun i xs a vs h1 h2 e => ?_, ok.inj, ok.own, fun a o e n => ?_, fun a z e => ?_, ok.bag⟩
  · rw [upd_ne fun z => (ok.own i xs a h1 h2).2 (.inr z)]
    exact e
  · rw [upd_ne fun z => by rw [z, h0] at e; cases e]
    exact ok.ext a o e n
  · by_cases hb : a = D
    · rw [hb, upd_same] at e; cases e
    · rw [upd_ne hb] at e
      exact ok.avd a z e
theorem Ok.new0 (ok : Ok X Z S σ H) {a : Addr} (ha : H a = none) : Z.H0 a = none := by
  cases e : Z.H0 a with
  | none => rfl
  | some o =>
    by_cases hb : Z.bag = some a
    · obtain ⟨zs, h1, h2⟩ := ok.bag a hb
      obtain ⟨b, us, h3, h4, _⟩ := ok.sl.ow 0 zs h1
      rw [h2] at h3
      cases h3
      rw [ha] at h4
      cases h4
    · have := ok.ext a o e hb
      rw [ha] at this
      cases this
end

/-- the claims of a comprehension's block -/
def Pin (P : Zc → Prop) : Zc → Prop := fun Z' => ∃ Z, P Z ∧ Z'.bag = Z.bag ∧ Z'.ez = fun _ _ => False
structure PTsd (X : Cx) (P : Zc → Prop) (ifs : List Expr) (t : ZT) : Prop where
  ex : ∃ t0 : TT, PTs X ifs t0 ∧ ∀ (Z : Zc), P Z → ∀ (S : SS) (σ : L2.St) (H : Hp) (Qz : Bool → SS → Prop) (Q : Bool → Hp → Prop), Ok X Z S σ H → t S Qz →
    (∀ b S' H', Qz b S' → Ok X Z S' σ H' → Frm X Z S σ H S' σ H' → Q b H') → t0 σ H Q
def zYes : ZT := fun S Q => Q true S
section
variable {X : Cx} {P : Zc → Prop}
theorem tsd_nil : PTsd X P [] zYes := ⟨_, pts_nil, fun Z hZ S σ H Qz Q ok h k => k _ _ _ h ok .refl⟩
theorem tsd_one {c : Expr} {t : ZT} (h : PTd X P c t) : PTsd X P [c] t := by
  obtain ⟨t0, p0, q0⟩ := h.ex
  exact ⟨_, pts_one p0, q0⟩

/-- readings for every block at once -/
theorem pg_all {ι : Type} {Y : ι → Cx} {tg : Expr} {G : ι → TG} (h : ∀ i, PG (Y i) tg (G i)) (j : ι) : PG (Y j) tg (fun v σ H Q => ∀ i, G i v σ H Q) :=
  ⟨fun pins s σ H v u Q I r q => (h j).run pins s σ H v u Q I r (q j)⟩
theorem pts_all {ι : Type} {Y : ι → Cx} {ifs : List Expr} {G : ι → TT} (h : ∀ i, PTs (Y i) ifs (G i)) (j : ι) : PTs (Y j) ifs (fun σ H Q => ∀ i, G i σ H Q) :=
  ⟨fun pins s σ H Q I q => (h j).run pins s σ H Q I (q j)⟩
theorem pe_all {ι : Type} {Y : ι → Cx} {e : Expr} {G : ι → TE} (h : ∀ i, PE (Y i) e (G i)) (j : ι) : PE (Y j) e (fun σ H Q => ∀ i, G i σ H Q) :=
  ⟨fun pins s σ H Q I q => (h j).run pins s σ H Q I (q j)⟩

/-- a comprehension: as a value, and stored in a local name on its row -/
structure PC (X : Cx) (P : Zc → Prop) (e : Expr) (t : ZA) : Prop where
  ex : ∃ t0 : TE, PE X e t0 ∧ (∀ (i : Nat) (y : Str) (py spos : Pos), X.N[i]? = some y → X.env.scope.names.lookup y = some .local → swapsWith e (some (.Name y py)) spos.line X.env = pure true → PS X (.Assign [.Name y py] e spos) (tAsg t0 (gName i))) ∧
    ∀ (Z : Zc), P Z → ∀ (S : SS) (σ : L2.St) (H : Hp) (Qz : List D → SS → Prop) (Q : VK), Ok X Z S σ H → t S Qz →
    (∀ xs S' a H', Qz xs S' → Ok X Z S' σ H' → Frm X Z S σ H S' σ H' → Fresh X Z S' σ H' a xs → (∀ v d, Rep X.K X.mg H (avs Z S σ) v d → Rep X.K X.mg H' (fun b => avs Z S' σ b ∨ b = a) v d) → Q (.ref a) H') → t0 σ H Q
theorem PC.pf {e : Expr} {t : ZA} (h : PC X P e t) : PF X P e t := by
  obtain ⟨t0, p, _, q⟩ := h.ex
  exact ⟨t0, p, q⟩
/-- name = [..] -/
theorem sd_setC {i : Nat} {y : Str} {py pos : Pos} {e : Expr} {t : ZA} (hb : ∀ Z, P Z → Z.bag = none ∨ i ≠ 0) (h : PC X P e t) (hi : X.N[i]? = some y := by rfl) (hy : X.env.scope.names.lookup y = some .local := by rfl) (hsw : swapsWith e (some (.Name y py)) pos.line X.env = pure true := by rfl) :
    PSd X P (.Assign [.Name y py] e pos) (zSetF t i) := by
  obtain ⟨t0, _, p, q0⟩ := h.ex
  refine ⟨_, p i y py pos hi hy hsw, fun Z hZ S σ H E D0 ok h j => q0 Z hZ S σ H _ _ ok h fun d S1 a H1 h1 o f fr c => ?_⟩
  obtain ⟨o2, f2⟩ := fresh_set (i := i) (hb Z hZ) o f fr c
  exact j.nx _ _ _ h1 o2 f2
theorem sd_setCD {i : Nat} {y : Str} {py pos : Pos} {e : Expr} {t : ZA} (hb : ∀ Z, P Z → Z.bag = none ∨ i ≠ 0) (h : PC X P e t) (hi : X.N[i]? = some y := by rfl) (hy : X.env.scope.names.lookup y = some .local := by rfl) (hsw : swapsWith e (some (.Name y py)) pos.line X.env = pure true := by rfl) :
    PSd X P (.Assign [.Name y py] e pos) (zSet (zFD t) i) := by
  obtain ⟨t0, _, p, q0⟩ := h.ex
  refine ⟨_, p i y py pos hi hy hsw, fun Z hZ S σ H E D0 ok h j => q0 Z hZ S σ H _ _ ok h fun d S1 a H1 h1 o f fr c => ?_⟩
  obtain ⟨o2, c2⟩ := o.setSh (i := i) fr.rep (hb Z hZ)
  exact j.nx _ _ _ h1 o2 (f.trans (frm_set c2))
theorem pc_lc {elt tg iter : Expr} {ifs : List Expr} {scope : Scope} {own : List (Str × Nat)} {pos : Pos} {w : ZA} {g : ZG} {tt : ZT} {te : ZE} {js : List Nat} (hc : X.calm = true) (hN : X.N.Nodup) (hb : ∀ Z, P Z → ∀ i ∈ own.map (·.2), Z.bag = none ∨ i ≠ 0) (hi : PId X P tg iter w) (ok : BlkOk X.N X.env.scope scope own)
    (hj : ∀ j ∈ js, j ∈ own.map (·.2))
    (hg : ∀ (s : Shared) (H : Hp) (C : Addr) (cl : List (Str × Addr)) (fp : List Addr), PGd (X.blk s H scope (compEnvC scope cl C X.env) fp) (Pin P) tg g js) (ht : ∀ (s : Shared) (H : Hp) (C : Addr) (cl : List (Str × Addr)) (fp : List Addr), PTsd (X.blk s H scope (compEnvC scope cl C X.env) fp) (Pin P) ifs tt)
    (he : ∀ (s : Shared) (H : Hp) (C : Addr) (cl : List (Str × Addr)) (fp : List Addr), PD (X.blk s H scope (compEnvC scope cl C X.env) fp) (Pin P) elt te) (hs : ∀ x, foldedSetIterable iter X.env x = pure x := by intro _; rfl) :
    PC X P (.ListComp elt [⟨tg, iter, ifs, 0⟩] scope pos) (zLc (own.map (·.2)) w g tt te) := by
  obtain ⟨w0, pw, qw⟩ := hi.ex
  let ι := Shared × Hp × Addr × List (Str × Addr) × List Addr
  let Y : ι → Cx := fun i => X.blk i.1 i.2.1 scope (compEnvC scope i.2.2.2.1 i.2.2.1 X.env) i.2.2.2.2
  have hg' : ∀ i : ι, PGd (Y i) (Pin P) tg g js := fun i => hg _ _ _ _ _
  have ht' : ∀ i : ι, PTsd (Y i) (Pin P) ifs tt := fun i => ht _ _ _ _ _
  have he' : ∀ i : ι, PD (Y i) (Pin P) elt te := fun i => he _ _ _ _ _
  have pG := fun i => (Classical.choose_spec (hg' i).ex).1
  have qG := fun i => (Classical.choose_spec (hg' i).ex).2
  have pT := fun i => (Classical.choose_spec (ht' i).ex).1
  have qT := fun i => (Classical.choose_spec (ht' i).ex).2
  have pE := fun i => (Classical.choose_spec (he' i).ex).1
  have qE := fun i => (Classical.choose_spec (he' i).ex).2
  refine ⟨_, pe_lc hc hN pw ok (fun s H C cl fp => pg_all pG (s, H, C, cl, fp)) (fun s H C cl fp => pts_all pT (s, H, C, cl, fp)) (fun s H C cl fp => pe_all pE (s, H, C, cl, fp)) hs,
    fun i y py spos hy hyl hsw => ps_setLc hc hN hy hyl hsw pw ok (fun s H C cl fp => pg_all pG (s, H, C, cl, fp)) (fun s H C cl fp => pts_all pT (s, H, C, cl, fp)) (fun s H C cl fp => pe_all pE (s, H, C, cl, fp)) hs, fun Z hZ S σ H Qz Q ok h k => ?_⟩
  refine qw Z hZ S σ H _ _ ok h fun ds S1 J H1 h1 o1 f1 gv => ?_
  obtain ⟨hno, h1⟩ := h1
  intro L hL
  have hbz := hb Z hZ
  have hP : Pin P (Z.at L) := ⟨Z, hZ, rfl, rfl⟩
  have h0 := o1.new0 hL
  obtain ⟨oW, kW⟩ := (o1.toAt (vs := []) hL).wipe (own.map (·.2)) hbz
  refine ⟨fun i m H' => ∃ acc us S', m = ds.length - i ∧ i ≤ ds.length ∧ Ok X (Z.at L) S' (L2.wipe σ (own.map (·.2))) H' ∧ H' L = some (.lst us) ∧ Reps X.K X.mg H' (avs (Z.at L) S' (L2.wipe σ (own.map (·.2)))) us acc ∧
    (∀ v d, Rep X.K X.mg H1 (avs Z S1 σ) v d → Rep X.K X.mg H' (avs (Z.at L) S' (L2.wipe σ (own.map (·.2)))) v d) ∧ (∀ a, Z.av a → H' a = H1 a) ∧
    lcz (own.map (·.2)) g tt te (ds.drop i) acc S' (fun acc S2 => Qz acc (backS S1 S2 (own.map (·.2)))), ⟨_, [], [], _, rfl, Nat.zero_le _, oW, upd_same, .nil, fun v d r => ?_, fun a ha => upd_ne fun z => o1.avd a ha (z ▸ hL), h1⟩, ?_⟩
  · have r2 : Rep X.K X.mg (upd H1 L (.lst [])) (fun b => avs Z S1 σ b ∨ b = L) v d := r.carry (.new hL)
    exact r2.carry (.same (Same.refl _) fun a ha => avs_at_iff.mp (kW a ha))
  rintro i m H' ⟨acc, us, S', rfl, hi, o', hD, hacc, rp, pr, hl⟩
  have gi := gv (Z.at L) S' _ H' o' rp i
  by_cases hlt : i < ds.length
  · obtain ⟨d, hd⟩ : ∃ d, ds[i]? = some d := ⟨_, List.getElem?_eq_getElem hlt⟩
    rw [drop_at hd] at hl
    obtain ⟨go, yl⟩ := gi.1 d hd
    refine .inr ⟨go, fun H2 => ∃ acc us S', Ok X (Z.at L) S' (L2.wipe σ (own.map (·.2))) H2 ∧ H2 L = some (.lst us) ∧ Reps X.K X.mg H2 (avs (Z.at L) S' (L2.wipe σ (own.map (·.2)))) us acc ∧
      (∀ v d, Rep X.K X.mg H1 (avs Z S1 σ) v d → Rep X.K X.mg H2 (avs (Z.at L) S' (L2.wipe σ (own.map (·.2)))) v d) ∧ (∀ a, Z.av a → H2 a = H1 a) ∧
      lcz (own.map (·.2)) g tt te (ds.drop (i + 1)) acc S' (fun acc S2 => Qz acc (backS S1 S2 (own.map (·.2)))), fun H2 ⟨acc, us, S', a1, a2, a3, a4, a5, a6⟩ => ⟨ds.length - (i + 1), by omega, acc, us, S', rfl, by omega, a1, a2, a3, a4, a5, a6⟩, fun x H'' hy => ?_⟩
    obtain ⟨s, r⟩ := yl x H'' hy
    intro c
    have o'' := o'.same s
    have f0 : Frm X (Z.at L) S' (L2.wipe σ (own.map (·.2))) H' S' (L2.wipe σ (own.map (·.2))) H'' := .same o' s
    refine qG c (Z.at L) hP S' _ H'' x d _ _ o''.blk r hl fun S2 σ2 H2 h2 o2 f2 w2 => ⟨(w2 _ hj).trans (wipe_wipe _), ?_⟩
    have ww : L2.wipe σ2 (own.map (·.2)) = L2.wipe σ (own.map (·.2)) := (w2 _ hj).trans (wipe_wipe _)
    intro c2
    refine qT c2 (Z.at L) hP S2 σ2 H2 _ _ o2.unblk.blk h2 fun b S3 H3 h3 o3 f3 => ?_
    have f23 := (f0.trans f2.unblk).trans f3.unblk
    cases b with
    | false =>
      refine iteF ?_
      obtain ⟨oq, kq⟩ := o3.unblk.wipe (own.map (·.2)) hbz
      have kk : Carry H3 H3 (avs (Z.at L) S3 σ2) (avs (Z.at L) (wipeS S3 (own.map (·.2))) (L2.wipe σ2 (own.map (·.2)))) := .same (Same.refl H3) kq
      rw [ww] at oq kk
      exact ⟨acc, us, _, oq, by rw [f23.pr L (.inr rfl)]; exact hD, (f23.reps hacc).carry kk, fun v d q => (f23.rp v d (rp v d q)).carry kk, fun a ha => (f23.pr a (.inl ha)).trans (pr a ha), h3.2 rfl⟩
    | true =>
      refine iteT ?_
      intro c3
      refine qE c3 (Z.at L) hP S3 σ2 H3 _ _ o3.unblk.blk (h3.1 rfl) fun y S4 v H4 h4 o4 f4 r4 => ?_
      obtain ⟨hz, h4⟩ := h4
      have f24 := f23.trans f4.unblk
      have hD4 : H4 L = some (.lst us) := by rw [f24.pr L (.inr rfl)]; exact hD
      have acc4 := f24.reps hacc
      refine ⟨us, hD4, by rw [acc4.length]; exact hz, ?_⟩
      have ow := o4.unblk.wrAt (ws := us ++ [v]) hD4 h0
      obtain ⟨oq, kq⟩ := ow.wipe (own.map (·.2)) hbz
      have kw : Carry H4 (upd H4 L (.lst (us ++ [v]))) (avs (Z.at L) S4 σ2) (avs (Z.at L) S4 σ2) := .write hD4 rfl (.inl (.inr rfl))
      have kk := kw.trans (.same (Same.refl _) kq)
      rw [ww] at oq kk
      refine ⟨acc ++ [y], us ++ [v], _, oq, upd_same, (acc4.append (.cons r4 .nil)).carry kk, fun v d q => (f24.rp v d (rp v d q)).carry kk, fun a ha => ?_, h4⟩
      rw [upd_ne (show a ≠ L from fun z => o1.avd a ha (by rw [z]; exact hL)), f24.pr a (.inl ha)]
      exact pr a ha
  · have ei : i = ds.length := by omega
    refine .inl ⟨gi.2 (by omega), ?_⟩
    rw [ei, List.drop_length] at hl
    have kb : Carry (upd H1 L (.lst [])) H1 (avs (Z.at L) S1 σ) (avs Z S1 σ) := fun a o e n => by
      by_cases ha : a = L
      · subst ha
        rw [upd_same] at e
        cases e
        exact absurd (.inl (.inr rfl)) (n rfl)
      · rw [upd_ne ha] at e
        exact ⟨e, fun m z => n m (avs_at_iff.mpr (.inl z))⟩
    obtain ⟨oe, ke⟩ := (o1.toAt (vs := []) hL).back o' hno fun v d r => rp v d (r.carry kb)
    have kz : Carry H' H' (avs (Z.at L) S' (L2.wipe σ (own.map (·.2)))) (fun b => avs Z (backS S1 S' (own.map (·.2))) σ b ∨ b = L) := .same (Same.refl H') fun a ha => ke a (avs_at_iff.mpr ha)
    have kz2 : Carry H' H' (avs (Z.at L) S' (L2.wipe σ (own.map (·.2)))) (avs Z (backS S1 S' (own.map (·.2))) σ) := .same (Same.refl H') fun a ha => ke a (avs_at_iff.mpr (.inl ha))
    refine k acc _ L H' hl oe.ofAt ⟨fun v d r => (rp v d (f1.rp v d r)).carry kz2, fun a ha => (pr a ha).trans (f1.pr a ha)⟩ ⟨⟨us, hD, hacc.carry kz⟩, h0, fun h => ?_, oe.sl.carry (.same (Same.refl H') fun a ha => avs_at_iff.mpr ha) fun _ _ _ _ _ _ e => e⟩ fun v d r => (rp v d (f1.rp v d r)).carry kz
    rcases h with h | ⟨j, zs, e1, e2⟩
    · exact o1.avd L h hL
    · exact (oe.own j zs L e1 e2).2 (.inr rfl)
theorem pf_lc {elt tg iter : Expr} {ifs : List Expr} {scope : Scope} {own : List (Str × Nat)} {pos : Pos} {w : ZA} {g : ZG} {tt : ZT} {te : ZE} {js : List Nat} (hc : X.calm = true) (hN : X.N.Nodup) (hb : ∀ Z, P Z → ∀ i ∈ own.map (·.2), Z.bag = none ∨ i ≠ 0) (hi : PId X P tg iter w) (ok : BlkOk X.N X.env.scope scope own)
    (hj : ∀ j ∈ js, j ∈ own.map (·.2))
    (hg : ∀ (s : Shared) (H : Hp) (C : Addr) (cl : List (Str × Addr)) (fp : List Addr), PGd (X.blk s H scope (compEnvC scope cl C X.env) fp) (Pin P) tg g js) (ht : ∀ (s : Shared) (H : Hp) (C : Addr) (cl : List (Str × Addr)) (fp : List Addr), PTsd (X.blk s H scope (compEnvC scope cl C X.env) fp) (Pin P) ifs tt)
    (he : ∀ (s : Shared) (H : Hp) (C : Addr) (cl : List (Str × Addr)) (fp : List Addr), PD (X.blk s H scope (compEnvC scope cl C X.env) fp) (Pin P) elt te) (hs : ∀ x, foldedSetIterable iter X.env x = pure x := by intro _; rfl) :
    PF X P (.ListComp elt [⟨tg, iter, ifs, 0⟩] scope pos) (zLc (own.map (·.2)) w g tt te) := (pc_lc hc hN hb hi ok hj hg ht he hs).pf
end
end Zz

/-! The pure layer: defs and their calls. -/
namespace Zz
open PySem PySem.Spec PyProof.Rows L2

/-- a def's promise over a stack where nothing is being shown (repr) -/
structure FnP (Pg : Program) (w : World) (K : PySem.W.Frag) (mg : Str → Option Value) (base : Heap) (k : Nat) (f : Addr) (fd : FuncData) (ps : List Str) (sp : Sp) : Prop where
  len : ∀ vs H Q E, sp vs H Q E → vs.length = ps.length
  run : ∀ (A : Around) (outer : List Env) (s : Shared) (H : Hp) (args : Args) (us : List Value) (vs : List V) (Q : VK) (E : XK), Room k A → A.guards = some [] → Env0 Pg w K mg base A outer s H → BindsTo s fd args (ps.zip us) →
    Vals vs us → sp vs H Q E → codeAny (model Pg w) A (.call (.ref f) args) (CR (L2.CX Pg w) outer Pg w H s Q E) s
theorem FnP.mono {Pg : Program} {w : World} {K : PySem.W.Frag} {mg : Str → Option Value} {base : Heap} {j k : Nat} {f : Addr} {fd : FuncData} {ps : List Str} {sp : Sp} (F : FnP Pg w K mg base j f fd ps sp) (h : j ≤ k) : FnP Pg w K mg base k f fd ps sp :=
  ⟨F.len, fun A outer s H args us vs Q E hr => F.run A outer s H args us vs Q E (Room.mono hr h)⟩
theorem fnp_of {Pg : Program} {w : World} {K : PySem.W.Frag} {mg : Str → Option Value} {base : Heap} {k : Nat} {x qual : Str} {st : Stmt} {f : Addr} {fd : FuncData} {N ps : List Str} {sp : Sp} (F : Fun K x qual st f fd) (S : FnScope N ps (defScope st))
    (len : ∀ vs H Q E, sp vs H Q E → vs.length = ps.length)
    (hbody : ∀ (cdv : Value) (A : Around) (outer : List Env) (s : Shared) (H : Hp) (vs : List V) (Q : VK) (E : XK), Room k (A.deeper (envOfC qual (defScope st) s.heap.objs.size f cdv)) → A.guards = some [] → (∀ b o, base.get? b = some o → H b = none) → sp vs H Q E →
      ∃ t, PSs (cxOf (L2.CX Pg w) Pg w K mg base N qual (defScope st) f cdv A outer s H E) (defBody st) t ∧ t { nx := fun _ H' => Q .non H', rt := Q } (start N vs) H) : FnP Pg w K mg base (k + 1) f fd ps sp := by
  obtain ⟨oc, od, kV, doc, pm, an, cdv, ct, osl, rfl, lk, hcd⟩ := F.ex
  refine ⟨len, fun A outer s H args us vs Q E hr hg e0 hb r hsp => ?_⟩
  have hl := len _ _ _ _ hsp
  have KX : K.In s.heap := e0.mod.kin.keeps fun b o e => (e0.bs b o e).1
  have lim : s.heap.NoLimit := e0.mod.nolimit.keeps fun b o e => (e0.bs b o e).1
  have hk2 : ((ps.zip us).all fun y => (defScope st).names.lookup y.1 == some .local || (defScope st).names.lookup y.1 == some .cell) = true := by
    rw [List.all_eq_true]
    rintro ⟨n, v⟩ hy
    rcases S.par n (List.of_mem_zip hy).1 with q | q
    · simp [q]
    · simp [q]
  refine Att.call_fn KX lim lk hcd hr.depth hb hk2 (fun s1 hx => ?_) S.co S.gen S.kind
  obtain ⟨t, ht, hq⟩ := hbody cdv A outer s H vs Q E (hr.deeper _) hg (fun b o e => (e0.bs b o e).2) hsp
  have I : Inv (cxOf (L2.CX Pg w) Pg w K mg base N qual (defScope st) f cdv A outer s H E) [] (start N vs) H s1 := inv_start S hr.hd e0 hl r hx
  refine wpAny_mono (ht.run [] s1 (start N vs) H _ I hq) (fun fl s' hs => ?_) fun e s' hs => hs
  have goal : ∀ {σ' : L2.St} {H' : Hp} {v : V} {u : Value}, Inv (cxOf (L2.CX Pg w) Pg w K mg base N qual (defScope st) f cdv A outer s H E) [] σ' H' s' → RelV v u → Q v H' → CE outer Pg w H s Q u s' :=
    fun {σ' H' v u} J rv q => ⟨v, H', J.os, J.bare, J.base, J.hok, rv, q⟩
  cases fl with
  | ret u =>
    obtain ⟨v, σ', H', J, rv, q⟩ := hs
    exact goal J rv q
  | next =>
    obtain ⟨σ', H', J, q⟩ := hs
    exact goal (v := V.non) (u := Value.none) J rfl q
  | brk => exact (show False from by obtain ⟨_, _, _, q⟩ := hs; exact q).elim
  | cont => exact (show False from by obtain ⟨_, _, _, q⟩ := hs; exact q).elim

section
variable {X : Cx} {k : Nat} {f : Addr} {fd : FuncData} {ps : List Str} {sp : Sp} {E : XK} {x : Str} {p pos : Pos} {e : Expr} {es : List Expr} {t : TA}
theorem run_fnp {pins : List (Addr × Obj)} {σ : L2.St} {H : Hp} {s : Shared} {Q : VK} {us : List Value} {vs : List V} (F : FnP X.prog X.w X.K X.mg X.base k f fd ps sp) (hr : Room k X.A) (hg : X.A.guards = some []) (hb : Binds X.K fd ps []) (hx : Passes (L2.CX X.prog X.w) X E)
    (I : Inv X pins σ H s) (r : Vals vs us) (h : sp vs H Q E) : wpAny (model X.prog X.w) X.A (call (.ref f) us) (EP X pins σ Q) X.xe s := by
  have hl : us.length = ps.length := by rw [← r.length]; exact F.len _ _ _ _ h
  have b := hb s us I.kIn (by rw [List.append_nil]; exact hl)
  rw [List.append_nil] at b
  refine wpAny_call (codeAny_mono (F.run X.A X.stack s H ⟨us, []⟩ us vs Q E hr hg I.env0 b r h) fun res s' hq => ?_)
  cases res with
  | error e => exact hx pins σ H s e s' I hq
  | ok fl =>
    cases fl with
    | ret u => exact I.after hq
    | _ => exact hq.elim
theorem pe_callp (F : FnP X.prog X.w X.K X.mg X.base k f fd ps sp) (hr : Room k X.A) (hgd : X.A.guards = some []) (hg : Gl X x) (hm : X.mg x = some (.ref f)) (hk : PySem.W.keepIn X.K (.ref f) = true) (hb : Binds X.K fd ps []) (hx : Passes (L2.CX X.prog X.w) X E)
    (ha : PA X (e :: es) t) (hdb : (x == ("__debug__" : Str)) = false := by decide) (he : starEach (e :: es) X.env = (false, eval e X.env) :: starEach es X.env := by rfl) (hpl : (backTo pos (starEach es X.env)).any (·.1) = false := by rfl) :
    PE X (.Call (.Name x p) (e :: es) [] pos) (fun σ H Q => t σ H fun vs H1 => sp vs H1 Q E) :=
  ⟨fun pins s σ H Q I h => wpAny_Call_Name_kw (ld_glob I hg hm (PySem.W.callWith_K (h₀ := X.base) I.ok.mod.kin hk (thn (ha.run pos pins s σ H _ I h) fun us s1 ⟨vs, H1, I1, r, q⟩ => ⟨I1.kIn, run_fnp F hr hgd hb hx I1 r q⟩) he hpl) hdb)⟩
end

/-! ### exceptions that leave -/
def XF (K : PySem.W.Frag) (mg : Str → Option Value) (av : Addr → Prop) (dd : Option Addr) (f : Option (Str × D)) (H' : Hp) : Prop :=
  match f, dd with
  | none, none => True
  | some (n, d), some a => ∃ v, H' a = some (.xd [(n, v)]) ∧ Rep K mg H' av v d
  | _, _ => False
def EZ (X : Cx) (Z : Zc) : XK := fun cls dd H' => ∃ c f, Z.ez c f ∧ X.mg c = some cls ∧ XF X.K X.mg Z.av dd f H' ∧ ∀ a o, Z.H0 a = some o → Z.bag ≠ some a → H' a = some o
def EP2 (X : Cx) (P : Zc → Prop) : XK := fun cls dd H' => ∃ Z, P Z ∧ EZ X Z cls dd H'
/-- what a body may lean on -/
structure Cd (k : Nat) (X : Cx) (P : Zc → Prop) : Prop where
  hr : Room k X.A
  gd : X.A.guards = some []
  calm : X.calm = true
  nd : X.N.Nodup
  po : PassesOwn (model X.prog X.w) X.A X.env X.xe
  tk : Takes X fun cls d _ H => EP2 X P cls d H
  cl : ∀ (Z : Zc) (p : Addr), P Z → P { Z with av := fun a => Z.av a ∨ a = p }
theorem Cd.hx {k : Nat} {X : Cx} {P : Zc → Prop} (C : Cd k X P) : Passes (L2.CX X.prog X.w) X (EP2 X P) := passes_call C.tk fun _ _ _ _ h => h
theorem Cd.hu {k : Nat} {X : Cx} {P : Zc → Prop} (C : Cd k X P) : X.A.units + 64 < cLine := C.hr.units
theorem Cd.blk {k : Nat} {X : Cx} {P : Zc → Prop} (C : Cd k X P) {s : Shared} {H : Hp} {sc : Scope} {env : Env} {fp : List Addr} : Cd k (X.blk s H sc env fp) (Pin P) :=
  ⟨C.hr, C.gd, C.calm, C.nd, PassesOwn.never, fun u s' ⟨_, _, _, _, _, _, _, _, _, _, _, _, _, _, _, _, c⟩ => by
    obtain ⟨Z', ⟨Z, _, _, e1⟩, c', f, h, _⟩ := c
    rw [e1] at h
    exact h.elim, fun Z p ⟨Z0, h0, e1, e2⟩ => ⟨Z0, h0, e1, e2⟩⟩
/-- slots that may be stored: no bag, or not its slot -/
def NoBag (P : Zc → Prop) : Prop := ∀ Z, P Z → Z.bag = none
theorem NoBag.s {P : Zc → Prop} (h : NoBag P) (i : Nat) : ∀ Z, P Z → Z.bag = none ∨ i ≠ 0 := fun Z hZ => .inl (h Z hZ)
theorem NoBag.pin {P : Zc → Prop} (h : NoBag P) : NoBag (Pin P) := fun Z ⟨Z0, h0, e, _⟩ => e.trans (h Z0 h0)
theorem bagS {P : Zc → Prop} {i : Nat} (h : i ≠ 0 := by decide) : ∀ Z, P Z → Z.bag = none ∨ i ≠ 0 := fun _ _ => .inr h

/-! ### promises over data -/
abbrev ZSp := List D → (Sl → Prop) → (Str → Option (Str × D) → Prop) → Prop
/-- what a call hands back: data, or a list that is new -/
def CRel (K : PySem.W.Frag) (mg : Str → Option Value) (av : Addr → Prop) (H H' : Hp) (v : V) : Sl → Prop
  | .sh d => Rep K mg H' av v d
  | .ow xs => ∃ a vs, v = .ref a ∧ H a = none ∧ H' a = some (.lst vs) ∧ Reps K mg H' (fun b => av b ∨ b = a) vs xs
  | .un => False
def spZ (K : PySem.W.Frag) (mg : Str → Option Value) (sp : ZSp) : Sp := fun vs H Q E => ∃ (av : Addr → Prop) (ds : List D) (Qz : Sl → Prop) (Ez : Str → Option (Str × D) → Prop),
  Reps K mg H av vs ds ∧ sp ds Qz Ez ∧ (∀ a, av a → H a ≠ none) ∧ (∀ r v H', Qz r → Same H H' → CRel K mg av H H' v r → Q v H') ∧
  (∀ c f cls dd H', Ez c f → Same H H' → mg c = some cls → XF K mg av dd f H' → E cls dd H')
/-- the first argument is an own list of the caller's, changed -/
abbrev ZSb := List D → List D → (D → List D → Prop) → Prop
def spB (K : PySem.W.Frag) (mg : Str → Option Value) (sp : ZSb) : Sp := fun vs H Q _ => ∃ (av : Addr → Prop) (b : Addr) (bvs : List V) (bs : List D) (vr : List V) (ds : List D) (Qz : D → List D → Prop),
  vs = .ref b :: vr ∧ H b = some (.lst bvs) ∧ av b ∧ Reps K mg H av bvs bs ∧ Reps K mg H av vr ds ∧ (∀ a, av a → H a ≠ none) ∧ sp bs ds Qz ∧
  (∀ d nb v nvs H', Qz d nb → (∀ a o, H a = some o → a ≠ b → H' a = some o) → H' b = some (.lst nvs) → Reps K mg H' av nvs nb → Rep K mg H' av v d → Q v H')

/-- the claims of a def's body: no less is avoided than Z0 says -/
def Sup (Z0 : Zc) : Zc → Prop := fun Z => Z.H0 = Z0.H0 ∧ Z.bag = Z0.bag ∧ Z.ez = Z0.ez ∧ ∀ a, Z0.av a → Z.av a
theorem Sup.refl {Z0 : Zc} : Sup Z0 Z0 := ⟨rfl, rfl, rfl, fun _ h => h⟩
abbrev Zc.pl (Z : Zc) (p : Addr) : Zc := { Z with av := fun a => Z.av a ∨ a = p }
def startS (N : List Str) (ds : List D) : SS := ds.map Sl.sh ++ List.replicate (N.length - ds.length) .un
section
variable {Pg : Program} {w : World} {K : PySem.W.Frag} {mg : Str → Option Value} {base : Heap} {k : Nat} {x qual : Str} {st : Stmt} {f : Addr} {fd : FuncData} {N ps : List Str}
theorem startS_sh {ds : List D} {i : Nat} {d : D} (h : (startS N ds)[i]? = some (.sh d)) : ds[i]? = some d := by
  unfold startS at h
  by_cases hi : i < ds.length
  · rw [List.getElem?_append_left (by simpa using hi), List.getElem?_map] at h
    cases e : ds[i]? with
    | none => rw [e] at h; cases h
    | some y => rw [e] at h; cases h; rfl
  · rw [List.getElem?_append_right (by simpa using hi), List.getElem?_replicate] at h
    split at h <;> cases h
theorem startS_ow {ds : List D} {i : Nat} {xs : List D} (h : (startS N ds)[i]? = some (.ow xs)) : False := by
  unfold startS at h
  by_cases hi : i < ds.length
  · rw [List.getElem?_append_left (by simpa using hi), List.getElem?_map] at h
    cases e : ds[i]? with
    | none => rw [e] at h; cases h
    | some y => rw [e] at h; cases h
  · rw [List.getElem?_append_right (by simpa using hi), List.getElem?_replicate] at h
    split at h <;> cases h
theorem start_get {vs : List V} {i : Nat} {v : V} (h : vs[i]? = some v) : (start N vs)[i]? = some (some v) := by
  unfold L2.start
  rw [List.getElem?_append_left (by simpa using (List.getElem?_eq_some_iff.mp h).1), List.getElem?_map, h]
  rfl
theorem ok_start {X : Cx} {av : Addr → Prop} {ez : Str → Option (Str × D) → Prop} {vs : List V} {ds : List D} {H : Hp} (r : Reps X.K X.mg H av vs ds) (hav : ∀ a, av a → H a ≠ none) : Ok X ⟨H, av, none, ez⟩ (startS N ds) (start N vs) H := by
  have sub : ∀ a, avs ⟨H, av, none, ez⟩ (startS N ds) (start N vs) a → av a := fun a h => by
    rcases h with h | ⟨i, xs, h1, _⟩
    · exact h
    · exact (startS_ow h1).elim
  refine ⟨?_, ⟨fun i d h => ?_, fun i xs h => (startS_ow h).elim⟩, fun i j xs ys a h _ _ _ => (startS_ow h).elim, fun i xs a h _ => (startS_ow h).elim, fun a o e _ => e, fun a h => hav a h, fun b h => by cases h⟩
  · unfold startS L2.start
    rw [List.length_append, List.length_append, List.length_map, List.length_map, List.length_replicate, List.length_replicate, r.length]
  · obtain ⟨v, h1, h2⟩ := r.get (startS_sh h)
    exact ⟨v, start_get h1, h2.carry (.same (Same.refl H) sub)⟩

/-- THE RULE for a def over data -/
theorem okZ {sp : ZSp} {t : (Str → Option (Str × D) → Prop) → ZS} (F : Fun K x qual st f fd) (S : FnScope N ps (defScope st)) (hlen : ∀ ds Qz Ez, sp ds Qz Ez → ds.length = ps.length)
    (hbody : ∀ (cdv : Value) (A : Around) (outer : List Env) (s : Shared) (H : Hp) (E : XK) (Z0 : Zc), NoBag (Sup Z0) → Cd k (cxOf (L2.CX Pg w) Pg w K mg base N qual (defScope st) f cdv A outer s H E) (Sup Z0) →
      PSsd (cxOf (L2.CX Pg w) Pg w K mg base N qual (defScope st) f cdv A outer s H E) (Sup Z0) (defBody st) (t Z0.ez))
    (hread : ∀ ds Qz Ez, sp ds Qz Ez → t Ez { nx := fun _ => Qz (.sh .non), rt := fun r _ => Qz r } (startS N ds)) : FnP Pg w K mg base (k + 1) f fd ps (spZ K mg sp) := by
  refine fnp_of F S (fun vs H Q E h => ?_) (fun cdv A outer s H vs Q E hr hgd hbs h => ?_)
  · obtain ⟨av, ds, Qz, Ez, r, h1, _⟩ := h
    rw [r.length]
    exact hlen ds Qz Ez h1
  · obtain ⟨av, ds, Qz, Ez, r, h1, h2, h3, h4⟩ := h
    have C : Cd k (cxOf (L2.CX Pg w) Pg w K mg base N qual (defScope st) f cdv A outer s H E) (Sup ⟨H, av, none, Ez⟩) := by
      refine ⟨hr, hgd, rfl, S.nd, passes_of rfl, (takes_of rfl rfl rfl rfl).imp fun cls dd σ H' q => ?_, fun Z p ⟨z1, z2, z3, z4⟩ => ⟨z1, z2, z3, fun a z => .inl (z4 a z)⟩⟩
      obtain ⟨Z, ⟨z1, z2, z3, z4⟩, c, g, q1, q2, q3, q4⟩ := q
      rw [z3] at q1
      refine h4 c g cls dd H' q1 (fun a o e => q4 a o (by rw [z1]; exact e) (by rw [z2]; intro z; cases z)) q2 ?_
      unfold XF at q3 ⊢
      split at q3
      · trivial
      · obtain ⟨v, y1, y2⟩ := q3
        exact ⟨v, y1, y2.carry (.same (Same.refl H') z4)⟩
      · exact q3.elim
    obtain ⟨t0, p0, q0⟩ := (hbody cdv A outer s H E ⟨H, av, none, Ez⟩ (fun Z e => e.2.1) C).ex
    have sm : ∀ {S' : SS} {σ' : L2.St} {H' : Hp}, Ok (cxOf (L2.CX Pg w) Pg w K mg base N qual (defScope st) f cdv A outer s H E) ⟨H, av, none, Ez⟩ S' σ' H' → Same H H' := fun {S' σ' H'} o a u e => o.ext a u e (fun z => by cases z)
    refine ⟨t0, p0, q0 _ Sup.refl _ _ H _ _ (ok_start r h2) (hread ds Qz Ez h1) ⟨fun S' σ' H' q o g => h3 _ _ _ q (sm o) .non, fun res S' σ' v H' q o g r' => h3 _ _ _ q (sm o) ?_, fun _ _ _ q _ _ => q.elim, fun _ _ _ q _ _ => q.elim⟩⟩
    cases res with
    | sh d => exact Rep.carry (.same (Same.refl H') fun a z => .inl z) r'
    | ow xs =>
      obtain ⟨a, e, fr⟩ := r'
      obtain ⟨us, e1, e2⟩ := fr.at_
      exact ⟨a, us, e, fr.new, e1, e2.carry (.same (Same.refl H') fun b z => z.elim (fun y => .inl (.inl y)) .inr)⟩
    | un => exact r'.elim

/-- behind such a def: what the list holds -/
def bagEnd (Qz : D → List D → Prop) (d : D) (S : SS) : Prop := match S with
  | .ow nb :: _ => Qz d nb
  | _ => False
theorem bagEnd_get {Qz : D → List D → Prop} {d : D} {S : SS} (h : bagEnd Qz d S) : ∃ nb, S[0]? = some (.ow nb) ∧ Qz d nb := by
  unfold bagEnd at h
  split at h
  · exact ⟨_, rfl, h⟩
  · exact h.elim
/-- .. whose first argument is an own list of the caller's -/
theorem okB {sp : ZSb} {t : ZS} (F : Fun K x qual st f fd) (S : FnScope N ps (defScope st)) (hlen : ∀ bs ds Qz, sp bs ds Qz → ds.length + 1 = ps.length)
    (hbody : ∀ (cdv : Value) (A : Around) (outer : List Env) (s : Shared) (H : Hp) (E : XK) (Z0 : Zc), Cd k (cxOf (L2.CX Pg w) Pg w K mg base N qual (defScope st) f cdv A outer s H E) (Sup Z0) →
      PSsd (cxOf (L2.CX Pg w) Pg w K mg base N qual (defScope st) f cdv A outer s H E) (Sup Z0) (defBody st) t)
    (hread : ∀ bs ds Qz, sp bs ds Qz → t { nx := fun S => bagEnd Qz .non S, rt := fun r S => match r with
      | .sh d => bagEnd Qz d S
      | .ow xs => bagEnd Qz (.lst xs) S
      | .un => False } (.ow bs :: startS N.tail ds)) : FnP Pg w K mg base (k + 1) f fd ps (spB K mg sp) := by
  refine fnp_of F S (fun vs H Q E h => ?_) (fun cdv A outer s H vs Q E hr hgd hbs h => ?_)
  · obtain ⟨av, b, bvs, bs, vr, ds, Qz, rfl, _, _, _, r, _, h1, _⟩ := h
    rw [List.length_cons, r.length]
    exact hlen bs ds Qz h1
  · obtain ⟨av, b, bvs, bs, vr, ds, Qz, rfl, hb, hab, rb, r, hav, h1, h3⟩ := h
    have hN : N.length = N.tail.length + 1 := by
      have := congrArg List.length S.pre
      rw [List.length_take] at this
      have := hlen bs ds Qz h1
      cases N with
      | nil => simp at *; omega
      | cons _ _ => simp
    let Z0 : Zc := ⟨H, fun a => av a ∧ a ≠ b, some b, fun _ _ => False⟩
    have C : Cd k (cxOf (L2.CX Pg w) Pg w K mg base N qual (defScope st) f cdv A outer s H E) (Sup Z0) := by
      refine ⟨hr, hgd, rfl, S.nd, passes_of rfl, (takes_of rfl rfl rfl rfl).imp fun cls dd σ H' q => ?_, fun Z p ⟨z1, z2, z3, z4⟩ => ⟨z1, z2, z3, fun a z => .inl (z4 a z)⟩⟩
      obtain ⟨Z, ⟨z1, z2, z3, z4⟩, c, g, q1, q2, q3, q4⟩ := q
      rw [z3] at q1
      exact q1.elim
    obtain ⟨t0, p0, q0⟩ := (hbody cdv A outer s H E Z0 C).ex
    have est : start N (.ref b :: vr) = some (.ref b) :: start N.tail vr := by
      unfold L2.start
      rw [List.map_cons, List.cons_append, List.length_cons, show N.length - (vr.length + 1) = N.tail.length - vr.length by omega]
    have owz : ∀ {i : Nat} {xs : List D}, (Sl.ow bs :: startS N.tail ds)[i]? = some (.ow xs) → i = 0 ∧ xs = bs := fun {i xs} h => by
      cases i with
      | zero => simp at h; exact ⟨rfl, h.symm⟩
      | succ i => rw [List.getElem?_cons_succ] at h; exact (startS_ow h).elim
    have sub : ∀ a, avs Z0 (Sl.ow bs :: startS N.tail ds) (some (.ref b) :: start N.tail vr) a → av a := fun a h => by
      rcases h with h | ⟨i, xs, h4, h5⟩
      · exact h.1
      · obtain ⟨rfl, rfl⟩ := owz h4
        simp at h5
        rw [← h5]
        exact hab
    have sup : ∀ {S' : SS} {σ' : L2.St} {H' : Hp}, Ok (cxOf (L2.CX Pg w) Pg w K mg base N qual (defScope st) f cdv A outer s H E) Z0 S' σ' H' → ∀ a, av a → avs Z0 S' σ' a := fun {S' σ' H'} o a h => by
      by_cases e : a = b
      · obtain ⟨xs, e1, e2⟩ := o.bag b rfl
        exact .inr ⟨0, xs, e1, by rw [e]; exact e2⟩
      · exact .inl ⟨h, e⟩
    have ok0 : Ok (cxOf (L2.CX Pg w) Pg w K mg base N qual (defScope st) f cdv A outer s H E) Z0 (Sl.ow bs :: startS N.tail ds) (some (.ref b) :: start N.tail vr) H := by
      have kk : Carry H H av (avs Z0 (Sl.ow bs :: startS N.tail ds) (some (.ref b) :: start N.tail vr)) := .same (Same.refl H) sub
      refine ⟨?_, ⟨fun i d h => ?_, fun i xs h => ?_⟩, fun i j xs ys a e1 e2 _ _ => (owz e1).1.trans (owz e2).1.symm, fun i xs a e1 e2 => ?_, fun a o e _ => e, fun a h => hav a h.1, fun b' e => ?_⟩
      · unfold startS L2.start
        simp [r.length]
      · cases i with
        | zero => simp at h
        | succ i =>
          rw [List.getElem?_cons_succ] at h
          obtain ⟨v, h1, h2⟩ := r.get (startS_sh h)
          exact ⟨v, by rw [List.getElem?_cons_succ]; exact start_get h1, h2.carry kk⟩
      · obtain ⟨rfl, rfl⟩ := owz h
        exact ⟨b, bvs, rfl, hb, rb.carry kk⟩
      · obtain ⟨rfl, rfl⟩ := owz e1
        simp at e2
        subst e2
        exact ⟨.inr rfl, fun z => z.2 rfl⟩
      · cases e
        exact ⟨bs, rfl, rfl⟩
    have fin : ∀ {S' : SS} {σ' : L2.St} {H' : Hp} {v : V} {d : D} {nb : List D}, Ok (cxOf (L2.CX Pg w) Pg w K mg base N qual (defScope st) f cdv A outer s H E) Z0 S' σ' H' → S'[0]? = some (.ow nb) → Qz d nb → Rep K mg H' (avs Z0 S' σ') v d → Q v H' := fun {S' σ' H' v d nb} o e q r' => by
      obtain ⟨xs, e1, e2⟩ := o.bag b rfl
      obtain ⟨a, nvs, e3, e4, e5⟩ := o.sl.ow 0 nb e
      rw [e2] at e3
      cases e3
      have kk : Carry H' H' (avs Z0 S' σ') av := .same (Same.refl H') (sup o)
      exact h3 d nb v nvs H' q (fun a o' e n => o.ext a o' e fun z => n (by cases z; rfl)) e4 (e5.carry kk) (r'.carry kk)
    rw [est]
    refine ⟨t0, p0, q0 Z0 Sup.refl _ _ H _ _ ok0 (hread bs ds Qz h1) ⟨fun S' σ' H' q o g => ?_, fun res S' σ' v H' q o g r' => ?_, fun _ _ _ q _ _ => q.elim, fun _ _ _ q _ _ => q.elim⟩⟩
    · obtain ⟨nb, e, q⟩ := bagEnd_get q
      exact fin o e q .non
    · cases res with
      | sh d =>
        obtain ⟨nb, e, q⟩ := bagEnd_get q
        exact fin o e q r'
      | ow xs =>
        obtain ⟨nb, e, q⟩ := bagEnd_get q
        obtain ⟨a, rfl, fr⟩ := r'
        exact fin o e q fr.rep
      | un => exact r'.elim
end

/-! ### calls -/
section
variable {X : Cx} {P : Zc → Prop} {k : Nat} {f : Addr} {fd : FuncData} {ps : List Str} {x : Str} {p pos : Pos} {e : Expr} {es : List Expr} {ta : ZA}
/-- what came, as data -/
def slD (Q : D → Prop) : Sl → Prop
  | .sh d => Q d
  | .ow xs => Q (.lst xs)
  | .un => False
/-- what came, a new list -/
def slF (Q : List D → Prop) : Sl → Prop
  | .ow xs => Q xs
  | _ => False
def zCall (sp : ZSp) (ez : Str → Option (Str × D) → Prop) (ta : ZA) : ZE := fun S Q => ta S fun ds S1 => sp ds (slD fun d => Q d S1) ez
def zCallF (sp : ZSp) (ez : Str → Option (Str × D) → Prop) (ta : ZA) : ZA := fun S Q => ta S fun ds S1 => sp ds (slF fun d => Q d S1) ez
theorem CRel.fresh {Z : Zc} {S : SS} {σ : L2.St} {H H' : Hp} {a : Addr} {xs : List D} {vs : List V} (o : Ok X Z S σ H) (s : Same H H') (ha : H a = none) (h1 : H' a = some (.lst vs)) (h2 : Reps X.K X.mg H' (fun b => avs Z S σ b ∨ b = a) vs xs) :
    Fresh X Z S σ H' a xs ∧ Carry H H' (avs Z S σ) (fun b => avs Z S σ b ∨ b = a) := by
  have kk : Carry H H' (avs Z S σ) (fun b => avs Z S σ b ∨ b = a) := fun b u e n => ⟨s b u e, fun m z => z.elim (n m) fun y => by rw [y, ha] at e; cases e⟩
  exact ⟨⟨⟨vs, h1, h2⟩, o.new0 ha, fun z => o.avsd a z ha, o.sl.carry kk fun _ _ b us _ _ e => s b _ e⟩, kk⟩
theorem callE {Z : Zc} {S1 : SS} {σ : L2.St} {H1 H' : Hp} (hZ : P Z) (o1 : Ok X Z S1 σ H1) {ez : Str → Option (Str × D) → Prop} (hez : ∀ Z, P Z → ∀ c g, ez c g → Z.ez c g) {c : Str} {g : Option (Str × D)} {cls : Value} {dd : Option Addr} (q : ez c g) (s : Same H1 H') (hc : X.mg c = some cls)
    (hf : XF X.K X.mg (avs Z S1 σ) dd g H') : EP2 X P cls dd H' := by
  refine ⟨Z, hZ, c, g, hez Z hZ c g q, hc, ?_, fun a o e n => s a o (o1.ext a o e n)⟩
  unfold XF at hf ⊢
  split at hf
  · trivial
  · obtain ⟨v, h1, h2⟩ := hf
    exact ⟨v, h1, h2.carry (.same (Same.refl H') fun a z => .inl z)⟩
  · exact hf.elim
theorem pd_call {sp : ZSp} {ez : Str → Option (Str × D) → Prop} {j : Nat} (F : FnP X.prog X.w X.K X.mg X.base j f fd ps (spZ X.K X.mg sp)) (C : Cd k X P) (hg : Gl X x) (hm : X.mg x = some (.ref f)) (hk : PySem.W.keepIn X.K (.ref f) = true) (hb : Binds X.K fd ps [])
    (hez : ∀ Z, P Z → ∀ c g, ez c g → Z.ez c g) (ha : PAd X P (e :: es) ta) (hj : j ≤ k := by decide) (hdb : (x == ("__debug__" : Str)) = false := by decide) (he : starEach (e :: es) X.env = (false, eval e X.env) :: starEach es X.env := by rfl) (hpl : (backTo pos (starEach es X.env)).any (·.1) = false := by rfl) :
    PD X P (.Call (.Name x p) (e :: es) [] pos) (zCall sp ez ta) := by
  obtain ⟨t0, p0, q0⟩ := ha.ex
  refine ⟨_, pe_callp (E := EP2 X P) (F.mono hj) C.hr C.gd hg hm hk hb C.hx p0 hdb he hpl, fun Z hZ S σ H Qz Q ok h kq => ?_⟩
  refine q0 Z hZ S σ H _ _ ok h fun ds S1 vs H1 h1 o1 f1 r1 => ?_
  refine ⟨avs Z S1 σ, ds, _, ez, r1, h1, o1.avsd, fun res v H' q s r => ?_, fun c g cls dd H' q s hc hf => callE hZ o1 hez q s hc hf⟩
  cases res with
  | sh d => exact kq d S1 v H' q (o1.same s) (f1.trans (.same o1 s)) r
  | ow xs =>
    obtain ⟨a, us, rfl, y1, y2, y3⟩ := r
    exact kq _ S1 _ H' q (o1.same s) (f1.trans (.same o1 s)) (CRel.fresh o1 s y1 y2 y3).1.rep
  | un => exact r.elim
theorem pf_call {sp : ZSp} {ez : Str → Option (Str × D) → Prop} {j : Nat} (F : FnP X.prog X.w X.K X.mg X.base j f fd ps (spZ X.K X.mg sp)) (C : Cd k X P) (hg : Gl X x) (hm : X.mg x = some (.ref f)) (hk : PySem.W.keepIn X.K (.ref f) = true) (hb : Binds X.K fd ps [])
    (hez : ∀ Z, P Z → ∀ c g, ez c g → Z.ez c g) (ha : PAd X P (e :: es) ta) (hj : j ≤ k := by decide) (hdb : (x == ("__debug__" : Str)) = false := by decide) (he : starEach (e :: es) X.env = (false, eval e X.env) :: starEach es X.env := by rfl) (hpl : (backTo pos (starEach es X.env)).any (·.1) = false := by rfl) :
    PF X P (.Call (.Name x p) (e :: es) [] pos) (zCallF sp ez ta) := by
  obtain ⟨t0, p0, q0⟩ := ha.ex
  refine ⟨_, pe_callp (E := EP2 X P) (F.mono hj) C.hr C.gd hg hm hk hb C.hx p0 hdb he hpl, fun Z hZ S σ H Qz Q ok h kq => ?_⟩
  refine q0 Z hZ S σ H _ _ ok h fun ds S1 vs H1 h1 o1 f1 r1 => ?_
  refine ⟨avs Z S1 σ, ds, _, ez, r1, h1, o1.avsd, fun res v H' q s r => ?_, fun c g cls dd H' q s hc hf => callE hZ o1 hez q s hc hf⟩
  cases res with
  | sh d => exact q.elim
  | ow xs =>
    obtain ⟨a, us, rfl, y1, y2, y3⟩ := r
    obtain ⟨fr, kk⟩ := CRel.fresh o1 s y1 y2 y3
    exact kq _ S1 _ H' q (o1.same s) (f1.trans (.same o1 s)) fr fun v d rv => (f1.rp v d rv).carry kk
  | un => exact r.elim
theorem Ok.bagW {Z : Zc} {S : SS} {σ : L2.St} {H H' : Hp} (ok : Ok X Z S σ H) {i : Nat} {xs ys : List D} {a : Addr} {ws : List V} (e : S[i]? = some (.ow xs)) (ha : σ[i]? = some (some (.ref a))) (hk : ∀ b o, H b = some o → b ≠ a → H' b = some o) (hv : H' a = some (.lst ws))
    (hw : Reps X.K X.mg H' (avs Z S σ) ws ys) : Ok X Z (S.set i (.ow ys)) σ H' ∧ Frm X Z S σ H (S.set i (.ow ys)) σ H' := by
  have kc : Carry H H' (avs Z S σ) (avs Z S σ) := fun b o e1 n => by
    have ne : b ≠ a := fun z => by
      subst z
      obtain ⟨a', us, h1, h2, _⟩ := ok.sl.ow i xs e
      rw [ha] at h1
      cases h1
      rw [h2] at e1
      cases e1
      exact n rfl (avs_at e ha)
    exact ⟨hk b o e1 ne, n⟩
  have hil : i < S.length := (List.getElem?_eq_some_iff.mp e).1
  refine ⟨⟨by rw [List.length_set]; exact ok.len, ⟨fun j d h => ?_, fun j zs h => ?_⟩, fun j l zs ys' b h1 h2 h3 h4 => ?_, fun j zs b h1 h2 => ?_, fun b o h n => ?_, fun b z h => ?_, fun b h => ?_⟩, .of (by rw [avs_set e]; exact kc) fun b hb => ?_⟩
  · have hj : i ≠ j := fun z => by
      subst z
      rw [List.getElem?_set_self hil] at h
      cases h
    rw [List.getElem?_set_ne hj] at h
    obtain ⟨v, h1, h2⟩ := ok.sl.sh j d h
    rw [avs_set e]
    exact ⟨v, h1, h2.carry kc⟩
  · rw [avs_set e]
    by_cases hj : i = j
    · subst hj
      rw [List.getElem?_set_self hil] at h
      cases h
      exact ⟨a, ws, ha, hv, hw⟩
    · rw [List.getElem?_set_ne hj] at h
      obtain ⟨b, us, h1, h2, h3⟩ := ok.sl.ow j zs h
      have ne : b ≠ a := fun z => hj (ok.inj i j _ _ a e h ha (by rw [z] at h1; exact h1))
      exact ⟨b, us, h1, hk b _ h2 ne, h3.carry kc⟩
  · obtain ⟨_, q1⟩ := set_ow e h1
    obtain ⟨_, q2⟩ := set_ow e h2
    exact ok.inj j l _ _ b q1 q2 h3 h4
  · obtain ⟨_, q1⟩ := set_ow e h1
    exact ok.own j _ b q1 h2
  · have ne : b ≠ a := fun z => by
      subst z
      rcases (ok.own i xs b e ha).1 with q | q
      · rw [h] at q; cases q
      · exact n q
    exact hk b o (ok.ext b o h n) ne
  · by_cases hb : b = a
    · rw [hb, hv] at h; cases h
    · cases e1 : H b with
      | none => exact ok.avd b z e1
      | some o => rw [hk b o e1 hb] at h; cases h
  · obtain ⟨zs, h1, h2⟩ := ok.bag b h
    obtain ⟨us, h3⟩ := ow_set (ys := ys) e h1
    exact ⟨us, h3, h2⟩
  · have ne : b ≠ a := fun z => (ok.own i xs a e ha).2 (by rw [← z]; exact hb)
    cases e1 : H b with
    | none => exact absurd e1 (ok.avd b hb)
    | some o => exact hk b o e1 ne
/-- f(bag, ..) -/
def zCallB (i : Nat) (sp : ZSb) (ta : ZA) : ZE := fun S Q => match S[i]? with
  | some (.ow _) => ta S fun ds S1 => match S1[i]? with
    | some (.ow xs) => sp xs ds fun d ys => Q d (S1.set i (.ow ys))
    | _ => False
  | _ => False
theorem pd_callB {sp : ZSb} {i : Nat} {y : Str} {py : Pos} {j : Nat} (F : FnP X.prog X.w X.K X.mg X.base j f fd ps (spB X.K X.mg sp)) (C : Cd k X P) (hg : Gl X x) (hm : X.mg x = some (.ref f)) (hk : PySem.W.keepIn X.K (.ref f) = true) (hb : Binds X.K fd ps [])
    (ha : PAd X P es ta) (hj : j ≤ k := by decide) (hN : X.N[i]? = some y := by rfl) (hv : Vis X.env.scope y := by first | exact Or.inl rfl | exact Or.inr (Or.inl rfl) | exact Or.inr (Or.inr rfl)) (hdy : (y == ("__debug__" : Str)) = false := by decide) (hcd : (y == ("__classdict__" : Str)) = false := by decide)
    (hdb : (x == ("__debug__" : Str)) = false := by decide) (he : starEach (.Name y py :: es) X.env = (false, eval (.Name y py) X.env) :: starEach es X.env := by rfl) (hpl : (backTo pos (starEach es X.env)).any (·.1) = false := by rfl) :
    PD X P (.Call (.Name x p) (.Name y py :: es) [] pos) (zCallB i sp ta) := by
  obtain ⟨t0, p0, q0⟩ := ha.ex
  refine ⟨_, pe_callp (E := EP2 X P) (F.mono hj) C.hr C.gd hg hm hk hb C.hx (pa_cons (pe_var (i := i) hN hv hdy hcd) p0 he) hdb he hpl, fun Z hZ S σ H Qz Q ok h kq => ?_⟩
  unfold zCallB at h
  split at h
  · rename_i ws e0
    obtain ⟨a, us, h1, h2, h3⟩ := ok.sl.ow i ws e0
    refine ⟨_, h1, q0 Z hZ S σ H _ _ ok h fun ds S1 vs H1 h4 o1 f1 r1 => ?_⟩
    split at h4
    · rename_i xs e1
      obtain ⟨a', us', g1, g2, g3⟩ := o1.sl.ow i xs e1
      rw [h1] at g1
      cases g1
      refine ⟨avs Z S1 σ, a, us', xs, vs, ds, _, rfl, g2, avs_at e1 h1, g3, r1, o1.avsd, h4, fun d nb v nvs H' q s hl hr hd => ?_⟩
      obtain ⟨o2, f2⟩ := o1.bagW e1 h1 s hl hr
      exact kq d _ v H' q o2 (f1.trans f2) (by rw [avs_set e1]; exact hd)
    · exact h4.elim
  · exact h.elim
end
end Zz

/-! The pure layer: a law row's end. -/
namespace Zz
open PySem PySem.Spec PyProof.Rows L2

section
variable {Pg : Program} {w : World} {K : PySem.W.Frag} {mg mb : Str → Option Value} {k : Nat} {fa a : Addr} {fd : FuncData} {x : Str} {sp : ZSp} {s₁ : Shared} {vs : List Value} {ns : List Int}

theorem hidT_seer {h : Heap} {H : Hp} (N : h.NoSeer) (hA : ∀ b o ob, H b = some o → h.get? b = some ob → ob.cls = .type "list" ∧ ∃ vs n, ob.data = .seq vs n) : (hidT h H).NoSeer := by
  have dictFree : ∀ {b : Addr} {o : Obj} {es : Array DictEntry} {ep : Nat}, h.get? b = some o → o.data = .dict es ep → H b = none := by
    intro b o es ep e d
    cases q : H b with
    | none => rfl
    | some u =>
      obtain ⟨_, vs, n, z⟩ := hA b u o q e
      rw [z] at d
      cases d
  have ns' : ∀ {b : Addr} {m : Str → Option Value}, h.Ns b m → (hidT h H).Ns b m := by
    intro b m h
    obtain ⟨o, es, ep, e, d, r⟩ := h
    exact ⟨o, es, ep, hidT_get e (dictFree e d), d, r⟩
  obtain ⟨⟨mc, a1, a2⟩, ⟨mm, b1, b2⟩, ⟨mb, c1, c2⟩, mg, bm, ob, d1, d2, d3, d4, d5⟩ := N
  refine ⟨⟨mc, ns' a1, a2⟩, ⟨mm, ns' b1, b2⟩, ⟨mb, ns' c1, c2⟩, mg, bm, ob, ns' d1, d2, hidT_get d3 ?_, d4, d5⟩
  cases q : H bm with
  | none => rfl
  | some u =>
    obtain ⟨z, _⟩ := hA bm u ob q d3
    rw [d4] at z
    injection z with z
    exact absurd z (by decide)
/-- the run of the law's def from the heap behind the top, where H tracks the script alone (or nothing) -/
theorem law_core (H : Hp) (hF : SqF K H a (ns.map V.int)) (hok : HOk Pg w H s₁.heap) (hA : ∀ b o, H b = some o → b = a ∧ ∃ ob xs, o = .frz ob (.lst xs)) (hKf : ∀ b o, K.lookup b = some o → H b = none)
    (KX : K.In s₁.heap) (hns : s₁.heap.Ns mainGlobals mg) (hbl : s₁.heap.Ns builtinsNs mb) (hbb : ∀ x : Str, x ≠ "__name__" → mb x = bootBuiltins x) (hlim : s₁.heap.NoLimit) (hg : s₁.gens = #[])
    (ha : s₁.heap.get? a = some { cls := .type "list", data := .seq vs.toArray }) (hr : Room k callerA)
    (F : ∀ base : Heap, K.In base → base.Ns mainGlobals mg → (s₁.heap.NoSeer → base.NoSeer) → FnP Pg w K mg base k fa fd [x] (spZ K mg sp)) (hbind : ∀ (s : Shared) (u : Value), BindsTo s fd ⟨[u], []⟩ [(x, u)])
    (hsp : sp [.fls (ns.map D.int)] (fun r => r = .sh (.bl true)) fun _ _ => False) :
    codeAny (model Pg w) callerA (.call (.ref fa) ⟨[.ref a], []⟩) (fun r s' => r = .ok (.ret (.bool true)) ∧ OldK s₁.heap s'.heap ∧ s'.os = s₁.os ∧ AllBare s'.gens) s₁ := by
  -- no dict of the heap is tracked
  have dictFree : ∀ {b : Addr} {o : Obj} {es : Array DictEntry} {ep : Nat}, s₁.heap.get? b = some o → o.data = .dict es ep → H b = none := by
    intro b o es ep e d
    cases q : H b with
    | none => rfl
    | some u =>
      have hb := (hA b u q).1
      rw [hb, ha] at e
      cases e
      cases d
  have ns' : ∀ {b : Addr} {m : Str → Option Value}, s₁.heap.Ns b m → (hidT s₁.heap H).Ns b m := by
    intro b m h
    obtain ⟨o, es, ep, e, d, r⟩ := h
    exact ⟨o, es, ep, hidT_get e (dictFree e d), d, r⟩
  have hse : s₁.heap.NoSeer → (hidT s₁.heap H).NoSeer := fun N => hidT_seer N fun b o ob h1 h2 => by
    rw [(hA b o h1).1, ha] at h2
    cases h2
    exact ⟨rfl, _, _, rfl⟩
  have kin : K.In (hidT s₁.heap H) := fun b o e => hidT_get (KX b o e) (hKf b o e)
  have md : Mod K mg (hidT s₁.heap H) := by
    refine ⟨kin, ns' hns, ⟨mb, ns' hbl, hbb⟩, ?_⟩
    obtain ⟨mc, h1, h2⟩ := hlim
    exact ⟨mc, ns' h1, h2⟩
  have e0 : Env0 Pg w K mg (hidT s₁.heap H) callerA [] s₁ H := by
    refine ⟨rfl, md, fun b o e => of_hidT e, Nat.le_of_eq (hidT_size _ _), trivial, fun b hb => ?_, hok, .of_eq hg⟩
    cases hb
  have sq : spZ K mg sp [.ref a] H (fun v _ => v = .bl true) (fun _ _ _ => False) := by
    refine ⟨fun _ => False, _, _, _, .cons (.lsf hF (Reps.ofInts ns)) .nil, hsp, fun _ z => z.elim, fun d v H' e s r => ?_, fun _ _ _ _ _ z _ _ _ => z⟩
    subst e
    exact r.bl_inv
  refine codeAny_mono ((F _ kin (ns' hns) hse).run callerA [] s₁ H ⟨[.ref a], []⟩ [.ref a] [.ref a] _ _ hr rfl e0 (hbind s₁ (.ref a)) (.cons rfl .nil) sq) fun res s' h => ?_
  cases res with
  | error e =>
    obtain ⟨_, _, _, _, _, _, _, _, _, _, _, _, z⟩ := h
    exact z.elim
  | ok fl =>
    cases fl with
    | ret u =>
      obtain ⟨v, H', os, bare, un, hok', r', q⟩ := h
      obtain rfl : v = .bl true := q
      obtain rfl : u = Value.bool true := r'
      refine ⟨rfl, OldK.of_keep fun b o e => ?_, os, bare⟩
      cases q : H b with
      | none => exact un.keep b o e q (by intro z; cases z) (by intro z; cases z)
      | some u =>
        obtain ⟨_, ob, xs, rfl⟩ := hA b u q
        have z1 := (hok b _ q).1
        have z2 := (hok' b _ (un.frzs b ob _ q)).1
        rw [e] at z1
        cases z1
        exact z2
    | _ => exact h.elim

theorem law_callPS (KX : K.In s₁.heap) (hns : s₁.heap.Ns mainGlobals mg) (hbl : s₁.heap.Ns builtinsNs mb) (hbb : ∀ x : Str, x ≠ "__name__" → mb x = bootBuiltins x) (hlim : s₁.heap.NoLimit) (hg : s₁.gens = #[])
    (ha : s₁.heap.get? a = some { cls := .type "list", data := .seq vs.toArray }) (hi : IntsAre vs ns) (hl : ns.length ≤ sizeLine) (hr : Room k callerA)
    (F : ∀ base : Heap, K.In base → base.Ns mainGlobals mg → (s₁.heap.NoSeer → base.NoSeer) → FnP Pg w K mg base k fa fd [x] (spZ K mg sp)) (hbind : ∀ (s : Shared) (u : Value), BindsTo s fd ⟨[u], []⟩ [(x, u)])
    (hsp : sp [.fls (ns.map D.int)] (fun r => r = .sh (.bl true)) fun _ _ => False) :
    codeAny (model Pg w) callerA (.call (.ref fa) ⟨[.ref a], []⟩) (fun r s' => r = .ok (.ret (.bool true)) ∧ OldK s₁.heap s'.heap ∧ s'.os = s₁.os ∧ AllBare s'.gens) s₁ := by
  have rv : Vals (ns.map V.int) vs := vals_ints hi
  have lv := hi.length
  by_cases hk : K.lookup a = none
  · -- the script is an object of its own
    have ea : (fun b => if b = a then some (HO.frz { cls := .type "list", data := .seq vs.toArray } (.lst (ns.map V.int))) else none : Hp) a = some (.frz { cls := .type "list", data := .seq vs.toArray } (.lst (ns.map V.int))) := if_pos rfl
    have inv : ∀ b o, (fun b => if b = a then some (HO.frz { cls := .type "list", data := .seq vs.toArray } (.lst (ns.map V.int))) else none : Hp) b = some o → b = a ∧ o = .frz { cls := .type "list", data := .seq vs.toArray } (.lst (ns.map V.int)) := fun b o e => by
      by_cases hb : b = a
      · rw [hb] at e
        exact ⟨hb, (Option.some.inj (ea.symm.trans e)).symm⟩
      · have e' := (if_neg (α := Option HO) (t := some (HO.frz { cls := .type "list", data := .seq vs.toArray } (.lst (ns.map V.int)))) (e := none) hb).symm.trans e
        cases e'
    refine law_core _ (.inl ⟨_, ea⟩) (fun b o e => ?_) (fun b o e => ⟨(inv b o e).1, _, _, (inv b o e).2⟩) (fun b o e => ?_) KX hns hbl hbb hlim hg ha hr F hbind hsp
    · obtain ⟨rfl, rfl⟩ := inv b o e
      exact ⟨ha, by rw [List.length_map]; exact hl, vs, _, rv, ha⟩
    · exact if_neg fun z => by rw [z, hk] at e; cases e
  · -- it stands in the written part
    obtain ⟨o, ho⟩ : ∃ o, K.lookup a = some o := by
      cases e : K.lookup a with
      | none => exact absurd e hk
      | some o => exact ⟨o, rfl⟩
    have e := KX a o ho
    rw [ha] at e
    cases e
    refine law_core (fun _ => none) (.inr (.inr ⟨_, vs.toArray, _, ho, rfl, rfl, rfl, by rw [List.size_toArray, lv]; exact hl, by simpa using rv⟩)) (fun b o e => by cases e) (fun b o e => by cases e) (fun _ _ _ => rfl) KX hns hbl hbb hlim hg ha hr F hbind hsp
theorem law_callP (KX : K.In s₁.heap) (hns : s₁.heap.Ns mainGlobals mg) (hbl : s₁.heap.Ns builtinsNs mb) (hbb : ∀ x : Str, x ≠ "__name__" → mb x = bootBuiltins x) (hlim : s₁.heap.NoLimit) (hg : s₁.gens = #[])
    (ha : s₁.heap.get? a = some { cls := .type "list", data := .seq vs.toArray }) (hi : IntsAre vs ns) (hl : ns.length ≤ sizeLine) (hr : Room k callerA)
    (F : ∀ base : Heap, K.In base → base.Ns mainGlobals mg → FnP Pg w K mg base k fa fd [x] (spZ K mg sp)) (hbind : ∀ (s : Shared) (u : Value), BindsTo s fd ⟨[u], []⟩ [(x, u)])
    (hsp : sp [.fls (ns.map D.int)] (fun r => r = .sh (.bl true)) fun _ _ => False) :
    codeAny (model Pg w) callerA (.call (.ref fa) ⟨[.ref a], []⟩) (fun r s' => r = .ok (.ret (.bool true)) ∧ OldK s₁.heap s'.heap ∧ s'.os = s₁.os ∧ AllBare s'.gens) s₁ :=
  law_callPS KX hns hbl hbb hlim hg ha hi hl hr (fun base h1 h2 _ => F base h1 h2) hbind hsp
end

/-- the goal that k_head leaves, from the promise of the law's def -/
theorem walkP {l : PySem.W.OpenLaw} {n k : Nat} {q : Program} {loose : List Str} {XP : (Str → Option Value) → Heap → Prop} {YP : World → Heap → Prop} {d : DefRec} {K : Params → PySem.W.Frag} {sp : ZSp} {x : Str}
    (hn : l.most = some n) (hn2 : n ≤ sizeLine) (hdf : d.params.defaults = []) (hr : Room k callerA) (hY : ∀ (w : World) (h : Heap), YP w h → (K w.params).In h)
    (F : ∀ (w : World) (mg : Str → Option Value) (fa : Addr) (h : Heap), (K w.params).In h → h.Ns mainGlobals mg → mg d.name = some (.ref fa) →
      ∃ fd : FuncData, (∀ (s : Shared) (u : Value), BindsTo s fd ⟨[u], []⟩ [(x, u)]) ∧ ∀ base : Heap, (K w.params).In base → base.Ns mainGlobals mg → FnP l.prog w (K w.params) mg base k fa fd [x] (spZ (K w.params) mg sp))
    (hsp : ∀ ns : List Int, ns.length ≤ n → sp [.fls (ns.map D.int)] (fun r => r = .sh (.bl true)) fun _ _ => False) : PySem.W.WalkO q loose XP YP l.row.toRowW d [] (fun f vs => PySem.call f vs) :=
  Att.attach_call hn hdf fun w s₀ s₁ mg mb fa o pm cd doc a vs ns G Y ho hd hcd hmg hobj hints hlen hg => by
    obtain ⟨fd, hb, hF⟩ := F w mg fa _ (hY w _ Y) G.T.g hmg
    exact law_callP (hY w _ Y) G.T.g G.T.b G.T.builtins G.T.nolimit hg hobj hints (Nat.le_trans hlen hn2) hr hF hb (hsp ns hlen)
end Zz

/-! The pure layer: built-ins by name, several targets. -/
namespace Zz
open PySem PySem.Spec PyProof.Rows L2

abbrev ZB := List D → (D → Prop) → Prop
/-- a built-in by values -/
def BltZ (K : PySem.W.Frag) (mg : Str → Option Value) (r : List V → Hp → VK → Prop) (f : ZB) : Prop :=
  ∀ (H : Hp) (av : Addr → Prop) (vs : List V) (ds : List D) (Qd : D → Prop) (Q : VK), (∀ a, av a → H a ≠ none) → Reps K mg H av vs ds → f ds Qd → (∀ d v H', Qd d → Same H H' → Rep K mg H' av v d → Q v H') → r vs H Q
def zBlt (f : ZB) (ta : ZA) : ZE := fun S Q => ta S fun ds S1 => f ds fun d => Q d S1
section
variable {X : Cx} {P : Zc → Prop} {e : Expr} {es : List Expr} {x : Str} {p pos : Pos} {ta : ZA}
theorem pd_blt {id : String} {r : List V → Hp → VK → Prop} {f : ZB} (hf : BltZ X.K X.mg r f) (hc : CallR X (.builtin id) r) (hg : Gl X x) (hm : X.mg x = none) (hv : bootBuiltins x = some (.builtin id)) (ha : PAd X P (e :: es) ta) (hn : x ≠ "__name__" := by decide) (hdb : (x == ("__debug__" : Str)) = false := by decide)
    (he : starEach (e :: es) X.env = (false, eval e X.env) :: starEach es X.env := by rfl) (hpl : (backTo pos (starEach es X.env)).any (·.1) = false := by rfl) : PD X P (.Call (.Name x p) (e :: es) [] pos) (zBlt f ta) := by
  obtain ⟨t0, p0, q0⟩ := ha.ex
  refine ⟨_, pe_callB hc hg hm hv p0 hn hdb he hpl, fun Z hZ S σ H Qz Q ok h k => q0 Z hZ S σ H _ _ ok h fun ds S1 vs H1 h1 o1 f1 r1 => ?_⟩
  exact hf H1 _ vs ds _ Q o1.avsd r1 h1 fun d v H' q s r => k d S1 v H' q (o1.same s) (f1.trans (.same o1 s)) r
theorem pd_bty {T : String} {r : List V → Hp → VK → Prop} {f : ZB} (hf : BltZ X.K X.mg r f) (hc : CallR X (.type T) r) (hg : Gl X x) (hm : X.mg x = none) (hv : bootBuiltins x = some (.type T)) (ha : PAd X P (e :: es) ta) (hn : x ≠ "__name__" := by decide) (hdb : (x == ("__debug__" : Str)) = false := by decide)
    (he : starEach (e :: es) X.env = (false, eval e X.env) :: starEach es X.env := by rfl) (hpl : (backTo pos (starEach es X.env)).any (·.1) = false := by rfl) : PD X P (.Call (.Name x p) (e :: es) [] pos) (zBlt f ta) := by
  obtain ⟨t0, p0, q0⟩ := ha.ex
  refine ⟨_, pe_callTy hc hg hm hv p0 hn hdb he hpl, fun Z hZ S σ H Qz Q ok h k => q0 Z hZ S σ H _ _ ok h fun ds S1 vs H1 h1 o1 f1 r1 => ?_⟩
  exact hf H1 _ vs ds _ Q o1.avsd r1 h1 fun d v H' q s r => k d S1 v H' q (o1.same s) (f1.trans (.same o1 s)) r
end
def f2I (g : Int → Int → Int) : ZB := fun ds Q => match ds with
  | [.int i, .int j] => Q (.int (g i j))
  | _ => False
theorem reps2 {K : PySem.W.Frag} {mg : Str → Option Value} {H : Hp} {av : Addr → Prop} {vs : List V} {d e : D} (r : Reps K mg H av vs [d, e]) : ∃ v w, vs = [v, w] ∧ Rep K mg H av v d ∧ Rep K mg H av w e := by
  cases r with
  | cons r rr => cases rr with
    | cons r' rr => cases rr; exact ⟨_, _, rfl, r, r'⟩
theorem reps1 {K : PySem.W.Frag} {mg : Str → Option Value} {H : Hp} {av : Addr → Prop} {vs : List V} {d : D} (r : Reps K mg H av vs [d]) : ∃ v, vs = [v] ∧ Rep K mg H av v d := by
  cases r with
  | cons r rr => cases rr; exact ⟨_, rfl, r⟩
section
variable {K : PySem.W.Frag} {mg : Str → Option Value}
theorem bz_2I {g : Int → Int → Int} : BltZ K mg (fun xs H Q => ∃ i j, xs = [V.int i, .int j] ∧ Q (.int (g i j)) H) (f2I g) := by
  intro H av vs ds Qd Q _ r h k
  unfold f2I at h
  split at h
  · obtain ⟨v, w, rfl, r1, r2⟩ := reps2 r
    obtain rfl := r1.int_inv
    obtain rfl := r2.int_inv
    exact ⟨_, _, rfl, k _ _ H h (Same.refl H) (.int _)⟩
  · exact h.elim
abbrev fMax2 := f2I fun i j => if j > i then j else i
abbrev fMin2 := f2I fun i j => if j < i then j else i
theorem bz_max2 : BltZ K mg (fun xs H Q => ∃ i j, xs = [V.int i, .int j] ∧ Q (.int (if j > i then j else i)) H) fMax2 := bz_2I
theorem bz_min2 : BltZ K mg (fun xs H Q => ∃ i j, xs = [V.int i, .int j] ∧ Q (.int (if j < i then j else i)) H) fMin2 := bz_2I
def fInt : ZB := fun ds Q => match ds with
  | [.int i] => Q (.int i)
  | [.bl b] => Q (.int (if b then 1 else 0))
  | _ => False
theorem bz_int : BltZ K mg (fun xs H Q => (∃ i, xs = [V.int i] ∧ Q (.int i) H) ∨ ∃ k, xs = [.bl k] ∧ Q (.int (if k then 1 else 0)) H) fInt := by
  intro H av vs ds Qd Q _ r h k
  unfold fInt at h
  split at h
  · obtain ⟨v, rfl, r1⟩ := reps1 r
    obtain rfl := r1.int_inv
    exact .inl ⟨_, rfl, k _ _ H h (Same.refl H) (.int _)⟩
  · obtain ⟨v, rfl, r1⟩ := reps1 r
    obtain rfl := r1.bl_inv
    exact .inr ⟨_, rfl, k _ _ H h (Same.refl H) (.int _)⟩
  · exact h.elim
/-- the ints of data -/
def D.ints : List D → Option (List Int)
  | [] => some []
  | .int i :: xs => (D.ints xs).map (i :: ·)
  | _ => none
theorem ints_of {xs : List D} : ∀ {ns : List Int}, D.ints xs = some ns → xs = ns.map D.int := by
  induction xs with
  | nil => intro ns h; simp [D.ints] at h; subst h; rfl
  | cons x xs ih =>
    intro ns h
    cases x <;> simp [D.ints] at h
    obtain ⟨ms, h1, rfl⟩ := h
    rw [ih h1]
    rfl
theorem ints_map (ns : List Int) : D.ints (ns.map D.int) = some ns := by
  induction ns with
  | nil => rfl
  | cons n ns ih => simp [D.ints, ih]
def D.bools : List D → Option (List Bool)
  | [] => some []
  | .bl b :: xs => (D.bools xs).map (b :: ·)
  | _ => none
theorem bools_of {xs : List D} : ∀ {ns : List Bool}, D.bools xs = some ns → xs = ns.map D.bl := by
  induction xs with
  | nil => intro ns h; simp [D.bools] at h; subst h; rfl
  | cons x xs ih =>
    intro ns h
    cases x <;> simp [D.bools] at h
    obtain ⟨ms, h1, rfl⟩ := h
    rw [ih h1]
    rfl
theorem bools_map (ns : List Bool) : D.bools (ns.map D.bl) = some ns := by
  induction ns with
  | nil => rfl
  | cons n ns ih => simp [D.bools, ih]
def fAll : ZB := fun ds Q => match ds with
  | [.lst xs] => ∃ bs, D.bools xs = some bs ∧ Q (.bl (bs.all id))
  | _ => False
theorem bz_all : BltZ K mg (rAll K) fAll := by
  intro H av vs ds Qd Q _ r h k
  unfold fAll at h
  split at h
  · obtain ⟨v, rfl, r1⟩ := reps1 r
    obtain ⟨bs, h1, h2⟩ := h
    obtain rfl := bools_of h1
    obtain ⟨a, us, rfl, h3, h4⟩ := r1.lst_inv
    obtain rfl := h4.bls
    exact ⟨a, bs, rfl, .inl (.inl h3), k _ _ H h2 (Same.refl H) (.bl _)⟩
  · exact h.elim
def fSum : ZB := fun ds Q => match ds with
  | [.lst xs] => ∃ ns, D.ints xs = some ns ∧ Q (.int ns.sum)
  | _ => False
theorem bz_sum : BltZ K mg (rSum K) fSum := by
  intro H av vs ds Qd Q _ r h k
  unfold fSum at h
  split at h
  · obtain ⟨v, rfl, r1⟩ := reps1 r
    obtain ⟨bs, h1, h2⟩ := h
    obtain rfl := ints_of h1
    obtain ⟨a, us, rfl, h3, h4⟩ := r1.lst_inv
    obtain rfl := h4.ints
    exact ⟨a, bs, rfl, .inl (.inl h3), k _ _ H h2 (Same.refl H) (.int _)⟩
  · exact h.elim
def fMaxL : ZB := fun ds Q => match ds with
  | [.lst xs] => ∃ ns, D.ints xs = some ns ∧ 0 < ns.length ∧ ∀ m, m ∈ ns → (∀ y, y ∈ ns → y ≤ m) → Q (.int m)
  | _ => False
theorem bz_maxL : BltZ K mg (rMax K) fMaxL := by
  intro H av vs ds Qd Q _ r h k
  unfold fMaxL at h
  split at h
  · obtain ⟨v, rfl, r1⟩ := reps1 r
    obtain ⟨bs, h1, h2, h5⟩ := h
    obtain rfl := ints_of h1
    obtain ⟨a, us, rfl, h3, h4⟩ := r1.lst_inv
    obtain rfl := h4.ints
    exact ⟨a, bs, rfl, .inl (.inl h3), h2, fun m hm hle => k _ _ H (h5 m hm hle) (Same.refl H) (.int _)⟩
  · exact h.elim
def fMinL : ZB := fun ds Q => match ds with
  | [.lst xs] => ∃ ns, D.ints xs = some ns ∧ 0 < ns.length ∧ ∀ m, m ∈ ns → (∀ y, y ∈ ns → m ≤ y) → Q (.int m)
  | _ => False
theorem bz_minL : BltZ K mg (rMin K) fMinL := by
  intro H av vs ds Qd Q _ r h k
  unfold fMinL at h
  split at h
  · obtain ⟨v, rfl, r1⟩ := reps1 r
    obtain ⟨bs, h1, h2, h5⟩ := h
    obtain rfl := ints_of h1
    obtain ⟨a, us, rfl, h3, h4⟩ := r1.lst_inv
    obtain rfl := h4.ints
    exact ⟨a, bs, rfl, .inl (.inl h3), h2, fun m hm hle => k _ _ H (h5 m hm hle) (Same.refl H) (.int _)⟩
  · exact h.elim
def fTupleOf : ZB := fun ds Q => match ds with
  | [.lst xs] => Q (.tup xs)
  | [.tup xs] => Q (.tup xs)
  | _ => False
theorem bz_tupleOf : BltZ K mg (fun xs H Q => ∃ p ys, xs = [V.ref p] ∧ ((SqL K H p ys ∧ ∀ l, H l = none → Q (.ref l) (upd H l (.tup ys))) ∨ (SqT K H p ys ∧ Q (.ref p) H))) fTupleOf := by
  intro H av vs ds Qd Q _ r h k
  unfold fTupleOf at h
  split at h
  · obtain ⟨v, rfl, r1⟩ := reps1 r
    obtain ⟨a, us, rfl, h3, h4⟩ := r1.lst_inv
    exact ⟨a, us, rfl, .inl ⟨.inl (.inl h3), fun l hl => k _ _ _ h (Same.upd hl) (.tup (.inl (.inl upd_same)) (h4.carry (.same (Same.upd hl) fun _ z => z)))⟩⟩
  · obtain ⟨v, rfl, r1⟩ := reps1 r
    obtain ⟨a, us, rfl, h3, h4⟩ := r1.tup_inv
    exact ⟨a, us, rfl, .inr ⟨h3, k _ _ _ h (Same.refl H) (.tup h3 h4)⟩⟩
  · exact h.elim

/-! ### isinstance with a built-in class -/
def D.ty : D → Option String
  | .non => some "NoneType"
  | .bl _ => some "bool"
  | .int _ => some "int"
  | .str _ => some "str"
  | .lst _ => some "list"
  | .fls _ => some "list"
  | .tup _ => some "tuple"
  | .dic => some "dict"
  | .obj _ _ => none
  | .adr _ => none
  | .exc _ _ => none
theorem rep_ty {H : Hp} {av : Addr → Prop} {v : V} {d : D} {n : String} (r : Rep K mg H av v d) (e : d.ty = some n) : TyX K H v (.type n) := by
  cases r with
  | non => cases e; exact .base .non
  | bl b => cases e; exact .base (.bl b)
  | int i => cases e; exact .base (.int i)
  | str s => cases e; exact .base (.str s)
  | lst h _ _ => cases e; exact .base (.lst h)
  | lsf h _ =>
    cases e
    rcases h with ⟨o, h⟩ | h
    · exact .base (.frz h)
    · rcases h with (h | ⟨o, h⟩) | ⟨o, its, n, h1, h2, _⟩
      · cases h
      · cases h
      · exact .kList h1 h2
  | tup h _ =>
    cases e
    rcases h with (h | ⟨o, h⟩) | ⟨o, its, n, h1, h2, _⟩
    · exact .base (.tup h)
    · exact .fTuple h
    · exact .kTuple h1 h2
  | obj _ _ _ _ => cases e
  | adr _ => cases e
  | dic h _ => cases e; exact .base (.dK h)
  | exc0 _ _ => cases e
  | exc1 _ _ _ _ => cases e
end
/-- whether a built-in type is another one, or below it -/
def tyIs (a b : String) : Bool := a == b || (a == "bool" && b == "int")
theorem kit_tyIs {K : PySem.W.Frag} {a b : String} (ha : a ∈ ["NoneType", "bool", "int", "str", "list", "tuple", "dict"]) (hb : b ∈ ["bool", "int", "str", "list", "tuple", "dict"]) : PySem.W.kitOne K (.type a) (.type b) = some (tyIs a b) := by
  have key : ∀ a ∈ ["NoneType", "bool", "int", "str", "list", "tuple", "dict"], ∀ b ∈ ["bool", "int", "str", "list", "tuple", "dict"], kitB a b = some (tyIs a b) := by decide +kernel
  exact kit_ty (key a ha b hb)
theorem ty_mem {d : D} {n : String} (e : d.ty = some n) : n ∈ ["NoneType", "bool", "int", "str", "list", "tuple", "dict"] := by
  cases d <;> simp [D.ty] at e <;> subst e <;> simp
def zIsi (T : String) (ta : ZV) : ZE := fun S Q => ta S fun d S1 => ∃ x, asD S1 d = some x ∧ ∃ n, x.ty = some n ∧ Q (.bl (tyIs n T)) S1
section
variable {X : Cx} {P : Zc → Prop} {e : Expr} {p p2 pos : Pos} {va : ZV}
theorem pd_isi {T : String} {tn : Str} (hg : Gl X "isinstance") (hm : X.mg "isinstance" = none) (hg2 : Gl X tn) (hm2 : X.mg tn = none) (hT : bootBuiltins tn = some (.type T)) (ha : PV X P e va) (hb : T ∈ ["bool", "int", "str", "list", "tuple", "dict"]) (hn : tn ≠ "__name__" := by decide)
    (hdb : (tn == ("__debug__" : Str)) = false := by decide) (he : starEach [e, .Name tn p2] X.env = (false, eval e X.env) :: starEach [.Name tn p2] X.env := by rfl) (he2 : starEach [.Name tn p2] X.env = (false, eval (.Name tn p2) X.env) :: starEach [] X.env := by rfl)
    (hpl : (backTo pos (starEach [.Name tn p2] X.env)).any (·.1) = false := by rfl) : PD X P (.Call (.Name "isinstance" p) [e, .Name tn p2] [] pos) (zIsi T va) := by
  obtain ⟨t0, p0, q0⟩ := ha.ex
  refine ⟨_, pe_callB call_isi hg hm (by decide +kernel) (pa_cons p0 (pa_cons (pe_bltn (v := .ty T) hg2 hm2 hT rfl hn hdb) pa_nil he2) he) (by decide) (by decide) he hpl, fun Z hZ S σ H Qz Q ok h k => q0 Z hZ S σ H _ _ ok h fun d S1 v H1 h1 o1 f1 r1 => ?_⟩
  obtain ⟨x, h2, n, h3, h4⟩ := h1
  exact ⟨v, .ty T, _, _, _, rfl, .ty T, rep_ty (asD_rep o1 r1 h2) h3, kit_tyIs (ty_mem h3) hb, k _ S1 _ H1 h4 o1 f1 (.bl _)⟩

/-! ### repr -/
theorem cr_repr (hgd : X.A.guards = some []) (hu : X.A.units + 64 < cLine) : CallR X (.builtin "repr") (fun xs H Q => ∃ (x : V) (p : PyData), xs = [x] ∧ Dp X.K H x p ∧ p.showable = true ∧ p.hasDict = false ∧ p.depth ≤ 60 ∧ p.shown.length ≤ sizeLine ∧ Q (.str p.shown) H) := by
  intro pins s σ H xs us Q I r h
  obtain ⟨x, p, rfl, hd, h1, h2, h3, h4, q⟩ := h
  obtain ⟨u, rfl, ru⟩ := Vals.one r
  obtain ⟨as, rd⟩ := Dp.reads I p x u hd ru
  have fin : ∀ h' tk t, (∀ b o, s.heap.get? b = some o → h'.get? b = some o) → EP X pins σ Q (.str p.shown t) { s with heap := h', toks := tk } := fun h' tk t k => ⟨.str p.shown, H, I.kept (t' := tk) k, ⟨t, rfl⟩, q⟩
  cases rd with
  | none => exact PySem.P.repr_of_none (fin s.heap _ _ fun _ _ z => z)
  | bool b => exact PySem.P.repr_of_bool (fin s.heap _ _ fun _ _ z => z)
  | int i t => exact PySem.P.repr_of_int (by simpa [PyData.showable] using h1) (fin s.heap _ _ fun _ _ z => z)
  | str y t => exact PySem.P.repr_of_str (fin s.heap _ _ fun _ _ z => z) h4
  | list g1 g2 g3 g4 => exact repr_of_reads' (.list g1 g2 g3 g4) h1 (fun z => by rw [h2] at z; cases z) hgd (by omega) (fun _ _ z => z) (fun h' u tk k => fin h' tk u k) h4
  | tuple g1 g2 g3 g4 => exact repr_of_reads' (.tuple g1 g2 g3 g4) h1 (fun z => by rw [h2] at z; cases z) hgd (by omega) (fun _ _ z => z) (fun h' u tk k => fin h' tk u k) h4
  | dict g1 g2 g3 g4 g5 => simp [PyData.hasDict] at h2
def zRepr (ta : ZV) : ZE := fun S Q => ta S fun d S1 => ∃ x, asD S1 d = some x ∧ ∃ p, x.py = some p ∧ p.showable = true ∧ p.hasDict = false ∧ p.depth ≤ 60 ∧ p.shown.length ≤ sizeLine ∧ Q (.str p.shown) S1
theorem pd_repr {k : Nat} (C : Cd k X P) (hg : Gl X "repr") (hm : X.mg "repr" = none) (ha : PV X P e va) (he : starEach [e] X.env = (false, eval e X.env) :: starEach [] X.env := by rfl) (hpl : (backTo pos (starEach [] X.env)).any (·.1) = false := by rfl) :
    PD X P (.Call (.Name "repr" p) [e] [] pos) (zRepr va) := by
  obtain ⟨t0, p0, q0⟩ := ha.ex
  refine ⟨_, pe_callB (cr_repr C.gd C.hu) hg hm (by decide +kernel) (pa_cons p0 pa_nil he) (by decide) (by decide) he hpl, fun Z hZ S σ H Qz Q ok h k => q0 Z hZ S σ H _ _ ok h fun d S1 v H1 h1 o1 f1 r1 => ?_⟩
  obtain ⟨x, h2, pd, h3, h4, h5, h6, h7, h8⟩ := h1
  exact ⟨v, pd, rfl, (asD_rep o1 r1 h2).dp h3, h4, h5, h6, h7, k _ S1 _ H1 h8 o1 f1 (.str _)⟩
end

/-! ### enumerate -/
/-- the items with their numbers -/
def enumD : Nat → List D → List D
  | _, [] => []
  | n, d :: ds => .tup [.int (n : Int), d] :: enumD (n + 1) ds
theorem enumD_get : ∀ {ds : List D} {n i : Nat} {d : D}, (enumD n ds)[i]? = some d → ∃ x, ds[i]? = some x ∧ d = .tup [.int ((n + i : Nat) : Int), x]
  | [], _, _, _, h => by simp [enumD] at h
  | y :: ds, n, 0, d, h => by simp [enumD] at h; exact ⟨y, rfl, by rw [← h]; rfl⟩
  | y :: ds, n, i + 1, d, h => by
    obtain ⟨x, h1, h2⟩ := enumD_get (ds := ds) (n := n + 1) (i := i) (by simpa [enumD] using h)
    exact ⟨x, by simpa using h1, by rw [h2, show n + 1 + i = n + (i + 1) by omega]⟩
theorem enumD_length : ∀ {ds : List D} {n : Nat}, (enumD n ds).length = ds.length
  | [], _ => rfl
  | _ :: ds, n => by simp [enumD, enumD_length]
section
variable {X : Cx} {P : Zc → Prop} {e : Expr} {pos : Pos} {te : ZE}
theorem gives_enum {Z : Zc} {S : SS} {σ : L2.St} {H : Hp} {a : Addr} {d : D} {ds : List D} (hd : d = .lst ds ∨ d = .fls ds) (r : Rep X.K X.mg H (avs Z S σ) (.ref a) d) : Gives X Z S σ H (Ite X.K a) (enumD 0 ds) := by
  intro Z' S' σ' H' ok f i
  have r' := f _ _ r
  obtain ⟨vs, hs, hr⟩ : ∃ vs, SqL X.K H' a vs ∧ Reps X.K X.mg H' (avs Z' S' σ') vs ds := by
    rcases hd with rfl | rfl
    · obtain ⟨b, vs, e, h1, h2⟩ := r'.lst_inv
      cases e
      exact ⟨vs, .inl (.inl h1), h2⟩
    · obtain ⟨b, vs, e, h1, h2⟩ := r'.fls_inv
      cases e
      exact ⟨vs, h1.seq, h2⟩
  refine ⟨fun d hd => ?_, fun hl => ⟨vs, hs, by rw [hr.length]; rwa [enumD_length] at hl⟩⟩
  obtain ⟨x, h1, rfl⟩ := enumD_get hd
  obtain ⟨v, h2, h3⟩ := hr.get h1
  refine ⟨⟨vs, v, hs, h2⟩, fun y H'' hy => ?_⟩
  obtain ⟨T, x', rfl, hT, rfl, hx⟩ := hy
  have e := hx vs hs
  rw [h2] at e
  cases e
  have s : Same H' (upd H' T (.tup [.int ((i : Nat) : Int), v])) := Same.upd hT
  refine ⟨s, .tup (.inl (.inl upd_same)) (.cons ?_ (.cons (h3.carry (.same s fun _ z => z)) .nil))⟩
  rw [Nat.zero_add]
  exact .int _
def zItE (te : ZE) : ZA := fun S Q => te S fun d S1 => match d with
  | .lst ds => Q (enumD 0 ds) S1
  | .fls ds => Q (enumD 0 ds) S1
  | _ => False
theorem id_enum {elts : List Expr} {kk : Nat} {p tpos : Pos} (hg : Gl X "enumerate") (hm : X.mg "enumerate" = none) (h : PD X P e te) (hs : starEach [e] X.env = [(false, eval e X.env)] := by rfl) : PId X P (.Tuple elts kk tpos) (.Call (.Name "enumerate" p) [e] [] pos) (zItE te) := by
  obtain ⟨t0, p0, q0⟩ := h.ex
  refine ⟨_, pi_enum hg hm (pa_cons p0 pa_nil hs) hs, fun Z hZ S σ H Qz R ok h k => q0 Z hZ S σ H _ _ ok h fun d S1 v H1 h1 o f r => ?_⟩
  split at h1
  · obtain ⟨a, vs, rfl, h2, h3⟩ := r.lst_inv
    exact ⟨a, vs, rfl, .inl (.inl h2), k _ _ _ _ h1 o f (gives_enum (.inl rfl) r)⟩
  · obtain ⟨a, vs, rfl, h2, h3⟩ := r.fls_inv
    exact ⟨a, vs, rfl, h2.seq, k _ _ _ _ h1 o f (gives_enum (.inr rfl) r)⟩
  · exact h1.elim
end

/-! ### several targets at once, some of them new lists -/
/-- an expression: data, or a new list -/
abbrev ZX := SS → (Sl → SS → Prop) → Prop
structure PX (X : Cx) (P : Zc → Prop) (e : Expr) (t : ZX) : Prop where
  ex : ∃ t0 : TE, PE X e t0 ∧ ∀ (Z : Zc), P Z → ∀ (S : SS) (σ : L2.St) (H : Hp) (Qz : Sl → SS → Prop) (Q : VK), Ok X Z S σ H → t S Qz →
    (∀ r S' v H', Qz r S' → Ok X Z S' σ H' → Frm X Z S σ H S' σ H' → RRel X Z S' σ H' v r → (∀ a, v = .ref a → (∃ xs, r = .ow xs) → ∀ w d, Rep X.K X.mg H (avs Z S σ) w d → Rep X.K X.mg H' (fun b => avs Z S' σ b ∨ b = a) w d) → Q v H') → t0 σ H Q
def zXD (t : ZE) : ZX := fun S Q => t S fun d S1 => Q (.sh d) S1
def zXF (t : ZA) : ZX := fun S Q => t S fun xs S1 => Q (.ow xs) S1
section
variable {X : Cx} {P : Zc → Prop} {e a b c : Expr} {pos : Pos} {ta tb tc : ZX}
theorem PD.px {t : ZE} (h : PD X P e t) : PX X P e (zXD t) := by
  obtain ⟨t0, p0, q0⟩ := h.ex
  exact ⟨t0, p0, fun Z hZ S σ H Qz Q ok h k => q0 Z hZ S σ H _ _ ok h fun d S1 v H1 h1 o f r => k (.sh d) S1 v H1 h1 o f r fun _ _ z => by obtain ⟨_, z⟩ := z; cases z⟩
theorem PF.px {t : ZA} (h : PF X P e t) : PX X P e (zXF t) := by
  obtain ⟨t0, p0, q0⟩ := h.ex
  exact ⟨t0, p0, fun Z hZ S σ H Qz Q ok h k => q0 Z hZ S σ H _ _ ok h fun xs S1 p H1 h1 o f r c => k (.ow xs) S1 _ H1 h1 o f ⟨p, rfl, r⟩ fun p' e _ => by cases e; exact c⟩
section
variable {Z : Zc} {S S' : SS} {σ σ' : L2.St} {H H' : Hp}
theorem avs_pl {p q : Addr} : avs (Z.pl p) S σ q ↔ (avs Z S σ q ∨ q = p) := by
  constructor
  · rintro ((h | h) | h)
    · exact .inl (.inl h)
    · exact .inr h
    · exact .inl (.inr h)
  · rintro ((h | h) | h)
    · exact .inl (.inl h)
    · exact .inr h
    · exact .inl (.inr h)
/-- a new list put aside -/
theorem Ok.aside (ok : Ok X Z S σ H) {p : Addr} {xs : List D} (f : Fresh X Z S σ H p xs) : Ok X (Z.pl p) S σ H := by
  obtain ⟨us, h1, _⟩ := f.at_
  refine ⟨ok.len, f.sl.carry (.same (Same.refl H) fun q h => avs_pl.mp h) fun _ _ _ _ _ _ e => e, ok.inj, fun i ys q e1 e2 => ⟨(ok.own i ys q e1 e2).1, fun z => z.elim (ok.own i ys q e1 e2).2 fun y => f.nav (.inr ⟨i, ys, e1, by rw [← y]; exact e2⟩)⟩, ok.ext, fun q z => z.elim (ok.avd q) fun y e => (by rw [y, h1] at e; cases e), ok.bag⟩
/-- and taken up again -/
theorem Ok.retake (ok : Ok X (Z.pl p) S σ H) {us : List V} {xs : List D} (h1 : H p = some (.lst us)) (h2 : Reps X.K X.mg H (avs (Z.pl p) S σ) us xs) (h0 : Z.H0 p = none) (hn : ¬ Z.av p) : Ok X Z S σ H ∧ Fresh X Z S σ H p xs := by
  have k : Carry H H (avs (Z.pl p) S σ) (avs Z S σ) := .same (Same.refl H) fun q h => avs_pl.mpr (.inl h)
  have k2 : Carry H H (avs (Z.pl p) S σ) (fun q => avs Z S σ q ∨ q = p) := .same (Same.refl H) fun q h => avs_pl.mpr h
  refine ⟨⟨ok.len, ok.sl.carry k fun _ _ _ _ _ _ e => e, ok.inj, fun i ys q e1 e2 => ⟨(ok.own i ys q e1 e2).1, fun z => (ok.own i ys q e1 e2).2 (.inl z)⟩, ok.ext, fun q z => ok.avd q (.inl z), ok.bag⟩, ⟨us, h1, h2.carry k2⟩, h0, fun z => ?_, ok.sl.carry k2 fun _ _ _ _ _ _ e => e⟩
  rcases z with z | ⟨i, ys, e1, e2⟩
  · exact hn z
  · exact (ok.own i ys p e1 e2).2 (.inr rfl)
/-- a slot gets what came -/
def putR (S : SS) (i : Nat) : Sl → SS
  | .sh d => S.set i (.sh d)
  | .ow xs => S.set i (.ow xs)
  | .un => S
theorem Ok.put (ok : Ok X Z S σ H) {i : Nat} {v : V} {r : Sl} (hr : RRel X Z S σ H v r) (hb : Z.bag = none ∨ i ≠ 0) : Ok X Z (putR S i r) (σ.set i (some v)) H := by
  cases r with
  | sh d => exact (ok.setSh hr hb).1
  | ow xs =>
    obtain ⟨p, rfl, fr⟩ := hr
    exact (ok.setOw fr hb).1
  | un => exact hr.elim
end
theorem put_all {Z : Zc} {S S' : SS} {σ : L2.St} {H H' : Hp} {i : Nat} {v : V} {r : Sl} (ok : Ok X Z S' σ H') (hr : RRel X Z S' σ H' v r) (hb : Z.bag = none ∨ i ≠ 0) (f : Frm X Z S σ H S' σ H')
    (c : ∀ a, v = .ref a → (∃ xs, r = .ow xs) → ∀ w d, Rep X.K X.mg H (avs Z S σ) w d → Rep X.K X.mg H' (fun b => avs Z S' σ b ∨ b = a) w d) :
    Ok X Z (putR S' i r) (σ.set i (some v)) H' ∧ Frm X Z S σ H (putR S' i r) (σ.set i (some v)) H' := by
  cases r with
  | sh d =>
    obtain ⟨o, k⟩ := ok.setSh (i := i) hr hb
    exact ⟨o, ⟨fun w d q => (f.rp w d q).carry k, f.pr⟩⟩
  | ow xs =>
    obtain ⟨p, rfl, fr⟩ := hr
    obtain ⟨o, k⟩ := ok.setOw (i := i) fr hb
    exact ⟨o, ⟨fun w d q => k (c p rfl ⟨xs, rfl⟩ w d q), f.pr⟩⟩
  | un => exact hr.elim
theorem Frm.ofPl {Z : Zc} {S S' : SS} {σ σ' : L2.St} {H H' : Hp} {p : Addr} (f : Frm X (Z.pl p) S σ H S' σ' H') : ∀ a, Z.av a → H' a = H a := fun a h => f.pr a (.inl h)
/-- the second of two results stored, then the first -/
theorem put_two {k : Nat} {t1 : TE} (C : Cd k X P) {Z : Zc} (hZ : P Z) {S S1 : SS} {σ : L2.St} {H H1 : Hp} {i j : Nat} {v : V} {r : Sl} {E : ZD}
    (hbi : Z.bag = none ∨ i ≠ 0) (hbj : Z.bag = none ∨ j ≠ 0) (o1 : Ok X Z S1 σ H1) (f1 : Frm X Z S σ H S1 σ H1) (r1 : RRel X Z S1 σ H1 v r)
    (c1 : ∀ a, v = .ref a → (∃ xs, r = .ow xs) → ∀ w d, Rep X.K X.mg H (avs Z S σ) w d → Rep X.K X.mg H1 (fun b => avs Z S1 σ b ∨ b = a) w d)
    (q1 : ∀ (Z : Zc), P Z → ∀ (S : SS) (σ : L2.St) (H : Hp) (Qz : Sl → SS → Prop) (Q : VK), Ok X Z S σ H → tb S Qz →
      (∀ r S' v H', Qz r S' → Ok X Z S' σ H' → Frm X Z S σ H S' σ H' → RRel X Z S' σ H' v r → (∀ a, v = .ref a → (∃ xs, r = .ow xs) → ∀ w d, Rep X.K X.mg H (avs Z S σ) w d → Rep X.K X.mg H' (fun b => avs Z S' σ b ∨ b = a) w d) → Q v H') → t1 σ H Q)
    (h : tb S1 fun q S2 => E.nx (putR (putR S2 j q) i r)) (Q : VK)
    (kq : ∀ S3 w H2, E.nx S3 → Ok X Z S3 ((σ.set j (some w)).set i (some v)) H2 → Frm X Z S σ H S3 ((σ.set j (some w)).set i (some v)) H2 → Q w H2) : t1 σ H1 Q := by
  cases r with
  | sh d =>
    refine q1 Z hZ S1 σ H1 _ _ o1 h fun q S2 w H2 h2 o2 f2 r2 c2 => ?_
    obtain ⟨o3, f3⟩ := put_all (i := j) o2 r2 hbj f2 c2
    obtain ⟨o4, k4⟩ := o3.setSh (i := i) (f3.rp _ _ r1) hbi
    exact kq _ w H2 h2 o4 ((f1.trans f3).trans (frm_set k4))
  | ow xs =>
    obtain ⟨p, rfl, fr⟩ := r1
    obtain ⟨us, e1, e2⟩ := fr.at_
    have oa := o1.aside fr
    refine q1 (Z.pl p) (C.cl Z p hZ) S1 σ H1 _ _ oa h fun q S2 w H2 h2 o2 f2 r2 c2 => ?_
    obtain ⟨o3, f3⟩ := put_all (i := j) o2 r2 hbj f2 c2
    have e2' : Reps X.K X.mg H1 (avs (Z.pl p) S1 σ) us xs := e2.carry (.same (Same.refl H1) fun q h => avs_pl.mp h)
    obtain ⟨o4, fr4⟩ := o3.retake (us := us) (by rw [f3.pr p (.inr rfl)]; exact e1) (f3.reps e2') fr.new fun z => fr.nav (.inl z)
    obtain ⟨o5, k5⟩ := o4.setOw (i := i) fr4 hbi
    refine kq _ w H2 h2 o5 ⟨fun y d q => k5 ?_, fun a ha => (f3.ofPl a ha).trans (f1.pr a ha)⟩
    have g := c1 p rfl ⟨xs, rfl⟩ y d q
    have g2 : Rep X.K X.mg H1 (avs (Z.pl p) S1 σ) y d := g.carry (.same (Same.refl H1) fun q h => avs_pl.mp h)
    exact (f3.rp _ _ g2).carry (.same (Same.refl H2) fun q h => avs_pl.mpr h)
  | un => exact r1.elim
def zPar (i j : Nat) (ta tb : ZX) : ZS := fun E S => ta S fun r S1 => tb S1 fun q S2 => E.nx (putR (putR S2 j q) i r)
theorem sd_par {k i j : Nat} {x y : Str} {px py pt : Pos} {kt k2 pt2} (C : Cd k X P) (hbi : ∀ Z, P Z → Z.bag = none ∨ i ≠ 0) (hbj : ∀ Z, P Z → Z.bag = none ∨ j ≠ 0) (ha : PX X P a ta) (hb : PX X P b tb) (hij : i ≠ j := by decide)
    (hi : X.N[i]? = some x := by rfl) (hj : X.N[j]? = some y := by rfl) (hx : X.env.scope.names.lookup x = some .local := by rfl) (hy : X.env.scope.names.lookup y = some .local := by rfl)
    (hst : starEach [a, b] X.env = (false, eval a X.env) :: starEach [b] X.env := by rfl) (hst2 : starEach [b] X.env = (false, eval b X.env) :: starEach [] X.env := by rfl)
    (hw : swappedStores [.Tuple [.Name x px, .Name y py] kt pt] (.Tuple [a, b] k2 pt2) X.env = pure (some [x, y]) := by rfl)
    (hs : swapsWithSole [.Tuple [.Name x px, .Name y py] kt pt] (.Tuple [a, b] k2 pt2) pos.line X.env = pure false := by rfl) :
    PSd X P (.Assign [.Tuple [.Name x px, .Name y py] kt pt] (.Tuple [a, b] k2 pt2) pos) (zPar i j ta tb) := by
  obtain ⟨t0, p0, q0⟩ := ha.ex
  obtain ⟨t1, p1, q1⟩ := hb.ex
  refine ⟨_, ps_par C.calm C.nd hi hj hij hx hy (pa_cons p0 (pa_cons p1 pa_nil hst2) hst) hw hs, fun Z hZ S σ H E D0 ok h im => ?_⟩
  refine q0 Z hZ S σ H _ _ ok h fun r S1 v H1 h1 o1 f1 r1 c1 => ?_
  refine put_two (i := i) (j := j) C hZ (hbi Z hZ) (hbj Z hZ) o1 f1 r1 c1 q1 h1 _ fun S3 w H2 h2 o f => ⟨v, w, rfl, ?_⟩
  rw [List.set_comm _ _ hij]
  exact im.nx _ _ _ h2 o f
end
end Zz

/-! The pure layer: more expressions; defs in one bundle. -/
namespace Zz
open PySem PySem.Spec PyProof.Rows L2

section
variable {X : Cx} {P : Zc → Prop} {e a b : Expr} {es : List Expr} {x : Str} {p pos : Pos} {ta : ZA}
/-- a written power -/
theorem pd_powc {i j v : Int} {k1 k2 : Nat} {p1 p2 : Pos} (hv : i ^ j.toNat = v := by decide +kernel) (h : CPow i j := by refine ⟨?_, ?_, ?_⟩ <;> decide +kernel) : PD X P (.BinOp (.Constant (.int i) k1 p1) .Pow (.Constant (.int j) k2 p2) pos) (zC (.int v)) := by
  refine ⟨_, pe_op op_pow pe_int pe_int, fun Z hZ S σ H Qz Q ok hq k => ⟨i, j, rfl, rfl, h, ?_⟩⟩
  show Q (.int (i ^ j.toNat)) H
  rw [hv]
  exact k _ S _ H hq ok .refl (.int v)
theorem pd_negc {i : Int} {k1 : Nat} {p1 : Pos} : PD X P (.UnaryOp .USub (.Constant (.int i) k1 p1) pos) (zC (.int (-i))) := by
  refine ⟨_, pe_un un_neg pe_int, fun Z hZ S σ H Qz Q ok hq k => ⟨i, rfl, ?_⟩⟩
  exact k _ S _ H hq ok .refl (.int _)
/-- any power of two ints that is not too large -/
def CPowW (i j : Int) : Prop := 0 ≤ j ∧ (Builtin.Int.intBits i : Int) * j ≤ 2 ^ 27
theorem op_powW : OpR X (binaryOp .Pow) (rI CPowW fun i j => .int (i ^ j.toNat)) := opI fun _ _ _ _ _ _ _ hc q => pow_int hc.1 hc.2 q
abbrev zPow := zOp (fIC CPowW fun i j => i ^ j.toNat)
theorem pd_pow {ta tb : ZE} (ha : PD X P a ta) (hb : PD X P b tb) : PD X P (.BinOp a .Pow b pos) (zPow ta tb) := pd_op op_powW opz_IC ha hb
/-- a module's constant -/
theorem pd_globi {y : Str} {i : Int} (hg : Gl X y) (hm : ∃ t, X.mg y = some (.int i t)) (hd : (y == ("__debug__" : Str)) = false := by decide) : PD X P (.Name y pos) (zC (.int i)) := by
  obtain ⟨t, hm⟩ := hm
  exact pd_glob hg hm hd
theorem pd_globd {y : Str} {d : D} (hg : Gl X y) (hm : ∃ a, X.mg y = some (.ref a) ∧ ∀ H av, Rep X.K X.mg H av (.ref a) d) (hd : (y == ("__debug__" : Str)) = false := by decide) : PD X P (.Name y pos) (zC d) := by
  obtain ⟨q, hm, r⟩ := hm
  exact pd_c (pe_glob (v := .ref q) hg hm rfl hd) r
/-- lists joined, also such as are never written -/
def rCatL (K : PySem.W.Frag) : R2 := fun x y H Q => ∃ l b xs zs, x = .ref l ∧ y = .ref b ∧ SqL K H l xs ∧ SqL K H b zs ∧ xs.length + zs.length ≤ sizeLine ∧ ∀ p, H p = none → Q (.ref p) (upd H p (.lst (xs ++ zs)))
theorem op_catL : OpR X (binaryOp .Add) (rCatL X.K) := by
  intro pins s σ H x y v u Q I rx ry h
  obtain ⟨l, b, xs, zs, rfl, rfl, hH, hB, hz, q⟩ := h
  cases rx
  cases ry
  obtain ⟨its, r, e, _⟩ := I.list hH
  obtain ⟨its2, r2, e2, _⟩ := I.list hB
  obtain ⟨⟨cls, dd, data, sl⟩, n, ho, hc, _, hd⟩ := e
  obtain ⟨⟨cls2, dd2, data2, sl2⟩, n2, ho2, hc2, _, hd2⟩ := e2
  simp only at hc hd hc2 hd2
  subst hc hd hc2 hd2
  have hl := r.length
  have hl2 := r2.length
  have ea : its.toArray ++ its2.toArray = (its ++ its2).toArray := by simp
  refine concat_meets ⟨_, ho, rfl⟩ ⟨_, ho2, rfl⟩ noFill_list_add seq_list_add PySem.F.slot_list_add PySem.F.entry_list_add (PySem.F.args_list_add_2 _ _) (list_addW l b its.toArray its2.toArray n n2 dd dd2 sl sl2 (by rw [List.size_toArray, List.size_toArray]; omega)) ⟨ho, ho2, ?_⟩
  rw [ea]
  exact ⟨.ref _, _, I.lnew (t' := s.toks) (r.append r2) (by rw [List.length_append]; omega), rfl, q _ I.fresh⟩
/-- xs + ys, a new list -/
def zCat (ta tb : ZE) : ZA := fun S Q => ta S fun d S1 => tb S1 fun e S2 => match d, e with
  | .lst xs, .lst ys => xs.length + ys.length ≤ sizeLine ∧ Q (xs ++ ys) S2
  | .fls xs, .lst ys => xs.length + ys.length ≤ sizeLine ∧ Q (xs ++ ys) S2
  | _, _ => False
theorem pf_cat {ta tb : ZE} (ha : PD X P a ta) (hb : PD X P b tb) : PF X P (.BinOp a .Add b pos) (zCat ta tb) := by
  obtain ⟨t0, p0, q0⟩ := ha.ex
  obtain ⟨t1, p1, q1⟩ := hb.ex
  refine ⟨_, pe_op op_catL p0 p1, fun Z hZ S σ H Qz Q ok h k => ?_⟩
  refine q0 Z hZ S σ H _ _ ok h fun d S1 v H1 h1 o1 f1 r1 => ?_
  refine q1 Z hZ S1 σ H1 _ _ o1 h1 fun e S2 u H2 h2 o2 f2 r2 => ?_
  split at h2
  · obtain ⟨l, us, rfl, g1, g2⟩ := (f2.rp _ _ r1).lst_inv
    obtain ⟨m, ws, rfl, g3, g4⟩ := r2.lst_inv
    exact ⟨l, m, us, ws, rfl, rfl, .of g1, .of g3, by rw [g2.length, g4.length]; exact h2.1, fresh_k o2 (f1.trans f2) (g2.append g4) h2.2 k⟩
  · obtain ⟨l, us, rfl, g1, g2⟩ := (f2.rp _ _ r1).fls_inv
    obtain ⟨m, ws, rfl, g3, g4⟩ := r2.lst_inv
    exact ⟨l, m, us, ws, rfl, rfl, g1.seq, .of g3, by rw [g2.length, g4.length]; exact h2.1, fresh_k o2 (f1.trans f2) (g2.append g4) h2.2 k⟩
  · exact h2.elim
/-- list(xs) -/
def zListOf (ta : ZV) : ZA := fun S Q => ta S fun d S1 => ∃ xs, cnt S1 d = some xs ∧ Q xs S1
theorem pf_listOf {va : ZV} (hg : Gl X "list") (hm : X.mg "list" = none) (ha : PV X P e va) (he : starEach [e] X.env = (false, eval e X.env) :: starEach [] X.env := by rfl) (hpl : (backTo pos (starEach [] X.env)).any (·.1) = false := by rfl) : PF X P (.Call (.Name "list" p) [e] [] pos) (zListOf va) := by
  obtain ⟨t0, p0, q0⟩ := ha.ex
  refine ⟨_, pe_callTy call_list_of hg hm (by decide +kernel) (pa_cons p0 pa_nil he) (by decide) (by decide) he hpl, fun Z hZ S σ H Qz Q ok h k => q0 Z hZ S σ H _ _ ok h fun d S1 v H1 h1 o1 f1 r1 => ?_⟩
  obtain ⟨xs, h2, h3⟩ := h1
  obtain ⟨q, vs, rfl, h4, h5⟩ := cnt_at o1 r1 h2
  exact ⟨q, vs, rfl, h4, fresh_k o1 f1 h5 h3 k⟩
end

/-! ### a def in one bundle -/
structure Df (Pg : Program) (w : World) (K : PySem.W.Frag) (mg : Str → Option Value) (base : Heap) (k : Nat) (x : Str) (sp : Sp) : Prop where
  ex : ∃ (f : Addr) (fd : FuncData) (ps : List Str), mg x = some (.ref f) ∧ PySem.W.keepIn K (.ref f) = true ∧ Binds K fd ps [] ∧ FnP Pg w K mg base k f fd ps sp
section
variable {X : Cx} {P : Zc → Prop} {k : Nat} {x : Str} {p pos : Pos} {e : Expr} {es : List Expr} {ta : ZA}
theorem dd_call {sp : ZSp} {j : Nat} (F : Df X.prog X.w X.K X.mg X.base j x (spZ X.K X.mg sp)) (C : Cd k X P) (hg : Gl X x) (ez : Str → Option (Str × D) → Prop)
    (hez : ∀ Z, P Z → ∀ c g, ez c g → Z.ez c g) (ha : PAd X P (e :: es) ta) (hj : j ≤ k := by decide) (hdb : (x == ("__debug__" : Str)) = false := by decide) (he : starEach (e :: es) X.env = (false, eval e X.env) :: starEach es X.env := by rfl) (hpl : (backTo pos (starEach es X.env)).any (·.1) = false := by rfl) :
    PD X P (.Call (.Name x p) (e :: es) [] pos) (zCall sp ez ta) := by
  obtain ⟨f, fd, ps, hm, hk, hb, F⟩ := F.ex
  exact pd_call F C hg hm hk hb hez ha hj hdb he hpl
theorem df_call {sp : ZSp} {j : Nat} (F : Df X.prog X.w X.K X.mg X.base j x (spZ X.K X.mg sp)) (C : Cd k X P) (hg : Gl X x) (ez : Str → Option (Str × D) → Prop)
    (hez : ∀ Z, P Z → ∀ c g, ez c g → Z.ez c g) (ha : PAd X P (e :: es) ta) (hj : j ≤ k := by decide) (hdb : (x == ("__debug__" : Str)) = false := by decide) (he : starEach (e :: es) X.env = (false, eval e X.env) :: starEach es X.env := by rfl) (hpl : (backTo pos (starEach es X.env)).any (·.1) = false := by rfl) :
    PF X P (.Call (.Name x p) (e :: es) [] pos) (zCallF sp ez ta) := by
  obtain ⟨f, fd, ps, hm, hk, hb, F⟩ := F.ex
  exact pf_call F C hg hm hk hb hez ha hj hdb he hpl
theorem dd_callB {sp : ZSb} {i : Nat} {y : Str} {py : Pos} {j : Nat} (F : Df X.prog X.w X.K X.mg X.base j x (spB X.K X.mg sp)) (C : Cd k X P) (hg : Gl X x)
    (ha : PAd X P es ta) (hj : j ≤ k := by decide) (hN : X.N[i]? = some y := by rfl) (hv : Vis X.env.scope y := by first | exact Or.inl rfl | exact Or.inr (Or.inl rfl) | exact Or.inr (Or.inr rfl)) (hdy : (y == ("__debug__" : Str)) = false := by decide) (hcd : (y == ("__classdict__" : Str)) = false := by decide)
    (hdb : (x == ("__debug__" : Str)) = false := by decide) (he : starEach (.Name y py :: es) X.env = (false, eval (.Name y py) X.env) :: starEach es X.env := by rfl) (hpl : (backTo pos (starEach es X.env)).any (·.1) = false := by rfl) :
    PD X P (.Call (.Name x p) (.Name y py :: es) [] pos) (zCallB i sp ta) := by
  obtain ⟨f, fd, ps, hm, hk, hb, F⟩ := F.ex
  exact pd_callB F C hg hm hk hb ha hj hN hv hdy hcd hdb he hpl
end
theorem ez0 {P : Zc → Prop} : ∀ Z, P Z → ∀ c g, (fun (_ : Str) (_ : Option (Str × D)) => False) c g → Z.ez c g := fun _ _ _ _ h => h.elim
theorem ezS {Z0 : Zc} : ∀ Z, Sup Z0 Z → ∀ c g, Z0.ez c g → Z.ez c g := fun Z h c g q => by rw [h.2.2.1]; exact q
abbrev eF : Str → Option (Str × D) → Prop := fun _ _ => False
end Zz

/-! The pure layer: three targets at once, list(range(..)). -/
namespace Zz
open PySem PySem.Spec PyProof.Rows L2

section
variable {X : Cx} {P : Zc → Prop} {e a b c : Expr} {pos : Pos} {ta tb tc : ZX}
/-- a result is put aside until what comes behind it is stored -/
theorem put_pre {k : Nat} (C : Cd k X P) {Z : Zc} (hZ : P Z) {S S1 : SS} {σ : L2.St} {H H1 : Hp} {i : Nat} {v : V} {r : Sl} (hbi : Z.bag = none ∨ i ≠ 0) (o1 : Ok X Z S1 σ H1) (f1 : Frm X Z S σ H S1 σ H1) (r1 : RRel X Z S1 σ H1 v r)
    (c1 : ∀ a, v = .ref a → (∃ xs, r = .ow xs) → ∀ w d, Rep X.K X.mg H (avs Z S σ) w d → Rep X.K X.mg H1 (fun b => avs Z S1 σ b ∨ b = a) w d) {nx : SS → Prop} {K : L2.St → Hp → Prop} {G : Prop}
    (rest : ∀ Z', P Z' → Ok X Z' S1 σ H1 → (∀ S' σ' H', nx (putR S' i r) → Ok X Z' S' σ' H' → Frm X Z' S1 σ H1 S' σ' H' → K σ' H') → G)
    (kq : ∀ S' σ' H', nx S' → Ok X Z S' (σ'.set i (some v)) H' → Frm X Z S σ H S' (σ'.set i (some v)) H' → K σ' H') : G := by
  cases r with
  | sh d =>
    refine rest Z hZ o1 fun S' σ' H' h2 o2 f2 => ?_
    obtain ⟨o4, k4⟩ := o2.setSh (i := i) (f2.rp _ _ r1) hbi
    exact kq _ σ' H' h2 o4 ((f1.trans f2).trans (frm_set k4))
  | ow xs =>
    obtain ⟨p, rfl, fr⟩ := r1
    obtain ⟨us, e1, e2⟩ := fr.at_
    refine rest (Z.pl p) (C.cl Z p hZ) (o1.aside fr) fun S' σ' H' h2 o3 f3 => ?_
    have e2' : Reps X.K X.mg H1 (avs (Z.pl p) S1 σ) us xs := e2.carry (.same (Same.refl H1) fun q h => avs_pl.mp h)
    obtain ⟨o4, fr4⟩ := o3.retake (us := us) (by rw [f3.pr p (.inr rfl)]; exact e1) (f3.reps e2') fr.new fun z => fr.nav (.inl z)
    obtain ⟨o5, k5⟩ := o4.setOw (i := i) fr4 hbi
    refine kq _ σ' H' h2 o5 ⟨fun y d q => k5 ?_, fun a ha => (f3.ofPl a ha).trans (f1.pr a ha)⟩
    have g := c1 p rfl ⟨xs, rfl⟩ y d q
    have g2 : Rep X.K X.mg H1 (avs (Z.pl p) S1 σ) y d := g.carry (.same (Same.refl H1) fun q h => avs_pl.mp h)
    exact (f3.rp _ _ g2).carry (.same (Same.refl H') fun q h => avs_pl.mpr h)
  | un => exact r1.elim
def zPar3 (i j l : Nat) (ta tb tc : ZX) : ZS := fun E S => ta S fun r S1 => tb S1 fun q S2 => tc S2 fun u S3 => E.nx (putR (putR (putR S3 l u) j q) i r)
theorem sd_par3 {k i j l : Nat} {x y z : Str} {px py pz pt : Pos} {kt k2 pt2} (C : Cd k X P) (hbi : ∀ Z, P Z → Z.bag = none ∨ i ≠ 0) (hbj : ∀ Z, P Z → Z.bag = none ∨ j ≠ 0) (hbl : ∀ Z, P Z → Z.bag = none ∨ l ≠ 0) (ha : PX X P a ta) (hb : PX X P b tb) (hc : PX X P c tc)
    (hij : i ≠ j := by decide) (hil : i ≠ l := by decide) (hjl : j ≠ l := by decide)
    (hi : X.N[i]? = some x := by rfl) (hj : X.N[j]? = some y := by rfl) (hl : X.N[l]? = some z := by rfl) (hx : X.env.scope.names.lookup x = some .local := by rfl) (hy : X.env.scope.names.lookup y = some .local := by rfl) (hz : X.env.scope.names.lookup z = some .local := by rfl)
    (hst : starEach [a, b, c] X.env = (false, eval a X.env) :: starEach [b, c] X.env := by rfl) (hst2 : starEach [b, c] X.env = (false, eval b X.env) :: starEach [c] X.env := by rfl) (hst3 : starEach [c] X.env = (false, eval c X.env) :: starEach [] X.env := by rfl)
    (hw : swappedStores [.Tuple [.Name x px, .Name y py, .Name z pz] kt pt] (.Tuple [a, b, c] k2 pt2) X.env = pure (some [x, y, z]) := by rfl)
    (hs : swapsWithSole [.Tuple [.Name x px, .Name y py, .Name z pz] kt pt] (.Tuple [a, b, c] k2 pt2) pos.line X.env = pure false := by rfl) :
    PSd X P (.Assign [.Tuple [.Name x px, .Name y py, .Name z pz] kt pt] (.Tuple [a, b, c] k2 pt2) pos) (zPar3 i j l ta tb tc) := by
  obtain ⟨t0, p0, q0⟩ := ha.ex
  obtain ⟨t1, p1, q1⟩ := hb.ex
  obtain ⟨t2, p2, q2⟩ := hc.ex
  refine ⟨_, ps_par3 C.calm C.nd hi hj hl hij hil hjl hx hy hz (pa_cons p0 (pa_cons p1 (pa_cons p2 pa_nil hst3) hst2) hst) hw hs, fun Z hZ S σ H E D0 ok h im => ?_⟩
  refine q0 Z hZ S σ H _ _ ok h fun r S1 v H1 h1 o1 f1 r1 c1 => ?_
  refine put_pre (i := i) C hZ (hbi Z hZ) o1 f1 r1 c1 (nx := E.nx) (K := fun σ' H' => D0.nx (σ'.set i (some v)) H') (fun Z' hZ' o1' kk => ?_) fun S' σ' H' n o f => im.nx _ _ _ n o f
  refine q1 Z' hZ' S1 σ H1 _ _ o1' h1 fun q S2 w H2 h2 o2 f2 r2 c2 => ?_
  refine put_pre (i := j) C hZ' (hbj Z' hZ') o2 f2 r2 c2 (nx := fun S => E.nx (putR S i r)) (K := fun σ' H' => D0.nx ((σ'.set j (some w)).set i (some v)) H') (fun Z'' hZ'' o2' kk2 => ?_) fun S' σ' H' n o f => kk _ _ _ n o f
  refine q2 Z'' hZ'' S2 σ H2 _ _ o2' h2 fun u S3 y H3 h3 o3 f3 r3 c3 => ?_
  obtain ⟨o4, f4⟩ := put_all (i := l) o3 r3 (hbl Z'' hZ'') f3 c3
  refine ⟨v, w, y, rfl, ?_⟩
  rw [List.set_comm (l := σ) _ _ hij, List.set_comm _ _ hil, List.set_comm (l := σ) _ _ hjl]
  exact kk2 _ _ _ h3 o4 f4
/-- .. where a name is a cell: a tuple is made and unpacked -/
theorem sd_parC {k i j : Nat} {x y : Str} {px py pt : Pos} {kt k2 pt2} (C : Cd k X P) (hbi : ∀ Z, P Z → Z.bag = none ∨ i ≠ 0) (hbj : ∀ Z, P Z → Z.bag = none ∨ j ≠ 0) (ha : PX X P a ta) (hb : PX X P b tb) (hij : i ≠ j := by decide)
    (hi : X.N[i]? = some x := by rfl) (hj : X.N[j]? = some y := by rfl) (hx : Loc X.env.scope x := by first | exact Or.inl rfl | exact Or.inr rfl) (hy : Loc X.env.scope y := by first | exact Or.inl rfl | exact Or.inr rfl)
    (hfx : X.fn x = true ∨ X.env.scope.names.lookup x = some .local := by first | exact .inl rfl | exact .inr rfl) (hfy : X.fn y = true ∨ X.env.scope.names.lookup y = some .local := by first | exact .inl rfl | exact .inr rfl)
    (hst : starEach [a, b] X.env = (false, eval a X.env) :: starEach [b] X.env := by rfl) (hst2 : starEach [b] X.env = (false, eval b X.env) :: starEach [] X.env := by rfl)
    (hw : swappedStores [.Tuple [.Name x px, .Name y py] kt pt] (.Tuple [a, b] k2 pt2) X.env = pure none := by rfl)
    (hs : swapsWithSole [.Tuple [.Name x px, .Name y py] kt pt] (.Tuple [a, b] k2 pt2) pos.line X.env = pure false := by rfl) :
    PSd X P (.Assign [.Tuple [.Name x px, .Name y py] kt pt] (.Tuple [a, b] k2 pt2) pos) (zPar i j ta tb) := by
  obtain ⟨t0, p0, q0⟩ := ha.ex
  obtain ⟨t1, p1, q1⟩ := hb.ex
  refine ⟨_, ps_asg (pe_tup (pa_cons p0 (pa_cons p1 pa_nil hst2) hst)) (pg_tup C.calm (pgs_cons (pg_name C.nd hi hx hfx) (pgs_cons (pg_name C.nd hj hy hfy) pgs_nil))) hs hw, fun Z hZ S σ H E D0 ok h im => ?_⟩
  refine q0 Z hZ S σ H _ _ ok h fun r S1 v H1 h1 o1 f1 r1 c1 => ?_
  refine put_pre (i := i) C hZ (hbi Z hZ) o1 f1 r1 c1 (nx := E.nx) (K := fun σ' H' => D0.nx (σ'.set i (some v)) H') (fun Z' hZ' o1' kk => ?_) fun S' σ' H' n o f => im.nx _ _ _ n o f
  refine q1 Z' hZ' S1 σ H1 _ _ o1' h1 fun q S2 w H2 h2 o2 f2 r2 c2 => ?_
  obtain ⟨o4, f4⟩ := put_all (i := j) o2 r2 (hbj Z' hZ') f2 c2
  refine ⟨by show 2 ≤ sizeLine; decide, fun p hp => ⟨p, [v, w], rfl, .inl (.inl upd_same), rfl, v, [w], rfl, w, [], rfl, rfl, ?_⟩⟩
  have s : Same H2 (upd H2 p (.tup [v, w])) := Same.upd hp
  rw [List.set_comm _ _ hij]
  exact kk _ _ _ h2 (o4.same s) (f4.trans (.same o4 s))
theorem sd_par3C {k i j l : Nat} {x y z : Str} {px py pz pt : Pos} {kt k2 pt2} (C : Cd k X P) (hbi : ∀ Z, P Z → Z.bag = none ∨ i ≠ 0) (hbj : ∀ Z, P Z → Z.bag = none ∨ j ≠ 0) (hbl : ∀ Z, P Z → Z.bag = none ∨ l ≠ 0) (ha : PX X P a ta) (hb : PX X P b tb) (hc : PX X P c tc)
    (hij : i ≠ j := by decide) (hil : i ≠ l := by decide) (hjl : j ≠ l := by decide)
    (hi : X.N[i]? = some x := by rfl) (hj : X.N[j]? = some y := by rfl) (hl : X.N[l]? = some z := by rfl) (hx : Loc X.env.scope x := by first | exact Or.inl rfl | exact Or.inr rfl) (hy : Loc X.env.scope y := by first | exact Or.inl rfl | exact Or.inr rfl) (hz : Loc X.env.scope z := by first | exact Or.inl rfl | exact Or.inr rfl)
    (hfx : X.fn x = true ∨ X.env.scope.names.lookup x = some .local := by first | exact .inl rfl | exact .inr rfl) (hfy : X.fn y = true ∨ X.env.scope.names.lookup y = some .local := by first | exact .inl rfl | exact .inr rfl) (hfz : X.fn z = true ∨ X.env.scope.names.lookup z = some .local := by first | exact .inl rfl | exact .inr rfl)
    (hst : starEach [a, b, c] X.env = (false, eval a X.env) :: starEach [b, c] X.env := by rfl) (hst2 : starEach [b, c] X.env = (false, eval b X.env) :: starEach [c] X.env := by rfl) (hst3 : starEach [c] X.env = (false, eval c X.env) :: starEach [] X.env := by rfl)
    (hw : swappedStores [.Tuple [.Name x px, .Name y py, .Name z pz] kt pt] (.Tuple [a, b, c] k2 pt2) X.env = pure none := by rfl)
    (hs : swapsWithSole [.Tuple [.Name x px, .Name y py, .Name z pz] kt pt] (.Tuple [a, b, c] k2 pt2) pos.line X.env = pure false := by rfl) :
    PSd X P (.Assign [.Tuple [.Name x px, .Name y py, .Name z pz] kt pt] (.Tuple [a, b, c] k2 pt2) pos) (zPar3 i j l ta tb tc) := by
  obtain ⟨t0, p0, q0⟩ := ha.ex
  obtain ⟨t1, p1, q1⟩ := hb.ex
  obtain ⟨t2, p2, q2⟩ := hc.ex
  refine ⟨_, ps_asg (pe_tup (pa_cons p0 (pa_cons p1 (pa_cons p2 pa_nil hst3) hst2) hst)) (pg_tup C.calm (pgs_cons (pg_name C.nd hi hx hfx) (pgs_cons (pg_name C.nd hj hy hfy) (pgs_cons (pg_name C.nd hl hz hfz) pgs_nil)))) hs hw, fun Z hZ S σ H E D0 ok h im => ?_⟩
  refine q0 Z hZ S σ H _ _ ok h fun r S1 v H1 h1 o1 f1 r1 c1 => ?_
  refine put_pre (i := i) C hZ (hbi Z hZ) o1 f1 r1 c1 (nx := E.nx) (K := fun σ' H' => D0.nx (σ'.set i (some v)) H') (fun Z' hZ' o1' kk => ?_) fun S' σ' H' n o f => im.nx _ _ _ n o f
  refine q1 Z' hZ' S1 σ H1 _ _ o1' h1 fun q S2 w H2 h2 o2 f2 r2 c2 => ?_
  refine put_pre (i := j) C hZ' (hbj Z' hZ') o2 f2 r2 c2 (nx := fun S => E.nx (putR S i r)) (K := fun σ' H' => D0.nx ((σ'.set j (some w)).set i (some v)) H') (fun Z'' hZ'' o2' kk2 => ?_) fun S' σ' H' n o f => kk _ _ _ n o f
  refine q2 Z'' hZ'' S2 σ H2 _ _ o2' h2 fun u S3 y H3 h3 o3 f3 r3 c3 => ?_
  obtain ⟨o4, f4⟩ := put_all (i := l) o3 r3 (hbl Z'' hZ'') f3 c3
  refine ⟨by show 3 ≤ sizeLine; decide, fun p hp => ⟨p, [v, w, y], rfl, .inl (.inl upd_same), rfl, v, [w, y], rfl, w, [y], rfl, y, [], rfl, rfl, ?_⟩⟩
  have s : Same H3 (upd H3 p (.tup [v, w, y])) := Same.upd hp
  rw [List.set_comm (l := σ) _ _ hij, List.set_comm _ _ hil, List.set_comm (l := σ) _ _ hjl]
  exact kk2 _ _ _ h3 (o4.same s) (f4.trans (.same o4 s))
end
section
variable {X : Cx} {P : Zc → Prop} {a b : Expr} {p p2 pos pos2 : Pos} {ta tb : ZE}
theorem rangeD_rg {K mg H av} (a b : Int) : Reps K mg H av (rgV a b) (rangeD a (b - a).toNat) := by
  unfold rgV rangeD
  have key : ∀ ns : List Nat, Reps K mg H av (ns.map fun i => V.int (a + (i : Nat))) (ns.map fun (i : Nat) => D.int (a + (i : Int))) := fun ns => by
    induction ns with
    | nil => exact .nil
    | cons n ns ih => exact .cons (.int _) ih
  exact key _
/-- list(range(a)), list(range(a, b)) -/
def zLR (lo : Int) (hi : Int) (Q : List D → Prop) : Prop := RgOk lo hi ∧ Q (rangeD lo (hi - lo).toNat)
def zLR1 (ta : ZE) : ZA := fun S Q => ta S fun d S1 => match d with
  | .int j => zLR 0 j fun xs => Q xs S1
  | _ => False
def zLR2 (ta tb : ZE) : ZA := fun S Q => ta S fun d S1 => tb S1 fun e S2 => match d, e with
  | .int i, .int j => zLR i j fun xs => Q xs S2
  | _, _ => False
theorem pf_listR1 {k : Nat} (C : Cd k X P) (hg : Gl X "list") (hm : X.mg "list" = none) (hg2 : Gl X "range") (hm2 : X.mg "range" = none) (ha : PD X P a ta) (na : starEach [a] X.env = (false, eval a X.env) :: starEach [] X.env := by rfl)
    (n2 : starEach [.Call (.Name "range" p2) [a] [] pos2] X.env = (false, eval (.Call (.Name "range" p2) [a] [] pos2) X.env) :: starEach [] X.env := by rfl) : PF X P (.Call (.Name "list" p) [.Call (.Name "range" p2) [a] [] pos2] [] pos) (zLR1 ta) := by
  obtain ⟨t0, p0, q0⟩ := ha.ex
  refine ⟨_, pe_listRg C.calm hg hm (prg_1 hg2 hm2 p0 na) n2, fun Z hZ S σ H Qz Q ok h k => q0 Z hZ S σ H _ _ ok h fun d S1 v H1 h1 o1 f1 r1 => ?_⟩
  split at h1
  · obtain rfl := r1.int_inv
    exact ⟨_, rfl, h1.1, fresh_k o1 f1 (rangeD_rg _ _) h1.2 k⟩
  · exact h1.elim
theorem pf_listR2 {k : Nat} (C : Cd k X P) (hg : Gl X "list") (hm : X.mg "list" = none) (hg2 : Gl X "range") (hm2 : X.mg "range" = none) (ha : PD X P a ta) (hb : PD X P b tb) (na : starEach [a, b] X.env = (false, eval a X.env) :: starEach [b] X.env := by rfl)
    (nb : starEach [b] X.env = (false, eval b X.env) :: starEach [] X.env := by rfl) (hp : (backTo pos2 (starEach [b] X.env)).any (·.1) = false := by rfl)
    (n2 : starEach [.Call (.Name "range" p2) [a, b] [] pos2] X.env = (false, eval (.Call (.Name "range" p2) [a, b] [] pos2) X.env) :: starEach [] X.env := by rfl) : PF X P (.Call (.Name "list" p) [.Call (.Name "range" p2) [a, b] [] pos2] [] pos) (zLR2 ta tb) := by
  obtain ⟨t0, p0, q0⟩ := ha.ex
  obtain ⟨t1, p1, q1⟩ := hb.ex
  refine ⟨_, pe_listRg C.calm hg hm (prg_2 hg2 hm2 p0 p1 na nb hp) n2, fun Z hZ S σ H Qz Q ok h k => q0 Z hZ S σ H _ _ ok h fun d S1 v H1 h1 o1 f1 r1 => q1 Z hZ S1 σ H1 _ _ o1 h1 fun e S2 u H2 h2 o2 f2 r2 => ?_⟩
  split at h2
  · obtain rfl := r1.int_inv
    obtain rfl := r2.int_inv
    exact ⟨_, _, rfl, rfl, h2.1, fresh_k o2 (f1.trans f2) (rangeD_rg _ _) h2.2 k⟩
  · exact h2.elim
end
end Zz

/-! The pure layer: walks over lists or tuples alike; rules for readings of loops. -/
namespace Zz
open PySem PySem.Spec PyProof.Rows L2

section
variable {X : Cx} {P : Zc → Prop} {e a b : Expr} {pos : Pos} {te ta : ZE}
theorem pi_either {tg l : Expr} {u v : TI} (h : PI X tg l u) (h' : PI X tg l v) : PI X tg l (fun σ H R => u σ H R ∨ v σ H R) :=
  ⟨fun pins s σ H R I q => q.elim (fun q => h.run pins s σ H R I q) fun q => h'.run pins s σ H R I q⟩
theorem pi_list' {tg l : Expr} {tl : TE} (hl : PE X l tl) : PI X tg l (iList X.K tl) := pi_list hl
def zItS (te : ZE) : ZA := fun S Q => te S fun d S1 => match d with
  | .lst ds => Q ds S1
  | .fls ds => Q ds S1
  | .tup ds => Q ds S1
  | _ => False
/-- a walk whose source is one of the two -/
def iSeq (K : PySem.W.Frag) (t : TE) : TI := fun σ H R => t σ H fun x H1 => ∃ a, x = .ref a ∧ (((∃ xs, SqL K H1 a xs) ∧ R (Itl K a) H1) ∨ ((∃ xs, SqT K H1 a xs) ∧ R (Itt K a) H1))
theorem pi_seq {tg l : Expr} {tl : TE} (hl : PE X l tl) : PI X tg l (iSeq X.K tl) := by
  refine ⟨fun pins z0 σ H R I0 h => ?_⟩
  refine thn (hl.run pins z0 σ H _ I0 h) fun w z ⟨x, G, I, rx, c⟩ => ?_
  obtain ⟨q, eq, c⟩ := c
  subst eq
  cases rx
  have fr : ∀ b, b ∈ [z.heap.objs.size] → FpOk X pins G b := fun b hb => by
    obtain rfl : b = z.heap.objs.size := by simpa using hb
    exact I.fpOk (Nat.le_refl _) (I.hok.fresh (Nat.le_refl _))
  rcases c with ⟨⟨ys, hy⟩, c⟩ | ⟨⟨ys, hy⟩, c⟩
  · obtain ⟨its, rv, pl, hz⟩ := I.list hy
    exact wpAny_pyIter_list pl.isList ⟨z.heap.objs.size, [z.heap.objs.size], _, _, G, rfl, I.kept (t' := z.toks) fun b o e => Heap.get?_push_of_some _ e, turn_list q _, ⟨_, Heap.get?_push_size _ rfl, rfl, rfl⟩, fr, c⟩
  · obtain ⟨its, rv, pl, hz⟩ := I.tuple hy
    exact wpAny_pyIter_tuple (show z.heap.IsTuple q its.toArray from pl) ⟨z.heap.objs.size, [z.heap.objs.size], _, _, G, rfl, I.kept (t' := z.toks) fun b o e => Heap.get?_push_of_some _ e, turn_tuple q _, ⟨_, Heap.get?_push_size _ rfl, rfl, rfl⟩, fr, c⟩
theorem id_seq {tg : Expr} (h : PD X P e te) : PId X P tg e (zItS te) := by
  obtain ⟨t0, p0, q0⟩ := h.ex
  refine ⟨_, pi_seq p0, fun Z hZ S σ H Qz R ok h k => q0 Z hZ S σ H _ _ ok h fun d S1 v H1 h1 o f r => ?_⟩
  split at h1
  · obtain ⟨a, vs, rfl, h2, h3⟩ := r.lst_inv
    exact ⟨a, rfl, .inl ⟨⟨vs, .inl (.inl h2)⟩, k _ _ _ _ h1 o f (gives_list (.inl rfl) r)⟩⟩
  · obtain ⟨a, vs, rfl, h2, h3⟩ := r.fls_inv
    exact ⟨a, rfl, .inl ⟨⟨vs, h2.seq⟩, k _ _ _ _ h1 o f (gives_list (.inr rfl) r)⟩⟩
  · obtain ⟨a, vs, rfl, h2, h3⟩ := r.tup_inv
    exact ⟨a, rfl, .inr ⟨⟨vs, h2⟩, k _ _ _ _ h1 o f (gives_tup r)⟩⟩
  · exact h1.elim
end

/-! ### readings of loops -/
theorem forz_ind {g : ZG} {tb : ZS} {E : ZD} (I : Nat → SS → Prop) {ds : List D} {S : SS} (h0 : I 0 S)
    (hs : ∀ i d S, ds[i]? = some d → I i S → ∀ K : SS → Prop, (∀ S', I (i + 1) S' → K S') → g d S fun S1 => tb { nx := K, rt := E.rt, bk := E.nx, ct := K } S1) (hx : ∀ S, I ds.length S → E.nx S) : forz g tb ds E S := by
  have key : ∀ (n i : Nat) (S : SS), n = ds.length - i → i ≤ ds.length → I i S → forz g tb (ds.drop i) E S := by
    intro n
    induction n with
    | zero =>
      intro i S hn hi h
      have : i = ds.length := by omega
      rw [this, List.drop_length]
      exact hx S (this ▸ h)
    | succ n ih =>
      intro i S hn hi h
      have hd : ds[i]? = some ds[i] := List.getElem?_eq_getElem (by omega)
      rw [drop_at hd]
      exact hs i _ S hd h _ fun S' h' => ih (i + 1) S' (by omega) (by omega) h'
  have := key _ 0 S rfl (Nat.zero_le _) h0
  rwa [List.drop_zero] at this
/-- a comprehension that leaves the state alone -/
theorem lcz_map {vs : List Nat} {g : ZG} {tt : ZT} {te : ZE} (f : D → Option D) (I : SS → Prop) {ds acc : List D} {S : SS} {Q : List D → SS → Prop} (hS : I S) (hn : acc.length + ds.length ≤ sizeLine)
    (hs : ∀ d, d ∈ ds → ∀ S, I S → ∀ (A : D → SS → Prop) (B : SS → Prop), (∀ y S', f d = some y → I S' → A y S') → (∀ S', f d = none → I S' → B S') →
      g d S fun S1 => tt S1 fun b S2 => (b = true → te S2 fun y S3 => A y (wipeS S3 vs)) ∧ (b = false → B (wipeS S2 vs)))
    (hx : ∀ S', I S' → Q (acc ++ ds.filterMap f) S') : lcz vs g tt te ds acc S Q := by
  induction ds generalizing acc S with
  | nil => exact (by simpa using hx S hS : Q acc S)
  | cons d ds ih =>
    have hl : acc.length < sizeLine := by simp at hn; omega
    refine hs d (by simp) S hS (fun y S3 => acc.length < sizeLine ∧ lcz vs g tt te ds (acc ++ [y]) S3 Q) (fun S2 => lcz vs g tt te ds acc S2 Q) (fun y S' e hI => ⟨hl, ?_⟩) (fun S' e hI => ?_)
    · refine ih hI (by simp at hn ⊢; omega) (fun d hd => hs d (by simp [hd])) fun S'' h'' => ?_
      have := hx S'' h''
      rw [List.filterMap_cons, e] at this
      simpa using this
    · refine ih hI (by simp at hn ⊢; omega) (fun d hd => hs d (by simp [hd])) fun S'' h'' => ?_
      have := hx S'' h''
      rw [List.filterMap_cons, e] at this
      simpa using this
theorem bagL {P : Zc → Prop} {js : List Nat} (h : js.all (· != 0) = true := by decide) : ∀ Z, P Z → ∀ i ∈ js, Z.bag = none ∨ i ≠ 0 := fun Z _ i hi => .inr (by have := List.all_eq_true.mp h i hi; simpa using this)
theorem NoBag.l {P : Zc → Prop} (h : NoBag P) {js : List Nat} : ∀ Z, P Z → ∀ i ∈ js, Z.bag = none ∨ i ≠ 0 := fun Z hZ i _ => .inl (h Z hZ)
end Zz
namespace Zz
def D.isI : D → Bool
  | .int _ => true
  | _ => false
end Zz
namespace Zz
/-- a claim between two statements -/
theorem zSeq_cut {t u : ZS} {E : ZD} {S : SS} (I : SS → Prop) (h1 : ∀ K : SS → Prop, (∀ S', I S' → K S') → t { nx := K, rt := E.rt, bk := E.bk, ct := E.ct } S) (h2 : ∀ S', I S' → u E S') : zSeq t u E S := h1 (u E) h2
end Zz

/-! The pure layer: plain data, shown and compared. -/
namespace Zz
open PySem PySem.Spec PyProof.Rows L2
mutual
/-- plain data: ints of up to 200 digits, short texts, lists and tuples of such -/
def D.gd : D → Bool
  | .non => true
  | .int i => decide (i.natAbs < 10 ^ 200)
  | .str s => PyData.strOk s && s.cps.toList.all fun c => decide (c < 16 ^ 8)
  | .lst xs => D.gds xs
  | .tup xs => D.gds xs
  | _ => false
def D.gds : List D → Bool
  | [] => true
  | x :: xs => x.gd && D.gds xs
end
mutual
def D.dep : D → Nat
  | .lst xs => D.deps xs + 1
  | .tup xs => D.deps xs + 1
  | _ => 0
def D.deps : List D → Nat
  | [] => 0
  | x :: xs => max x.dep (D.deps xs)
end
mutual
def D.bk : D → Nat
  | .str s => s.cps.size
  | .lst xs => D.bks xs
  | .tup xs => D.bks xs
  | _ => 0
def D.bks : List D → Nat
  | [] => 0
  | x :: xs => x.bk + 1 + D.bks xs
end
theorem gds_iff {xs : List D} : D.gds xs = true ↔ ∀ x ∈ xs, x.gd = true := by
  induction xs with
  | nil => simp [D.gds]
  | cons x xs ih => simp [D.gds, ih]
theorem deps_le {xs : List D} {n : Nat} (h : ∀ x ∈ xs, x.dep ≤ n) : D.deps xs ≤ n := by
  induction xs with
  | nil => simp [D.deps]
  | cons x xs ih =>
    have a := h x List.mem_cons_self
    have b := ih fun y hy => h y (List.mem_cons_of_mem _ hy)
    simp only [D.deps]
    omega
theorem bks_le {xs : List D} {n : Nat} (h : ∀ x ∈ xs, x.bk ≤ n) : D.bks xs ≤ (n + 1) * xs.length := by
  induction xs with
  | nil => simp [D.bks]
  | cons x xs ih =>
    have a := h x List.mem_cons_self
    have b := ih fun y hy => h y (List.mem_cons_of_mem _ hy)
    simp only [D.bks, List.length_cons, Nat.mul_add]
    omega
mutual
theorem gd_py : ∀ d : D, d.gd = true → ∃ p, d.py = some p ∧ p.canLay0 = true ∧ p.showable = true ∧ p.hasDict = false ∧ p.leavesShort 202 = true ∧ p.depth = d.dep ∧ p.bulk = d.bk
  | .non, _ => ⟨.none, rfl, rfl, rfl, rfl, rfl, rfl, rfl⟩
  | .int i, h => by
    have h := of_decide_eq_true h
    have l : i.natAbs.log2 < 1920 := by
      by_cases e : i.natAbs = 0
      · rw [e]; decide
      · exact (Nat.log2_lt e).mpr (Nat.lt_trans h (by decide))
    refine ⟨.int i, rfl, rfl, by simpa [PyData.showable] using l, rfl, ?_, rfl, rfl⟩
    have e := int_text_length_le10 (k := 200) (by decide) h
    refine decide_eq_true ?_
    show (Str.ofString (toString i)).length ≤ 202
    rw [PySem.ofString_length]
    omega
  | .str s, h => by
    simp only [D.gd, Bool.and_eq_true] at h
    exact ⟨.str s, rfl, by simpa [PyData.canLay0] using h.1, rfl, rfl, by simpa [PyData.leavesShort] using h.2, rfl, rfl⟩
  | .lst xs, h => by
    obtain ⟨ps, h1, h2, h3, h4, h5, h6, h7⟩ := gds_py xs (by simpa [D.gd] using h)
    exact ⟨.list ps, by simp [D.py, h1], by simpa [PyData.canLay0] using h2, by simpa [PyData.showable] using h3, by simpa [PyData.hasDict] using h4, by simpa [PyData.leavesShort] using h5, by simp [PyData.depth, D.dep, h6], by simp [PyData.bulk, D.bk, h7]⟩
  | .tup xs, h => by
    obtain ⟨ps, h1, h2, h3, h4, h5, h6, h7⟩ := gds_py xs (by simpa [D.gd] using h)
    exact ⟨.tuple ps, by simp [D.py, h1], by simpa [PyData.canLay0] using h2, by simpa [PyData.showable] using h3, by simpa [PyData.hasDict] using h4, by simpa [PyData.leavesShort] using h5, by simp [PyData.depth, D.dep, h6], by simp [PyData.bulk, D.bk, h7]⟩
  | .bl _, h => by cases h
  | .fls _, h => by cases h
  | .obj _ _, h => by cases h
  | .dic, h => by cases h
  | .adr _, h => by cases h
  | .exc _ _, h => by cases h
theorem gds_py : ∀ xs : List D, D.gds xs = true → ∃ ps, D.pys xs = some ps ∧ PyData.canLayAll0 ps = true ∧ PyData.showableAll ps = true ∧ PyData.hasDictAll ps = false ∧ PyData.leavesShortAll 202 ps = true ∧ PyData.depthAll ps = D.deps xs ∧ PyData.bulkAll ps = D.bks xs
  | [], _ => ⟨[], rfl, rfl, rfl, rfl, rfl, rfl, rfl⟩
  | x :: xs, h => by
    simp only [D.gds, Bool.and_eq_true] at h
    obtain ⟨p, g1, g2, g3, g4, g5, g6, g7⟩ := gd_py x h.1
    obtain ⟨ps, h1, h2, h3, h4, h5, h6, h7⟩ := gds_py xs h.2
    exact ⟨p :: ps, by simp [D.pys, g1, h1], by simp [PyData.canLayAll0, g2, h2], by simp [PyData.showableAll, g3, h3], by simp [PyData.hasDictAll, g4, h4], by simp [PyData.leavesShortAll, g5, h5], by simp [PyData.depthAll, D.deps, g6, h6], by simp [PyData.bulkAll, D.bks, g7, h7]⟩
end
mutual
theorem eqv_gd : ∀ (d e : D) (p q : PyData), d.gd = true → e.gd = true → d.py = some p → e.py = some q → (PyData.eqv p q = true ↔ d = e)
  | .non, e, p, q, _, h2, h3, h4 => by
    cases e
    all_goals first
      | (cases h2; done)
      | (simp only [D.py, Option.some.injEq] at h3 h4; subst h3; subst h4; simp [PyData.eqv]; done)
      | (simp only [D.py, Option.some.injEq, Option.map_eq_some_iff] at h3 h4; obtain ⟨_, _, rfl⟩ := h4; subst h3; simp [PyData.eqv]; done)
  | .int i, e, p, q, _, h2, h3, h4 => by
    cases e
    all_goals first
      | (cases h2; done)
      | (simp only [D.py, Option.some.injEq] at h3 h4; subst h3; subst h4; simp [PyData.eqv]; done)
      | (simp only [D.py, Option.some.injEq, Option.map_eq_some_iff] at h3 h4; obtain ⟨_, _, rfl⟩ := h4; subst h3; simp [PyData.eqv]; done)
  | .str i, e, p, q, _, h2, h3, h4 => by
    cases e
    all_goals first
      | (cases h2; done)
      | (simp only [D.py, Option.some.injEq] at h3 h4; subst h3; subst h4; simp [PyData.eqv]; done)
      | (simp only [D.py, Option.some.injEq, Option.map_eq_some_iff] at h3 h4; obtain ⟨_, _, rfl⟩ := h4; subst h3; simp [PyData.eqv]; done)
  | .lst xs, e, p, q, h1, h2, h3, h4 => by
    simp only [D.py, Option.map_eq_some_iff] at h3
    obtain ⟨ps, h3, rfl⟩ := h3
    cases e with
    | lst ys =>
      simp only [D.py, Option.map_eq_some_iff] at h4
      obtain ⟨qs, h4, rfl⟩ := h4
      have := eqvs_gd xs ys ps qs (by simpa [D.gd] using h1) (by simpa [D.gd] using h2) h3 h4
      simp [PyData.eqv, this]
    | _ =>
      first
      | (cases h2; done)
      | (simp only [D.py, Option.some.injEq] at h4; subst h4; simp [PyData.eqv]; done)
      | (simp only [D.py, Option.some.injEq, Option.map_eq_some_iff] at h4; obtain ⟨_, _, rfl⟩ := h4; simp [PyData.eqv]; done)
  | .tup xs, e, p, q, h1, h2, h3, h4 => by
    simp only [D.py, Option.map_eq_some_iff] at h3
    obtain ⟨ps, h3, rfl⟩ := h3
    cases e with
    | tup ys =>
      simp only [D.py, Option.map_eq_some_iff] at h4
      obtain ⟨qs, h4, rfl⟩ := h4
      have := eqvs_gd xs ys ps qs (by simpa [D.gd] using h1) (by simpa [D.gd] using h2) h3 h4
      simp [PyData.eqv, this]
    | _ =>
      first
      | (cases h2; done)
      | (simp only [D.py, Option.some.injEq] at h4; subst h4; simp [PyData.eqv]; done)
      | (simp only [D.py, Option.some.injEq, Option.map_eq_some_iff] at h4; obtain ⟨_, _, rfl⟩ := h4; simp [PyData.eqv]; done)
  | .bl _, _, _, _, h, _, _, _ => by cases h
  | .fls _, _, _, _, h, _, _, _ => by cases h
  | .obj _ _, _, _, _, h, _, _, _ => by cases h
  | .dic, _, _, _, h, _, _, _ => by cases h
  | .adr _, _, _, _, h, _, _, _ => by cases h
  | .exc _ _, _, _, _, h, _, _, _ => by cases h
theorem eqvs_gd : ∀ (d e : List D) (p q : List PyData), D.gds d = true → D.gds e = true → D.pys d = some p → D.pys e = some q → (PyData.eqvAll p q = true ↔ d = e)
  | [], [], p, q, _, _, h3, h4 => by
    simp [D.pys] at h3 h4
    subst h3 h4
    simp [PyData.eqvAll]
  | [], y :: ys, p, q, _, _, h3, h4 => by
    simp [D.pys, Option.bind_eq_some_iff, Option.map_eq_some_iff] at h3 h4
    obtain ⟨a, _, b, _, rfl⟩ := h4
    subst h3
    simp [PyData.eqvAll]
  | x :: xs, [], p, q, _, _, h3, h4 => by
    simp [D.pys, Option.bind_eq_some_iff, Option.map_eq_some_iff] at h3 h4
    obtain ⟨a, _, b, _, rfl⟩ := h3
    subst h4
    simp [PyData.eqvAll]
  | x :: xs, y :: ys, p, q, h1, h2, h3, h4 => by
    simp [D.pys, Option.bind_eq_some_iff, Option.map_eq_some_iff] at h3 h4
    obtain ⟨a, g1, b, g2, rfl⟩ := h3
    obtain ⟨a', g3, b', g4, rfl⟩ := h4
    simp only [D.gds, Bool.and_eq_true] at h1 h2
    have e1 := eqv_gd x y a a' h1.1 h2.1 g1 g3
    have e2 := eqvs_gd xs ys b b' h1.2 h2.2 g2 g4
    simp [PyData.eqvAll, e1, e2]
end
theorem fEq_gd {d e : D} {Q : Bool → Prop} (hd : d.gd = true) (he : e.gd = true) (d1 : d.dep ≤ 64) (d2 : e.dep ≤ 64) (ht : d = e → Q true) (hf : d ≠ e → Q false) : fEq d e Q := by
  have key : ∃ p q, d.py = some p ∧ e.py = some q ∧ SeqAt.shaped p = true ∧ SeqAt.shaped q = true ∧ Q (PyData.eqv p q) := by
    obtain ⟨p, g1, g2, _, _, _, g3, _⟩ := gd_py d hd
    obtain ⟨q, k1, k2, _, _, _, k3, _⟩ := gd_py e he
    refine ⟨p, q, g1, k1, by simp [SeqAt.shaped, g2, g3, d1], by simp [SeqAt.shaped, k2, k3, d2], ?_⟩
    have := eqv_gd d e p q hd he g1 k1
    by_cases h : d = e
    · rw [this.mpr h]; exact ht h
    · have : PyData.eqv p q = false := Bool.eq_false_iff.mpr fun z => h (this.mp z)
      rw [this]; exact hf h
  unfold fEq
  split
  · rename_i i j
    by_cases h : i = j
    · subst h; simpa using ht rfl
    · simpa [h] using hf fun z => h (by cases z; rfl)
  · rename_i i j
    by_cases h : i = j
    · subst h; simpa using ht rfl
    · simpa [h] using hf fun z => h (by cases z; rfl)
  · cases hd
  · exact ht rfl
  · exact key
theorem fNe_gd {d e : D} {Q : Bool → Prop} (hd : d.gd = true) (he : e.gd = true) (d1 : d.dep ≤ 64) (d2 : e.dep ≤ 64) (ht : d = e → Q false) (hf : d ≠ e → Q true) : fNe d e Q := fEq_gd hd he d1 d2 ht hf
theorem eqP_gd {d e : D} (hd : d.gd = true) (he : e.gd = true) (d1 : d.dep ≤ 64) (d2 : e.dep ≤ 64) : ∃ p q, d.py = some p ∧ e.py = some q ∧ SeqAt.shaped p = true ∧ SeqAt.shaped q = true ∧ (d = e → PyData.eqv p q = true) ∧ (d ≠ e → PyData.eqv p q = false) := by
  obtain ⟨p, g1, g2, _, _, _, g3, _⟩ := gd_py d hd
  obtain ⟨q, k1, k2, _, _, _, k3, _⟩ := gd_py e he
  have := eqv_gd d e p q hd he g1 k1
  exact ⟨p, q, g1, k1, by simp [SeqAt.shaped, g2, g3, d1], by simp [SeqAt.shaped, k2, k3, d2], this.mpr, fun h => Bool.eq_false_iff.mpr fun z => h (this.mp z)⟩
theorem atI_ge {α : Type} {xs : List α} {i : Int} (h0 : 0 ≤ i) : atI xs i = xs[i.toNat]? := by
  unfold atI ixN
  rw [if_pos h0]
  by_cases h : i < xs.length
  · rw [if_pos h]; rfl
  · rw [if_neg h, List.getElem?_eq_none (by omega)]; rfl
theorem atI_end {α : Type} {xs : List α} (h : 0 < xs.length) : atI xs (-1) = xs[xs.length - 1]? := by
  unfold atI ixN
  rw [if_neg (by decide), if_pos (by omega)]
  show xs[((-1 : Int) + xs.length).toNat]? = _
  congr 1
  omega
/-- what repr asks -/
theorem repr_gd {d : D} (hd : d.gd = true) (d1 : d.dep ≤ 60) (hb : d.bk ≤ 50000) : ∃ p, d.py = some p ∧ p.showable = true ∧ p.hasDict = false ∧ p.depth ≤ 60 ∧ p.shown.length ≤ sizeLine := by
  obtain ⟨p, g1, g2, g3, g4, g5, g6, g7⟩ := gd_py d hd
  refine ⟨p, g1, g3, g4, by omega, ?_⟩
  have := PyData.shown_le_bulk 202 (by decide) p g5
  rw [sizeLine_eq]
  omega
theorem gd_ints {ns : List Int} (h : ∀ n ∈ ns, n.natAbs < 10 ^ 200) : D.gds (ns.map .int) = true := gds_iff.mpr fun x hx => by
  obtain ⟨n, h1, rfl⟩ := List.mem_map.mp hx
  exact decide_eq_true (h n h1)
theorem dep_ints (ns : List Int) : D.deps (ns.map .int) = 0 := Nat.le_zero.mp (deps_le fun x hx => by
  obtain ⟨n, h1, rfl⟩ := List.mem_map.mp hx
  exact Nat.le_refl _)
theorem int_inj {ns ms : List Int} (h : ns.map D.int = ms.map D.int) : ns = ms := (List.map_inj_right fun a b e => by cases e; rfl).mp h
end Zz

/-! The pure layer: sorted(set(xs)) of a list of ints, however many. -/
namespace Zz
open PySem PySem.Spec PyProof.Rows L2
/-- the empty set that is filled -/
abbrev setOb (w : World) : Obj := { cls := .type "set", dict := none, data := .set #[] 0 (.fresh 0 0 (!w.params.followText "set-order")) }
section
variable {Pg : Program} {w : World} {A : Around} {E : Value → Shared → Prop} {z : Shared}
set_option maxHeartbeats 3200000 in
theorem set_of_list {q : Addr} {its : Array Value} (ks : List Int) {Q : Value → Shared → Prop} (noExc : A.handled = none) (isL : z.heap.IsList q its) (areInts : IntsAre its.toList ks) (few : ks.length + 1 < scanBound)
    (fin : ∀ (g : Heap) (tk c : Nat), SetR w g z.heap.objs.size (fun j => decide (j ∈ ks)) c → c ≤ ks.length → (∀ b o, z.heap.get? b = some o → g.get? b = some o) → Q (.ref z.heap.objs.size) { z with heap := g, toks := tk }) :
    wpAny (model Pg w) A (call (.type "set") [.ref q]) Q E z := by
  have size_its : its.size = ks.length := by
    have e := IntsAre.length areInts
    rwa [Array.length_toList] at e
  have ⟨mroC, mroT, mroE⟩ := F.called_set.mro
  have madeH := F.called_set.made
  have subS := F.called_set.sub
  refine wpAny_call (codeAny_of_tree (show wpAny _ _ (callAny (.type "set") _) _ _ _ from wpAny_pure ⟨Code.quiet_builtin _ (by decide +kernel), codeAny_builtin F.entry_type_call ?_⟩))
  rw [Around.under_plain (weight_type_call_type "set" [.ref q] []) rfl]
  have notTy := F.called_set.notType
  have canC := F.called_set.canCreate
  have tyC := F.typeCall_set_1 (.ref q)
  repeat (any_goals first | assumption | wp_step)
  refine codeAny_mono (code_set_led1 (.ref q) (E := E) (Q₁ := fun obj z1 => obj = .ref z.heap.objs.size ∧ z1 = { z with heap := z.heap.push (setOb w) }) ⟨rfl, rfl⟩) fun r z1 hr => ?_
  cases r with
  | error e => exact hr
  | ok fl =>
    cases fl with
    | ret obj =>
      obtain ⟨rfl, rfl⟩ := hr
      have atS : (z.heap.push (setOb w)).get? z.heap.objs.size = some (setOb w) := Heap.get?_push_size _ rfl
      have tyS : Shared.TypeIs { z with heap := z.heap.push (setOb w) } (.ref z.heap.objs.size) "set" := ⟨_, atS, rfl⟩
      have lookI := F.called_set.init.lookup
      have bindI := F.called_set.init.bind (.ref z.heap.objs.size)
      repeat (any_goals first | assumption | wp_step)
      refine codeAny_mono (codeAny_call_builtin (R := wants (fun r z2 => r = .none ∧ ∃ g tk c, z2 = { z with heap := g, toks := tk } ∧ SetR w g z.heap.objs.size (fun j => decide (j ∈ ks)) c ∧ c ≤ ks.length ∧ ∀ b o, z.heap.get? b = some o → g.get? b = some o) E) F.called_set.init.plain F.entry_set_init (check_set_init_1 tyS ?_)) fun r2 z2 hr2 => ?_
      · obtain ⟨⟨ocls, odict, odata, oslots⟩, at1, cl1, n1, dt1⟩ := isL
        simp only at cl1 dt1
        subst cl1 dt1
        have at2 : (z.heap.push (setOb w)).get? q = some { cls := .type "list", dict := odict, data := .seq its n1, slots := oslots } := Heap.get?_push_of_some _ at1
        have sub1 := F.sub_list_set
        have sub2 := F.sub_list_frozenset
        have noD : (Value.type "list" == Value.type "dict") = false := by decide
        have isL2 : (z.heap.push (setOb w)).IsList q its := ⟨_, at2, rfl, n1, rfl⟩
        unfold Builtin.«set.__init__» noKeywords Builtin.Frozenset.updateFrom
        generalize ePI : pyIter = PI
        wp_walk
        subst ePI
        refine wpAny_pyIter_list isL2 (wpAny_bind (wpAny_runValue ?_))
        have lt1 : q < z.heap.objs.size := Heap.lt_size at1
        have noExc3 : A.in1.in1.in1.handled = none := by simp [noExc]
        have ne1 : q ≠ (z.heap.push (setOb w)).objs.size := by
          rw [Heap.size_push]
          exact Nat.ne_of_lt (Nat.lt_succ_of_lt lt1)
        have notIn : z.heap.objs.size ∉ [(z.heap.push (setOb w)).objs.size, q] := fun y => by
          rw [Heap.size_push] at y
          rcases List.mem_cons.mp y with y | y
          · exact Nat.ne_of_lt (Nat.lt_succ_self _) y
          · exact Nat.ne_of_gt lt1 (List.mem_singleton.mp y)
        have vals : ∀ (i : Nat) (v : Value), its[i]? = some v → ∃ k t, ks[i]? = some k ∧ v = .int k t := fun i v hv => by
          have hi : i < ks.length := by rw [← size_its]; exact (Array.getElem?_eq_some_iff.mp hv).1
          obtain ⟨t, e⟩ := PyProof.Rows.IntsAre.int_at areInts i v (by rw [Array.getElem?_toList]; exact hv)
          exact ⟨ks[i], t, List.getElem?_eq_getElem hi, by rw [e, List.getD_eq_getElem?_getD, List.getElem?_eq_getElem hi] <;> rfl⟩
        refine set_update_ints ((Walks.list noExc3 _ q ne1 its).toS) z.heap.objs.size notIn ks size_its few vals (its.size - 0) 0 _ (by omega) (Nat.zero_le _) ⟨⟨_, Heap.get?_push_size _ rfl, rfl, rfl⟩, isL2.push _⟩ ?start ?done
        case start => exact ⟨0, Nat.le_refl 0, setR_new_at (Heap.get?_push_of_some _ atS)⟩
        case done =>
          rintro ⟨g, g2, d2, tk2, os2⟩ c2 mv hc2 hS2
          have eg : g2 = z.gens := mv.gens
          have ed : d2 = z.drawn := mv.drawn
          have eo : os2 = z.os := mv.os
          subst eg ed eo
          refine show wpAny _ _ _ _ _ _ from wpAny_pure (show wpAny _ _ (ret Value.none) _ _ _ from ?_)
          rw [size_its] at hc2
          refine wpAny_pure ⟨rfl, g, tk2, c2, rfl, hS2, hc2, fun b o e => ?_⟩
          have lt2 : b < z.heap.objs.size := Heap.lt_size e
          refine mv.heap b o (fun y => ?_) (Heap.get?_push_of_some _ (Heap.get?_push_of_some _ e))
          rw [Heap.size_push] at y
          rcases List.mem_cons.mp y with y | y
          · exact Nat.ne_of_lt lt2 y
          · exact Nat.ne_of_lt (Nat.lt_succ_of_lt lt2) (List.mem_singleton.mp y)
      · cases r2 with
        | error e => exact hr2
        | ok fl2 =>
          cases fl2 with
          | ret r =>
            obtain ⟨rfl, g, tk, c, rfl, k1, k2, k3⟩ := hr2
            repeat (any_goals first | assumption | wp_step)
            exact fin _ _ _ k1 k2 k3
          | _ => exact hr2.elim
    | _ => exact hr.elim
end
section
variable {X : Cx}
/-- set(xs) of ints -/
def rSetLI (K : PySem.W.Frag) (w : World) : List V → Hp → VK → Prop := fun xs H Q => ∃ (a : Addr) (ks : List Int), xs = [V.ref a] ∧ SqL K H a (ks.map V.int) ∧ ks.length + 1 < scanBound ∧
  ∀ p c, c ≤ ks.length → H p = none → Q (.ref p) (upd H p (SetO w p (fun j => decide (j ∈ ks)) c))
theorem cr_setLI (hc : X.calm = true) : CallR X (.type "set") (rSetLI X.K X.w) := by
  intro pins s σ H xs us Q I r h
  obtain ⟨a, ks, rfl, hs, hn, q⟩ := h
  rw [Vals.ref1 r]
  obtain ⟨its, rv, pl, hz⟩ := I.list hs
  refine set_of_list ks (I.ok.hd hc) pl.isList (by simpa using rv.ints) hn fun g tk c R hcn k => ?_
  exact ⟨.ref s.heap.objs.size, _, I.laid (t' := tk) k (Nat.le_refl _) (setO_new R), rfl, q _ c hcn (I.hok.fresh (Nat.le_refl _))⟩
/-- sorted(a set of ints) -/
def rSortedSN (w : World) : List V → Hp → VK → Prop := fun vs H Q => ∃ (a : Addr) (S : Int → Bool) (n : Nat), vs = [V.ref a] ∧ H a = some (SetO w a S n) ∧
  ∀ (ns : List Int) (p : Addr), ns.Pairwise (· < ·) → (∀ k : Int, k ∈ ns ↔ S k = true) → H p = none → Q (.ref p) (upd H p (.lst (ns.map V.int)))
theorem cr_sortedSN (hc : X.calm = true) : CallR X (.builtin "sorted") (rSortedSN X.w) := by
  intro pins s σ H vs us Q I r h
  obtain ⟨a, S, n, rfl, ha, q⟩ := h
  have R := setO_get I ha
  rw [Vals.ref1 r]
  obtain ⟨o, es, ep, t, ho, hex, hd, g, nd, hm, hb, hf, hn, hr, hl⟩ := R
  refine Calls.call_function_entry PyProof.Rows.kind_sorted PyProof.Rows.plain_sorted PyProof.Rows.entry_sorted (PyProof.Rows.args_sorted1 _) ?_
  unfold Builtin.«sorted»
  refine wpAny_bind (m := checkCount "sorted" 1 1 _) (wpAny_pure (wpAny_bind (collect_set (A := X.A.in1) (I.ok.hd hc) ⟨o, ho, hex.1, hd⟩ hf hb hr hl fun s1 vs k1 hz g1 o1 pm => ?_)))
  have hI : IntsAre vs (vs.map Builtin.Re.reRawOf) := L2.ints_of vs fun v hv => by
    obtain ⟨e, he, y⟩ := List.mem_map.mp (pm.mem_iff.mp hv)
    obtain ⟨k, tk, h1, _⟩ := g e he
    exact ⟨k, tk, y ▸ h1⟩
  have pk : (vs.map Builtin.Re.reRawOf).Perm (es.toList.map keyOf) := by
    have y := pm.map Builtin.Re.reRawOf
    rwa [List.map_map] at y
  have few : vs.length ≤ sizeLine := by
    rw [pm.length_eq, List.length_map, Array.length_toList, sizeLine_eq]
    unfold scanBound at hb
    omega
  refine wpAny_bind (wpAny_newList ?_ few)
  have atL : (s1.heap.push (seqObj "list" vs.toArray 0)).get? s1.heap.objs.size = some (seqObj "list" vs.toArray 0) := Heap.get?_push_size _ rfl
  refine wpAny_bind (wpAny_holding (wpAny_call_entry PyProof.Rows.slot_list_sort ⟨_, atL, rfl⟩ PyProof.Rows.entry_list_sort (SrtO.list_sort_ord SrtO.swo_int atL few (fun h2 => SrtO.ints_sortable hI h2) fun out h1 h2 => ⟨_, rfl, ?_⟩) (PyProof.Rows.args_list_sort _)))
  obtain ⟨y1, y2, y3⟩ := SrtO.ints_out hI h1 h2
  obtain ⟨ep2, atO⟩ := PyProof.Rows.sortedHeap_at (vs := vs) (out := out.toArray) atL
  have pn := y2.trans pk
  have old : ∀ b u, s.heap.get? b = some u → (sortedHeap (s1.heap.push (seqObj "list" vs.toArray 0)) s1.heap.objs.size vs out.toArray).get? b = some u := fun b u e => by
    have y := k1 b u e
    have lt := Heap.lt_size y
    rw [sortedHeap_old (Nat.ne_of_lt lt) (by rw [Heap.size_push]; exact Nat.lt_succ_of_lt lt)]
    exact Heap.get?_push_of_some _ y
  have nn : H s1.heap.objs.size = none := I.hok.fresh hz
  have len : ((out.map SrtO.iv).map V.int).length ≤ sizeLine := by
    rw [List.length_map, y2.length_eq, List.length_map]
    exact few
  have ok : ObjOk X.prog X.w (upd H s1.heap.objs.size (.lst ((out.map SrtO.iv).map V.int))) (sortedHeap (s1.heap.push (seqObj "list" vs.toArray 0)) s1.heap.objs.size vs out.toArray) s1.heap.objs.size (.lst ((out.map SrtO.iv).map V.int)) := ⟨len, out, ep2, vals_of_ints y1, atO⟩
  have J : Inv X pins σ (upd H s1.heap.objs.size (.lst ((out.map SrtO.iv).map V.int))) { s with heap := sortedHeap (s1.heap.push (seqObj "list" vs.toArray 0)) s1.heap.objs.size vs out.toArray, gens := s1.gens, drawn := s1.drawn, toks := s1.toks } :=
    I.call (ch := []) (Un.laid old hz nn) (I.hok.laid old hz ok) (by rw [g1]; exact I.bare) (fun _ y => nomatch y)
  have lt3 : (out.map SrtO.iv).Pairwise (· < ·) := L2.lt_of_le_nodup _ y3 (pn.nodup_iff.mpr nd)
  have fin := q _ s1.heap.objs.size lt3 (fun k => by rw [pn.mem_iff, ← hm k]) nn
  obtain ⟨h1', g1', d1', t1', o1'⟩ := s1
  cases (show o1' = s.os from o1)
  exact wpAny_pure ⟨_, rfl, .ref _, _, J, rfl, fin⟩
end
section
variable {X : Cx} {P : Zc → Prop} {e : Expr} {te : ZE} {p p2 pos pos2 : Pos}
def zSortSet (te : ZE) : ZA := fun S Q => te S fun d S1 => match d with
  | .lst xs => ∃ ns, D.ints xs = some ns ∧ ns.length ≤ 4000 ∧ ∀ ms : List Int, ms.Pairwise (· < ·) → (∀ k, k ∈ ms ↔ k ∈ ns) → Q (ms.map .int) S1
  | _ => False
theorem reps_of_ints {K : PySem.W.Frag} {mg : Str → Option Value} {H : Hp} {av : Addr → Prop} : ∀ ns : List Int, Reps K mg H av (ns.map V.int) (ns.map D.int)
  | [] => .nil
  | n :: ns => .cons (.int n) (reps_of_ints ns)
theorem pf_sortSet {k : Nat} (C : Cd k X P) (hg : Gl X "sorted") (hm : X.mg "sorted" = none) (hg2 : Gl X "set") (hm2 : X.mg "set" = none) (ha : PD X P e te) (he : starEach [e] X.env = (false, eval e X.env) :: starEach [] X.env := by rfl)
    (he2 : starEach [.Call (.Name "set" p2) [e] [] pos2] X.env = (false, eval (.Call (.Name "set" p2) [e] [] pos2) X.env) :: starEach [] X.env := by rfl) (hpl : (backTo pos (starEach [] X.env)).any (·.1) = false := by rfl) (hpl2 : (backTo pos2 (starEach [] X.env)).any (·.1) = false := by rfl) :
    PF X P (.Call (.Name "sorted" p) [.Call (.Name "set" p2) [e] [] pos2] [] pos) (zSortSet te) := by
  obtain ⟨t0, p0, q0⟩ := ha.ex
  refine ⟨_, pe_callB (cr_sortedSN C.calm) hg hm (by decide +kernel) (pa_cons (pe_callTy (cr_setLI C.calm) hg2 hm2 (by decide +kernel) (pa_cons p0 pa_nil he) (by decide) (by decide) he hpl2) pa_nil he2) (by decide) (by decide) he2 hpl, fun Z hZ S σ H Qz Q ok h k => ?_⟩
  refine q0 Z hZ S σ H _ _ ok h fun d S1 v H1 h1 o1 f1 r1 => ?_
  split at h1
  · obtain ⟨ns, e1, e2, h2⟩ := h1
    obtain rfl := Zz.ints_of e1
    obtain ⟨a, us, rfl, h3, h4⟩ := r1.lst_inv
    obtain rfl := h4.ints
    refine ⟨a, ns, rfl, .inl (.inl h3), by unfold scanBound; omega, fun q c _ hq => ?_⟩
    have s : Same H1 (upd H1 q (SetO X.w q (fun j => decide (j ∈ ns)) c)) := Same.upd hq
    refine ⟨q, _, c, rfl, upd_same, fun ms p' hs hi hp' => ?_⟩
    have o2 := o1.same s
    exact fresh_k o2 (f1.trans (.same o1 s)) (reps_of_ints ms) (h2 ms hs fun k => by rw [hi k]; simp) k p' hp'
  · exact h1.elim
end
end Zz

/-! The pure layer: objects that are filled by their __init__ and then only read. -/
namespace Zz
open PySem PySem.Spec PyProof.Rows L2

/-! ### what __init__ does -/
def putFD (f : Str) (v : D) : List (Str × D) → List (Str × D)
  | [] => [(f, v)]
  | (g, x) :: r => if g = f then (g, v) :: r else (g, x) :: putFD f v r
section
variable {K : PySem.W.Frag} {mg : Str → Option Value} {H : Hp} {av : Addr → Prop}
theorem RepF.put {f : Str} {v : V} {d : D} (r : Rep K mg H av v d) : ∀ {vs : List (Str × V)} {fs : List (Str × D)}, RepF K mg H av vs fs → RepF K mg H av (putF f v vs) (putFD f d fs)
  | _, _, .nil => .cons r .nil
  | _, _, .cons (n := n) r' t => by
    unfold putF putFD
    by_cases h : n = f
    · rw [if_pos h, if_pos h]
      exact .cons r t
    · rw [if_neg h, if_neg h]
      exact .cons r' (RepF.put r t)
theorem RepF.length : ∀ {vs : List (Str × V)} {fs : List (Str × D)}, RepF K mg H av vs fs → vs.length = fs.length
  | _, _, .nil => rfl
  | _, _, .cons _ t => by rw [List.length_cons, List.length_cons, RepF.length t]
theorem RepF.lookup {f : Str} : ∀ {vs : List (Str × V)} {fs : List (Str × D)} {d : D}, RepF K mg H av vs fs → fs.lookup f = some d → ∃ v, vs.lookup f = some v ∧ Rep K mg H av v d
  | _, _, _, .nil, e => by cases e
  | _, _, _, .cons (n := n) r t, e => by
    rw [List.lookup_cons] at e ⊢
    cases h : f == n with
    | true => rw [h] at e; cases e; exact ⟨_, rfl, r⟩
    | false => rw [h] at e; exact RepF.lookup t e
end
theorem Frm.repF {X : Cx} {Z : Zc} {S S' : SS} {σ σ' : L2.St} {H H' : Hp} (f : Frm X Z S σ H S' σ' H') : ∀ {vs : List (Str × V)} {fs : List (Str × D)}, RepF X.K X.mg H (avs Z S σ) vs fs → RepF X.K X.mg H' (avs Z S' σ') vs fs
  | _, _, .nil => .nil
  | _, _, .cons r t => .cons (f.rp _ _ r) (f.repF t)
/-- an object apart is written -/
theorem Ok.wrX {X : Cx} {Z : Zc} {S : SS} {σ : L2.St} {H : Hp} {x : Addr} {o u : HO} (ok : Ok X Z S σ H) (hv : Z.av x) (h : H x = some u) (hm : mutb u = true) (h0 : Z.H0 x = none) : Ok X Z S σ (upd H x o) := by
  have k : Carry H (upd H x o) (avs Z S σ) (avs Z S σ) := .write h hm (.inl hv)
  refine ⟨ok.len, ok.sl.carry k fun i xs a vs h1 h2 e => ?_, ok.inj, ok.own, fun a w e n => ?_, fun a z e => ?_, ok.bag⟩
  · rw [upd_ne fun z => (ok.own i xs a h1 h2).2 (by rw [z]; exact hv)]
    exact e
  · rw [upd_ne fun z => by rw [z, h0] at e; cases e]
    exact ok.ext a w e n
  · by_cases hb : a = x
    · rw [hb, upd_same] at e; cases e
    · rw [upd_ne hb] at e
      exact ok.avd a z e
/-- readings of a body of __init__: at the object x, what follows, slots, fields -/
abbrev ZN := Addr → (List (Str × D) → Prop) → SS → List (Str × D) → Prop
structure PBd (X : Cx) (P : Zc → Prop) (C : Addr) (sts : List Stmt) (t : ZN) : Prop where
  ex : ∃ t0 : TS, PSs X sts t0 ∧ ∀ (Z : Zc), P Z → ∀ (x dx : Addr) (S : SS) (σ : L2.St) (H : Hp) (vfs : List (Str × V)) (fs : List (Str × D)) (Qb : List (Str × D) → Prop) (D0 : Ends), Ok X Z S σ H → Z.av x → Z.H0 x = none → H x = some (.ins C dx vfs) →
    RepF X.K X.mg H (avs Z S σ) vfs fs → t x Qb S fs →
    (∀ S' σ' H' vfs' fs', Qb fs' → Ok X Z S' σ' H' → H' x = some (.ins C dx vfs') → RepF X.K X.mg H' (avs Z S' σ') vfs' fs' → D0.nx σ' H') → t0 D0 σ H
section
variable {X : Cx} {P : Zc → Prop} {C : Addr} {st : Stmt} {sts : List Stmt} {t1 : ZS} {t2 : ZN} {te : ZE}
def zBnil : ZN := fun _ Q _ fs => Q fs
theorem bd_nil : PBd X P C [] zBnil := ⟨_, pss_nil, fun Z hZ x dx S σ H vfs fs Qb D0 ok hv h0 hx rf h k => k S σ H vfs fs h ok hx rf⟩
def zBst (t : ZS) (u : ZN) : ZN := fun x Q S fs => t { nx := fun S1 => u x Q S1 fs, rt := fun _ _ => False } S
theorem bd_st (h1 : PSd X P st t1) (h2 : PBd X P C sts t2) : PBd X P C (st :: sts) (zBst t1 t2) := by
  obtain ⟨t0, p0, q0⟩ := h1.ex
  obtain ⟨u0, p1, q1⟩ := h2.ex
  refine ⟨_, pss_cons p0 p1, fun Z hZ x dx S σ H vfs fs Qb D0 ok hv h0 hx rf h k => q0 Z hZ S σ H _ _ ok h ⟨fun S' σ' H' h' o f => ?_, fun _ _ _ _ _ z _ _ _ => z.elim, fun _ _ _ z _ _ => z.elim, fun _ _ _ z _ _ => z.elim⟩⟩
  exact q1 Z hZ x dx S' σ' H' vfs fs Qb D0 o hv h0 (by rw [f.pr x hv]; exact hx) (f.repF rf) h' k
def zBput (f : Str) (te : ZE) (u : ZN) : ZN := fun x Q S fs => te S fun d S1 => S1[0]? = some (.sh (.adr x)) ∧ fs.length < 1000 ∧ u x Q S1 (putFD f d fs)
theorem bd_put {f self : Str} {e : Expr} {p1 p2 pos : Pos} (c : Cls X.K C) (n : NoAttr X.K C f) (he : PD X P e te) (h2 : PBd X P C sts t2) (hN : X.N[0]? = some self := by rfl) (hv : Vis X.env.scope self := by first | exact Or.inl rfl | exact Or.inr (Or.inl rfl) | exact Or.inr (Or.inr rfl)) (hd : (self == ("__debug__" : Str)) = false := by decide)
    (hcd : (self == ("__classdict__" : Str)) = false := by decide) (hs : swapsWith e (some (.Attribute (.Name self p1) f p2)) pos.line X.env = pure false := by rfl) : PBd X P C (.Assign [.Attribute (.Name self p1) f p2] e pos :: sts) (zBput f te t2) := by
  obtain ⟨t0, p0, q0⟩ := he.ex
  obtain ⟨u0, p1', q1⟩ := h2.ex
  refine ⟨_, pss_cons (ps_fld (pe_var (i := 0) hN hv hd hcd) p0 hs) p1', fun Z hZ x dx S σ H vfs fs Qb D0 ok hav h0 hx rf h k => q0 Z hZ S σ H _ _ ok h fun d S1 v H1 h1 o1 f1 r1 => ?_⟩
  obtain ⟨g1, g2, g3⟩ := h1
  obtain ⟨w, g4, g5⟩ := o1.sl.sh 0 _ g1
  have ew : w = .ref x := by cases g5; rfl
  subst ew
  have hx1 : H1 x = some (.ins C dx vfs) := by rw [f1.pr x hav]; exact hx
  have rf1 := f1.repF rf
  refine ⟨_, g4, x, C, dx, vfs, rfl, hx1, c, n, by rw [rf1.length]; exact g2, ?_⟩
  have kc : Carry H1 (upd H1 x (.ins C dx (putF f v vfs))) (avs Z S1 σ) (avs Z S1 σ) := .write hx1 rfl (.inl hav)
  exact q1 Z hZ x dx S1 σ _ _ _ Qb D0 (o1.wrX hav hx1 rfl h0) hav h0 upd_same ((rf1.put r1).carry kc) g3 k
end

/-! ### its promise -/
def spI (K : PySem.W.Frag) (mg : Str → Option Value) (c : Str) (sp : ZSp) : Sp := fun vs H Q E => ∃ (x C dx : Addr) (av : Addr → Prop) (vr : List V) (ds : List D) (Qz : Sl → Prop) (Ez : Str → Option (Str × D) → Prop),
  vs = .ref x :: vr ∧ H x = some (.ins C dx []) ∧ mg c = some (.ref C) ∧ Reps K mg H (fun a => av a ∨ a = x) vr ds ∧ (∀ a, av a → H a ≠ none) ∧ sp ds Qz Ez ∧
  (∀ fs vfs H', Qz (.sh (.obj c fs)) → (∀ a o, H a = some o → a ≠ x → H' a = some o) → H' x = some (.ins C dx vfs) → RepF K mg H' (fun a => av a ∨ a = x) vfs fs → Q .non H') ∧
  (∀ cc f cls dd H', Ez cc f → (∀ a o, H a = some o → a ≠ x → H' a = some o) → mg cc = some cls → XF K mg av dd f H' → E cls dd H')
section
variable {Pg : Program} {w : World} {K : PySem.W.Frag} {mg : Str → Option Value} {base : Heap} {k : Nat} {x qual c : Str} {st : Stmt} {f : Addr} {fd : FuncData} {N ps : List Str}
theorem okI {sp : ZSp} {C : Addr} {t : (Str → Option (Str × D) → Prop) → ZN} (F : Fun K x qual st f fd) (S : FnScope N ps (defScope st)) (hC : mg c = some (.ref C)) (hlen : ∀ ds Qz Ez, sp ds Qz Ez → ds.length + 1 = ps.length)
    (hbody : ∀ (cdv : Value) (A : Around) (outer : List Env) (s : Shared) (H : Hp) (E : XK) (Z0 : Zc), NoBag (Sup Z0) → Cd k (cxOf (L2.CX Pg w) Pg w K mg base N qual (defScope st) f cdv A outer s H E) (Sup Z0) →
      PBd (cxOf (L2.CX Pg w) Pg w K mg base N qual (defScope st) f cdv A outer s H E) (Sup Z0) C (defBody st) (t Z0.ez))
    (hread : ∀ x ds Qz Ez, sp ds Qz Ez → t Ez x (fun fs => Qz (.sh (.obj c fs))) (startS N (.adr x :: ds)) []) : FnP Pg w K mg base (k + 1) f fd ps (spI K mg c sp) := by
  refine fnp_of F S (fun vs H Q E h => ?_) (fun cdv A outer s H vs Q E hr hgd hbs h => ?_)
  · obtain ⟨x, C, dx, av, vr, ds, Qz, Ez, rfl, _, _, r, _, h1, _⟩ := h
    rw [List.length_cons, r.length]
    exact hlen ds Qz Ez h1
  · obtain ⟨x, C', dx, av, vr, ds, Qz, Ez, rfl, hx, hc, r, hav, h1, h3, h4⟩ := h
    obtain rfl : C = C' := by rw [hC] at hc; cases hc; rfl
    let Z0 : Zc := ⟨fun a => if a = x then none else H a, fun a => av a ∨ a = x, none, Ez⟩
    have z0 : ∀ {a o}, H a = some o → a ≠ x → Z0.H0 a = some o := fun {a o} e n => by
      show (if a = x then none else H a) = some o
      rw [if_neg n]; exact e
    have Cc : Cd k (cxOf (L2.CX Pg w) Pg w K mg base N qual (defScope st) f cdv A outer s H E) (Sup Z0) := by
      refine ⟨hr, hgd, rfl, S.nd, passes_of rfl, (takes_of rfl rfl rfl rfl).imp fun cls dd σ H' q => ?_, fun Z p ⟨z1, z2, z3, z4⟩ => ⟨z1, z2, z3, fun a z => .inl (z4 a z)⟩⟩
      obtain ⟨Z, ⟨z1, z2, z3, z4⟩, cc, g, q1, q2, q3, q4⟩ := q
      rw [z3] at q1
      refine h4 cc g cls dd H' q1 (fun a o e n => q4 a o (by rw [z1]; exact z0 e n) (by rw [z2]; intro z; cases z)) q2 ?_
      unfold XF at q3 ⊢
      split at q3
      · trivial
      · obtain ⟨v, y1, y2⟩ := q3
        exact ⟨v, y1, y2.carry (.same (Same.refl H') fun a z => z4 a (.inl z))⟩
      · exact q3.elim
    obtain ⟨t0, p0, q0⟩ := (hbody cdv A outer s H E Z0 (fun Z e => e.2.1) Cc).ex
    have hav' : ∀ a, (av a ∨ a = x) → H a ≠ none := fun a z => z.elim (hav a) fun e => by rw [e, hx]; simp
    have ok0 : Ok (cxOf (L2.CX Pg w) Pg w K mg base N qual (defScope st) f cdv A outer s H E) Z0 (startS N (.adr x :: ds)) (start N (.ref x :: vr)) H := by
      have o := ok_start (N := N) (X := cxOf (L2.CX Pg w) Pg w K mg base N qual (defScope st) f cdv A outer s H E) (ez := Ez) (Reps.cons (Rep.adr x) r) hav'
      refine ⟨o.len, o.sl, o.inj, fun i xs a e1 e2 => (startS_ow e1).elim, fun a u e n => ?_, o.avd, fun b e => by cases e⟩
      have e' : (if a = x then none else H a) = some u := e
      split at e'
      · cases e'
      · exact e'
    refine ⟨t0, p0, q0 Z0 Sup.refl x dx _ _ H [] [] _ _ ok0 (.inr rfl) (if_pos rfl) hx .nil (hread x ds Qz Ez h1) fun S' σ' H' vfs' fs' q o e rf => ?_⟩
    exact h3 fs' vfs' H' q (fun a u ea n => o.ext a u (z0 ea n) (by intro z; cases z)) e (rf.carry (.same (Same.refl H') fun a z => .inl z))
end

/-! ### C(..) -/
theorem under_guards {A : Around} {C : Addr} {us : List Value} {kw : List (Str × Value)} : (A.under (.builtin "type.__call__" ⟨.ref C :: us, kw⟩)).guards = A.guards := by
  first | rfl | simp [Around.under, Code.weight, Code.isCreation, Code.isGuard, Code.isCaller, Code.frames, Code.isFrame, guardIds]
section
variable {X : Cx} {P : Zc → Prop} {k : Nat} {f C : Addr} {fd : FuncData} {ps : List Str} {sp : Sp} {E : XK} {x : Str} {p pos : Pos} {e : Expr} {es : List Expr} {t : TA} {ta : ZA}
theorem run_makeP {pins : List (Addr × Obj)} {σ : L2.St} {H : Hp} {s : Shared} {Q : VK} {us : List Value} {vs : List V} (M : Mk X.K C f) (F : FnP X.prog X.w X.K X.mg X.base k f fd ps sp) (hr : Room (k + 1) X.A) (hgd : X.A.guards = some []) (hb : Binds X.K fd ps [])
    (hx : Passes (L2.CX X.prog X.w) X E) (I : Inv X pins σ H s) (r : Vals vs us)
    (h : ∀ x dx, H x = none → H dx = none → dx ≠ x → sp (.ref x :: vs) (upd (upd H dx (.own x)) x (.ins C dx [])) (fun v H2 => v = .non ∧ Q (.ref x) H2) E) :
    wpAny (model X.prog X.w) X.A (call (.ref C) us) (EP X pins σ Q) X.xe s := by
  have q := h (s.heap.objs.size + 1) s.heap.objs.size (I.hok.fresh (Nat.le_succ _)) (I.hok.fresh (Nat.le_refl _)) (Nat.ne_of_lt (Nat.lt_succ_self _))
  have J := Inv.made (C := C) I
  have rr : Vals (V.ref (s.heap.objs.size + 1) :: vs) (Value.ref (s.heap.objs.size + 1) :: us) := .cons rfl r
  have hl : (Value.ref (s.heap.objs.size + 1) :: us).length = ps.length := by
    rw [← rr.length]
    exact F.len _ _ _ _ q
  have bd := hb _ (Value.ref (s.heap.objs.size + 1) :: us) J.kIn (by rw [List.append_nil]; exact hl)
  rw [List.append_nil] at bd
  refine wpAny_call (make_map (f := f) I.kIn M.makes M.init (beq_iff_eq.mp M.fn) (codeAny_mono (F.run _ X.stack _ _ ⟨Value.ref (s.heap.objs.size + 1) :: us, []⟩ _ _ _ E (hr.make C us []) (by rw [under_guards]; exact hgd) (J.env0.make C us []) bd rr q) fun res z hz => ?_))
  cases res with
  | error er => exact hx pins σ _ _ er z J hz
  | ok fl =>
    cases fl with
    | ret u =>
      obtain ⟨v, H', J2, rv, ev, q3⟩ := J.after hz
      subst ev
      exact ⟨rv, V.ref (s.heap.objs.size + 1), H', J2, rfl, q3⟩
    | _ => exact hz.elim
theorem pe_makeP (M : Mk X.K C f) (F : FnP X.prog X.w X.K X.mg X.base k f fd ps sp) (hr : Room (k + 1) X.A) (hgd : X.A.guards = some []) (hg : Gl X x) (hm : X.mg x = some (.ref C)) (hb : Binds X.K fd ps []) (hx : Passes (L2.CX X.prog X.w) X E)
    (ha : PA X (e :: es) t) (hdb : (x == ("__debug__" : Str)) = false := by decide) (he : starEach (e :: es) X.env = (false, eval e X.env) :: starEach es X.env := by rfl) (hpl : (backTo pos (starEach es X.env)).any (·.1) = false := by rfl) :
    PE X (.Call (.Name x p) (e :: es) [] pos) (tMake C sp [] E t) := by
  refine ⟨fun pins z σ H Q I h => wpAny_Call_Name_kw (ld_glob I hg hm (PySem.W.callWith_K (h₀ := X.base) I.ok.mod.kin M.kp (thn (ha.run pos pins z σ H _ I h) fun us s1 ⟨vs, H1, I1, r, q⟩ => ⟨I1.kIn, run_makeP M F hr hgd hb hx I1 r fun y dy h1 h2 h3 => ?_⟩) he hpl) hdb)⟩
  have := q y dy h1 h2 h3
  rwa [List.append_nil] at this
end
/-- a class with an __init__ of this promise -/
structure Kl (Pg : Program) (w : World) (K : PySem.W.Frag) (mg : Str → Option Value) (base : Heap) (k : Nat) (c : Str) (sp : ZSp) : Prop where
  ex : ∃ (C f : Addr) (fd : FuncData) (ps : List Str), mg c = some (.ref C) ∧ Mk K C f ∧ Binds K fd ps [] ∧ FnP Pg w K mg base k f fd ps (spI K mg c sp)
section
variable {X : Cx} {P : Zc → Prop} {k j : Nat} {c : Str} {p pos : Pos} {e : Expr} {es : List Expr} {ta : ZA} {sp : ZSp}
theorem dd_make (F : Kl X.prog X.w X.K X.mg X.base j c sp) (C : Cd k X P) (hg : Gl X c) (ez : Str → Option (Str × D) → Prop) (hez : ∀ Z, P Z → ∀ c g, ez c g → Z.ez c g) (ha : PAd X P (e :: es) ta) (hj : j + 1 ≤ k := by decide) (hdb : (c == ("__debug__" : Str)) = false := by decide)
    (he : starEach (e :: es) X.env = (false, eval e X.env) :: starEach es X.env := by rfl) (hpl : (backTo pos (starEach es X.env)).any (·.1) = false := by rfl) : PD X P (.Call (.Name c p) (e :: es) [] pos) (zCall sp ez ta) := by
  obtain ⟨Ca, f, fd, ps, hm, M, hb, F⟩ := F.ex
  obtain ⟨t0, p0, q0⟩ := ha.ex
  refine ⟨_, pe_makeP (E := EP2 X P) M F (Room.mono C.hr hj) C.gd hg hm hb C.hx p0 hdb he hpl, fun Z hZ S σ H Qz Q ok h kq => ?_⟩
  refine q0 Z hZ S σ H _ _ ok h fun ds S1 vs H1 h1 o1 f1 r1 => fun x dx hx hd ne => ?_
  have ax : ¬ avs Z S1 σ x := fun z => o1.avsd x z hx
  have nx : (upd H1 dx (.own x)) x = none := by rw [upd_ne (Ne.symm ne)]; exact hx
  have kc : Carry H1 (upd (upd H1 dx (.own x)) x (.ins Ca dx [])) (avs Z S1 σ) (fun a => avs Z S1 σ a ∨ a = x) :=
    ((Carry.new hd).trans (Carry.new nx)).trans (.same (Same.refl _) fun a z => z.elim (fun z => .inl (.inl z)) .inr)
  have old : ∀ {H' : Hp}, (∀ a o, (upd (upd H1 dx (.own x)) x (.ins Ca dx [])) a = some o → a ≠ x → H' a = some o) → Same H1 H' := fun {H'} s a o ea => by
    have n1 : a ≠ x := fun z => by rw [z, hx] at ea; cases ea
    have n2 : a ≠ dx := fun z => by rw [z, hd] at ea; cases ea
    exact s a o (by rw [upd_ne n1, upd_ne n2]; exact ea) n1
  rw [List.append_nil]
  refine ⟨x, Ca, dx, avs Z S1 σ, vs, ds, _, ez, rfl, upd_same, hm, r1.carry kc, fun a z e => ?_, h1, fun fs vfs H' q s hx' rf => ⟨rfl, ?_⟩, fun cc g cls dd H' q s hc hf => callE hZ o1 hez q (old s) hc hf⟩
  · have n1 : a ≠ x := fun y => ax (y ▸ z)
    have n2 : a ≠ dx := fun y => o1.avsd a z (y ▸ hd)
    rw [upd_ne n1, upd_ne n2] at e
    exact o1.avsd a z e
  · exact kq _ S1 _ H' q (o1.same (old s)) (f1.trans (.same o1 (old s))) (.obj hx' hm ax (rf.carry (.same (Same.refl H') fun a z => .inl z)))
end
end Zz

/-! The pure layer: objects: attributes, properties, isinstance, own ==. -/
namespace Zz
open PySem PySem.Spec PyProof.Rows L2

/-- what is known of an own class -/
structure Kc (K : PySem.W.Frag) (mg : Str → Option Value) (c : Str) : Prop where
  ex : ∃ C, mg c = some (.ref C) ∧ Cls K C ∧ PySem.W.findIn K (.ref C) "__class__" = some (some (.builtin "object.__class__")) ∧ PySem.W.mroIn K C (.type "object") = some true
/-- .. has no such name -/
structure Kn (K : PySem.W.Frag) (mg : Str → Option Value) (c f : Str) : Prop where
  ex : ∃ C, mg c = some (.ref C) ∧ Cls K C ∧ NoAttr K C f
/-- .. has a property, a getter of this promise -/
structure Kp (Pg : Program) (w : World) (K : PySem.W.Frag) (mg : Str → Option Value) (base : Heap) (k : Nat) (c f : Str) (sp : ZSp) : Prop where
  ex : ∃ (C p g : Addr) (fd : FuncData) (ps : List Str), mg c = some (.ref C) ∧ Cls K C ∧ PropOf K C f p g ∧ Binds K fd ps [] ∧ FnP Pg w K mg base k g fd ps (spZ K mg sp)
/-- nothing of this kind leaves -/
abbrev EXno : XK := fun _ _ _ => False
theorem passes_no {Y X : Cx} {CX : CXT} (h : ∀ (pins : List (Addr × Obj)) (σ : L2.St) (H : Hp) (s : Shared) (e : Value) (s' : Shared), Inv X pins σ H s → CX X.stack H s EXno e s' → False) : Passes CX X EXno := fun pins σ H s e s' I c => (h pins σ H s e s' I c).elim
section
variable {X : Cx} {P : Zc → Prop} {e : Expr} {pos : Pos} {va : ZV} {k j : Nat} {c f : Str}
/-- e.f -/
def zFld (c f : Str) (va : ZV) : ZE := fun S Q => va S fun dv S1 => match dv with
  | .sh (.obj c' fs) => c' = c ∧ ∃ d, fs.lookup f = some d ∧ Q d S1
  | _ => False
theorem pd_fld (h : Kn X.K X.mg c f) (ha : PV X P e va) (hb : attributeBase e f X.env (eval e X.env) = eval e X.env := by rfl) : PD X P (.Attribute e f pos) (zFld c f va) := by
  obtain ⟨C, hC, cl, n⟩ := h.ex
  obtain ⟨t0, p0, q0⟩ := ha.ex
  refine ⟨_, pe_fld p0 hb, fun Z hZ S σ H Qz Q ok h k => q0 Z hZ S σ H _ _ ok h fun dv S1 v H1 h1 o1 f1 r1 => ?_⟩
  split at h1
  · rename_i c' fs
    obtain ⟨rfl, d, h2, h3⟩ := h1
    have r1 : Rep X.K X.mg H1 (avs Z S1 σ) v (.obj c' fs) := r1
    cases r1 with
    | @obj a C2 dx _ vs _ e1 e2 e3 e4 =>
      rw [hC] at e2
      cases e2
      obtain ⟨w, e5, e6⟩ := RepF.lookup e4 h2
      exact ⟨a, C, dx, vs, w, rfl, e1, cl, n, e5, k d S1 w H1 h3 o1 f1 e6⟩
  · exact h1.elim
/-- e.f, a property -/
def zProp (c : Str) (sp : ZSp) (va : ZV) : ZE := fun S Q => va S fun dv S1 => match dv with
  | .sh (.obj c' fs) => c' = c ∧ sp [.obj c fs] (slD fun d => Q d S1) (fun _ _ => False)
  | _ => False
theorem prop_get {C p g a dx : Addr} {fs : List (Str × V)} {fd : FuncData} {ps : List Str} {sp : Sp} {pins : List (Addr × Obj)} {σ : L2.St} {H : Hp} {z : Shared} {Q : VK} {b : Bool} {E' : Value → Shared → Prop} (I : Inv X pins σ H z) (ea : H a = some (.ins C dx fs)) (cl : Cls X.K C) (hp : PropOf X.K C f p g)
    (F : FnP X.prog X.w X.K X.mg X.base k g fd ps sp) (hr : Room (k + 1) X.A) (hgd : X.A.guards = some []) (hb : Binds X.K fd ps []) (h : sp [.ref a] H Q EXno) :
    wpAny (model X.prog X.w) X.A (getAttr (.ref a) f b) (EP X pins σ Q) E' z := by
  obtain ⟨mA, O, _, _, _, _⟩ := ins_get I.hok ea
  obtain ⟨od, J, _⟩ := O.look
  obtain ⟨more, hrec⟩ := hp.rec_
  have I1 := I.tok (z.toks + 1)
  have hl : [Value.ref a].length = ps.length := F.len _ _ _ _ h
  have isC : (PySem.W.clsIn X.K C).isSome = true := by
    obtain ⟨cd, y, _⟩ := PySem.W.any_some cl.hd
    rw [y] <;> rfl
  have bd := hb { z with toks := z.toks + 1 } [.ref a] I1.kIn (by rw [List.append_nil]; exact hl)
  rw [List.append_nil] at bd
  refine PySem.W.get_bind I.kIn J (PySem.W.plainGet_of (cl.get f)).1 (PySem.W.findObj_data isC hp.at_ hp.get hp.tak) (PySem.W.plainGet_of (cl.get f)).2 (wpAny_call (PySem.W.prop_get (s := { z with toks := z.toks + 1 }) I.kIn hrec (codeAny_mono (F.run X.A.in1 X.stack _ H ⟨[.ref a], []⟩ [.ref a] [.ref a] Q EXno hr.in1 hgd I1.env0.in1 bd (.cons rfl .nil) h) fun res y hq => ?_)))
  cases res with
  | error er =>
    obtain ⟨_, _, _, _, _, _, _, _, _, _, _, _, y⟩ := hq
    exact y.elim
  | ok fl =>
    cases fl with
    | ret u =>
      obtain ⟨v, H', I3, rv, q3⟩ := I1.after hq
      show wpAny _ _ (handedOut u) _ _ _
      rw [PySem.W.handedOut_of (handed_of rv)]
      exact wpAny_pure ⟨v, H', I3, rv, q3⟩
    | _ => exact hq.elim
/-- a getter's result as data or a new list -/
theorem pd_prop {sp : ZSp} (h : Kp X.prog X.w X.K X.mg X.base j c f sp) (C : Cd k X P) (ha : PV X P e va) (hj : j + 1 ≤ k := by decide) (hb : attributeBase e f X.env (eval e X.env) = eval e X.env := by rfl) : PD X P (.Attribute e f pos) (zProp c sp va) := by
  obtain ⟨Ca, p, g, fd, ps, hC, cl, hp, bd, F⟩ := h.ex
  obtain ⟨t0, p0, q0⟩ := ha.ex
  refine ⟨fun σ H Q => t0 σ H fun x H1 => ∃ a dx fs, x = .ref a ∧ H1 a = some (.ins Ca dx fs) ∧ spZ X.K X.mg sp [.ref a] H1 Q EXno, ⟨fun pins s σ H Q I h => ?_⟩, fun Z hZ S σ H Qz Q ok h kq => q0 Z hZ S σ H _ _ ok h fun dv S1 v H1 h1 o1 f1 r1 => ?_⟩
  · refine attr_of hb (thn (p0.run pins s σ H _ I h) fun u s1 ⟨x, H1, I1, rx, a, dx, fs, ex, ea, q⟩ => ?_)
    subst ex
    obtain rfl : u = Value.ref a := rx
    exact prop_get I1 ea cl hp F (Room.mono C.hr hj) C.gd bd q
  · split at h1
    · rename_i c' fs
      obtain ⟨rfl, h2⟩ := h1
      have r1 : Rep X.K X.mg H1 (avs Z S1 σ) v (.obj c' fs) := r1
      cases r1 with
      | @obj a C2 dx _ vs _ e1 e2 e3 e4 =>
        rw [hC] at e2
        cases e2
        refine ⟨a, dx, vs, rfl, e1, avs Z S1 σ, _, _, _, .cons (.obj e1 hC e3 e4) .nil, h2, o1.avsd, fun res v H' q s r => ?_, fun _ _ _ _ _ y _ _ _ => y.elim⟩
        cases res with
        | sh d => exact kq d S1 v H' q (o1.same s) (f1.trans (.same o1 s)) r
        | ow xs =>
          obtain ⟨b, us, rfl, y1, y2, y3⟩ := r
          exact kq _ S1 _ H' q (o1.same s) (f1.trans (.same o1 s)) (CRel.fresh o1 s y1 y2 y3).1.rep
        | un => exact r.elim
    · exact h1.elim
end

/-! ### isinstance with an own class -/
structure KisO (K : PySem.W.Frag) (mg : Str → Option Value) (c : Str) (own : List (Str × Bool)) : Prop where
  ex : ∃ C, mg c = some (.ref C) ∧ (∀ n ∈ ["NoneType", "bool", "int", "str", "list", "tuple", "dict"], PySem.W.kitOne K (.type n) (.ref C) = some false) ∧
    (∀ y ∈ own, ∃ C2, mg y.1 = some (.ref C2) ∧ Cls K C2 ∧ PySem.W.findIn K (.ref C2) "__class__" = some (some (.builtin "object.__class__")) ∧ PySem.W.mroIn K C2 (.type "object") = some true ∧ PySem.W.kitOne K (.ref C2) (.ref C) = some y.2) ∧
    PySem.W.specialIn K (.builtin "object.__class__") "__get__" = some (some (.builtin "getset_descriptor.__get__")) ∧ PySem.W.takesIn K (.builtin "object.__class__") = some true
def isiO (own : List (Str × Bool)) : D → Option Bool
  | .obj c _ => own.lookup c
  | d => d.ty.map fun _ => false
def zIsiO (own : List (Str × Bool)) (va : ZV) : ZE := fun S Q => va S fun d S1 => ∃ x, asD S1 d = some x ∧ ∃ b, isiO own x = some b ∧ Q (.bl b) S1
theorem lookup_mem {α : Type} : ∀ {own : List (Str × α)} {c : Str} {b : α}, own.lookup c = some b → (c, b) ∈ own
  | (n, y) :: own, c, b, h => by
    rw [List.lookup_cons] at h
    cases e : c == n with
    | true =>
      rw [e] at h
      cases h
      rw [beq_iff_eq.mp e]
      exact List.mem_cons_self
    | false =>
      rw [e] at h
      exact List.mem_cons_of_mem _ (lookup_mem h)
section
variable {X : Cx} {P : Zc → Prop} {e : Expr} {p p2 pos : Pos} {va : ZV} {c : Str} {own : List (Str × Bool)}
theorem pd_isiO (hg : Gl X "isinstance") (hm : X.mg "isinstance" = none) (hg2 : Gl X c) (hK : KisO X.K X.mg c own) (ha : PV X P e va) (hdb : (c == ("__debug__" : Str)) = false := by decide)
    (he : starEach [e, .Name c p2] X.env = (false, eval e X.env) :: starEach [.Name c p2] X.env := by rfl) (he2 : starEach [.Name c p2] X.env = (false, eval (.Name c p2) X.env) :: starEach [] X.env := by rfl)
    (hpl : (backTo pos (starEach [.Name c p2] X.env)).any (·.1) = false := by rfl) : PD X P (.Call (.Name "isinstance" p) [e, .Name c p2] [] pos) (zIsiO own va) := by
  obtain ⟨C, hC, h1, h2, h3, h4⟩ := hK.ex
  obtain ⟨t0, p0, q0⟩ := ha.ex
  refine ⟨_, pe_callB call_isi hg hm (by decide +kernel) (pa_cons p0 (pa_cons (pe_glob (v := .ref C) hg2 hC rfl hdb) pa_nil he2) he) (by decide) (by decide) he hpl, fun Z hZ S σ H Qz Q ok h k => q0 Z hZ S σ H _ _ ok h fun d S1 v H1 g1 o1 f1 r1 => ?_⟩
  obtain ⟨x, g2, b, g3, g4⟩ := g1
  have r := asD_rep o1 r1 g2
  have fin := k _ S1 _ H1 g4 o1 f1 (.bl b)
  have blt : ∀ n, x.ty = some n → b = false → rIsi X.K [v, .ref C] H1 Q := fun n e1 e2 => by
    subst e2
    exact ⟨v, .ref C, _, _, _, rfl, .own C, rep_ty r e1, h1 n (ty_mem e1), fin⟩
  cases x with
  | obj c' fs =>
    cases r with
    | @obj a C2 dx _ vs _ e1 e2 e3 e4 =>
      obtain ⟨C3, y1, y2, y3, y4, y5⟩ := h2 _ (lookup_mem g3)
      simp only at y1 y5
      rw [y1] at e2
      cases e2
      exact ⟨_, .ref C, _, _, _, rfl, .own C, .base (.ins e1 y2 y3 h3 h4 y4), y5, fin⟩
  | adr a => cases g3
  | exc _ _ => cases g3
  | non => exact blt _ rfl (by cases g3; rfl)
  | bl _ => exact blt _ rfl (by cases g3; rfl)
  | int _ => exact blt _ rfl (by cases g3; rfl)
  | str _ => exact blt _ rfl (by cases g3; rfl)
  | lst _ => exact blt _ rfl (by cases g3; rfl)
  | tup _ => exact blt _ rfl (by cases g3; rfl)
  | fls _ => exact blt _ rfl (by cases g3; rfl)
  | dic => exact blt _ rfl (by cases g3; rfl)
end

/-! ### == by an own __eq__ -/
/-- what is known of a class that has its own __eq__ -/
structure Ke (Pg : Program) (w : World) (K : PySem.W.Frag) (mg : Str → Option Value) (base : Heap) (k : Nat) (c : Str) (sp : ZSp) : Prop where
  ex : ∃ (C f : Addr) (fd : FuncData) (ps : List Str), mg c = some (.ref C) ∧ Cls K C ∧ PySem.W.findIn K (.ref C) "__eq__" = some (some (.ref f)) ∧ PySem.W.isFn K (.ref f) = true ∧ Binds K fd ps [] ∧ FnP Pg w K mg base k f fd ps (spZ K mg sp) ∧
    (∀ n ∈ ["NoneType", "bool", "int", "str", "list", "tuple", "dict"], PySem.W.notFirst K C (.type n) = true) ∧ PySem.W.findIn K (.ref C) "__ne__" = some (some (.builtin "object.__ne__")) ∧ PySem.W.mroIn K C (.type "object") = some true
def rOwnEq (K : PySem.W.Frag) (mg : Str → Option Value) (C : Addr) (sp : ZSp) : R2 := fun x y H Q => ∃ a dx fs, x = .ref a ∧ H a = some (.ins C dx fs) ∧ (∃ t, (TyX K H y t ∧ PySem.W.notFirst K C t = true) ∨ (∃ b dy gs, y = .ref b ∧ H b = some (.ins C dy gs))) ∧
  spZ K mg sp [x, y] H (fun v H' => ∃ b, v = .bl b ∧ Q (.bl b) H') EXno
section
variable {X : Cx} {P : Zc → Prop} {a b : Expr} {pos : Pos} {va vb : ZV} {k j : Nat} {c : Str} {sp : ZSp}
theorem op_ownEq {C f : Addr} {fd : FuncData} {ps : List Str} (hr : Room k X.A) (hgd : X.A.guards = some []) (hs : PySem.W.findIn X.K (.ref C) "__eq__" = some (some (.ref f))) (hf : PySem.W.isFn X.K (.ref f) = true) (hb : Binds X.K fd ps [])
    (F : FnP X.prog X.w X.K X.mg X.base k f fd ps (spZ X.K X.mg sp)) : OpR X (compareOp .Eq) (rOwnEq X.K X.mg C sp) := by
  intro pins z σ H x y v u Q I rx ry h
  obtain ⟨a, dx, fs, rfl, ha, hy, hq⟩ := h
  cases rx
  obtain ⟨mA, J, _⟩ := ins_get I.hok ha
  obtain ⟨od, J, _⟩ := J.look
  obtain ⟨m, hF⟩ := I.fr
  obtain ⟨tb, lk, nf⟩ : ∃ tb, PySem.W.Looks (model X.prog X.w) z.heap (typeOf u) tb ∧ PySem.W.notFirst X.K C tb = true := by
    obtain ⟨t, h | ⟨b, dy, gs, rfl, hb'⟩⟩ := hy
    · obtain ⟨Pz, Kx, pz, _⟩ := kit_of I ry h.1
      exact ⟨t, Kx.ty _ _ I.kIn pz, h.2⟩
    · cases ry
      obtain ⟨mB, J', _⟩ := ins_get I.hok hb'
      obtain ⟨od', J', _⟩ := J'.look
      exact ⟨.ref C, J'.type, by simp [PySem.W.notFirst]⟩
  refine show wpAny (model X.prog X.w) X.A (richCompare .Eq _ u) (EP X pins σ Q) X.xe z from PySem.W.cmp_K (op := .Eq) hr.units0 hF I.ok.mod.kin J lk nf hs hf ?_
  have rr : Vals [V.ref a, y] [Value.ref a, u] := .cons rfl (.cons ry .nil)
  have hl : [Value.ref a, u].length = ps.length := F.len _ _ _ _ hq
  have bd := hb z [.ref a, u] I.kIn (by rw [List.append_nil]; exact hl)
  rw [List.append_nil] at bd
  refine wpAny_call (codeAny_mono (F.run X.A X.stack z H ⟨[.ref a, u], []⟩ _ _ _ EXno hr hgd I.env0 bd rr hq) fun res z' hz => ?_)
  cases res with
  | error er =>
    obtain ⟨_, _, _, _, _, _, _, _, _, _, _, _, y⟩ := hz
    exact y.elim
  | ok fl =>
    cases fl with
    | ret w =>
      obtain ⟨v, H', I', rz, bb, rfl, ez⟩ := I.after hz
      cases rz
      exact ⟨.bl bb, H', I', rfl, ez⟩
    | _ => exact hz.elim
/-- one == other, one of an own class; the other is data that stands where it is -/
def zOwnEq (c : Str) (sp : ZSp) (ta tb : ZE) : ZE := fun S Q => ta S fun d S1 => tb S1 fun e S2 => match d with
  | .obj c' fs => c' = c ∧ (match e with | .obj c2 _ => c2 = c | e => e.ty.isSome = true) ∧ sp [d, e] (fun r => ∃ b, r = .sh (.bl b) ∧ Q (.bl b) S2) (fun _ _ => False)
  | _ => False
theorem pd_ownEq {ta tb : ZE} (h : Ke X.prog X.w X.K X.mg X.base j c sp) (C : Cd k X P) (ha : PD X P a ta) (hb : PD X P b tb) (hj : j ≤ k := by decide) (hm : behindInMarks .Eq b = false := by rfl) : PD X P (.Compare a [.Eq] [b] pos) (zOwnEq c sp ta tb) := by
  obtain ⟨Ca, f, fd, ps, hC, cl, hs, hf, bd, F, hn, _⟩ := h.ex
  obtain ⟨t0, p0, q0⟩ := ha.ex
  obtain ⟨t1, p1, q1⟩ := hb.ex
  refine ⟨_, pe_cmpR (op_ownEq C.hr C.gd hs hf bd (F.mono hj)) p0 p1 hm, fun Z hZ S σ H Qz Q ok h kq => ?_⟩
  refine q0 Z hZ S σ H _ _ ok h fun d S1 v H1 h1 o1 f1 r1 => q1 Z hZ S1 σ H1 _ _ o1 h1 fun e S2 u H2 h2 o2 f2 r2 => ?_
  have r1 := f2.rp _ _ r1
  split at h2
  · rename_i c' fs
    obtain ⟨rfl, h3, h4⟩ := h2
    have r0 := r1
    cases r1 with
    | @obj x C2 dx _ vs _ e1 e2 e3 e4 =>
      rw [hC] at e2
      cases e2
      refine ⟨x, dx, vs, rfl, e1, ?_, avs Z S2 σ, _, _, _, .cons r0 (.cons r2 .nil), h4, o2.avsd, fun res w H' q s r => ?_, fun _ _ _ _ _ y _ _ _ => y.elim⟩
      · split at h3
        · rename_i c2 gs
          subst h3
          cases r2 with
          | @obj y C3 dy _ us _ y1 y2 y3 y4 =>
            rw [hC] at y2
            cases y2
            exact ⟨.ref Ca, .inr ⟨y, dy, us, rfl, y1⟩⟩
        · cases e5 : e.ty with
          | none => rw [e5] at h3; cases h3
          | some n =>
            have r2' : Rep X.K X.mg H2 (fun _ => False) u e := r2.carry (.same (Same.refl H2) fun _ y => y.elim)
            exact ⟨.type n, .inl ⟨rep_ty r2' e5, hn n (ty_mem e5)⟩⟩
      · obtain ⟨bb, rfl, q⟩ := q
        cases r
        exact ⟨bb, rfl, kq _ S2 _ H' q (o2.same s) ((f1.trans f2).trans (.same o2 s)) (.bl bb)⟩
  · exact h2.elim
end
end Zz

/-! The pure layer: != by an own __eq__. -/
namespace Zz
open PySem PySem.Spec PyProof.Rows L2
section
variable {prog : Program} {w : World} {A : Around} {E : Value → Shared → Prop} {z : Shared} {K : PySem.W.Frag} {x C f L : Addr} {ox : Obj} {od : Option Obj} {b tb : Value} {h₀ : Heap} {m : Str → Option Value}
/-- a built-in slot of an own object, bound and called -/
theorem slot_own {M : Model} {self : Value} {name : PySem.Str} {id : String} {args : List Value} {Q : Option Value → Shared → Prop} (sp : PySem.W.Looks M z.heap (specialOf self name) (some (.builtin id))) (bd : bindSpecial (.builtin id) self = pure (.builtin id, [self]))
    (go : wpAny M A (call (.builtin id) ([self] ++ args)) (fun v => Q (some v)) E z) : wpAny M A (callSpecialIfBound? self name args) Q E z := by
  have last : wpAny M A (call (.builtin id) ([self] ++ args) >>= fun v => pure (some v)) Q E z := wpAny_bind (wpAny_mono go (fun _ _ y => wpAny_pure y) fun _ _ y => y)
  unfold callSpecialIfBound? bindSpecialIfBound?
  refine wpAny_holding (wpAny_bind (wpAny_bind (sp.here (wpAny_bind (wpAny_askSetting (wpAny_ite ?_))))))
  split
  · exact wpAny_bind (wpAny_of_eq bd (wpAny_pure (by exact last)))
  · exact wpAny_tryCatch (wpAny_bind (wpAny_of_eq bd (wpAny_pure (by exact last))))
theorem ne_entry (hu : A.units < cLine) (KI : K.In z.heap) (I : PySem.W.InstAt z.heap x ox C od) (hs : PySem.W.findIn K (.ref C) "__eq__" = some (some (.ref f))) (hf : PySem.W.isFn K (.ref f) = true) {Q : Fin → Shared → Prop}
    (go : wpAny (model prog w) A (call (.ref f) [.ref x, b]) (fun v s' => ∃ r, v = .bool r ∧ Q (.done (.ret (.bool (!r)))) s') E z) : wpAny (model prog w) A (Builtin.«object.__ne__» ⟨[.ref x, b], []⟩) Q E z := by
  obtain ⟨hh, g, d, t, os⟩ := z
  unfold Builtin.«object.__ne__»
  repeat (first
    | with_reducible refine wpAny_cRoomFor hu ?_
    | (refine wpAny_bind (m := callSpecialIfBound? (.ref x) (Str.ofString "__eq__") [b])
        (PySem.W.ifBound_K KI I hs hf (wpAny_mono go (fun r s' hr => by
          obtain ⟨y, rfl, q⟩ := hr
          repeat (first | exact q | exact wpAny_pure q | exact wpAny_truthy_bool q | (refine wpAny_bind (m := truthy (.bool _)) (wpAny_truthy_bool ?_)) | wp_step)) fun _ _ y => y)))
    | wp_step)
theorem ne_K {Q : Value → Shared → Prop} (hu : A.units + 1 < cLine) (F : Fr h₀ L z.heap m) (K0 : K.In h₀) (I : PySem.W.InstAt z.heap x ox C od) (hb : PySem.W.Looks (model prog w) z.heap (typeOf b) tb) (nf : PySem.W.notFirst K C tb = true)
    (hne : PySem.W.findIn K (.ref C) "__ne__" = some (some (.builtin "object.__ne__"))) (hs : PySem.W.findIn K (.ref C) "__eq__" = some (some (.ref f))) (hf : PySem.W.isFn K (.ref f) = true) (hm : PySem.W.mroIn K C (.type "object") = some true)
    (go : wpAny (model prog w) A.in1 (call (.ref f) [.ref x, b]) (fun v s' => ∃ r, v = .bool r ∧ Q (.bool (!r)) s') E z) : wpAny (model prog w) A (richCompare .NotEq (.ref x) b) Q E z := by
  have KI := K0.keeps F.keep
  have sp : PySem.W.Looks (model prog w) z.heap (specialOf (.ref x) "__ne__") (some (.builtin "object.__ne__")) := I.type.andThen (PySem.W.looks_findIn KI hne)
  have iv : PySem.W.Looks (model prog w) z.heap (isInstance (.ref x) (.type "object")) true := I.type.andThen (PySem.W.looks_mroIn KI hm)
  have one : wpAny (model prog w) A (tryCompare (.ref x) (cmpInfo .NotEq).2.1 b) (fun r s' => ∃ v, r = some v ∧ Q v s') E z := by
    unfold tryCompare
    refine wpAny_bind (slot_own sp (PySem.F.slot_object_ne.bind _) (wpAny_call (codeAny_call_builtin PySem.F.slot_object_ne.plain PySem.F.entry_object_ne (@PySem.W.check_slot (model prog w) _ _ _ "object.__ne__" "object" "__ne__" (.ref x) [b] [] _ (by decide +kernel) (by decide +kernel) iv (PySem.F.args_object_ne_2 _ _) ?_))))
    refine ne_entry (A := A.in1) hu KI I hs hf (wpAny_mono go (fun v s' hv => ?_) fun _ _ e => e)
    obtain ⟨r, rfl, q⟩ := hv
    exact ⟨r, rfl, wpAny_pure ⟨_, rfl, q⟩⟩
  unfold richCompare
  simp only [oneThing_ref]
  refine wpAny_holding (wpAny_bind (wpAny_cRoomFor (Nat.lt_of_succ_lt hu) (wpAny_bind (I.type.here (wpAny_bind (hb.here ?_))))))
  split
  · rename_i q
    have e : PySem.W.subIn K tb (.ref C) = some false := by
      rcases Bool.or_eq_true_iff.mp nf with e | e
      · rw [beq_iff_eq.mp e] at q
        simp at q
      · exact beq_iff_eq.mp e
    refine wpAny_bind ((PySem.W.looks_subIn KI e).here ?_)
    simp only [Bool.false_eq_true, if_false]
    refine wpAny_bind (wpAny_mono one (fun r s' y => ?_) fun _ _ e => e)
    obtain ⟨v, rfl, hq⟩ := y
    exact wpAny_pure hq
  · refine wpAny_bind (wpAny_pure ?_)
    simp only [Bool.false_eq_true, if_false]
    refine wpAny_bind (wpAny_mono one (fun r s' y => ?_) fun _ _ e => e)
    obtain ⟨v, rfl, hq⟩ := y
    exact wpAny_pure hq
end
section
variable {X : Cx} {P : Zc → Prop} {a b : Expr} {pos : Pos} {k j : Nat} {c : Str} {sp : ZSp}
def rOwnNe (K : PySem.W.Frag) (mg : Str → Option Value) (C : Addr) (sp : ZSp) : R2 := fun x y H Q => rOwnEq K mg C sp x y H fun v H' => ∃ b, v = .bl b ∧ Q (.bl (!b)) H'
theorem op_ownNe {C f : Addr} {fd : FuncData} {ps : List Str} (hr : Room (k + 1) X.A) (hgd : X.A.guards = some []) (hs : PySem.W.findIn X.K (.ref C) "__eq__" = some (some (.ref f))) (hf : PySem.W.isFn X.K (.ref f) = true) (hb : Binds X.K fd ps [])
    (F : FnP X.prog X.w X.K X.mg X.base k f fd ps (spZ X.K X.mg sp)) (hne : PySem.W.findIn X.K (.ref C) "__ne__" = some (some (.builtin "object.__ne__"))) (hm : PySem.W.mroIn X.K C (.type "object") = some true) : OpR X (compareOp .NotEq) (rOwnNe X.K X.mg C sp) := by
  intro pins z σ H x y v u Q I rx ry h
  obtain ⟨a, dx, fs, rfl, ha, hy, hq⟩ := h
  cases rx
  obtain ⟨mA, J, _⟩ := ins_get I.hok ha
  obtain ⟨od, J, _⟩ := J.look
  obtain ⟨m, hF⟩ := I.fr
  obtain ⟨tb, lk, nf⟩ : ∃ tb, PySem.W.Looks (model X.prog X.w) z.heap (typeOf u) tb ∧ PySem.W.notFirst X.K C tb = true := by
    obtain ⟨t, h | ⟨b, dy, gs, rfl, hb'⟩⟩ := hy
    · obtain ⟨Pz, Kx, pz, _⟩ := kit_of I ry h.1
      exact ⟨t, Kx.ty _ _ I.kIn pz, h.2⟩
    · cases ry
      obtain ⟨mB, J', _⟩ := ins_get I.hok hb'
      obtain ⟨od', J', _⟩ := J'.look
      exact ⟨.ref C, J'.type, by simp [PySem.W.notFirst]⟩
  refine show wpAny (model X.prog X.w) X.A (richCompare .NotEq _ u) (EP X pins σ Q) X.xe z from ne_K (hu_of hr) hF I.ok.mod.kin J lk nf hne hs hf hm ?_
  have rr : Vals [V.ref a, y] [Value.ref a, u] := .cons rfl (.cons ry .nil)
  have hl : [Value.ref a, u].length = ps.length := F.len _ _ _ _ hq
  have bd := hb z [.ref a, u] I.kIn (by rw [List.append_nil]; exact hl)
  rw [List.append_nil] at bd
  refine wpAny_call (codeAny_mono (F.run X.A.in1 X.stack z H ⟨[.ref a, u], []⟩ _ _ _ EXno hr.in1 hgd I.env0.in1 bd rr hq) fun res z' hz => ?_)
  cases res with
  | error er =>
    obtain ⟨_, _, _, _, _, _, _, _, _, _, _, _, y⟩ := hz
    exact y.elim
  | ok fl =>
    cases fl with
    | ret w =>
      obtain ⟨v, H', I', rz, bb, rfl, b2, e2, ez⟩ := I.after hz
      cases e2
      cases rz
      exact ⟨bb, rfl, .bl (!bb), H', I', rfl, ez⟩
    | _ => exact hz.elim
def zOwnNe (c : Str) (sp : ZSp) (ta tb : ZE) : ZE := fun S Q => zOwnEq c sp ta tb S fun d S1 => match d with
  | .bl b => Q (.bl (!b)) S1
  | _ => False
theorem pd_ownNe {ta tb : ZE} (h : Ke X.prog X.w X.K X.mg X.base j c sp) (C : Cd k X P) (ha : PD X P a ta) (hb : PD X P b tb) (hj : j + 1 ≤ k := by decide) (hm : behindInMarks .NotEq b = false := by rfl) : PD X P (.Compare a [.NotEq] [b] pos) (zOwnNe c sp ta tb) := by
  obtain ⟨Ca, f, fd, ps, hC, cl, hs, hf, bd, F, hn, hne, hmr⟩ := h.ex
  obtain ⟨t0, p0, q0⟩ := ha.ex
  obtain ⟨t1, p1, q1⟩ := hb.ex
  refine ⟨_, pe_cmpR (op_ownNe (k := k - 1) (by rw [show k - 1 + 1 = k by omega]; exact C.hr) C.gd hs hf bd (F.mono (by omega)) hne hmr) p0 p1 hm, fun Z hZ S σ H Qz Q ok h kq => ?_⟩
  refine q0 Z hZ S σ H _ _ ok h fun d S1 v H1 h1 o1 f1 r1 => q1 Z hZ S1 σ H1 _ _ o1 h1 fun e S2 u H2 h2 o2 f2 r2 => ?_
  have r1 := f2.rp _ _ r1
  split at h2
  · rename_i c' fs
    obtain ⟨rfl, h3, h4⟩ := h2
    have r0 := r1
    cases r1 with
    | @obj x C2 dx _ vs _ e1 e2 e3 e4 =>
      rw [hC] at e2
      cases e2
      refine ⟨x, dx, vs, rfl, e1, ?_, avs Z S2 σ, _, _, _, .cons r0 (.cons r2 .nil), h4, o2.avsd, fun res w H' q s r => ?_, fun _ _ _ _ _ y _ _ _ => y.elim⟩
      · split at h3
        · rename_i c2 gs
          subst h3
          cases r2 with
          | @obj y C3 dy _ us _ y1 y2 y3 y4 =>
            rw [hC] at y2
            cases y2
            exact ⟨.ref Ca, .inr ⟨y, dy, us, rfl, y1⟩⟩
        · cases e5 : e.ty with
          | none => rw [e5] at h3; cases h3
          | some n =>
            have r2' : Rep X.K X.mg H2 (fun _ => False) u e := r2.carry (.same (Same.refl H2) fun _ y => y.elim)
            exact ⟨.type n, .inl ⟨rep_ty r2' e5, hn n (ty_mem e5)⟩⟩
      · obtain ⟨bb, rfl, q⟩ := q
        cases r
        exact ⟨bb, rfl, bb, rfl, kq _ S2 _ H' q (o2.same s) ((f1.trans f2).trans (.same o2 s)) (.bl (!bb))⟩
  · exact h2.elim
end
end Zz

/-! The pure layer: max of a tuple; own == and != as tests. -/
namespace Zz
open PySem PySem.Spec PyProof.Rows L2
section
variable {prog : Program} {w : World} {A : Around} {E : Value → Shared → Prop} {z : Shared} {q : Addr} {ns : List Int} {its : List Value}
theorem max_tupV {xs : Array (Int × Tok)} {Q : Value → Shared → Prop} (noExc : A.handled = none) (isT : z.heap.IsTuple q (intItems xs)) (some0 : 0 < xs.size)
    (fin : ∀ v g tk, (intItems xs)[argBest (fun i j => decide (numAt xs i > numAt xs j)) (xs.size - 1)]? = some v → (∀ b o, z.heap.get? b = some o → g.get? b = some o) → Q v { z with heap := g, toks := tk }) :
    wpAny (model prog w) A (call (.builtin "max") [.ref q]) Q E z := by
  refine call_max_walk (wpAny_pyIter_tuple isT ?_)
  have lt : q < z.heap.objs.size := by
    obtain ⟨o, e, _⟩ := isT
    exact Heap.lt_size e
  refine ⟨_, _, _, _, _, _, _, rfl, Walks.tuple (A := A.in1) noExc _ q (Nat.ne_of_lt lt) (intItems xs), ⟨⟨_, Heap.get?_push_size _ rfl, rfl, rfl⟩, isT.push _⟩, fun b hb => ?_, by simpa [intItems] using some0, CmpOf.ints_gt (numAt xs) (fun _ _ => intItems_at), fun v g tk hP hk => ?_⟩
  · rw [Heap.size_push]
    rcases List.mem_cons.mp hb with y | y
    · rw [y]; exact Nat.lt_succ_self _
    · rw [List.mem_singleton.mp y]; exact Nat.lt_succ_of_lt lt
  · refine fin v g tk (by simpa [intItems] using hP) fun b o e => hk b o (fun y => ?_) (Heap.get?_push_of_some _ e)
    have := List.mem_singleton.mp y
    exact Nat.ne_of_lt (Heap.lt_size e) this
theorem max_tup {Q : Value → Shared → Prop} (noExc : A.handled = none) (isT : z.heap.IsTuple q its.toArray) (hi : IntsAre its ns) (some0 : 0 < ns.length)
    (fin : ∀ g tk M t, (∀ b o, z.heap.get? b = some o → g.get? b = some o) → M ∈ ns → (∀ a, a ∈ ns → a ≤ M) → Q (.int M t) { z with heap := g, toks := tk }) : wpAny (model prog w) A (call (.builtin "max") [.ref q]) Q E z := by
  obtain ⟨xs, e⟩ := hi.allInts.items
  have hn : numsOf (intItems xs).toList = ns := by
    rw [← e]
    exact hi.numsOf
  rw [nums_intItems] at hn
  subst hn
  rw [e] at isT
  refine max_tupV noExc isT (by simpa using some0) fun v g tk hv hk => ?_
  obtain ⟨t, rfl⟩ := intItems_at hv
  obtain ⟨g1, g2⟩ := argBest_gt (numAt xs) (xs.size - 1)
  have some1 : 0 < xs.size := by simpa using some0
  refine fin g tk _ t hk ?_ fun a ha => ?_
  · rw [numAt_eq]
    exact PySem.getD_mem (by rw [List.length_map, Array.length_toList]; omega)
  · obtain ⟨j, hj, rfl⟩ := mem_getD ha
    rw [List.length_map, Array.length_toList] at hj
    rw [← numAt_eq]
    exact g2 j (by omega)
end
section
variable {X : Cx}
def rMaxTu (K : PySem.W.Frag) : List V → Hp → VK → Prop := fun vs H Q => ∃ (a : Addr) (ns : List Int), vs = [V.ref a] ∧ SqT K H a (ns.map V.int) ∧ 0 < ns.length ∧ ∀ m, m ∈ ns → (∀ y, y ∈ ns → y ≤ m) → Q (.int m) H
theorem cr_maxTu (hc : X.calm = true) : CallR X (.builtin "max") (rMaxTu X.K) := by
  intro pins s σ H vs us Q I r h
  obtain ⟨a, ns, rfl, hs, hne, q⟩ := h
  obtain ⟨its, rv, pl, _⟩ := I.tuple hs
  rw [Vals.ref1 r]
  exact max_tup (I.ok.hd hc) (show s.heap.IsTuple a its.toArray from pl) rv.ints hne fun g tk m t hk h1 h2 => ⟨.int _, H, I.kept hk, ⟨_, rfl⟩, q m h1 h2⟩
def fMaxTu : ZB := fun ds Q => match ds with
  | [.tup xs] => ∃ ns, D.ints xs = some ns ∧ 0 < ns.length ∧ ∀ m, m ∈ ns → (∀ y, y ∈ ns → y ≤ m) → Q (.int m)
  | _ => False
theorem bz_maxTu {K : PySem.W.Frag} {mg : Str → Option Value} : BltZ K mg (rMaxTu K) fMaxTu := by
  intro H av vs ds Qd Q _ r h k
  unfold fMaxTu at h
  split at h
  · obtain ⟨v, rfl, r1⟩ := reps1 r
    obtain ⟨bs, h1, h2, h5⟩ := h
    obtain rfl := Zz.ints_of h1
    obtain ⟨a, us, rfl, h3, h4⟩ := r1.tup_inv
    obtain rfl := h4.ints
    exact ⟨a, bs, rfl, h3, h2, fun m hm hle => k _ _ H (h5 m hm hle) (Same.refl H) (.int _)⟩
  · exact h.elim
end
section
variable {X : Cx} {P : Zc → Prop} {a b : Expr} {pos : Pos} {k j : Nat} {c : Str} {sp : ZSp}
theorem pt_ownEq {ta tb : ZE} (h : Ke X.prog X.w X.K X.mg X.base j c sp) (C : Cd k X P) (ha : PD X P a ta) (hb : PD X P b tb) (hj : j ≤ k := by decide) (hm : behindInMarks .Eq b = false := by rfl) : PTd X P (.Compare a [.Eq] [b] pos) (zB (zOwnEq c sp ta tb)) := by
  obtain ⟨Ca, f, fd, ps, hC, cl, hs, hf, bd, F, hn, _⟩ := h.ex
  obtain ⟨t0, p0, q0⟩ := ha.ex
  obtain ⟨t1, p1, q1⟩ := hb.ex
  refine ⟨_, pt_cmpR (op_ownEq C.hr C.gd hs hf bd (F.mono hj)) p0 p1 hm, fun Z hZ S σ H Qz Q ok h kq => ?_⟩
  refine q0 Z hZ S σ H _ _ ok h fun d S1 v H1 h1 o1 f1 r1 => q1 Z hZ S1 σ H1 _ _ o1 h1 fun e S2 u H2 h2 o2 f2 r2 => ?_
  have r1 := f2.rp _ _ r1
  split at h2
  · rename_i c' fs
    obtain ⟨rfl, h3, h4⟩ := h2
    have r0 := r1
    cases r1 with
    | @obj x C2 dx _ vs _ e1 e2 e3 e4 =>
      rw [hC] at e2
      cases e2
      refine ⟨x, dx, vs, rfl, e1, ?_, avs Z S2 σ, _, _, _, .cons r0 (.cons r2 .nil), h4, o2.avsd, fun res w H' q s r => ?_, fun _ _ _ _ _ y _ _ _ => y.elim⟩
      · split at h3
        · rename_i c2 gs
          subst h3
          cases r2 with
          | @obj y C3 dy _ us _ y1 y2 y3 y4 =>
            rw [hC] at y2
            cases y2
            exact ⟨.ref Ca, .inr ⟨y, dy, us, rfl, y1⟩⟩
        · cases e5 : e.ty with
          | none => rw [e5] at h3; cases h3
          | some n =>
            have r2' : Rep X.K X.mg H2 (fun _ => False) u e := r2.carry (.same (Same.refl H2) fun _ y => y.elim)
            exact ⟨.type n, .inl ⟨rep_ty r2' e5, hn n (ty_mem e5)⟩⟩
      · obtain ⟨bb, rfl, q⟩ := q
        cases r
        exact ⟨bb, rfl, bb, rfl, kq bb S2 H' q (o2.same s) ((f1.trans f2).trans (.same o2 s))⟩
  · exact h2.elim
theorem pt_ownNe {ta tb : ZE} (h : Ke X.prog X.w X.K X.mg X.base j c sp) (C : Cd k X P) (ha : PD X P a ta) (hb : PD X P b tb) (hj : j + 1 ≤ k := by decide) (hm : behindInMarks .NotEq b = false := by rfl) : PTd X P (.Compare a [.NotEq] [b] pos) (zB (zOwnNe c sp ta tb)) := by
  obtain ⟨Ca, f, fd, ps, hC, cl, hs, hf, bd, F, hn, hne, hmr⟩ := h.ex
  obtain ⟨t0, p0, q0⟩ := ha.ex
  obtain ⟨t1, p1, q1⟩ := hb.ex
  refine ⟨_, pt_cmpR (op_ownNe (k := k - 1) (by rw [show k - 1 + 1 = k by omega]; exact C.hr) C.gd hs hf bd (F.mono (by omega)) hne hmr) p0 p1 hm, fun Z hZ S σ H Qz Q ok h kq => ?_⟩
  refine q0 Z hZ S σ H _ _ ok h fun d S1 v H1 h1 o1 f1 r1 => q1 Z hZ S1 σ H1 _ _ o1 h1 fun e S2 u H2 h2 o2 f2 r2 => ?_
  have r1 := f2.rp _ _ r1
  split at h2
  · rename_i c' fs
    obtain ⟨rfl, h3, h4⟩ := h2
    have r0 := r1
    cases r1 with
    | @obj x C2 dx _ vs _ e1 e2 e3 e4 =>
      rw [hC] at e2
      cases e2
      refine ⟨x, dx, vs, rfl, e1, ?_, avs Z S2 σ, _, _, _, .cons r0 (.cons r2 .nil), h4, o2.avsd, fun res w H' q s r => ?_, fun _ _ _ _ _ y _ _ _ => y.elim⟩
      · split at h3
        · rename_i c2 gs
          subst h3
          cases r2 with
          | @obj y C3 dy _ us _ y1 y2 y3 y4 =>
            rw [hC] at y2
            cases y2
            exact ⟨.ref Ca, .inr ⟨y, dy, us, rfl, y1⟩⟩
        · cases e5 : e.ty with
          | none => rw [e5] at h3; cases h3
          | some n =>
            have r2' : Rep X.K X.mg H2 (fun _ => False) u e := r2.carry (.same (Same.refl H2) fun _ y => y.elim)
            exact ⟨.type n, .inl ⟨rep_ty r2' e5, hn n (ty_mem e5)⟩⟩
      · obtain ⟨bb, rfl, q⟩ := q
        cases r
        exact ⟨bb, rfl, bb, rfl, _, rfl, kq (!bb) S2 H' q (o2.same s) ((f1.trans f2).trans (.same o2 s))⟩
  · exact h2.elim
end
theorem kit_no {K : PySem.W.Frag} {C : Addr} (cl : Cls K C) (ty : PySem.W.typeIn K (.ref C) = some (.type "type")) : ∀ n ∈ ["NoneType", "bool", "int", "str", "list", "tuple", "dict"], PySem.W.kitOne K (.type n) (.ref C) = some false := fun n hn => by
  have isC : (PySem.W.clsIn K C).isSome = true := by
    obtain ⟨cd, y, _⟩ := PySem.W.any_some cl.hd
    rw [y] <;> rfl
  have key : ∀ n ∈ ["NoneType", "bool", "int", "str", "list", "tuple", "dict"], (fastBuiltinMro n).elim false (fun l => l.all fun v => match v with | .type _ => true | _ => false) = true := by decide +kernel
  have k := key n hn
  unfold PySem.W.kitOne PySem.W.kitCls
  rw [if_neg fun z => by cases beq_iff_eq.mp z]
  simp only
  rw [if_pos (by rw [isC, ty]; rfl)]
  show (fastBuiltinMro n).map (·.contains (.ref C)) = some false
  cases e : fastBuiltinMro n with
  | none => rw [e] at k; cases k
  | some l =>
    rw [e] at k
    have k : (l.all fun v => match v with | .type _ => true | _ => false) = true := k
    show some (l.contains (.ref C)) = some false
    congr 1
    rw [Bool.eq_false_iff]
    intro z
    have hm : Value.ref C ∈ l := List.contains_iff_mem.mp z
    have := List.all_eq_true.mp k _ hm
    cases this
end Zz

/-! The pure layer: range downwards, division by wide numbers, shifts, tuples of the module. -/
namespace Zz
open PySem PySem.Spec PyProof.Rows L2
section
variable {X : Cx} {P : Zc → Prop} {a b c e : Expr} {p pos : Pos} {ta tb tc : ZE}
/-- lo, lo - 1, .. -/
def downD (lo : Int) (n : Nat) : List D := (List.range n).map fun (i : Nat) => D.int (lo - (i : Int))
theorem downD_get {lo : Int} {n i : Nat} {d : D} (h : (downD lo n)[i]? = some d) : i < n ∧ d = .int (lo - (i : Int)) := by
  unfold downD at h
  rw [List.getElem?_map] at h
  cases e : (List.range n)[i]? with
  | none => rw [e] at h; cases h
  | some k =>
    rw [e] at h
    obtain ⟨h1, h2⟩ := List.getElem?_eq_some_iff.mp e
    rw [List.getElem_range] at h2
    subst h2
    exact ⟨by simpa using h1, by cases h; rfl⟩
theorem downD_length {lo : Int} {n : Nat} : (downD lo n).length = n := by unfold downD; rw [List.length_map, List.length_range]
theorem gives_down {Z : Zc} {S : SS} {σ : L2.St} {H : Hp} {lo : Int} {n : Nat} : Gives X Z S σ H (Itc lo (-1) n) (downD lo n) := by
  intro Z' S' σ' H' ok f i
  refine ⟨fun d hd => ?_, fun hl => by rw [downD_length] at hl; exact hl⟩
  obtain ⟨h1, rfl⟩ := downD_get hd
  refine ⟨h1, fun x H'' ⟨e, hy⟩ => ?_⟩
  subst e hy
  rw [show lo + (i : Nat) * (-1) = lo - (i : Int) by omega]
  exact ⟨Same.refl _, .int _⟩
/-- range(a, b, -1) -/
def zItDn (ta tb : ZE) : ZA := fun S Q => ta S fun d S1 => tb S1 fun e S2 => match d, e with
  | .int i, .int j => (-(2 ^ 62) ≤ i ∧ i < 2 ^ 62 ∧ -(2 ^ 62) ≤ j ∧ j < 2 ^ 62) ∧ Q (downD i (i - j).toNat) S2
  | _, _ => False
theorem id_rangeDn {tg : Expr} {k1 : Nat} {p1 p2 : Pos} (hg : Gl X "range") (hm : X.mg "range" = none) (ha : PD X P a ta) (hb : PD X P b tb)
    (hs : starEach [a, b, .UnaryOp .USub (.Constant (.int 1) k1 p1) p2] X.env = (false, eval a X.env) :: starEach [b, .UnaryOp .USub (.Constant (.int 1) k1 p1) p2] X.env := by rfl)
    (hs2 : starEach [b, .UnaryOp .USub (.Constant (.int 1) k1 p1) p2] X.env = (false, eval b X.env) :: starEach [.UnaryOp .USub (.Constant (.int 1) k1 p1) p2] X.env := by rfl)
    (hs3 : starEach [.UnaryOp .USub (.Constant (.int 1) k1 p1) p2] X.env = (false, eval (.UnaryOp .USub (.Constant (.int 1) k1 p1) p2) X.env) :: starEach [] X.env := by rfl)
    (hpl : (backTo pos (starEach [b, .UnaryOp .USub (.Constant (.int 1) k1 p1) p2] X.env)).any (·.1) = false := by rfl) :
    PId X P tg (.Call (.Name "range" p) [a, b, .UnaryOp .USub (.Constant (.int 1) k1 p1) p2] [] pos) (zItDn ta tb) := by
  obtain ⟨t0, p0, q0⟩ := ha.ex
  obtain ⟨t1, p1', q1⟩ := hb.ex
  refine ⟨_, pi_range3 hg hm (pa_cons p0 (pa_cons p1' (pa_cons (pe_un un_neg pe_int) pa_nil hs3) hs2) hs) hs hpl, fun Z hZ S σ H Qz R ok h k => q0 Z hZ S σ H _ _ ok h fun d S1 v H1 h1 o f r => q1 Z hZ S1 σ H1 _ _ o h1 fun e S2 w H2 h2 o2 f2 r2 => ?_⟩
  split at h2
  · obtain rfl := r.int_inv
    obtain rfl := r2.int_inv
    obtain ⟨⟨b1, b2, b3, b4⟩, h2⟩ := h2
    exact ⟨1, rfl, _, _, -1, _, rfl, RgC.neg b1 b2 b3 b4, k _ _ _ _ h2 o2 (f.trans f2) gives_down⟩
  · exact h2.elim
/-- // by a wide number -/
def CDivX (i j : Int) : Prop := CDivW i j ∨ CDivP i j
theorem op_fdivX : OpR X (binaryOp .FloorDiv) (rI CDivX fun i j => .int (i / j)) := opI fun i j _ _ _ _ _ hc q => by
  have h0 : 0 < j := hc.elim (fun h => h.1) fun h => h.1
  exact floordiv_int (by omega) (by rw [Int.fdiv_eq_ediv_of_nonneg i (by omega)]; exact q) (.inl (hc.elim (fun h => PyProof.noPylong_of_log2 h.2) fun h => h.2))
abbrev zDivX := zOp (fIC CDivX fun i j => i / j)
theorem pd_divX (ha : PD X P a ta) (hb : PD X P b tb) : PD X P (.BinOp a .FloorDiv b pos) (zDivX ta tb) := pd_op op_fdivX opz_IC ha hb
/-- a written shift -/
theorem pd_shlc {i j v : Int} {k1 k2 : Nat} {p1 p2 : Pos} (hv : i * 2 ^ j.toNat = v := by decide +kernel) (h : CPow i j := by refine ⟨?_, ?_, ?_⟩ <;> decide +kernel) : PD X P (.BinOp (.Constant (.int i) k1 p1) .LShift (.Constant (.int j) k2 p2) pos) (zC (.int v)) := by
  refine ⟨_, pe_op op_shl pe_int pe_int, fun Z hZ S σ H Qz Q ok hq k => ⟨i, j, rfl, rfl, h, ?_⟩⟩
  show Q (.int (i * 2 ^ j.toNat)) H
  rw [hv]
  exact k _ S _ H hq ok .refl (.int v)
end
/-- a tuple of texts of the module -/
structure Kt (K : PySem.W.Frag) (mg : Str → Option Value) (x : Str) (d : D) : Prop where
  ex : ∃ a, mg x = some (.ref a) ∧ ∀ H av, Rep K mg H av (.ref a) d
theorem kt_two {K : PySem.W.Frag} {mg : Str → Option Value} {x : Str} {a : Addr} {dd : Option Addr} {s t : Str} {k1 k2 : Tok} {n : Nat} {sl : Array (Option Value)} (hm : mg x = some (.ref a)) (hk : K.lookup a = some ⟨.type "tuple", dd, .seq #[.str s k1, .str t k2] n, sl⟩) : Kt K mg x (.tup [.str s, .str t]) :=
  ⟨a, hm, fun H av => .tup (vs := [.str s, .str t]) (.inr ⟨_, _, _, hk, rfl, rfl, by show 2 ≤ sizeLine; decide, .cons ⟨k1, rfl⟩ (.cons ⟨k2, rfl⟩ .nil)⟩) (.cons (.str s) (.cons (.str t) .nil))⟩
theorem pd_kt {X : Cx} {P : Zc → Prop} {x : Str} {d : D} {pos : Pos} (hg : Gl X x) (h : Kt X.K X.mg x d) (hd : (x == ("__debug__" : Str)) = false := by decide) : PD X P (.Name x pos) (zC d) := pd_globd hg h.ex hd
end Zz

/-! The pure layer: // by numbers of any size. -/
namespace Zz
open PySem PySem.Spec PyProof.Rows L2
/-- nothing in the written part watches imports, no file of the run bears _pylong -/
structure Wide (Pg : Program) (base : Heap) : Prop where
  tree : Pg.given.tree = none
  seer : base.NoSeer
/-- .. and the code that runs is a def's body -/
structure Wd (X : Cx) : Prop where
  wide : Wide X.prog X.base
  stack : X.stack = X.env :: X.outer
  gen : X.env.scope.isGenerator = false
  co : X.env.scope.isCoroutine = false
  dp : X.A.depth + Builtin.pylongFrames < recursionLimit
section
variable {X : Cx} {P : Zc → Prop} {a b c e : Expr} {p pos : Pos} {ta tb tc : ZE}
def CDivS (_ j : Int) : Prop := 0 < j
theorem wide_room {pins : List (Addr × Obj)} {σ : L2.St} {H : Hp} {s : Shared} (W : Wd X) (I : Inv X pins σ H s) : PySem.PylongRoom (model X.prog X.w) X.A s := by
  refine PySem.PylongRoom.of (I.nolimit) W.dp (PySem.SeerAt.of (W.wide.seer.keeps I.bk) W.wide.tree (I.ok.frames.trans (congrArg some W.stack)) W.gen W.co I.ok.blt I.ok.glob)
theorem op_fdivS (W : Wd X) : OpR X (binaryOp .FloorDiv) (rI CDivS fun i j => .int (i / j)) := by
  intro pins s σ H x y v u Q I rx ry h
  obtain ⟨i, j, rfl, rfl, hc, q⟩ := h
  obtain ⟨t, rfl⟩ := rx
  obtain ⟨t', rfl⟩ := ry
  have hc' : 0 < j := hc
  exact floordiv_int (by omega) (by rw [Int.fdiv_eq_ediv_of_nonneg i (by omega)]; exact ⟨.int (i / j), H, I.tok _, ⟨_, rfl⟩, q⟩) (.inr (wide_room W I))
abbrev zDivS := zOp (fIC CDivS fun i j => i / j)
theorem pd_divS (W : Wd X) (ha : PD X P a ta) (hb : PD X P b tb) : PD X P (.BinOp a .FloorDiv b pos) (zDivS ta tb) := pd_op (op_fdivS W) opz_IC ha hb
end
theorem wd_cx {CXt : CXT} {Pg : Program} {w : World} {K : PySem.W.Frag} {mg : Str → Option Value} {base : Heap} {N : List Str} {qual : Str} {sc : Scope} {f : Addr} {cd : Value} {A : Around} {outer : List Env} {s : Shared} {H : Hp} {E : XK} {k : Nat} {P : Zc → Prop}
    (W : Wide Pg base) (C : Cd k (cxOf CXt Pg w K mg base N qual sc f cd A outer s H E) P) (hk : 32 ≤ k := by decide) (hg : sc.isGenerator = false := by rfl) (hc : sc.isCoroutine = false := by rfl) : Wd (cxOf CXt Pg w K mg base N qual sc f cd A outer s H E) :=
  ⟨W, rfl, hg, hc, by have := C.hr.dp; have h : Builtin.pylongFrames ≤ 100 := by decide
                      omega⟩

/-- the goal that k_head leaves, where nothing imports -/
theorem walkPS {l : PySem.W.OpenLaw} {n k : Nat} {q : Program} {loose : List Str} {XP : (Str → Option Value) → Heap → Prop} {YP : World → Heap → Prop} {d : DefRec} {K : Params → PySem.W.Frag} {sp : ZSp} {x : Str}
    (hn : l.most = some n) (hn2 : n ≤ sizeLine) (hdf : d.params.defaults = []) (hr : Room k callerA) (hY : ∀ (w : World) (h : Heap), YP w h → (K w.params).In h) (hi : importsNone q = true) (ht : l.prog.given.tree = none)
    (F : ∀ (w : World) (mg : Str → Option Value) (fa : Addr) (h : Heap), (K w.params).In h → h.Ns mainGlobals mg → mg d.name = some (.ref fa) →
      ∃ fd : FuncData, (∀ (s : Shared) (u : Value), BindsTo s fd ⟨[u], []⟩ [(x, u)]) ∧ ∀ base : Heap, (K w.params).In base → base.Ns mainGlobals mg → Wide l.prog base → FnP l.prog w (K w.params) mg base k fa fd [x] (spZ (K w.params) mg sp))
    (hsp : ∀ ns : List Int, ns.length ≤ n → sp [.fls (ns.map D.int)] (fun r => r = .sh (.bl true)) fun _ _ => False) : PySem.W.WalkO q loose XP YP l.row.toRowW d [] (fun f vs => PySem.call f vs) :=
  Att.attach_call hn hdf fun w s₀ s₁ mg mb fa o pm cd doc a vs ns G Y ho hd hcd hmg hobj hints hlen hg => by
    obtain ⟨fd, hb, hF⟩ := F w mg fa _ (hY w _ Y) G.T.g hmg
    exact law_callPS (hY w _ Y) G.T.g G.T.b G.T.builtins G.T.nolimit hg hobj hints (Nat.le_trans hlen hn2) hr (fun base h1 h2 h3 => hF base h1 h2 ⟨ht, h3 (G.T.seer hi)⟩) hb (hsp ns hlen)
end Zz

/-! The pure layer: raise, try .. except X as e: m = e, caught errors as values. -/
namespace Zz
open PySem PySem.Spec PyProof.Rows L2

/-! ### raise -/
/-- an own class of errors that may be made and raised -/
structure Er (K : PySem.W.Frag) (mg : Str → Option Value) (c : Str) : Prop where
  ex : ∃ C, mg c = some (.ref C) ∧ PySem.W.excIn K C [.type "ValueError", .type "Exception", .type "BaseException", .type "object"] "ValueError.__new__" = true ∧ PySem.W.keepIn K (.ref C) = true ∧ PySem.W.subIn K (.ref C) (.type "BaseException") = some true ∧
    PySem.W.typeIn K (.ref C) = some (.type "type")
section
variable {X : Cx} {P : Zc → Prop} {k : Nat} {c : Str} {e : Expr} {te : ZE} {p pos pos2 : Pos}
def zRaise (ez : Str → Option (Str × D) → Prop) (c : Str) (te : ZE) : ZS := fun _ S => te S fun _ _ => ez c none
theorem sd_raise {ez : Str → Option (Str × D) → Prop} (h : Er X.K X.mg c) (C : Cd k X P) (hg : Gl X c) (hez : ∀ Z, P Z → ∀ c g, ez c g → Z.ez c g) (he : PD X P e te) (hs : starEach [e] X.env = (false, eval e X.env) :: starEach [] X.env := by rfl) (hdb : (c == ("__debug__" : Str)) = false := by decide) :
    PSd X P (.Raise (some (.Call (.Name c p) [e] [] pos)) none pos2) (zRaise ez c te) := by
  obtain ⟨Ca, hC, h1, h2, h3, h4⟩ := h.ex
  obtain ⟨t0, p0, q0⟩ := he.ex
  refine ⟨_, ps_raise C.calm C.tk (SkE.pmk_own1 PySem.F.excBase_ValueError h1 hC h2 (raises_own h3 h4) hg p0 hs hdb), fun Z hZ S σ H E D0 ok h i => q0 Z hZ S σ H _ _ ok h fun d S1 v H1 g1 o f r => ?_⟩
  exact ⟨Z, hZ, c, none, hez Z hZ c none g1, hC, trivial, o.ext⟩
end

/-! ### a class of errors with a field: def __init__(self, f): self.f = f -/
/-- what its __init__ promises -/
def spEi (K : PySem.W.Frag) (n : Str) : Sp := fun vs H Q _ => ∃ (a C : Addr) (v : V), vs = [.ref a, v] ∧ OexC K C ∧ PySem.W.findIn K (.ref C) n = some none ∧ H a = some (exo a C none) ∧
  ∀ dx, H dx = none → dx ≠ a → Q .non (upd (upd H dx (exd dx [(n, v)])) a (exo a C (some dx)))
structure Ei (Pg : Program) (w : World) (K : PySem.W.Frag) (mg : Str → Option Value) (base : Heap) (k : Nat) (c n : Str) : Prop where
  ex : ∃ (C fI : Addr) (fd : FuncData) (ps : List Str), mg c = some (.ref C) ∧ OexC K C ∧ PySem.W.findIn K (.ref C) "__init__" = some (some (.ref fI)) ∧ PySem.W.typeIn K (.ref fI) = some (.type "function") ∧ PySem.W.findIn K (.ref C) n = some none ∧
    Binds K fd ps [] ∧ FnOk Pg w K mg base CX0 k fI fd ps (spEi K n)
section
variable {Pg : Program} {w : World} {K : PySem.W.Frag} {mg : Str → Option Value} {base : Heap} {f : Addr} {fd : FuncData} {st : Stmt} {q n : Str} {p1 p2 p3 p4 : Pos}
theorem okEi (Fu : Fun K "__init__" q st f fd) (S : FnScope ["self", n] ["self", n] (defScope st)) (hb : defBody st = [.Assign [.Attribute (.Name "self" p1) n p2] (.Name n p3) p4])
    (v0 : Vis (defScope st) "self" := by first | exact Or.inl rfl | exact Or.inr (Or.inl rfl)) (v1 : Vis (defScope st) n := by first | exact Or.inl rfl | exact Or.inr (Or.inl rfl)) (d1 : (n == ("__debug__" : Str)) = false := by decide) (d2 : (n == ("__classdict__" : Str)) = false := by decide) : FnOk Pg w K mg base CX0 1 f fd ["self", n] (spEi K n) := by
  refine Fu.ok S (fun vs H Q E ⟨_, _, _, e, _⟩ => by rw [e]; rfl) fun cdv A outer s H vs Q E hr ⟨a, C, v, e, T, hno, ea, hq⟩ => ?_
  subst e
  rw [hb]
  refine ⟨_, pss_one (ps_ost (pe_var (i := 0) rfl v0) (pe_var (i := 1) rfl v1 d1 d2)), ?_⟩
  exact ⟨v, rfl, _, rfl, a, C, rfl, T, hno, .inl ⟨ea, hq⟩⟩
end
section
variable {X : Cx} {P : Zc → Prop} {k j : Nat} {c n : Str} {e : Expr} {te : ZE} {p pos pos2 : Pos}
def zRaiseF (ez : Str → Option (Str × D) → Prop) (c n : Str) (te : ZE) : ZS := fun _ S => te S fun d _ => ez c (some (n, d))
theorem sd_raiseF {ez : Str → Option (Str × D) → Prop} (h : Ei X.prog X.w X.K X.mg X.base j c n) (C : Cd k X P) (hg : Gl X c) (hez : ∀ Z, P Z → ∀ c g, ez c g → Z.ez c g) (he : PD X P e te) (hj : j + 1 ≤ k := by decide) (hs : starEach [e] X.env = (false, eval e X.env) :: starEach [] X.env := by rfl) (hdb : (c == ("__debug__" : Str)) = false := by decide)
    (hpl : (backTo pos (starEach [] X.env)).any (·.1) = false := by rfl) :
    PSd X P (.Raise (some (.Call (.Name c p) [e] [] pos)) none pos2) (zRaiseF ez c n te) := by
  obtain ⟨Ca, fI, fd, ps, hC, T, iC, tI, hno, hb, F⟩ := h.ex
  obtain ⟨t0, p0, q0⟩ := he.ex
  refine ⟨_, ps_raise C.calm C.tk (pmk_oex (ds := []) (dvs := []) T iC tI F (Room.mono C.hr hj) hb .nil pass0 hg hC (pa_cons p0 pa_nil hs) hdb hs hpl), fun Z hZ S σ H E D0 ok h i => q0 Z hZ S σ H _ _ ok h fun d S1 v H1 g1 o f r => ?_⟩
  refine ⟨Nat.le_of_ble_eq_true rfl, fun a ha => ⟨a, Ca, v, rfl, T, hno, upd_same, fun dx hdx hne => ⟨rfl, dx, [(n, v)], upd_same, ?_, ?_, ?_⟩⟩⟩
  · rw [upd_ne hne, upd_same]
  · rw [upd_ne hne] at hdx; exact hdx
  · rw [upd_ne hne] at hdx
    generalize hH : upd (L2.del (upd (upd (upd H1 a (exo a Ca none)) dx (exd dx [(n, v)])) a (exo a Ca (some dx))) a) dx (.xd [(n, v)]) = H3
    have s : Same H1 H3 := fun b o eb => by
      have n1 : b ≠ a := fun z => by rw [z, ha] at eb; cases eb
      have n2 : b ≠ dx := fun z => by rw [z, hdx] at eb; cases eb
      rw [← hH, upd_ne n2, L2.del_ne n1, upd_ne n1, upd_ne n2, upd_ne n1]
      exact eb
    refine ⟨Z, hZ, c, some (n, d), hez Z hZ _ _ g1, hC, ⟨v, by rw [← hH, upd_same], r.carry (.same s fun b z => .inl z)⟩, fun b u eb nb => s b u (o.ext b u eb nb)⟩
end
end Zz

/-! The pure layer: try .. except X as n: m = n. -/
namespace Zz
open PySem PySem.Spec PyProof.Rows L2
section
variable {X : Cx} {pins : List (Addr × Obj)} {σ : L2.St} {H : Hp} {s : Shared}
theorem unsuite2 {a : Addr} {oe : Obj} {pn' : List (Addr × Obj)} (I : Inv (X.suite a ((a, oe) :: (X.pn ++ pins))) pn' σ H s) (ok : X.Ok) : Inv X ((a, oe) :: pins) σ H s :=
  ⟨ok, I.os, I.bare, I.base, I.loc, I.cell, I.free, I.freeC, fun p hp => I.pin p (List.mem_append_left _ (by
    rcases List.mem_append.mp hp with h | h
    · exact List.mem_cons_of_mem _ (List.mem_append_left _ h)
    · rcases List.mem_cons.mp h with h | h
      · rw [h]; exact List.mem_cons_self
      · exact List.mem_cons_of_mem _ (List.mem_append_right _ h))), I.hok, I.len⟩
/-- a pinned exception becomes an object that is tracked -/
theorem keep_exc {a : Addr} {oe : Obj} {vs : Array Value} {cls : Value} {d : Option Addr} (I : Inv X ((a, oe) :: pins) σ H s) (hz : L2.Zc cls d oe) (hd : oe.data = .fields vs) (h0 : ∀ o, X.s_0.heap.get? a = some o → a ∈ X.ex) (hp : ∀ p ∈ X.pn ++ pins, p.1 ≠ a) :
    Inv X pins σ (upd H a (exk a cls d)) s := by
  obtain ⟨e1, e2, e3, e4, e5⟩ := I.pin (a, oe) (List.mem_append_right _ List.mem_cons_self)
  have e1 : s.heap.get? a = some oe := e1
  have e2 : H a = none := e2
  have ne : ∀ {b : Addr} {o : HO}, H b = some o → b ≠ a := fun {b o} h z => by rw [z, e2] at h; cases h
  have new : ObjOk X.prog X.w (upd H a (exk a cls d)) s.heap a (exk a cls d) := ⟨⟨oe, vs, e1, hz.1, hz.2, hd⟩, ⟨oe, e1⟩, fun h1 h2 ⟨o, vs, q1, q2⟩ hk => ⟨o, vs, hk o q1, q2⟩⟩
  refine ⟨I.ok, I.os, I.bare, ⟨I.base.keep, I.base.slot, fun b o q1 q2 q3 => ?_, I.base.there, fun b xs q => ?_, fun b o u q => ?_, fun b ps q => ?_⟩, I.loc, I.cell, ?_, fun x c hc => ?_, fun p h => ?_, I.hok.laidN (fun _ _ q => q) e2 new, I.len⟩
  · have nb : b ≠ a := fun z => by subst z; exact q3 (h0 o q1)
    rw [upd_ne nb]
    exact I.base.free b o q1 q2 q3
  · have := I.base.tups b xs q
    rw [upd_ne (ne this)]; exact this
  · have := I.base.frzs b o u q
    rw [upd_ne (ne this)]; exact this
  · obtain ⟨more, h⟩ := I.base.tbls b ps q
    exact ⟨more, by rw [upd_ne (ne h)]; exact h⟩
  · rw [upd_ne (Ne.symm e3)]; exact I.free
  · have nc : c ≠ a := fun z => by
      obtain ⟨v, hv⟩ := I.cell x c hc
      obtain ⟨o, ho, hdat⟩ := hv
      rw [z, e1] at ho
      cases ho
      exact e5 _ hdat
    rw [upd_ne nc]; exact I.freeC x c hc
  · have := I.pin p (by
      rcases List.mem_append.mp h with h | h
      · exact List.mem_append_left _ h
      · exact List.mem_append_right _ (List.mem_cons_of_mem _ h))
    exact ⟨this.1, by rw [upd_ne (hp p h)]; exact this.2.1, this.2.2⟩
end
/-- what the clause wishes of an exception of the body: slot i is n's, slot mi m's -/
def wKeep (K : PySem.W.Frag) (c : Value) (mi i : Nat) (D : Ends) : WX := fun cls d σ H => PySem.W.exmOne K cls c = some true ∧ ∀ a, H a = none → D.nx (((σ.set i (some (.ref a))).set mi (some (.ref a))).set i none) (upd H a (exk a cls d))
section
variable {X : Cx} {x n m : Str} {c : Value} {i mi : Nat} {body : List Stmt} {np mp np2 ap pos pos' : Pos}
theorem ps_try_keep {t : TS} (hs : X.stack = X.env :: X.outer) (hf : X.env.frame = some X.env.locals) (hN : X.N.Nodup) (hi : X.N[i]? = some n) (hln : X.env.kindOf n = some .local) (hmi : X.N[mi]? = some m) (hlm : Loc X.env.scope m) (hfm : X.fn m = true ∨ X.env.scope.names.lookup m = some .local) (hc : Names X x c)
    (hvn : Vis X.env.scope n) (hd1 : (n == ("__debug__" : Str)) = false) (hd2 : (n == ("__classdict__" : Str)) = false) (hsw : swapsWith (.Name n np2) (some (.Name m mp)) ap.line X.env = pure false)
    (hb : ∀ D σ H, t D σ H → ∀ (W : WX) (pn : List (Addr × Obj)) (xe : Value → Shared → Prop), Takes (X.tr pn xe) W → PassesOwn (model X.prog X.w) X.A X.env xe → (∀ cls d σ H, wKeep X.K c mi i D cls d σ H → W cls d σ H) → ∃ tb : TS, PSs (X.tr pn xe) body tb ∧ tb D σ H) :
    PS X (.Try body [.ExceptHandler (some (.Name x np)) (some n) [.Assign [.Name m mp] (.Name n np2) ap] pos'] [] [] pos) t := by
  refine ⟨fun pins s σ H D I h => ?_⟩
  have ok := I.ok
  have hfr : X.A.frames = some (X.env :: X.outer) := by rw [ok.frames, hs]
  have hloc : Loc X.env.scope n := .inl hln
  refine wpAny_Try_except ?_
  refine wpAny_mono ((?_ : wpAny (model X.prog X.w) X.A (execs body X.env) (SP (X.tr (X.pn ++ pins) (fun e s₁ => wpAny (model X.prog X.w) X.A (noteFrame e X.env) (fun _ s₂ => wpAny (model X.prog X.w) X.A (setFlight e none) (fun _ s₃ =>
    wpAny (model X.prog X.w) X.A (handleBy e X.env [.ExceptHandler (some (.Name x np)) (some n) [.Assign [.Name m mp] (.Name n np2) ap] pos']) (SP X pins D) X.xe s₃) X.xe s₂) X.xe s₁)) [] D) (fun e s₁ => wpAny (model X.prog X.w) X.A (noteFrame e X.env) (fun _ s₂ => wpAny (model X.prog X.w) X.A (setFlight e none) (fun _ s₃ =>
    wpAny (model X.prog X.w) X.A (handleBy e X.env [.ExceptHandler (some (.Name x np)) (some n) [.Assign [.Name m mp] (.Name n np2) ap] pos']) (SP X pins D) X.xe s₃) X.xe s₂) X.xe s₁) s)) (fun f s1 hsp => ?_) (fun e s1 he => he)
  · suffices tk : Takes (X.tr (X.pn ++ pins) (fun e s₁ => wpAny (model X.prog X.w) X.A (noteFrame e X.env) (fun _ s₂ => wpAny (model X.prog X.w) X.A (setFlight e none) (fun _ s₃ =>
      wpAny (model X.prog X.w) X.A (handleBy e X.env [.ExceptHandler (some (.Name x np)) (some n) [.Assign [.Name m mp] (.Name n np2) ap] pos']) (SP X pins D) X.xe s₃) X.xe s₂) X.xe s₁)) (wKeep X.K c mi i D) from by
      obtain ⟨tb, hp, hq⟩ := hb D σ H h (wKeep X.K c mi i D) _ _ tk PassesOwn.looking fun _ _ _ _ h => h
      exact hp.run [] s σ H D (I.toTry _) hq
    intro u s' xx
    -- the catch
    obtain ⟨a, B, sI, pins', σ', H', cls, d, rfl, J', nb, up, sky, na, os, ag, hb1, hyes⟩ := xx
    have J : Inv X pins σ' H' sI := J'.ofTry ok
    have sky' : L2.Sky B (X.env :: X.outer) a (L2.Zc cls d) X.env.locals s'.heap := by rw [← hs]; exact sky
    show wpAny (model X.prog X.w) X.A (noteFrame (.ref a) X.env) _ _ _
    refine Sky.land Zc.steady hfr hf sky' fun h3 fl3 up3 => ?_
    have J3 : Inv X pins σ' H' { s' with heap := h3 } := J.landed nb fl3.1 (up.trans up3) os ag
    obtain ⟨oe3, vs3, he3, hz3, hd3⟩ := fl3.there
    have notFr : ∀ {h : Heap} {o : Obj} {vs : Array Value}, h.FunFrames B (X.env :: X.outer) → h.get? a = some o → o.data = .fields vs → a ∉ frs (X.env :: X.outer) := fun {h o vs} ff e dd hm => by
      obtain ⟨_, o', e', hnf⟩ := ff.mem hm
      rw [e] at e'; cases e'
      exact hnf _ dd
    have nfr := notFr fl3.2.2.1 he3 hd3
    have nL : a ≠ X.env.locals := fun z => nfr (List.mem_filterMap.mpr ⟨X.env, List.mem_cons_self, by rw [hf, z]⟩)
    have nF : a ∉ X.fs := fun hm => by
      obtain ⟨e, he, q⟩ := List.mem_filterMap.mp hm
      exact nfr (List.mem_filterMap.mpr ⟨e, List.mem_cons_of_mem _ he, q⟩)
    have nI : sI.heap.get? a = none := by
      cases e : sI.heap.get? a with
      | none => rfl
      | some o =>
        have z := nb a o e (by rw [hs]; exact nfr)
        rw [fl3.2.1] at z
        cases z
    have S3 := J3.suite he3 hd3 na nL nF
    refine wpAny_handleBy_cons (codeAny_handlers_test ?_) (by intro q; cases q)
    have LT : PySem.W.Looks (model X.prog X.w) h3 (typeOf (.ref a)) cls := fun A Q E s k q => wpAny_typeOf_ref (k _ _ he3) (by rw [hz3.1]; exact q)
    have LM := PySem.W.exm_one (M := model X.prog X.w) (J3.kIn) LT hb1
    have test : ∀ {Q : Value → Shared → Prop} {E : Value → Shared → Prop}, Q c { s' with heap := h3 } → wpAny (model X.prog X.w) (X.A.mark (some (.ref a))) (eval (.Name x np) X.env) Q E { s' with heap := h3 } := fun {Q E} q => by
      obtain ⟨hg, hdbg, hm | ⟨hm, hv, hnn⟩⟩ := hc
      · exact ld_glob (X := X.suite a ((a, oe3) :: (X.pn ++ pins))) S3 hg hm q hdbg
      · exact ld_blt (X := X.suite a ((a, oe3) :: (X.pn ++ pins))) S3 hg hm hv q hnn hdbg
    refine test (LM.here ?_)
    refine codeAny_handlers_suite_as ?_
    refine HandSPX.lands_againZ fl3 fun h4 fl4 up4 => ?_
    have J4 : Inv X pins σ' H' { s' with heap := h4 } := J.landed nb fl4.1 ((up.trans up3).trans up4) os ag
    obtain ⟨oe4, vs4, he4, hz4, hd4⟩ := fl4.there
    have S4 := J4.suite he4 hd4 na nL nF
    refine store_ok (X := X.suite a ((a, oe4) :: (X.pn ++ pins))) (v := .ref a) S4 hN hi hloc rfl (fun s5 S5 => ?_) (.inr hln)
    have psu : PSs (X.suite a ((a, oe4) :: (X.pn ++ pins))) [.Assign [.Name m mp] (.Name n np2) ap] (fun D σ H => ∃ v, σ[i]? = some (some v) ∧ D.nx (σ.set mi (some v)) H) := pss_one (ps_set (X := X.suite a ((a, oe4) :: (X.pn ++ pins))) (i := mi) hN hmi hlm (pe_var (X := X.suite a ((a, oe4) :: (X.pn ++ pins))) (i := i) hi hvn hd1 hd2) hsw hfm)
    have len' : i < σ'.length := by rw [J.len]; exact (List.getElem?_eq_some_iff.mp hi).1
    refine wpAny_mono (psu.run [] s5 _ H' { D with nx := fun σ6 H6 => σ6 = (σ'.set i (some (.ref a))).set mi (some (.ref a)) ∧ H6 = H', rt := fun _ _ => False, bk := fun _ _ => False, ct := fun _ _ => False } S5 ⟨.ref a, List.getElem?_set_self len', rfl, rfl⟩) (fun f s6 hsp => ?_) (fun _ _ z => False.elim z)
    cases f with
    | next =>
      obtain ⟨σ6, H6, S6, rfl, rfl⟩ := hsp
      refine gone_ok (unsuite2 S6 ok) hN hi hln fun s7 J7 => ⟨_, _, keep_exc J7 hz4 hd4 (fun o e => ?_) (fun p hp z => ?_), hyes a na⟩
      · refine Classical.byContradiction fun q => ?_
        obtain ⟨o', e'⟩ := J.base.there a o e q
        rw [nI] at e'
        cases e'
      · have := (J.pin p hp).1
        rw [z, nI] at this
        cases this
    | brk => obtain ⟨_, _, _, q⟩ := hsp; exact q.elim
    | cont => obtain ⟨_, _, _, q⟩ := hsp; exact q.elim
    | ret u => obtain ⟨_, _, _, _, _, q⟩ := hsp; exact q.elim
  · cases f with
    | next =>
      obtain ⟨σ', H', J', q⟩ := hsp
      exact wpAny_execs_nil ⟨σ', H', J'.ofTry ok, q⟩
    | brk =>
      obtain ⟨σ', H', J', q⟩ := hsp
      exact ⟨σ', H', J'.ofTry ok, q⟩
    | cont =>
      obtain ⟨σ', H', J', q⟩ := hsp
      exact ⟨σ', H', J'.ofTry ok, q⟩
    | ret u =>
      obtain ⟨v, σ', H', J', r, q⟩ := hsp
      exact ⟨v, σ', H', J'.ofTry ok, r, q⟩
end
end Zz

/-! The pure layer: caught errors: isinstance, their field; a try's reading. -/
namespace Zz
open PySem PySem.Spec PyProof.Rows L2

/-! ### the classes of errors: a base, and classes over it -/
structure EcK (K : PySem.W.Frag) (mg : Str → Option Value) (PE : Addr) (c : Str) (C : Addr) : Prop where
  mg : mg c = some (.ref C)
  X : L2.ExcC K C
  ty : PySem.W.typeIn K (.ref C) = some (.type "type")
  cls : ∃ cd, PySem.W.clsIn K C = some cd ∧ (cd.mro = [.ref C, .ref PE, .type "ValueError", .type "Exception", .type "BaseException", .type "object"] ∨ (C = PE ∧ cd.mro = [.ref PE, .type "ValueError", .type "Exception", .type "BaseException", .type "object"]))
/-- cs: the base pe among them -/
structure Errs (K : PySem.W.Frag) (mg : Str → Option Value) (pe : Str) (cs : List Str) : Prop where
  ex : ∃ (PE : Addr) (ps : List (Str × Addr)), mg pe = some (.ref PE) ∧ pe ∈ cs ∧ ps.map (·.1) = cs ∧ (∀ p ∈ ps, EcK K mg PE p.1 p.2) ∧ (ps.map (·.2)).Nodup
section
variable {K : PySem.W.Frag} {mg : Str → Option Value} {pe c c' : Str} {cs : List Str} {PE C C' : Addr}
theorem EcK.sub (h : EcK K mg PE c C) (v : Value) : PySem.W.subIn K (.ref C) v = some ([Value.ref C, .ref PE, .type "ValueError", .type "Exception", .type "BaseException", .type "object"].contains v) := by
  obtain ⟨cd, h1, h2⟩ := h.cls
  show PySem.W.mroIn K C v = _
  unfold PySem.W.mroIn
  rcases h2 with h2 | ⟨rfl, h2⟩
  · rw [h1, Option.bind_some, h2]
    rfl
  · rw [h1, Option.bind_some, h2]
    show some _ = some _
    congr 1
    rw [Bool.eq_iff_iff, List.contains_iff_mem, List.contains_iff_mem]
    simp
theorem EcK.isC (h : EcK K mg PE c C) : (PySem.W.clsIn K C).isSome = true := by
  obtain ⟨cd, h1, _⟩ := h.cls
  rw [h1]
  rfl
theorem kit_err (h : EcK K mg PE c C) (h' : EcK K mg PE c' C') : PySem.W.kitOne K (.ref C) (.ref C') = some (decide (C = C' ∨ PE = C')) := by
  unfold PySem.W.kitOne
  by_cases e : C = C'
  · subst e
    rw [if_pos (beq_self_eq_true _)]
    simp
  · have ne : ¬ ((Value.ref C == Value.ref C') = true) := fun z => by cases beq_iff_eq.mp z; exact e rfl
    rw [if_neg ne]
    show (if ((PySem.W.clsIn K C').isSome && PySem.W.typeIn K (.ref C') == some (.type "type")) = true then PySem.W.subIn K (.ref C) (.ref C') else none) = _
    rw [if_pos (by rw [h'.isC, h'.ty]; rfl), h.sub]
    congr 1
    by_cases q : PE = C'
    · subst q
      rw [decide_eq_true (Or.inr rfl)]
      exact List.contains_iff_mem.mpr (List.mem_cons_of_mem _ List.mem_cons_self)
    · rw [decide_eq_false (fun z => z.elim e q), Bool.eq_false_iff]
      intro z
      have := List.contains_iff_mem.mp z
      simp at this
      rcases this with y | y
      · exact e y.symm
      · exact q y.symm
theorem Errs.base (E : Errs K mg pe cs) : ∃ PE, mg pe = some (.ref PE) ∧ EcK K mg PE pe PE := by
  obtain ⟨PE, ps, h1, h2, h3, h4, h5⟩ := E.ex
  rw [← h3] at h2
  obtain ⟨p, hp, rfl⟩ := List.mem_map.mp h2
  have k := h4 p hp
  have e := k.mg
  rw [h1] at e
  have e := Value.ref.inj (Option.some.inj e)
  exact ⟨PE, h1, by rw [e] at k ⊢; exact k⟩
theorem Errs.get (E : Errs K mg pe cs) (h : c ∈ cs) : ∃ PE C, mg pe = some (.ref PE) ∧ EcK K mg PE c C ∧ PySem.W.exmOne K (.ref C) (.ref PE) = some true := by
  obtain ⟨PE', hb1, kb⟩ := E.base
  obtain ⟨PE, ps, h1, h2, h3, h4, h5⟩ := E.ex
  rw [hb1] at h1
  cases h1
  rw [← h3] at h
  obtain ⟨p, hp, rfl⟩ := List.mem_map.mp h
  have k := h4 p hp
  refine ⟨PE', p.2, hb1, k, ?_⟩
  unfold PySem.W.exmOne
  rw [kb.X.hs, if_pos (beq_self_eq_true _)]
  show (if ((PySem.W.clsIn K PE').isSome && PySem.W.typeIn K (.ref PE') == some (.type "type")) = true then PySem.W.subIn K (.ref p.2) (.ref PE') else none) = _
  rw [if_pos (by rw [kb.isC, kb.ty]; rfl), k.sub]
  congr 1
  exact List.contains_iff_mem.mpr (List.mem_cons_of_mem _ List.mem_cons_self)
/-- isinstance of one of them with one of them -/
theorem Errs.kit (E : Errs K mg pe cs) (h : c ∈ cs) (h' : c' ∈ cs) : ∃ C C' PE, EcK K mg PE c C ∧ mg c' = some (.ref C') ∧ PySem.W.kitOne K (.ref C) (.ref C') = some (decide (c = c') || decide (c' = pe)) := by
  obtain ⟨PE', hb1, kb⟩ := E.base
  obtain ⟨PE, ps, h1, h2, h3, h4, h5⟩ := E.ex
  rw [hb1] at h1
  cases h1
  have inj : ∀ p ∈ ps, ∀ q ∈ ps, p.2 = q.2 → p.1 = q.1 := fun p hp q hq z => by
    obtain ⟨i, hi, ei⟩ := List.mem_iff_getElem.mp hp
    obtain ⟨j, hj, ej⟩ := List.mem_iff_getElem.mp hq
    have := (List.getElem_inj (h₀ := by simpa using hi) (h₁ := by simpa using hj) h5).mp (by rw [List.getElem_map, List.getElem_map, ei, ej]; exact z)
    subst this
    rw [← ei, ← ej]
  rw [← h3] at h h' h2
  obtain ⟨p, hp, rfl⟩ := List.mem_map.mp h
  obtain ⟨q, hq, rfl⟩ := List.mem_map.mp h'
  obtain ⟨b, hb, hbe⟩ := List.mem_map.mp h2
  have k := h4 p hp
  have k' := h4 q hq
  have eb : b.2 = PE' := by
    have e := (h4 b hb).mg
    rw [hbe, hb1] at e
    exact (Value.ref.inj (Option.some.inj e)).symm
  refine ⟨p.2, q.2, PE', k, k'.mg, ?_⟩
  rw [kit_err k k']
  congr 1
  have e1 : p.2 = q.2 ↔ p.1 = q.1 := ⟨inj p hp q hq, fun z => by
    have e := k.mg
    rw [z, k'.mg] at e
    exact (Value.ref.inj (Option.some.inj e)).symm⟩
  have e2 : PE' = q.2 ↔ q.1 = pe := ⟨fun z => by rw [← hbe]; exact (inj b hb q hq (eb.trans z)).symm, fun z => by
    have e := k'.mg
    rw [z, hb1] at e
    exact Value.ref.inj (Option.some.inj e)⟩
  rw [Bool.eq_iff_iff]
  simp [e1, e2]
theorem EcK.kitV (h : EcK K mg PE c C) : PySem.W.kitOne K (.ref C) (.type "ValueError") = some true := by
  unfold PySem.W.kitOne
  rw [if_neg (fun z => by cases beq_iff_eq.mp z)]
  show (if PySem.W.kitMeta "ValueError" = true then PySem.W.subIn K (.ref C) (.type "ValueError") else none) = _
  rw [if_pos (by decide +kernel), h.sub]
  rfl
end

/-! ### isinstance, the field -/
section
open PySem.W in
theorem kin_classX {prog : Program} {w : World} {A : Around} {E : Value → Shared → Prop} {s : Shared} {K : Frag} {x D : Addr} {ox : Obj} {od : Option Obj} {Q : Option Value → Shared → Prop} (T : L2.ExcC K D) (hfo : findObj K D od "__class__" = some (.bind (.builtin "getset_descriptor.__get__") (.builtin "object.__class__")))
    (X : K.In s.heap) (I : InstAt s.heap x ox D od) (h : Q (some (.ref D)) { s with toks := s.toks + 1 }) : wpAny (model prog w) A (getAttr? (.ref x) "__class__") Q E s := by
  obtain ⟨hp, g, d, t, os⟩ := s
  have L0 := I.type (M := model prog w)
  have L1 := looks_findIn (M := model prog w) X T.hg
  have L2 := looks_findIn (M := model prog w) X T.hk
  have L3 := looks_find (M := model prog w) X I hfo
  have sub : Looks (model prog w) hp (isInstance (.ref x) (.type "BaseException")) true := L0.andThen (looks_subIn X T.hs)
  have hx0 : (false && onTheHeap (Value.builtin "BaseException.__getattribute__")) = false := rfl
  have hx2 : (Value.builtin "BaseException.__getattribute__" == Value.builtin "object.__getattribute__") = false := by decide +kernel
  have hx1 : (onTheHeap (Value.ref D) && Value.builtin "BaseException.__getattribute__" == Value.builtin "object.__getattribute__") = false := by rw [hx2]; rfl
  unfold getAttr? getAttrBy? getAttrBy
  refine wpAny_bind (wpAny_mkText (wpAny_bind (wpAny_attempt (wpAny_holding (wpAny_bind (L0.at (wpAny_bind (L1.at ?_))))))))
  show wpAny _ _ (if (onTheHeap (Value.ref D) && Value.builtin "BaseException.__getattribute__" == Value.builtin "object.__getattribute__") = true then _ else _) _ _ _
  rw [hx1, if_neg Bool.false_ne_true]
  unfold getAttrByItsOwn hookBefore
  refine wpAny_bind ?_
  rw [if_pos (show onTheHeap (Value.ref D) = true from rfl)]
  refine L2.at ?_
  refine wpAny_bind (wpAny_attempt (wpAny_holding ?_))
  unfold callGetattribute
  rw [hx0, if_neg Bool.false_ne_true]
  unfold boundAndCalled
  rw [PySem.F.excAttr_ValueError.ga.bind (.ref x)]
  refine wpAny_bind (wpAny_pure ?_)
  show wpAny _ _ (call (.builtin "BaseException.__getattribute__") [.ref x, .str "__class__" t]) _ _ _
  refine wpAny_call (codeAny_call_builtin PySem.F.excAttr_ValueError.ga.plain PySem.F.entry_bexc_ga ?_)
  refine @check_slot (model prog w) _ _ ⟨hp, g, d, t + 1, os⟩ "BaseException.__getattribute__" "BaseException" "__getattribute__" (.ref x) [.str "__class__" t] [] _ (by decide +kernel) (by decide +kernel) sub (PySem.F.args_bexc_ga (.ref x) (.str "__class__" t)) ?_
  unfold Builtin.«object.__getattribute__»
  refine wpAny_bind (wpAny_of_eq (a := ((Value.ref x : Value), [Value.str "__class__" t])) (by first | rfl | (simp only [slotArgs]; rfl)) ?_)
  refine wpAny_bind (wpAny_pure (wpAny_bind (L0.at (wpAny_bind (L3.at ?_)))))
  show wpAny _ _ (holding [Value.builtin "object.__class__"] (call (.builtin "getset_descriptor.__get__") [.builtin "object.__class__", .ref x, .ref D]) >>= ret) _ _ _
  refine wpAny_bind (wpAny_holding (wpAny_call (class_get (s := ⟨hp, g, d, t + 1, os⟩) (ox := ox) (od := od) X I T.hm ?_)))
  refine wpAny_pure ?_
  show wpAny _ _ (handedOut (.ref D)) _ _ _
  rw [handedOut_of (v := .ref D) rfl]
  first
    | exact wpAny_pure (wpAny_pure h)
    | exact wpAny_pure h
    | exact wpAny_pure (wpAny_bind (wpAny_pure (wpAny_pure h)))
open PySem.W in
theorem kitx_exc {K : Frag} {x D : Addr} {ox : Obj} {od : Option Obj} (T : L2.ExcC K D) (hfo : findObj K D od "__class__" = some (.bind (.builtin "getset_descriptor.__get__") (.builtin "object.__class__"))) : KitX K (.ref x) (.ref D) (fun h => InstAt h x ox D od) where
  ty := fun _ _ _ I => I.type
  it := fun _ _ X _ => by
    obtain ⟨cdD, hcD, _⟩ := any_some T.hd
    unfold clsIn at hcD
    split at hcD
    · rename_i c' d' cd' sl' ho
      intro A' Q' E' s' k q
      unfold isType loadHead
      exact wpAny_bind (wpAny_loadPart (k _ _ (X _ _ ho)) (wpAny_pure q))
    · cases hcD
  ne := fun h tp dd its n sl X htp => by
    obtain ⟨cdD, hcD, _⟩ := any_some T.hd
    refine Bool.eq_false_iff.mpr fun q => ?_
    have e : D = tp := Value.ref.inj (beq_iff_eq.mp q)
    subst e
    unfold clsIn at hcD
    split at hcD
    · rename_i c' d' cd' sl' ho
      have z := (X _ _ ho).symm.trans htp
      cases z
    · cases hcD
  ca := fun X I k => kin_classX T hfo X I k
theorem fo_cls {K : PySem.W.Frag} {D : Addr} {od : Option Obj} (T : L2.ExcC K D) : PySem.W.findObj K D od "__class__" = some (.bind (.builtin "getset_descriptor.__get__") (.builtin "object.__class__")) := by
  have hc : (PySem.W.clsIn K D).isSome = true := by
    obtain ⟨cd, hc, _⟩ := PySem.W.any_some T.hd
    rw [hc]
    rfl
  cases od with
  | none => exact PySem.W.findObj_dataN hc T.ha T.hn T.ht
  | some o => exact PySem.W.findObj_data hc T.ha T.hn T.ht
variable {X : Cx}
/-- an exception that is tracked, as the library's lookups have it -/
theorem exk_inst {pins : List (Addr × Obj)} {σ : L2.St} {H : Hp} {s : Shared} {a D : Addr} {d : Option Addr} (I : Inv X pins σ H s) (h : H a = some (exk a (.ref D) d)) (hd : ∀ dx, d = some dx → ∃ fs, H dx = some (.xd fs)) : ∃ ox od, PySem.W.InstAt s.heap a ox D od := by
  have ho : ObjOk X.prog X.w H s.heap a (exk a (.ref D) d) := I.hok a _ h
  obtain ⟨⟨o, vs, h1, h2, h3, h4⟩, _⟩ := ho
  cases d with
  | none => exact ⟨o, none, h1, h2, by unfold PySem.W.notCls; rw [h4] <;> rfl, by rw [h3]; trivial⟩
  | some dx =>
    obtain ⟨fs, hf⟩ := hd dx rfl
    have hx : ObjOk X.prog X.w H s.heap dx (.xd fs) := I.hok dx _ hf
    obtain ⟨mA, hns, hr⟩ := hx
    obtain ⟨od, ho, _⟩ := lookIn_ns hns
    exact ⟨o, some od, h1, h2, by unfold PySem.W.notCls; rw [h4] <;> rfl, by rw [h3]; exact ho⟩
def rIsX (K : PySem.W.Frag) : List V → Hp → VK → Prop := fun xs H Q => ∃ (a D : Addr) (d : Option Addr) (c : V) (cv : Value) (b : Bool), xs = [.ref a, c] ∧ H a = some (exk a (.ref D) d) ∧ (∀ dx, d = some dx → ∃ fs, H dx = some (.xd fs)) ∧ L2.ExcC K D ∧ (∀ u, RelV c u → u = cv) ∧ PySem.W.kitOne K (.ref D) cv = some b ∧ Q (.bl b) H
theorem call_isX : CallR X (.builtin "isinstance") (rIsX X.K) := by
  intro pins s σ H xs us Q I r h
  obtain ⟨a, D, d, c, cv, b, rfl, h1, h2, T, hcv, e, q⟩ := h
  cases r with
  | cons rx rr =>
    cases rr with
    | cons rt rr =>
      cases rr
      cases rx
      have ec := hcv _ rt
      subst ec
      obtain ⟨ox, od, J⟩ := exk_inst I h1 h2
      exact PySem.W.kia_one (kitx_exc T (fo_cls T)) I.kIn J e (fun z => nomatch z) fun tk => ⟨.bl b, H, I.kept (t' := tk) fun _ _ z => z, rfl, q⟩
end
section
variable {X : Cx} {P : Zc → Prop} {e : Expr} {p p2 pos : Pos} {va : ZV} {c pe : Str} {cs : List Str}
/-- isinstance(e, c), e a caught error -/
def isB (pe c' c : Str) : Bool := decide (c' = c) || decide (c = pe) || decide (c = "ValueError")
def zIsiE (pe : Str) (cs : List Str) (c : Str) (va : ZV) : ZE := fun S Q => va S fun d S1 => match d with
  | .sh (.exc c' _) => c' ∈ cs ∧ Q (.bl (isB pe c' c)) S1
  | _ => False
theorem rep_exk {K : PySem.W.Frag} {mg : Str → Option Value} {H : Hp} {av : Addr → Prop} {v : V} {f : Option (Str × D)} (r : Rep K mg H av v (.exc c f)) : ∃ a C d, v = .ref a ∧ mg c = some (.ref C) ∧ H a = some (exk a (.ref C) d) ∧ (∀ dx, d = some dx → ∃ fs, H dx = some (.xd fs)) := by
  cases r with
  | exc0 h m => exact ⟨_, _, _, rfl, m, h, fun _ z => by cases z⟩
  | exc1 h m h2 r => exact ⟨_, _, _, rfl, m, h, fun _ z => by cases z; exact ⟨_, h2⟩⟩
theorem pd_isiE (hg : Gl X "isinstance") (hm : X.mg "isinstance" = none) (hg2 : Gl X c) (E : Errs X.K X.mg pe cs) (ha : PV X P e va) (hc : c ∈ cs) (hnv : c ≠ "ValueError" := by decide) (hdb : (c == ("__debug__" : Str)) = false := by decide)
    (he : starEach [e, .Name c p2] X.env = (false, eval e X.env) :: starEach [.Name c p2] X.env := by rfl) (he2 : starEach [.Name c p2] X.env = (false, eval (.Name c p2) X.env) :: starEach [] X.env := by rfl)
    (hpl : (backTo pos (starEach [.Name c p2] X.env)).any (·.1) = false := by rfl) : PD X P (.Call (.Name "isinstance" p) [e, .Name c p2] [] pos) (zIsiE pe cs c va) := by
  obtain ⟨t0, p0, q0⟩ := ha.ex
  obtain ⟨_, C0, _, kc, _⟩ := E.get hc
  have hC0 := kc.mg
  refine ⟨_, pe_callB call_isX hg hm (by decide +kernel) (pa_cons p0 (pa_cons (pe_glob (v := .ref C0) hg2 hC0 rfl hdb) pa_nil he2) he) (by decide) (by decide) he hpl, fun Z hZ S σ H Qz Q ok h k => q0 Z hZ S σ H _ _ ok h fun d S1 v H1 g1 o1 f1 r1 => ?_⟩
  split at g1
  · rename_i c' f
    obtain ⟨hc1, g1⟩ := g1
    unfold isB at g1
    obtain ⟨a, C, dd, rfl, hm', h1, h2⟩ := rep_exk r1
    obtain ⟨C1, C2, PE, k1, k2, k3⟩ := E.kit hc1 hc
    rw [hC0] at k2
    cases k2
    have := k1.mg
    rw [hm'] at this
    cases this
    refine ⟨a, C, dd, .ref C0, .ref C0, _, rfl, h1, h2, k1.X, fun u hu => hu, k3, ?_⟩
    rw [decide_eq_false hnv, Bool.or_false] at g1
    exact k _ S1 _ H1 g1 o1 f1 (.bl _)
  · exact g1.elim
theorem pd_isiV (hg : Gl X "isinstance") (hm : X.mg "isinstance" = none) (hg2 : Gl X "ValueError") (hm2 : X.mg "ValueError" = none) (E : Errs X.K X.mg pe cs) (ha : PV X P e va)
    (he : starEach [e, .Name "ValueError" p2] X.env = (false, eval e X.env) :: starEach [.Name "ValueError" p2] X.env := by rfl) (he2 : starEach [.Name "ValueError" p2] X.env = (false, eval (.Name "ValueError" p2) X.env) :: starEach [] X.env := by rfl)
    (hpl : (backTo pos (starEach [.Name "ValueError" p2] X.env)).any (·.1) = false := by rfl) : PD X P (.Call (.Name "isinstance" p) [e, .Name "ValueError" p2] [] pos) (zIsiE pe cs "ValueError" va) := by
  obtain ⟨t0, p0, q0⟩ := ha.ex
  refine ⟨_, pe_callB call_isX hg hm (by decide +kernel) (pa_cons p0 (pa_cons (pe_bltn (v := .ty "ValueError") hg2 hm2 PyProof.Rows.Boot.«ValueError» rfl (by decide) (by decide)) pa_nil he2) he) (by decide) (by decide) he hpl, fun Z hZ S σ H Qz Q ok h k => q0 Z hZ S σ H _ _ ok h fun d S1 v H1 g1 o1 f1 r1 => ?_⟩
  split at g1
  · rename_i c' f
    obtain ⟨hc1, g1⟩ := g1
    unfold isB at g1
    obtain ⟨a, C, dd, rfl, hm', h1, h2⟩ := rep_exk r1
    obtain ⟨PE, C1, _, k1, _⟩ := E.get hc1
    have := k1.mg
    rw [hm'] at this
    cases this
    refine ⟨a, C, dd, .ty "ValueError", .type "ValueError", true, rfl, h1, h2, k1.X, fun u hu => hu, k1.kitV, ?_⟩
    simp only [decide_true, Bool.or_true] at g1
    exact k _ S1 _ H1 g1 o1 f1 (.bl true)
  · exact g1.elim
/-- e.n, e a caught error with this field -/
def zExF (cs : List Str) (n : Str) (va : ZV) : ZE := fun S Q => va S fun d S1 => match d with
  | .sh (.exc c (some (m, x))) => c ∈ cs ∧ m = n ∧ Q x S1
  | _ => False
theorem pd_exF {cs0 : List Str} (E : Errs X.K X.mg pe cs0) (hsub : ∀ c ∈ cs, c ∈ cs0) {n : Str} (hno : ∀ c ∈ cs, ∀ C, X.mg c = some (.ref C) → PySem.W.findIn X.K (.ref C) n = some none) (ha : PV X P e va) (hb : attributeBase e n X.env (eval e X.env) = eval e X.env := by rfl) : PD X P (.Attribute e n pos) (zExF cs n va) := by
  obtain ⟨t0, p0, q0⟩ := ha.ex
  refine ⟨fun σ H Q => t0 σ H fun x H1 => ∃ a C dx y, x = .ref a ∧ L2.ExcC X.K C ∧ PySem.W.findIn X.K (.ref C) n = some none ∧ H1 a = some (exk a (.ref C) (some dx)) ∧ H1 dx = some (.xd [(n, y)]) ∧ Q y H1, ⟨fun pins s σ H Q I h => ?_⟩, fun Z hZ S σ H Qz Q ok h kq => q0 Z hZ S σ H _ _ ok h fun dv S1 v H1 h1 o1 f1 r1 => ?_⟩
  · refine attr_of hb (thn (p0.run pins s σ H _ I h) fun u s1 ⟨x, H1, I1, rx, a, C, dx, y, ex, T, hn, ea, ed, q⟩ => ?_)
    subst ex
    obtain rfl : u = Value.ref a := rx
    have ho : ObjOk X.prog X.w H1 s1.heap a (exk a (.ref C) (some dx)) := I1.hok a _ ea
    obtain ⟨⟨o, vs, h1, h2, h3, h4⟩, _⟩ := ho
    have hx : ObjOk X.prog X.w H1 s1.heap dx (.xd [(n, y)]) := I1.hok dx _ ed
    obtain ⟨mA, hns, hr⟩ := hx
    obtain ⟨od, ho, hl⟩ := lookIn_ns hns
    obtain ⟨u, hu, ru⟩ := RelO.some_of (v := y) (o := mA n) (by have := hr n; rwa [show List.lookup n [(n, y)] = some y by simp [List.lookup]] at this)
    have J : PySem.W.InstAt s1.heap a o C (some od) := ⟨h1, h2, by unfold PySem.W.notCls; rw [h4] <;> rfl, by rw [h3]; exact ho⟩
    exact HandSPX.exc_get I1.kIn J T.hg T.hk T.hs (PySem.W.findObj_own T.hd hn rfl (by rw [hl, hu])) (handed_of ru) ⟨y, H1, I1.tok _, ru, q⟩
  · split at h1
    · rename_i c m x
      obtain ⟨hc, rfl, h1⟩ := h1
      have r1 : Rep X.K X.mg H1 (avs Z S1 σ) v (.exc c (some (m, x))) := r1
      cases r1 with
      | exc1 e1 e2 e3 e4 =>
        obtain ⟨PE, C1, _, k1, _⟩ := E.get (hsub c hc)
        have := k1.mg
        rw [e2] at this
        cases this
        exact ⟨_, _, _, _, rfl, k1.X, hno c hc _ e2, e1, e3, kq x S1 _ H1 h1 o1 f1 e4⟩
    · exact h1.elim
end
end Zz

/-! The pure layer: try .. except X as n: m = n, over data. -/
namespace Zz
open PySem PySem.Spec PyProof.Rows L2
/-- a wish of an exception: its class, its field, the slots there -/
abbrev ZWs := Str → Option (Str × D) → SS → Prop
def ImpW (X : Cx) (Z : Zc) (S : SS) (σ : L2.St) (H : Hp) (w : ZWs) (W : WX) : Prop := ∀ c f S' σ' H' cls dd, w c f S' → Ok X Z S' σ' H' → Frm X Z S σ H S' σ' H' → X.mg c = some cls → XF X.K X.mg (avs Z S' σ') dd f H' → W cls dd σ' H'
theorem ImpW.frm {X : Cx} {Z : Zc} {S S' : SS} {σ σ' : L2.St} {H H' : Hp} {w : ZWs} {W : WX} (i : ImpW X Z S σ H w W) (f : Frm X Z S σ H S' σ' H') : ImpW X Z S' σ' H' w W := fun c g S'' σ'' H'' cls dd h o fr hm xf => i c g S'' σ'' H'' cls dd h o (f.trans fr) hm xf
/-- a statement in a try's body -/
structure PXd (X : Cx) (P : Zc → Prop) (st : Stmt) (t : ZWs → ZS) : Prop where
  ex : ∀ (W : WX) (pn : List (Addr × Obj)) (xe : Value → Shared → Prop), Takes (X.tr pn xe) W → PassesOwn (model X.prog X.w) X.A X.env xe → ∃ t0 : TS, PS (X.tr pn xe) st t0 ∧
    ∀ (Z : Zc), P Z → ∀ (S : SS) (σ : L2.St) (H : Hp) (E : ZD) (w : ZWs) (D0 : Ends), Ok X Z S σ H → t w E S → Imp X Z S σ H E D0 → ImpW X Z S σ H w W → t0 D0 σ H
structure PXsd (X : Cx) (P : Zc → Prop) (st : List Stmt) (t : ZWs → ZS) : Prop where
  ex : ∀ (W : WX) (pn : List (Addr × Obj)) (xe : Value → Shared → Prop), Takes (X.tr pn xe) W → PassesOwn (model X.prog X.w) X.A X.env xe → ∃ t0 : TS, PSs (X.tr pn xe) st t0 ∧
    ∀ (Z : Zc), P Z → ∀ (S : SS) (σ : L2.St) (H : Hp) (E : ZD) (w : ZWs) (D0 : Ends), Ok X Z S σ H → t w E S → Imp X Z S σ H E D0 → ImpW X Z S σ H w W → t0 D0 σ H
def NoE (P : Zc → Prop) : Zc → Prop := fun Z => ∃ Z0, P Z0 ∧ Z = { Z0 with ez := fun _ _ => False }
theorem Cd.tr {k : Nat} {X : Cx} {P : Zc → Prop} (C : Cd k X P) {pn : List (Addr × Obj)} {xe : Value → Shared → Prop} (po : PassesOwn (model X.prog X.w) X.A X.env xe) : Cd k (X.tr pn xe) (NoE P) :=
  ⟨C.hr, C.gd, C.calm, C.nd, po, fun u s' ⟨_, _, _, _, _, _, _, _, _, _, _, _, _, _, _, _, c⟩ => by
    obtain ⟨Z', ⟨Z, _, e1⟩, c', f, h, _⟩ := c
    subst e1
    exact h.elim, fun Z p ⟨Z0, h0, e⟩ => ⟨_, C.cl Z0 p h0, by rw [e]⟩⟩
theorem NoBag.noE {P : Zc → Prop} (h : NoBag P) : NoBag (NoE P) := fun Z ⟨Z0, h0, e⟩ => by rw [e]; exact h Z0 h0
section
variable {X : Cx} {Z : Zc} {S : SS} {σ : L2.St} {H : Hp}
variable {pn : List (Addr × Obj)} {xe : Value → Shared → Prop} {ez0 : Str → Option (Str × D) → Prop}
theorem Ok.ez (ok : Ok X Z S σ H) : Ok (X.tr pn xe) { Z with ez := ez0 } S σ H := ⟨ok.len, ⟨ok.sl.sh, ok.sl.ow⟩, ok.inj, ok.own, ok.ext, ok.avd, ok.bag⟩
theorem Ok.ofEz (ok : Ok (X.tr pn xe) { Z with ez := ez0 } S σ H) : Ok X Z S σ H := ⟨ok.len, ⟨ok.sl.sh, ok.sl.ow⟩, ok.inj, ok.own, ok.ext, ok.avd, ok.bag⟩
theorem Frm.ofEz {S' : SS} {σ' : L2.St} {H' : Hp} (f : Frm (X.tr pn xe) { Z with ez := ez0 } S σ H S' σ' H') : Frm X Z S σ H S' σ' H' := ⟨f.rp, f.pr⟩
theorem Imp.ez {E : ZD} {D0 : Ends} (i : Imp X Z S σ H E D0) : Imp (X.tr pn xe) { Z with ez := ez0 } S σ H E D0 :=
  ⟨fun _ _ _ h o f => i.nx _ _ _ h o.ofEz f.ofEz, fun r _ _ _ _ h o f rr => i.rt r _ _ _ _ h o.ofEz f.ofEz (by
    cases r with
    | sh d => exact rr
    | ow xs => obtain ⟨a, e, fr⟩ := rr; exact ⟨a, e, ⟨fr.at_, fr.new, fr.nav, ⟨fr.sl.sh, fr.sl.ow⟩⟩⟩
    | un => exact rr), fun _ _ _ h o f => i.bk _ _ _ h o.ofEz f.ofEz, fun _ _ _ h o f => i.ct _ _ _ h o.ofEz f.ofEz⟩
end
section
variable {X : Cx} {P : Zc → Prop} {k : Nat} {st : Stmt} {rest : List Stmt} {t u : ZWs → ZS} {pos : Pos}
theorem xsd_one (h : PXd X P st t) : PXsd X P [st] t := ⟨fun W pn xe tk po => by
  obtain ⟨t0, p0, q0⟩ := h.ex W pn xe tk po
  exact ⟨_, pss_one p0, q0⟩⟩
def zSeqX (t u : ZWs → ZS) : ZWs → ZS := fun w E S => t w { E with nx := u w E } S
theorem xsd_cons (h1 : PXd X P st t) (h2 : PXsd X P rest u) : PXsd X P (st :: rest) (zSeqX t u) := ⟨fun W pn xe tk po => by
  obtain ⟨t0, p0, q0⟩ := h1.ex W pn xe tk po
  obtain ⟨t1, p1, q1⟩ := h2.ex W pn xe tk po
  exact ⟨_, pss_cons p0 p1, fun Z hZ S σ H E w D0 ok h i iw => q0 Z hZ S σ H _ w _ ok h ⟨fun S' σ' H' h2 o f => q1 Z hZ S' σ' H' E w D0 o h2 (i.frm f) (iw.frm f), i.rt, i.bk, i.ct⟩ iw⟩⟩
theorem xsd_nil : PXsd X P [] (fun _ => zNext) := ⟨fun W pn xe tk po => ⟨_, pss_nil, fun Z hZ S σ H E w D0 ok h i iw => i.nx S σ H h ok .refl⟩⟩
def zPl (t : ZS) : ZWs → ZS := fun _ => t
/-- a statement that raises nothing -/
theorem xd_plain {t : ZS} (C : Cd k X P) (h : ∀ (pn : List (Addr × Obj)) (xe : Value → Shared → Prop), Cd k (X.tr pn xe) (NoE P) → PSd (X.tr pn xe) (NoE P) st t) : PXd X P st (zPl t) := ⟨fun W pn xe tk po => by
  obtain ⟨t0, p0, q0⟩ := (h pn xe (C.tr po)).ex
  exact ⟨t0, p0, fun Z hZ S σ H E w D0 ok h i iw => q0 { Z with ez := fun _ _ => False } ⟨Z, hZ, rfl⟩ S σ H E D0 ok.ez h i.ez⟩⟩
def zIfX (c : ZT) (t u : ZWs → ZS) : ZWs → ZS := fun w E S => c S fun b S1 => (b = true → t w E S1) ∧ (b = false → u w E S1)
theorem xd_if {c : Expr} {a b : List Stmt} {tc : ZT} (C : Cd k X P) (hc : ∀ (pn : List (Addr × Obj)) (xe : Value → Shared → Prop), Cd k (X.tr pn xe) (NoE P) → PTd (X.tr pn xe) (NoE P) c tc) (ha : PXsd X P a t) (hb : PXsd X P b u) : PXd X P (.If c a b pos) (zIfX tc t u) := ⟨fun W pn xe tk po => by
  obtain ⟨tC, pC, qC⟩ := (hc pn xe (C.tr po)).ex
  obtain ⟨t0, p0, q0⟩ := ha.ex W pn xe tk po
  obtain ⟨t1, p1, q1⟩ := hb.ex W pn xe tk po
  refine ⟨_, ps_if pC p0 p1, fun Z hZ S σ H E w D0 ok h i iw => qC { Z with ez := fun _ _ => False } ⟨Z, hZ, rfl⟩ S σ H _ _ ok.ez h fun b S1 H1 h1 o f => ?_⟩
  cases b with
  | true => exact iteT (q0 Z hZ S1 σ H1 E w D0 o.ofEz (h1.1 rfl) (i.frm f.ofEz) (iw.frm f.ofEz))
  | false => exact iteF (q1 Z hZ S1 σ H1 E w D0 o.ofEz (h1.2 rfl) (i.frm f.ofEz) (iw.frm f.ofEz))⟩
end
/-! ### a call that may raise -/
section
variable {X : Cx} {W : WX} {k : Nat} {f : Addr} {fd : FuncData} {ps : List Str} {sp : Sp} {x : Str} {p pos : Pos} {e : Expr} {es : List Expr} {t : TA}
theorem run_fnpS {pins : List (Addr × Obj)} {σ : L2.St} {H : Hp} {s : Shared} {Q : VK} {us : List Value} {vs : List V} (F : FnP X.prog X.w X.K X.mg X.base k f fd ps sp) (hr : Room k X.A) (hg : X.A.guards = some []) (hb : Binds X.K fd ps []) (tk : Takes X W)
    (I : Inv X pins σ H s) (r : Vals vs us) (h : sp vs H Q (fun cls d H' => W cls d σ H')) : wpAny (model X.prog X.w) X.A (call (.ref f) us) (EP X pins σ Q) X.xe s := by
  have hl : us.length = ps.length := by rw [← r.length]; exact F.len _ _ _ _ h
  have b := hb s us I.kIn (by rw [List.append_nil]; exact hl)
  rw [List.append_nil] at b
  refine wpAny_call (codeAny_mono (F.run X.A X.stack s H ⟨us, []⟩ us vs Q _ hr hg I.env0 b r h) fun res s' hq => ?_)
  cases res with
  | error e => exact tk _ _ (XE.of_call I (fun _ _ _ h => h) hq)
  | ok fl =>
    cases fl with
    | ret u => exact I.after hq
    | _ => exact hq.elim
theorem pe_callpS (F : FnP X.prog X.w X.K X.mg X.base k f fd ps sp) (hr : Room k X.A) (hgd : X.A.guards = some []) (hg : Gl X x) (hm : X.mg x = some (.ref f)) (hk : PySem.W.keepIn X.K (.ref f) = true) (hb : Binds X.K fd ps []) (tk : Takes X W)
    (ha : PA X (e :: es) t) (hdb : (x == ("__debug__" : Str)) = false := by decide) (he : starEach (e :: es) X.env = (false, eval e X.env) :: starEach es X.env := by rfl) (hpl : (backTo pos (starEach es X.env)).any (·.1) = false := by rfl) :
    PE X (.Call (.Name x p) (e :: es) [] pos) (fun σ H Q => t σ H fun vs H1 => sp vs H1 Q (fun cls d H' => W cls d σ H')) :=
  ⟨fun pins s σ H Q I h => wpAny_Call_Name_kw (ld_glob I hg hm (PySem.W.callWith_K (h₀ := X.base) I.ok.mod.kin hk (thn (ha.run pos pins s σ H _ I h) fun us s1 ⟨vs, H1, I1, r, q⟩ => ⟨I1.kIn, run_fnpS F hr hgd hb tk I1 r q⟩) he hpl) hdb)⟩
end
section
variable {X : Cx} {P : Zc → Prop} {k j : Nat} {x : Str} {p pos pos2 : Pos} {e : Expr} {es : List Expr} {ta : ZA}
/-- f(..) as a statement -/
def zCallX (sp : ZSp) (ta : ZA) : ZWs → ZS := fun w E S => ta S fun ds S1 => sp ds (slD fun _ => E.nx S1) fun c f => w c f S1
theorem xd_call {sp : ZSp} (F : Df X.prog X.w X.K X.mg X.base j x (spZ X.K X.mg sp)) (C : Cd k X P) (hg : Gl X x) (ha : ∀ (pn : List (Addr × Obj)) (xe : Value → Shared → Prop), Cd k (X.tr pn xe) (NoE P) → PAd (X.tr pn xe) (NoE P) (e :: es) ta) (hj : j ≤ k := by decide)
    (hs : swapsWith (.Call (.Name x p) (e :: es) [] pos) none pos2.line X.env = pure false := by rfl) (hdb : (x == ("__debug__" : Str)) = false := by decide) (he : starEach (e :: es) X.env = (false, eval e X.env) :: starEach es X.env := by rfl) (hpl : (backTo pos (starEach es X.env)).any (·.1) = false := by rfl) :
    PXd X P (.Expr (.Call (.Name x p) (e :: es) [] pos) pos2) (zCallX sp ta) := ⟨fun W pn xe tk po => by
  obtain ⟨f, fd, ps, hm, hk, hb, F⟩ := F.ex
  obtain ⟨t0, p0, q0⟩ := (ha pn xe (C.tr po)).ex
  refine ⟨_, ps_expr (pe_callpS (X := X.tr pn xe) (F.mono hj) C.hr C.gd hg hm hk hb tk p0 hdb he hpl) hs, fun Z hZ S σ H E w D0 ok h i iw => ?_⟩
  refine q0 { Z with ez := fun _ _ => False } ⟨Z, hZ, rfl⟩ S σ H _ _ ok.ez h fun ds S1 vs H1 h1 o1 f1 r1 => ?_
  have o1 : Ok X Z S1 σ H1 := o1.ofEz
  have f1 : Frm X Z S σ H S1 σ H1 := f1.ofEz
  refine ⟨avs Z S1 σ, ds, _, _, r1, h1, o1.avsd, fun res v H' q s r => ?_, fun c g cls dd H' q s hc hf => iw c g S1 σ H' cls dd q (o1.same s) (f1.trans (.same o1 s)) hc hf⟩
  cases res with
  | sh d => exact i.nx _ _ _ q (o1.same s) (f1.trans (.same o1 s))
  | ow xs => exact i.nx _ _ _ q (o1.same s) (f1.trans (.same o1 s))
  | un => exact q.elim⟩
end
/-! ### the try -/
def zTryK (cs : List Str) (i mi : Nat) (tb : ZWs → ZS) : ZS := fun E S => tb (fun c f S1 => c ∈ cs ∧ E.nx (((S1.set i (.sh (.exc c f))).set mi (.sh (.exc c f))).set i .un)) E S
section
variable {X : Cx} {P : Zc → Prop} {k i mi : Nat} {x n m : Str} {cs : List Str} {body : List Stmt} {tb : ZWs → ZS} {np mp np2 ap pos pos' : Pos}
theorem exc_rep {K : PySem.W.Frag} {mg : Str → Option Value} {H : Hp} {av : Addr → Prop} {a C : Addr} {c : Str} {dd : Option Addr} {f : Option (Str × D)} (ha : H a = none) (hm : mg c = some (.ref C)) (xf : XF K mg av dd f H) : Rep K mg (upd H a (exk a (.ref C) dd)) av (.ref a) (.exc c f) := by
  have s : Same H (upd H a (exk a (.ref C) dd)) := Same.upd ha
  unfold XF at xf
  split at xf
  · exact .exc0 upd_same hm
  · obtain ⟨v, h1, h2⟩ := xf
    exact .exc1 upd_same hm (s _ _ h1) (h2.carry (.same s fun _ z => z))
  · exact xf.elim
theorem sd_tryK (Er : Errs X.K X.mg x cs) (C : Cd k X P) (hbi : ∀ Z, P Z → Z.bag = none ∨ i ≠ 0) (hbm : ∀ Z, P Z → Z.bag = none ∨ mi ≠ 0) (hb : PXsd X P body tb) (hg : Gl X x)
    (hs : X.stack = X.env :: X.outer := by rfl) (hf : X.env.frame = some X.env.locals := by rfl) (hi : X.N[i]? = some n := by rfl) (hln : X.env.kindOf n = some .local := by rfl) (hmi : X.N[mi]? = some m := by rfl) (hlm : Loc X.env.scope m := by first | exact Or.inl rfl | exact Or.inr rfl)
    (hfm : X.fn m = true ∨ X.env.scope.names.lookup m = some .local := by first | exact .inl rfl | exact .inr rfl) (hdx : (x == ("__debug__" : Str)) = false := by decide)
    (hvn : Vis X.env.scope n := by first | exact Or.inl rfl | exact Or.inr (Or.inl rfl) | exact Or.inr (Or.inr rfl)) (hd1 : (n == ("__debug__" : Str)) = false := by decide) (hd2 : (n == ("__classdict__" : Str)) = false := by decide) (hsw : swapsWith (.Name n np2) (some (.Name m mp)) ap.line X.env = pure false := by rfl) :
    PSd X P (.Try body [.ExceptHandler (some (.Name x np)) (some n) [.Assign [.Name m mp] (.Name n np2) ap] pos'] [] [] pos) (zTryK cs i mi tb) := by
  obtain ⟨PE, hPE, _⟩ := Er.base
  refine ⟨_, ps_try_keep (t := fun D σ H => ∀ (W : WX) (pn : List (Addr × Obj)) (xe : Value → Shared → Prop), Takes (X.tr pn xe) W → PassesOwn (model X.prog X.w) X.A X.env xe → (∀ cls d σ H, wKeep X.K (.ref PE) mi i D cls d σ H → W cls d σ H) → ∃ tb : TS, PSs (X.tr pn xe) body tb ∧ tb D σ H)
    hs hf C.nd hi hln hmi hlm hfm ⟨hg, hdx, .inl hPE⟩ hvn hd1 hd2 hsw (fun D σ H h => h), fun Z hZ S σ H E D0 ok h j W pn xe tk po hw => ?_⟩
  obtain ⟨t0, p0, q0⟩ := hb.ex W pn xe tk po
  refine ⟨t0, p0, q0 Z hZ S σ H E _ D0 ok h j fun c f S' σ' H' cls dd hE o fr hm xf => hw _ _ _ _ ?_⟩
  obtain ⟨hc, hE⟩ := hE
  obtain ⟨PE', Cc, k1, k2, k3⟩ := Er.get hc
  rw [hPE] at k1
  cases k1
  have := k2.mg
  rw [hm] at this
  cases this
  refine ⟨k3, fun a ha => ?_⟩
  have s : Same H' (upd H' a (exk a (.ref Cc) dd)) := Same.upd ha
  have r := exc_rep (av := avs Z S' σ') ha hm xf
  obtain ⟨o2, c2⟩ := (o.same s).setSh (i := i) r (hbi Z hZ)
  obtain ⟨o3, c3⟩ := o2.setSh (i := mi) (r.carry c2) (hbm Z hZ)
  obtain ⟨o4, k4⟩ := o3.setUn (i := i) (hbi Z hZ)
  exact j.nx _ _ _ hE o4 (fr.trans ((Frm.same o s).trans ((frm_set c2).trans ((frm_set c3).trans (.of (.same (Same.refl _) k4) fun _ _ => rfl)))))
end
end Zz

/-! The pure layer: xs * k, texts joined by +, str(i), {}, errors made as values. -/
namespace Zz
open PySem PySem.Spec PyProof.Rows L2
section
variable {X : Cx} {P : Zc → Prop} {a b e : Expr} {p pos : Pos} {ta tb te : ZE} {va : ZV}
/-- xs * k, a list -/
def zRep (ta tb : ZE) : ZA := fun S Q => ta S fun d S1 => tb S1 fun e S2 => match d, e with
  | .lst xs, .int k => (-(2 ^ 63) ≤ k ∧ k < 2 ^ 63 ∧ xs.length * k.toNat ≤ sizeLine) ∧ Q (List.replicate k.toNat xs).flatten S2
  | _, _ => False
theorem Reps.rep {K : PySem.W.Frag} {mg : Str → Option Value} {H : Hp} {av : Addr → Prop} {vs : List V} {ds : List D} (r : Reps K mg H av vs ds) : ∀ n : Nat, Reps K mg H av (List.replicate n vs).flatten (List.replicate n ds).flatten
  | 0 => .nil
  | n + 1 => by
    rw [List.replicate_succ, List.replicate_succ, List.flatten_cons, List.flatten_cons]
    exact r.append (Reps.rep r n)
theorem pf_rep (ha : PD X P a ta) (hb : PD X P b tb) : PF X P (.BinOp a .Mult b pos) (zRep ta tb) := by
  obtain ⟨t0, p0, q0⟩ := ha.ex
  obtain ⟨t1, p1, q1⟩ := hb.ex
  refine ⟨_, pe_op op_rep p0 p1, fun Z hZ S σ H Qz Q ok h k => ?_⟩
  refine q0 Z hZ S σ H _ _ ok h fun d S1 v H1 h1 o1 f1 r1 => ?_
  refine q1 Z hZ S1 σ H1 _ _ o1 h1 fun e S2 u H2 h2 o2 f2 r2 => ?_
  split at h2
  · obtain ⟨l, us, rfl, g1, g2⟩ := (f2.rp _ _ r1).lst_inv
    obtain rfl := r2.int_inv
    exact ⟨l, _, us, rfl, rfl, g1, h2.1.1, h2.1.2.1, by rw [g2.length]; exact h2.1.2.2, fresh_k o2 (f1.trans f2) (g2.rep _) h2.2 k⟩
  · exact h2.elim
/-- s + t, texts -/
def fCatS : D → D → (D → Prop) → Prop := fun d e Q => match d, e with
  | .str s, .str t => s.length + t.length ≤ sizeLine ∧ Q (.str (s ++ t))
  | _, _ => False
theorem opz_catS {K mg} : OpZ K mg (fun x y H Q => ∃ i j, x = .str i ∧ y = .str j ∧ i.length + j.length ≤ sizeLine ∧ Q (.str (i ++ j)) H) fCatS := by
  intro H av x y d e Qd Q _ r1 r2 h k
  unfold fCatS at h
  split at h
  · obtain rfl := r1.str_inv
    obtain rfl := r2.str_inv
    exact ⟨_, _, rfl, rfl, h.1, k _ _ H h.2 (Same.refl H) (.str _)⟩
  · exact h.elim
abbrev zCatS := zOp fCatS
theorem pd_catS (ha : PD X P a ta) (hb : PD X P b tb) : PD X P (.BinOp a .Add b pos) (zCatS ta tb) := pd_op op_add_str opz_catS ha hb
/-- str(i) -/
def fStrI : ZB := fun ds Q => match ds with
  | [.int i] => i.natAbs.log2 < 1920 ∧ Q (.str (toString i))
  | _ => False
theorem bz_strI {K mg} : BltZ K mg (fun xs H Q => ∃ i, xs = [.int i] ∧ i.natAbs.log2 < 1920 ∧ Q (.str (toString i)) H) fStrI := by
  intro H av vs ds Qd Q _ r h k
  unfold fStrI at h
  split at h
  · obtain ⟨v, rfl, r1⟩ := reps1 r
    obtain rfl := r1.int_inv
    exact ⟨_, rfl, h.1, k _ _ H h.2 (Same.refl H) (.str _)⟩
  · exact h.elim
/-- {} -/
def zDic : ZE := fun S Q => Q .dic S
theorem pd_dic : PD X P (.Dict [] [] pos) zDic := ⟨_, pe_dnewK, fun Z hZ S σ H Qz Q ok h k a ha => by
  have s : Same H (upd H a (.dK [])) := Same.upd ha
  exact k .dic S _ _ h (ok.same s) (.same ok s) (.dic upd_same fun z => ok.avsd a z ha)⟩

/-! ### an error as a value -/
def tOfMk (t : L2.St → Hp → XK → Prop) : TE := fun σ H Q => t σ H fun cls d H' => ∀ a, H' a = none → Q (.ref a) (upd H' a (exk a cls d))
theorem pe_of_mk {t : L2.St → Hp → XK → Prop} (h : PMk X e t) : PE X e (tOfMk t) := by
  refine ⟨fun pins s σ H Q I hq => ?_⟩
  refine wpAny_mono (h pins s σ H _ I hq) (fun u s1 hu => ?_) fun _ _ x => x
  obtain ⟨a, oe, vs, sI, H', cls, d, rfl, J, k, hne, ha, hz, hd, h1, na, os, ag, r, q⟩ := hu
  have J1 : Inv X pins σ H' { sI with gens := s1.gens, os := s1.os, drawn := s1.drawn, toks := s1.toks } := ⟨J.ok, os.trans J.os, ag, J.base, J.loc, J.cell, J.free, J.freeC, J.pin, J.hok, J.len⟩
  have new : ObjOk X.prog X.w (upd H' a (exk a cls d)) s1.heap a (exk a cls d) := ⟨⟨oe, vs, ha, hz.1, hz.2, hd⟩, ⟨oe, ha⟩, fun h1 h2 ⟨o, vs, q1, q2⟩ hk => ⟨o, vs, hk o q1, q2⟩⟩
  exact ⟨.ref a, _, J1.laidN (h' := s1.heap) (t' := s1.toks) k hne na new, rfl, q a na⟩
variable {k j : Nat} {c n : Str}
/-- C(e), C an own class of errors without __init__ -/
def zExcV (c : Str) (te : ZE) : ZE := fun S Q => te S fun _ S1 => Q (.exc c none) S1
theorem pd_excV (h : Er X.K X.mg c) (hg : Gl X c) (he : PD X P e te) (hs : starEach [e] X.env = (false, eval e X.env) :: starEach [] X.env := by rfl) (hdb : (c == ("__debug__" : Str)) = false := by decide) :
    PD X P (.Call (.Name c p) [e] [] pos) (zExcV c te) := by
  obtain ⟨Ca, hC, h1, h2, h3, h4⟩ := h.ex
  obtain ⟨t0, p0, q0⟩ := he.ex
  refine ⟨_, pe_of_mk (SkE.pmk_own1 PySem.F.excBase_ValueError h1 hC h2 (raises_own h3 h4) hg p0 hs hdb), fun Z hZ S σ H Qz Q ok h kq => q0 Z hZ S σ H _ _ ok h fun d S1 v H1 g1 o f r a ha => ?_⟩
  have s : Same H1 (upd H1 a (exk a (.ref Ca) none)) := Same.upd ha
  exact kq _ S1 _ _ g1 (o.same s) (f.trans (.same o s)) (.exc0 upd_same hC)
def zExcF (c n : Str) (te : ZE) : ZE := fun S Q => te S fun d S1 => Q (.exc c (some (n, d))) S1
theorem pd_excF (h : Ei X.prog X.w X.K X.mg X.base j c n) (C : Cd k X P) (hg : Gl X c) (he : PD X P e te) (hj : j + 1 ≤ k := by decide) (hs : starEach [e] X.env = (false, eval e X.env) :: starEach [] X.env := by rfl) (hdb : (c == ("__debug__" : Str)) = false := by decide)
    (hpl : (backTo pos (starEach [] X.env)).any (·.1) = false := by rfl) : PD X P (.Call (.Name c p) [e] [] pos) (zExcF c n te) := by
  obtain ⟨Ca, fI, fd, ps, hC, T, iC, tI, hno, hb, F⟩ := h.ex
  obtain ⟨t0, p0, q0⟩ := he.ex
  refine ⟨_, pe_of_mk (pmk_oex (ds := []) (dvs := []) T iC tI F (Room.mono C.hr hj) hb .nil pass0 hg hC (pa_cons p0 pa_nil hs) hdb hs hpl), fun Z hZ S σ H Qz Q ok h kq => q0 Z hZ S σ H _ _ ok h fun d S1 v H1 g1 o f r => ?_⟩
  refine ⟨Nat.le_of_ble_eq_true rfl, fun a ha => ⟨a, Ca, v, rfl, T, hno, upd_same, fun dx hdx hne => ⟨rfl, dx, [(n, v)], upd_same, ?_, ?_, ?_⟩⟩⟩
  · rw [upd_ne hne, upd_same]
  · rw [upd_ne hne] at hdx; exact hdx
  · rw [upd_ne hne] at hdx
    generalize hH : upd (L2.del (upd (upd (upd H1 a (exo a Ca none)) dx (exd dx [(n, v)])) a (exo a Ca (some dx))) a) dx (.xd [(n, v)]) = H3
    have s : Same H1 H3 := fun b o eb => by
      have n1 : b ≠ a := fun z => by rw [z, ha] at eb; cases eb
      have n2 : b ≠ dx := fun z => by rw [z, hdx] at eb; cases eb
      rw [← hH, upd_ne n2, L2.del_ne n1, upd_ne n1, upd_ne n2, upd_ne n1]
      exact eb
    have hd : H3 dx = some (.xd [(n, v)]) := by rw [← hH, upd_same]
    intro a2 ha2
    have s2 : Same H3 (upd H3 a2 (exk a2 (.ref Ca) (some dx))) := Same.upd ha2
    have s3 : Same H1 (upd H3 a2 (exk a2 (.ref Ca) (some dx))) := fun b o e => s2 b o (s b o e)
    exact kq _ S1 _ _ g1 (o.same s3) (f.trans (.same o s3)) (.exc1 upd_same hC (s2 _ _ hd) (r.carry (.same s3 fun _ z => z)))
end

/-! ### C(..) in a try -/
section
variable {X : Cx} {W : WX} {P : Zc → Prop} {k : Nat} {f C : Addr} {fd : FuncData} {ps : List Str} {sp : Sp} {x : Str} {p pos : Pos} {e : Expr} {es : List Expr} {t : TA} {ta : ZA}
theorem run_makePS {pins : List (Addr × Obj)} {σ : L2.St} {H : Hp} {s : Shared} {Q : VK} {us : List Value} {vs : List V} (M : Mk X.K C f) (F : FnP X.prog X.w X.K X.mg X.base k f fd ps sp) (hr : Room (k + 1) X.A) (hgd : X.A.guards = some []) (hb : Binds X.K fd ps [])
    (tk : Takes X W) (I : Inv X pins σ H s) (r : Vals vs us)
    (h : ∀ x dx, H x = none → H dx = none → dx ≠ x → sp (.ref x :: vs) (upd (upd H dx (.own x)) x (.ins C dx [])) (fun v H2 => v = .non ∧ Q (.ref x) H2) (fun cls d H' => W cls d σ H')) :
    wpAny (model X.prog X.w) X.A (call (.ref C) us) (EP X pins σ Q) X.xe s := by
  have q := h (s.heap.objs.size + 1) s.heap.objs.size (I.hok.fresh (Nat.le_succ _)) (I.hok.fresh (Nat.le_refl _)) (Nat.ne_of_lt (Nat.lt_succ_self _))
  have J := Inv.made (C := C) I
  have rr : Vals (V.ref (s.heap.objs.size + 1) :: vs) (Value.ref (s.heap.objs.size + 1) :: us) := .cons rfl r
  have hl : (Value.ref (s.heap.objs.size + 1) :: us).length = ps.length := by
    rw [← rr.length]
    exact F.len _ _ _ _ q
  have bd := hb _ (Value.ref (s.heap.objs.size + 1) :: us) J.kIn (by rw [List.append_nil]; exact hl)
  rw [List.append_nil] at bd
  refine wpAny_call (make_map (f := f) I.kIn M.makes M.init (beq_iff_eq.mp M.fn) (codeAny_mono (F.run _ X.stack _ _ ⟨Value.ref (s.heap.objs.size + 1) :: us, []⟩ _ _ _ _ (hr.make C us []) (by rw [under_guards]; exact hgd) (J.env0.make C us []) bd rr q) fun res z hz => ?_))
  cases res with
  | error er => exact tk _ _ (XE.of_call J (fun _ _ _ h => h) hz)
  | ok fl =>
    cases fl with
    | ret u =>
      obtain ⟨v, H', J2, rv, ev, q3⟩ := J.after hz
      subst ev
      exact ⟨rv, V.ref (s.heap.objs.size + 1), H', J2, rfl, q3⟩
    | _ => exact hz.elim
theorem pe_makePS (M : Mk X.K C f) (F : FnP X.prog X.w X.K X.mg X.base k f fd ps sp) (hr : Room (k + 1) X.A) (hgd : X.A.guards = some []) (hg : Gl X x) (hm : X.mg x = some (.ref C)) (hb : Binds X.K fd ps []) (tk : Takes X W)
    (ha : PA X (e :: es) t) (hdb : (x == ("__debug__" : Str)) = false := by decide) (he : starEach (e :: es) X.env = (false, eval e X.env) :: starEach es X.env := by rfl) (hpl : (backTo pos (starEach es X.env)).any (·.1) = false := by rfl) :
    PE X (.Call (.Name x p) (e :: es) [] pos) (fun σ H Q => tMake C sp [] (fun cls d H' => W cls d σ H') t σ H Q) := by
  refine ⟨fun pins z σ H Q I h => wpAny_Call_Name_kw (ld_glob I hg hm (PySem.W.callWith_K (h₀ := X.base) I.ok.mod.kin M.kp (thn (ha.run pos pins z σ H _ I h) fun us s1 ⟨vs, H1, I1, r, q⟩ => ⟨I1.kIn, run_makePS M F hr hgd hb tk I1 r fun y dy h1 h2 h3 => ?_⟩) he hpl) hdb)⟩
  have := q y dy h1 h2 h3
  rwa [List.append_nil] at this
end
section
variable {X : Cx} {P : Zc → Prop} {k j : Nat} {c : Str} {p pos pos2 : Pos} {e : Expr} {es : List Expr} {ta : ZA} {sp : ZSp}
theorem xd_make (F : Kl X.prog X.w X.K X.mg X.base j c sp) (C : Cd k X P) (hg : Gl X c) (ha : ∀ (pn : List (Addr × Obj)) (xe : Value → Shared → Prop), Cd k (X.tr pn xe) (NoE P) → PAd (X.tr pn xe) (NoE P) (e :: es) ta) (hj : j + 1 ≤ k := by decide)
    (hs : swapsWith (.Call (.Name c p) (e :: es) [] pos) none pos2.line X.env = pure false := by rfl) (hdb : (c == ("__debug__" : Str)) = false := by decide)
    (he : starEach (e :: es) X.env = (false, eval e X.env) :: starEach es X.env := by rfl) (hpl : (backTo pos (starEach es X.env)).any (·.1) = false := by rfl) : PXd X P (.Expr (.Call (.Name c p) (e :: es) [] pos) pos2) (zCallX sp ta) := ⟨fun W pn xe tk po => by
  obtain ⟨Ca, f, fd, ps, hm, M, hb, F⟩ := F.ex
  obtain ⟨t0, p0, q0⟩ := (ha pn xe (C.tr po)).ex
  refine ⟨_, ps_expr (pe_makePS (X := X.tr pn xe) M F (Room.mono C.hr hj) C.gd hg hm hb tk p0 hdb he hpl) hs, fun Z hZ S σ H E w D0 ok h i iw => ?_⟩
  refine q0 { Z with ez := fun _ _ => False } ⟨Z, hZ, rfl⟩ S σ H _ _ ok.ez h fun ds S1 vs H1 h1 o1 f1 r1 => fun x dx hx hd ne => ?_
  have o1 : Ok X Z S1 σ H1 := o1.ofEz
  have f1 : Frm X Z S σ H S1 σ H1 := f1.ofEz
  have ax : ¬ avs Z S1 σ x := fun z => o1.avsd x z hx
  have nx : (upd H1 dx (.own x)) x = none := by rw [upd_ne (Ne.symm ne)]; exact hx
  have kc : Carry H1 (upd (upd H1 dx (.own x)) x (.ins Ca dx [])) (avs Z S1 σ) (fun a => avs Z S1 σ a ∨ a = x) :=
    ((Carry.new hd).trans (Carry.new nx)).trans (.same (Same.refl _) fun a z => z.elim (fun z => .inl (.inl z)) .inr)
  have old : ∀ {H' : Hp}, (∀ a o, (upd (upd H1 dx (.own x)) x (.ins Ca dx [])) a = some o → a ≠ x → H' a = some o) → Same H1 H' := fun {H'} s a o ea => by
    have n1 : a ≠ x := fun z => by rw [z, hx] at ea; cases ea
    have n2 : a ≠ dx := fun z => by rw [z, hd] at ea; cases ea
    exact s a o (by rw [upd_ne n1, upd_ne n2]; exact ea) n1
  rw [List.append_nil]
  refine ⟨x, Ca, dx, avs Z S1 σ, vs, ds, _, _, rfl, upd_same, hm, r1.carry kc, fun a z e => ?_, h1, fun fs vfs H' q s hx' rf => ⟨rfl, ?_⟩, fun cc g cls dd H' q s hc hf => iw cc g S1 σ H' cls dd q (o1.same (old s)) (f1.trans (.same o1 (old s))) hc hf⟩
  · have n1 : a ≠ x := fun y => ax (y ▸ z)
    have n2 : a ≠ dx := fun y => o1.avsd a z (y ▸ hd)
    rw [upd_ne n1, upd_ne n2] at e
    exact o1.avsd a z e
  · exact i.nx _ _ _ q (o1.same (old s)) (f1.trans (.same o1 (old s)))⟩
end

/-! ### x in xs, x not in xs as a value -/
section
variable {X : Cx} {P : Zc → Prop} {a b : Expr} {pos : Pos} {ta : ZE} {vb : ZV}
def zInD (neg : Bool) (ta : ZE) (tb : ZV) : ZE := fun S Q => ta S fun d S1 => tb S1 fun e S2 => ∃ xs, cnt S2 e = some xs ∧ ∃ v vs, d.flat = some v ∧ D.flats xs = some vs ∧ flatV v = true ∧ vs.all flatV = true ∧ Q (.bl (if neg then !inV v vs else inV v vs)) S2
theorem pd_in (ha : PD X P a ta) (hb : PV X P b vb) (hm : behindInMarks .In b = false := by rfl) : PD X P (.Compare a [.In] [b] pos) (zInD false ta vb) := by
  obtain ⟨t0, p0, q0⟩ := ha.ex
  obtain ⟨t1, p1, q1⟩ := hb.ex
  refine ⟨_, pe_cmpR op_in_seq p0 p1 hm, fun Z hZ S σ H Qz Q ok h k => ?_⟩
  refine q0 Z hZ S σ H _ _ ok h fun d S1 v H1 h1 ok1 f1 r1 => ?_
  refine q1 Z hZ S1 σ H1 _ _ ok1 h1 fun e S2 u H2 h2 ok2 f2 r2 => ?_
  obtain ⟨xs, h3, w, ws, h4, h5, h6, h7, h8⟩ := h2
  obtain ⟨p, vs, rfl, h9, h10⟩ := cnt_at ok2 r2 h3
  obtain rfl := rep_flat r1 h4
  obtain rfl := reps_flats h10 h5
  exact ⟨p, vs, rfl, h9, h6, h7, k _ S2 _ H2 h8 ok2 (f1.trans f2) (.bl _)⟩
theorem pd_notin (ha : PD X P a ta) (hb : PV X P b vb) (hm : behindInMarks .NotIn b = false := by rfl) : PD X P (.Compare a [.NotIn] [b] pos) (zInD true ta vb) := by
  obtain ⟨t0, p0, q0⟩ := ha.ex
  obtain ⟨t1, p1, q1⟩ := hb.ex
  refine ⟨_, pe_cmpR op_notIn_seq p0 p1 hm, fun Z hZ S σ H Qz Q ok h k => ?_⟩
  refine q0 Z hZ S σ H _ _ ok h fun d S1 v H1 h1 ok1 f1 r1 => ?_
  refine q1 Z hZ S1 σ H1 _ _ ok1 h1 fun e S2 u H2 h2 ok2 f2 r2 => ?_
  obtain ⟨xs, h3, w, ws, h4, h5, h6, h7, h8⟩ := h2
  obtain ⟨p, vs, rfl, h9, h10⟩ := cnt_at ok2 r2 h3
  obtain rfl := rep_flat r1 h4
  obtain rfl := reps_flats h10 h5
  exact ⟨p, vs, rfl, h9, h6, h7, k _ S2 _ H2 h8 ok2 (f1.trans f2) (.bl _)⟩
end
end Zz

/-! The pure layer: repr of data with empty dicts in it. -/
namespace Zz
open PySem PySem.Spec PyProof.Rows L2
mutual
inductive DpZ (K : PySem.W.Frag) (H : Hp) : V → PyData → Prop
  | non : DpZ K H .non .none
  | bl (b : Bool) : DpZ K H (.bl b) (.bool b)
  | int (i : Int) : DpZ K H (.int i) (.int i)
  | str (x : Str) : DpZ K H (.str x) (.str x)
  | lst {a : Addr} {xs : List V} {ds : List PyData} : SqL K H a xs → DpZs K H xs ds → DpZ K H (.ref a) (.list ds)
  | tup {a : Addr} {xs : List V} {ds : List PyData} : SqT K H a xs → DpZs K H xs ds → DpZ K H (.ref a) (.tuple ds)
  | dic {a : Addr} : H a = some (.dK []) → DpZ K H (.ref a) (.dict [])
inductive DpZs (K : PySem.W.Frag) (H : Hp) : List V → List PyData → Prop
  | nil : DpZs K H [] []
  | cons {v : V} {vs : List V} {d : PyData} {ds : List PyData} : DpZ K H v d → DpZs K H vs ds → DpZs K H (v :: vs) (d :: ds)
end
section
variable {X : Cx} {pins : List (Addr × Obj)} {σ : L2.St} {H : Hp} {s : Shared}
theorem dic_at (I : Inv X pins σ H s) {a : Addr} (h : H a = some (.dK [])) : ∃ o es n, s.heap.get? a = some o ∧ o.cls = .type "dict" ∧ o.data = .dict es n ∧ es.toList = [] ∧ (a == sysModules) = false := by
  obtain ⟨_, hS, vs, rel, dd⟩ := dk_of I.hok h
  cases rel
  obtain ⟨o, es, ep, h1, h2, h3, h4, h5, h6⟩ := dd
  refine ⟨o, es, ep, h1, h2.1, h3, ?_, hS⟩
  cases h : es.toList with
  | nil => rfl
  | cons e r => rw [h] at h5; cases h5
mutual
theorem DpZ.k (I : Inv X pins σ H s) : ∀ (d : PyData) (v : V) (u : Value), DpZ X.K H v d → RelV v u → d.showable = true → d.shown.length ≤ sizeLine →
    ∃ as bs, Reads s.heap u d as ∧ ReadAtMost s.heap d.depth bs ∧ ReprK X.prog X.w bs s.heap d.depth u d.shown
  | .none, _, _, h, r, _, _ => by
    cases h
    cases r
    exact ⟨_, [], Reads.none, (fun _ h => nomatch h), by simp only [PyData.shown]; exact .of_is ReprIs.none _ _ _⟩
  | .bool b, _, _, h, r, _, _ => by
    cases h
    cases r
    exact ⟨_, [], Reads.bool b, (fun _ h => nomatch h), by simp only [PyData.shown]; exact .of_is (ReprIs.bool b) _ _ _⟩
  | .int i, _, _, h, r, hs, _ => by
    cases h
    obtain ⟨t, rfl⟩ := r
    exact ⟨_, [], Reads.int i t, (fun _ h => nomatch h), by simp only [PyData.shown]; exact .of_is (ReprIs.int t (by simpa [PyData.showable] using hs)) _ _ _⟩
  | .str x, _, _, h, r, _, hz => by
    cases h
    obtain ⟨t, rfl⟩ := r
    exact ⟨_, [], Reads.str x t, (fun _ h => nomatch h), by simp only [PyData.shown]; exact .of_is (ReprIs.str x t (by simpa only [PyData.shown] using hz)) _ _ _⟩
  | .list xs, _, _, h, r, hs, hz => by
    cases h with
    | @lst a ys _ hq ha =>
      cases r
      obtain ⟨its, rv, ⟨o, n, ho, hc, _, hd⟩, _⟩ := I.list hq
      have hz' : (listText (PyData.shownAll xs)).length ≤ sizeLine := by simpa only [PyData.shown] using hz
      obtain ⟨as, bs, hr, hb, hk⟩ := DpZs.k I xs _ its ha rv (by simpa [PyData.showable] using hs) (fun t ht => Nat.le_trans (listText_mem_le ht) hz')
      have r : Reads s.heap (.ref a) (.list xs) _ := .list ho hc hd hr
      have hna : a ∉ bs := not_mem_of_deeper r (by simp only [PyData.depth]; omega) hb
      refine ⟨_, a :: bs, r, ReadAtMost.cons r (by simp only [PyData.depth]; omega) hb, ?_⟩
      simp only [PyData.depth, PyData.shown]
      cases its with
      | nil =>
        cases hr
        simp only [PyData.shownAll, listText_nil]
        exact ReprK.listEmpty ho hc hd
      | cons x l => exact ReprK.list ho hc hd hna (by simpa using hk.length_eq) (fun i y e => hk.item i y (by simpa using e))
  | .tuple xs, _, _, h, r, hs, hz => by
    cases h with
    | @tup a ys _ hq ha =>
      cases r
      obtain ⟨its, rv, ⟨o, ho, hc, n, hd⟩, _⟩ := I.tuple hq
      have hz' : (tupleText (PyData.shownAll xs)).length ≤ sizeLine := by simpa only [PyData.shown] using hz
      obtain ⟨as, bs, hr, hb, hk⟩ := DpZs.k I xs _ its ha rv (by simpa [PyData.showable] using hs) (fun t ht => Nat.le_trans (tupleText_mem_le ht) hz')
      have r : Reads s.heap (.ref a) (.tuple xs) _ := .tuple ho hc hd hr
      have hna : a ∉ bs := not_mem_of_deeper r (by simp only [PyData.depth]; omega) hb
      refine ⟨_, a :: bs, r, ReadAtMost.cons r (by simp only [PyData.depth]; omega) hb, ?_⟩
      simp only [PyData.depth, PyData.shown]
      exact ReprK.tuple ho hc hd hna hk
  | .dict kvs, _, _, h, r, hs, hz => by
    cases h with
    | @dic a ha =>
      cases r
      obtain ⟨o, es, n, ho, hc, hd, he, hsys⟩ := dic_at I ha
      have h4 : ReadsAll s.heap (es.toList.map (·.key)) (([] : List (PyData × PyData)).map (·.1)) [] := by rw [he]; exact .nil
      have h5 : ReadsAll s.heap (es.toList.map (·.val)) (([] : List (PyData × PyData)).map (·.2)) [] := by rw [he]; exact .nil
      have r : Reads s.heap (.ref a) (.dict []) _ := .dict ho hc hd h4 h5
      refine ⟨_, [a], r, ReadAtMost.cons (bs := []) r (Nat.le_refl _) (fun _ h => nomatch h), ?_⟩
      have k1 : ReprAllK X.prog X.w ([] : List Addr) s.heap (PyData.depthKv []) (es.toList.map (·.key)) (PyData.shownAll (([] : List (PyData × PyData)).map (·.1))) := by rw [he]; exact .nil
      have k2 : ReprAllK X.prog X.w ([] : List Addr) s.heap (PyData.depthKv []) (es.toList.map (·.val)) (PyData.shownAll (([] : List (PyData × PyData)).map (·.2))) := by rw [he]; exact .nil
      simp only [PyData.depth, PyData.shown, PyData.shownKv_eq]
      exact ReprK.dict (as := []) ho hc hd hsys List.not_mem_nil (ReprEntriesK.of_two es.toList _ _ k1 k2)
theorem DpZs.k (I : Inv X pins σ H s) : ∀ (ds : List PyData) (vs : List V) (us : List Value), DpZs X.K H vs ds → Vals vs us → PyData.showableAll ds = true → (∀ t ∈ PyData.shownAll ds, t.length ≤ sizeLine) →
    ∃ as bs, ReadsAll s.heap us ds as ∧ ReadAtMost s.heap (PyData.depthAll ds) bs ∧ ReprAllK X.prog X.w bs s.heap (PyData.depthAll ds) us (PyData.shownAll ds)
  | [], _, _, h, r, _, _ => by
    cases h
    cases r
    exact ⟨_, [], ReadsAll.nil, (fun _ h => nomatch h), by simp only [PyData.shownAll]; exact .nil⟩
  | d :: ds, _, _, h, r, hs, hz => by
    cases h with
    | cons h1 h2 =>
      cases r with
      | cons r1 r2 =>
        have hs' : d.showable = true ∧ PyData.showableAll ds = true := by simpa [PyData.showableAll] using hs
        obtain ⟨as, b1, q1, hb1, k1⟩ := DpZ.k I d _ _ h1 r1 hs'.1 (hz _ (by simp only [PyData.shownAll]; exact List.mem_cons_self ..))
        obtain ⟨bs, b2, q2, hb2, k2⟩ := DpZs.k I ds _ _ h2 r2 hs'.2 (fun t ht => hz t (by simp only [PyData.shownAll]; exact List.mem_cons_of_mem _ ht))
        refine ⟨_, b1 ++ b2, ReadsAll.cons q1 q2, ?_, ?_⟩
        · intro b hm
          simp only [PyData.depthAll]
          rcases List.mem_append.mp hm with hm | hm
          · obtain ⟨d', as', r', hd'⟩ := hb1 b hm
            exact ⟨d', as', r', Nat.le_trans hd' (Nat.le_max_left _ _)⟩
          · obtain ⟨d', as', r', hd'⟩ := hb2 b hm
            exact ⟨d', as', r', Nat.le_trans hd' (Nat.le_max_right _ _)⟩
        · simp only [PyData.depthAll, PyData.shownAll]
          exact .cons ((k1.more fun b hb => List.mem_append_left _ hb).level_le (Nat.le_max_left _ _)) (k2.more_le (fun b hb => List.mem_append_right _ hb) (Nat.le_max_right _ _))
end
end
section
variable {X : Cx}
theorem cr_reprZ (hgd : X.A.guards = some []) (hu : X.A.units + 64 < cLine) : CallR X (.builtin "repr") (fun xs H Q => ∃ (x : V) (p : PyData), xs = [x] ∧ DpZ X.K H x p ∧ p.showable = true ∧ p.depth ≤ 60 ∧ p.shown.length ≤ sizeLine ∧ Q (.str p.shown) H) := by
  intro pins s σ H xs us Q I r h
  obtain ⟨x, p, rfl, hd, h1, h3, h4, q⟩ := h
  obtain ⟨u, rfl, ru⟩ := Vals.one r
  have fin : ∀ h' tk t, (∀ b o, s.heap.get? b = some o → h'.get? b = some o) → EP X pins σ Q (.str p.shown t) { s with heap := h', toks := tk } := fun h' tk t k => ⟨.str p.shown, H, I.kept (t' := tk) k, ⟨t, rfl⟩, q⟩
  have fin2 : ∀ h' t tk, (∀ b o, s.heap.get? b = some o → h'.get? b = some o) → ∃ x t', Value.str p.shown t = .str x t' ∧ EP X pins σ Q (.str p.shown t) { s with heap := h', toks := tk } := fun h' t tk k => ⟨_, _, rfl, fin h' tk t k⟩
  cases hd with
  | non => cases ru; exact PySem.P.repr_of_none (fin s.heap _ _ fun _ _ z => z)
  | bl b => cases ru; exact PySem.P.repr_of_bool (fin s.heap _ _ fun _ _ z => z)
  | int i => obtain ⟨t, rfl⟩ := ru; exact PySem.P.repr_of_int (by simpa [PyData.showable] using h1) (fin s.heap _ _ fun _ _ z => z)
  | str y => obtain ⟨t, rfl⟩ := ru; exact PySem.P.repr_of_str (fin s.heap _ _ fun _ _ z => z) h4
  | @lst a ys xs hq ha =>
    cases ru
    obtain ⟨its, rv, ⟨o, n, ho, hc, _, hd⟩, _⟩ := I.list hq
    have hz' : (listText (PyData.shownAll xs)).length ≤ sizeLine := by simpa only [PyData.shown] using h4
    obtain ⟨as, bs, hr, hb, hk⟩ := DpZs.k I xs _ its ha rv (by simpa [PyData.showable] using h1) (fun t ht => Nat.le_trans (listText_mem_le ht) hz')
    have hna : a ∉ bs := not_mem_of_deeper (.list ho hc hd hr) (by simp only [PyData.depth]; omega) hb
    simp only [PyData.depth] at h3
    simp only [PyData.shown] at fin2
    refine call_repr_slot (by omega) ⟨o, ho, hc⟩ PySem.F.slot_list_repr.toG ?_
    cases its with
    | nil =>
      cases hr
      simp only [PyData.shownAll, listText_nil] at fin2
      exact call_list_repr_empty ⟨o, ho, hc⟩ ho hd (fin2 s.heap _ _ fun _ _ e => e)
    | cons x l =>
      exact call_list_reprK ho hc hd hna (by simpa using hk.length_eq) (fun i y e => hk.item i y (by simpa using e)) hgd (fun b _ => Clear.nil b) (by show X.A.units + 1 + _ < _; omega) (fun _ _ e => e) (fun h' u tk k => fin2 h' u tk k) hz'
  | @tup a ys xs hq ha =>
    cases ru
    obtain ⟨its, rv, ⟨o, ho, hc, n, hd⟩, _⟩ := I.tuple hq
    have hz' : (tupleText (PyData.shownAll xs)).length ≤ sizeLine := by simpa only [PyData.shown] using h4
    obtain ⟨as, bs, hr, hb, hk⟩ := DpZs.k I xs _ its ha rv (by simpa [PyData.showable] using h1) (fun t ht => Nat.le_trans (tupleText_mem_le ht) hz')
    have hna : a ∉ bs := not_mem_of_deeper (.tuple ho hc hd hr) (by simp only [PyData.depth]; omega) hb
    simp only [PyData.depth] at h3
    simp only [PyData.shown] at fin2
    exact call_repr_slot (by omega) ⟨o, ho, hc⟩ PySem.F.slot_tuple_repr (call_tuple_reprK ho hc hd hna hk hgd (fun b _ => Clear.nil b) (by show X.A.units + 1 + _ < _; omega) (fun _ _ e => e) (fun h' u tk k => fin2 h' u tk k) hz')
  | @dic a ha =>
    cases ru
    obtain ⟨o, es, n, ho, hc, hd, he, hsys⟩ := dic_at I ha
    have k1 : ReprAllK X.prog X.w ([] : List Addr) s.heap (PyData.depthKv []) (es.toList.map (·.key)) (PyData.shownAll (([] : List (PyData × PyData)).map (·.1))) := by rw [he]; exact .nil
    have k2 : ReprAllK X.prog X.w ([] : List Addr) s.heap (PyData.depthKv []) (es.toList.map (·.val)) (PyData.shownAll (([] : List (PyData × PyData)).map (·.2))) := by rw [he]; exact .nil
    simp only [PyData.depth] at h3
    simp only [PyData.shown, PyData.shownKv_eq] at fin2
    exact call_repr_slot (by omega) ⟨o, ho, hc⟩ PySem.F.slot_dict_repr (call_dict_reprK (as := []) ho hc hd hsys List.not_mem_nil (ReprEntriesK.of_two es.toList _ _ k1 k2) hgd (fun b _ => Clear.nil b) (by show X.A.units + 1 + _ < _; omega) (fun _ _ e => e) (fun h' u tk k => fin2 h' u tk k) (by simpa only [PyData.shown, PyData.shownKv_eq] using h4))
end

/-! ### over data -/
mutual
def D.pyR : D → Option PyData
  | .non => some .none
  | .bl b => some (.bool b)
  | .int i => some (.int i)
  | .str s => some (.str s)
  | .lst xs => (D.pysR xs).map .list
  | .fls xs => (D.pysR xs).map .list
  | .tup xs => (D.pysR xs).map .tuple
  | .dic => some (.dict [])
  | _ => none
def D.pysR : List D → Option (List PyData)
  | [] => some []
  | x :: xs => x.pyR.bind fun p => (D.pysR xs).map fun ps => p :: ps
end
section
variable {K : PySem.W.Frag} {mg : Str → Option Value} {H : Hp} {av : Addr → Prop}
mutual
theorem Rep.dpZ : ∀ {v : V} {d : D} {p : PyData}, Rep K mg H av v d → d.pyR = some p → DpZ K H v p
  | _, _, _, .non, e => by simp [D.pyR] at e; subst e; exact .non
  | _, _, _, .bl b, e => by simp [D.pyR] at e; subst e; exact .bl b
  | _, _, _, .int i, e => by simp [D.pyR] at e; subst e; exact .int i
  | _, _, _, .str s, e => by simp [D.pyR] at e; subst e; exact .str s
  | _, _, _, .lst h n r, e => by
    simp only [D.pyR, Option.map_eq_some_iff] at e
    obtain ⟨ps, e, rfl⟩ := e
    exact .lst (.inl (.inl h)) (Reps.dpZ r e)
  | _, _, _, .lsf h r, e => by
    simp only [D.pyR, Option.map_eq_some_iff] at e
    obtain ⟨ps, e, rfl⟩ := e
    exact .lst h.seq (Reps.dpZ r e)
  | _, _, _, .tup h r, e => by
    simp only [D.pyR, Option.map_eq_some_iff] at e
    obtain ⟨ps, e, rfl⟩ := e
    exact .tup h (Reps.dpZ r e)
  | _, _, _, .dic h _, e => by simp [D.pyR] at e; subst e; exact .dic h
  | _, _, _, .obj _ _ _ _, e => by simp [D.pyR] at e
  | _, _, _, .adr _, e => by simp [D.pyR] at e
  | _, _, _, .exc0 _ _, e => by simp [D.pyR] at e
  | _, _, _, .exc1 _ _ _ _, e => by simp [D.pyR] at e
theorem Reps.dpZ : ∀ {vs : List V} {ds : List D} {ps : List PyData}, Reps K mg H av vs ds → D.pysR ds = some ps → DpZs K H vs ps
  | _, _, _, .nil, e => by simp [D.pysR] at e; subst e; exact .nil
  | _, _, _, .cons r t, e => by
    simp only [D.pysR, Option.bind_eq_some_iff, Option.map_eq_some_iff] at e
    obtain ⟨p, e1, ps, e2, rfl⟩ := e
    exact .cons (Rep.dpZ r e1) (Reps.dpZ t e2)
end
end
/-- repr(e), where e may hold empty dicts -/
def zReprZ (ta : ZV) : ZE := fun S Q => ta S fun d S1 => ∃ x, asD S1 d = some x ∧ ∃ p, x.pyR = some p ∧ p.showable = true ∧ p.depth ≤ 60 ∧ p.shown.length ≤ sizeLine ∧ Q (.str p.shown) S1
section
variable {X : Cx} {P : Zc → Prop} {e : Expr} {p pos : Pos} {va : ZV}
theorem pd_reprZ {k : Nat} (C : Cd k X P) (hg : Gl X "repr") (hm : X.mg "repr" = none) (ha : PV X P e va) (he : starEach [e] X.env = (false, eval e X.env) :: starEach [] X.env := by rfl) (hpl : (backTo pos (starEach [] X.env)).any (·.1) = false := by rfl) :
    PD X P (.Call (.Name "repr" p) [e] [] pos) (zReprZ va) := by
  obtain ⟨t0, p0, q0⟩ := ha.ex
  refine ⟨_, pe_callB (cr_reprZ C.gd C.hu) hg hm (by decide +kernel) (pa_cons p0 pa_nil he) (by decide) (by decide) he hpl, fun Z hZ S σ H Qz Q ok h k => q0 Z hZ S σ H _ _ ok h fun d S1 v H1 h1 o1 f1 r1 => ?_⟩
  obtain ⟨x, h2, p, h3, h4, h6, h7, h8⟩ := h1
  exact ⟨v, p, rfl, (asD_rep o1 r1 h2).dpZ h3, h4, h6, h7, k _ S1 _ H1 h8 o1 f1 (.str _)⟩
end
mutual
def D.gdR : D → Bool
  | .non => true
  | .bl _ => true
  | .dic => true
  | .int i => decide (i.natAbs < 10 ^ 200)
  | .str s => PyData.strOk s && s.cps.toList.all fun c => decide (c < 16 ^ 8)
  | .lst xs => D.gdsR xs
  | .fls xs => D.gdsR xs
  | .tup xs => D.gdsR xs
  | _ => false
def D.gdsR : List D → Bool
  | [] => true
  | x :: xs => x.gdR && D.gdsR xs
/-- how deep, how much there is to be shown -/
def D.depR : D → Nat
  | .lst xs => D.depsR xs + 1
  | .fls xs => D.depsR xs + 1
  | .tup xs => D.depsR xs + 1
  | .dic => 1
  | _ => 0
def D.depsR : List D → Nat
  | [] => 0
  | x :: xs => max x.depR (D.depsR xs)
def D.bkR : D → Nat
  | .str s => s.cps.size
  | .lst xs => D.bksR xs
  | .fls xs => D.bksR xs
  | .tup xs => D.bksR xs
  | _ => 0
def D.bksR : List D → Nat
  | [] => 0
  | x :: xs => x.bkR + 1 + D.bksR xs
end
mutual
theorem gdR_py : ∀ d : D, d.gdR = true → ∃ p, d.pyR = some p ∧ p.showable = true ∧ p.leavesShort 202 = true ∧ p.depth = d.depR ∧ p.bulk = d.bkR
  | .non, _ => ⟨.none, rfl, rfl, rfl, rfl, rfl⟩
  | .bl b, _ => ⟨.bool b, rfl, rfl, rfl, rfl, rfl⟩
  | .dic, _ => ⟨.dict [], rfl, rfl, rfl, rfl, rfl⟩
  | .int i, h => by
    have h := of_decide_eq_true h
    have l : i.natAbs.log2 < 1920 := by
      by_cases e : i.natAbs = 0
      · rw [e]; decide
      · exact (Nat.log2_lt e).mpr (Nat.lt_trans h (by decide))
    refine ⟨.int i, rfl, by simpa [PyData.showable] using l, ?_, rfl, rfl⟩
    have e := int_text_length_le10 (k := 200) (by decide) h
    refine decide_eq_true ?_
    show (Str.ofString (toString i)).length ≤ 202
    rw [PySem.ofString_length]
    omega
  | .str s, h => by
    simp only [D.gdR, Bool.and_eq_true] at h
    exact ⟨.str s, rfl, rfl, by simpa [PyData.leavesShort] using h.2, rfl, rfl⟩
  | .lst xs, h => by
    obtain ⟨ps, h1, h2, h3, h4, h5⟩ := gdsR_py xs (by simpa [D.gdR] using h)
    exact ⟨.list ps, by simp [D.pyR, h1], by simpa [PyData.showable] using h2, by simpa [PyData.leavesShort] using h3, by simp [PyData.depth, D.depR, h4], by simp [PyData.bulk, D.bkR, h5]⟩
  | .fls xs, h => by
    obtain ⟨ps, h1, h2, h3, h4, h5⟩ := gdsR_py xs (by simpa [D.gdR] using h)
    exact ⟨.list ps, by simp [D.pyR, h1], by simpa [PyData.showable] using h2, by simpa [PyData.leavesShort] using h3, by simp [PyData.depth, D.depR, h4], by simp [PyData.bulk, D.bkR, h5]⟩
  | .tup xs, h => by
    obtain ⟨ps, h1, h2, h3, h4, h5⟩ := gdsR_py xs (by simpa [D.gdR] using h)
    exact ⟨.tuple ps, by simp [D.pyR, h1], by simpa [PyData.showable] using h2, by simpa [PyData.leavesShort] using h3, by simp [PyData.depth, D.depR, h4], by simp [PyData.bulk, D.bkR, h5]⟩
  | .obj _ _, h => by cases h
  | .adr _, h => by cases h
  | .exc _ _, h => by cases h
theorem gdsR_py : ∀ xs : List D, D.gdsR xs = true → ∃ ps, D.pysR xs = some ps ∧ PyData.showableAll ps = true ∧ PyData.leavesShortAll 202 ps = true ∧ PyData.depthAll ps = D.depsR xs ∧ PyData.bulkAll ps = D.bksR xs
  | [], _ => ⟨[], rfl, rfl, rfl, rfl, rfl⟩
  | x :: xs, h => by
    simp only [D.gdsR, Bool.and_eq_true] at h
    obtain ⟨p, g1, g2, g3, g4, g5⟩ := gdR_py x h.1
    obtain ⟨ps, h1, h2, h3, h4, h5⟩ := gdsR_py xs h.2
    exact ⟨p :: ps, by simp [D.pysR, g1, h1], by simp [PyData.showableAll, g2, h2], by simp [PyData.leavesShortAll, g3, h3], by simp [PyData.depthAll, D.depsR, g4, h4], by simp [PyData.bulkAll, D.bksR, g5, h5]⟩
end
theorem repr_gdR {d : D} (hd : d.gdR = true) (d1 : d.depR ≤ 60) (hb : d.bkR ≤ 50000) : ∃ p, d.pyR = some p ∧ p.showable = true ∧ p.depth ≤ 60 ∧ p.shown.length ≤ sizeLine := by
  obtain ⟨p, g1, g2, g3, g4, g5⟩ := gdR_py d hd
  refine ⟨p, g1, g2, by omega, ?_⟩
  have := PyData.shown_le_bulk 202 (by decide) p g3
  rw [sizeLine_eq]
  omega
theorem gdsR_iff {xs : List D} : D.gdsR xs = true ↔ ∀ x ∈ xs, x.gdR = true := by
  induction xs with
  | nil => simp [D.gdsR]
  | cons x xs ih => simp [D.gdsR, ih]
theorem depsR_le {xs : List D} {n : Nat} (h : ∀ x ∈ xs, x.depR ≤ n) : D.depsR xs ≤ n := by
  induction xs with
  | nil => simp [D.depsR]
  | cons x xs ih =>
    have a := h x List.mem_cons_self
    have b := ih fun y hy => h y (List.mem_cons_of_mem _ hy)
    simp only [D.depsR]
    omega
theorem bksR_le {xs : List D} {n : Nat} (h : ∀ x ∈ xs, x.bkR ≤ n) : D.bksR xs ≤ (n + 1) * xs.length := by
  induction xs with
  | nil => simp [D.bksR]
  | cons x xs ih =>
    have a := h x List.mem_cons_self
    have b := ih fun y hy => h y (List.mem_cons_of_mem _ hy)
    simp only [D.bksR, List.length_cons, Nat.mul_add]
    omega
end Zz

set_option maxHeartbeats 4000000
/-! K41 -/
namespace K41
open PySem PySem.Spec PyProof.Rows L2 Zz
def topS (i : Nat) : Stmt := PySem.Challenge.pw_leafsplits_k41_errors_of_fitting.main.body.getD i (.Pass ⟨0, 0, 0, 0⟩)
def inCls (i j : Nat) : Stmt := match topS i with
  | .ClassDef (body := b) .. => b.getD j (.Pass ⟨0, 0, 0, 0⟩)
  | _ => .Pass ⟨0, 0, 0, 0⟩
abbrev errCs : List Str := ["PageError", "InvalidRule", "InvalidLevels", "InvalidScript", "InvalidRuns", "InvalidSeen", "InvalidText", "OverBudget", "InvalidIndex", "InvalidKind", "InvalidGap", "InvalidNumber", "InvalidLevel", "InvalidPage", "InvalidEntry", "InvalidLength", "InvalidHeight", "InvalidLeaves", "InvalidBudget", "UnlikeRules", "InvalidOperation", "Nothing", "InvalidCommand"]
def errF (f : Str) : List Str := if f = "count" then ["OverBudget"] else if f = "item" then ["InvalidRule", "InvalidRuns", "InvalidSeen"] else if f = "level" then ["InvalidLevels"] else if f = "part" then ["InvalidText"] else if f = "step" then ["InvalidScript"] else []
abbrev s_InvalidSeen_init : Stmt := inCls 9 0
theorem sc_InvalidSeen_init : FnScope ["self", "item"] ["self", "item"] (defScope s_InvalidSeen_init) := ⟨rfl, rfl, rfl, by decide +kernel, rfl, by decide +kernel, by decide +kernel⟩
/-! ### is_int -/
abbrev s_is_int : Stmt := topS 1
abbrev N_is_int : List Str := ["value"]
theorem sc_is_int : FnScope N_is_int ["value"] (defScope s_is_int) := ⟨rfl, rfl, rfl, by decide +kernel, rfl, by decide +kernel, by decide +kernel⟩
/-! ### is_whole -/
abbrev s_is_whole : Stmt := topS 2
abbrev N_is_whole : List Str := ["value", "low", "high"]
theorem sc_is_whole : FnScope N_is_whole ["value", "low", "high"] (defScope s_is_whole) := ⟨rfl, rfl, rfl, by decide +kernel, rfl, by decide +kernel, by decide +kernel⟩
/-! ### require_load_kind -/
abbrev s_require_load_kind : Stmt := topS 31
abbrev N_require_load_kind : List Str := ["value"]
theorem sc_require_load_kind : FnScope N_require_load_kind ["value"] (defScope s_require_load_kind) := ⟨rfl, rfl, rfl, by decide +kernel, rfl, by decide +kernel, by decide +kernel⟩
/-! ### require_seen -/
abbrev s_require_seen : Stmt := topS 32
abbrev N_require_seen : List Str := ["value", "item", "some", "number"]
theorem sc_require_seen : FnScope N_require_seen ["value"] (defScope s_require_seen) := ⟨rfl, rfl, rfl, by decide +kernel, rfl, by decide +kernel, by decide +kernel⟩
/-! ### steps_within -/
abbrev s_steps_within : Stmt := topS 33
abbrev N_steps_within : List Str := ["most", "seen", "least", "greatest", "entries", "leaves", "beyond"]
theorem sc_steps_within : FnScope N_steps_within ["most", "seen", "least", "greatest"] (defScope s_steps_within) := ⟨rfl, rfl, rfl, by decide +kernel, rfl, by decide +kernel, by decide +kernel⟩
/-! ### fitting_rules -/
abbrev s_fitting_rules : Stmt := topS 34
abbrev N_fitting_rules : List Str := ["kind", "seen", "most", "found", "leaf", "low", "least", "greatest"]
theorem sc_fitting_rules : FnScope N_fitting_rules ["kind", "seen", "most"] (defScope s_fitting_rules) := ⟨rfl, rfl, rfl, by decide +kernel, rfl, by decide +kernel, by decide +kernel⟩
/-! ### law_bag -/
abbrev s_law_bag : Stmt := topS 36
abbrev N_law_bag : List Str := ["cell"]
theorem sc_law_bag : FnScope N_law_bag ["cell"] (defScope s_law_bag) := ⟨rfl, rfl, rfl, by decide +kernel, rfl, by decide +kernel, by decide +kernel⟩
/-! ### law_pick -/
abbrev s_law_pick : Stmt := topS 37
abbrev N_law_pick : List Str := ["bag", "many", "told", "seed", "turn", "first", "second", "drawn"]
theorem sc_law_pick : FnScope N_law_pick ["bag", "many"] (defScope s_law_pick) := ⟨rfl, rfl, rfl, by decide +kernel, rfl, by decide +kernel, by decide +kernel⟩
/-! ### law_class -/
abbrev s_law_class : Stmt := topS 38
abbrev N_law_class : List Str := ["caught", "some", "found", "name", "is_one"]
theorem sc_law_class : FnScope N_law_class ["caught"] (defScope s_law_class) := ⟨rfl, rfl, rfl, by decide +kernel, rfl, by decide +kernel, by decide +kernel⟩
/-! ### law_bad_integers -/
abbrev s_law_bad_integers : Stmt := topS 39
abbrev N_law_bad_integers : List Str := ["low", "high", "found"]
theorem sc_law_bad_integers : FnScope N_law_bad_integers ["low", "high"] (defScope s_law_bad_integers) := ⟨rfl, rfl, rfl, by decide +kernel, rfl, by decide +kernel, by decide +kernel⟩
/-! ### law_told -/
abbrev s_law_told : Stmt := topS 40
abbrev N_law_told : List Str := ["kind", "seen", "most", "caught", "kept", "e"]
theorem sc_law_told : FnScope N_law_told ["kind", "seen", "most"] (defScope s_law_told) := ⟨rfl, rfl, rfl, by decide +kernel, rfl, by decide +kernel, by decide +kernel⟩
/-! ### law_right -/
abbrev s_law_right : Stmt := topS 41
abbrev N_law_right : List Str := ["bag", "seen", "turn", "most", "bad", "odd", "at", "some", "good", "kind"]
theorem sc_law_right : FnScope N_law_right ["bag"] (defScope s_law_right) := ⟨rfl, rfl, rfl, by decide +kernel, rfl, by decide +kernel, by decide +kernel⟩
/-! ### law -/
abbrev s_law : Stmt := topS 42
abbrev N_law : List Str := ["script", "cell", "bag"]
theorem sc_law : FnScope N_law ["script"] (defScope s_law) := ⟨rfl, rfl, rfl, by decide +kernel, rfl, by decide +kernel, by decide +kernel⟩
structure Facts (mg : Str → Option Value) : Prop where
  b_ValueError : mg "ValueError" = none
  b_all : mg "all" = none
  b_bool : mg "bool" = none
  b_enumerate : mg "enumerate" = none
  b_int : mg "int" = none
  b_isinstance : mg "isinstance" = none
  b_len : mg "len" = none
  b_list : mg "list" = none
  b_max : mg "max" = none
  b_min : mg "min" = none
  b_range : mg "range" = none
  b_repr : mg "repr" = none
  b_str : mg "str" = none
  b_tuple : mg "tuple" = none
  c_MOST_LEAF : ∃ t, mg "MOST_LEAF" = some (.int 1000 t)
  c_MOST_NUMBER : ∃ t, mg "MOST_NUMBER" = some (.int 1000000000000000000000000000000 t)
  c_MOST_SEEN : ∃ t, mg "MOST_SEEN" = some (.int 20 t)
structure Objs (K : PySem.W.Frag) (mg : Str → Option Value) : Prop where
  triv : True
  errs : Errs K mg "PageError" errCs
  r_InvalidKind : Er K mg "InvalidKind"
  r_InvalidNumber : Er K mg "InvalidNumber"
  nf_item : ∀ c ∈ errF "item", ∀ C, mg c = some (.ref C) → PySem.W.findIn K (.ref C) "item" = some none
local macro_rules | `(tactic| nofun) => `(tactic| ((conv => whnf); (repeat (first
  | (refine ⟨_, rfl, ?_⟩; conv => whnf)
  | (refine ⟨_, _, rfl, rfl, ?_⟩; conv => whnf)
  | (refine ⟨fun z => Bool.noConfusion (show false = true from z), fun _ => ?_⟩; conv => whnf)
  | (refine ⟨fun _ => ?_, fun z => Bool.noConfusion (show true = false from z)⟩; conv => whnf))); (try dsimp only)))
def mx (a b : Int) : Int := if b > a then b else a
def mn (a b : Int) : Int := if b < a then b else a
def irng (a b : Int) : List Int := (List.range (b - a).toNat).map fun (i : Nat) => a + (i : Int)
theorem rangeD_irng (a b : Int) : rangeD a (b - a).toNat = (irng a b).map .int := by
  unfold rangeD irng
  rw [List.map_map]
  rfl
theorem irng_get {a b : Int} {i : Nat} {d : D} (h : ((irng a b).map D.int)[i]? = some d) : d = .int (a + i) ∧ a + i < b := by
  rw [← rangeD_irng] at h
  obtain ⟨h1, h2⟩ := rangeD_get h
  exact ⟨h2, by omega⟩
theorem irng_len {a b : Int} : (irng a b).length = (b - a).toNat := by simp [irng]
theorem irng_take {a b : Int} {i : Nat} (h : a + i < b) : (irng a b).take (i + 1) = (irng a b).take i ++ [a + i] := by
  have hl : i < (irng a b).length := by rw [irng_len]; omega
  rw [List.take_succ_eq_append_getElem hl]
  simp [irng]
theorem dropA {α : Type} {xs : List α} {i : Nat} {x : α} (h : xs[i]? = some x) : xs.drop i = x :: xs.drop (i + 1) := by
  obtain ⟨hl, e⟩ := List.getElem?_eq_some_iff.mp h
  rw [List.drop_eq_getElem_cons hl, e]
theorem sz2 : 2 ≤ sizeLine := by decide
theorem sz3 : 3 ≤ sizeLine := by decide
theorem asc {c : Prop} [Decidable c] (h : decide c = true) : c := of_decide_eq_true h
theorem nac {c : Prop} [Decidable c] (h : decide c = false) : ¬ c := of_decide_eq_false h

theorem log_small {i : Int} (h0 : 0 ≤ i) (h : i < 2 ^ 200) : i.natAbs.log2 < 200 := by
  by_cases e : i.natAbs = 0
  · rw [e]; decide
  · exact (Nat.log2_lt e).mpr (by omega)
theorem divW {a b : Int} (h0 : 0 < b) (h : b < 2 ^ 200) : CDivW a b := ⟨h0, Nat.lt_trans (log_small (by omega) h) (by decide)⟩
theorem mulW {a b : Int} (h0 : a.natAbs < 2 ^ 200) (h : b.natAbs < 2 ^ 200) : CMulW a b := by
  have k : ∀ n : Nat, n < 2 ^ 200 → n.log2 < 200 := fun n hn => by
    by_cases e : n = 0
    · rw [e]; decide
    · exact (Nat.log2_lt e).mpr hn
  have := k _ h0
  have := k _ h
  unfold CMulW
  omega
theorem powW {a : Int} (h : a.natAbs < 2 ^ 199) : CPowW a 3 := by
  refine ⟨by decide, ?_⟩
  have : Builtin.Int.intBits a ≤ 1000 := by
    unfold Builtin.Int.intBits
    split
    · omega
    · rename_i h0
      have h1 : a.natAbs ≠ 0 := fun z => h0 (by have : a = 0 := by omega
                                                subst this; rfl)
      have := (Nat.log2_lt h1).mpr h
      omega
  omega
theorem sz4 : 4 ≤ sizeLine := by decide
theorem sz6 : 6 ≤ sizeLine := by decide
/-- a part of a page, as points 4 and 5 ask -/
def partB (w s : Int) : Bool := decide (2 ≤ s ∧ s ≤ w - 1 ∧ w + 1 ≤ 4 * s ∧ w + 1 ≤ 4 * (w + 1 - s))
def ruleD (m a f p : Int) : D := .obj "Rule" [("own_numbers", .tup [.int m, .int a, .int f, .int p])]
def RuleOk (m a f p : Int) : Prop := 3 ≤ m ∧ m ≤ 10 ^ 30 ∧ partB m a = true ∧ 3 ≤ f ∧ f ≤ 10 ^ 30 ∧ partB f p = true
theorem RuleOk.bd {m a f p : Int} (h : RuleOk m a f p) : 2 ≤ a ∧ a ≤ m - 1 ∧ 2 ≤ p ∧ p ≤ f - 1 := by
  obtain ⟨_, _, h1, _, _, h2⟩ := h
  have h1 := of_decide_eq_true h1
  have h2 := of_decide_eq_true h2
  omega
/-- what == with a rule tells -/
def eqR (m a f p : Int) : D → Bool
  | .obj _ [(_, .tup [.int m', .int a', .int f', .int p'])] => decide (m = m' ∧ a = a' ∧ f = f' ∧ p = p')
  | _ => false
/-- n draws more can be made -/
def ReelOk (n : Nat) (bs : List D) : Prop := ∃ b0 b1 c : Int, bs = [.int b0, .int b1, .int c] ∧ 0 ≤ b1 ∧ b1 < 2 ^ 150 ∧ 0 ≤ c ∧ c + n ≤ 2 ^ 64
theorem ReelOk.le {m n : Nat} {bs : List D} (h : ReelOk m bs) (l : n ≤ m) : ReelOk n bs := by
  obtain ⟨b0, b1, c, e, h1, h2, h3, h4⟩ := h
  exact ⟨b0, b1, c, e, h1, h2, h3, by omega⟩
theorem whz_ind {c : ZT} {tb : ZS} {E : ZD} (I : SS → Nat → Prop)
    (hs : ∀ S n (K : SS → Prop), I S n → (∀ S' m, m < n → I S' m → K S') → c S fun b S1 => (b = true → tb { nx := K, rt := E.rt, bk := E.nx, ct := K } S1) ∧ (b = false → E.nx S1)) {S : SS} {n : Nat} (h0 : I S n) : ∃ k, whz c tb k E S := by
  have key : ∀ (k : Nat) (S : SS) (n : Nat), n < k → I S n → whz c tb k E S := by
    intro k
    induction k with
    | zero => intro S n h; omega
    | succ k ih => exact fun S n h hI => hs S n _ hI fun S' m hm hI' => ih S' m (by omega) hI'
  exact ⟨n + 1, key _ S n (Nat.lt_succ_self n) h0⟩
theorem cut2 {a b c : ZS} {E : ZD} {S : SS} (I : SS → Prop) (h1 : ∀ K : SS → Prop, (∀ S', I S' → K S') → zSeq a b { nx := K, rt := E.rt, bk := E.bk, ct := E.ct } S) (h2 : ∀ S', I S' → c E S') : zSeq a (zSeq b c) E S := h1 (c E) h2
theorem cut3 {a b c d : ZS} {E : ZD} {S : SS} (I : SS → Prop) (h1 : ∀ K : SS → Prop, (∀ S', I S' → K S') → zSeq a (zSeq b c) { nx := K, rt := E.rt, bk := E.bk, ct := E.ct } S) (h2 : ∀ S', I S' → d E S') : zSeq a (zSeq b (zSeq c d)) E S := h1 (d E) h2
theorem cut4 {a b c d e : ZS} {E : ZD} {S : SS} (I : SS → Prop) (h1 : ∀ K : SS → Prop, (∀ S', I S' → K S') → zSeq a (zSeq b (zSeq c d)) { nx := K, rt := E.rt, bk := E.bk, ct := E.ct } S) (h2 : ∀ S', I S' → e E S') : zSeq a (zSeq b (zSeq c (zSeq d e))) E S := h1 (e E) h2
theorem cut5 {a b c d e f : ZS} {E : ZD} {S : SS} (I : SS → Prop) (h1 : ∀ K : SS → Prop, (∀ S', I S' → K S') → zSeq a (zSeq b (zSeq c (zSeq d e))) { nx := K, rt := E.rt, bk := E.bk, ct := E.ct } S) (h2 : ∀ S', I S' → f E S') : zSeq a (zSeq b (zSeq c (zSeq d (zSeq e f)))) E S := h1 (f E) h2

/-- whether any value is a part of a page of w items -/
def partD (w : Int) : D → Bool
  | .int s => partB w s
  | _ => false
def wholeD (lo hi : Int) : D → Bool
  | .int i => decide (lo ≤ i) && decide (i ≤ hi)
  | _ => false
def partM (m : D) (a : D) : Bool := match m with | .int m => partD m a | _ => false
/-- the first wrong one of four values -/
def wrongAt (a b c d : D) : Option Int :=
  if wholeD 3 (10 ^ 30) a = false then some 0
  else if partM a b = false then some 1
  else if wholeD 3 (10 ^ 30) c = false then some 2
  else if partM c d = false then some 3 else none
def isK (d : D) : Prop := ∃ n, d.ty = some n
theorem wrong_k {a b c d : D} {k : Int} (h : wrongAt a b c d = some k) : k = 0 ∨ k = 1 ∨ k = 2 ∨ k = 3 := by
  unfold wrongAt at h
  repeat' split at h
  all_goals (first | (cases h; done) | (cases h; simp))
theorem whole_int {lo hi : Int} {d : D} (h : wholeD lo hi d = true) : ∃ i, d = .int i ∧ lo ≤ i ∧ i ≤ hi := by
  cases d <;> simp [wholeD] at h
  exact ⟨_, rfl, h.1, h.2⟩
theorem repr_int {i : Int} (h : i.natAbs < 10 ^ 200) : (PyData.int i).showable = true ∧ (PyData.int i).hasDict = false ∧ (PyData.int i).depth ≤ 60 ∧ (PyData.int i).shown.length ≤ sizeLine := by
  obtain ⟨p, e, r⟩ := repr_gd (d := .int i) (decide_eq_true h) (Nat.le_of_ble_eq_true rfl) (Nat.le_of_ble_eq_true rfl)
  simp [D.py] at e
  subst e
  exact r
theorem repr_non : PyData.none.showable = true ∧ PyData.none.hasDict = false ∧ PyData.none.depth ≤ 60 ∧ PyData.none.shown.length ≤ sizeLine := by
  obtain ⟨p, e, r⟩ := repr_gd (d := .non) rfl (Nat.le_of_ble_eq_true rfl) (Nat.le_of_ble_eq_true rfl)
  simp [D.py] at e
  subst e
  exact r
/-! #### is_int -/
def sp_is_int : ZSp := fun ds Q _ => ∃ d n, ds = [d] ∧ d.ty = some n ∧ Q (.sh (.bl d.isI))
def t_is_int : ZS := zRet (zAndV (zIsi "int" (zVarV 0)) (zNotV (zIsi "bool" (zVarV 0))))
theorem dv_is_int {Pg : Program} {w : World} {K : PySem.W.Frag} {mg : Str → Option Value} {base : Heap} {f : Addr} (G : Facts mg) (O : Objs K mg) (cdv : Value) (A : Around) (outer : List Env) (s : Shared) (H : Hp) (E : XK) (Z0 : Zc) (nb : NoBag (Sup Z0)) (C : Cd 0 (cxOf (L2.CX Pg w) Pg w K mg base N_is_int "is_int" (defScope s_is_int) f cdv A outer s H E) (Sup Z0)) :
    PSsd (cxOf (L2.CX Pg w) Pg w K mg base N_is_int "is_int" (defScope s_is_int) f cdv A outer s H E) (Sup Z0) (defBody s_is_int) t_is_int :=
  (ssd_one (sd_ret (pd_and (pd_isi (T := "int") (by rfl) G.b_isinstance (by rfl) G.b_int rfl (pv_var 0) (by decide)) (pd_one (pd_not (pd_isi (T := "bool") (by rfl) G.b_isinstance (by rfl) G.b_bool rfl (pv_var 0) (by decide)))))))
--% reads
theorem ln_is_int : ∀ ds Qz Ez, sp_is_int ds Qz Ez → ds.length = 1 := by
  rintro ds Q E ⟨d, n, rfl, _⟩
  rfl
theorem rd_is_int : ∀ ds Qz (Ez : Str → Option (Str × D) → Prop), sp_is_int ds Qz Ez → t_is_int { nx := fun _ => Qz (.sh .non), rt := fun r _ => Qz r } (startS N_is_int ds) := by
  rintro ds Q E ⟨d, n, rfl, h, q⟩
  cases d <;> first | (cases h; done) | skip
  all_goals
    nofun
    exact q
theorem ok_is_int {Pg : Program} {w : World} {K : PySem.W.Frag} {mg : Str → Option Value} {base : Heap} {f : Addr} {fd : FuncData} (Fu : Fun K "is_int" "is_int" s_is_int f fd) (G : Facts mg) (O : Objs K mg) : FnP Pg w K mg base 1 f fd ["value"] (spZ K mg sp_is_int) :=
  okZ (N := N_is_int) (t := fun _ => t_is_int) Fu sc_is_int ln_is_int (fun cdv A outer s H E Z0 nb C => dv_is_int G O cdv A outer s H E Z0 nb C) rd_is_int
/-! #### is_whole -/
def sp_is_whole : ZSp := fun ds Q _ => ∃ d n lo hi, ds = [d, .int lo, .int hi] ∧ d.ty = some n ∧ Q (.sh (.bl (wholeD lo hi d)))
def t_is_whole : ZS := zRet (zAndV (zCall sp_is_int eF (zCons (zVar 0) (zNil))) (zChain fLe fLe (zVar 1) (zVar 0) (zVar 2)))
theorem dv_is_whole {Pg : Program} {w : World} {K : PySem.W.Frag} {mg : Str → Option Value} {base : Heap} {f : Addr} (G : Facts mg) (O : Objs K mg) (D_is_int : Df Pg w K mg base 1 "is_int" (spZ K mg sp_is_int)) (cdv : Value) (A : Around) (outer : List Env) (s : Shared) (H : Hp) (E : XK) (Z0 : Zc) (nb : NoBag (Sup Z0)) (C : Cd 1 (cxOf (L2.CX Pg w) Pg w K mg base N_is_whole "is_whole" (defScope s_is_whole) f cdv A outer s H E) (Sup Z0)) :
    PSsd (cxOf (L2.CX Pg w) Pg w K mg base N_is_whole "is_whole" (defScope s_is_whole) f cdv A outer s H E) (Sup Z0) (defBody s_is_whole) t_is_whole :=
  (ssd_one (sd_ret (pd_and (dd_call D_is_int C (by rfl) eF ez0 (ad_cons (pd_var 0 (nb.s 0)) ad_nil)) (pd_one (pd_chain op_le cz_le op_le cz_le (pd_var 1 (nb.s 1)) (pd_var 0 (nb.s 0)) (pd_var 2 (nb.s 2)))))))
--% reads
theorem ln_is_whole : ∀ ds Qz Ez, sp_is_whole ds Qz Ez → ds.length = 3 := by
  rintro ds Q E ⟨d, n, lo, hi, rfl, _⟩
  rfl
theorem rd_is_whole : ∀ ds Qz (Ez : Str → Option (Str × D) → Prop), sp_is_whole ds Qz Ez → t_is_whole { nx := fun _ => Qz (.sh .non), rt := fun r _ => Qz r } (startS N_is_whole ds) := by
  rintro ds Q E ⟨d, n, lo, hi, rfl, h, q⟩
  nofun
  refine ⟨d, n, rfl, h, ?_⟩
  cases d <;> first | (cases h; done) | skip
  all_goals
    nofun
    first
      | exact q
      | (refine ⟨fun y => ?_, fun y => ?_⟩
         · nofun
           simpa [wholeD, asc y] using q
         · simpa [wholeD, nac y] using q)
theorem ok_is_whole {Pg : Program} {w : World} {K : PySem.W.Frag} {mg : Str → Option Value} {base : Heap} {f : Addr} {fd : FuncData} (Fu : Fun K "is_whole" "is_whole" s_is_whole f fd) (G : Facts mg) (O : Objs K mg) (D_is_int : Df Pg w K mg base 1 "is_int" (spZ K mg sp_is_int)) : FnP Pg w K mg base 2 f fd ["value", "low", "high"] (spZ K mg sp_is_whole) :=
  okZ (N := N_is_whole) (t := fun _ => t_is_whole) Fu sc_is_whole ln_is_whole (fun cdv A outer s H E Z0 nb C => dv_is_whole G O D_is_int cdv A outer s H E Z0 nb C) rd_is_whole
/-! #### require_load_kind -/
def kindB : D → Bool
  | .str s => decide (s = "up") || decide (s = "down")
  | _ => false
def sp_require_load_kind : ZSp := fun ds Q Ez => ∃ k, ds = [k] ∧ isK k ∧ (kindB k = true → Q (.sh .non)) ∧ (kindB k = false → Ez "InvalidKind" none)
def t_require_load_kind (ez : Str → Option (Str × D) → Prop) : ZS := zIfS (zOrT (zNotT (zB (zIsi "str" (zVarV 0)))) (zIn true (zVar 0) (zShV (zTup (zCons (zC (.str "up")) (zCons (zC (.str "down")) (zNil))))))) (zRaise ez "InvalidKind" (zC (.str "not up or down"))) (zNext)
theorem dv_require_load_kind {Pg : Program} {w : World} {K : PySem.W.Frag} {mg : Str → Option Value} {base : Heap} {f : Addr} (G : Facts mg) (O : Objs K mg) (cdv : Value) (A : Around) (outer : List Env) (s : Shared) (H : Hp) (E : XK) (Z0 : Zc) (nb : NoBag (Sup Z0)) (C : Cd 0 (cxOf (L2.CX Pg w) Pg w K mg base N_require_load_kind "require_load_kind" (defScope s_require_load_kind) f cdv A outer s H E) (Sup Z0)) :
    PSsd (cxOf (L2.CX Pg w) Pg w K mg base N_require_load_kind "require_load_kind" (defScope s_require_load_kind) f cdv A outer s H E) (Sup Z0) (defBody s_require_load_kind) (t_require_load_kind Z0.ez) :=
  (ssd_one (sd_if (wd_or (td_not (pt_b (pd_isi (T := "str") (by rfl) G.b_isinstance (by rfl) G.b_str rfl (pv_var 0) (by decide)))) (wd_or1 (pt_notin (pd_var 0 (nb.s 0)) (pd_tup (ad_cons pd_str (ad_cons pd_str ad_nil))).pv))).pt (ssd_one (sd_raise (ez := Z0.ez) O.r_InvalidKind C (by rfl) ezS pd_str)) ssd_nil))
--% reads
theorem ln_require_load_kind : ∀ ds Qz Ez, sp_require_load_kind ds Qz Ez → ds.length = 1 := by
  rintro ds Q E ⟨_, rfl, _⟩
  rfl
theorem in_kind (s : Str) : inV (V.str s) [V.str "up", V.str "down"] = kindB (.str s) := by
  have h : ∀ a b : Str, (a == b) = decide (b = a) := fun a b => by
    by_cases e : b = a
    · subst e; simp
    · rw [decide_eq_false e]
      simpa using fun z => e z.symm
  unfold kindB
  simp only [inV, List.any_cons, List.any_nil, eqV, Bool.or_false]
  rw [h, h]
theorem rd_require_load_kind : ∀ ds Qz (Ez : Str → Option (Str × D) → Prop), sp_require_load_kind ds Qz Ez → t_require_load_kind Ez { nx := fun _ => Qz (.sh .non), rt := fun r _ => Qz r } (startS N_require_load_kind ds) := by
  rintro ds Q E ⟨k, rfl, ⟨n, hn⟩, q, e⟩
  cases k
  case str s =>
    nofun
    refine ⟨sz2, ?_⟩
    nofun
    refine ⟨rfl, rfl, ?_⟩
    rw [in_kind]
    cases h : kindB (.str s) with
    | true =>
      nofun
      exact q h
    | false =>
      nofun
      exact e h
  all_goals first | (cases hn; done) | skip
  all_goals
    nofun
    exact e rfl
theorem ok_require_load_kind {Pg : Program} {w : World} {K : PySem.W.Frag} {mg : Str → Option Value} {base : Heap} {f : Addr} {fd : FuncData} (Fu : Fun K "require_load_kind" "require_load_kind" s_require_load_kind f fd) (G : Facts mg) (O : Objs K mg) : FnP Pg w K mg base 1 f fd ["value"] (spZ K mg sp_require_load_kind) :=
  okZ (N := N_require_load_kind) (t := t_require_load_kind) Fu sc_require_load_kind ln_require_load_kind (fun cdv A outer s H E Z0 nb C => dv_require_load_kind G O cdv A outer s H E Z0 nb C) rd_require_load_kind
/-! #### require_seen -/
def pairOk : D → Bool
  | .tup [a, b] => wholeD 1 (10 ^ 30) a && wholeD 1 (10 ^ 30) b
  | _ => false
def firstBad : Nat → List D → Option D
  | _, [] => none
  | i, x :: xs => if pairOk x = false then some (.int ((i : Nat) : Int)) else firstBad (i + 1) xs
def seenBad : D → Option D
  | .lst xs => if 1 ≤ xs.length ∧ xs.length ≤ 20 then firstBad 0 xs else some .non
  | _ => some .non
def SeenK (s : D) : Prop := isK s ∧ (∀ xs, s ≠ .fls xs) ∧ ∀ xs, s = .lst xs → ∀ x ∈ xs, isK x ∧ ∀ ys, x = .tup ys → ∀ y ∈ ys, isK y
def sp_require_seen : ZSp := fun ds Q Ez => ∃ s, ds = [s] ∧ SeenK s ∧ (seenBad s = none → Q (.sh .non)) ∧ (∀ x, seenBad s = some x → Ez "InvalidSeen" (some ("item", x)))
def t_require_seen (ez : Str → Option (Str × D) → Prop) : ZS := zSeq (zIfS (zOrT (zNotT (zB (zIsi "list" (zVarV 0)))) (zNotT (zChainT fLe fLe (zC (.int 1)) (zLen (zVarV 0)) (zC (.int 20))))) (zRaiseF ez "InvalidSeen" "item" (zC .non)) (zNext)) (
  zFor (zItE (zVar 0)) (gzTup 2 (gzCons (gzName 1) (gzCons (gzName 2) (gzNil)))) (zSeq (zIfS (zOrT (zNotT (zB (zIsi "tuple" (zVarV 2)))) (zCmpT fNe (zLen (zVarV 2)) (zC (.int 2)))) (zRaiseF ez "InvalidSeen" "item" (zVar 1)) (zNext)) (
  zIfS (zNotT (zB (zBlt fAll (zCons (zFD (zLc [3] (zItS (zVar 2)) (gzName 3) (zYes) (zCall sp_is_whole eF (zCons (zVar 3) (zCons (zC (.int 1)) (zCons (zC (.int 1000000000000000000000000000000)) (zNil))))))) (zNil))))) (zRaiseF ez "InvalidSeen" "item" (zVar 1)) (zNext))))
theorem dv_require_seen {Pg : Program} {w : World} {K : PySem.W.Frag} {mg : Str → Option Value} {base : Heap} {f : Addr} (G : Facts mg) (O : Objs K mg) (D_InvalidSeen_init : Ei Pg w K mg base 1 "InvalidSeen" "item") (D_is_whole : Df Pg w K mg base 2 "is_whole" (spZ K mg sp_is_whole)) (cdv : Value) (A : Around) (outer : List Env) (s : Shared) (H : Hp) (E : XK) (Z0 : Zc) (nb : NoBag (Sup Z0)) (C : Cd 2 (cxOf (L2.CX Pg w) Pg w K mg base N_require_seen "require_seen" (defScope s_require_seen) f cdv A outer s H E) (Sup Z0)) :
    PSsd (cxOf (L2.CX Pg w) Pg w K mg base N_require_seen "require_seen" (defScope s_require_seen) f cdv A outer s H E) (Sup Z0) (defBody s_require_seen) (t_require_seen Z0.ez) :=
  (ssd_cons (sd_if (wd_or (td_not (pt_b (pd_isi (T := "list") (by rfl) G.b_isinstance (by rfl) G.b_list rfl (pv_var 0) (by decide)))) (wd_or1 (td_not (pt_chainZ op_le cz_le op_le cz_le pd_int (pd_len (by rfl) G.b_len PySem.boot_len (pv_var 0)) (pd_globi (by rfl) G.c_MOST_SEEN))))).pt (ssd_one (sd_raiseF (ez := Z0.ez) D_InvalidSeen_init C (by rfl) ezS pd_non)) ssd_nil)
    (ssd_one (sd_for C.po C.calm (id_enum (by rfl) G.b_enumerate (pd_var 0 (nb.s 0))) (gd_tup C.calm (gsd_cons (gd_name (i := 1) (nb.s 1) C.nd) (gsd_cons (gd_name (i := 2) (nb.s 2) C.nd) gsd_nil))) (ssd_cons (sd_if (wd_or (td_not (pt_b (pd_isi (T := "tuple") (by rfl) G.b_isinstance (by rfl) G.b_tuple rfl (pv_var 2) (by decide)))) (wd_or1 (pt_cmp (op_neA C.hu) cz_ne (pd_len (by rfl) G.b_len PySem.boot_len (pv_var 2)) pd_int))).pt (ssd_one (sd_raiseF (ez := Z0.ez) D_InvalidSeen_init C (by rfl) ezS (pd_var 1 (nb.s 1)))) ssd_nil)
    (ssd_one (sd_if (td_not (pt_b (pd_blt bz_all (cr_all C.calm) (by rfl) G.b_all rfl (ad_cons (pf_lc (own := [("number", 3)]) C.calm C.nd nb.l (id_seq (pd_var 2 (nb.s 2))) (blkOk_by (N := N_require_seen) (sc := defScope s_require_seen) (by decide +kernel)) (by decide) (fun _ _ _ _ _ => (gd_name (i := 3) (nb.pin.s 3) C.blk.nd)) (fun _ _ _ _ _ => tsd_nil) (fun _ _ _ _ _ => (dd_call D_is_whole C.blk (by rfl) eF ez0 (ad_cons (pd_var 3 (nb.pin.s 3)) (ad_cons pd_int (ad_cons (pd_globi (by rfl) G.c_MOST_NUMBER) ad_nil)))))).pd ad_nil)))) (ssd_one (sd_raiseF (ez := Z0.ez) D_InvalidSeen_init C (by rfl) ezS (pd_var 1 (nb.s 1)))) ssd_nil))))))
--% reads
theorem ln_require_seen : ∀ ds Qz Ez, sp_require_seen ds Qz Ez → ds.length = 1 := by
  rintro ds Q E ⟨_, rfl, _⟩
  rfl
theorem rd_require_seen : ∀ ds Qz (Ez : Str → Option (Str × D) → Prop), sp_require_seen ds Qz Ez → t_require_seen Ez { nx := fun _ => Qz (.sh .non), rt := fun r _ => Qz r } (startS N_require_seen ds) := by
  rintro ds Q E ⟨s, rfl, ⟨⟨n, hn⟩, hf, hk⟩, q, e⟩
  cases s
  case fls xs => exact absurd rfl (hf xs)
  case lst xs =>
    have hk := hk xs rfl
    unfold seenBad at q e
    nofun
    refine ⟨fun v => ?_, fun v => ?_⟩
    · have v := asc v
      nofun
      refine ⟨fun v2 => ?_, fun v2 => ?_⟩
      · have v2 : ¬ xs.length ≤ 20 := by simp at v2; omega
        nofun
        exact e _ (if_neg fun z => v2 z.2)
      · have v2 : xs.length ≤ 20 := by simp at v2; omega
        have c : 1 ≤ xs.length ∧ xs.length ≤ 20 := ⟨by omega, v2⟩
        simp only [if_pos c] at q e
        nofun
        refine forz_ind (fun i S => ∃ a b, S = [.sh (.lst xs), a, b, .un] ∧ firstBad i (xs.drop i) = firstBad 0 xs) ⟨_, _, rfl, rfl⟩ ?_ ?_
        · rintro i d S hd ⟨a, b, rfl, hi⟩ K hK
          obtain ⟨x, hx, rfl⟩ := enumD_get hd
          obtain ⟨⟨nx, hnx⟩, kx⟩ := hk x (List.mem_of_getElem? hx)
          rw [dropA hx] at hi
          simp only [firstBad] at hi
          rw [Nat.zero_add]
          have bad : pairOk x = false → E "InvalidSeen" (some ("item", .int (i : Int))) := fun z => e _ (by rw [← hi, if_pos z])
          have good : pairOk x = true → firstBad (i + 1) (xs.drop (i + 1)) = firstBad 0 xs := fun z => by rw [if_neg (by rw [z]; decide)] at hi; exact hi
          clear hd hx hi
          cases x
          case tup ys =>
            have kx := kx ys rfl
            nofun
            refine ⟨rfl, ?_⟩
            nofun
            refine ⟨fun u => ?_, fun u => ?_⟩
            · nofun
              refine bad ?_
              have u : ys.length ≠ 2 := by simp at u; omega
              match ys, u with
              | [], _ => rfl
              | [_], _ => rfl
              | [_, _], u => exact absurd rfl u
              | _ :: _ :: _ :: _, _ => rfl
            · have u : ys.length = 2 := by simp at u; omega
              obtain ⟨p, r, rfl⟩ : ∃ p r, ys = [p, r] := match ys, u with
                | [p, r], _ => ⟨p, r, rfl⟩
              obtain ⟨np, hp⟩ := kx p (by simp)
              obtain ⟨nr, hr⟩ := kx r (by simp)
              nofun
              refine ⟨⟨trivial, trivial⟩, ?_⟩
              nofun
              refine ⟨p, np, 1, 10 ^ 30, rfl, hp, ?_⟩
              nofun
              refine ⟨show 0 < sizeLine by decide, ?_⟩
              nofun
              refine ⟨r, nr, 1, 10 ^ 30, rfl, hr, ?_⟩
              nofun
              refine ⟨show 1 < sizeLine by decide, ?_⟩
              nofun
              refine ⟨fun w => ?_, fun w => ?_⟩
              · refine bad ?_
                show (wholeD 1 (10 ^ 30) p && wholeD 1 (10 ^ 30) r) = false
                have w : (!(wholeD 1 (10 ^ 30) p && (wholeD 1 (10 ^ 30) r && true))) = true := w
                rw [Bool.and_true] at w
                cases h : (wholeD 1 (10 ^ 30) p && wholeD 1 (10 ^ 30) r)
                · rfl
                · rw [h] at w; cases w
              · refine hK _ ⟨_, _, rfl, good ?_⟩
                simp at w
                simpa [pairOk] using w
          all_goals first | (cases hnx; done) | skip
          all_goals
            nofun
            refine ⟨rfl, ?_⟩
            nofun
            exact bad rfl
        · rintro S ⟨a, b, rfl, hi⟩
          rw [enumD_length, List.drop_length] at hi
          exact q hi.symm
    · have v := nac v
      nofun
      exact e _ (if_neg fun z => v (by omega))
  all_goals first | (cases hn; done) | skip
  all_goals
    nofun
    exact e _ rfl
theorem ok_require_seen {Pg : Program} {w : World} {K : PySem.W.Frag} {mg : Str → Option Value} {base : Heap} {f : Addr} {fd : FuncData} (Fu : Fun K "require_seen" "require_seen" s_require_seen f fd) (G : Facts mg) (O : Objs K mg) (D_InvalidSeen_init : Ei Pg w K mg base 1 "InvalidSeen" "item") (D_is_whole : Df Pg w K mg base 2 "is_whole" (spZ K mg sp_is_whole)) : FnP Pg w K mg base 3 f fd ["value"] (spZ K mg sp_require_seen) :=
  okZ (N := N_require_seen) (t := t_require_seen) Fu sc_require_seen ln_require_seen (fun cdv A outer s H E Z0 nb C => dv_require_seen G O D_InvalidSeen_init D_is_whole cdv A outer s H E Z0 nb C) rd_require_seen
/-! #### steps_within -/
def pairD (p : Int × Int) : D := .tup [.int p.1, .int p.2]
def PairsOk (ps : List (Int × Int)) : Prop := ps.length ≤ 20 ∧ ∀ p ∈ ps, 1 ≤ p.1 ∧ p.1 ≤ 10 ^ 30 ∧ 1 ≤ p.2 ∧ p.2 ≤ 10 ^ 30
def sp_steps_within : ZSp := fun ds Q _ => ∃ most ps a b, ds = [.int most, .lst (ps.map pairD), .int a, .int b] ∧ PairsOk ps ∧ ∀ c d, Q (.sh (.tup [.int c, .int d]))
def t_steps_within : ZS := zSeq (zFor (zItS (zVar 1)) (gzTup 2 (gzCons (gzName 4) (gzCons (gzName 5) (gzNil)))) (zSeq (zSet (zSub (zVar 4) (zVar 0)) 6) (
  zIfS (zCmpT fEq (zVar 5) (zC (.int 1))) (zIfS (zCmpT fGt (zVar 6) (zC (.int 0))) (zRet (zTup (zCons (zC (.int 1)) (zCons (zC (.int 0)) (zNil))))) (zNext)) (zIfS (zCmpT fLt (zVar 6) (zC (.int 1))) (zRet (zTup (zCons (zC (.int 1)) (zCons (zC (.int 0)) (zNil))))) (zSeq (zSet (zBlt fMax2 (zCons (zVar 2) (zCons (zNeg (zDiv (zNeg (zVar 6)) (zSub (zVar 5) (zC (.int 1))))) (zNil)))) 2) (
  zIfS (zCmpT fGt (zVar 5) (zC (.int 2))) (zSet (zBlt fMin2 (zCons (zVar 3) (zCons (zDiv (zSub (zVar 6) (zC (.int 1))) (zSub (zVar 5) (zC (.int 2)))) (zNil)))) 3) (zNext))))))) (
  zRet (zTup (zCons (zVar 2) (zCons (zVar 3) (zNil)))))
theorem dv_steps_within {Pg : Program} {w : World} {K : PySem.W.Frag} {mg : Str → Option Value} {base : Heap} {f : Addr} (G : Facts mg) (O : Objs K mg) (cdv : Value) (A : Around) (outer : List Env) (s : Shared) (H : Hp) (E : XK) (Z0 : Zc) (nb : NoBag (Sup Z0)) (C : Cd 0 (cxOf (L2.CX Pg w) Pg w K mg base N_steps_within "steps_within" (defScope s_steps_within) f cdv A outer s H E) (Sup Z0)) :
    PSsd (cxOf (L2.CX Pg w) Pg w K mg base N_steps_within "steps_within" (defScope s_steps_within) f cdv A outer s H E) (Sup Z0) (defBody s_steps_within) t_steps_within :=
  (ssd_cons (sd_for C.po C.calm (id_seq (pd_var 1 (nb.s 1))) (gd_tup C.calm (gsd_cons (gd_name (i := 4) (nb.s 4) C.nd) (gsd_cons (gd_name (i := 5) (nb.s 5) C.nd) gsd_nil))) (ssd_cons (sd_set (i := 6) (nb.s 6) C.nd (pd_sub (pd_var 4 (nb.s 4)) (pd_var 0 (nb.s 0))))
    (ssd_one (sd_if (pt_cmp (op_eqA C.hu) cz_eq (pd_var 5 (nb.s 5)) pd_int) (ssd_one (sd_if (pt_cmp op_gt cz_gt (pd_var 6 (nb.s 6)) pd_int) (ssd_one (sd_ret (pd_tup (ad_cons pd_int (ad_cons pd_int ad_nil))))) ssd_nil)) (ssd_one (sd_if (pt_cmp op_lt cz_lt (pd_var 6 (nb.s 6)) pd_int) (ssd_one (sd_ret (pd_tup (ad_cons pd_int (ad_cons pd_int ad_nil))))) (ssd_cons (sd_set (i := 2) (nb.s 2) C.nd (pd_blt bz_max2 (call_max2 C.calm) (by rfl) G.b_max rfl (ad_cons (pd_var 2 (nb.s 2)) (ad_cons (pd_neg (pd_div (pd_neg (pd_var 6 (nb.s 6))) (pd_sub (pd_var 5 (nb.s 5)) pd_int))) ad_nil))))
    (ssd_one (sd_if (pt_cmp op_gt cz_gt (pd_var 5 (nb.s 5)) pd_int) (ssd_one (sd_set (i := 3) (nb.s 3) C.nd (pd_blt bz_min2 (call_min2 C.calm) (by rfl) G.b_min rfl (ad_cons (pd_var 3 (nb.s 3)) (ad_cons (pd_div (pd_sub (pd_var 6 (nb.s 6)) pd_int) (pd_sub (pd_var 5 (nb.s 5)) pd_int)) ad_nil))))) ssd_nil)))))))))
    (ssd_one (sd_ret (pd_tup (ad_cons (pd_var 2 (nb.s 2)) (ad_cons (pd_var 3 (nb.s 3)) ad_nil))))))
--% reads
theorem ln_steps_within : ∀ ds Qz Ez, sp_steps_within ds Qz Ez → ds.length = 4 := by
  rintro ds Q E ⟨_, _, _, _, rfl, _⟩
  rfl
theorem map_get {α : Type} {f : α → D} {xs : List α} {i : Nat} {d : D} (h : (xs.map f)[i]? = some d) : ∃ x, xs[i]? = some x ∧ d = f x := by
  rw [List.getElem?_map] at h
  cases e : xs[i]? with
  | none => rw [e] at h; cases h
  | some x => rw [e] at h; cases h; exact ⟨x, rfl, rfl⟩
theorem rd_steps_within : ∀ ds Qz (Ez : Str → Option (Str × D) → Prop), sp_steps_within ds Qz Ez → t_steps_within { nx := fun _ => Qz (.sh .non), rt := fun r _ => Qz r } (startS N_steps_within ds) := by
  rintro ds Q E ⟨most, ps, a, b, rfl, ⟨_, h3⟩, q⟩
  nofun
  refine forz_ind (fun i S => ∃ x y z a' b', S = [.sh (.int most), .sh (.lst (ps.map pairD)), .sh (.int a'), .sh (.int b'), x, y, z]) ⟨_, _, _, _, _, rfl⟩ ?_ ?_
  · rintro i d S hd ⟨x, y, z, a', b', rfl⟩ K hK
    obtain ⟨⟨e, l⟩, hp, rfl⟩ := map_get hd
    obtain ⟨h4, h5, h6, h7⟩ := h3 _ (List.mem_of_getElem? hp)
    simp only at h4 h5 h6 h7
    nofun
    refine ⟨rfl, ?_⟩
    nofun
    refine ⟨fun z => ?_, fun z => ?_⟩
    · nofun
      refine ⟨fun y => ?_, fun y => ?_⟩
      · nofun
        exact ⟨by decide, q _ _⟩
      · exact hK _ ⟨_, _, _, _, _, rfl⟩
    · have z := nac z
      nofun
      refine ⟨fun y => ?_, fun y => ?_⟩
      · nofun
        exact ⟨by decide, q _ _⟩
      · have y := nac y
        nofun
        refine ⟨divW (show (0 : Int) < l - 1 by omega) (show l - 1 < 2 ^ 200 by omega), ?_⟩
        nofun
        refine ⟨fun w => ?_, fun w => ?_⟩
        · have w := asc w
          nofun
          refine ⟨divW (show (0 : Int) < l - 2 by omega) (show l - 2 < 2 ^ 200 by omega), ?_⟩
          exact hK _ ⟨_, _, _, _, _, rfl⟩
        · exact hK _ ⟨_, _, _, _, _, rfl⟩
  · rintro S ⟨x, y, z, a', b', rfl⟩
    nofun
    exact ⟨sz2, q _ _⟩
theorem ok_steps_within {Pg : Program} {w : World} {K : PySem.W.Frag} {mg : Str → Option Value} {base : Heap} {f : Addr} {fd : FuncData} (Fu : Fun K "steps_within" "steps_within" s_steps_within f fd) (G : Facts mg) (O : Objs K mg) : FnP Pg w K mg base 1 f fd ["most", "seen", "least", "greatest"] (spZ K mg sp_steps_within) :=
  okZ (N := N_steps_within) (t := fun _ => t_steps_within) Fu sc_steps_within ln_steps_within (fun cdv A outer s H E Z0 nb C => dv_steps_within G O cdv A outer s H E Z0 nb C) rd_steps_within
/-! #### fitting_rules -/
def errOf (k s m : D) : Option (Str × Option D) :=
  if kindB k = false then some ("InvalidKind", none)
  else match seenBad s with
    | some x => some ("InvalidSeen", some x)
    | none => if wholeD 3 1000 m = false then some ("InvalidNumber", none) else none
def raised (Ez : Str → Option (Str × D) → Prop) : Str × Option D → Prop
  | (c, none) => Ez c none
  | (c, some x) => Ez c (some ("item", x))
def sp_fitting_rules : ZSp := fun ds Q Ez => ∃ k s m, ds = [k, s, m] ∧ isK k ∧ SeenK s ∧ isK m ∧ (errOf k s m = none → ∀ xs, Q (.ow xs)) ∧ (∀ e, errOf k s m = some e → raised Ez e)
def t_fitting_rules (ez : Str → Option (Str × D) → Prop) : ZS := zSeq (zDrop (zCall sp_require_load_kind ez (zCons (zVar 0) (zNil)))) (
  zSeq (zDrop (zCall sp_require_seen ez (zCons (zVar 1) (zNil)))) (
  zSeq (zIfS (zNotT (zB (zCall sp_is_whole eF (zCons (zVar 2) (zCons (zC (.int 3)) (zCons (zC (.int 1000)) (zNil))))))) (zRaise ez "InvalidNumber" (zC (.str "not an integer from 3 to 1,000"))) (zNext)) (
  zSeq (zSetF (zLst (zNil)) 3) (
  zSeq (zFor (zItR2 (zC (.int 3)) (zAdd (zVar 2) (zC (.int 1)))) (gzName 4) (zSeq (zSet (zBlt fMax2 (zCons (zC (.int 2)) (zCons (zNeg (zDiv (zNeg (zAdd (zVar 4) (zC (.int 1)))) (zC (.int 4)))) (zNil)))) 5) (
  zSeq (zAsg (zCall sp_steps_within eF (zCons (zVar 4) (zCons (zVar 1) (zCons (zVar 5) (zCons (zSub (zAdd (zVar 4) (zC (.int 1))) (zVar 5)) (zNil)))))) (gzTup 2 (gzCons (gzName 6) (gzCons (gzName 7) (gzNil))))) (
  zIfS (zCmpT fLe (zVar 6) (zVar 7)) (zDrop (zLM 3 fApp (zCons (zIf (zCmpT fEq (zVar 0) (zC (.str "up"))) (zTup (zCons (zVar 4) (zCons (zVar 6) (zCons (zVar 7) (zNil))))) (zTup (zCons (zVar 4) (zCons (zSub (zAdd (zVar 4) (zC (.int 1))) (zVar 7)) (zCons (zSub (zAdd (zVar 4) (zC (.int 1))) (zVar 6)) (zNil)))))) (zNil)))) (zNext))))) (
  zRetO 3)))))
theorem dv_fitting_rules {Pg : Program} {w : World} {K : PySem.W.Frag} {mg : Str → Option Value} {base : Heap} {f : Addr} (G : Facts mg) (O : Objs K mg) (D_is_whole : Df Pg w K mg base 2 "is_whole" (spZ K mg sp_is_whole)) (D_require_load_kind : Df Pg w K mg base 1 "require_load_kind" (spZ K mg sp_require_load_kind)) (D_require_seen : Df Pg w K mg base 3 "require_seen" (spZ K mg sp_require_seen)) (D_steps_within : Df Pg w K mg base 1 "steps_within" (spZ K mg sp_steps_within)) (cdv : Value) (A : Around) (outer : List Env) (s : Shared) (H : Hp) (E : XK) (Z0 : Zc) (nb : NoBag (Sup Z0)) (C : Cd 3 (cxOf (L2.CX Pg w) Pg w K mg base N_fitting_rules "fitting_rules" (defScope s_fitting_rules) f cdv A outer s H E) (Sup Z0)) :
    PSsd (cxOf (L2.CX Pg w) Pg w K mg base N_fitting_rules "fitting_rules" (defScope s_fitting_rules) f cdv A outer s H E) (Sup Z0) (defBody s_fitting_rules) (t_fitting_rules Z0.ez) :=
  (ssd_cons (sd_expr (dd_call D_require_load_kind C (by rfl) Z0.ez ezS (ad_cons (pd_var 0 (nb.s 0)) ad_nil)))
    (ssd_cons (sd_expr (dd_call D_require_seen C (by rfl) Z0.ez ezS (ad_cons (pd_var 1 (nb.s 1)) ad_nil)))
    (ssd_cons (sd_if (td_not (pt_b (dd_call D_is_whole C (by rfl) eF ez0 (ad_cons (pd_var 2 (nb.s 2)) (ad_cons pd_int (ad_cons (pd_globi (by rfl) G.c_MOST_LEAF) ad_nil)))))) (ssd_one (sd_raise (ez := Z0.ez) O.r_InvalidNumber C (by rfl) ezS pd_str)) ssd_nil)
    (ssd_cons (sd_setF (i := 3) (nb.s 3) C.nd (pf_lst ad_nil))
    (ssd_cons (sd_for C.po C.calm (id_range2 (by rfl) G.b_range pd_int (pd_add (pd_var 2 (nb.s 2)) pd_int)) (gd_name (i := 4) (nb.s 4) C.nd) (ssd_cons (sd_set (i := 5) (nb.s 5) C.nd (pd_blt bz_max2 (call_max2 C.calm) (by rfl) G.b_max rfl (ad_cons pd_int (ad_cons (pd_neg (pd_div (pd_neg (pd_add (pd_var 4 (nb.s 4)) pd_int)) pd_int)) ad_nil))))
    (ssd_cons (sd_asg (dd_call D_steps_within C (by rfl) eF ez0 (ad_cons (pd_var 4 (nb.s 4)) (ad_cons (pd_var 1 (nb.s 1)) (ad_cons (pd_var 5 (nb.s 5)) (ad_cons (pd_sub (pd_add (pd_var 4 (nb.s 4)) pd_int) (pd_var 5 (nb.s 5))) ad_nil))))) (gd_tup C.calm (gsd_cons (gd_name (i := 6) (nb.s 6) C.nd) (gsd_cons (gd_name (i := 7) (nb.s 7) C.nd) gsd_nil))))
    (ssd_one (sd_if (pt_cmp op_le cz_le (pd_var 6 (nb.s 6)) (pd_var 7 (nb.s 7))) (ssd_one (sd_expr (pd_lm (i := 3) PySem.F.slot_list_append PySem.F.type_list_append mt_append mz_append (ad_cons (pd_if (pt_cmp (op_eqA C.hu) cz_eq (pd_var 0 (nb.s 0)) pd_str) (pd_tup (ad_cons (pd_var 4 (nb.s 4)) (ad_cons (pd_var 6 (nb.s 6)) (ad_cons (pd_var 7 (nb.s 7)) ad_nil)))) (pd_tup (ad_cons (pd_var 4 (nb.s 4)) (ad_cons (pd_sub (pd_add (pd_var 4 (nb.s 4)) pd_int) (pd_var 7 (nb.s 7))) (ad_cons (pd_sub (pd_add (pd_var 4 (nb.s 4)) pd_int) (pd_var 6 (nb.s 6))) ad_nil))))) ad_nil)))) ssd_nil)))))
    (ssd_one (sd_retO (i := 3) (nb.s 3))))))))
--% reads
theorem ln_fitting_rules : ∀ ds Qz Ez, sp_fitting_rules ds Qz Ez → ds.length = 3 := by
  rintro ds Q E ⟨_, _, _, rfl, _⟩
  rfl
theorem pairs_of : ∀ (i : Nat) (xs : List D), firstBad i xs = none → ∃ ps : List (Int × Int), xs = ps.map pairD ∧ ∀ p ∈ ps, 1 ≤ p.1 ∧ p.1 ≤ 10 ^ 30 ∧ 1 ≤ p.2 ∧ p.2 ≤ 10 ^ 30
  | _, [], _ => ⟨[], rfl, fun p h => by cases h⟩
  | i, x :: xs, h => by
    unfold firstBad at h
    split at h
    · cases h
    · rename_i hx
      obtain ⟨ps, rfl, hp⟩ := pairs_of (i + 1) xs h
      have hx : pairOk x = true := by simpa using hx
      unfold pairOk at hx
      split at hx
      · rename_i a b
        rw [Bool.and_eq_true] at hx
        obtain ⟨u, rfl, u1, u2⟩ := whole_int hx.1
        obtain ⟨v, rfl, v1, v2⟩ := whole_int hx.2
        exact ⟨(u, v) :: ps, rfl, fun p hm => by
          rcases List.mem_cons.mp hm with rfl | hm
          · exact ⟨u1, u2, v1, v2⟩
          · exact hp p hm⟩
      · cases hx
theorem seen_of {s : D} (h : seenBad s = none) : ∃ ps, s = .lst (ps.map pairD) ∧ PairsOk ps := by
  unfold seenBad at h
  split at h
  · rename_i xs
    split at h
    · rename_i hl
      obtain ⟨ps, rfl, hp⟩ := pairs_of 0 xs h
      exact ⟨ps, rfl, by simpa using hl.2, hp⟩
    · cases h
  · cases h
theorem rd_fitting_rules : ∀ ds Qz (Ez : Str → Option (Str × D) → Prop), sp_fitting_rules ds Qz Ez → t_fitting_rules Ez { nx := fun _ => Qz (.sh .non), rt := fun r _ => Qz r } (startS N_fitting_rules ds) := by
  rintro ds Q E ⟨k, s, m, rfl, hk, hs, ⟨nm, hm⟩, q, e⟩
  unfold errOf at q e
  nofun
  refine ⟨hk, fun h1 => ?_, fun h1 => ?_⟩
  rotate_left
  · rw [if_pos h1] at e
    exact e _ rfl
  rw [if_neg (by rw [h1]; decide)] at q e
  nofun
  refine ⟨hs, fun h2 => ?_, fun x h2 => ?_⟩
  rotate_left
  · rw [h2] at e
    exact e _ rfl
  rw [h2] at q e
  obtain ⟨ps, rfl, hps⟩ := seen_of h2
  simp only at q e
  nofun
  refine ⟨m, nm, 3, 1000, rfl, hm, ?_⟩
  by_cases h3 : wholeD 3 1000 m = false
  · rw [if_pos h3] at e
    rw [h3]
    nofun
    exact e _ rfl
  rw [if_neg h3] at q
  have q := q rfl
  have h3 : wholeD 3 1000 m = true := by simpa using h3
  obtain ⟨w, rfl, w1, w2⟩ := whole_int h3
  rw [h3]
  nofun
  refine ⟨Nat.zero_le _, ?_⟩
  nofun
  refine ⟨⟨by decide, by decide, by omega, by omega⟩, ?_⟩
  refine forz_ind (fun i S => ∃ fs x4 x5 x6 x7, S = [.sh k, .sh (.lst (ps.map pairD)), .sh (.int w), .ow fs, x4, x5, x6, x7] ∧ fs.length ≤ i) ⟨_, _, _, _, _, rfl, Nat.le_refl _⟩ ?_ ?_
  · rintro i d S hd ⟨fs, x4, x5, x6, x7, rfl, hl⟩ K hK
    obtain ⟨hi, rfl⟩ := rangeD_get hd
    have szf : fs.length < sizeLine := by rw [sizeLine_eq]; omega
    nofun
    refine ⟨divW (by decide) (by decide), ?_⟩
    nofun
    refine ⟨_, ps, _, _, rfl, hps, fun c d => ?_⟩
    nofun
    refine ⟨rfl, ?_⟩
    nofun
    obtain ⟨u, rfl⟩ : ∃ u, k = .str u := by
      unfold kindB at h1
      split at h1
      · exact ⟨_, rfl⟩
      · cases h1
    refine ⟨fun v => ?_, fun v => ?_⟩
    · nofun
      refine ⟨fun z => ?_, fun z => ?_⟩
      · nofun
        refine ⟨sz3, ?_⟩
        nofun
        exact ⟨szf, hK _ ⟨_, _, _, _, _, rfl, by simp; omega⟩⟩
      · nofun
        refine ⟨sz3, ?_⟩
        nofun
        exact ⟨szf, hK _ ⟨_, _, _, _, _, rfl, by simp; omega⟩⟩
    · nofun
      exact hK _ ⟨_, _, _, _, _, rfl, by omega⟩
  · rintro S ⟨fs, x4, x5, x6, x7, rfl, _⟩
    nofun
    exact q fs
theorem ok_fitting_rules {Pg : Program} {w : World} {K : PySem.W.Frag} {mg : Str → Option Value} {base : Heap} {f : Addr} {fd : FuncData} (Fu : Fun K "fitting_rules" "fitting_rules" s_fitting_rules f fd) (G : Facts mg) (O : Objs K mg) (D_is_whole : Df Pg w K mg base 2 "is_whole" (spZ K mg sp_is_whole)) (D_require_load_kind : Df Pg w K mg base 1 "require_load_kind" (spZ K mg sp_require_load_kind)) (D_require_seen : Df Pg w K mg base 3 "require_seen" (spZ K mg sp_require_seen)) (D_steps_within : Df Pg w K mg base 1 "steps_within" (spZ K mg sp_steps_within)) : FnP Pg w K mg base 4 f fd ["kind", "seen", "most"] (spZ K mg sp_fitting_rules) :=
  okZ (N := N_fitting_rules) (t := t_fitting_rules) Fu sc_fitting_rules ln_fitting_rules (fun cdv A outer s H E Z0 nb C => dv_fitting_rules G O D_is_whole D_require_load_kind D_require_seen D_steps_within cdv A outer s H E Z0 nb C) rd_fitting_rules
/-! #### law_bag -/
/-- m picks more can be made -/
def BagOk (m : Nat) (bs : List D) : Prop := ∃ b0 b1 c : Int, bs = [.int b0, .int b1, .int c] ∧ 0 ≤ c ∧ c + m ≤ 2 ^ 64
theorem BagOk.le {m n : Nat} {bs : List D} (h : BagOk m bs) (l : n ≤ m) : BagOk n bs := by
  obtain ⟨b0, b1, c, e, h1, h2⟩ := h
  exact ⟨b0, b1, c, e, h1, by omega⟩
def sp_law_bag : ZSp := fun ds Q _ => ∃ cell, ds = [.int cell] ∧ ∀ bs, BagOk 1000000 bs → Q (.ow bs)
def t_law_bag : ZS := zRetF (zLst (zCons (zBlt fMax2 (zCons (zC (.int 0)) (zCons (zSub (zVar 0) (zC (.int 1000000000000000000))) (zNil)))) (zCons (zVar 0) (zCons (zC (.int 0)) (zNil)))))
theorem dv_law_bag {Pg : Program} {w : World} {K : PySem.W.Frag} {mg : Str → Option Value} {base : Heap} {f : Addr} (G : Facts mg) (O : Objs K mg) (cdv : Value) (A : Around) (outer : List Env) (s : Shared) (H : Hp) (E : XK) (Z0 : Zc) (nb : NoBag (Sup Z0)) (C : Cd 0 (cxOf (L2.CX Pg w) Pg w K mg base N_law_bag "_law_bag" (defScope s_law_bag) f cdv A outer s H E) (Sup Z0)) :
    PSsd (cxOf (L2.CX Pg w) Pg w K mg base N_law_bag "_law_bag" (defScope s_law_bag) f cdv A outer s H E) (Sup Z0) (defBody s_law_bag) t_law_bag :=
  (ssd_one (sd_retF (pf_lst (ad_cons (pd_blt bz_max2 (call_max2 C.calm) (by rfl) G.b_max rfl (ad_cons pd_int (ad_cons (pd_sub (pd_var 0 (nb.s 0)) (pd_powc (v := 1000000000000000000))) ad_nil))) (ad_cons (pd_var 0 (nb.s 0)) (ad_cons pd_int ad_nil))))))
--% reads
theorem ln_law_bag : ∀ ds Qz Ez, sp_law_bag ds Qz Ez → ds.length = 1 := by
  rintro ds Q E ⟨_, rfl, _⟩
  rfl
theorem rd_law_bag : ∀ ds Qz (Ez : Str → Option (Str × D) → Prop), sp_law_bag ds Qz Ez → t_law_bag { nx := fun _ => Qz (.sh .non), rt := fun r _ => Qz r } (startS N_law_bag ds) := by
  rintro ds Q E ⟨cell, rfl, q⟩
  nofun
  exact ⟨sz3, q _ ⟨_, _, _, rfl, by decide, by decide⟩⟩
theorem ok_law_bag {Pg : Program} {w : World} {K : PySem.W.Frag} {mg : Str → Option Value} {base : Heap} {f : Addr} {fd : FuncData} (Fu : Fun K "_law_bag" "_law_bag" s_law_bag f fd) (G : Facts mg) (O : Objs K mg) : FnP Pg w K mg base 1 f fd ["cell"] (spZ K mg sp_law_bag) :=
  okZ (N := N_law_bag) (t := fun _ => t_law_bag) Fu sc_law_bag ln_law_bag (fun cdv A outer s H E Z0 nb C => dv_law_bag G O cdv A outer s H E Z0 nb C) rd_law_bag
/-! #### law_pick -/
def sp_law_pick : ZSb := fun bs ds Q => ∃ (m : Nat) (many : Int), BagOk (m + 1) bs ∧ ds = [.int many] ∧ 0 < many ∧ many < 2 ^ 200 ∧ ∀ r bs', 0 ≤ r → r < many → BagOk m bs' → Q (.int r) bs'
def t_law_pick : ZS := zSeq (zSetIx 0 (zAdd (zIx (zVarV 0) (zC (.int 2))) (zC (.int 1))) (zC (.int 2))) (
  zSeq (zIfS (zCmpT fGt (zIx (zVarV 0) (zC (.int 0))) (zC (.int 0))) (zSeq (zSet (zMod (zBlt fInt (zCons (zIx (zVarV 0) (zC (.int 0))) (zNil))) (zVar 1)) 2) (
  zSeq (zSetIx 0 (zDiv (zBlt fInt (zCons (zIx (zVarV 0) (zC (.int 0))) (zNil))) (zVar 1)) (zC (.int 0))) (
  zRet (zVar 2)))) (zNext)) (
  zSeq (zPar 3 4 (zXD (zBlt fInt (zCons (zIx (zVarV 0) (zC (.int 1))) (zNil)))) (zXD (zBlt fInt (zCons (zIx (zVarV 0) (zC (.int 2))) (zNil))))) (
  zSeq (zSet (zMod (zBlt fInt (zCons (zAdd (zAdd (zMul (zMod (zVar 3) (zC (.int 2147483629))) (zC (.int 48271))) (zMul (zVar 4) (zC (.int 69621)))) (zC (.int 12345))) (zNil))) (zC (.int 2147483647))) 5) (
  zSeq (zSet (zMod (zBlt fInt (zCons (zAdd (zMul (zVar 5) (zVar 5)) (zMul (zVar 4) (zC (.int 40692)))) (zNil))) (zC (.int 2147483587))) 6) (
  zSeq (zSet (zDiv (zBlt fInt (zCons (zAdd (zMul (zVar 5) (zC (.int 2147483587))) (zVar 6)) (zNil))) (zC (.int 32))) 7) (
  zSeq (zIfS (zCmpT fGt (zVar 1) (zC (.int 1000000000000000))) (zSet (zAdd (zPow (zVar 7) (zC (.int 8))) (zVar 6)) 7) (zNext)) (
  zRet (zMod (zBlt fInt (zCons (zVar 7) (zNil))) (zVar 1)))))))))
theorem dv_law_pick {Pg : Program} {w : World} {K : PySem.W.Frag} {mg : Str → Option Value} {base : Heap} {f : Addr} (G : Facts mg) (O : Objs K mg) (cdv : Value) (A : Around) (outer : List Env) (s : Shared) (H : Hp) (E : XK) (Z0 : Zc) (C : Cd 0 (cxOf (L2.CX Pg w) Pg w K mg base N_law_pick "_law_pick" (defScope s_law_pick) f cdv A outer s H E) (Sup Z0)) :
    PSsd (cxOf (L2.CX Pg w) Pg w K mg base N_law_pick "_law_pick" (defScope s_law_pick) f cdv A outer s H E) (Sup Z0) (defBody s_law_pick) t_law_pick :=
  (ssd_cons (sd_setIx (i := 0) (pd_add (pd_ix (pv_var 0) pd_int) pd_int) pd_int)
    (ssd_cons (sd_if (pt_cmp op_gt cz_gt (pd_ix (pv_var 0) pd_int) pd_int) (ssd_cons (sd_set (i := 2) bagS C.nd (pd_mod (pd_bty bz_int call_int1 (by rfl) G.b_int rfl (ad_cons (pd_ix (pv_var 0) pd_int) ad_nil)) (pd_var 1 bagS)))
    (ssd_cons (sd_setIx (i := 0) (pd_div (pd_bty bz_int call_int1 (by rfl) G.b_int rfl (ad_cons (pd_ix (pv_var 0) pd_int) ad_nil)) (pd_var 1 bagS)) pd_int)
    (ssd_one (sd_ret (pd_var 2 bagS))))) ssd_nil)
    (ssd_cons (sd_par (i := 3) (j := 4) C bagS bagS (pd_bty bz_int call_int1 (by rfl) G.b_int rfl (ad_cons (pd_ix (pv_var 0) pd_int) ad_nil)).px (pd_bty bz_int call_int1 (by rfl) G.b_int rfl (ad_cons (pd_ix (pv_var 0) pd_int) ad_nil)).px)
    (ssd_cons (sd_set (i := 5) bagS C.nd (pd_mod (pd_bty bz_int call_int1 (by rfl) G.b_int rfl (ad_cons (pd_add (pd_add (pd_mul (pd_mod (pd_var 3 bagS) pd_int) pd_int) (pd_mul (pd_var 4 bagS) pd_int)) pd_int) ad_nil)) pd_int))
    (ssd_cons (sd_set (i := 6) bagS C.nd (pd_mod (pd_bty bz_int call_int1 (by rfl) G.b_int rfl (ad_cons (pd_add (pd_mul (pd_var 5 bagS) (pd_var 5 bagS)) (pd_mul (pd_var 4 bagS) pd_int)) ad_nil)) pd_int))
    (ssd_cons (sd_set (i := 7) bagS C.nd (pd_div (pd_bty bz_int call_int1 (by rfl) G.b_int rfl (ad_cons (pd_add (pd_mul (pd_var 5 bagS) pd_int) (pd_var 6 bagS)) ad_nil)) pd_int))
    (ssd_cons (sd_if (pt_cmp op_gt cz_gt (pd_var 1 bagS) (pd_powc (v := 1000000000000000))) (ssd_one (sd_set (i := 7) bagS C.nd (pd_add (pd_pow (pd_var 7 bagS) pd_int) (pd_var 6 bagS)))) ssd_nil)
    (ssd_one (sd_ret (pd_mod (pd_bty bz_int call_int1 (by rfl) G.b_int rfl (ad_cons (pd_var 7 bagS) ad_nil)) (pd_var 1 bagS)))))))))))
--% reads
theorem ln_law_pick : ∀ bs ds Qz, sp_law_pick bs ds Qz → ds.length + 1 = 2 := by
  rintro bs ds Q ⟨_, _, _, rfl, _⟩
  rfl
theorem rd_law_pick : ∀ bs ds Qz, sp_law_pick bs ds Qz → t_law_pick { nx := fun S => bagEnd Qz .non S, rt := fun r S => match r with
      | .sh d => bagEnd Qz d S
      | .ow xs => bagEnd Qz (.lst xs) S
      | .un => False } (.ow bs :: startS N_law_pick.tail ds) := by
  rintro bs ds Q ⟨m, many, ⟨b0, b1, c, rfl, h3, h4⟩, rfl, h1, h2, q⟩
  nofun
  refine ⟨fun z => ?_, fun z => ?_⟩
  · nofun
    refine ⟨h1, ?_⟩
    nofun
    refine ⟨divW h1 h2, ?_⟩
    nofun
    exact q _ _ (Int.emod_nonneg _ (by omega)) (Int.emod_lt_of_pos _ h1) ⟨_, _, _, rfl, by omega, by omega⟩
  · nofun
    refine ⟨by decide, ?_⟩
    nofun
    refine ⟨mulW (by omega) (by decide), ?_⟩
    nofun
    refine ⟨mulW (by omega) (by decide), ?_⟩
    nofun
    refine ⟨by decide, ?_⟩
    nofun
    generalize hf : (b1 % 2147483629 * 48271 + (c + 1) * 69621 + 12345) % 2147483647 = first at *
    have hf1 : 0 ≤ first := by omega
    have hf2 : first < 2147483647 := by omega
    refine ⟨mulW (by omega) (by omega), ?_⟩
    nofun
    refine ⟨mulW (by omega) (by decide), ?_⟩
    nofun
    refine ⟨by decide, ?_⟩
    nofun
    generalize hg : (first * first + (c + 1) * 40692) % 2147483587 = second at *
    have hg1 : 0 ≤ second := by omega
    have hg2 : second < 2147483587 := by omega
    refine ⟨mulW (by omega) (by decide), ?_⟩
    nofun
    refine ⟨divW (by decide) (by decide), ?_⟩
    nofun
    generalize hd : (first * 2147483587 + second) / 32 = drawn at *
    have hd1 : 0 ≤ drawn := by omega
    have hd2 : drawn < 2 ^ 60 := by omega
    refine ⟨fun z => ?_, fun z => ?_⟩
    · nofun
      refine ⟨⟨by decide, ?_⟩, ?_⟩
      · have : Builtin.Int.intBits drawn ≤ 1000 := by
          unfold Builtin.Int.intBits
          have := log_small hd1 (by omega)
          split <;> omega
        omega
      nofun
      refine ⟨h1, ?_⟩
      nofun
      exact q _ _ (Int.emod_nonneg _ (by omega)) (Int.emod_lt_of_pos _ h1) ⟨_, _, _, rfl, by omega, by omega⟩
    · nofun
      refine ⟨h1, ?_⟩
      nofun
      exact q _ _ (Int.emod_nonneg _ (by omega)) (Int.emod_lt_of_pos _ h1) ⟨_, _, _, rfl, by omega, by omega⟩
theorem ok_law_pick {Pg : Program} {w : World} {K : PySem.W.Frag} {mg : Str → Option Value} {base : Heap} {f : Addr} {fd : FuncData} (Fu : Fun K "_law_pick" "_law_pick" s_law_pick f fd) (G : Facts mg) (O : Objs K mg) : FnP Pg w K mg base 1 f fd ["bag", "many"] (spB K mg sp_law_pick) :=
  okB (N := N_law_pick) (t := t_law_pick) Fu sc_law_pick ln_law_pick (fun cdv A outer s H E Z0 C => dv_law_pick G O cdv A outer s H E Z0 C) rd_law_pick
/-! #### law_class -/
def cNames : List Str := ["InvalidRule", "InvalidLevels", "InvalidScript", "InvalidRuns", "InvalidSeen", "InvalidText", "OverBudget", "InvalidIndex", "InvalidKind", "InvalidGap", "InvalidPage", "InvalidNumber", "Nothing", "InvalidLevel", "InvalidEntry", "InvalidLength", "InvalidHeight", "InvalidLeaves", "InvalidBudget", "UnlikeRules", "InvalidOperation", "InvalidCommand"]
/-- the text of an error's item -/
def shownF : Option (Str × D) → Str
  | some (_, .int i) => (PyData.int i).shown
  | _ => PyData.none.shown
def classOf (c : Str) (f : Option (Str × D)) : Str := if c = "InvalidRuns" ∨ c = "InvalidSeen" then (c ++ " ") ++ shownF f else c
def itemOk (c : Str) (f : Option (Str × D)) : Prop := c = "InvalidRuns" ∨ c = "InvalidSeen" → ∃ x : D, f = some (("item", x) : Str × D) ∧ (x = .non ∨ ∃ i : Int, x = .int i ∧ i.natAbs < 2 ^ 60)
def sp_law_class : ZSp := fun ds Q _ => ∃ c f, ds = [.exc c f] ∧ c ∈ cNames ∧ itemOk c f ∧ Q (.sh (.str (classOf c f)))
def nameD (c : Str) (x : Str) : D := .tup [.str x, .bl (isB "PageError" c x)]
def oneD : D → Option D
  | .tup [.str n, .bl true] => some (.str n)
  | _ => none
def t_law_class : ZS := zSeq (zSet (zFD (zLst (zCons (zTup (zCons (zC (.str "InvalidRule")) (zCons (zIsiE "PageError" errCs "InvalidRule" (zVarV 0)) (zNil)))) (zCons (zTup (zCons (zC (.str "InvalidLevels")) (zCons (zIsiE "PageError" errCs "InvalidLevels" (zVarV 0)) (zNil)))) (zNil))))) 1) (
  zSeq (zSet (zFD (zCat (zVar 1) (zFD (zLst (zCons (zTup (zCons (zC (.str "InvalidScript")) (zCons (zIsiE "PageError" errCs "InvalidScript" (zVarV 0)) (zNil)))) (zNil)))))) 1) (
  zSeq (zSet (zFD (zCat (zVar 1) (zFD (zLst (zCons (zTup (zCons (zC (.str "InvalidRuns")) (zCons (zIsiE "PageError" errCs "InvalidRuns" (zVarV 0)) (zNil)))) (zCons (zTup (zCons (zC (.str "InvalidSeen")) (zCons (zIsiE "PageError" errCs "InvalidSeen" (zVarV 0)) (zNil)))) (zNil))))))) 1) (
  zSeq (zSet (zFD (zCat (zVar 1) (zFD (zLst (zCons (zTup (zCons (zC (.str "InvalidText")) (zCons (zIsiE "PageError" errCs "InvalidText" (zVarV 0)) (zNil)))) (zCons (zTup (zCons (zC (.str "OverBudget")) (zCons (zIsiE "PageError" errCs "OverBudget" (zVarV 0)) (zNil)))) (zNil))))))) 1) (
  zSeq (zSet (zFD (zCat (zVar 1) (zFD (zLst (zCons (zTup (zCons (zC (.str "InvalidIndex")) (zCons (zIsiE "PageError" errCs "InvalidIndex" (zVarV 0)) (zNil)))) (zCons (zTup (zCons (zC (.str "InvalidKind")) (zCons (zIsiE "PageError" errCs "InvalidKind" (zVarV 0)) (zNil)))) (zNil))))))) 1) (
  zSeq (zSet (zFD (zCat (zVar 1) (zFD (zLst (zCons (zTup (zCons (zC (.str "InvalidGap")) (zCons (zIsiE "PageError" errCs "InvalidGap" (zVarV 0)) (zNil)))) (zCons (zTup (zCons (zC (.str "InvalidPage")) (zCons (zIsiE "PageError" errCs "InvalidPage" (zVarV 0)) (zNil)))) (zNil))))))) 1) (
  zSeq (zSet (zFD (zCat (zVar 1) (zFD (zLst (zCons (zTup (zCons (zC (.str "InvalidNumber")) (zCons (zIsiE "PageError" errCs "InvalidNumber" (zVarV 0)) (zNil)))) (zCons (zTup (zCons (zC (.str "Nothing")) (zCons (zIsiE "PageError" errCs "Nothing" (zVarV 0)) (zNil)))) (zNil))))))) 1) (
  zSeq (zSet (zFD (zCat (zVar 1) (zFD (zLst (zCons (zTup (zCons (zC (.str "InvalidLevel")) (zCons (zIsiE "PageError" errCs "InvalidLevel" (zVarV 0)) (zNil)))) (zNil)))))) 1) (
  zSeq (zSet (zFD (zCat (zVar 1) (zFD (zLst (zCons (zTup (zCons (zC (.str "InvalidEntry")) (zCons (zIsiE "PageError" errCs "InvalidEntry" (zVarV 0)) (zNil)))) (zNil)))))) 1) (
  zSeq (zSet (zFD (zCat (zVar 1) (zFD (zLst (zCons (zTup (zCons (zC (.str "InvalidLength")) (zCons (zIsiE "PageError" errCs "InvalidLength" (zVarV 0)) (zNil)))) (zNil)))))) 1) (
  zSeq (zSet (zFD (zCat (zVar 1) (zFD (zLst (zCons (zTup (zCons (zC (.str "InvalidHeight")) (zCons (zIsiE "PageError" errCs "InvalidHeight" (zVarV 0)) (zNil)))) (zNil)))))) 1) (
  zSeq (zSet (zFD (zCat (zVar 1) (zFD (zLst (zCons (zTup (zCons (zC (.str "InvalidLeaves")) (zCons (zIsiE "PageError" errCs "InvalidLeaves" (zVarV 0)) (zNil)))) (zNil)))))) 1) (
  zSeq (zSet (zFD (zCat (zVar 1) (zFD (zLst (zCons (zTup (zCons (zC (.str "InvalidBudget")) (zCons (zIsiE "PageError" errCs "InvalidBudget" (zVarV 0)) (zNil)))) (zNil)))))) 1) (
  zSeq (zSet (zFD (zCat (zVar 1) (zFD (zLst (zCons (zTup (zCons (zC (.str "UnlikeRules")) (zCons (zIsiE "PageError" errCs "UnlikeRules" (zVarV 0)) (zNil)))) (zNil)))))) 1) (
  zSeq (zSet (zFD (zCat (zVar 1) (zFD (zLst (zCons (zTup (zCons (zC (.str "InvalidOperation")) (zCons (zIsiE "PageError" errCs "InvalidOperation" (zVarV 0)) (zNil)))) (zNil)))))) 1) (
  zSeq (zSet (zFD (zCat (zVar 1) (zFD (zLst (zCons (zTup (zCons (zC (.str "InvalidCommand")) (zCons (zIsiE "PageError" errCs "InvalidCommand" (zVarV 0)) (zNil)))) (zNil)))))) 1) (
  zSeq (zSet (zFD (zLc [3, 4] (zItS (zVar 1)) (gzTup 2 (gzCons (gzName 3) (gzCons (gzName 4) (gzNil)))) (zB (zVar 4)) (zVar 3))) 2) (
  zSeq (zIfS (zOrT (zCmpT fNe (zLen (zVarV 2)) (zC (.int 1))) (zNotT (zB (zIsiE "PageError" errCs "ValueError" (zVarV 0))))) (zRet (zC (.str "odd"))) (zNext)) (
  zSeq (zIfS (zIn false (zIx (zVarV 2) (zC (.int 0))) (zShV (zTup (zCons (zC (.str "InvalidRuns")) (zCons (zC (.str "InvalidSeen")) (zNil)))))) (zRet (zCatS (zCatS (zIx (zVarV 2) (zC (.int 0))) (zC (.str " "))) (zReprZ (zShV (zExF (errF "item") "item" (zVarV 0)))))) (zNext)) (
  zRet (zIx (zVarV 2) (zC (.int 0))))))))))))))))))))))
theorem dv_law_class {Pg : Program} {w : World} {K : PySem.W.Frag} {mg : Str → Option Value} {base : Heap} {f : Addr} (G : Facts mg) (O : Objs K mg) (cdv : Value) (A : Around) (outer : List Env) (s : Shared) (H : Hp) (E : XK) (Z0 : Zc) (nb : NoBag (Sup Z0)) (C : Cd 0 (cxOf (L2.CX Pg w) Pg w K mg base N_law_class "_law_class" (defScope s_law_class) f cdv A outer s H E) (Sup Z0)) :
    PSsd (cxOf (L2.CX Pg w) Pg w K mg base N_law_class "_law_class" (defScope s_law_class) f cdv A outer s H E) (Sup Z0) (defBody s_law_class) t_law_class :=
  (ssd_cons (sd_set (i := 1) (nb.s 1) C.nd (pf_lst (ad_cons (pd_tup (ad_cons pd_str (ad_cons (pd_isiE (by rfl) G.b_isinstance (by rfl) O.errs (pv_var 0) (by decide)) ad_nil))) (ad_cons (pd_tup (ad_cons pd_str (ad_cons (pd_isiE (by rfl) G.b_isinstance (by rfl) O.errs (pv_var 0) (by decide)) ad_nil))) ad_nil))).pd)
    (ssd_cons (sd_set (i := 1) (nb.s 1) C.nd (pf_cat (pd_var 1 (nb.s 1)) (pf_lst (ad_cons (pd_tup (ad_cons pd_str (ad_cons (pd_isiE (by rfl) G.b_isinstance (by rfl) O.errs (pv_var 0) (by decide)) ad_nil))) ad_nil)).pd).pd)
    (ssd_cons (sd_set (i := 1) (nb.s 1) C.nd (pf_cat (pd_var 1 (nb.s 1)) (pf_lst (ad_cons (pd_tup (ad_cons pd_str (ad_cons (pd_isiE (by rfl) G.b_isinstance (by rfl) O.errs (pv_var 0) (by decide)) ad_nil))) (ad_cons (pd_tup (ad_cons pd_str (ad_cons (pd_isiE (by rfl) G.b_isinstance (by rfl) O.errs (pv_var 0) (by decide)) ad_nil))) ad_nil))).pd).pd)
    (ssd_cons (sd_set (i := 1) (nb.s 1) C.nd (pf_cat (pd_var 1 (nb.s 1)) (pf_lst (ad_cons (pd_tup (ad_cons pd_str (ad_cons (pd_isiE (by rfl) G.b_isinstance (by rfl) O.errs (pv_var 0) (by decide)) ad_nil))) (ad_cons (pd_tup (ad_cons pd_str (ad_cons (pd_isiE (by rfl) G.b_isinstance (by rfl) O.errs (pv_var 0) (by decide)) ad_nil))) ad_nil))).pd).pd)
    (ssd_cons (sd_set (i := 1) (nb.s 1) C.nd (pf_cat (pd_var 1 (nb.s 1)) (pf_lst (ad_cons (pd_tup (ad_cons pd_str (ad_cons (pd_isiE (by rfl) G.b_isinstance (by rfl) O.errs (pv_var 0) (by decide)) ad_nil))) (ad_cons (pd_tup (ad_cons pd_str (ad_cons (pd_isiE (by rfl) G.b_isinstance (by rfl) O.errs (pv_var 0) (by decide)) ad_nil))) ad_nil))).pd).pd)
    (ssd_cons (sd_set (i := 1) (nb.s 1) C.nd (pf_cat (pd_var 1 (nb.s 1)) (pf_lst (ad_cons (pd_tup (ad_cons pd_str (ad_cons (pd_isiE (by rfl) G.b_isinstance (by rfl) O.errs (pv_var 0) (by decide)) ad_nil))) (ad_cons (pd_tup (ad_cons pd_str (ad_cons (pd_isiE (by rfl) G.b_isinstance (by rfl) O.errs (pv_var 0) (by decide)) ad_nil))) ad_nil))).pd).pd)
    (ssd_cons (sd_set (i := 1) (nb.s 1) C.nd (pf_cat (pd_var 1 (nb.s 1)) (pf_lst (ad_cons (pd_tup (ad_cons pd_str (ad_cons (pd_isiE (by rfl) G.b_isinstance (by rfl) O.errs (pv_var 0) (by decide)) ad_nil))) (ad_cons (pd_tup (ad_cons pd_str (ad_cons (pd_isiE (by rfl) G.b_isinstance (by rfl) O.errs (pv_var 0) (by decide)) ad_nil))) ad_nil))).pd).pd)
    (ssd_cons (sd_set (i := 1) (nb.s 1) C.nd (pf_cat (pd_var 1 (nb.s 1)) (pf_lst (ad_cons (pd_tup (ad_cons pd_str (ad_cons (pd_isiE (by rfl) G.b_isinstance (by rfl) O.errs (pv_var 0) (by decide)) ad_nil))) ad_nil)).pd).pd)
    (ssd_cons (sd_set (i := 1) (nb.s 1) C.nd (pf_cat (pd_var 1 (nb.s 1)) (pf_lst (ad_cons (pd_tup (ad_cons pd_str (ad_cons (pd_isiE (by rfl) G.b_isinstance (by rfl) O.errs (pv_var 0) (by decide)) ad_nil))) ad_nil)).pd).pd)
    (ssd_cons (sd_set (i := 1) (nb.s 1) C.nd (pf_cat (pd_var 1 (nb.s 1)) (pf_lst (ad_cons (pd_tup (ad_cons pd_str (ad_cons (pd_isiE (by rfl) G.b_isinstance (by rfl) O.errs (pv_var 0) (by decide)) ad_nil))) ad_nil)).pd).pd)
    (ssd_cons (sd_set (i := 1) (nb.s 1) C.nd (pf_cat (pd_var 1 (nb.s 1)) (pf_lst (ad_cons (pd_tup (ad_cons pd_str (ad_cons (pd_isiE (by rfl) G.b_isinstance (by rfl) O.errs (pv_var 0) (by decide)) ad_nil))) ad_nil)).pd).pd)
    (ssd_cons (sd_set (i := 1) (nb.s 1) C.nd (pf_cat (pd_var 1 (nb.s 1)) (pf_lst (ad_cons (pd_tup (ad_cons pd_str (ad_cons (pd_isiE (by rfl) G.b_isinstance (by rfl) O.errs (pv_var 0) (by decide)) ad_nil))) ad_nil)).pd).pd)
    (ssd_cons (sd_set (i := 1) (nb.s 1) C.nd (pf_cat (pd_var 1 (nb.s 1)) (pf_lst (ad_cons (pd_tup (ad_cons pd_str (ad_cons (pd_isiE (by rfl) G.b_isinstance (by rfl) O.errs (pv_var 0) (by decide)) ad_nil))) ad_nil)).pd).pd)
    (ssd_cons (sd_set (i := 1) (nb.s 1) C.nd (pf_cat (pd_var 1 (nb.s 1)) (pf_lst (ad_cons (pd_tup (ad_cons pd_str (ad_cons (pd_isiE (by rfl) G.b_isinstance (by rfl) O.errs (pv_var 0) (by decide)) ad_nil))) ad_nil)).pd).pd)
    (ssd_cons (sd_set (i := 1) (nb.s 1) C.nd (pf_cat (pd_var 1 (nb.s 1)) (pf_lst (ad_cons (pd_tup (ad_cons pd_str (ad_cons (pd_isiE (by rfl) G.b_isinstance (by rfl) O.errs (pv_var 0) (by decide)) ad_nil))) ad_nil)).pd).pd)
    (ssd_cons (sd_set (i := 1) (nb.s 1) C.nd (pf_cat (pd_var 1 (nb.s 1)) (pf_lst (ad_cons (pd_tup (ad_cons pd_str (ad_cons (pd_isiE (by rfl) G.b_isinstance (by rfl) O.errs (pv_var 0) (by decide)) ad_nil))) ad_nil)).pd).pd)
    (ssd_cons (sd_setCD (i := 2) (nb.s 2) (pc_lc (own := [("name", 3), ("is_one", 4)]) C.calm C.nd nb.l (id_seq (pd_var 1 (nb.s 1))) (blkOk_by (N := N_law_class) (sc := defScope s_law_class) (by decide +kernel)) (by decide) (fun _ _ _ _ _ => (gd_tup C.blk.calm (gsd_cons (gd_name (i := 3) (nb.pin.s 3) C.blk.nd) (gsd_cons (gd_name (i := 4) (nb.pin.s 4) C.blk.nd) gsd_nil)))) (fun _ _ _ _ _ => (tsd_one (pt_b (pd_var 4 (nb.pin.s 4))))) (fun _ _ _ _ _ => (pd_var 3 (nb.pin.s 3)))))
    (ssd_cons (sd_if (wd_or (pt_cmp (op_neA C.hu) cz_ne (pd_len (by rfl) G.b_len PySem.boot_len (pv_var 2)) pd_int) (wd_or1 (td_not (pt_b (pd_isiV (by rfl) G.b_isinstance (by rfl) G.b_ValueError O.errs (pv_var 0)))))).pt (ssd_one (sd_ret pd_str)) ssd_nil)
    (ssd_cons (sd_if (pt_in (pd_ix (pv_var 2) pd_int) (pd_tup (ad_cons pd_str (ad_cons pd_str ad_nil))).pv) (ssd_one (sd_ret (pd_catS (pd_catS (pd_ix (pv_var 2) pd_int) pd_str) (pd_reprZ C (by rfl) G.b_repr (pd_exF O.errs (by decide) O.nf_item (pv_var 0)).pv)))) ssd_nil)
    (ssd_one (sd_ret (pd_ix (pv_var 2) pd_int))))))))))))))))))))))
--% reads
theorem ln_law_class : ∀ ds Qz Ez, sp_law_class ds Qz Ez → ds.length = 1 := by
  rintro ds Q E ⟨_, _, rfl, _⟩
  rfl
theorem repr_small {x : D} (hx : x = .non ∨ ∃ i : Int, x = .int i ∧ i.natAbs < 2 ^ 60) : ∃ p, x.pyR = some p ∧ p.showable = true ∧ p.depth ≤ 60 ∧ p.shown.length ≤ 202 ∧ p.shown = shownF (some (("item", x) : Str × D)) := by
  have gd : x.gdR = true ∧ x.depR = 0 ∧ x.bkR = 0 := by
    rcases hx with rfl | ⟨i, rfl, hi⟩
    · exact ⟨rfl, rfl, rfl⟩
    · exact ⟨decide_eq_true (Nat.lt_trans hi (by decide)), rfl, rfl⟩
  obtain ⟨p, g1, g2, g3, g4, g5⟩ := gdR_py x gd.1
  have := PyData.shown_le_bulk 202 (by decide) p g3
  rw [g5, gd.2.2] at this
  refine ⟨p, g1, g2, by omega, by omega, ?_⟩
  rcases hx with rfl | ⟨i, rfl, hi⟩
  all_goals
    cases g1
    rfl
theorem one_name {c : Str} (hc : c ∈ cNames) : (cNames.map (nameD c)).filterMap oneD = [.str c] := by
  have h1 : ∀ x ∈ cNames, x ≠ "PageError" ∧ x ≠ "ValueError" := by decide +kernel
  have e : ∀ x ∈ cNames, isB "PageError" c x = decide (c = x) := fun x hx => by
    unfold isB
    rw [decide_eq_false (h1 x hx).1, decide_eq_false (h1 x hx).2, Bool.or_false, Bool.or_false]
  have g : ∀ xs : List Str, (∀ x ∈ xs, x ∈ cNames) → (xs.map (nameD c)).filterMap oneD = (xs.filter fun x => decide (c = x)).map D.str := fun xs => by
    induction xs with
    | nil => intro _; rfl
    | cons x xs ih =>
      intro hx
      have i := ih fun y hy => hx y (List.mem_cons_of_mem _ hy)
      rw [List.map_cons, nameD, e x (hx x List.mem_cons_self), List.filterMap_cons, List.filter_cons, i]
      cases decide (c = x) <;> rfl
  rw [g _ fun x h => h, (show ∀ c ∈ cNames, (cNames.filter fun x => decide (c = x)) = [c] by decide +kernel) c hc]
  rfl
theorem rd_law_class : ∀ ds Qz (Ez : Str → Option (Str × D) → Prop), sp_law_class ds Qz Ez → t_law_class { nx := fun _ => Qz (.sh .non), rt := fun r _ => Qz r } (startS N_law_class ds) := by
  rintro ds Q E ⟨c, f, rfl, hc, hf, q⟩
  have hcs : c ∈ errCs := (show ∀ c ∈ cNames, c ∈ errCs by decide +kernel) c hc
  refine zSeq_cut (fun S => S = [.sh (.exc c f), .sh (.lst (List.map (nameD c) (["InvalidRule", "InvalidLevels"] : List Str))), .un, .un, .un]) (fun K hK => ?_) ?_
  · nofun
    repeat (first | (refine ⟨hcs, ?_⟩; nofun) | (refine ⟨Nat.le_of_ble_eq_true rfl, ?_⟩; nofun))
    exact hK _ rfl
  rintro S rfl
  refine zSeq_cut (fun S => S = [.sh (.exc c f), .sh (.lst (List.map (nameD c) (["InvalidRule", "InvalidLevels", "InvalidScript"] : List Str))), .un, .un, .un]) (fun K hK => ?_) ?_
  · nofun
    repeat (first | (refine ⟨hcs, ?_⟩; nofun) | (refine ⟨Nat.le_of_ble_eq_true rfl, ?_⟩; nofun))
    exact hK _ rfl
  rintro S rfl
  refine zSeq_cut (fun S => S = [.sh (.exc c f), .sh (.lst (List.map (nameD c) (["InvalidRule", "InvalidLevels", "InvalidScript", "InvalidRuns", "InvalidSeen"] : List Str))), .un, .un, .un]) (fun K hK => ?_) ?_
  · nofun
    repeat (first | (refine ⟨hcs, ?_⟩; nofun) | (refine ⟨Nat.le_of_ble_eq_true rfl, ?_⟩; nofun))
    exact hK _ rfl
  rintro S rfl
  refine zSeq_cut (fun S => S = [.sh (.exc c f), .sh (.lst (List.map (nameD c) (["InvalidRule", "InvalidLevels", "InvalidScript", "InvalidRuns", "InvalidSeen", "InvalidText", "OverBudget"] : List Str))), .un, .un, .un]) (fun K hK => ?_) ?_
  · nofun
    repeat (first | (refine ⟨hcs, ?_⟩; nofun) | (refine ⟨Nat.le_of_ble_eq_true rfl, ?_⟩; nofun))
    exact hK _ rfl
  rintro S rfl
  refine zSeq_cut (fun S => S = [.sh (.exc c f), .sh (.lst (List.map (nameD c) (["InvalidRule", "InvalidLevels", "InvalidScript", "InvalidRuns", "InvalidSeen", "InvalidText", "OverBudget", "InvalidIndex", "InvalidKind"] : List Str))), .un, .un, .un]) (fun K hK => ?_) ?_
  · nofun
    repeat (first | (refine ⟨hcs, ?_⟩; nofun) | (refine ⟨Nat.le_of_ble_eq_true rfl, ?_⟩; nofun))
    exact hK _ rfl
  rintro S rfl
  refine zSeq_cut (fun S => S = [.sh (.exc c f), .sh (.lst (List.map (nameD c) (["InvalidRule", "InvalidLevels", "InvalidScript", "InvalidRuns", "InvalidSeen", "InvalidText", "OverBudget", "InvalidIndex", "InvalidKind", "InvalidGap", "InvalidPage"] : List Str))), .un, .un, .un]) (fun K hK => ?_) ?_
  · nofun
    repeat (first | (refine ⟨hcs, ?_⟩; nofun) | (refine ⟨Nat.le_of_ble_eq_true rfl, ?_⟩; nofun))
    exact hK _ rfl
  rintro S rfl
  refine zSeq_cut (fun S => S = [.sh (.exc c f), .sh (.lst (List.map (nameD c) (["InvalidRule", "InvalidLevels", "InvalidScript", "InvalidRuns", "InvalidSeen", "InvalidText", "OverBudget", "InvalidIndex", "InvalidKind", "InvalidGap", "InvalidPage", "InvalidNumber", "Nothing"] : List Str))), .un, .un, .un]) (fun K hK => ?_) ?_
  · nofun
    repeat (first | (refine ⟨hcs, ?_⟩; nofun) | (refine ⟨Nat.le_of_ble_eq_true rfl, ?_⟩; nofun))
    exact hK _ rfl
  rintro S rfl
  refine zSeq_cut (fun S => S = [.sh (.exc c f), .sh (.lst (List.map (nameD c) (["InvalidRule", "InvalidLevels", "InvalidScript", "InvalidRuns", "InvalidSeen", "InvalidText", "OverBudget", "InvalidIndex", "InvalidKind", "InvalidGap", "InvalidPage", "InvalidNumber", "Nothing", "InvalidLevel"] : List Str))), .un, .un, .un]) (fun K hK => ?_) ?_
  · nofun
    repeat (first | (refine ⟨hcs, ?_⟩; nofun) | (refine ⟨Nat.le_of_ble_eq_true rfl, ?_⟩; nofun))
    exact hK _ rfl
  rintro S rfl
  refine zSeq_cut (fun S => S = [.sh (.exc c f), .sh (.lst (List.map (nameD c) (["InvalidRule", "InvalidLevels", "InvalidScript", "InvalidRuns", "InvalidSeen", "InvalidText", "OverBudget", "InvalidIndex", "InvalidKind", "InvalidGap", "InvalidPage", "InvalidNumber", "Nothing", "InvalidLevel", "InvalidEntry"] : List Str))), .un, .un, .un]) (fun K hK => ?_) ?_
  · nofun
    repeat (first | (refine ⟨hcs, ?_⟩; nofun) | (refine ⟨Nat.le_of_ble_eq_true rfl, ?_⟩; nofun))
    exact hK _ rfl
  rintro S rfl
  refine zSeq_cut (fun S => S = [.sh (.exc c f), .sh (.lst (List.map (nameD c) (["InvalidRule", "InvalidLevels", "InvalidScript", "InvalidRuns", "InvalidSeen", "InvalidText", "OverBudget", "InvalidIndex", "InvalidKind", "InvalidGap", "InvalidPage", "InvalidNumber", "Nothing", "InvalidLevel", "InvalidEntry", "InvalidLength"] : List Str))), .un, .un, .un]) (fun K hK => ?_) ?_
  · nofun
    repeat (first | (refine ⟨hcs, ?_⟩; nofun) | (refine ⟨Nat.le_of_ble_eq_true rfl, ?_⟩; nofun))
    exact hK _ rfl
  rintro S rfl
  refine zSeq_cut (fun S => S = [.sh (.exc c f), .sh (.lst (List.map (nameD c) (["InvalidRule", "InvalidLevels", "InvalidScript", "InvalidRuns", "InvalidSeen", "InvalidText", "OverBudget", "InvalidIndex", "InvalidKind", "InvalidGap", "InvalidPage", "InvalidNumber", "Nothing", "InvalidLevel", "InvalidEntry", "InvalidLength", "InvalidHeight"] : List Str))), .un, .un, .un]) (fun K hK => ?_) ?_
  · nofun
    repeat (first | (refine ⟨hcs, ?_⟩; nofun) | (refine ⟨Nat.le_of_ble_eq_true rfl, ?_⟩; nofun))
    exact hK _ rfl
  rintro S rfl
  refine zSeq_cut (fun S => S = [.sh (.exc c f), .sh (.lst (List.map (nameD c) (["InvalidRule", "InvalidLevels", "InvalidScript", "InvalidRuns", "InvalidSeen", "InvalidText", "OverBudget", "InvalidIndex", "InvalidKind", "InvalidGap", "InvalidPage", "InvalidNumber", "Nothing", "InvalidLevel", "InvalidEntry", "InvalidLength", "InvalidHeight", "InvalidLeaves"] : List Str))), .un, .un, .un]) (fun K hK => ?_) ?_
  · nofun
    repeat (first | (refine ⟨hcs, ?_⟩; nofun) | (refine ⟨Nat.le_of_ble_eq_true rfl, ?_⟩; nofun))
    exact hK _ rfl
  rintro S rfl
  refine zSeq_cut (fun S => S = [.sh (.exc c f), .sh (.lst (List.map (nameD c) (["InvalidRule", "InvalidLevels", "InvalidScript", "InvalidRuns", "InvalidSeen", "InvalidText", "OverBudget", "InvalidIndex", "InvalidKind", "InvalidGap", "InvalidPage", "InvalidNumber", "Nothing", "InvalidLevel", "InvalidEntry", "InvalidLength", "InvalidHeight", "InvalidLeaves", "InvalidBudget"] : List Str))), .un, .un, .un]) (fun K hK => ?_) ?_
  · nofun
    repeat (first | (refine ⟨hcs, ?_⟩; nofun) | (refine ⟨Nat.le_of_ble_eq_true rfl, ?_⟩; nofun))
    exact hK _ rfl
  rintro S rfl
  refine zSeq_cut (fun S => S = [.sh (.exc c f), .sh (.lst (List.map (nameD c) (["InvalidRule", "InvalidLevels", "InvalidScript", "InvalidRuns", "InvalidSeen", "InvalidText", "OverBudget", "InvalidIndex", "InvalidKind", "InvalidGap", "InvalidPage", "InvalidNumber", "Nothing", "InvalidLevel", "InvalidEntry", "InvalidLength", "InvalidHeight", "InvalidLeaves", "InvalidBudget", "UnlikeRules"] : List Str))), .un, .un, .un]) (fun K hK => ?_) ?_
  · nofun
    repeat (first | (refine ⟨hcs, ?_⟩; nofun) | (refine ⟨Nat.le_of_ble_eq_true rfl, ?_⟩; nofun))
    exact hK _ rfl
  rintro S rfl
  refine zSeq_cut (fun S => S = [.sh (.exc c f), .sh (.lst (List.map (nameD c) (["InvalidRule", "InvalidLevels", "InvalidScript", "InvalidRuns", "InvalidSeen", "InvalidText", "OverBudget", "InvalidIndex", "InvalidKind", "InvalidGap", "InvalidPage", "InvalidNumber", "Nothing", "InvalidLevel", "InvalidEntry", "InvalidLength", "InvalidHeight", "InvalidLeaves", "InvalidBudget", "UnlikeRules", "InvalidOperation"] : List Str))), .un, .un, .un]) (fun K hK => ?_) ?_
  · nofun
    repeat (first | (refine ⟨hcs, ?_⟩; nofun) | (refine ⟨Nat.le_of_ble_eq_true rfl, ?_⟩; nofun))
    exact hK _ rfl
  rintro S rfl
  refine zSeq_cut (fun S => S = [.sh (.exc c f), .sh (.lst (List.map (nameD c) (cNames : List Str))), .un, .un, .un]) (fun K hK => ?_) ?_
  · nofun
    repeat (first | (refine ⟨hcs, ?_⟩; nofun) | (refine ⟨Nat.le_of_ble_eq_true rfl, ?_⟩; nofun))
    exact hK _ rfl
  rintro S rfl
  have h1 := one_name hc
  have h2 : (cNames.map (nameD c)).length = 22 := by rw [List.length_map]; rfl
  have h3 : ∀ d ∈ cNames.map (nameD c), ∃ x b, d = .tup [.str x, .bl b] := fun d hd => by
    obtain ⟨x, _, rfl⟩ := List.mem_map.mp hd
    exact ⟨_, _, rfl⟩
  generalize cNames.map (nameD c) = M at *
  nofun
  refine ⟨⟨trivial, trivial, trivial⟩, ?_⟩
  refine lcz_map oneD (fun S => S = [.sh (.exc c f), .sh (.lst M), .un, .un, .un]) rfl (by rw [h2]; exact Nat.le_of_ble_eq_true rfl) ?_ ?_
  · rintro d hd S rfl A B hA hB
    obtain ⟨x, b, rfl⟩ := h3 d hd
    nofun
    refine ⟨rfl, ?_⟩
    nofun
    cases b with
    | true =>
      nofun
      exact hA _ _ rfl rfl
    | false =>
      nofun
      exact hB _ rfl rfl
  rintro S rfl
  rw [h1]
  have h4 := (show ∀ c ∈ cNames, isB "PageError" c "ValueError" = true by decide +kernel) c hc
  clear h1 h2 h3
  nofun
  refine ⟨hcs, ?_⟩
  rw [h4]
  nofun
  refine ⟨sz2, ?_⟩
  nofun
  refine ⟨rfl, rfl, ?_⟩
  by_cases h5 : c = "InvalidRuns" ∨ c = "InvalidSeen"
  · rw [show inV (V.str c) [V.str "InvalidRuns", V.str "InvalidSeen"] = true by rcases h5 with rfl | rfl <;> decide +kernel]
    rw [classOf, if_pos h5] at q
    have h6 : c.length ≤ 20 := by rcases h5 with rfl | rfl <;> decide +kernel
    obtain ⟨x, rfl, hx⟩ := hf h5
    obtain ⟨p, g1, g2, g3, g4, g5⟩ := repr_small hx
    have h7 : (c ++ " ").length ≤ 30 := by rcases h5 with rfl | rfl <;> decide +kernel
    nofun
    refine ⟨by rw [show (" " : Str).length = 1 by decide +kernel, sizeLine_eq]; omega, ?_⟩
    generalize c ++ " " = cs at *
    nofun
    refine ⟨by rcases h5 with rfl | rfl <;> decide +kernel, rfl, x, rfl, p, g1, g2, g3, by rw [sizeLine_eq]; omega, ?_⟩
    nofun
    refine ⟨by rw [sizeLine_eq]; omega, ?_⟩
    rw [g5]
    exact q
  · rw [show inV (V.str c) [V.str "InvalidRuns", V.str "InvalidSeen"] = false by
      have h : ∀ a b : Str, (a == b) = decide (b = a) := fun a b => by
        by_cases e : b = a
        · subst e; simp
        · rw [decide_eq_false e]
          simpa using fun z => e z.symm
      simp only [inV, List.any_cons, List.any_nil, eqV, Bool.or_false]
      rw [h, h, decide_eq_false fun z => h5 (.inl z), decide_eq_false fun z => h5 (.inr z)]
      rfl]
    rw [classOf, if_neg h5] at q
    nofun
    exact q
theorem ok_law_class {Pg : Program} {w : World} {K : PySem.W.Frag} {mg : Str → Option Value} {base : Heap} {f : Addr} {fd : FuncData} (Fu : Fun K "_law_class" "_law_class" s_law_class f fd) (G : Facts mg) (O : Objs K mg) : FnP Pg w K mg base 1 f fd ["caught"] (spZ K mg sp_law_class) :=
  okZ (N := N_law_class) (t := fun _ => t_law_class) Fu sc_law_class ln_law_class (fun cdv A outer s H E Z0 nb C => dv_law_class G O cdv A outer s H E Z0 nb C) rd_law_class
/-! #### law_bad_integers -/
def Small (d : D) : Prop := d.gdR = true ∧ d.depR ≤ 5 ∧ d.bkR ≤ 10000
def sp_law_bad_integers : ZSp := fun ds Q _ => ∃ lo hi, ds = [.int lo, .int hi] ∧ lo.natAbs < 2 ^ 100 ∧ hi.natAbs < 2 ^ 100 ∧ 0 ≤ lo ∧ lo ≤ hi ∧ ∀ xs : List D, (∀ d ∈ xs, isK d ∧ Small d ∧ wholeD lo hi d = false) → Q (.ow xs)
def t_law_bad_integers : ZS := zSeq (zSet (zFD (zLst (zCons (zC .non) (zCons (zC (.bl true)) (zCons (zC (.bl false)) (zCons (zC (.str "")) (zCons (zC (.str "1")) (zCons (zFD (zLst (zNil))) (zCons (zFD (zLst (zCons (zVar 0) (zNil)))) (zCons (zTup (zCons (zVar 0) (zNil))) (zCons (zDic) (zCons (zSub (zVar 0) (zC (.int 1))) (zCons (zAdd (zVar 1) (zC (.int 1))) (zCons (zSub (zVar 0) (zC (.int 1000000000000000000000000000000))) (zCons (zAdd (zVar 1) (zC (.int 10000000000000000000000000000000000000000))) (zNil)))))))))))))))) 2) (
  zRetF (zCat (zVar 2) (zFD (zLst (zCons (zSub (zC (.int 0)) (zMul (zC (.int 10000000000000000000000000000000000000000000000000000000000000000)) (zC (.int 1000000000000000000000000000000)))) (zNil))))))
theorem dv_law_bad_integers {Pg : Program} {w : World} {K : PySem.W.Frag} {mg : Str → Option Value} {base : Heap} {f : Addr} (G : Facts mg) (O : Objs K mg) (cdv : Value) (A : Around) (outer : List Env) (s : Shared) (H : Hp) (E : XK) (Z0 : Zc) (nb : NoBag (Sup Z0)) (C : Cd 0 (cxOf (L2.CX Pg w) Pg w K mg base N_law_bad_integers "_law_bad_integers" (defScope s_law_bad_integers) f cdv A outer s H E) (Sup Z0)) :
    PSsd (cxOf (L2.CX Pg w) Pg w K mg base N_law_bad_integers "_law_bad_integers" (defScope s_law_bad_integers) f cdv A outer s H E) (Sup Z0) (defBody s_law_bad_integers) t_law_bad_integers :=
  (ssd_cons (sd_set (i := 2) (nb.s 2) C.nd (pf_lst (ad_cons pd_non (ad_cons pd_bl (ad_cons pd_bl (ad_cons pd_str (ad_cons pd_str (ad_cons (pf_lst ad_nil).pd (ad_cons (pf_lst (ad_cons (pd_var 0 (nb.s 0)) ad_nil)).pd (ad_cons (pd_tup (ad_cons (pd_var 0 (nb.s 0)) ad_nil)) (ad_cons pd_dic (ad_cons (pd_sub (pd_var 0 (nb.s 0)) pd_int) (ad_cons (pd_add (pd_var 1 (nb.s 1)) pd_int) (ad_cons (pd_sub (pd_var 0 (nb.s 0)) (pd_powc (v := 1000000000000000000000000000000))) (ad_cons (pd_add (pd_var 1 (nb.s 1)) (pd_powc (v := 10000000000000000000000000000000000000000))) ad_nil)))))))))))))).pd)
    (ssd_one (sd_retF (pf_cat (pd_var 2 (nb.s 2)) (pf_lst (ad_cons (pd_sub pd_int (pd_mul (pd_powc (v := 10000000000000000000000000000000000000000000000000000000000000000)) (pd_powc (v := 1000000000000000000000000000000)))) ad_nil)).pd))))
--% reads
theorem ln_law_bad_integers : ∀ ds Qz Ez, sp_law_bad_integers ds Qz Ez → ds.length = 2 := by
  rintro ds Q E ⟨_, _, rfl, _⟩
  rfl
theorem small_int {i : Int} (h : i.natAbs < 10 ^ 200) : Small (.int i) := ⟨decide_eq_true h, Nat.zero_le _, Nat.zero_le _⟩
theorem rd_law_bad_integers : ∀ ds Qz (Ez : Str → Option (Str × D) → Prop), sp_law_bad_integers ds Qz Ez → t_law_bad_integers { nx := fun _ => Qz (.sh .non), rt := fun r _ => Qz r } (startS N_law_bad_integers ds) := by
  rintro ds Q E ⟨lo, hi, rfl, h1, h2, h3, h4, q⟩
  have sl := small_int (i := lo) (by omega)
  nofun
  refine ⟨Nat.le_of_ble_eq_true rfl, ?_⟩
  nofun
  refine ⟨Nat.le_of_ble_eq_true rfl, ?_⟩
  nofun
  refine ⟨Nat.le_of_ble_eq_true rfl, ?_⟩
  nofun
  refine ⟨Nat.le_of_ble_eq_true rfl, ?_⟩
  nofun
  refine ⟨by unfold CMulW; decide +kernel, ?_⟩
  nofun
  refine ⟨Nat.le_of_ble_eq_true rfl, Nat.le_of_ble_eq_true rfl, ?_⟩
  have ol : ∀ i : Int, (i < lo ∨ hi < i) → wholeD lo hi (.int i) = false := fun i z => by
    simp only [wholeD, Bool.and_eq_false_iff, decide_eq_false_iff_not]
    omega
  refine q _ fun d hd => ?_
  simp at hd
  rcases hd with rfl | rfl | rfl | rfl | rfl | rfl | rfl | rfl | rfl | rfl | rfl | rfl | rfl | rfl
  · exact ⟨⟨_, rfl⟩, ⟨rfl, by decide, by decide⟩, rfl⟩
  · exact ⟨⟨_, rfl⟩, ⟨rfl, by decide, by decide⟩, rfl⟩
  · exact ⟨⟨_, rfl⟩, ⟨rfl, by decide, by decide⟩, rfl⟩
  · exact ⟨⟨_, rfl⟩, ⟨by decide +kernel, by decide, by decide +kernel⟩, rfl⟩
  · exact ⟨⟨_, rfl⟩, ⟨by decide +kernel, by decide, by decide +kernel⟩, rfl⟩
  · exact ⟨⟨_, rfl⟩, ⟨rfl, by decide, by decide⟩, rfl⟩
  · exact ⟨⟨_, rfl⟩, ⟨by simp [D.gdR, D.gdsR]; exact of_decide_eq_true sl.1, Nat.le_of_ble_eq_true rfl, Nat.le_of_ble_eq_true rfl⟩, rfl⟩
  · exact ⟨⟨_, rfl⟩, ⟨by simp [D.gdR, D.gdsR]; exact of_decide_eq_true sl.1, Nat.le_of_ble_eq_true rfl, Nat.le_of_ble_eq_true rfl⟩, rfl⟩
  · exact ⟨⟨_, rfl⟩, ⟨rfl, by decide, by decide⟩, rfl⟩
  all_goals exact ⟨⟨_, rfl⟩, small_int (by omega), ol _ (by omega)⟩
theorem ok_law_bad_integers {Pg : Program} {w : World} {K : PySem.W.Frag} {mg : Str → Option Value} {base : Heap} {f : Addr} {fd : FuncData} (Fu : Fun K "_law_bad_integers" "_law_bad_integers" s_law_bad_integers f fd) (G : Facts mg) (O : Objs K mg) : FnP Pg w K mg base 1 f fd ["low", "high"] (spZ K mg sp_law_bad_integers) :=
  okZ (N := N_law_bad_integers) (t := fun _ => t_law_bad_integers) Fu sc_law_bad_integers ln_law_bad_integers (fun cdv A outer s H E Z0 nb C => dv_law_bad_integers G O cdv A outer s H E Z0 nb C) rd_law_bad_integers
/-! #### law_told -/
def toldS : Option (Str × Option D) → Str
  | none => "fine"
  | some (c, x) => classOf c (x.map fun d => ("item", d))
def sp_law_told : ZSp := fun ds Q _ => ∃ k s m, ds = [k, s, m] ∧ isK k ∧ SeenK s ∧ isK m ∧ Small k ∧ Small s ∧ Small m ∧ Q (.sh (.str (toldS (errOf k s m))))
def t_law_told : ZS := zSeq (zPar 3 4 (zXD (zC .non)) (zXD (zReprZ (zShV (zFD (zLst (zCons (zVar 0) (zCons (zVar 1) (zCons (zVar 2) (zNil)))))))))) (
  zSeq (zTryK errCs 5 3 (zCallX sp_fitting_rules (zCons (zVar 0) (zCons (zVar 1) (zCons (zVar 2) (zNil)))))) (
  zSeq (zIfS (zCmpT fNe (zReprZ (zShV (zFD (zLst (zCons (zVar 0) (zCons (zVar 1) (zCons (zVar 2) (zNil)))))))) (zVar 4)) (zRet (zC (.str "changed"))) (zNext)) (
  zRet (zIf (zIsNT (zVarV 3)) (zC (.str "fine")) (zCall sp_law_class eF (zCons (zVar 3) (zNil)))))))
theorem dv_law_told {Pg : Program} {w : World} {K : PySem.W.Frag} {mg : Str → Option Value} {base : Heap} {f : Addr} (G : Facts mg) (O : Objs K mg) (D_fitting_rules : Df Pg w K mg base 4 "fitting_rules" (spZ K mg sp_fitting_rules)) (D__law_class : Df Pg w K mg base 1 "_law_class" (spZ K mg sp_law_class)) (cdv : Value) (A : Around) (outer : List Env) (s : Shared) (H : Hp) (E : XK) (Z0 : Zc) (nb : NoBag (Sup Z0)) (C : Cd 4 (cxOf (L2.CX Pg w) Pg w K mg base N_law_told "_law_told" (defScope s_law_told) f cdv A outer s H E) (Sup Z0)) :
    PSsd (cxOf (L2.CX Pg w) Pg w K mg base N_law_told "_law_told" (defScope s_law_told) f cdv A outer s H E) (Sup Z0) (defBody s_law_told) t_law_told :=
  (ssd_cons (sd_par (i := 3) (j := 4) C (nb.s 3) (nb.s 4) pd_non.px (pd_reprZ C (by rfl) G.b_repr (pf_lst (ad_cons (pd_var 0 (nb.s 0)) (ad_cons (pd_var 1 (nb.s 1)) (ad_cons (pd_var 2 (nb.s 2)) ad_nil)))).pd.pv).px)
    (ssd_cons (sd_tryK (i := 5) (mi := 3) O.errs C (nb.s 5) (nb.s 3) (xsd_one (xd_call D_fitting_rules C (by rfl) (fun pn xe C => have nb := NoBag.noE nb; (ad_cons (pd_var 0 (nb.s 0)) (ad_cons (pd_var 1 (nb.s 1)) (ad_cons (pd_var 2 (nb.s 2)) ad_nil)))))) (by rfl))
    (ssd_cons (sd_if (pt_cmp (op_neA C.hu) cz_ne (pd_reprZ C (by rfl) G.b_repr (pf_lst (ad_cons (pd_var 0 (nb.s 0)) (ad_cons (pd_var 1 (nb.s 1)) (ad_cons (pd_var 2 (nb.s 2)) ad_nil)))).pd.pv) (pd_var 4 (nb.s 4))) (ssd_one (sd_ret pd_str)) ssd_nil)
    (ssd_one (sd_ret (pd_if (pt_isN (pv_var 3)) pd_str (dd_call D__law_class C (by rfl) eF ez0 (ad_cons (pd_var 3 (nb.s 3)) ad_nil))))))))
--% reads
theorem ln_law_told : ∀ ds Qz Ez, sp_law_told ds Qz Ez → ds.length = 3 := by
  rintro ds Q E ⟨_, _, _, rfl, _⟩
  rfl
theorem err_ok {k s m : D} {c : Str} {x : Option D} (h : errOf k s m = some (c, x)) (hl : ∀ xs, s = .lst xs → xs.length < 2 ^ 50) : c ∈ cNames ∧ itemOk c (x.map fun d => (("item", d) : Str × D)) := by
  have fb : ∀ (xs : List D) (i : Nat) x, firstBad i xs = some x → ∃ j : Nat, x = .int j ∧ j < i + xs.length := fun xs => by
    induction xs with
    | nil => intro i x h; cases h
    | cons y ys ih =>
      intro i x h
      unfold firstBad at h
      split at h
      · cases h
        exact ⟨i, rfl, by simp⟩
      · obtain ⟨j, e, hj⟩ := ih _ _ h
        exact ⟨j, e, by simp; omega⟩
  have sb : ∀ x, seenBad s = some x → x = .non ∨ ∃ i : Int, x = .int i ∧ i.natAbs < 2 ^ 60 := fun x hx => by
    unfold seenBad at hx
    split at hx
    · rename_i xs
      split at hx
      · obtain ⟨j, rfl, hj⟩ := fb _ _ _ hx
        have := hl _ rfl
        exact .inr ⟨j, rfl, by omega⟩
      · cases hx; exact .inl rfl
    · cases hx; exact .inl rfl
  unfold errOf at h
  split at h
  · cases h
    exact ⟨by decide +kernel, fun z => absurd z (by decide +kernel)⟩
  · split at h
    · rename_i hs
      cases h
      exact ⟨by decide +kernel, fun _ => ⟨_, rfl, sb _ hs⟩⟩
    · split at h
      · cases h
        exact ⟨by decide +kernel, fun z => absurd z (by decide +kernel)⟩
      · cases h
theorem small3 {k s m : D} (hk : Small k) (hs : Small s) (hm : Small m) : ∃ p, (D.lst [k, s, m]).pyR = some p ∧ p.showable = true ∧ p.depth ≤ 60 ∧ p.shown.length ≤ sizeLine := by
  refine repr_gdR ?_ ?_ ?_
  · simp [D.gdR, D.gdsR, hk.1, hs.1, hm.1]
  · have := hk.2.1; have := hs.2.1; have := hm.2.1
    simp [D.depR, D.depsR]; omega
  · have := hk.2.2; have := hs.2.2; have := hm.2.2
    simp [D.bkR, D.bksR]; omega
theorem bks_len (xs : List D) : xs.length ≤ D.bksR xs := by
  induction xs with
  | nil => simp
  | cons x xs ih => simp [D.bksR]; omega
theorem rd_law_told : ∀ ds Qz (Ez : Str → Option (Str × D) → Prop), sp_law_told ds Qz Ez → t_law_told { nx := fun _ => Qz (.sh .non), rt := fun r _ => Qz r } (startS N_law_told ds) := by
  rintro ds Q E ⟨k, s, m, rfl, hk, hs, hm, gk, gs, gm, q⟩
  obtain ⟨p, p1, p2, p3, p4⟩ := small3 gk gs gm
  have hl : ∀ xs, s = .lst xs → xs.length < 2 ^ 50 := fun xs e => by
    subst e
    have := gs.2.2
    have := bks_len xs
    simp [D.bkR] at *
    omega
  nofun
  refine ⟨sz3, ?_⟩
  nofun
  refine ⟨p, p1, p2, p3, p4, ?_⟩
  nofun
  refine ⟨k, s, m, rfl, hk, hs, hm, fun h xs => ?_, fun e h => ?_⟩
  · rw [h] at q
    nofun
    refine ⟨sz3, ?_⟩
    nofun
    refine ⟨p, p1, p2, p3, p4, ?_⟩
    nofun
    rw [show decide (p.shown = p.shown) = true from decide_eq_true rfl]
    nofun
    exact q
  · obtain ⟨c, x⟩ := e
    obtain ⟨e1, e2⟩ := err_ok h hl
    have hcs : c ∈ errCs := (show ∀ c ∈ cNames, c ∈ errCs by decide +kernel) c e1
    rw [h] at q
    cases x
    · nofun
      refine ⟨hcs, ?_⟩
      nofun
      refine ⟨sz3, ?_⟩
      nofun
      refine ⟨p, p1, p2, p3, p4, ?_⟩
      nofun
      rw [show decide (p.shown = p.shown) = true from decide_eq_true rfl]
      nofun
      exact ⟨c, none, rfl, e1, e2, q⟩
    · nofun
      refine ⟨hcs, ?_⟩
      nofun
      refine ⟨sz3, ?_⟩
      nofun
      refine ⟨p, p1, p2, p3, p4, ?_⟩
      nofun
      rw [show decide (p.shown = p.shown) = true from decide_eq_true rfl]
      nofun
      exact ⟨c, _, rfl, e1, e2, q⟩
theorem ok_law_told {Pg : Program} {w : World} {K : PySem.W.Frag} {mg : Str → Option Value} {base : Heap} {f : Addr} {fd : FuncData} (Fu : Fun K "_law_told" "_law_told" s_law_told f fd) (G : Facts mg) (O : Objs K mg) (D_fitting_rules : Df Pg w K mg base 4 "fitting_rules" (spZ K mg sp_fitting_rules)) (D__law_class : Df Pg w K mg base 1 "_law_class" (spZ K mg sp_law_class)) : FnP Pg w K mg base 5 f fd ["kind", "seen", "most"] (spZ K mg sp_law_told) :=
  okZ (N := N_law_told) (t := fun _ => t_law_told) Fu sc_law_told ln_law_told (fun cdv A outer s H E Z0 nb C => dv_law_told G O D_fitting_rules D__law_class cdv A outer s H E Z0 nb C) rd_law_told
/-! #### law_right -/
def sp_law_right : ZSb := fun bs ds Q => ∃ n, BagOk (n + 60) bs ∧ ds = [] ∧ ∀ bs', BagOk n bs' → Q (.bl true) bs'
def t_law_right : ZS := zSeq (zSetF (zLst (zNil)) 1) (
  zSeq (zFor (zItR1 (zAdd (zC (.int 1)) (zCallB 0 sp_law_pick (zCons (zC (.int 9)) (zNil))))) (gzName 2) (zSeq (zSet (zIx (zShV (zFD (zLst (zCons (zC (.int 30)) (zCons (zC (.int 1000000000000000000000000000000)) (zNil)))))) (zCallB 0 sp_law_pick (zCons (zC (.int 2)) (zNil)))) 3) (
  zDrop (zLM 1 fApp (zCons (zTup (zCons (zAdd (zC (.int 1)) (zCallB 0 sp_law_pick (zCons (zVar 3) (zNil)))) (zCons (zAdd (zC (.int 1)) (zCallB 0 sp_law_pick (zCons (zVar 3) (zNil)))) (zNil)))) (zNil)))))) (
  zSeq (zFor (zItS (zFD (zLst (zCons (zC .non) (zCons (zC (.int 0)) (zCons (zC (.bl true)) (zCons (zC (.str "")) (zCons (zC (.str "Up")) (zCons (zC (.str "up ")) (zCons (zC (.str "drop")) (zCons (zC (.str "u")) (zCons (zFD (zLst (zNil))) (zCons (zFD (zLst (zCons (zC (.str "up")) (zNil)))) (zCons (zTup (zCons (zC (.str "up")) (zNil))) (zCons (zDic) (zCons (zC (.int 10000000000000000000000000000000000000000)) (zNil))))))))))))))))) (gzName 4) (zIfS (zCmpT fNe (zFD (zLst (zCons (zCall sp_law_told eF (zCons (zVar 4) (zCons (zVar 1) (zCons (zC (.int 9)) (zNil))))) (zCons (zCall sp_law_told eF (zCons (zVar 4) (zCons (zC .non) (zCons (zC .non) (zNil))))) (zCons (zCall sp_law_told eF (zCons (zVar 4) (zCons (zFD (zLst (zCons (zC .non) (zNil)))) (zCons (zC (.int 9)) (zNil))))) (zNil)))))) (zFD (zRep (zFD (zLst (zCons (zC (.str "InvalidKind")) (zNil)))) (zC (.int 3))))) (zRet (zC (.bl false))) (zNext))) (
  zSeq (zFor (zItS (zFD (zLst (zCons (zC .non) (zCons (zC (.int 0)) (zCons (zC (.bl true)) (zCons (zC (.str "")) (zCons (zTup (zNil)) (zCons (zDic) (zCons (zFD (zLst (zNil))) (zCons (zBlt fTupleOf (zCons (zVar 1) (zNil))) (zCons (zIx (zVarV 1) (zC (.int 0))) (zCons (zFD (zSlice (zShV (zFD (zRep (zVar 1) (zC (.int 21))))) zNoPart (zPart (zC (.int 21))))) (zCons (zFD (zRep (zFD (zLst (zCons (zC .non) (zNil)))) (zC (.int 21)))) (zCons (zC (.int 10000000000000000000000000000000000000000)) (zNil)))))))))))))))) (gzName 4) (zIfS (zCmpT fNe (zFD (zLc [3] (zItS (zTup (zCons (zC (.int 9)) (zCons (zC .non) (zNil))))) (gzName 3) (zYes) (zCall sp_law_told eF (zCons (zC (.str "up")) (zCons (zVar 4) (zCons (zVar 3) (zNil))))))) (zFD (zRep (zFD (zLst (zCons (zC (.str "InvalidSeen None")) (zNil)))) (zC (.int 2))))) (zRet (zC (.bl false))) (zNext))) (
  zSeq (zSet (zFD (zLst (zCons (zC .non) (zCons (zC (.int 0)) (zCons (zC (.str "")) (zCons (zTup (zNil)) (zCons (zTup (zCons (zC (.int 1)) (zNil))) (zCons (zTup (zCons (zC (.int 1)) (zCons (zC (.int 1)) (zCons (zC (.int 1)) (zNil))))) (zCons (zFD (zLst (zCons (zC (.int 1)) (zCons (zC (.int 1)) (zNil))))) (zCons (zDic) (zCons (zTup (zCons (zC (.int 0)) (zCons (zC (.int 1)) (zNil)))) (zCons (zTup (zCons (zC (.int 1)) (zCons (zC (.int 0)) (zNil)))) (zCons (zTup (zCons (zC (.int (-1))) (zCons (zC (.int 1)) (zNil)))) (zCons (zTup (zCons (zC (.int 1)) (zCons (zC (.int (-1))) (zNil)))) (zCons (zTup (zCons (zC (.bl true)) (zCons (zC (.int 1)) (zNil)))) (zCons (zTup (zCons (zC (.int 1)) (zCons (zC (.bl true)) (zNil)))) (zNil))))))))))))))))) 5) (
  zSeq (zSet (zFD (zCat (zVar 5) (zFD (zLst (zCons (zTup (zCons (zC .non) (zCons (zC (.int 1)) (zNil)))) (zCons (zTup (zCons (zC (.int 1)) (zCons (zC .non) (zNil)))) (zCons (zTup (zCons (zC (.str "1")) (zCons (zC (.int 1)) (zNil)))) (zCons (zTup (zCons (zC (.int 1)) (zCons (zC (.str "1")) (zNil)))) (zCons (zTup (zCons (zFD (zLst (zCons (zC (.int 1)) (zNil)))) (zCons (zC (.int 1)) (zNil)))) (zCons (zTup (zCons (zAdd (zC (.int 1000000000000000000000000000000)) (zC (.int 1))) (zCons (zC (.int 1)) (zNil)))) (zCons (zTup (zCons (zC (.int 1)) (zCons (zAdd (zC (.int 1000000000000000000000000000000)) (zC (.int 1))) (zNil)))) (zCons (zTup (zCons (zTup (zCons (zC (.int 1)) (zCons (zC (.int 1)) (zNil)))) (zNil))) (zNil))))))))))))) 5) (
  zSeq (zFor (zItS (zVar 5)) (gzName 4) (zSeq (zSet (zCallB 0 sp_law_pick (zCons (zLen (zVarV 1)) (zNil))) 6) (
  zFor (zItS (zTup (zCons (zFD (zCat (zFD (zCat (zFD (zSlice (zVarV 1) zNoPart (zPart (zVar 6)))) (zFD (zLst (zCons (zVar 4) (zNil)))))) (zFD (zSlice (zVarV 1) (zPart (zAdd (zVar 6) (zC (.int 1)))) zNoPart)))) (zCons (zFD (zCat (zFD (zSlice (zVarV 1) zNoPart (zPart (zVar 6)))) (zFD (zLst (zCons (zVar 4) (zCons (zC .non) (zNil))))))) (zNil))))) (gzName 7) (zIfS (zCmpT fNe (zFD (zLc [3] (zItS (zTup (zCons (zC (.int 9)) (zCons (zC .non) (zNil))))) (gzName 3) (zYes) (zCall sp_law_told eF (zCons (zC (.str "down")) (zCons (zVar 7) (zCons (zVar 3) (zNil))))))) (zFD (zRep (zFD (zLst (zCons (zCatS (zC (.str "InvalidSeen ")) (zReprZ (zVarV 6))) (zNil)))) (zC (.int 2))))) (zRet (zC (.bl false))) (zNext))))) (
  zSeq (zFor (zItS (zCall sp_law_bad_integers eF (zCons (zC (.int 3)) (zCons (zC (.int 1000)) (zNil))))) (gzName 4) (zIfS (zCmpT fNe (zFD (zLc [9] (zItS (zTup (zCons (zC (.str "up")) (zCons (zC (.str "down")) (zNil))))) (gzName 9) (zYes) (zCall sp_law_told eF (zCons (zVar 9) (zCons (zVar 1) (zCons (zVar 4) (zNil))))))) (zFD (zRep (zFD (zLst (zCons (zC (.str "InvalidNumber")) (zNil)))) (zC (.int 2))))) (zRet (zC (.bl false))) (zNext))) (
  zSeq (zSet (zFD (zLst (zCons (zCall sp_law_told eF (zCons (zC (.str "up")) (zCons (zVar 1) (zCons (zC (.int 3)) (zNil))))) (zCons (zCall sp_law_told eF (zCons (zC (.str "down")) (zCons (zFD (zSlice (zShV (zFD (zRep (zVar 1) (zC (.int 20))))) zNoPart (zPart (zC (.int 20))))) (zCons (zC (.int 1000)) (zNil))))) (zNil))))) 8) (
  zRet (zCmp fEq (zFD (zCat (zVar 8) (zFD (zLst (zCons (zCall sp_law_told eF (zCons (zC (.str "up")) (zCons (zFD (zLst (zCons (zTup (zCons (zC (.int 1000000000000000000000000000000)) (zCons (zC (.int 1)) (zNil)))) (zCons (zTup (zCons (zC (.int 1)) (zCons (zC (.int 1000000000000000000000000000000)) (zNil)))) (zNil))))) (zCons (zC (.int 50)) (zNil))))) (zNil)))))) (zFD (zRep (zFD (zLst (zCons (zC (.str "fine")) (zNil)))) (zC (.int 3))))))))))))))
theorem dv_law_right {Pg : Program} {w : World} {K : PySem.W.Frag} {mg : Str → Option Value} {base : Heap} {f : Addr} (G : Facts mg) (O : Objs K mg) (D__law_pick : Df Pg w K mg base 1 "_law_pick" (spB K mg sp_law_pick)) (D__law_bad_integers : Df Pg w K mg base 1 "_law_bad_integers" (spZ K mg sp_law_bad_integers)) (D__law_told : Df Pg w K mg base 5 "_law_told" (spZ K mg sp_law_told)) (cdv : Value) (A : Around) (outer : List Env) (s : Shared) (H : Hp) (E : XK) (Z0 : Zc) (C : Cd 5 (cxOf (L2.CX Pg w) Pg w K mg base N_law_right "_law_right" (defScope s_law_right) f cdv A outer s H E) (Sup Z0)) :
    PSsd (cxOf (L2.CX Pg w) Pg w K mg base N_law_right "_law_right" (defScope s_law_right) f cdv A outer s H E) (Sup Z0) (defBody s_law_right) t_law_right :=
  (ssd_cons (sd_setF (i := 1) bagS C.nd (pf_lst ad_nil))
    (ssd_cons (sd_for C.po C.calm (id_range1 (by rfl) G.b_range (pd_add pd_int (dd_callB (i := 0) D__law_pick C (by rfl) (ad_cons pd_int ad_nil)))) (gd_name (i := 2) bagS C.nd) (ssd_cons (sd_set (i := 3) bagS C.nd (pd_ix (pf_lst (ad_cons pd_int (ad_cons (pd_powc (v := 1000000000000000000000000000000)) ad_nil))).pd.pv (dd_callB (i := 0) D__law_pick C (by rfl) (ad_cons pd_int ad_nil))))
    (ssd_one (sd_expr (pd_lm (i := 1) PySem.F.slot_list_append PySem.F.type_list_append mt_append mz_append (ad_cons (pd_tup (ad_cons (pd_add pd_int (dd_callB (i := 0) D__law_pick C (by rfl) (ad_cons (pd_var 3 bagS) ad_nil))) (ad_cons (pd_add pd_int (dd_callB (i := 0) D__law_pick C (by rfl) (ad_cons (pd_var 3 bagS) ad_nil))) ad_nil))) ad_nil))))))
    (ssd_cons (sd_for C.po C.calm (id_seq (pf_lst (ad_cons pd_non (ad_cons pd_int (ad_cons pd_bl (ad_cons pd_str (ad_cons pd_str (ad_cons pd_str (ad_cons pd_str (ad_cons pd_str (ad_cons (pf_lst ad_nil).pd (ad_cons (pf_lst (ad_cons pd_str ad_nil)).pd (ad_cons (pd_tup (ad_cons pd_str ad_nil)) (ad_cons pd_dic (ad_cons (pd_powc (v := 10000000000000000000000000000000000000000)) ad_nil)))))))))))))).pd) (gd_name (i := 4) bagS C.nd) (ssd_one (sd_if (pt_cmp (op_neA C.hu) cz_ne (pf_lst (ad_cons (dd_call D__law_told C (by rfl) eF ez0 (ad_cons (pd_var 4 bagS) (ad_cons (pd_var 1 bagS) (ad_cons pd_int ad_nil)))) (ad_cons (dd_call D__law_told C (by rfl) eF ez0 (ad_cons (pd_var 4 bagS) (ad_cons pd_non (ad_cons pd_non ad_nil)))) (ad_cons (dd_call D__law_told C (by rfl) eF ez0 (ad_cons (pd_var 4 bagS) (ad_cons (pf_lst (ad_cons pd_non ad_nil)).pd (ad_cons pd_int ad_nil)))) ad_nil)))).pd (pf_rep (pf_lst (ad_cons pd_str ad_nil)).pd pd_int).pd) (ssd_one (sd_ret pd_bl)) ssd_nil)))
    (ssd_cons (sd_for C.po C.calm (id_seq (pf_lst (ad_cons pd_non (ad_cons pd_int (ad_cons pd_bl (ad_cons pd_str (ad_cons (pd_tup ad_nil) (ad_cons pd_dic (ad_cons (pf_lst ad_nil).pd (ad_cons (pd_bty bz_tupleOf call_tuple_of (by rfl) G.b_tuple rfl (ad_cons (pd_var 1 bagS) ad_nil)) (ad_cons (pd_ix (pv_var 1) pd_int) (ad_cons (pf_slice (pf_rep (pd_var 1 bagS) pd_int).pd.pv od_none (od_some pd_int)).pd (ad_cons (pf_rep (pf_lst (ad_cons pd_non ad_nil)).pd pd_int).pd (ad_cons (pd_powc (v := 10000000000000000000000000000000000000000)) ad_nil))))))))))))).pd) (gd_name (i := 4) bagS C.nd) (ssd_one (sd_if (pt_cmp (op_neA C.hu) cz_ne (pf_lc (own := [("most", 3)]) C.calm C.nd bagL (id_seq (pd_tup (ad_cons pd_int (ad_cons pd_non ad_nil)))) (blkOk_by (N := N_law_right) (sc := defScope s_law_right) (by decide +kernel)) (by decide) (fun _ _ _ _ _ => (gd_name (i := 3) bagS C.blk.nd)) (fun _ _ _ _ _ => tsd_nil) (fun _ _ _ _ _ => (dd_call D__law_told C.blk (by rfl) eF ez0 (ad_cons pd_str (ad_cons (pd_var 4 bagS) (ad_cons (pd_var 3 bagS) ad_nil)))))).pd (pf_rep (pf_lst (ad_cons pd_str ad_nil)).pd pd_int).pd) (ssd_one (sd_ret pd_bl)) ssd_nil)))
    (ssd_cons (sd_set (i := 5) bagS C.nd (pf_lst (ad_cons pd_non (ad_cons pd_int (ad_cons pd_str (ad_cons (pd_tup ad_nil) (ad_cons (pd_tup (ad_cons pd_int ad_nil)) (ad_cons (pd_tup (ad_cons pd_int (ad_cons pd_int (ad_cons pd_int ad_nil)))) (ad_cons (pf_lst (ad_cons pd_int (ad_cons pd_int ad_nil))).pd (ad_cons pd_dic (ad_cons (pd_tup (ad_cons pd_int (ad_cons pd_int ad_nil))) (ad_cons (pd_tup (ad_cons pd_int (ad_cons pd_int ad_nil))) (ad_cons (pd_tup (ad_cons pd_negc (ad_cons pd_int ad_nil))) (ad_cons (pd_tup (ad_cons pd_int (ad_cons pd_negc ad_nil))) (ad_cons (pd_tup (ad_cons pd_bl (ad_cons pd_int ad_nil))) (ad_cons (pd_tup (ad_cons pd_int (ad_cons pd_bl ad_nil))) ad_nil))))))))))))))).pd)
    (ssd_cons (sd_set (i := 5) bagS C.nd (pf_cat (pd_var 5 bagS) (pf_lst (ad_cons (pd_tup (ad_cons pd_non (ad_cons pd_int ad_nil))) (ad_cons (pd_tup (ad_cons pd_int (ad_cons pd_non ad_nil))) (ad_cons (pd_tup (ad_cons pd_str (ad_cons pd_int ad_nil))) (ad_cons (pd_tup (ad_cons pd_int (ad_cons pd_str ad_nil))) (ad_cons (pd_tup (ad_cons (pf_lst (ad_cons pd_int ad_nil)).pd (ad_cons pd_int ad_nil))) (ad_cons (pd_tup (ad_cons (pd_add (pd_powc (v := 1000000000000000000000000000000)) pd_int) (ad_cons pd_int ad_nil))) (ad_cons (pd_tup (ad_cons pd_int (ad_cons (pd_add (pd_powc (v := 1000000000000000000000000000000)) pd_int) ad_nil))) (ad_cons (pd_tup (ad_cons (pd_tup (ad_cons pd_int (ad_cons pd_int ad_nil))) ad_nil)) ad_nil))))))))).pd).pd)
    (ssd_cons (sd_for C.po C.calm (id_seq (pd_var 5 bagS)) (gd_name (i := 4) bagS C.nd) (ssd_cons (sd_set (i := 6) bagS C.nd (dd_callB (i := 0) D__law_pick C (by rfl) (ad_cons (pd_len (by rfl) G.b_len PySem.boot_len (pv_var 1)) ad_nil)))
    (ssd_one (sd_for C.po C.calm (id_seq (pd_tup (ad_cons (pf_cat (pf_cat (pf_slice (pv_var 1) od_none (od_some (pd_var 6 bagS))).pd (pf_lst (ad_cons (pd_var 4 bagS) ad_nil)).pd).pd (pf_slice (pv_var 1) (od_some (pd_add (pd_var 6 bagS) pd_int)) od_none).pd).pd (ad_cons (pf_cat (pf_slice (pv_var 1) od_none (od_some (pd_var 6 bagS))).pd (pf_lst (ad_cons (pd_var 4 bagS) (ad_cons pd_non ad_nil))).pd).pd ad_nil)))) (gd_name (i := 7) bagS C.nd) (ssd_one (sd_if (pt_cmp (op_neA C.hu) cz_ne (pf_lc (own := [("most", 3)]) C.calm C.nd bagL (id_seq (pd_tup (ad_cons pd_int (ad_cons pd_non ad_nil)))) (blkOk_by (N := N_law_right) (sc := defScope s_law_right) (by decide +kernel)) (by decide) (fun _ _ _ _ _ => (gd_name (i := 3) bagS C.blk.nd)) (fun _ _ _ _ _ => tsd_nil) (fun _ _ _ _ _ => (dd_call D__law_told C.blk (by rfl) eF ez0 (ad_cons pd_str (ad_cons (pd_var 7 bagS) (ad_cons (pd_var 3 bagS) ad_nil)))))).pd (pf_rep (pf_lst (ad_cons (pd_catS pd_str (pd_reprZ C (by rfl) G.b_repr (pv_var 6))) ad_nil)).pd pd_int).pd) (ssd_one (sd_ret pd_bl)) ssd_nil))))))
    (ssd_cons (sd_for C.po C.calm (id_seq (dd_call D__law_bad_integers C (by rfl) eF ez0 (ad_cons pd_int (ad_cons pd_int ad_nil)))) (gd_name (i := 4) bagS C.nd) (ssd_one (sd_if (pt_cmp (op_neA C.hu) cz_ne (pf_lc (own := [("kind", 9)]) C.calm C.nd bagL (id_seq (pd_tup (ad_cons pd_str (ad_cons pd_str ad_nil)))) (blkOk_by (N := N_law_right) (sc := defScope s_law_right) (by decide +kernel)) (by decide) (fun _ _ _ _ _ => (gd_name (i := 9) bagS C.blk.nd)) (fun _ _ _ _ _ => tsd_nil) (fun _ _ _ _ _ => (dd_call D__law_told C.blk (by rfl) eF ez0 (ad_cons (pd_var 9 bagS) (ad_cons (pd_var 1 bagS) (ad_cons (pd_var 4 bagS) ad_nil)))))).pd (pf_rep (pf_lst (ad_cons pd_str ad_nil)).pd pd_int).pd) (ssd_one (sd_ret pd_bl)) ssd_nil)))
    (ssd_cons (sd_set (i := 8) bagS C.nd (pf_lst (ad_cons (dd_call D__law_told C (by rfl) eF ez0 (ad_cons pd_str (ad_cons (pd_var 1 bagS) (ad_cons pd_int ad_nil)))) (ad_cons (dd_call D__law_told C (by rfl) eF ez0 (ad_cons pd_str (ad_cons (pf_slice (pf_rep (pd_var 1 bagS) pd_int).pd.pv od_none (od_some pd_int)).pd (ad_cons pd_int ad_nil)))) ad_nil))).pd)
    (ssd_one (sd_ret (pd_cmp (op_eqA C.hu) cz_eq (pf_cat (pd_var 8 bagS) (pf_lst (ad_cons (dd_call D__law_told C (by rfl) eF ez0 (ad_cons pd_str (ad_cons (pf_lst (ad_cons (pd_tup (ad_cons (pd_powc (v := 1000000000000000000000000000000)) (ad_cons pd_int ad_nil))) (ad_cons (pd_tup (ad_cons pd_int (ad_cons (pd_powc (v := 1000000000000000000000000000000)) ad_nil))) ad_nil))).pd (ad_cons pd_int ad_nil)))) ad_nil)).pd).pd (pf_rep (pf_lst (ad_cons pd_str ad_nil)).pd pd_int).pd))))))))))))
--% reads
theorem ln_law_right : ∀ bs ds Qz, sp_law_right bs ds Qz → ds.length + 1 = 1 := by
  rintro bs ds Q ⟨_, _, rfl, _⟩
  rfl
def PairsIn (ps : List (Int × Int)) : Prop := ∀ p ∈ ps, 1 ≤ p.1 ∧ p.1 ≤ 10 ^ 30 ∧ 1 ≤ p.2 ∧ p.2 ≤ 10 ^ 30
/-- an item of a list of what was seen, that can be asked and shown -/
def ItemOk (x : D) : Prop := isK x ∧ (∀ ys, x = .tup ys → ∀ y ∈ ys, isK y) ∧ x.gdR = true ∧ x.depR ≤ 3 ∧ x.bkR ≤ 20
def SeenOk (s : D) : Prop := SeenK s ∧ Small s
theorem seen_items {xs : List D} (h : ∀ x ∈ xs, ItemOk x) (hl : xs.length ≤ 400) : SeenOk (.lst xs) := by
  have h1 : D.gdsR xs = true := gdsR_iff.mpr fun x hx => (h x hx).2.2.1
  have h2 : ∀ ys : List D, (∀ x ∈ ys, ItemOk x) → D.depsR ys ≤ 3 ∧ D.bksR ys ≤ 21 * ys.length := fun ys => by
    induction ys with
    | nil => intro _; exact ⟨by decide, by decide⟩
    | cons y ys ih =>
      intro hy
      have a := ih fun x hx => hy x (List.mem_cons_of_mem _ hx)
      have b := hy y List.mem_cons_self
      have b1 := b.2.2.2.1
      have b2 := b.2.2.2.2
      simp only [D.depsR, D.bksR, List.length_cons]
      omega
  have h3 := h2 xs h
  refine ⟨⟨⟨_, rfl⟩, nofun, fun ys e x hx => ?_⟩, h1, ?_, ?_⟩
  · cases e
    exact ⟨(h x hx).1, (h x hx).2.1⟩
  · simp only [D.depR]; omega
  · simp only [D.bkR]; omega
theorem pair_item {p : Int × Int} (h : p.1.natAbs < 10 ^ 200 ∧ p.2.natAbs < 10 ^ 200) : ItemOk (pairD p) := by
  refine ⟨⟨_, rfl⟩, fun ys e y hy => ?_, ?_, Nat.le_of_ble_eq_true rfl, Nat.le_of_ble_eq_true rfl⟩
  · cases e
    simp at hy
    rcases hy with rfl | rfl <;> exact ⟨_, rfl⟩
  · simp [pairD, D.gdR, D.gdsR, h.1, h.2]
theorem seen_ok {ps : List (Int × Int)} (h : PairsIn ps) (hl : ps.length ≤ 400) : SeenOk (.lst (ps.map pairD)) := by
  refine seen_items (fun x hx => ?_) (by simpa using hl)
  obtain ⟨p, hp, rfl⟩ := List.mem_map.mp hx
  obtain ⟨a, b, c, d⟩ := h p hp
  exact pair_item ⟨by omega, by omega⟩
theorem cut_to (xs : List D) (k : Nat) : Zz.cutD xs none (some (k : Int)) = xs.take k := by
  unfold Zz.cutD
  rw [HT.sIx_none, HT.sIx_nat, List.drop_zero, Nat.sub_zero]
  rcases Nat.le_total k xs.length with h | h
  · rw [Nat.min_eq_left h]
  · rw [Nat.min_eq_right h, List.take_of_length_le (Nat.le_refl _), List.take_of_length_le h]
theorem cut_from (xs : List D) (k : Nat) : Zz.cutD xs (some (k : Int)) none = xs.drop k := by
  unfold Zz.cutD
  rw [HT.sIx_none, HT.sIx_nat]
  rcases Nat.le_total k xs.length with h | h
  · rw [Nat.min_eq_left h, List.take_of_length_le (by simp)]
  · rw [Nat.min_eq_right h, List.drop_of_length_le h, List.drop_of_length_le (Nat.le_refl _)]
    simp
theorem cut_le {xs : List D} {lo hi : Option Int} {d : D} (h : d ∈ Zz.cutD xs lo hi) : d ∈ xs := List.mem_of_mem_drop (List.mem_of_mem_take h)
theorem rep_mem {n : Nat} {xs : List D} {x : D} (h : x ∈ (List.replicate n xs).flatten) : x ∈ xs := by
  obtain ⟨l, h1, h2⟩ := List.mem_flatten.mp h
  rw [(List.mem_replicate.mp h1).2] at h2
  exact h2
def itemB (x : D) : Bool := x.ty.isSome && (match x with | .tup ys => ys.all (·.ty.isSome) | _ => true) && x.gdR && decide (x.depR ≤ 3) && decide (x.bkR ≤ 20)
theorem item_of {x : D} (h : itemB x = true) : ItemOk x := by
  simp only [itemB, Bool.and_eq_true, decide_eq_true_eq] at h
  refine ⟨Option.isSome_iff_exists.mp h.1.1.1.1, fun ys e y hy => ?_, h.1.1.2, h.1.2, h.2⟩
  subst e
  exact Option.isSome_iff_exists.mp (List.all_eq_true.mp h.1.1.1.2 y hy)
theorem item_all {xs : List D} (h : (xs.all fun x => itemB x && !pairOk x) = true) : ∀ x ∈ xs, ItemOk x ∧ pairOk x = false := fun x hx => by
  have := List.all_eq_true.mp h x hx
  simp only [Bool.and_eq_true, Bool.not_eq_true'] at this
  exact ⟨item_of this.1, this.2⟩
theorem pair_in {p : Int × Int} (h : 1 ≤ p.1 ∧ p.1 ≤ 10 ^ 30 ∧ 1 ≤ p.2 ∧ p.2 ≤ 10 ^ 30) : pairOk (pairD p) = true := by
  obtain ⟨a, b, c, d⟩ := h
  show (decide (1 ≤ p.1) && decide (p.1 ≤ 10 ^ 30) && (decide (1 ≤ p.2) && decide (p.2 ≤ 10 ^ 30))) = true
  rw [decide_eq_true a, decide_eq_true b, decide_eq_true c, decide_eq_true d]
  rfl
theorem first_at (b : D) (C : List D) (hb : pairOk b = false) : ∀ (ps : List (Int × Int)) (j : Nat), PairsIn ps → firstBad j (ps.map pairD ++ b :: C) = some (.int ((j + ps.length : Nat) : Int))
  | [], j, _ => if_pos hb
  | p :: ps, j, h => by
    show (if pairOk (pairD p) = false then _ else _) = _
    rw [if_neg (by rw [pair_in (h p List.mem_cons_self)]; decide)]
    show firstBad (j + 1) (ps.map pairD ++ b :: C) = _
    rw [first_at b C hb ps (j + 1) fun q hq => h q (List.mem_cons_of_mem _ hq)]
    rw [List.length_cons, show j + 1 + ps.length = j + (ps.length + 1) by omega]
theorem seen_none {ps : List (Int × Int)} (h : PairsIn ps) (l1 : 1 ≤ ps.length) (l2 : ps.length ≤ 20) : seenBad (.lst (ps.map pairD)) = none := by
  have f : ∀ (ps : List (Int × Int)) (j : Nat), PairsIn ps → firstBad j (ps.map pairD) = none := fun ps => by
    induction ps with
    | nil => intro _ _; rfl
    | cons p ps ih =>
      intro j h
      show (if pairOk (pairD p) = false then _ else _) = _
      rw [if_neg (by rw [pair_in (h p List.mem_cons_self)]; decide)]
      exact ih _ fun q hq => h q (List.mem_cons_of_mem _ hq)
  show (if _ then _ else _) = _
  rw [if_pos (by simp; omega)]
  exact f ps 0 h
theorem rd_law_right : ∀ bs ds Qz, sp_law_right bs ds Qz → t_law_right { nx := fun S => bagEnd Qz .non S, rt := fun r S => match r with
      | .sh d => bagEnd Qz d S
      | .ow xs => bagEnd Qz (.lst xs) S
      | .un => False } (.ow bs :: startS N_law_right.tail ds) := by
  rintro bs ds Q ⟨n, hb, rfl, q⟩
  refine cut2 (fun S => ∃ bs ps x2 y3, S = [.ow bs, .ow (ps.map pairD), x2, .sh y3, .un, .un, .un, .un, .un, .un] ∧ BagOk (n + 30) bs ∧ PairsIn ps ∧ 1 ≤ ps.length ∧ ps.length ≤ 9) (fun K hK => ?_) ?_
  · nofun
    refine ⟨Nat.zero_le _, ?_⟩
    nofun
    refine ⟨n + 59, 9, hb, rfl, by decide, by decide, fun r bs h1 h2 hb => ?_⟩
    nofun
    refine ⟨by omega, by omega, ?_⟩
    refine forz_ind (fun i S => ∃ bs ps x2 x3, S = [.ow bs, .ow (ps.map pairD), x2, x3, .un, .un, .un, .un, .un, .un] ∧ BagOk (n + 59 - 3 * i) bs ∧ PairsIn ps ∧ ps.length = i ∧ (0 < i → ∃ y3, x3 = .sh y3)) ⟨_, [], _, _, rfl, hb, nofun, rfl, nofun⟩ ?_ ?_
    · rintro i d S hd ⟨bs, ps, x2, x3, rfl, hb, hp, hl, _⟩ K2 hK2
      obtain ⟨hi, rfl⟩ := rangeD_get hd
      have hi : i < 9 := by omega
      nofun
      refine ⟨sz2, ?_⟩
      nofun
      refine ⟨n + 58 - 3 * i, 2, hb.le (by omega), rfl, by decide, by decide, fun r1 bs u1 u2 hb => ?_⟩
      obtain ⟨most, hm, m1, m2⟩ : ∃ most : Int, atI [D.int 30, D.int 1000000000000000000000000000000] r1 = some (.int most) ∧ 1 ≤ most ∧ most ≤ 10 ^ 30 := by
        rcases (by omega : r1 = 0 ∨ r1 = 1) with rfl | rfl
        · exact ⟨30, rfl, by decide, by decide⟩
        · exact ⟨_, rfl, by decide, by decide⟩
      nofun
      refine ⟨_, hm, ?_⟩
      clear hm
      nofun
      refine ⟨n + 57 - 3 * i, most, hb.le (by omega), rfl, by omega, by omega, fun r2 bs v1 v2 hb => ?_⟩
      nofun
      refine ⟨n + 56 - 3 * i, most, hb.le (by omega), rfl, by omega, by omega, fun r3 bs w1 w2 hb => ?_⟩
      nofun
      refine ⟨sz2, ?_⟩
      nofun
      refine ⟨by rw [List.length_map, sizeLine_eq]; omega, hK2 _ ⟨_, ps ++ [(1 + r2, 1 + r3)], _, _, by rw [List.map_append]; rfl, hb.le (by omega), fun p hm => ?_, by simp [hl], fun _ => ⟨_, rfl⟩⟩⟩
      rcases List.mem_append.mp hm with hm | hm
      · exact hp p hm
      · simp at hm
        subst hm
        simp only
        omega
    · rintro S ⟨bs, ps, x2, x3, rfl, hb, hp, hl, h3⟩
      rw [rangeD_length] at *
      obtain ⟨y3, rfl⟩ := h3 (by omega)
      exact hK _ ⟨_, _, _, _, rfl, hb.le (by omega), hp, by omega, by omega⟩
  rintro S ⟨bs, ps, x2, y3, rfl, hb, hp, l1, l2⟩
  have tK : toldS (some (("InvalidKind", none) : Str × Option D)) = "InvalidKind" := by decide +kernel
  have tN : toldS (some (("InvalidSeen", some .non) : Str × Option D)) = "InvalidSeen None" := by decide +kernel
  have kI : ∀ i, isK (.int i) := fun i => ⟨_, rfl⟩
  have kN : isK .non := ⟨_, rfl⟩
  have s9 : Small (.int 9) := small_int (by decide)
  have sN : Small .non := ⟨rfl, by decide, by decide⟩
  have nS : SeenOk .non := ⟨⟨kN, nofun, nofun⟩, sN⟩
  have n1 : SeenOk (.lst [.non]) := seen_items (by simp; exact ⟨kN, nofun, rfl, by decide, by decide⟩) (by decide)
  -- a wrong kind
  have iS : SeenOk (.lst (ps.map pairD)) := seen_ok hp (by omega)
  refine zSeq_cut (fun S => ∃ x4, S = [.ow bs, .sh (.lst (ps.map pairD)), x2, .sh y3, x4, .un, .un, .un, .un, .un]) (fun K0 hK0 => ?_) ?_
  · nofun
    refine ⟨Nat.le_of_ble_eq_true rfl, ?_⟩
    nofun
    refine ⟨Nat.le_of_ble_eq_true rfl, ?_⟩
    nofun
    refine ⟨Nat.le_of_ble_eq_true rfl, ?_⟩
    nofun
    refine ⟨Nat.le_of_ble_eq_true rfl, ?_⟩
    refine forz_ind (fun i S => ∃ o x4, S = [.ow bs, o, x2, .sh y3, x4, .un, .un, .un, .un, .un] ∧ (o = .ow (ps.map pairD) ∧ i = 0 ∨ o = .sh (.lst (ps.map pairD)))) ⟨_, _, rfl, .inl ⟨rfl, rfl⟩⟩ ?_ ?_
    · rintro i d S hd ⟨o, x4, rfl, ho⟩ K hK
      have hbad : isK d ∧ Small d ∧ kindB d = false := by
        have := List.mem_of_getElem? hd
        simp at this
        rcases this with rfl | rfl | rfl | rfl | rfl | rfl | rfl | rfl | rfl | rfl | rfl | rfl | rfl
        all_goals exact ⟨⟨_, rfl⟩, ⟨by decide +kernel, by decide +kernel, by decide +kernel⟩, by decide +kernel⟩
      clear hd
      obtain ⟨kd, sd, bd⟩ := hbad
      have eK : ∀ s m, errOf d s m = some (("InvalidKind", none) : Str × Option D) := fun s m => if_pos bd
      rcases ho with ⟨rfl, _⟩ | rfl
      all_goals
        nofun
        refine ⟨d, _, _, rfl, kd, iS.1, kI _, sd, iS.2, s9, ?_⟩
        rw [eK, tK]
        nofun
        refine ⟨d, _, _, rfl, kd, nS.1, kN, sd, nS.2, sN, ?_⟩
        rw [eK, tK]
        nofun
        refine ⟨Nat.le_of_ble_eq_true rfl, ?_⟩
        nofun
        refine ⟨d, _, _, rfl, kd, n1.1, kI _, sd, n1.2, s9, ?_⟩
        rw [eK, tK]
        nofun
        refine ⟨Nat.le_of_ble_eq_true rfl, ?_⟩
        nofun
        refine ⟨Nat.le_of_ble_eq_true rfl, ?_⟩
        nofun
        refine ⟨⟨by decide, by decide, Nat.le_of_ble_eq_true rfl⟩, ?_⟩
        nofun
        refine ⟨by decide +kernel, by decide +kernel, fun z => absurd z (by decide +kernel), fun _ => ?_⟩
        exact hK _ ⟨_, _, rfl, .inr rfl⟩
    rintro S ⟨o, x4, rfl, ho⟩
    rcases ho with ⟨rfl, e⟩ | rfl
    · cases e
    · exact hK0 _ ⟨_, rfl⟩
  rintro S ⟨x4, rfl⟩
  -- a wrong list
  refine zSeq_cut (fun S => ∃ x4, S = [.ow bs, .sh (.lst (ps.map pairD)), x2, .sh y3, x4, .un, .un, .un, .un, .un]) (fun K0 hK0 => ?_) ?_
  · obtain ⟨p0, h0, m0⟩ : ∃ p0, atI (ps.map pairD) 0 = some (pairD p0) ∧ p0 ∈ ps := by
      cases ps with
      | nil => cases l1
      | cons p _ => exact ⟨p, by rw [atI_ge (by decide)]; rfl, by simp⟩
    nofun
    refine ⟨Nat.le_of_ble_eq_true rfl, ?_⟩
    nofun
    refine ⟨Nat.le_of_ble_eq_true rfl, ?_⟩
    nofun
    refine ⟨_, h0, ?_⟩
    nofun
    refine ⟨⟨by decide, by decide, by rw [List.length_map, sizeLine_eq]; simp; omega⟩, ?_⟩
    nofun
    have w1 : (Zz.cutD (List.replicate (Int.toNat 21) (ps.map pairD)).flatten none (some 21)).length = 21 := by
      rw [show (21 : Int) = ((21 : Nat) : Int) from rfl, cut_to, List.length_take, List.length_flatten]
      simp
      omega
    have w2 : SeenOk (.lst (Zz.cutD (List.replicate (Int.toNat 21) (ps.map pairD)).flatten none (some 21))) := seen_items (fun x hx => by
      obtain ⟨p, hp', rfl⟩ := List.mem_map.mp (rep_mem (cut_le hx))
      obtain ⟨a, b, c, d⟩ := hp p hp'
      exact pair_item ⟨by omega, by omega⟩) (by omega)
    generalize Zz.cutD (List.replicate (Int.toNat 21) (ps.map pairD)).flatten none (some 21) = W at *
    refine ⟨Nat.le_of_ble_eq_true rfl, ?_⟩
    nofun
    refine ⟨⟨by decide, by decide, Nat.le_of_ble_eq_true rfl⟩, ?_⟩
    nofun
    refine ⟨Nat.le_of_ble_eq_true rfl, ?_⟩
    refine forz_ind (fun i S => ∃ x4, S = [.ow bs, .sh (.lst (ps.map pairD)), x2, .sh y3, x4, .un, .un, .un, .un, .un]) ⟨_, rfl⟩ ?_ fun S hS => hK0 S hS
    rintro i d S hd ⟨x4, rfl⟩ K hK
    have hbad : SeenOk d ∧ seenBad d = some .non := by
      have := List.mem_of_getElem? hd
      simp at this
      have fn : ∀ d : D, d.ty ≠ none → (∀ xs, d ≠ .fls xs) → (∀ xs, d ≠ .lst xs) → Small d → SeenOk d := fun d h1 h2 h3 h4 => ⟨⟨by cases h : d.ty with
        | none => exact absurd h h1
        | some n => exact ⟨n, h⟩, h2, fun xs e => absurd e (h3 xs)⟩, h4⟩
      rcases this with rfl | rfl | rfl | rfl | rfl | rfl | rfl | rfl | rfl | rfl | rfl | rfl
      · exact ⟨nS, rfl⟩
      · exact ⟨fn _ nofun nofun nofun ⟨rfl, by decide, by decide⟩, rfl⟩
      · exact ⟨fn _ nofun nofun nofun ⟨rfl, by decide, by decide⟩, rfl⟩
      · exact ⟨fn _ nofun nofun nofun ⟨by decide +kernel, by decide, by decide +kernel⟩, rfl⟩
      · exact ⟨fn _ nofun nofun nofun ⟨rfl, by decide, by decide⟩, rfl⟩
      · exact ⟨fn _ nofun nofun nofun ⟨rfl, by decide, by decide⟩, rfl⟩
      · exact ⟨seen_items nofun (by decide), rfl⟩
      · exact ⟨fn _ nofun nofun nofun iS.2, rfl⟩
      · exact ⟨fn _ nofun nofun nofun (have z := hp p0 m0; have y := pair_item (p := p0) ⟨by omega, by omega⟩; ⟨y.2.2.1, Nat.le_trans y.2.2.2.1 (by decide), Nat.le_trans y.2.2.2.2 (by decide)⟩), rfl⟩
      · exact ⟨w2, if_neg fun z => by omega⟩
      · exact ⟨seen_items (fun x hx => by
          have : x = .non := by simpa using hx
          subst this
          exact ⟨kN, nofun, rfl, by decide, by decide⟩) (by decide), rfl⟩
      · exact ⟨fn _ nofun nofun nofun ⟨by decide +kernel, by decide, by decide⟩, rfl⟩
    clear hd
    obtain ⟨dS, dB⟩ := hbad
    have eS : ∀ m, errOf (.str "up") d m = some (("InvalidSeen", some .non) : Str × Option D) := fun m => by
      unfold errOf
      rw [if_neg (by decide +kernel), dB]
    have kU : isK (.str "up") := ⟨_, rfl⟩
    have sU : Small (.str "up") := ⟨by decide +kernel, by decide, by decide +kernel⟩
    nofun
    refine ⟨Nat.le_of_ble_eq_true rfl, ⟨trivial, trivial⟩, ?_⟩
    nofun
    refine ⟨_, _, _, rfl, kU, dS.1, kI _, sU, dS.2, s9, ?_⟩
    rw [eS, tN]
    nofun
    refine ⟨by decide, ?_⟩
    nofun
    refine ⟨_, _, _, rfl, kU, dS.1, kN, sU, dS.2, sN, ?_⟩
    rw [eS, tN]
    nofun
    refine ⟨by decide, ?_⟩
    nofun
    refine ⟨Nat.le_of_ble_eq_true rfl, ?_⟩
    nofun
    refine ⟨⟨by decide, by decide, Nat.le_of_ble_eq_true rfl⟩, ?_⟩
    nofun
    refine ⟨by decide +kernel, by decide +kernel, fun z => absurd z (by decide +kernel), fun _ => ?_⟩
    exact hK _ ⟨_, rfl⟩
  rintro S ⟨x4, rfl⟩
  -- a wrong item
  refine cut2 (fun S => ∃ xs, S = [.ow bs, .sh (.lst (ps.map pairD)), x2, .sh y3, x4, .sh (.lst xs), .un, .un, .un, .un] ∧ xs.length = 22 ∧ ∀ x ∈ xs, ItemOk x ∧ pairOk x = false) (fun K0 hK0 => ?_) ?_
  · nofun
    repeat (first | (refine ⟨Nat.le_of_ble_eq_true rfl, ?_⟩; nofun) | (refine ⟨Nat.le_of_ble_eq_true rfl, Nat.le_of_ble_eq_true rfl, ?_⟩; nofun))
    exact hK0 _ ⟨_, rfl, rfl, item_all (by decide +kernel)⟩
  rintro S ⟨xs, rfl, hl, hx⟩
  refine zSeq_cut (fun S => ∃ bs x4 x6 x7, S = [.ow bs, .sh (.lst (ps.map pairD)), x2, .sh y3, x4, .sh (.lst xs), x6, x7, .un, .un] ∧ BagOk n bs) (fun K0 hK0 => ?_) ?_
  · refine forz_ind (fun i S => ∃ bs x4 x6 x7, S = [.ow bs, .sh (.lst (ps.map pairD)), x2, .sh y3, x4, .sh (.lst xs), x6, x7, .un, .un] ∧ BagOk (n + 30 - i) bs) ⟨_, _, _, _, rfl, hb⟩ ?_ ?_
    · rintro i d S hd ⟨bs, x4, x6, x7, rfl, hb⟩ K hK
      have hi : i < 22 := hl ▸ (List.getElem?_eq_some_iff.mp hd).1
      obtain ⟨dI, dB⟩ := hx d (List.mem_of_getElem? hd)
      clear hd
      nofun
      refine ⟨n + 29 - i, _, hb.le (by omega), rfl, by simp; omega, by simp; omega, fun at' bs u1 u2 hb => ?_⟩
      obtain ⟨k, rfl⟩ : ∃ k : Nat, at' = k := ⟨at'.toNat, by omega⟩
      have u2 : k < ps.length := by simp at u2; omega
      have e1 : Zz.cutD (ps.map pairD) none (some (k : Int)) = (ps.take k).map pairD := by rw [cut_to, List.map_take]
      have e2 : Zz.cutD (ps.map pairD) (some ((k : Int) + 1)) none = (ps.drop (k + 1)).map pairD := by rw [show (k : Int) + 1 = ((k + 1 : Nat) : Int) from rfl, cut_from, List.map_drop]
      have n1 : ((ps.take k).map pairD).length ≤ 9 := by simp; omega
      have n2 : ((ps.drop (k + 1)).map pairD).length ≤ 9 := by simp; omega
      nofun
      rw [e1]
      refine ⟨Nat.le_of_ble_eq_true rfl, by rw [sizeLine_eq]; simp at n1 ⊢; omega, ?_⟩
      nofun
      rw [e2]
      refine ⟨by rw [sizeLine_eq, List.length_append]; simp at n1 n2 ⊢; omega, ?_⟩
      nofun
      rw [e1]
      refine ⟨Nat.le_of_ble_eq_true rfl, by rw [sizeLine_eq]; simp at n1 ⊢; omega, ?_⟩
      nofun
      refine ⟨Nat.le_of_ble_eq_true rfl, ?_⟩
      have iA : ∀ C : List D, (∀ c ∈ C, ItemOk c) → C.length ≤ 10 → SeenOk (.lst ((ps.take k).map pairD ++ d :: C)) := fun C hC hl => seen_items (fun x hx => by
        rcases List.mem_append.mp hx with hx | hx
        · obtain ⟨p, hp', rfl⟩ := List.mem_map.mp hx
          obtain ⟨a, b, c, d⟩ := hp p (List.mem_of_mem_take hp')
          exact pair_item ⟨by omega, by omega⟩
        · rcases List.mem_cons.mp hx with rfl | hx
          · exact dI
          · exact hC x hx) (by rw [List.length_append, List.length_cons]; omega)
      have bA : ∀ C : List D, C.length + k ≤ 15 → seenBad (.lst ((ps.take k).map pairD ++ d :: C)) = some (.int (k : Int)) := fun C hC => by
        show (if _ then _ else _) = _
        rw [if_pos (by simp; omega), first_at d C dB _ 0 fun p hp' => hp p (List.mem_of_mem_take hp')]
        rw [List.length_take, Nat.zero_add, Nat.min_eq_left (by omega)]
      have all : ∀ e ∈ [D.lst ((ps.take k).map pairD ++ [d] ++ (ps.drop (k + 1)).map pairD), D.lst ((ps.take k).map pairD ++ [d, D.non])], SeenOk e ∧ seenBad e = some (.int (k : Int)) := fun e he => by
        simp only [List.mem_cons, List.not_mem_nil, or_false] at he
        rcases he with rfl | rfl
        · rw [List.append_assoc, List.singleton_append]
          exact ⟨iA _ (fun c hc => by
            obtain ⟨p, hp', rfl⟩ := List.mem_map.mp hc
            obtain ⟨a, b, c, d⟩ := hp p (List.mem_of_mem_drop hp')
            exact pair_item ⟨by omega, by omega⟩) (by omega), bA _ (by simp; omega)⟩
        · exact ⟨iA _ (fun c hc => by
            have : c = .non := by simpa using hc
            subst this
            exact ⟨kN, nofun, rfl, by decide, by decide⟩) (by decide), bA _ (by simp; omega)⟩
      generalize [D.lst ((ps.take k).map pairD ++ [d] ++ (ps.drop (k + 1)).map pairD), D.lst ((ps.take k).map pairD ++ [d, D.non])] = B at *
      refine forz_ind (fun i S => ∃ x7, S = [.ow bs, .sh (.lst (ps.map pairD)), x2, .sh y3, .sh d, .sh (.lst xs), .sh (.int (k : Int)), x7, .un, .un]) ⟨_, rfl⟩ ?_ ?_
      · rintro j e S he ⟨x7, rfl⟩ K2 hK2
        obtain ⟨eO, eB⟩ := all e (List.mem_of_getElem? he)
        clear he
        have kU : isK (.str "down") := ⟨_, rfl⟩
        have sU : Small (.str "down") := ⟨by decide +kernel, by decide, by decide +kernel⟩
        obtain ⟨p, g1, g2, g3, g4, g5⟩ := repr_small (x := .int (k : Int)) (.inr ⟨_, rfl, by omega⟩)
        cases g1
        have eS : ∀ m, errOf (.str "down") e m = some (("InvalidSeen", some (.int (k : Int))) : Str × Option D) := fun m => by
          unfold errOf
          rw [if_neg (by decide +kernel), eB]
        have tT : toldS (some (("InvalidSeen", some (.int (k : Int))) : Str × Option D)) = "InvalidSeen " ++ (PyData.int (k : Int)).shown := by
          rw [g5]
          show classOf "InvalidSeen" _ = _
          rw [classOf, if_pos (.inr rfl), show (("InvalidSeen" : Str) ++ " ") = "InvalidSeen " by decide +kernel]
          rfl
        nofun
        refine ⟨Nat.le_of_ble_eq_true rfl, ⟨trivial, trivial⟩, ?_⟩
        nofun
        refine ⟨_, _, _, rfl, kU, eO.1, kI _, sU, eO.2, s9, ?_⟩
        rw [eS, tT]
        nofun
        refine ⟨Nat.le_of_ble_eq_true rfl, ?_⟩
        nofun
        refine ⟨_, _, _, rfl, kU, eO.1, kN, sU, eO.2, sN, ?_⟩
        rw [eS, tT]
        nofun
        refine ⟨Nat.le_of_ble_eq_true rfl, ?_⟩
        nofun
        refine ⟨g2, g3, by rw [sizeLine_eq]; omega, by rw [show ("InvalidSeen " : Str).length = 12 by decide +kernel, sizeLine_eq]; omega, Nat.le_of_ble_eq_true rfl, ⟨by decide, by decide, Nat.le_of_ble_eq_true rfl⟩, ?_⟩
        have ok : PyData.strOk ("InvalidSeen " ++ (PyData.int (k : Int)).shown) = true := (show ∀ k < 9, PyData.strOk ("InvalidSeen " ++ (PyData.int ((k : Nat) : Int)).shown) = true by decide +kernel) k (by omega)
        generalize "InvalidSeen " ++ (PyData.int (k : Int)).shown = w at *
        nofun
        have ev : PyData.eqv (PyData.list [PyData.str w, PyData.str w]) (PyData.list [PyData.str w, PyData.str w]) = true := by simp [PyData.eqv, PyData.eqvAll]
        rw [ev]
        have sh : SeqAt.shaped (PyData.list [PyData.str w, PyData.str w]) = true := by simp [SeqAt.shaped, PyData.depth, PyData.depthAll, PyData.canLay0, PyData.canLayAll0, ok]
        refine ⟨sh, sh, nofun, fun _ => ?_⟩
        exact hK2 _ ⟨_, rfl⟩
      · rintro S ⟨x7, rfl⟩
        exact hK _ ⟨_, _, _, _, rfl, hb.le (by omega)⟩
    · rintro S ⟨bs, x4, x6, x7, rfl, hb⟩
      exact hK0 _ ⟨_, _, _, _, rfl, hb.le (by omega)⟩
  rintro S ⟨bs, x4, x6, x7, rfl, hb⟩
  -- a wrong number
  refine zSeq_cut (fun S => ∃ x4, S = [.ow bs, .sh (.lst (ps.map pairD)), x2, .sh y3, x4, .sh (.lst xs), x6, x7, .un, .un]) (fun K0 hK0 => ?_) ?_
  · nofun
    refine ⟨3, 1000, rfl, by decide, by decide, by decide, by decide, fun xs' hxs => ?_⟩
    refine forz_ind (fun i S => ∃ x4, S = [.ow bs, .sh (.lst (ps.map pairD)), x2, .sh y3, x4, .sh (.lst xs), x6, x7, .un, .un]) ⟨_, rfl⟩ ?_ ?_
    · rintro j d S hd ⟨x4, rfl⟩ K hK
      obtain ⟨dK, dS, dW⟩ := hxs d (List.mem_of_getElem? hd)
      clear hd
      have sb : seenBad (.lst (ps.map pairD)) = none := seen_none hp l1 (by omega)
      have eS : ∀ s : Str, kindB (.str s) = true → errOf (.str s) (.lst (ps.map pairD)) d = some (("InvalidNumber", none) : Str × Option D) := fun s hs => by
        unfold errOf
        rw [if_neg (by rw [hs]; decide), sb]
        exact if_pos dW
      have kS : ∀ s : Str, isK (.str s) := fun s => ⟨_, rfl⟩
      have sS : Small (.str "up") ∧ Small (.str "down") := ⟨⟨by decide +kernel, by decide, by decide +kernel⟩, ⟨by decide +kernel, by decide, by decide +kernel⟩⟩
      have tM : toldS (some (("InvalidNumber", none) : Str × Option D)) = "InvalidNumber" := by decide +kernel
      nofun
      refine ⟨sz2, ⟨trivial, trivial⟩, ?_⟩
      nofun
      refine ⟨_, _, _, rfl, kS _, iS.1, dK, sS.1, iS.2, dS, ?_⟩
      rw [eS _ (by decide +kernel), tM]
      nofun
      refine ⟨by decide, ?_⟩
      nofun
      refine ⟨_, _, _, rfl, kS _, iS.1, dK, sS.2, iS.2, dS, ?_⟩
      rw [eS _ (by decide +kernel), tM]
      nofun
      refine ⟨by decide, ?_⟩
      nofun
      refine ⟨Nat.le_of_ble_eq_true rfl, ?_⟩
      nofun
      refine ⟨⟨by decide, by decide, Nat.le_of_ble_eq_true rfl⟩, ?_⟩
      nofun
      refine ⟨by decide +kernel, by decide +kernel, fun z => absurd z (by decide +kernel), fun _ => ?_⟩
      exact hK _ ⟨_, rfl⟩
    · rintro S ⟨x4, rfl⟩
      exact hK0 _ ⟨_, rfl⟩
  rintro S ⟨x4, rfl⟩
  nofun
  have kS : ∀ s : Str, isK (.str s) := fun s => ⟨_, rfl⟩
  have sS : Small (.str "up") ∧ Small (.str "down") := ⟨⟨by decide +kernel, by decide, by decide +kernel⟩, ⟨by decide +kernel, by decide, by decide +kernel⟩⟩
  have tF : toldS none = "fine" := rfl
  have eF : ∀ (s : Str) (ps : List (Int × Int)) (m : Int), kindB (.str s) = true → PairsIn ps → 1 ≤ ps.length → ps.length ≤ 20 → 3 ≤ m → m ≤ 1000 → errOf (.str s) (.lst (ps.map pairD)) (.int m) = none := fun s ps m h1 h2 h3 h4 h5 h6 => by
    unfold errOf
    rw [if_neg (by rw [h1]; decide), seen_none h2 h3 h4]
    exact if_neg (by simp [wholeD]; omega)
  refine ⟨_, _, _, rfl, kS _, iS.1, kI _, sS.1, iS.2, small_int (by decide), ?_⟩
  rw [eF _ ps 3 (by decide +kernel) hp l1 (by omega) (by decide) (by decide), tF]
  nofun
  refine ⟨⟨by decide, by decide, by rw [List.length_map, sizeLine_eq]; simp; omega⟩, ?_⟩
  obtain ⟨qs, q1, q2, q3, q4⟩ : ∃ qs : List (Int × Int), Zz.cutD (List.replicate (Int.toNat 20) (ps.map pairD)).flatten none (some 20) = qs.map pairD ∧ PairsIn qs ∧ 1 ≤ qs.length ∧ qs.length ≤ 20 := by
    refine ⟨(List.replicate 20 ps).flatten.take 20, ?_, fun p hp' => ?_, ?_, ?_⟩
    · rw [show (20 : Int) = ((20 : Nat) : Int) from rfl, cut_to, List.map_take, List.map_flatten, List.map_replicate]
      rfl
    · obtain ⟨l, h1, h2⟩ := List.mem_flatten.mp (List.mem_of_mem_take hp')
      rw [(List.mem_replicate.mp h1).2] at h2
      exact hp p h2
    · rw [List.length_take, List.length_flatten]
      simp
      omega
    · rw [List.length_take]
      omega
  have iQ : SeenOk (.lst (qs.map pairD)) := seen_ok q2 (by omega)
  nofun
  rw [q1]
  refine ⟨_, _, _, rfl, kS _, iQ.1, kI _, sS.2, iQ.2, small_int (by decide), ?_⟩
  rw [eF _ qs 1000 (by decide +kernel) q2 q3 q4 (by decide) (by decide), tF]
  clear q1
  nofun
  refine ⟨sz2, ?_⟩
  nofun
  refine ⟨sz2, ?_⟩
  nofun
  refine ⟨Nat.le_of_ble_eq_true rfl, ?_⟩
  nofun
  refine ⟨Nat.le_of_ble_eq_true rfl, ?_⟩
  nofun
  have iR : SeenOk (.lst ([((1000000000000000000000000000000 : Int), (1 : Int)), (1, 1000000000000000000000000000000)].map pairD)) := seen_ok (by unfold PairsIn; decide) (by decide)
  refine ⟨_, _, _, rfl, kS _, iR.1, kI _, sS.1, iR.2, small_int (by decide), ?_⟩
  rw [show errOf (.str "up") (.lst [.tup [.int 1000000000000000000000000000000, .int 1], .tup [.int 1, .int 1000000000000000000000000000000]]) (.int 50) = none from eF "up" [((1000000000000000000000000000000 : Int), (1 : Int)), (1, 1000000000000000000000000000000)] 50 (by decide +kernel) (by unfold PairsIn; decide) (by decide) (by decide) (by decide) (by decide), tF]
  nofun
  refine ⟨Nat.le_of_ble_eq_true rfl, Nat.le_of_ble_eq_true rfl, ?_⟩
  nofun
  refine ⟨Nat.le_of_ble_eq_true rfl, ?_⟩
  nofun
  refine ⟨⟨by decide, by decide, Nat.le_of_ble_eq_true rfl⟩, ?_⟩
  nofun
  refine ⟨by decide +kernel, by decide +kernel, ?_⟩
  rw [show PyData.eqv (PyData.list [PyData.str "fine", PyData.str "fine", PyData.str "fine"]) (PyData.list [PyData.str "fine", PyData.str "fine", PyData.str "fine"]) = true by decide +kernel]
  exact q _ hb
theorem ok_law_right {Pg : Program} {w : World} {K : PySem.W.Frag} {mg : Str → Option Value} {base : Heap} {f : Addr} {fd : FuncData} (Fu : Fun K "_law_right" "_law_right" s_law_right f fd) (G : Facts mg) (O : Objs K mg) (D__law_pick : Df Pg w K mg base 1 "_law_pick" (spB K mg sp_law_pick)) (D__law_bad_integers : Df Pg w K mg base 1 "_law_bad_integers" (spZ K mg sp_law_bad_integers)) (D__law_told : Df Pg w K mg base 5 "_law_told" (spZ K mg sp_law_told)) : FnP Pg w K mg base 6 f fd ["bag"] (spB K mg sp_law_right) :=
  okB (N := N_law_right) (t := t_law_right) Fu sc_law_right ln_law_right (fun cdv A outer s H E Z0 C => dv_law_right G O D__law_pick D__law_bad_integers D__law_told cdv A outer s H E Z0 C) rd_law_right
/-! #### law -/
def sp_law : ZSp := fun ds Q _ => ∃ ns : List Int, ds = [.fls (ns.map D.int)] ∧ ns.length ≤ 63 ∧ Q (.sh (.bl true))
def t_law : ZS := zSeq (zFor (zItS (zFD (zCat (zFD (zSlice (zVarV 0) zNoPart (zPart (zC (.int 6))))) (zFD (zLst (zCons (zC (.int 0)) (zNil))))))) (gzName 1) (zSeq (zSetF (zCallF sp_law_bag eF (zCons (zVar 1) (zNil))) 2) (
  zIfS (zNotT (zB (zCallB 2 sp_law_right (zNil)))) (zRet (zC (.bl false))) (zNext)))) (
  zRet (zC (.bl true)))
theorem dv_law {Pg : Program} {w : World} {K : PySem.W.Frag} {mg : Str → Option Value} {base : Heap} {f : Addr} (G : Facts mg) (O : Objs K mg) (D__law_bag : Df Pg w K mg base 1 "_law_bag" (spZ K mg sp_law_bag)) (D__law_right : Df Pg w K mg base 6 "_law_right" (spB K mg sp_law_right)) (cdv : Value) (A : Around) (outer : List Env) (s : Shared) (H : Hp) (E : XK) (Z0 : Zc) (nb : NoBag (Sup Z0)) (C : Cd 6 (cxOf (L2.CX Pg w) Pg w K mg base N_law "law" (defScope s_law) f cdv A outer s H E) (Sup Z0)) :
    PSsd (cxOf (L2.CX Pg w) Pg w K mg base N_law "law" (defScope s_law) f cdv A outer s H E) (Sup Z0) (defBody s_law) t_law :=
  (ssd_cons (sd_for C.po C.calm (id_seq (pf_cat (pf_slice (pv_var 0) od_none (od_some pd_int)).pd (pf_lst (ad_cons pd_int ad_nil)).pd).pd) (gd_name (i := 1) (nb.s 1) C.nd) (ssd_cons (sd_setF (i := 2) (nb.s 2) C.nd (df_call D__law_bag C (by rfl) eF ez0 (ad_cons (pd_var 1 (nb.s 1)) ad_nil)))
    (ssd_one (sd_if (td_not (pt_b (dd_callB (i := 2) D__law_right C (by rfl) ad_nil))) (ssd_one (sd_ret pd_bl)) ssd_nil))))
    (ssd_one (sd_ret pd_bl)))
--% reads
theorem ln_law : ∀ ds Qz Ez, sp_law ds Qz Ez → ds.length = 1 := by
  rintro ds Q E ⟨_, rfl, _⟩
  rfl
theorem rd_law : ∀ ds Qz (Ez : Str → Option (Str × D) → Prop), sp_law ds Qz Ez → t_law { nx := fun _ => Qz (.sh .non), rt := fun r _ => Qz r } (startS N_law ds) := by
  rintro ds Q E ⟨ns, rfl, hl, q⟩
  nofun
  have ct : ∃ ks : List Int, Zz.cutD (ns.map D.int) none (some 6) ++ [D.int 0] = ks.map D.int ∧ (Zz.cutD (ns.map D.int) none (some 6)).length ≤ 6 := by
    rw [show (6 : Int) = ((6 : Nat) : Int) from rfl, cut_to, ← List.map_take]
    exact ⟨ns.take 6 ++ [0], by rw [List.map_append]; rfl, by rw [List.length_map, List.length_take]; omega⟩
  obtain ⟨ks, hk, hkl⟩ := ct
  refine ⟨Nat.le_of_ble_eq_true rfl, by rw [sizeLine_eq]; simp at hkl ⊢; omega, ?_⟩
  rw [hk]
  clear hk hkl
  refine forz_ind (fun _ S => ∃ x y, S = [.sh (.fls (ns.map D.int)), x, y]) ⟨_, _, rfl⟩ ?_ ?_
  · rintro i d S hd ⟨x, y, rfl⟩ K hK
    obtain ⟨c, _, rfl⟩ := map_get hd
    nofun
    intro bs hb
    nofun
    refine ⟨100, hb.le (by omega), rfl, fun bs hb => ?_⟩
    nofun
    exact hK _ ⟨_, _, rfl⟩
  · rintro S ⟨x, y, rfl⟩
    nofun
    exact q
theorem ok_law {Pg : Program} {w : World} {K : PySem.W.Frag} {mg : Str → Option Value} {base : Heap} {f : Addr} {fd : FuncData} (Fu : Fun K "law" "law" s_law f fd) (G : Facts mg) (O : Objs K mg) (D__law_bag : Df Pg w K mg base 1 "_law_bag" (spZ K mg sp_law_bag)) (D__law_right : Df Pg w K mg base 6 "_law_right" (spB K mg sp_law_right)) : FnP Pg w K mg base 7 f fd ["script"] (spZ K mg sp_law) :=
  okZ (N := N_law) (t := fun _ => t_law) Fu sc_law ln_law (fun cdv A outer s H E Z0 nb C => dv_law G O D__law_bag D__law_right cdv A outer s H E Z0 nb C) rd_law
theorem hsp : ∀ ns : List Int, ns.length ≤ 63 → sp_law [.fls (ns.map D.int)] (fun r => r = .sh (.bl true)) fun _ _ => False := fun ns h => ⟨ns, rfl, h, rfl⟩
theorem all_mk {w : World} {K : PySem.W.Frag} {h : Heap} {mg : Str → Option Value} {fa : Addr} (X : K.In h) (N : h.Ns mainGlobals mg) (hfa : mg "law" = some (.ref fa))
    (hn0 : PySem.W.specialIn K (.builtin "object.__class__") "__get__" = some (some (.builtin "getset_descriptor.__get__"))) (htk0 : PySem.W.takesIn K (.builtin "object.__class__") = some true)
    {C_PageError : Addr} (aC_PageError : PySem.W.nsIn K mainGlobals "PageError" = some (some (.ref C_PageError))) (ga_PageError : PySem.W.findIn K (.ref C_PageError) "__getattribute__" = some (some (.builtin "BaseException.__getattribute__"))) (gg_PageError : PySem.W.findIn K (.ref C_PageError) "__getattr__" = some none) (sb_PageError : PySem.W.subIn K (.ref C_PageError) (.type "BaseException") = some true) (hd_PageError : PySem.W.hasDictIn K C_PageError = true)
    (ha_PageError : PySem.W.findIn K (.ref C_PageError) "__class__" = some (some (.builtin "object.__class__"))) (hm_PageError : PySem.W.mroIn K C_PageError (.type "object") = some true) (ty_PageError : PySem.W.typeIn K (.ref C_PageError) = some (.type "type")) {cd_PageError : ClassData} (cl_PageError : PySem.W.clsIn K C_PageError = some cd_PageError) (mr_PageError : cd_PageError.mro = [.ref C_PageError, .type "ValueError", .type "Exception", .type "BaseException", .type "object"])
    {C_InvalidRule : Addr} (aC_InvalidRule : PySem.W.nsIn K mainGlobals "InvalidRule" = some (some (.ref C_InvalidRule))) (ga_InvalidRule : PySem.W.findIn K (.ref C_InvalidRule) "__getattribute__" = some (some (.builtin "BaseException.__getattribute__"))) (gg_InvalidRule : PySem.W.findIn K (.ref C_InvalidRule) "__getattr__" = some none) (sb_InvalidRule : PySem.W.subIn K (.ref C_InvalidRule) (.type "BaseException") = some true) (hd_InvalidRule : PySem.W.hasDictIn K C_InvalidRule = true)
    (ha_InvalidRule : PySem.W.findIn K (.ref C_InvalidRule) "__class__" = some (some (.builtin "object.__class__"))) (hm_InvalidRule : PySem.W.mroIn K C_InvalidRule (.type "object") = some true) (ty_InvalidRule : PySem.W.typeIn K (.ref C_InvalidRule) = some (.type "type")) {cd_InvalidRule : ClassData} (cl_InvalidRule : PySem.W.clsIn K C_InvalidRule = some cd_InvalidRule) (mr_InvalidRule : cd_InvalidRule.mro = [.ref C_InvalidRule, .ref C_PageError, .type "ValueError", .type "Exception", .type "BaseException", .type "object"])
    {C_InvalidLevels : Addr} (aC_InvalidLevels : PySem.W.nsIn K mainGlobals "InvalidLevels" = some (some (.ref C_InvalidLevels))) (ga_InvalidLevels : PySem.W.findIn K (.ref C_InvalidLevels) "__getattribute__" = some (some (.builtin "BaseException.__getattribute__"))) (gg_InvalidLevels : PySem.W.findIn K (.ref C_InvalidLevels) "__getattr__" = some none) (sb_InvalidLevels : PySem.W.subIn K (.ref C_InvalidLevels) (.type "BaseException") = some true) (hd_InvalidLevels : PySem.W.hasDictIn K C_InvalidLevels = true)
    (ha_InvalidLevels : PySem.W.findIn K (.ref C_InvalidLevels) "__class__" = some (some (.builtin "object.__class__"))) (hm_InvalidLevels : PySem.W.mroIn K C_InvalidLevels (.type "object") = some true) (ty_InvalidLevels : PySem.W.typeIn K (.ref C_InvalidLevels) = some (.type "type")) {cd_InvalidLevels : ClassData} (cl_InvalidLevels : PySem.W.clsIn K C_InvalidLevels = some cd_InvalidLevels) (mr_InvalidLevels : cd_InvalidLevels.mro = [.ref C_InvalidLevels, .ref C_PageError, .type "ValueError", .type "Exception", .type "BaseException", .type "object"])
    {C_InvalidScript : Addr} (aC_InvalidScript : PySem.W.nsIn K mainGlobals "InvalidScript" = some (some (.ref C_InvalidScript))) (ga_InvalidScript : PySem.W.findIn K (.ref C_InvalidScript) "__getattribute__" = some (some (.builtin "BaseException.__getattribute__"))) (gg_InvalidScript : PySem.W.findIn K (.ref C_InvalidScript) "__getattr__" = some none) (sb_InvalidScript : PySem.W.subIn K (.ref C_InvalidScript) (.type "BaseException") = some true) (hd_InvalidScript : PySem.W.hasDictIn K C_InvalidScript = true)
    (ha_InvalidScript : PySem.W.findIn K (.ref C_InvalidScript) "__class__" = some (some (.builtin "object.__class__"))) (hm_InvalidScript : PySem.W.mroIn K C_InvalidScript (.type "object") = some true) (ty_InvalidScript : PySem.W.typeIn K (.ref C_InvalidScript) = some (.type "type")) {cd_InvalidScript : ClassData} (cl_InvalidScript : PySem.W.clsIn K C_InvalidScript = some cd_InvalidScript) (mr_InvalidScript : cd_InvalidScript.mro = [.ref C_InvalidScript, .ref C_PageError, .type "ValueError", .type "Exception", .type "BaseException", .type "object"])
    {C_InvalidRuns : Addr} (aC_InvalidRuns : PySem.W.nsIn K mainGlobals "InvalidRuns" = some (some (.ref C_InvalidRuns))) (ga_InvalidRuns : PySem.W.findIn K (.ref C_InvalidRuns) "__getattribute__" = some (some (.builtin "BaseException.__getattribute__"))) (gg_InvalidRuns : PySem.W.findIn K (.ref C_InvalidRuns) "__getattr__" = some none) (sb_InvalidRuns : PySem.W.subIn K (.ref C_InvalidRuns) (.type "BaseException") = some true) (hd_InvalidRuns : PySem.W.hasDictIn K C_InvalidRuns = true)
    (ha_InvalidRuns : PySem.W.findIn K (.ref C_InvalidRuns) "__class__" = some (some (.builtin "object.__class__"))) (hm_InvalidRuns : PySem.W.mroIn K C_InvalidRuns (.type "object") = some true) (ty_InvalidRuns : PySem.W.typeIn K (.ref C_InvalidRuns) = some (.type "type")) {cd_InvalidRuns : ClassData} (cl_InvalidRuns : PySem.W.clsIn K C_InvalidRuns = some cd_InvalidRuns) (mr_InvalidRuns : cd_InvalidRuns.mro = [.ref C_InvalidRuns, .ref C_PageError, .type "ValueError", .type "Exception", .type "BaseException", .type "object"])
    {C_InvalidSeen : Addr} (aC_InvalidSeen : PySem.W.nsIn K mainGlobals "InvalidSeen" = some (some (.ref C_InvalidSeen))) (ga_InvalidSeen : PySem.W.findIn K (.ref C_InvalidSeen) "__getattribute__" = some (some (.builtin "BaseException.__getattribute__"))) (gg_InvalidSeen : PySem.W.findIn K (.ref C_InvalidSeen) "__getattr__" = some none) (sb_InvalidSeen : PySem.W.subIn K (.ref C_InvalidSeen) (.type "BaseException") = some true) (hd_InvalidSeen : PySem.W.hasDictIn K C_InvalidSeen = true)
    (ha_InvalidSeen : PySem.W.findIn K (.ref C_InvalidSeen) "__class__" = some (some (.builtin "object.__class__"))) (hm_InvalidSeen : PySem.W.mroIn K C_InvalidSeen (.type "object") = some true) (ty_InvalidSeen : PySem.W.typeIn K (.ref C_InvalidSeen) = some (.type "type")) {cd_InvalidSeen : ClassData} (cl_InvalidSeen : PySem.W.clsIn K C_InvalidSeen = some cd_InvalidSeen) (mr_InvalidSeen : cd_InvalidSeen.mro = [.ref C_InvalidSeen, .ref C_PageError, .type "ValueError", .type "Exception", .type "BaseException", .type "object"])
    {nm_InvalidSeen q_InvalidSeen : Str} {N_InvalidSeen : Addr} {bs_InvalidSeen bm_InvalidSeen : List Value} {sn_InvalidSeen : List Str} {su_InvalidSeen : List Value} {ab_InvalidSeen : Bool} {co_InvalidSeen : Option Bool} {dd_InvalidSeen : Option Addr} {m0_InvalidSeen m1_InvalidSeen m2_InvalidSeen m3_InvalidSeen m5_InvalidSeen : Option Value}
    (xl_InvalidSeen : K.lookup C_InvalidSeen = some (excClassObj nm_InvalidSeen q_InvalidSeen C_InvalidSeen N_InvalidSeen bs_InvalidSeen bm_InvalidSeen true sn_InvalidSeen su_InvalidSeen ab_InvalidSeen co_InvalidSeen dd_InvalidSeen m0_InvalidSeen m1_InvalidSeen m2_InvalidSeen m3_InvalidSeen m5_InvalidSeen "ValueError.__new__")) (rv_InvalidSeen : PySem.HandSPX.refsVE bm_InvalidSeen = true) (sa_InvalidSeen : PySem.W.findIn K (.ref C_InvalidSeen) "__setattr__" = some (some (.builtin "object.__setattr__"))) (kc_InvalidSeen : PySem.W.keepIn K (.ref C_InvalidSeen) = true)
    {fe_InvalidSeen : Addr} (ie_InvalidSeen : PySem.W.findIn K (.ref C_InvalidSeen) "__init__" = some (some (.ref fe_InvalidSeen))) (te_InvalidSeen : PySem.W.typeIn K (.ref fe_InvalidSeen) = some (.type "function")) (ne_InvalidSeen : PySem.W.findIn K (.ref C_InvalidSeen) "item" = some none)
    {od_InvalidSeen an_InvalidSeen : Option Addr} {sl_InvalidSeen : Array (Option Value)} {ow_InvalidSeen kV_InvalidSeen dc_InvalidSeen pm_InvalidSeen cv_InvalidSeen ct_InvalidSeen : Value} (l_InvalidSeen : K.lookup fe_InvalidSeen = some ⟨ow_InvalidSeen, od_InvalidSeen, .func (PySem.W.fnOf "__init__" "InvalidSeen.__init__" (defArgs s_InvalidSeen_init) (defBody s_InvalidSeen_init) (defScope s_InvalidSeen_init) .none kV_InvalidSeen dc_InvalidSeen pm_InvalidSeen an_InvalidSeen cv_InvalidSeen ct_InvalidSeen), sl_InvalidSeen⟩) (c_InvalidSeen : PySem.W.codeIn K cv_InvalidSeen "InvalidSeen.__init__" = true) (ke_InvalidSeen : PySem.W.keepIn K (.ref fe_InvalidSeen) = true)
    {C_InvalidText : Addr} (aC_InvalidText : PySem.W.nsIn K mainGlobals "InvalidText" = some (some (.ref C_InvalidText))) (ga_InvalidText : PySem.W.findIn K (.ref C_InvalidText) "__getattribute__" = some (some (.builtin "BaseException.__getattribute__"))) (gg_InvalidText : PySem.W.findIn K (.ref C_InvalidText) "__getattr__" = some none) (sb_InvalidText : PySem.W.subIn K (.ref C_InvalidText) (.type "BaseException") = some true) (hd_InvalidText : PySem.W.hasDictIn K C_InvalidText = true)
    (ha_InvalidText : PySem.W.findIn K (.ref C_InvalidText) "__class__" = some (some (.builtin "object.__class__"))) (hm_InvalidText : PySem.W.mroIn K C_InvalidText (.type "object") = some true) (ty_InvalidText : PySem.W.typeIn K (.ref C_InvalidText) = some (.type "type")) {cd_InvalidText : ClassData} (cl_InvalidText : PySem.W.clsIn K C_InvalidText = some cd_InvalidText) (mr_InvalidText : cd_InvalidText.mro = [.ref C_InvalidText, .ref C_PageError, .type "ValueError", .type "Exception", .type "BaseException", .type "object"])
    {C_OverBudget : Addr} (aC_OverBudget : PySem.W.nsIn K mainGlobals "OverBudget" = some (some (.ref C_OverBudget))) (ga_OverBudget : PySem.W.findIn K (.ref C_OverBudget) "__getattribute__" = some (some (.builtin "BaseException.__getattribute__"))) (gg_OverBudget : PySem.W.findIn K (.ref C_OverBudget) "__getattr__" = some none) (sb_OverBudget : PySem.W.subIn K (.ref C_OverBudget) (.type "BaseException") = some true) (hd_OverBudget : PySem.W.hasDictIn K C_OverBudget = true)
    (ha_OverBudget : PySem.W.findIn K (.ref C_OverBudget) "__class__" = some (some (.builtin "object.__class__"))) (hm_OverBudget : PySem.W.mroIn K C_OverBudget (.type "object") = some true) (ty_OverBudget : PySem.W.typeIn K (.ref C_OverBudget) = some (.type "type")) {cd_OverBudget : ClassData} (cl_OverBudget : PySem.W.clsIn K C_OverBudget = some cd_OverBudget) (mr_OverBudget : cd_OverBudget.mro = [.ref C_OverBudget, .ref C_PageError, .type "ValueError", .type "Exception", .type "BaseException", .type "object"])
    {C_InvalidIndex : Addr} (aC_InvalidIndex : PySem.W.nsIn K mainGlobals "InvalidIndex" = some (some (.ref C_InvalidIndex))) (ga_InvalidIndex : PySem.W.findIn K (.ref C_InvalidIndex) "__getattribute__" = some (some (.builtin "BaseException.__getattribute__"))) (gg_InvalidIndex : PySem.W.findIn K (.ref C_InvalidIndex) "__getattr__" = some none) (sb_InvalidIndex : PySem.W.subIn K (.ref C_InvalidIndex) (.type "BaseException") = some true) (hd_InvalidIndex : PySem.W.hasDictIn K C_InvalidIndex = true)
    (ha_InvalidIndex : PySem.W.findIn K (.ref C_InvalidIndex) "__class__" = some (some (.builtin "object.__class__"))) (hm_InvalidIndex : PySem.W.mroIn K C_InvalidIndex (.type "object") = some true) (ty_InvalidIndex : PySem.W.typeIn K (.ref C_InvalidIndex) = some (.type "type")) {cd_InvalidIndex : ClassData} (cl_InvalidIndex : PySem.W.clsIn K C_InvalidIndex = some cd_InvalidIndex) (mr_InvalidIndex : cd_InvalidIndex.mro = [.ref C_InvalidIndex, .ref C_PageError, .type "ValueError", .type "Exception", .type "BaseException", .type "object"])
    {C_InvalidKind : Addr} (aC_InvalidKind : PySem.W.nsIn K mainGlobals "InvalidKind" = some (some (.ref C_InvalidKind))) (ga_InvalidKind : PySem.W.findIn K (.ref C_InvalidKind) "__getattribute__" = some (some (.builtin "BaseException.__getattribute__"))) (gg_InvalidKind : PySem.W.findIn K (.ref C_InvalidKind) "__getattr__" = some none) (sb_InvalidKind : PySem.W.subIn K (.ref C_InvalidKind) (.type "BaseException") = some true) (hd_InvalidKind : PySem.W.hasDictIn K C_InvalidKind = true)
    (ha_InvalidKind : PySem.W.findIn K (.ref C_InvalidKind) "__class__" = some (some (.builtin "object.__class__"))) (hm_InvalidKind : PySem.W.mroIn K C_InvalidKind (.type "object") = some true) (ty_InvalidKind : PySem.W.typeIn K (.ref C_InvalidKind) = some (.type "type")) {cd_InvalidKind : ClassData} (cl_InvalidKind : PySem.W.clsIn K C_InvalidKind = some cd_InvalidKind) (mr_InvalidKind : cd_InvalidKind.mro = [.ref C_InvalidKind, .ref C_PageError, .type "ValueError", .type "Exception", .type "BaseException", .type "object"])
    (ex_InvalidKind : PySem.W.excIn K C_InvalidKind [.type "ValueError", .type "Exception", .type "BaseException", .type "object"] "ValueError.__new__" = true) (kc_InvalidKind : PySem.W.keepIn K (.ref C_InvalidKind) = true)
    {C_InvalidGap : Addr} (aC_InvalidGap : PySem.W.nsIn K mainGlobals "InvalidGap" = some (some (.ref C_InvalidGap))) (ga_InvalidGap : PySem.W.findIn K (.ref C_InvalidGap) "__getattribute__" = some (some (.builtin "BaseException.__getattribute__"))) (gg_InvalidGap : PySem.W.findIn K (.ref C_InvalidGap) "__getattr__" = some none) (sb_InvalidGap : PySem.W.subIn K (.ref C_InvalidGap) (.type "BaseException") = some true) (hd_InvalidGap : PySem.W.hasDictIn K C_InvalidGap = true)
    (ha_InvalidGap : PySem.W.findIn K (.ref C_InvalidGap) "__class__" = some (some (.builtin "object.__class__"))) (hm_InvalidGap : PySem.W.mroIn K C_InvalidGap (.type "object") = some true) (ty_InvalidGap : PySem.W.typeIn K (.ref C_InvalidGap) = some (.type "type")) {cd_InvalidGap : ClassData} (cl_InvalidGap : PySem.W.clsIn K C_InvalidGap = some cd_InvalidGap) (mr_InvalidGap : cd_InvalidGap.mro = [.ref C_InvalidGap, .ref C_PageError, .type "ValueError", .type "Exception", .type "BaseException", .type "object"])
    {C_InvalidNumber : Addr} (aC_InvalidNumber : PySem.W.nsIn K mainGlobals "InvalidNumber" = some (some (.ref C_InvalidNumber))) (ga_InvalidNumber : PySem.W.findIn K (.ref C_InvalidNumber) "__getattribute__" = some (some (.builtin "BaseException.__getattribute__"))) (gg_InvalidNumber : PySem.W.findIn K (.ref C_InvalidNumber) "__getattr__" = some none) (sb_InvalidNumber : PySem.W.subIn K (.ref C_InvalidNumber) (.type "BaseException") = some true) (hd_InvalidNumber : PySem.W.hasDictIn K C_InvalidNumber = true)
    (ha_InvalidNumber : PySem.W.findIn K (.ref C_InvalidNumber) "__class__" = some (some (.builtin "object.__class__"))) (hm_InvalidNumber : PySem.W.mroIn K C_InvalidNumber (.type "object") = some true) (ty_InvalidNumber : PySem.W.typeIn K (.ref C_InvalidNumber) = some (.type "type")) {cd_InvalidNumber : ClassData} (cl_InvalidNumber : PySem.W.clsIn K C_InvalidNumber = some cd_InvalidNumber) (mr_InvalidNumber : cd_InvalidNumber.mro = [.ref C_InvalidNumber, .ref C_PageError, .type "ValueError", .type "Exception", .type "BaseException", .type "object"])
    (ex_InvalidNumber : PySem.W.excIn K C_InvalidNumber [.type "ValueError", .type "Exception", .type "BaseException", .type "object"] "ValueError.__new__" = true) (kc_InvalidNumber : PySem.W.keepIn K (.ref C_InvalidNumber) = true)
    {C_InvalidLevel : Addr} (aC_InvalidLevel : PySem.W.nsIn K mainGlobals "InvalidLevel" = some (some (.ref C_InvalidLevel))) (ga_InvalidLevel : PySem.W.findIn K (.ref C_InvalidLevel) "__getattribute__" = some (some (.builtin "BaseException.__getattribute__"))) (gg_InvalidLevel : PySem.W.findIn K (.ref C_InvalidLevel) "__getattr__" = some none) (sb_InvalidLevel : PySem.W.subIn K (.ref C_InvalidLevel) (.type "BaseException") = some true) (hd_InvalidLevel : PySem.W.hasDictIn K C_InvalidLevel = true)
    (ha_InvalidLevel : PySem.W.findIn K (.ref C_InvalidLevel) "__class__" = some (some (.builtin "object.__class__"))) (hm_InvalidLevel : PySem.W.mroIn K C_InvalidLevel (.type "object") = some true) (ty_InvalidLevel : PySem.W.typeIn K (.ref C_InvalidLevel) = some (.type "type")) {cd_InvalidLevel : ClassData} (cl_InvalidLevel : PySem.W.clsIn K C_InvalidLevel = some cd_InvalidLevel) (mr_InvalidLevel : cd_InvalidLevel.mro = [.ref C_InvalidLevel, .ref C_PageError, .type "ValueError", .type "Exception", .type "BaseException", .type "object"])
    {C_InvalidPage : Addr} (aC_InvalidPage : PySem.W.nsIn K mainGlobals "InvalidPage" = some (some (.ref C_InvalidPage))) (ga_InvalidPage : PySem.W.findIn K (.ref C_InvalidPage) "__getattribute__" = some (some (.builtin "BaseException.__getattribute__"))) (gg_InvalidPage : PySem.W.findIn K (.ref C_InvalidPage) "__getattr__" = some none) (sb_InvalidPage : PySem.W.subIn K (.ref C_InvalidPage) (.type "BaseException") = some true) (hd_InvalidPage : PySem.W.hasDictIn K C_InvalidPage = true)
    (ha_InvalidPage : PySem.W.findIn K (.ref C_InvalidPage) "__class__" = some (some (.builtin "object.__class__"))) (hm_InvalidPage : PySem.W.mroIn K C_InvalidPage (.type "object") = some true) (ty_InvalidPage : PySem.W.typeIn K (.ref C_InvalidPage) = some (.type "type")) {cd_InvalidPage : ClassData} (cl_InvalidPage : PySem.W.clsIn K C_InvalidPage = some cd_InvalidPage) (mr_InvalidPage : cd_InvalidPage.mro = [.ref C_InvalidPage, .ref C_PageError, .type "ValueError", .type "Exception", .type "BaseException", .type "object"])
    {C_InvalidEntry : Addr} (aC_InvalidEntry : PySem.W.nsIn K mainGlobals "InvalidEntry" = some (some (.ref C_InvalidEntry))) (ga_InvalidEntry : PySem.W.findIn K (.ref C_InvalidEntry) "__getattribute__" = some (some (.builtin "BaseException.__getattribute__"))) (gg_InvalidEntry : PySem.W.findIn K (.ref C_InvalidEntry) "__getattr__" = some none) (sb_InvalidEntry : PySem.W.subIn K (.ref C_InvalidEntry) (.type "BaseException") = some true) (hd_InvalidEntry : PySem.W.hasDictIn K C_InvalidEntry = true)
    (ha_InvalidEntry : PySem.W.findIn K (.ref C_InvalidEntry) "__class__" = some (some (.builtin "object.__class__"))) (hm_InvalidEntry : PySem.W.mroIn K C_InvalidEntry (.type "object") = some true) (ty_InvalidEntry : PySem.W.typeIn K (.ref C_InvalidEntry) = some (.type "type")) {cd_InvalidEntry : ClassData} (cl_InvalidEntry : PySem.W.clsIn K C_InvalidEntry = some cd_InvalidEntry) (mr_InvalidEntry : cd_InvalidEntry.mro = [.ref C_InvalidEntry, .ref C_PageError, .type "ValueError", .type "Exception", .type "BaseException", .type "object"])
    {C_InvalidLength : Addr} (aC_InvalidLength : PySem.W.nsIn K mainGlobals "InvalidLength" = some (some (.ref C_InvalidLength))) (ga_InvalidLength : PySem.W.findIn K (.ref C_InvalidLength) "__getattribute__" = some (some (.builtin "BaseException.__getattribute__"))) (gg_InvalidLength : PySem.W.findIn K (.ref C_InvalidLength) "__getattr__" = some none) (sb_InvalidLength : PySem.W.subIn K (.ref C_InvalidLength) (.type "BaseException") = some true) (hd_InvalidLength : PySem.W.hasDictIn K C_InvalidLength = true)
    (ha_InvalidLength : PySem.W.findIn K (.ref C_InvalidLength) "__class__" = some (some (.builtin "object.__class__"))) (hm_InvalidLength : PySem.W.mroIn K C_InvalidLength (.type "object") = some true) (ty_InvalidLength : PySem.W.typeIn K (.ref C_InvalidLength) = some (.type "type")) {cd_InvalidLength : ClassData} (cl_InvalidLength : PySem.W.clsIn K C_InvalidLength = some cd_InvalidLength) (mr_InvalidLength : cd_InvalidLength.mro = [.ref C_InvalidLength, .ref C_PageError, .type "ValueError", .type "Exception", .type "BaseException", .type "object"])
    {C_InvalidHeight : Addr} (aC_InvalidHeight : PySem.W.nsIn K mainGlobals "InvalidHeight" = some (some (.ref C_InvalidHeight))) (ga_InvalidHeight : PySem.W.findIn K (.ref C_InvalidHeight) "__getattribute__" = some (some (.builtin "BaseException.__getattribute__"))) (gg_InvalidHeight : PySem.W.findIn K (.ref C_InvalidHeight) "__getattr__" = some none) (sb_InvalidHeight : PySem.W.subIn K (.ref C_InvalidHeight) (.type "BaseException") = some true) (hd_InvalidHeight : PySem.W.hasDictIn K C_InvalidHeight = true)
    (ha_InvalidHeight : PySem.W.findIn K (.ref C_InvalidHeight) "__class__" = some (some (.builtin "object.__class__"))) (hm_InvalidHeight : PySem.W.mroIn K C_InvalidHeight (.type "object") = some true) (ty_InvalidHeight : PySem.W.typeIn K (.ref C_InvalidHeight) = some (.type "type")) {cd_InvalidHeight : ClassData} (cl_InvalidHeight : PySem.W.clsIn K C_InvalidHeight = some cd_InvalidHeight) (mr_InvalidHeight : cd_InvalidHeight.mro = [.ref C_InvalidHeight, .ref C_PageError, .type "ValueError", .type "Exception", .type "BaseException", .type "object"])
    {C_InvalidLeaves : Addr} (aC_InvalidLeaves : PySem.W.nsIn K mainGlobals "InvalidLeaves" = some (some (.ref C_InvalidLeaves))) (ga_InvalidLeaves : PySem.W.findIn K (.ref C_InvalidLeaves) "__getattribute__" = some (some (.builtin "BaseException.__getattribute__"))) (gg_InvalidLeaves : PySem.W.findIn K (.ref C_InvalidLeaves) "__getattr__" = some none) (sb_InvalidLeaves : PySem.W.subIn K (.ref C_InvalidLeaves) (.type "BaseException") = some true) (hd_InvalidLeaves : PySem.W.hasDictIn K C_InvalidLeaves = true)
    (ha_InvalidLeaves : PySem.W.findIn K (.ref C_InvalidLeaves) "__class__" = some (some (.builtin "object.__class__"))) (hm_InvalidLeaves : PySem.W.mroIn K C_InvalidLeaves (.type "object") = some true) (ty_InvalidLeaves : PySem.W.typeIn K (.ref C_InvalidLeaves) = some (.type "type")) {cd_InvalidLeaves : ClassData} (cl_InvalidLeaves : PySem.W.clsIn K C_InvalidLeaves = some cd_InvalidLeaves) (mr_InvalidLeaves : cd_InvalidLeaves.mro = [.ref C_InvalidLeaves, .ref C_PageError, .type "ValueError", .type "Exception", .type "BaseException", .type "object"])
    {C_InvalidBudget : Addr} (aC_InvalidBudget : PySem.W.nsIn K mainGlobals "InvalidBudget" = some (some (.ref C_InvalidBudget))) (ga_InvalidBudget : PySem.W.findIn K (.ref C_InvalidBudget) "__getattribute__" = some (some (.builtin "BaseException.__getattribute__"))) (gg_InvalidBudget : PySem.W.findIn K (.ref C_InvalidBudget) "__getattr__" = some none) (sb_InvalidBudget : PySem.W.subIn K (.ref C_InvalidBudget) (.type "BaseException") = some true) (hd_InvalidBudget : PySem.W.hasDictIn K C_InvalidBudget = true)
    (ha_InvalidBudget : PySem.W.findIn K (.ref C_InvalidBudget) "__class__" = some (some (.builtin "object.__class__"))) (hm_InvalidBudget : PySem.W.mroIn K C_InvalidBudget (.type "object") = some true) (ty_InvalidBudget : PySem.W.typeIn K (.ref C_InvalidBudget) = some (.type "type")) {cd_InvalidBudget : ClassData} (cl_InvalidBudget : PySem.W.clsIn K C_InvalidBudget = some cd_InvalidBudget) (mr_InvalidBudget : cd_InvalidBudget.mro = [.ref C_InvalidBudget, .ref C_PageError, .type "ValueError", .type "Exception", .type "BaseException", .type "object"])
    {C_UnlikeRules : Addr} (aC_UnlikeRules : PySem.W.nsIn K mainGlobals "UnlikeRules" = some (some (.ref C_UnlikeRules))) (ga_UnlikeRules : PySem.W.findIn K (.ref C_UnlikeRules) "__getattribute__" = some (some (.builtin "BaseException.__getattribute__"))) (gg_UnlikeRules : PySem.W.findIn K (.ref C_UnlikeRules) "__getattr__" = some none) (sb_UnlikeRules : PySem.W.subIn K (.ref C_UnlikeRules) (.type "BaseException") = some true) (hd_UnlikeRules : PySem.W.hasDictIn K C_UnlikeRules = true)
    (ha_UnlikeRules : PySem.W.findIn K (.ref C_UnlikeRules) "__class__" = some (some (.builtin "object.__class__"))) (hm_UnlikeRules : PySem.W.mroIn K C_UnlikeRules (.type "object") = some true) (ty_UnlikeRules : PySem.W.typeIn K (.ref C_UnlikeRules) = some (.type "type")) {cd_UnlikeRules : ClassData} (cl_UnlikeRules : PySem.W.clsIn K C_UnlikeRules = some cd_UnlikeRules) (mr_UnlikeRules : cd_UnlikeRules.mro = [.ref C_UnlikeRules, .ref C_PageError, .type "ValueError", .type "Exception", .type "BaseException", .type "object"])
    {C_InvalidOperation : Addr} (aC_InvalidOperation : PySem.W.nsIn K mainGlobals "InvalidOperation" = some (some (.ref C_InvalidOperation))) (ga_InvalidOperation : PySem.W.findIn K (.ref C_InvalidOperation) "__getattribute__" = some (some (.builtin "BaseException.__getattribute__"))) (gg_InvalidOperation : PySem.W.findIn K (.ref C_InvalidOperation) "__getattr__" = some none) (sb_InvalidOperation : PySem.W.subIn K (.ref C_InvalidOperation) (.type "BaseException") = some true) (hd_InvalidOperation : PySem.W.hasDictIn K C_InvalidOperation = true)
    (ha_InvalidOperation : PySem.W.findIn K (.ref C_InvalidOperation) "__class__" = some (some (.builtin "object.__class__"))) (hm_InvalidOperation : PySem.W.mroIn K C_InvalidOperation (.type "object") = some true) (ty_InvalidOperation : PySem.W.typeIn K (.ref C_InvalidOperation) = some (.type "type")) {cd_InvalidOperation : ClassData} (cl_InvalidOperation : PySem.W.clsIn K C_InvalidOperation = some cd_InvalidOperation) (mr_InvalidOperation : cd_InvalidOperation.mro = [.ref C_InvalidOperation, .ref C_PageError, .type "ValueError", .type "Exception", .type "BaseException", .type "object"])
    {C_Nothing : Addr} (aC_Nothing : PySem.W.nsIn K mainGlobals "Nothing" = some (some (.ref C_Nothing))) (ga_Nothing : PySem.W.findIn K (.ref C_Nothing) "__getattribute__" = some (some (.builtin "BaseException.__getattribute__"))) (gg_Nothing : PySem.W.findIn K (.ref C_Nothing) "__getattr__" = some none) (sb_Nothing : PySem.W.subIn K (.ref C_Nothing) (.type "BaseException") = some true) (hd_Nothing : PySem.W.hasDictIn K C_Nothing = true)
    (ha_Nothing : PySem.W.findIn K (.ref C_Nothing) "__class__" = some (some (.builtin "object.__class__"))) (hm_Nothing : PySem.W.mroIn K C_Nothing (.type "object") = some true) (ty_Nothing : PySem.W.typeIn K (.ref C_Nothing) = some (.type "type")) {cd_Nothing : ClassData} (cl_Nothing : PySem.W.clsIn K C_Nothing = some cd_Nothing) (mr_Nothing : cd_Nothing.mro = [.ref C_Nothing, .ref C_PageError, .type "ValueError", .type "Exception", .type "BaseException", .type "object"])
    {C_InvalidCommand : Addr} (aC_InvalidCommand : PySem.W.nsIn K mainGlobals "InvalidCommand" = some (some (.ref C_InvalidCommand))) (ga_InvalidCommand : PySem.W.findIn K (.ref C_InvalidCommand) "__getattribute__" = some (some (.builtin "BaseException.__getattribute__"))) (gg_InvalidCommand : PySem.W.findIn K (.ref C_InvalidCommand) "__getattr__" = some none) (sb_InvalidCommand : PySem.W.subIn K (.ref C_InvalidCommand) (.type "BaseException") = some true) (hd_InvalidCommand : PySem.W.hasDictIn K C_InvalidCommand = true)
    (ha_InvalidCommand : PySem.W.findIn K (.ref C_InvalidCommand) "__class__" = some (some (.builtin "object.__class__"))) (hm_InvalidCommand : PySem.W.mroIn K C_InvalidCommand (.type "object") = some true) (ty_InvalidCommand : PySem.W.typeIn K (.ref C_InvalidCommand) = some (.type "type")) {cd_InvalidCommand : ClassData} (cl_InvalidCommand : PySem.W.clsIn K C_InvalidCommand = some cd_InvalidCommand) (mr_InvalidCommand : cd_InvalidCommand.mro = [.ref C_InvalidCommand, .ref C_PageError, .type "ValueError", .type "Exception", .type "BaseException", .type "object"])
    (ne_InvalidRule : PySem.W.findIn K (.ref C_InvalidRule) "item" = some none)
    (ne_InvalidRuns : PySem.W.findIn K (.ref C_InvalidRuns) "item" = some none)
    (nd_errs : ([C_PageError, C_InvalidRule, C_InvalidLevels, C_InvalidScript, C_InvalidRuns, C_InvalidSeen, C_InvalidText, C_OverBudget, C_InvalidIndex, C_InvalidKind, C_InvalidGap, C_InvalidNumber, C_InvalidLevel, C_InvalidPage, C_InvalidEntry, C_InvalidLength, C_InvalidHeight, C_InvalidLeaves, C_InvalidBudget, C_UnlikeRules, C_InvalidOperation, C_Nothing, C_InvalidCommand] : List Addr).Nodup)
    {f0 : Addr} {od0 an0 : Option Addr} {sl0 : Array (Option Value)} {oc0 kV0 dc0 pm0 cd0 ct0 : Value}
    (a0 : PySem.W.nsIn K mainGlobals "is_int" = some (some (.ref f0))) (l0 : K.lookup f0 = some ⟨oc0, od0, .func (PySem.W.fnOf "is_int" "is_int" (defArgs s_is_int) (defBody s_is_int) (defScope s_is_int) .none kV0 dc0 pm0 an0 cd0 ct0), sl0⟩) (c0 : PySem.W.codeIn K cd0 "is_int" = true) (k0 : PySem.W.keepIn K (.ref f0) = true)
    {f1 : Addr} {od1 an1 : Option Addr} {sl1 : Array (Option Value)} {oc1 kV1 dc1 pm1 cd1 ct1 : Value}
    (a1 : PySem.W.nsIn K mainGlobals "is_whole" = some (some (.ref f1))) (l1 : K.lookup f1 = some ⟨oc1, od1, .func (PySem.W.fnOf "is_whole" "is_whole" (defArgs s_is_whole) (defBody s_is_whole) (defScope s_is_whole) .none kV1 dc1 pm1 an1 cd1 ct1), sl1⟩) (c1 : PySem.W.codeIn K cd1 "is_whole" = true) (k1 : PySem.W.keepIn K (.ref f1) = true)
    {f2 : Addr} {od2 an2 : Option Addr} {sl2 : Array (Option Value)} {oc2 kV2 dc2 pm2 cd2 ct2 : Value}
    (a2 : PySem.W.nsIn K mainGlobals "require_load_kind" = some (some (.ref f2))) (l2 : K.lookup f2 = some ⟨oc2, od2, .func (PySem.W.fnOf "require_load_kind" "require_load_kind" (defArgs s_require_load_kind) (defBody s_require_load_kind) (defScope s_require_load_kind) .none kV2 dc2 pm2 an2 cd2 ct2), sl2⟩) (c2 : PySem.W.codeIn K cd2 "require_load_kind" = true) (k2 : PySem.W.keepIn K (.ref f2) = true)
    {f3 : Addr} {od3 an3 : Option Addr} {sl3 : Array (Option Value)} {oc3 kV3 dc3 pm3 cd3 ct3 : Value}
    (a3 : PySem.W.nsIn K mainGlobals "require_seen" = some (some (.ref f3))) (l3 : K.lookup f3 = some ⟨oc3, od3, .func (PySem.W.fnOf "require_seen" "require_seen" (defArgs s_require_seen) (defBody s_require_seen) (defScope s_require_seen) .none kV3 dc3 pm3 an3 cd3 ct3), sl3⟩) (c3 : PySem.W.codeIn K cd3 "require_seen" = true) (k3 : PySem.W.keepIn K (.ref f3) = true)
    {f4 : Addr} {od4 an4 : Option Addr} {sl4 : Array (Option Value)} {oc4 kV4 dc4 pm4 cd4 ct4 : Value}
    (a4 : PySem.W.nsIn K mainGlobals "steps_within" = some (some (.ref f4))) (l4 : K.lookup f4 = some ⟨oc4, od4, .func (PySem.W.fnOf "steps_within" "steps_within" (defArgs s_steps_within) (defBody s_steps_within) (defScope s_steps_within) .none kV4 dc4 pm4 an4 cd4 ct4), sl4⟩) (c4 : PySem.W.codeIn K cd4 "steps_within" = true) (k4 : PySem.W.keepIn K (.ref f4) = true)
    {f5 : Addr} {od5 an5 : Option Addr} {sl5 : Array (Option Value)} {oc5 kV5 dc5 pm5 cd5 ct5 : Value}
    (a5 : PySem.W.nsIn K mainGlobals "fitting_rules" = some (some (.ref f5))) (l5 : K.lookup f5 = some ⟨oc5, od5, .func (PySem.W.fnOf "fitting_rules" "fitting_rules" (defArgs s_fitting_rules) (defBody s_fitting_rules) (defScope s_fitting_rules) .none kV5 dc5 pm5 an5 cd5 ct5), sl5⟩) (c5 : PySem.W.codeIn K cd5 "fitting_rules" = true) (k5 : PySem.W.keepIn K (.ref f5) = true)
    {f6 : Addr} {od6 an6 : Option Addr} {sl6 : Array (Option Value)} {oc6 kV6 dc6 pm6 cd6 ct6 : Value}
    (a6 : PySem.W.nsIn K mainGlobals "_law_bag" = some (some (.ref f6))) (l6 : K.lookup f6 = some ⟨oc6, od6, .func (PySem.W.fnOf "_law_bag" "_law_bag" (defArgs s_law_bag) (defBody s_law_bag) (defScope s_law_bag) .none kV6 dc6 pm6 an6 cd6 ct6), sl6⟩) (c6 : PySem.W.codeIn K cd6 "_law_bag" = true) (k6 : PySem.W.keepIn K (.ref f6) = true)
    {f7 : Addr} {od7 an7 : Option Addr} {sl7 : Array (Option Value)} {oc7 kV7 dc7 pm7 cd7 ct7 : Value}
    (a7 : PySem.W.nsIn K mainGlobals "_law_pick" = some (some (.ref f7))) (l7 : K.lookup f7 = some ⟨oc7, od7, .func (PySem.W.fnOf "_law_pick" "_law_pick" (defArgs s_law_pick) (defBody s_law_pick) (defScope s_law_pick) .none kV7 dc7 pm7 an7 cd7 ct7), sl7⟩) (c7 : PySem.W.codeIn K cd7 "_law_pick" = true) (k7 : PySem.W.keepIn K (.ref f7) = true)
    {f8 : Addr} {od8 an8 : Option Addr} {sl8 : Array (Option Value)} {oc8 kV8 dc8 pm8 cd8 ct8 : Value}
    (a8 : PySem.W.nsIn K mainGlobals "_law_class" = some (some (.ref f8))) (l8 : K.lookup f8 = some ⟨oc8, od8, .func (PySem.W.fnOf "_law_class" "_law_class" (defArgs s_law_class) (defBody s_law_class) (defScope s_law_class) .none kV8 dc8 pm8 an8 cd8 ct8), sl8⟩) (c8 : PySem.W.codeIn K cd8 "_law_class" = true) (k8 : PySem.W.keepIn K (.ref f8) = true)
    {f9 : Addr} {od9 an9 : Option Addr} {sl9 : Array (Option Value)} {oc9 kV9 dc9 pm9 cd9 ct9 : Value}
    (a9 : PySem.W.nsIn K mainGlobals "_law_bad_integers" = some (some (.ref f9))) (l9 : K.lookup f9 = some ⟨oc9, od9, .func (PySem.W.fnOf "_law_bad_integers" "_law_bad_integers" (defArgs s_law_bad_integers) (defBody s_law_bad_integers) (defScope s_law_bad_integers) .none kV9 dc9 pm9 an9 cd9 ct9), sl9⟩) (c9 : PySem.W.codeIn K cd9 "_law_bad_integers" = true) (k9 : PySem.W.keepIn K (.ref f9) = true)
    {f10 : Addr} {od10 an10 : Option Addr} {sl10 : Array (Option Value)} {oc10 kV10 dc10 pm10 cd10 ct10 : Value}
    (a10 : PySem.W.nsIn K mainGlobals "_law_told" = some (some (.ref f10))) (l10 : K.lookup f10 = some ⟨oc10, od10, .func (PySem.W.fnOf "_law_told" "_law_told" (defArgs s_law_told) (defBody s_law_told) (defScope s_law_told) .none kV10 dc10 pm10 an10 cd10 ct10), sl10⟩) (c10 : PySem.W.codeIn K cd10 "_law_told" = true) (k10 : PySem.W.keepIn K (.ref f10) = true)
    {f11 : Addr} {od11 an11 : Option Addr} {sl11 : Array (Option Value)} {oc11 kV11 dc11 pm11 cd11 ct11 : Value}
    (a11 : PySem.W.nsIn K mainGlobals "_law_right" = some (some (.ref f11))) (l11 : K.lookup f11 = some ⟨oc11, od11, .func (PySem.W.fnOf "_law_right" "_law_right" (defArgs s_law_right) (defBody s_law_right) (defScope s_law_right) .none kV11 dc11 pm11 an11 cd11 ct11), sl11⟩) (c11 : PySem.W.codeIn K cd11 "_law_right" = true) (k11 : PySem.W.keepIn K (.ref f11) = true)
    {f12 : Addr} {od12 an12 : Option Addr} {sl12 : Array (Option Value)} {oc12 kV12 dc12 pm12 cd12 ct12 : Value}
    (a12 : PySem.W.nsIn K mainGlobals "law" = some (some (.ref f12))) (l12 : K.lookup f12 = some ⟨oc12, od12, .func (PySem.W.fnOf "law" "law" (defArgs s_law) (defBody s_law) (defScope s_law) .none kV12 dc12 pm12 an12 cd12 ct12), sl12⟩) (c12 : PySem.W.codeIn K cd12 "law" = true) (k12 : PySem.W.keepIn K (.ref f12) = true)
    (zb_ValueError : PySem.W.nsIn K mainGlobals "ValueError" = some none)
    (zb_all : PySem.W.nsIn K mainGlobals "all" = some none)
    (zb_bool : PySem.W.nsIn K mainGlobals "bool" = some none)
    (zb_enumerate : PySem.W.nsIn K mainGlobals "enumerate" = some none)
    (zb_int : PySem.W.nsIn K mainGlobals "int" = some none)
    (zb_isinstance : PySem.W.nsIn K mainGlobals "isinstance" = some none)
    (zb_len : PySem.W.nsIn K mainGlobals "len" = some none)
    (zb_list : PySem.W.nsIn K mainGlobals "list" = some none)
    (zb_max : PySem.W.nsIn K mainGlobals "max" = some none)
    (zb_min : PySem.W.nsIn K mainGlobals "min" = some none)
    (zb_range : PySem.W.nsIn K mainGlobals "range" = some none)
    (zb_repr : PySem.W.nsIn K mainGlobals "repr" = some none)
    (zb_str : PySem.W.nsIn K mainGlobals "str" = some none)
    (zb_tuple : PySem.W.nsIn K mainGlobals "tuple" = some none)
    {tk_MOST_LEAF : Tok} (zc_MOST_LEAF : PySem.W.nsIn K mainGlobals "MOST_LEAF" = some (some (.int 1000 tk_MOST_LEAF)))
    {tk_MOST_NUMBER : Tok} (zc_MOST_NUMBER : PySem.W.nsIn K mainGlobals "MOST_NUMBER" = some (some (.int 1000000000000000000000000000000 tk_MOST_NUMBER)))
    {tk_MOST_SEEN : Tok} (zc_MOST_SEEN : PySem.W.nsIn K mainGlobals "MOST_SEEN" = some (some (.int 20 tk_MOST_SEEN)))
    : ∃ fd : FuncData, (∀ (s : Shared) (v : Value), BindsTo s fd ⟨[v], []⟩ [("script", v)]) ∧ ∀ base : Heap, K.In base → base.Ns mainGlobals mg → FnP PySem.Challenge.pw_leafsplits_k41_errors_of_fitting w K mg base 7 fa fd ["script"] (spZ K mg sp_law) := by
  have e := hfa.symm.trans (PySem.W.mg_of X N a12)
  cases e
  have G : Facts mg := ⟨PySem.W.mg_none_of X N zb_ValueError, PySem.W.mg_none_of X N zb_all, PySem.W.mg_none_of X N zb_bool, PySem.W.mg_none_of X N zb_enumerate, PySem.W.mg_none_of X N zb_int, PySem.W.mg_none_of X N zb_isinstance, PySem.W.mg_none_of X N zb_len, PySem.W.mg_none_of X N zb_list, PySem.W.mg_none_of X N zb_max, PySem.W.mg_none_of X N zb_min, PySem.W.mg_none_of X N zb_range, PySem.W.mg_none_of X N zb_repr, PySem.W.mg_none_of X N zb_str, PySem.W.mg_none_of X N zb_tuple, ⟨tk_MOST_LEAF, PySem.W.mg_of X N zc_MOST_LEAF⟩, ⟨tk_MOST_NUMBER, PySem.W.mg_of X N zc_MOST_NUMBER⟩, ⟨tk_MOST_SEEN, PySem.W.mg_of X N zc_MOST_SEEN⟩⟩
  have K_PageError : EcK K mg C_PageError "PageError" C_PageError := ⟨PySem.W.mg_of X N aC_PageError, ⟨ga_PageError, gg_PageError, sb_PageError, hd_PageError, ha_PageError, hn0, htk0, hm_PageError⟩, ty_PageError, ⟨cd_PageError, cl_PageError, .inr ⟨rfl, mr_PageError⟩⟩⟩
  have K_InvalidRule : EcK K mg C_PageError "InvalidRule" C_InvalidRule := ⟨PySem.W.mg_of X N aC_InvalidRule, ⟨ga_InvalidRule, gg_InvalidRule, sb_InvalidRule, hd_InvalidRule, ha_InvalidRule, hn0, htk0, hm_InvalidRule⟩, ty_InvalidRule, ⟨cd_InvalidRule, cl_InvalidRule, .inl mr_InvalidRule⟩⟩
  have K_InvalidLevels : EcK K mg C_PageError "InvalidLevels" C_InvalidLevels := ⟨PySem.W.mg_of X N aC_InvalidLevels, ⟨ga_InvalidLevels, gg_InvalidLevels, sb_InvalidLevels, hd_InvalidLevels, ha_InvalidLevels, hn0, htk0, hm_InvalidLevels⟩, ty_InvalidLevels, ⟨cd_InvalidLevels, cl_InvalidLevels, .inl mr_InvalidLevels⟩⟩
  have K_InvalidScript : EcK K mg C_PageError "InvalidScript" C_InvalidScript := ⟨PySem.W.mg_of X N aC_InvalidScript, ⟨ga_InvalidScript, gg_InvalidScript, sb_InvalidScript, hd_InvalidScript, ha_InvalidScript, hn0, htk0, hm_InvalidScript⟩, ty_InvalidScript, ⟨cd_InvalidScript, cl_InvalidScript, .inl mr_InvalidScript⟩⟩
  have K_InvalidRuns : EcK K mg C_PageError "InvalidRuns" C_InvalidRuns := ⟨PySem.W.mg_of X N aC_InvalidRuns, ⟨ga_InvalidRuns, gg_InvalidRuns, sb_InvalidRuns, hd_InvalidRuns, ha_InvalidRuns, hn0, htk0, hm_InvalidRuns⟩, ty_InvalidRuns, ⟨cd_InvalidRuns, cl_InvalidRuns, .inl mr_InvalidRuns⟩⟩
  have K_InvalidSeen : EcK K mg C_PageError "InvalidSeen" C_InvalidSeen := ⟨PySem.W.mg_of X N aC_InvalidSeen, ⟨ga_InvalidSeen, gg_InvalidSeen, sb_InvalidSeen, hd_InvalidSeen, ha_InvalidSeen, hn0, htk0, hm_InvalidSeen⟩, ty_InvalidSeen, ⟨cd_InvalidSeen, cl_InvalidSeen, .inl mr_InvalidSeen⟩⟩
  have K_InvalidText : EcK K mg C_PageError "InvalidText" C_InvalidText := ⟨PySem.W.mg_of X N aC_InvalidText, ⟨ga_InvalidText, gg_InvalidText, sb_InvalidText, hd_InvalidText, ha_InvalidText, hn0, htk0, hm_InvalidText⟩, ty_InvalidText, ⟨cd_InvalidText, cl_InvalidText, .inl mr_InvalidText⟩⟩
  have K_OverBudget : EcK K mg C_PageError "OverBudget" C_OverBudget := ⟨PySem.W.mg_of X N aC_OverBudget, ⟨ga_OverBudget, gg_OverBudget, sb_OverBudget, hd_OverBudget, ha_OverBudget, hn0, htk0, hm_OverBudget⟩, ty_OverBudget, ⟨cd_OverBudget, cl_OverBudget, .inl mr_OverBudget⟩⟩
  have K_InvalidIndex : EcK K mg C_PageError "InvalidIndex" C_InvalidIndex := ⟨PySem.W.mg_of X N aC_InvalidIndex, ⟨ga_InvalidIndex, gg_InvalidIndex, sb_InvalidIndex, hd_InvalidIndex, ha_InvalidIndex, hn0, htk0, hm_InvalidIndex⟩, ty_InvalidIndex, ⟨cd_InvalidIndex, cl_InvalidIndex, .inl mr_InvalidIndex⟩⟩
  have K_InvalidKind : EcK K mg C_PageError "InvalidKind" C_InvalidKind := ⟨PySem.W.mg_of X N aC_InvalidKind, ⟨ga_InvalidKind, gg_InvalidKind, sb_InvalidKind, hd_InvalidKind, ha_InvalidKind, hn0, htk0, hm_InvalidKind⟩, ty_InvalidKind, ⟨cd_InvalidKind, cl_InvalidKind, .inl mr_InvalidKind⟩⟩
  have K_InvalidGap : EcK K mg C_PageError "InvalidGap" C_InvalidGap := ⟨PySem.W.mg_of X N aC_InvalidGap, ⟨ga_InvalidGap, gg_InvalidGap, sb_InvalidGap, hd_InvalidGap, ha_InvalidGap, hn0, htk0, hm_InvalidGap⟩, ty_InvalidGap, ⟨cd_InvalidGap, cl_InvalidGap, .inl mr_InvalidGap⟩⟩
  have K_InvalidNumber : EcK K mg C_PageError "InvalidNumber" C_InvalidNumber := ⟨PySem.W.mg_of X N aC_InvalidNumber, ⟨ga_InvalidNumber, gg_InvalidNumber, sb_InvalidNumber, hd_InvalidNumber, ha_InvalidNumber, hn0, htk0, hm_InvalidNumber⟩, ty_InvalidNumber, ⟨cd_InvalidNumber, cl_InvalidNumber, .inl mr_InvalidNumber⟩⟩
  have K_InvalidLevel : EcK K mg C_PageError "InvalidLevel" C_InvalidLevel := ⟨PySem.W.mg_of X N aC_InvalidLevel, ⟨ga_InvalidLevel, gg_InvalidLevel, sb_InvalidLevel, hd_InvalidLevel, ha_InvalidLevel, hn0, htk0, hm_InvalidLevel⟩, ty_InvalidLevel, ⟨cd_InvalidLevel, cl_InvalidLevel, .inl mr_InvalidLevel⟩⟩
  have K_InvalidPage : EcK K mg C_PageError "InvalidPage" C_InvalidPage := ⟨PySem.W.mg_of X N aC_InvalidPage, ⟨ga_InvalidPage, gg_InvalidPage, sb_InvalidPage, hd_InvalidPage, ha_InvalidPage, hn0, htk0, hm_InvalidPage⟩, ty_InvalidPage, ⟨cd_InvalidPage, cl_InvalidPage, .inl mr_InvalidPage⟩⟩
  have K_InvalidEntry : EcK K mg C_PageError "InvalidEntry" C_InvalidEntry := ⟨PySem.W.mg_of X N aC_InvalidEntry, ⟨ga_InvalidEntry, gg_InvalidEntry, sb_InvalidEntry, hd_InvalidEntry, ha_InvalidEntry, hn0, htk0, hm_InvalidEntry⟩, ty_InvalidEntry, ⟨cd_InvalidEntry, cl_InvalidEntry, .inl mr_InvalidEntry⟩⟩
  have K_InvalidLength : EcK K mg C_PageError "InvalidLength" C_InvalidLength := ⟨PySem.W.mg_of X N aC_InvalidLength, ⟨ga_InvalidLength, gg_InvalidLength, sb_InvalidLength, hd_InvalidLength, ha_InvalidLength, hn0, htk0, hm_InvalidLength⟩, ty_InvalidLength, ⟨cd_InvalidLength, cl_InvalidLength, .inl mr_InvalidLength⟩⟩
  have K_InvalidHeight : EcK K mg C_PageError "InvalidHeight" C_InvalidHeight := ⟨PySem.W.mg_of X N aC_InvalidHeight, ⟨ga_InvalidHeight, gg_InvalidHeight, sb_InvalidHeight, hd_InvalidHeight, ha_InvalidHeight, hn0, htk0, hm_InvalidHeight⟩, ty_InvalidHeight, ⟨cd_InvalidHeight, cl_InvalidHeight, .inl mr_InvalidHeight⟩⟩
  have K_InvalidLeaves : EcK K mg C_PageError "InvalidLeaves" C_InvalidLeaves := ⟨PySem.W.mg_of X N aC_InvalidLeaves, ⟨ga_InvalidLeaves, gg_InvalidLeaves, sb_InvalidLeaves, hd_InvalidLeaves, ha_InvalidLeaves, hn0, htk0, hm_InvalidLeaves⟩, ty_InvalidLeaves, ⟨cd_InvalidLeaves, cl_InvalidLeaves, .inl mr_InvalidLeaves⟩⟩
  have K_InvalidBudget : EcK K mg C_PageError "InvalidBudget" C_InvalidBudget := ⟨PySem.W.mg_of X N aC_InvalidBudget, ⟨ga_InvalidBudget, gg_InvalidBudget, sb_InvalidBudget, hd_InvalidBudget, ha_InvalidBudget, hn0, htk0, hm_InvalidBudget⟩, ty_InvalidBudget, ⟨cd_InvalidBudget, cl_InvalidBudget, .inl mr_InvalidBudget⟩⟩
  have K_UnlikeRules : EcK K mg C_PageError "UnlikeRules" C_UnlikeRules := ⟨PySem.W.mg_of X N aC_UnlikeRules, ⟨ga_UnlikeRules, gg_UnlikeRules, sb_UnlikeRules, hd_UnlikeRules, ha_UnlikeRules, hn0, htk0, hm_UnlikeRules⟩, ty_UnlikeRules, ⟨cd_UnlikeRules, cl_UnlikeRules, .inl mr_UnlikeRules⟩⟩
  have K_InvalidOperation : EcK K mg C_PageError "InvalidOperation" C_InvalidOperation := ⟨PySem.W.mg_of X N aC_InvalidOperation, ⟨ga_InvalidOperation, gg_InvalidOperation, sb_InvalidOperation, hd_InvalidOperation, ha_InvalidOperation, hn0, htk0, hm_InvalidOperation⟩, ty_InvalidOperation, ⟨cd_InvalidOperation, cl_InvalidOperation, .inl mr_InvalidOperation⟩⟩
  have K_Nothing : EcK K mg C_PageError "Nothing" C_Nothing := ⟨PySem.W.mg_of X N aC_Nothing, ⟨ga_Nothing, gg_Nothing, sb_Nothing, hd_Nothing, ha_Nothing, hn0, htk0, hm_Nothing⟩, ty_Nothing, ⟨cd_Nothing, cl_Nothing, .inl mr_Nothing⟩⟩
  have K_InvalidCommand : EcK K mg C_PageError "InvalidCommand" C_InvalidCommand := ⟨PySem.W.mg_of X N aC_InvalidCommand, ⟨ga_InvalidCommand, gg_InvalidCommand, sb_InvalidCommand, hd_InvalidCommand, ha_InvalidCommand, hn0, htk0, hm_InvalidCommand⟩, ty_InvalidCommand, ⟨cd_InvalidCommand, cl_InvalidCommand, .inl mr_InvalidCommand⟩⟩
  have ErrsK : Errs K mg "PageError" errCs := ⟨C_PageError, [("PageError", C_PageError), ("InvalidRule", C_InvalidRule), ("InvalidLevels", C_InvalidLevels), ("InvalidScript", C_InvalidScript), ("InvalidRuns", C_InvalidRuns), ("InvalidSeen", C_InvalidSeen), ("InvalidText", C_InvalidText), ("OverBudget", C_OverBudget), ("InvalidIndex", C_InvalidIndex), ("InvalidKind", C_InvalidKind), ("InvalidGap", C_InvalidGap), ("InvalidNumber", C_InvalidNumber), ("InvalidLevel", C_InvalidLevel), ("InvalidPage", C_InvalidPage), ("InvalidEntry", C_InvalidEntry), ("InvalidLength", C_InvalidLength), ("InvalidHeight", C_InvalidHeight), ("InvalidLeaves", C_InvalidLeaves), ("InvalidBudget", C_InvalidBudget), ("UnlikeRules", C_UnlikeRules), ("InvalidOperation", C_InvalidOperation), ("Nothing", C_Nothing), ("InvalidCommand", C_InvalidCommand)], PySem.W.mg_of X N aC_PageError, by decide, rfl, List.forall_mem_cons.mpr ⟨K_PageError, List.forall_mem_cons.mpr ⟨K_InvalidRule, List.forall_mem_cons.mpr ⟨K_InvalidLevels, List.forall_mem_cons.mpr ⟨K_InvalidScript, List.forall_mem_cons.mpr ⟨K_InvalidRuns, List.forall_mem_cons.mpr ⟨K_InvalidSeen, List.forall_mem_cons.mpr ⟨K_InvalidText, List.forall_mem_cons.mpr ⟨K_OverBudget, List.forall_mem_cons.mpr ⟨K_InvalidIndex, List.forall_mem_cons.mpr ⟨K_InvalidKind, List.forall_mem_cons.mpr ⟨K_InvalidGap, List.forall_mem_cons.mpr ⟨K_InvalidNumber, List.forall_mem_cons.mpr ⟨K_InvalidLevel, List.forall_mem_cons.mpr ⟨K_InvalidPage, List.forall_mem_cons.mpr ⟨K_InvalidEntry, List.forall_mem_cons.mpr ⟨K_InvalidLength, List.forall_mem_cons.mpr ⟨K_InvalidHeight, List.forall_mem_cons.mpr ⟨K_InvalidLeaves, List.forall_mem_cons.mpr ⟨K_InvalidBudget, List.forall_mem_cons.mpr ⟨K_UnlikeRules, List.forall_mem_cons.mpr ⟨K_InvalidOperation, List.forall_mem_cons.mpr ⟨K_Nothing, List.forall_mem_cons.mpr ⟨K_InvalidCommand, fun p hp => nomatch hp⟩⟩⟩⟩⟩⟩⟩⟩⟩⟩⟩⟩⟩⟩⟩⟩⟩⟩⟩⟩⟩⟩⟩, nd_errs⟩
  have nf_item : ∀ c ∈ errF "item", ∀ C, mg c = some (.ref C) → PySem.W.findIn K (.ref C) "item" = some none := List.forall_mem_cons.mpr ⟨fun C hC => (by rw [PySem.W.mg_of X N aC_InvalidRule] at hC; cases hC; exact ne_InvalidRule), List.forall_mem_cons.mpr ⟨fun C hC => (by rw [PySem.W.mg_of X N aC_InvalidRuns] at hC; cases hC; exact ne_InvalidRuns), List.forall_mem_cons.mpr ⟨fun C hC => (by rw [PySem.W.mg_of X N aC_InvalidSeen] at hC; cases hC; exact ne_InvalidSeen), fun p hp => nomatch hp⟩⟩⟩
  have O : Objs K mg := ⟨trivial, ErrsK, ⟨C_InvalidKind, PySem.W.mg_of X N aC_InvalidKind, ex_InvalidKind, kc_InvalidKind, sb_InvalidKind, ty_InvalidKind⟩, ⟨C_InvalidNumber, PySem.W.mg_of X N aC_InvalidNumber, ex_InvalidNumber, kc_InvalidNumber, sb_InvalidNumber, ty_InvalidNumber⟩, nf_item⟩
  refine ⟨PySem.W.fnOf "law" "law" (defArgs s_law) (defBody s_law) (defScope s_law) .none kV12 dc12 pm12 an12 cd12 ct12, fun s v => .of_eq rfl, fun base _ _ => ?_⟩
  have Fe_InvalidSeen := fun_mk (st := s_InvalidSeen_init) l_InvalidSeen c_InvalidSeen ke_InvalidSeen
  have D_InvalidSeen_init : Ei PySem.Challenge.pw_leafsplits_k41_errors_of_fitting w K mg base 1 "InvalidSeen" "item" := ⟨C_InvalidSeen, fe_InvalidSeen, _, ["self", "item"], PySem.W.mg_of X N aC_InvalidSeen, ⟨⟨nm_InvalidSeen, q_InvalidSeen, N_InvalidSeen, bs_InvalidSeen, bm_InvalidSeen, sn_InvalidSeen, su_InvalidSeen, ab_InvalidSeen, co_InvalidSeen, dd_InvalidSeen, m0_InvalidSeen, m1_InvalidSeen, m2_InvalidSeen, m3_InvalidSeen, m5_InvalidSeen, xl_InvalidSeen, rv_InvalidSeen⟩, sa_InvalidSeen, sb_InvalidSeen, ty_InvalidSeen, kc_InvalidSeen⟩, ie_InvalidSeen, te_InvalidSeen, ne_InvalidSeen, Fe_InvalidSeen.binds (ps := ["self", "item"]) (fun _ _ _ _ _ _ us hl => match us, hl with | [_, _], _ => rfl), okEi Fe_InvalidSeen sc_InvalidSeen_init rfl⟩
  have F0 := fun_mk (st := s_is_int) l0 c0 k0
  have D_is_int : Df PySem.Challenge.pw_leafsplits_k41_errors_of_fitting w K mg base 1 "is_int" (spZ K mg sp_is_int) := ⟨f0, _, ["value"], PySem.W.mg_of X N a0, F0.kp, F0.binds (ps := ["value"]) (fun _ _ _ _ _ _ us hl => match us, hl with | [_], _ => rfl), ok_is_int F0 G O⟩
  have F1 := fun_mk (st := s_is_whole) l1 c1 k1
  have D_is_whole : Df PySem.Challenge.pw_leafsplits_k41_errors_of_fitting w K mg base 2 "is_whole" (spZ K mg sp_is_whole) := ⟨f1, _, ["value", "low", "high"], PySem.W.mg_of X N a1, F1.kp, F1.binds (ps := ["value", "low", "high"]) (fun _ _ _ _ _ _ us hl => match us, hl with | [_, _, _], _ => rfl), ok_is_whole F1 G O D_is_int⟩
  have F2 := fun_mk (st := s_require_load_kind) l2 c2 k2
  have D_require_load_kind : Df PySem.Challenge.pw_leafsplits_k41_errors_of_fitting w K mg base 1 "require_load_kind" (spZ K mg sp_require_load_kind) := ⟨f2, _, ["value"], PySem.W.mg_of X N a2, F2.kp, F2.binds (ps := ["value"]) (fun _ _ _ _ _ _ us hl => match us, hl with | [_], _ => rfl), ok_require_load_kind F2 G O⟩
  have F3 := fun_mk (st := s_require_seen) l3 c3 k3
  have D_require_seen : Df PySem.Challenge.pw_leafsplits_k41_errors_of_fitting w K mg base 3 "require_seen" (spZ K mg sp_require_seen) := ⟨f3, _, ["value"], PySem.W.mg_of X N a3, F3.kp, F3.binds (ps := ["value"]) (fun _ _ _ _ _ _ us hl => match us, hl with | [_], _ => rfl), ok_require_seen F3 G O D_InvalidSeen_init D_is_whole⟩
  have F4 := fun_mk (st := s_steps_within) l4 c4 k4
  have D_steps_within : Df PySem.Challenge.pw_leafsplits_k41_errors_of_fitting w K mg base 1 "steps_within" (spZ K mg sp_steps_within) := ⟨f4, _, ["most", "seen", "least", "greatest"], PySem.W.mg_of X N a4, F4.kp, F4.binds (ps := ["most", "seen", "least", "greatest"]) (fun _ _ _ _ _ _ us hl => match us, hl with | [_, _, _, _], _ => rfl), ok_steps_within F4 G O⟩
  have F5 := fun_mk (st := s_fitting_rules) l5 c5 k5
  have D_fitting_rules : Df PySem.Challenge.pw_leafsplits_k41_errors_of_fitting w K mg base 4 "fitting_rules" (spZ K mg sp_fitting_rules) := ⟨f5, _, ["kind", "seen", "most"], PySem.W.mg_of X N a5, F5.kp, F5.binds (ps := ["kind", "seen", "most"]) (fun _ _ _ _ _ _ us hl => match us, hl with | [_, _, _], _ => rfl), ok_fitting_rules F5 G O D_is_whole D_require_load_kind D_require_seen D_steps_within⟩
  have F6 := fun_mk (st := s_law_bag) l6 c6 k6
  have D__law_bag : Df PySem.Challenge.pw_leafsplits_k41_errors_of_fitting w K mg base 1 "_law_bag" (spZ K mg sp_law_bag) := ⟨f6, _, ["cell"], PySem.W.mg_of X N a6, F6.kp, F6.binds (ps := ["cell"]) (fun _ _ _ _ _ _ us hl => match us, hl with | [_], _ => rfl), ok_law_bag F6 G O⟩
  have F7 := fun_mk (st := s_law_pick) l7 c7 k7
  have D__law_pick : Df PySem.Challenge.pw_leafsplits_k41_errors_of_fitting w K mg base 1 "_law_pick" (spB K mg sp_law_pick) := ⟨f7, _, ["bag", "many"], PySem.W.mg_of X N a7, F7.kp, F7.binds (ps := ["bag", "many"]) (fun _ _ _ _ _ _ us hl => match us, hl with | [_, _], _ => rfl), ok_law_pick F7 G O⟩
  have F8 := fun_mk (st := s_law_class) l8 c8 k8
  have D__law_class : Df PySem.Challenge.pw_leafsplits_k41_errors_of_fitting w K mg base 1 "_law_class" (spZ K mg sp_law_class) := ⟨f8, _, ["caught"], PySem.W.mg_of X N a8, F8.kp, F8.binds (ps := ["caught"]) (fun _ _ _ _ _ _ us hl => match us, hl with | [_], _ => rfl), ok_law_class F8 G O⟩
  have F9 := fun_mk (st := s_law_bad_integers) l9 c9 k9
  have D__law_bad_integers : Df PySem.Challenge.pw_leafsplits_k41_errors_of_fitting w K mg base 1 "_law_bad_integers" (spZ K mg sp_law_bad_integers) := ⟨f9, _, ["low", "high"], PySem.W.mg_of X N a9, F9.kp, F9.binds (ps := ["low", "high"]) (fun _ _ _ _ _ _ us hl => match us, hl with | [_, _], _ => rfl), ok_law_bad_integers F9 G O⟩
  have F10 := fun_mk (st := s_law_told) l10 c10 k10
  have D__law_told : Df PySem.Challenge.pw_leafsplits_k41_errors_of_fitting w K mg base 5 "_law_told" (spZ K mg sp_law_told) := ⟨f10, _, ["kind", "seen", "most"], PySem.W.mg_of X N a10, F10.kp, F10.binds (ps := ["kind", "seen", "most"]) (fun _ _ _ _ _ _ us hl => match us, hl with | [_, _, _], _ => rfl), ok_law_told F10 G O D_fitting_rules D__law_class⟩
  have F11 := fun_mk (st := s_law_right) l11 c11 k11
  have D__law_right : Df PySem.Challenge.pw_leafsplits_k41_errors_of_fitting w K mg base 6 "_law_right" (spB K mg sp_law_right) := ⟨f11, _, ["bag"], PySem.W.mg_of X N a11, F11.kp, F11.binds (ps := ["bag"]) (fun _ _ _ _ _ _ us hl => match us, hl with | [_], _ => rfl), ok_law_right F11 G O D__law_pick D__law_bad_integers D__law_told⟩
  exact ok_law (fun_mk (st := s_law) l12 c12 k12) G O D__law_bag D__law_right
end K41
open PySem PySem.W PyProof.Rows
set_option maxHeartbeats 0 in
theorem PySem.Challenge.cw_leafsplits_k41_errors_of_fitting_holds : PySem.Challenge.rw_leafsplits_k41_errors_of_fitting.Holds := by
  w_on; o_law; k_head; (case hw => w_witness2)
  k_fill
  refine Zz.walkP (l := PySem.Challenge.rw_leafsplits_k41_errors_of_fitting) (n := 63) (k := 7) (x := "script") (sp := K41.sp_law) rfl (by decide) rfl ⟨rfl, by decide, by decide⟩ (fun w h Y => PySem.W.kIn_of Y) ?F K41.hsp
  case F =>
    intro w mg fa h KX G hmg
    refine' K41.all_mk KX G hmg ?hn0 ?htk0 ?aC_PageError ?ga_PageError ?gg_PageError ?sb_PageError ?hd_PageError ?ha_PageError ?hm_PageError ?ty_PageError ?cl_PageError ?mr_PageError ?aC_InvalidRule ?ga_InvalidRule ?gg_InvalidRule ?sb_InvalidRule ?hd_InvalidRule ?ha_InvalidRule ?hm_InvalidRule ?ty_InvalidRule ?cl_InvalidRule ?mr_InvalidRule ?aC_InvalidLevels ?ga_InvalidLevels ?gg_InvalidLevels ?sb_InvalidLevels ?hd_InvalidLevels ?ha_InvalidLevels ?hm_InvalidLevels ?ty_InvalidLevels ?cl_InvalidLevels ?mr_InvalidLevels ?aC_InvalidScript ?ga_InvalidScript ?gg_InvalidScript ?sb_InvalidScript ?hd_InvalidScript ?ha_InvalidScript ?hm_InvalidScript ?ty_InvalidScript ?cl_InvalidScript ?mr_InvalidScript ?aC_InvalidRuns ?ga_InvalidRuns ?gg_InvalidRuns ?sb_InvalidRuns ?hd_InvalidRuns ?ha_InvalidRuns ?hm_InvalidRuns ?ty_InvalidRuns ?cl_InvalidRuns ?mr_InvalidRuns ?aC_InvalidSeen ?ga_InvalidSeen ?gg_InvalidSeen ?sb_InvalidSeen ?hd_InvalidSeen ?ha_InvalidSeen ?hm_InvalidSeen ?ty_InvalidSeen ?cl_InvalidSeen ?mr_InvalidSeen ?xl_InvalidSeen ?rv_InvalidSeen ?sa_InvalidSeen ?kc_InvalidSeen ?ie_InvalidSeen ?te_InvalidSeen ?ne_InvalidSeen ?l_InvalidSeen ?c_InvalidSeen ?ke_InvalidSeen ?aC_InvalidText ?ga_InvalidText ?gg_InvalidText ?sb_InvalidText ?hd_InvalidText ?ha_InvalidText ?hm_InvalidText ?ty_InvalidText ?cl_InvalidText ?mr_InvalidText ?aC_OverBudget ?ga_OverBudget ?gg_OverBudget ?sb_OverBudget ?hd_OverBudget ?ha_OverBudget ?hm_OverBudget ?ty_OverBudget ?cl_OverBudget ?mr_OverBudget ?aC_InvalidIndex ?ga_InvalidIndex ?gg_InvalidIndex ?sb_InvalidIndex ?hd_InvalidIndex ?ha_InvalidIndex ?hm_InvalidIndex ?ty_InvalidIndex ?cl_InvalidIndex ?mr_InvalidIndex ?aC_InvalidKind ?ga_InvalidKind ?gg_InvalidKind ?sb_InvalidKind ?hd_InvalidKind ?ha_InvalidKind ?hm_InvalidKind ?ty_InvalidKind ?cl_InvalidKind ?mr_InvalidKind ?ex_InvalidKind ?kc_InvalidKind ?aC_InvalidGap ?ga_InvalidGap ?gg_InvalidGap ?sb_InvalidGap ?hd_InvalidGap ?ha_InvalidGap ?hm_InvalidGap ?ty_InvalidGap ?cl_InvalidGap ?mr_InvalidGap ?aC_InvalidNumber ?ga_InvalidNumber ?gg_InvalidNumber ?sb_InvalidNumber ?hd_InvalidNumber ?ha_InvalidNumber ?hm_InvalidNumber ?ty_InvalidNumber ?cl_InvalidNumber ?mr_InvalidNumber ?ex_InvalidNumber ?kc_InvalidNumber ?aC_InvalidLevel ?ga_InvalidLevel ?gg_InvalidLevel ?sb_InvalidLevel ?hd_InvalidLevel ?ha_InvalidLevel ?hm_InvalidLevel ?ty_InvalidLevel ?cl_InvalidLevel ?mr_InvalidLevel ?aC_InvalidPage ?ga_InvalidPage ?gg_InvalidPage ?sb_InvalidPage ?hd_InvalidPage ?ha_InvalidPage ?hm_InvalidPage ?ty_InvalidPage ?cl_InvalidPage ?mr_InvalidPage ?aC_InvalidEntry ?ga_InvalidEntry ?gg_InvalidEntry ?sb_InvalidEntry ?hd_InvalidEntry ?ha_InvalidEntry ?hm_InvalidEntry ?ty_InvalidEntry ?cl_InvalidEntry ?mr_InvalidEntry ?aC_InvalidLength ?ga_InvalidLength ?gg_InvalidLength ?sb_InvalidLength ?hd_InvalidLength ?ha_InvalidLength ?hm_InvalidLength ?ty_InvalidLength ?cl_InvalidLength ?mr_InvalidLength ?aC_InvalidHeight ?ga_InvalidHeight ?gg_InvalidHeight ?sb_InvalidHeight ?hd_InvalidHeight ?ha_InvalidHeight ?hm_InvalidHeight ?ty_InvalidHeight ?cl_InvalidHeight ?mr_InvalidHeight ?aC_InvalidLeaves ?ga_InvalidLeaves ?gg_InvalidLeaves ?sb_InvalidLeaves ?hd_InvalidLeaves ?ha_InvalidLeaves ?hm_InvalidLeaves ?ty_InvalidLeaves ?cl_InvalidLeaves ?mr_InvalidLeaves ?aC_InvalidBudget ?ga_InvalidBudget ?gg_InvalidBudget ?sb_InvalidBudget ?hd_InvalidBudget ?ha_InvalidBudget ?hm_InvalidBudget ?ty_InvalidBudget ?cl_InvalidBudget ?mr_InvalidBudget ?aC_UnlikeRules ?ga_UnlikeRules ?gg_UnlikeRules ?sb_UnlikeRules ?hd_UnlikeRules ?ha_UnlikeRules ?hm_UnlikeRules ?ty_UnlikeRules ?cl_UnlikeRules ?mr_UnlikeRules ?aC_InvalidOperation ?ga_InvalidOperation ?gg_InvalidOperation ?sb_InvalidOperation ?hd_InvalidOperation ?ha_InvalidOperation ?hm_InvalidOperation ?ty_InvalidOperation ?cl_InvalidOperation ?mr_InvalidOperation ?aC_Nothing ?ga_Nothing ?gg_Nothing ?sb_Nothing ?hd_Nothing ?ha_Nothing ?hm_Nothing ?ty_Nothing ?cl_Nothing ?mr_Nothing ?aC_InvalidCommand ?ga_InvalidCommand ?gg_InvalidCommand ?sb_InvalidCommand ?hd_InvalidCommand ?ha_InvalidCommand ?hm_InvalidCommand ?ty_InvalidCommand ?cl_InvalidCommand ?mr_InvalidCommand ?ne_InvalidRule ?ne_InvalidRuns ?nd_errs ?a0 ?l0 ?c0 ?k0 ?a1 ?l1 ?c1 ?k1 ?a2 ?l2 ?c2 ?k2 ?a3 ?l3 ?c3 ?k3 ?a4 ?l4 ?c4 ?k4 ?a5 ?l5 ?c5 ?k5 ?a6 ?l6 ?c6 ?k6 ?a7 ?l7 ?c7 ?k7 ?a8 ?l8 ?c8 ?k8 ?a9 ?l9 ?c9 ?k9 ?a10 ?l10 ?c10 ?k10 ?a11 ?l11 ?c11 ?k11 ?a12 ?l12 ?c12 ?k12 ?zb_ValueError ?zb_all ?zb_bool ?zb_enumerate ?zb_int ?zb_isinstance ?zb_len ?zb_list ?zb_max ?zb_min ?zb_range ?zb_repr ?zb_str ?zb_tuple ?zc_MOST_LEAF ?zc_MOST_NUMBER ?zc_MOST_SEEN
    (case hn0 => k_is); (case htk0 => k_is); (case aC_PageError => k_is); (case ga_PageError => k_is); (case gg_PageError => k_is); (case sb_PageError => k_is); (case hd_PageError => k_is); (case ha_PageError => k_is); (case hm_PageError => k_is); (case ty_PageError => k_is); (case cl_PageError => k_is); (case mr_PageError => exact rfl); (case aC_InvalidRule => k_is); (case ga_InvalidRule => k_is); (case gg_InvalidRule => k_is); (case sb_InvalidRule => k_is); (case hd_InvalidRule => k_is); (case ha_InvalidRule => k_is); (case hm_InvalidRule => k_is); (case ty_InvalidRule => k_is); (case cl_InvalidRule => k_is); (case mr_InvalidRule => exact rfl); (case aC_InvalidLevels => k_is); (case ga_InvalidLevels => k_is); (case gg_InvalidLevels => k_is); (case sb_InvalidLevels => k_is); (case hd_InvalidLevels => k_is); (case ha_InvalidLevels => k_is); (case hm_InvalidLevels => k_is); (case ty_InvalidLevels => k_is); (case cl_InvalidLevels => k_is); (case mr_InvalidLevels => exact rfl); (case aC_InvalidScript => k_is); (case ga_InvalidScript => k_is); (case gg_InvalidScript => k_is); (case sb_InvalidScript => k_is); (case hd_InvalidScript => k_is); (case ha_InvalidScript => k_is); (case hm_InvalidScript => k_is); (case ty_InvalidScript => k_is); (case cl_InvalidScript => k_is); (case mr_InvalidScript => exact rfl); (case aC_InvalidRuns => k_is); (case ga_InvalidRuns => k_is); (case gg_InvalidRuns => k_is); (case sb_InvalidRuns => k_is); (case hd_InvalidRuns => k_is); (case ha_InvalidRuns => k_is); (case hm_InvalidRuns => k_is); (case ty_InvalidRuns => k_is); (case cl_InvalidRuns => k_is); (case mr_InvalidRuns => exact rfl); (case aC_InvalidSeen => k_is); (case ga_InvalidSeen => k_is); (case gg_InvalidSeen => k_is); (case sb_InvalidSeen => k_is); (case hd_InvalidSeen => k_is); (case ha_InvalidSeen => k_is); (case hm_InvalidSeen => k_is); (case ty_InvalidSeen => k_is); (case cl_InvalidSeen => k_is); (case mr_InvalidSeen => exact rfl); (case xl_InvalidSeen => k_is); (case rv_InvalidSeen => exact rfl); (case sa_InvalidSeen => k_is); (case kc_InvalidSeen => k_is); (case ie_InvalidSeen => k_is); (case te_InvalidSeen => k_is); (case ne_InvalidSeen => k_is); (case l_InvalidSeen => k_is); (case c_InvalidSeen => k_is); (case ke_InvalidSeen => k_is); (case aC_InvalidText => k_is); (case ga_InvalidText => k_is); (case gg_InvalidText => k_is); (case sb_InvalidText => k_is); (case hd_InvalidText => k_is); (case ha_InvalidText => k_is); (case hm_InvalidText => k_is); (case ty_InvalidText => k_is); (case cl_InvalidText => k_is); (case mr_InvalidText => exact rfl); (case aC_OverBudget => k_is); (case ga_OverBudget => k_is); (case gg_OverBudget => k_is); (case sb_OverBudget => k_is); (case hd_OverBudget => k_is); (case ha_OverBudget => k_is); (case hm_OverBudget => k_is); (case ty_OverBudget => k_is); (case cl_OverBudget => k_is); (case mr_OverBudget => exact rfl); (case aC_InvalidIndex => k_is); (case ga_InvalidIndex => k_is); (case gg_InvalidIndex => k_is); (case sb_InvalidIndex => k_is); (case hd_InvalidIndex => k_is); (case ha_InvalidIndex => k_is); (case hm_InvalidIndex => k_is); (case ty_InvalidIndex => k_is); (case cl_InvalidIndex => k_is); (case mr_InvalidIndex => exact rfl); (case aC_InvalidKind => k_is); (case ga_InvalidKind => k_is); (case gg_InvalidKind => k_is); (case sb_InvalidKind => k_is); (case hd_InvalidKind => k_is); (case ha_InvalidKind => k_is); (case hm_InvalidKind => k_is); (case ty_InvalidKind => k_is); (case cl_InvalidKind => k_is); (case mr_InvalidKind => exact rfl); (case ex_InvalidKind => k_exc); (case kc_InvalidKind => k_is); (case aC_InvalidGap => k_is); (case ga_InvalidGap => k_is); (case gg_InvalidGap => k_is); (case sb_InvalidGap => k_is); (case hd_InvalidGap => k_is); (case ha_InvalidGap => k_is); (case hm_InvalidGap => k_is); (case ty_InvalidGap => k_is); (case cl_InvalidGap => k_is); (case mr_InvalidGap => exact rfl); (case aC_InvalidNumber => k_is); (case ga_InvalidNumber => k_is); (case gg_InvalidNumber => k_is); (case sb_InvalidNumber => k_is); (case hd_InvalidNumber => k_is); (case ha_InvalidNumber => k_is); (case hm_InvalidNumber => k_is); (case ty_InvalidNumber => k_is); (case cl_InvalidNumber => k_is); (case mr_InvalidNumber => exact rfl); (case ex_InvalidNumber => k_exc); (case kc_InvalidNumber => k_is); (case aC_InvalidLevel => k_is); (case ga_InvalidLevel => k_is); (case gg_InvalidLevel => k_is); (case sb_InvalidLevel => k_is); (case hd_InvalidLevel => k_is); (case ha_InvalidLevel => k_is); (case hm_InvalidLevel => k_is); (case ty_InvalidLevel => k_is); (case cl_InvalidLevel => k_is); (case mr_InvalidLevel => exact rfl); (case aC_InvalidPage => k_is); (case ga_InvalidPage => k_is); (case gg_InvalidPage => k_is); (case sb_InvalidPage => k_is); (case hd_InvalidPage => k_is); (case ha_InvalidPage => k_is); (case hm_InvalidPage => k_is); (case ty_InvalidPage => k_is); (case cl_InvalidPage => k_is); (case mr_InvalidPage => exact rfl); (case aC_InvalidEntry => k_is); (case ga_InvalidEntry => k_is); (case gg_InvalidEntry => k_is); (case sb_InvalidEntry => k_is); (case hd_InvalidEntry => k_is); (case ha_InvalidEntry => k_is); (case hm_InvalidEntry => k_is); (case ty_InvalidEntry => k_is); (case cl_InvalidEntry => k_is); (case mr_InvalidEntry => exact rfl); (case aC_InvalidLength => k_is); (case ga_InvalidLength => k_is); (case gg_InvalidLength => k_is); (case sb_InvalidLength => k_is); (case hd_InvalidLength => k_is); (case ha_InvalidLength => k_is); (case hm_InvalidLength => k_is); (case ty_InvalidLength => k_is); (case cl_InvalidLength => k_is); (case mr_InvalidLength => exact rfl); (case aC_InvalidHeight => k_is); (case ga_InvalidHeight => k_is); (case gg_InvalidHeight => k_is); (case sb_InvalidHeight => k_is); (case hd_InvalidHeight => k_is); (case ha_InvalidHeight => k_is); (case hm_InvalidHeight => k_is); (case ty_InvalidHeight => k_is); (case cl_InvalidHeight => k_is); (case mr_InvalidHeight => exact rfl); (case aC_InvalidLeaves => k_is); (case ga_InvalidLeaves => k_is); (case gg_InvalidLeaves => k_is); (case sb_InvalidLeaves => k_is); (case hd_InvalidLeaves => k_is); (case ha_InvalidLeaves => k_is); (case hm_InvalidLeaves => k_is); (case ty_InvalidLeaves => k_is); (case cl_InvalidLeaves => k_is); (case mr_InvalidLeaves => exact rfl); (case aC_InvalidBudget => k_is); (case ga_InvalidBudget => k_is); (case gg_InvalidBudget => k_is); (case sb_InvalidBudget => k_is); (case hd_InvalidBudget => k_is); (case ha_InvalidBudget => k_is); (case hm_InvalidBudget => k_is); (case ty_InvalidBudget => k_is); (case cl_InvalidBudget => k_is); (case mr_InvalidBudget => exact rfl); (case aC_UnlikeRules => k_is); (case ga_UnlikeRules => k_is); (case gg_UnlikeRules => k_is); (case sb_UnlikeRules => k_is); (case hd_UnlikeRules => k_is); (case ha_UnlikeRules => k_is); (case hm_UnlikeRules => k_is); (case ty_UnlikeRules => k_is); (case cl_UnlikeRules => k_is); (case mr_UnlikeRules => exact rfl); (case aC_InvalidOperation => k_is); (case ga_InvalidOperation => k_is); (case gg_InvalidOperation => k_is); (case sb_InvalidOperation => k_is); (case hd_InvalidOperation => k_is); (case ha_InvalidOperation => k_is); (case hm_InvalidOperation => k_is); (case ty_InvalidOperation => k_is); (case cl_InvalidOperation => k_is); (case mr_InvalidOperation => exact rfl); (case aC_Nothing => k_is); (case ga_Nothing => k_is); (case gg_Nothing => k_is); (case sb_Nothing => k_is); (case hd_Nothing => k_is); (case ha_Nothing => k_is); (case hm_Nothing => k_is); (case ty_Nothing => k_is); (case cl_Nothing => k_is); (case mr_Nothing => exact rfl); (case aC_InvalidCommand => k_is); (case ga_InvalidCommand => k_is); (case gg_InvalidCommand => k_is); (case sb_InvalidCommand => k_is); (case hd_InvalidCommand => k_is); (case ha_InvalidCommand => k_is); (case hm_InvalidCommand => k_is); (case ty_InvalidCommand => k_is); (case cl_InvalidCommand => k_is); (case mr_InvalidCommand => exact rfl); (case ne_InvalidRule => k_is); (case ne_InvalidRuns => k_is); (case nd_errs => decide); (case a0 => k_is); (case l0 => k_is); (case c0 => k_is); (case k0 => k_is); (case a1 => k_is); (case l1 => k_is); (case c1 => k_is); (case k1 => k_is); (case a2 => k_is); (case l2 => k_is); (case c2 => k_is); (case k2 => k_is); (case a3 => k_is); (case l3 => k_is); (case c3 => k_is); (case k3 => k_is); (case a4 => k_is); (case l4 => k_is); (case c4 => k_is); (case k4 => k_is); (case a5 => k_is); (case l5 => k_is); (case c5 => k_is); (case k5 => k_is); (case a6 => k_is); (case l6 => k_is); (case c6 => k_is); (case k6 => k_is); (case a7 => k_is); (case l7 => k_is); (case c7 => k_is); (case k7 => k_is); (case a8 => k_is); (case l8 => k_is); (case c8 => k_is); (case k8 => k_is); (case a9 => k_is); (case l9 => k_is); (case c9 => k_is); (case k9 => k_is); (case a10 => k_is); (case l10 => k_is); (case c10 => k_is); (case k10 => k_is); (case a11 => k_is); (case l11 => k_is); (case c11 => k_is); (case k11 => k_is); (case a12 => k_is); (case l12 => k_is); (case c12 => k_is); (case k12 => k_is); (case zb_ValueError => k_is); (case zb_all => k_is); (case zb_bool => k_is); (case zb_enumerate => k_is); (case zb_int => k_is); (case zb_isinstance => k_is); (case zb_len => k_is); (case zb_list => k_is); (case zb_max => k_is); (case zb_min => k_is); (case zb_range => k_is); (case zb_repr => k_is); (case zb_str => k_is); (case zb_tuple => k_is); (case zc_MOST_LEAF => k_is); (case zc_MOST_NUMBER => k_is); (case zc_MOST_SEEN => k_is)

