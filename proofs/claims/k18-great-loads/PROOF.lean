import PyProof.Rows.All
import Wide.All
import OpenK.AllK
import Wide.FinOn
import HandS.ForMost
import HandS.ForSpec
import HandS.Wide
import HandS.NoneIn
import HandS.IsInst
import HandS.Style
import HandS.Conv
import HandS.SetFor
import HandS.SortInts
import HandS.Strs
import HandS.Property
import HandS.Iter
import HandS.WideBits
import HandS.ExcInit
import HandS.ExcIs
import HandS.ExcField
import HandS.RaiseMore
import HandS.ExcValue
import HandS.Words
import HandS.Dict
import PyProof.ReprRoads
import HandS.TupAny
import HandS.Star
import KE.KRevSl
import HandS.DictComp
import KE.GoesEnum
import PySem.Challenge.RW_leafsplits_k18_great_loads
set_option Elab.async false
set_option linter.all false
set_option maxRecDepth 100000
/-! The pure layer: readings over plain data (D), with no heap in sight. -/
namespace Zz
open PySem PySem.Spec PyProof.Rows L2

/-- plain data -/
inductive D where
  | non | bl (b : Bool) | int (i : Int) | str (s : Str) | lst (xs : List D) | tup (xs : List D)
  | fls (xs : List D) | obj (c : Str) (fs : List (Str × D)) | dic | adr (a : Addr) | dct (ks : List Key) (ds : List D)
  /-- an exception of the own class c that was caught, without or with a field -/
  | exc (c : Str) (f : Option (Str × D))

def mutb : HO → Bool
  | .tup _ => false
  | .frz _ _ => false
  | .ext _ => false
  | .xd _ => false
  | _ => true
/-- an exception object at a -/
def exk (a : Addr) (cls : Value) (dd : Option Addr) : HO := .ext fun h => ∃ (o : Obj) (vs : Array Value), h.get? a = some o ∧ o.cls = cls ∧ o.dict = dd ∧ o.data = .fields vs

/-- a list that is never written: the script, or one of the written part -/
def SqF (K : PySem.W.Frag) (H : Hp) (a : Addr) (vs : List V) : Prop := (∃ o, H a = some (.frz o (.lst vs))) ∨ SqL K (fun _ => none) a vs
theorem SqF.seq {K : PySem.W.Frag} {H : Hp} {a : Addr} {vs : List V} (h : SqF K H a vs) : SqL K H a vs := by
  rcases h with ⟨o, h⟩ | h
  · exact .inl (.inr ⟨o, h⟩)
  · rcases h with (h | ⟨o, h⟩) | h
    · cases h
    · cases h
    · exact .inr h
theorem seqF {K : PySem.W.Frag} {H : Hp} {a : Addr} {vs : List V} (h : SqL K H a vs) : H a = some (.lst vs) ∨ SqF K H a vs := by
  rcases h with (h | ⟨o, h⟩) | h
  · exact .inl h
  · exact .inr (.inl ⟨o, h⟩)
  · exact .inr (.inr (.inr h))

mutual
/-- the value v stands for the data d; no mutable object of it lies in av -/
inductive Rep (K : PySem.W.Frag) (mg : Str → Option Value) (H : Hp) (av : Addr → Prop) : V → D → Prop
  | non : Rep K mg H av .non .non
  | bl (b : Bool) : Rep K mg H av (.bl b) (.bl b)
  | int (i : Int) : Rep K mg H av (.int i) (.int i)
  | str (s : Str) : Rep K mg H av (.str s) (.str s)
  | lst {a : Addr} {vs : List V} {ds : List D} : H a = some (.lst vs) → ¬ av a → Reps K mg H av vs ds → Rep K mg H av (.ref a) (.lst ds)
  | lsf {a : Addr} {vs : List V} {ds : List D} : SqF K H a vs → Reps K mg H av vs ds → Rep K mg H av (.ref a) (.fls ds)
  | tup {a : Addr} {vs : List V} {ds : List D} : SqT K H a vs → Reps K mg H av vs ds → Rep K mg H av (.ref a) (.tup ds)
  | obj {a C dx : Addr} {c : Str} {vs : List (Str × V)} {fs : List (Str × D)} : H a = some (.ins C dx vs) → mg c = some (.ref C) → ¬ av a → RepF K mg H av vs fs → Rep K mg H av (.ref a) (.obj c fs)
  | dic {a : Addr} : H a = some (.dK []) → ¬ av a → Rep K mg H av (.ref a) .dic
  | dct {a : Addr} {ks : List Key} {vs : List V} {ds : List D} : H a = some (.dK (ks.zip vs)) → ks.length = vs.length → ¬ av a → Reps K mg H av vs ds → Rep K mg H av (.ref a) (.dct ks ds)
  /-- an address alone -/
  | adr (a : Addr) : Rep K mg H av (.ref a) (.adr a)
  | exc0 {a C : Addr} {c : Str} : H a = some (exk a (.ref C) none) → mg c = some (.ref C) → Rep K mg H av (.ref a) (.exc c none)
  | exc1 {a C dx : Addr} {c n : Str} {v : V} {d : D} : H a = some (exk a (.ref C) (some dx)) → mg c = some (.ref C) → H dx = some (.xd [(n, v)]) → Rep K mg H av v d → Rep K mg H av (.ref a) (.exc c (some (n, d)))
inductive Reps (K : PySem.W.Frag) (mg : Str → Option Value) (H : Hp) (av : Addr → Prop) : List V → List D → Prop
  | nil : Reps K mg H av [] []
  | cons {v : V} {d : D} {vs : List V} {ds : List D} : Rep K mg H av v d → Reps K mg H av vs ds → Reps K mg H av (v :: vs) (d :: ds)
inductive RepF (K : PySem.W.Frag) (mg : Str → Option Value) (H : Hp) (av : Addr → Prop) : List (Str × V) → List (Str × D) → Prop
  | nil : RepF K mg H av [] []
  | cons {n : Str} {v : V} {d : D} {vs : List (Str × V)} {ds : List (Str × D)} : Rep K mg H av v d → RepF K mg H av vs ds → RepF K mg H av ((n, v) :: vs) ((n, d) :: ds)
end

section
variable {K : PySem.W.Frag} {mg : Str → Option Value} {H H' : Hp} {av av' : Addr → Prop}
/-- what carries a representation to another heap -/
def Carry (H H' : Hp) (av av' : Addr → Prop) : Prop := ∀ a o, H a = some o → (mutb o = true → ¬ av a) → H' a = some o ∧ (mutb o = true → ¬ av' a)
theorem Carry.sqF (k : Carry H H' av av') {a : Addr} {vs : List V} (h : SqF K H a vs) : SqF K H' a vs := by
  rcases h with ⟨o, h⟩ | h
  · exact .inl ⟨o, (k a _ h fun z => by cases z).1⟩
  · exact .inr h
theorem Carry.sqT (k : Carry H H' av av') {a : Addr} {vs : List V} (h : SqT K H a vs) : SqT K H' a vs := by
  rcases h with (h | ⟨o, h⟩) | h
  · exact .inl (.inl (k a _ h fun z => by cases z).1)
  · exact .inl (.inr ⟨o, (k a _ h fun z => by cases z).1⟩)
  · exact .inr h
mutual
theorem Rep.carry (k : Carry H H' av av') : ∀ {v : V} {d : D}, Rep K mg H av v d → Rep K mg H' av' v d
  | _, _, .non => .non
  | _, _, .bl b => .bl b
  | _, _, .int i => .int i
  | _, _, .str s => .str s
  | _, _, .lst h n r => .lst (k _ _ h fun _ => n).1 ((k _ _ h fun _ => n).2 rfl) (Reps.carry k r)
  | _, _, .lsf h r => .lsf (k.sqF h) (Reps.carry k r)
  | _, _, .tup h r => .tup (k.sqT h) (Reps.carry k r)
  | _, _, .obj h m n r => .obj (k _ _ h fun _ => n).1 m ((k _ _ h fun _ => n).2 rfl) (RepF.carry k r)
  | _, _, .dic h n => .dic (k _ _ h fun _ => n).1 ((k _ _ h fun _ => n).2 rfl)
  | _, _, .dct h e n r => .dct (k _ _ h fun _ => n).1 e ((k _ _ h fun _ => n).2 rfl) (Reps.carry k r)
  | _, _, .adr a => .adr a
  | _, _, .exc0 h m => .exc0 (k _ _ h fun z => Bool.noConfusion (show false = true from z)).1 m
  | _, _, .exc1 h m h2 r => .exc1 (k _ _ h fun z => Bool.noConfusion (show false = true from z)).1 m (k _ _ h2 fun z => Bool.noConfusion (show false = true from z)).1 (Rep.carry k r)
theorem Reps.carry (k : Carry H H' av av') : ∀ {vs : List V} {ds : List D}, Reps K mg H av vs ds → Reps K mg H' av' vs ds
  | _, _, .nil => .nil
  | _, _, .cons r t => .cons (Rep.carry k r) (Reps.carry k t)
theorem RepF.carry (k : Carry H H' av av') : ∀ {vs : List (Str × V)} {ds : List (Str × D)}, RepF K mg H av vs ds → RepF K mg H' av' vs ds
  | _, _, .nil => .nil
  | _, _, .cons r t => .cons (Rep.carry k r) (RepF.carry k t)
end
theorem Carry.same (s : Same H H') (h : ∀ a, av' a → av a) : Carry H H' av av' := fun a o e n => ⟨s a o e, fun m z => n m (h a z)⟩
theorem Carry.new {p : Addr} {o : HO} (hp : H p = none) : Carry H (upd H p o) av (fun a => av a ∨ a = p) := fun a u e n => by
  have ne : a ≠ p := fun z => by rw [z, hp] at e; cases e
  exact ⟨by rw [upd_ne ne]; exact e, fun m z => z.elim (n m) ne⟩
theorem Carry.write {p : Addr} {o u : HO} (hp : H p = some u) (hm : mutb u = true) (ha : av p) : Carry H (upd H p o) av av := fun a w e n => by
  have ne : a ≠ p := fun z => by
    rw [z, hp] at e
    cases e
    exact n hm (z ▸ ha)
  exact ⟨by rw [upd_ne ne]; exact e, n⟩
theorem Carry.trans {H'' : Hp} {av'' : Addr → Prop} (a : Carry H H' av av') (b : Carry H' H'' av' av'') : Carry H H'' av av'' := fun c o e n =>
  let ⟨x, y⟩ := a c o e n
  b c o x y
theorem Carry.refl : Carry H H av av := fun _ _ e n => ⟨e, n⟩
theorem Same.upd {p : Addr} {o : HO} (hp : H p = none) : Same H (upd H p o) := fun b x e => by
  rw [upd_ne (ne_of_none e hp)]
  exact e

theorem Reps.length : ∀ {vs : List V} {ds : List D}, Reps K mg H av vs ds → vs.length = ds.length
  | _, _, .nil => rfl
  | _, _, .cons _ t => congrArg (· + 1) t.length
theorem Reps.get : ∀ {vs : List V} {ds : List D} {i : Nat} {d : D}, Reps K mg H av vs ds → ds[i]? = some d → ∃ v, vs[i]? = some v ∧ Rep K mg H av v d
  | _, _, _, _, .nil, e => by simp at e
  | _, _, 0, _, .cons r _, e => by simp at e; subst e; exact ⟨_, rfl, r⟩
  | _, _, i + 1, d, .cons r t, e => by
    obtain ⟨v, h1, h2⟩ := Reps.get (i := i) (d := d) t (by simpa using e)
    exact ⟨v, by simpa using h1, h2⟩
theorem Reps.getV : ∀ {vs : List V} {ds : List D} {i : Nat} {v : V}, Reps K mg H av vs ds → vs[i]? = some v → ∃ d, ds[i]? = some d ∧ Rep K mg H av v d
  | _, _, _, _, .nil, e => by simp at e
  | _, _, 0, _, .cons r _, e => by simp at e; subst e; exact ⟨_, rfl, r⟩
  | _, _, i + 1, v, .cons r t, e => by
    obtain ⟨d, h1, h2⟩ := Reps.getV (i := i) (v := v) t (by simpa using e)
    exact ⟨d, by simpa using h1, h2⟩
theorem Reps.append : ∀ {vs ws : List V} {ds es : List D}, Reps K mg H av vs ds → Reps K mg H av ws es → Reps K mg H av (vs ++ ws) (ds ++ es)
  | _, _, _, _, .nil, s => s
  | _, _, _, _, .cons r t, s => .cons r (t.append s)
theorem Reps.set {x : V} {d : D} (r : Rep K mg H av x d) : ∀ {vs : List V} {ds : List D} (i : Nat), Reps K mg H av vs ds → Reps K mg H av (vs.set i x) (ds.set i d)
  | _, _, _, .nil => .nil
  | _, _, 0, .cons _ t => .cons r t
  | _, _, i + 1, .cons q t => .cons q (Reps.set r i t)
theorem Reps.drop : ∀ {vs : List V} {ds : List D} (n : Nat), Reps K mg H av vs ds → Reps K mg H av (vs.drop n) (ds.drop n)
  | _, _, 0, r => r
  | _, _, _ + 1, .nil => .nil
  | _, _, n + 1, .cons _ t => Reps.drop n t
theorem Reps.take : ∀ {vs : List V} {ds : List D} (n : Nat), Reps K mg H av vs ds → Reps K mg H av (vs.take n) (ds.take n)
  | _, _, 0, _ => .nil
  | _, _, _ + 1, .nil => .nil
  | _, _, n + 1, .cons r t => .cons r (Reps.take n t)
theorem Reps.dropLast : ∀ {vs : List V} {ds : List D}, Reps K mg H av vs ds → Reps K mg H av vs.dropLast ds.dropLast
  | _, _, .nil => .nil
  | _, _, .cons _ .nil => .nil
  | _, _, .cons r (.cons q t) => .cons r (Reps.dropLast (.cons q t))
theorem Reps.reverse : ∀ {vs : List V} {ds : List D}, Reps K mg H av vs ds → Reps K mg H av vs.reverse ds.reverse
  | _, _, .nil => .nil
  | _, _, .cons r t => by
    rw [List.reverse_cons, List.reverse_cons]
    exact (Reps.reverse t).append (.cons r .nil)
theorem Rep.int_inv {v : V} {i : Int} (r : Rep K mg H av v (.int i)) : v = .int i := by cases r; rfl
theorem Rep.bl_inv {v : V} {b : Bool} (r : Rep K mg H av v (.bl b)) : v = .bl b := by cases r; rfl
theorem Rep.str_inv {v : V} {b : Str} (r : Rep K mg H av v (.str b)) : v = .str b := by cases r; rfl
theorem Rep.non_inv {v : V} (r : Rep K mg H av v .non) : v = .non := by cases r; rfl
theorem Rep.lst_inv {v : V} {ds : List D} (r : Rep K mg H av v (.lst ds)) : ∃ a vs, v = .ref a ∧ H a = some (.lst vs) ∧ Reps K mg H av vs ds := by
  cases r with
  | lst h n r => exact ⟨_, _, rfl, h, r⟩
theorem Rep.fls_inv {v : V} {ds : List D} (r : Rep K mg H av v (.fls ds)) : ∃ a vs, v = .ref a ∧ SqF K H a vs ∧ Reps K mg H av vs ds := by
  cases r with
  | lsf h r => exact ⟨_, _, rfl, h, r⟩
theorem Rep.tup_inv {v : V} {ds : List D} (r : Rep K mg H av v (.tup ds)) : ∃ a vs, v = .ref a ∧ SqT K H a vs ∧ Reps K mg H av vs ds := by
  cases r with
  | tup h r => exact ⟨_, _, rfl, h, r⟩
theorem Reps.ints : ∀ {vs : List V} {ns : List Int}, Reps K mg H av vs (ns.map D.int) → vs = ns.map V.int
  | _, [], .nil => rfl
  | _, n :: ns, .cons r t => by
    rw [r.int_inv, Reps.ints t]
    rfl
theorem Reps.ofInts : ∀ (ns : List Int), Reps K mg H av (ns.map V.int) (ns.map D.int)
  | [] => .nil
  | n :: ns => .cons (.int n) (Reps.ofInts ns)
theorem Reps.bls : ∀ {vs : List V} {ns : List Bool}, Reps K mg H av vs (ns.map D.bl) → vs = ns.map V.bl
  | _, [], .nil => rfl
  | _, n :: ns, .cons r t => by
    rw [r.bl_inv, Reps.bls t]
    rfl
theorem Reps.strs : ∀ {vs : List V} {ns : List Str}, Reps K mg H av vs (ns.map D.str) → vs = ns.map V.str
  | _, [], .nil => rfl
  | _, n :: ns, .cons r t => by
    rw [r.str_inv, Reps.strs t]
    rfl
end

/-! ### data without mutable objects -/
mutual
def D.tdata : D → Bool
  | .lst _ => false
  | .fls _ => false
  | .obj _ _ => false
  | .adr _ => false
  | .dic => false
  | .dct _ _ => false
  | .exc _ _ => false
  | .tup xs => D.tdatas xs
  | _ => true
def D.tdatas : List D → Bool
  | [] => true
  | x :: xs => x.tdata && D.tdatas xs
end
section
variable {K : PySem.W.Frag} {mg : Str → Option Value} {H : Hp} {av av' : Addr → Prop}
mutual
theorem Rep.free : ∀ {v : V} {d : D}, Rep K mg H av v d → d.tdata = true → Rep K mg H av' v d
  | _, _, .non, _ => .non
  | _, _, .bl b, _ => .bl b
  | _, _, .int i, _ => .int i
  | _, _, .str s, _ => .str s
  | _, _, .lst _ _ _, e => by simp [D.tdata] at e
  | _, _, .lsf _ _, e => by simp [D.tdata] at e
  | _, _, .tup h r, e => .tup h (Reps.free r (by simpa [D.tdata] using e))
  | _, _, .obj _ _ _ _, e => by simp [D.tdata] at e
  | _, _, .adr _, e => by simp [D.tdata] at e
  | _, _, .dic _ _, e => by simp [D.tdata] at e
  | _, _, .dct _ _ _ _, e => by simp [D.tdata] at e
  | _, _, .exc0 _ _, e => by simp [D.tdata] at e
  | _, _, .exc1 _ _ _ _, e => by simp [D.tdata] at e
theorem Reps.free : ∀ {vs : List V} {ds : List D}, Reps K mg H av vs ds → D.tdatas ds = true → Reps K mg H av' vs ds
  | _, _, .nil, _ => .nil
  | _, _, .cons r t, e => by
    simp only [D.tdatas, Bool.and_eq_true] at e
    exact .cons (Rep.free r e.1) (Reps.free t e.2)
end
end

/-! ### as data that == and repr know -/
mutual
def D.py : D → Option PyData
  | .non => some .none
  | .bl b => some (.bool b)
  | .int i => some (.int i)
  | .str s => some (.str s)
  | .lst xs => (D.pys xs).map .list
  | .fls xs => (D.pys xs).map .list
  | .tup xs => (D.pys xs).map .tuple
  | _ => none
def D.pys : List D → Option (List PyData)
  | [] => some []
  | x :: xs => x.py.bind fun p => (D.pys xs).map fun ps => p :: ps
end
section
variable {K : PySem.W.Frag} {mg : Str → Option Value} {H : Hp} {av : Addr → Prop}
mutual
theorem Rep.dp : ∀ {v : V} {d : D} {p : PyData}, Rep K mg H av v d → d.py = some p → Dp K H v p
  | _, _, _, .non, e => by simp [D.py] at e; subst e; exact .non
  | _, _, _, .bl b, e => by simp [D.py] at e; subst e; exact .bl b
  | _, _, _, .int i, e => by simp [D.py] at e; subst e; exact .int i
  | _, _, _, .str s, e => by simp [D.py] at e; subst e; exact .str s
  | _, _, _, .lst h n r, e => by
    simp only [D.py, Option.map_eq_some_iff] at e
    obtain ⟨ps, e, rfl⟩ := e
    exact .lst (.inl (.inl h)) (Reps.dp r e)
  | _, _, _, .lsf h r, e => by
    simp only [D.py, Option.map_eq_some_iff] at e
    obtain ⟨ps, e, rfl⟩ := e
    exact .lst h.seq (Reps.dp r e)
  | _, _, _, .tup h r, e => by
    simp only [D.py, Option.map_eq_some_iff] at e
    obtain ⟨ps, e, rfl⟩ := e
    exact .tup h (Reps.dp r e)
  | _, _, _, .obj _ _ _ _, e => by simp [D.py] at e
  | _, _, _, .dic _ _, e => by simp [D.py] at e
  | _, _, _, .dct _ _ _ _, e => by simp [D.py] at e
  | _, _, _, .exc0 _ _, e => by simp [D.py] at e
  | _, _, _, .exc1 _ _ _ _, e => by simp [D.py] at e
theorem Reps.dp : ∀ {vs : List V} {ds : List D} {ps : List PyData}, Reps K mg H av vs ds → D.pys ds = some ps → DpAll K H vs ps
  | _, _, _, .nil, e => by simp [D.pys] at e; subst e; exact .nil
  | _, _, _, .cons r t, e => by
    simp only [D.pys, Option.bind_eq_some_iff, Option.map_eq_some_iff] at e
    obtain ⟨p, e1, ps, e2, rfl⟩ := e
    exact .cons (Rep.dp r e1) (Reps.dp t e2)
end
end

/-! ### the state -/
/-! own trees: lists and objects that nobody else knows, each at its address; data at the leaves -/
mutual
/-- what an own cell holds: a list, an object (names and values of its fields) -/
inductive GO where
  | l (xs : List OT) | o (c : Str) (ns : List Str) (xs : List OT)
inductive OT where
  | d (x : D) | c (a : Addr) (g : GO)
end
mutual
def GO.foot : GO → List Addr
  | .l xs => OT.foots xs
  | .o _ _ xs => OT.foots xs
def OT.foot : OT → List Addr
  | .d _ => []
  | .c a g => a :: GO.foot g
def OT.foots : List OT → List Addr
  | [] => []
  | x :: xs => OT.foot x ++ OT.foots xs
end
/-- what a slot holds: nothing known, data, a list of its own; an own tree (also behind the names) -/
inductive Sl where
  | un | sh (d : D) | ow (xs : List D) | gh (a : Addr) (g : GO)
def Sl.isG : Sl → Bool
  | .gh _ _ => true
  | _ => false
abbrev SS := List Sl

structure Zc where
  H0 : Hp
  av : Addr → Prop
  bag : Option Addr
  ez : Str → Option (Str × D) → Prop

/-- a is one of the cells of the own tree in slot i -/
def Gh (S : SS) (i : Nat) (a : Addr) : Prop := ∃ b g, S[i]? = some (.gh b g) ∧ a ∈ b :: g.foot
def avs (Z : Zc) (S : SS) (σ : L2.St) : Addr → Prop := fun a => Z.av a ∨ (∃ (i : Nat) (xs : List D), S[i]? = some (.ow xs) ∧ σ[i]? = some (some (.ref a))) ∨ ∃ (i : Nat), Gh S i a
mutual
/-- an own cell at a -/
inductive GRep0 (K : PySem.W.Frag) (mg : Str → Option Value) (H : Hp) (av : Addr → Prop) : Addr → GO → Prop
  | l {a : Addr} {vs : List V} {xs : List OT} : H a = some (.lst vs) → OReps K mg H av vs xs → GRep0 K mg H av a (.l xs)
  | o {a C dx : Addr} {c : Str} {ns : List Str} {vs : List V} {xs : List OT} : H a = some (.ins C dx (ns.zip vs)) → mg c = some (.ref C) → ns.length = vs.length → OReps K mg H av vs xs → GRep0 K mg H av a (.o c ns xs)
inductive ORep (K : PySem.W.Frag) (mg : Str → Option Value) (H : Hp) (av : Addr → Prop) : V → OT → Prop
  | d {v : V} {x : D} : Rep K mg H av v x → ORep K mg H av v (.d x)
  | c {a : Addr} {g : GO} : GRep0 K mg H av a g → ORep K mg H av (.ref a) (.c a g)
inductive OReps (K : PySem.W.Frag) (mg : Str → Option Value) (H : Hp) (av : Addr → Prop) : List V → List OT → Prop
  | nil : OReps K mg H av [] []
  | cons {v : V} {x : OT} {vs : List V} {xs : List OT} : ORep K mg H av v x → OReps K mg H av vs xs → OReps K mg H av (v :: vs) (x :: xs)
end
/-- an own tree at a: its cells stand apart -/
structure GRep (K : PySem.W.Frag) (mg : Str → Option Value) (H : Hp) (av : Addr → Prop) (a : Addr) (g : GO) : Prop where
  rep : GRep0 K mg H av a g
  nd : (a :: g.foot).Nodup

structure SlotsOk (X : Cx) (av : Addr → Prop) (S : SS) (σ : L2.St) (H : Hp) : Prop where
  sh : ∀ (i : Nat) d, S[i]? = some (.sh d) → ∃ v, σ[i]? = some (some v) ∧ Rep X.K X.mg H av v d
  ow : ∀ (i : Nat) xs, S[i]? = some (.ow xs) → ∃ a vs, σ[i]? = some (some (.ref a)) ∧ H a = some (.lst vs) ∧ Reps X.K X.mg H av vs xs
  gh : ∀ (i : Nat) a g, S[i]? = some (.gh a g) → GRep X.K X.mg H av a g

structure Ok (X : Cx) (Z : Zc) (S : SS) (σ : L2.St) (H : Hp) : Prop where
  len : σ.length ≤ S.length
  nm : X.N.length ≤ σ.length
  gi : ∀ (i : Nat) a g, S[i]? = some (.gh a g) → σ.length ≤ i ∨ σ[i]? = some (some (.ref a))
  sl : SlotsOk X (avs Z S σ) S σ H
  inj : ∀ (i j : Nat) xs ys a, S[i]? = some (.ow xs) → S[j]? = some (.ow ys) → σ[i]? = some (some (.ref a)) → σ[j]? = some (some (.ref a)) → i = j
  own : ∀ (i : Nat) xs a, S[i]? = some (.ow xs) → σ[i]? = some (some (.ref a)) → (Z.H0 a = none ∨ Z.bag = some a) ∧ ¬ Z.av a
  ext : ∀ a o, Z.H0 a = some o → Z.bag ≠ some a → H a = some o
  avd : ∀ a, Z.av a → H a ≠ none
  bag : ∀ b, Z.bag = some b → ∃ xs, S[0]? = some (.ow xs) ∧ σ[0]? = some (some (.ref b))
  /-- own cells stand apart -/
  gow : ∀ (i j : Nat) xs a, S[i]? = some (.ow xs) → σ[i]? = some (some (.ref a)) → Gh S j a → False
  ginj : ∀ (i j : Nat) a, Gh S i a → Gh S j a → i = j
  gown : ∀ (i : Nat) a, Gh S i a → (Z.H0 a = none ∧ Z.bag ≠ some a) ∧ ¬ Z.av a

section
variable {X : Cx} {Z : Zc} {S S' : SS} {σ σ' : L2.St} {H H' : Hp}
mutual
theorem GRep0.carry {K : PySem.W.Frag} {mg : Str → Option Value} {av av' : Addr → Prop} (k : Carry H H' av av') : ∀ {a : Addr} {g : GO}, GRep0 K mg H av a g → (∀ b ∈ a :: g.foot, ∀ o, H b = some o → H' b = some o) → GRep0 K mg H' av' a g
  | _, _, .l h r, f => .l (f _ List.mem_cons_self _ h) (OReps.carry k r fun b hb => f b (List.mem_cons_of_mem _ hb))
  | _, _, .o h m n r, f => .o (f _ List.mem_cons_self _ h) m n (OReps.carry k r fun b hb => f b (List.mem_cons_of_mem _ hb))
theorem ORep.carry {K : PySem.W.Frag} {mg : Str → Option Value} {av av' : Addr → Prop} (k : Carry H H' av av') : ∀ {v : V} {x : OT}, ORep K mg H av v x → (∀ b ∈ x.foot, ∀ o, H b = some o → H' b = some o) → ORep K mg H' av' v x
  | _, _, .d r, _ => .d (r.carry k)
  | _, _, .c r, f => .c (GRep0.carry k r f)
theorem OReps.carry {K : PySem.W.Frag} {mg : Str → Option Value} {av av' : Addr → Prop} (k : Carry H H' av av') : ∀ {vs : List V} {xs : List OT}, OReps K mg H av vs xs → (∀ b ∈ OT.foots xs, ∀ o, H b = some o → H' b = some o) → OReps K mg H' av' vs xs
  | _, _, .nil, _ => .nil
  | _, _, .cons r t, f => .cons (ORep.carry k r fun b hb => f b (List.mem_append_left _ hb)) (OReps.carry k t fun b hb => f b (List.mem_append_right _ hb))
end
theorem GRep.carry {K : PySem.W.Frag} {mg : Str → Option Value} {av av' : Addr → Prop} {a : Addr} {g : GO} (r : GRep K mg H av a g) (k : Carry H H' av av') (h : ∀ b ∈ a :: g.foot, ∀ o, H b = some o → H' b = some o) : GRep K mg H' av' a g := ⟨r.rep.carry k h, r.nd⟩
mutual
theorem GRep0.there {K : PySem.W.Frag} {mg : Str → Option Value} {av : Addr → Prop} : ∀ {a : Addr} {g : GO}, GRep0 K mg H av a g → ∀ b ∈ a :: g.foot, H b ≠ none
  | _, _, .l h r, b, hb => by
    rcases List.mem_cons.mp hb with rfl | hb
    · rw [h]; exact fun z => by cases z
    · exact OReps.there r b hb
  | _, _, .o h m n r, b, hb => by
    rcases List.mem_cons.mp hb with rfl | hb
    · rw [h]; exact fun z => by cases z
    · exact OReps.there r b hb
theorem ORep.there {K : PySem.W.Frag} {mg : Str → Option Value} {av : Addr → Prop} : ∀ {v : V} {x : OT}, ORep K mg H av v x → ∀ b ∈ x.foot, H b ≠ none
  | _, _, .d r, b, hb => by cases hb
  | _, _, .c r, b, hb => GRep0.there r b hb
theorem OReps.there {K : PySem.W.Frag} {mg : Str → Option Value} {av : Addr → Prop} : ∀ {vs : List V} {xs : List OT}, OReps K mg H av vs xs → ∀ b ∈ OT.foots xs, H b ≠ none
  | _, _, .nil, b, hb => by cases hb
  | _, _, .cons r t, b, hb => (List.mem_append.mp hb).elim (ORep.there r b) (OReps.there t b)
end
theorem SlotsOk.gthere {av : Addr → Prop} (s : SlotsOk X av S σ H) {i : Nat} {a : Addr} (h : Gh S i a) : H a ≠ none := by
  obtain ⟨b, g, h1, h2⟩ := h
  exact (s.gh i b g h1).rep.there a h2
/-- what is put in a slot leaves the own cells -/
theorem gh_back {i j : Nat} {s : Sl} {a : Addr} {g : GO} (h : (S.set i s)[j]? = some (.gh a g)) (hs : s.isG = false := by rfl) : i ≠ j ∧ S[j]? = some (.gh a g) := by
  have hj : i ≠ j := fun z => by
    subst z
    by_cases hl : i < S.length
    · rw [List.getElem?_set_self hl] at h
      rw [Option.some.inj h] at hs
      cases hs
    · rw [List.getElem?_eq_none (by simpa using hl)] at h; cases h
  rw [List.getElem?_set_ne hj] at h
  exact ⟨hj, h⟩
theorem hg_back {i j : Nat} {s : Sl} {a : Addr} (h : Gh (S.set i s) j a) (hs : s.isG = false := by rfl) : i ≠ j ∧ Gh S j a := by
  obtain ⟨b, g, h1, h2⟩ := h
  obtain ⟨n, h3⟩ := gh_back h1 hs
  exact ⟨n, b, g, h3, h2⟩
theorem gi_set {i j : Nat} {y x : Option V} (n : i ≠ j) (h : σ.length ≤ j ∨ σ[j]? = some x) : (σ.set i y).length ≤ j ∨ (σ.set i y)[j]? = some x := by
  rw [List.length_set, List.getElem?_set_ne n]
  exact h
theorem SlotsOk.carry {av av' : Addr → Prop} (s : SlotsOk X av S σ H) (k : Carry H H' av av') (ko : ∀ (i : Nat) xs a vs, S[i]? = some (.ow xs) → σ[i]? = some (some (.ref a)) → H a = some (.lst vs) → H' a = some (.lst vs)) (kg : ∀ (i : Nat) b o, Gh S i b → H b = some o → H' b = some o) : SlotsOk X av' S σ H' := by
  refine ⟨fun i d e => ?_, fun i xs e => ?_, fun i a g e => (s.gh i a g e).carry k fun b hb o => kg i b o ⟨a, g, e, hb⟩⟩
  · obtain ⟨v, h1, h2⟩ := s.sh i d e
    exact ⟨v, h1, h2.carry k⟩
  · obtain ⟨a, vs, h1, h2, h3⟩ := s.ow i xs e
    exact ⟨a, vs, h1, ko i xs a vs e h1 h2, h3.carry k⟩
/-- nothing but new objects -/
theorem Ok.same (ok : Ok X Z S σ H) (s : Same H H') : Ok X Z S σ H' :=
  ⟨ok.len, ok.nm, ok.gi, ok.sl.carry (.same s fun _ z => z) (fun _ _ a vs _ _ e => s a _ e) fun _ b o _ e => s b o e, ok.inj, ok.own, fun a o e n => s a o (ok.ext a o e n), fun a z e => ok.avd a z (s.free e), ok.bag, ok.gow, ok.ginj, ok.gown⟩
theorem Ok.hasOw (ok : Ok X Z S σ H) {i : Nat} {xs : List D} (e : S[i]? = some (.ow xs)) : ∃ a vs, σ[i]? = some (some (.ref a)) ∧ H a = some (.lst vs) ∧ Reps X.K X.mg H (avs Z S σ) vs xs := ok.sl.ow i xs e
theorem avs_at {i : Nat} {xs : List D} {a : Addr} (e : S[i]? = some (.ow xs)) (h : σ[i]? = some (some (.ref a))) : avs Z S σ a := .inr (.inl ⟨i, xs, e, h⟩)
theorem avs_gh {i : Nat} {a : Addr} (e : Gh S i a) : avs Z S σ a := .inr (.inr ⟨i, e⟩)
/-- the content of an own list changes -/
theorem set_ow {i j : Nat} {xs ys zs : List D} (e : S[i]? = some (.ow xs)) (h : (S.set i (.ow ys))[j]? = some (.ow zs)) : ∃ ws, S[j]? = some (.ow ws) := by
  by_cases hj : i = j
  · subst hj; exact ⟨xs, e⟩
  · rw [List.getElem?_set_ne hj] at h; exact ⟨zs, h⟩
theorem ow_set {i j : Nat} {xs ys ws : List D} (e : S[i]? = some (.ow xs)) (h : S[j]? = some (.ow ws)) : ∃ zs, (S.set i (.ow ys))[j]? = some (.ow zs) := by
  by_cases hj : i = j
  · subst hj
    exact ⟨ys, List.getElem?_set_self (List.getElem?_eq_some_iff.mp e).1⟩
  · exact ⟨ws, by rw [List.getElem?_set_ne hj]; exact h⟩
theorem avs_set {i : Nat} {xs ys : List D} (e : S[i]? = some (.ow xs)) : avs Z (S.set i (.ow ys)) σ = avs Z S σ := by
  funext a
  refine propext ⟨fun h => ?_, fun h => ?_⟩
  · rcases h with h | ⟨j, zs, h1, h2⟩ | ⟨j, h1⟩
    · exact .inl h
    · obtain ⟨ws, h3⟩ := set_ow e h1
      exact .inr (.inl ⟨j, ws, h3, h2⟩)
    · exact .inr (.inr ⟨j, (hg_back h1).2⟩)
  · rcases h with h | ⟨j, zs, h1, h2⟩ | ⟨j, h1⟩
    · exact .inl h
    · obtain ⟨ws, h3⟩ := ow_set (ys := ys) e h1
      exact .inr (.inl ⟨j, ws, h3, h2⟩)
    · obtain ⟨b, g, h2, h3⟩ := h1
      refine .inr (.inr ⟨j, b, g, ?_, h3⟩)
      rw [List.getElem?_set_ne fun z => by rw [← z, e] at h2; cases h2]
      exact h2
theorem Ok.write (ok : Ok X Z S σ H) {i : Nat} {xs ys : List D} {a : Addr} {vs ws : List V} (e : S[i]? = some (.ow xs)) (ha : σ[i]? = some (some (.ref a))) (hv : H a = some (.lst vs)) (hw : Reps X.K X.mg H (avs Z S σ) ws ys) :
    Ok X Z (S.set i (.ow ys)) σ (upd H a (.lst ws)) := by
  have k : Carry H (upd H a (.lst ws)) (avs Z S σ) (avs Z S σ) := .write hv rfl (avs_at e ha)
  have hil : i < S.length := (List.getElem?_eq_some_iff.mp e).1
  refine ⟨by rw [List.length_set]; exact ok.len, ok.nm, fun j b g h => ok.gi j b g (gh_back h).2, ⟨fun j d h => ?_, fun j zs h => ?_, fun j b g h => ?_⟩, fun j l zs ys' b h1 h2 h3 h4 => ?_, fun j zs b h1 h2 => ?_, fun b o h n => ?_, fun b z h => ?_, fun b h => ?_, fun j l zs b h1 h2 h3 => ?_, fun j l b h1 h2 => ok.ginj j l b (hg_back h1).2 (hg_back h2).2, fun j b h => ok.gown j b (hg_back h).2⟩
  · have hj : i ≠ j := fun z => by
      subst z
      rw [List.getElem?_set_self hil] at h
      cases h
    rw [List.getElem?_set_ne hj] at h
    obtain ⟨v, h1, h2⟩ := ok.sl.sh j d h
    rw [avs_set e]
    exact ⟨v, h1, h2.carry k⟩
  · rw [avs_set e]
    by_cases hj : i = j
    · subst hj
      rw [List.getElem?_set_self hil] at h
      cases h
      exact ⟨a, ws, ha, upd_same, hw.carry k⟩
    · rw [List.getElem?_set_ne hj] at h
      obtain ⟨b, us, h1, h2, h3⟩ := ok.sl.ow j zs h
      have ne : b ≠ a := fun z => hj (ok.inj i j _ _ a e h ha (z ▸ h1))
      exact ⟨b, us, h1, by rw [upd_ne ne]; exact h2, h3.carry k⟩
  · obtain ⟨_, h⟩ := gh_back h
    rw [avs_set e]
    exact (ok.sl.gh j b g h).carry k fun b' hb' o ho => by
      rw [upd_ne fun z => ok.gow i j xs a e ha ⟨b, g, h, by rw [← z]; exact hb'⟩]
      exact ho
  · obtain ⟨_, q1⟩ := set_ow e h1
    obtain ⟨_, q2⟩ := set_ow e h2
    exact ok.inj j l _ _ b q1 q2 h3 h4
  · obtain ⟨_, q1⟩ := set_ow e h1
    exact ok.own j _ b q1 h2
  · have ne : b ≠ a := fun z => by
      subst z
      rcases (ok.own i xs b e ha).1 with q | q
      · rw [h] at q; cases q
      · exact n q
    rw [upd_ne ne]
    exact ok.ext b o h n
  · by_cases hb : b = a
    · subst hb; rw [upd_same] at h; cases h
    · rw [upd_ne hb] at h; exact ok.avd b z h
  · obtain ⟨zs, h1, h2⟩ := ok.bag b h
    obtain ⟨us, h3⟩ := ow_set (ys := ys) e h1
    exact ⟨us, h3, h2⟩
  · obtain ⟨_, q1⟩ := set_ow e h1
    exact ok.gow j l _ b q1 h2 (hg_back h3).2
/-- an own list is not changed any more -/
theorem avs_frz {i : Nat} {d : D} : ∀ a, avs Z (S.set i (.sh d)) σ a → avs Z S σ a := fun a h => by
  rcases h with h | ⟨j, zs, h1, h2⟩ | ⟨j, h1⟩
  rotate_right
  · exact .inr (.inr ⟨j, (hg_back h1).2⟩)
  · exact .inl h
  · have hj : i ≠ j := fun z => by
      subst z
      by_cases hl : i < S.length
      · rw [List.getElem?_set_self hl] at h1; cases h1
      · rw [List.getElem?_eq_none (by simpa using hl)] at h1; cases h1
    rw [List.getElem?_set_ne hj] at h1
    exact .inr (.inl ⟨j, zs, h1, h2⟩)
theorem Ok.frz (ok : Ok X Z S σ H) {i : Nat} {xs : List D} {a : Addr} (e : S[i]? = some (.ow xs)) (ha : σ[i]? = some (some (.ref a))) (hb : Z.bag = none ∨ i ≠ 0) :
    Ok X Z (S.set i (.sh (.lst xs))) σ H ∧ Rep X.K X.mg H (avs Z (S.set i (.sh (.lst xs))) σ) (.ref a) (.lst xs) := by
  have hil : i < S.length := (List.getElem?_eq_some_iff.mp e).1
  obtain ⟨a', vs, ha', hv, hr⟩ := ok.sl.ow i xs e
  rw [ha] at ha'
  cases ha'
  have k : Carry H H (avs Z S σ) (avs Z (S.set i (.sh (.lst xs))) σ) := .same (Same.refl H) avs_frz
  have back : ∀ {j : Nat} {zs : List D}, (S.set i (.sh (.lst xs)))[j]? = some (.ow zs) → i ≠ j ∧ S[j]? = some (.ow zs) := fun {j zs} h => by
    have hj : i ≠ j := fun z => by
      subst z
      rw [List.getElem?_set_self hil] at h; cases h
    rw [List.getElem?_set_ne hj] at h
    exact ⟨hj, h⟩
  have na : ¬ avs Z (S.set i (.sh (.lst xs))) σ a := fun h => by
    rcases h with h | ⟨j, zs, h1, h2⟩ | ⟨j, h1⟩
    · exact (ok.own i xs a e ha).2 h
    · obtain ⟨hj, h1⟩ := back h1
      exact hj (ok.inj i j _ _ a e h1 ha h2)
    · exact ok.gow i j xs a e ha (hg_back h1).2
  have rep : Rep X.K X.mg H (avs Z (S.set i (.sh (.lst xs))) σ) (.ref a) (.lst xs) := .lst hv na (hr.carry k)
  refine ⟨⟨by rw [List.length_set]; exact ok.len, ok.nm, fun j b g h => ok.gi j b g (gh_back h).2, ⟨fun j d h => ?_, fun j zs h => ?_, fun j b g h => (ok.sl.gh j b g (gh_back h).2).carry k fun _ _ o h => h⟩, fun j l zs ys' b h1 h2 h3 h4 => ?_, fun j zs b h1 h2 => ?_, ok.ext, ok.avd, fun b h => ?_, fun j l zs b h1 h2 h3 => ok.gow j l zs b (back h1).2 h2 (hg_back h3).2, fun j l b h1 h2 => ok.ginj j l b (hg_back h1).2 (hg_back h2).2, fun j b h => ok.gown j b (hg_back h).2⟩, rep⟩
  · by_cases hj : i = j
    · subst hj
      rw [List.getElem?_set_self hil] at h
      cases h
      exact ⟨_, ha, rep⟩
    · rw [List.getElem?_set_ne hj] at h
      obtain ⟨v, h1, h2⟩ := ok.sl.sh j d h
      exact ⟨v, h1, h2.carry k⟩
  · obtain ⟨_, h⟩ := back h
    obtain ⟨b, us, h1, h2, h3⟩ := ok.sl.ow j zs h
    exact ⟨b, us, h1, h2, h3.carry k⟩
  · exact ok.inj j l _ _ b (back h1).2 (back h2).2 h3 h4
  · exact ok.own j _ b (back h1).2 h2
  · obtain ⟨zs, h1, h2⟩ := ok.bag b h
    have hi0 : i ≠ 0 := by
      rcases hb with z | z
      · rw [z] at h; cases h
      · exact z
    exact ⟨zs, by rw [List.getElem?_set_ne hi0]; exact h1, h2⟩
/-- a slot gets data -/
theorem Ok.setSh (ok : Ok X Z S σ H) {i : Nat} {v : V} {d : D} (r : Rep X.K X.mg H (avs Z S σ) v d) (hb : Z.bag = none ∨ i ≠ 0) (hn : i < X.N.length) :
    Ok X Z (S.set i (.sh d)) (σ.set i (some v)) H ∧ Carry H H (avs Z S σ) (avs Z (S.set i (.sh d)) (σ.set i (some v))) := by
  have back : ∀ {j : Nat} {zs : List D}, (S.set i (.sh d))[j]? = some (.ow zs) → i ≠ j ∧ S[j]? = some (.ow zs) := fun {j zs} h => by
    have hj : i ≠ j := fun z => by
      subst z
      by_cases hl : i < S.length
      · rw [List.getElem?_set_self hl] at h; cases h
      · rw [List.getElem?_eq_none (by simpa using hl)] at h; cases h
    rw [List.getElem?_set_ne hj] at h
    exact ⟨hj, h⟩
  have sub : ∀ a, avs Z (S.set i (.sh d)) (σ.set i (some v)) a → avs Z S σ a := fun a h => by
    rcases h with h | ⟨j, zs, h1, h2⟩ | ⟨j, h1⟩
    · exact .inl h
    · obtain ⟨hj, h1⟩ := back h1
      rw [List.getElem?_set_ne hj] at h2
      exact .inr (.inl ⟨j, zs, h1, h2⟩)
    · exact .inr (.inr ⟨j, (hg_back h1).2⟩)
  have k : Carry H H (avs Z S σ) (avs Z (S.set i (.sh d)) (σ.set i (some v))) := .same (Same.refl H) sub
  have hil : i < σ.length := Nat.lt_of_lt_of_le hn ok.nm
  refine ⟨⟨by rw [List.length_set, List.length_set]; exact ok.len, by rw [List.length_set]; exact ok.nm, fun j b g h => gi_set (gh_back h).1 (ok.gi j b g (gh_back h).2), ⟨fun j d' h => ?_, fun j zs h => ?_, fun j b g h => (ok.sl.gh j b g (gh_back h).2).carry k fun _ _ o h => h⟩, fun j l zs ys' b h1 h2 h3 h4 => ?_, fun j zs b h1 h2 => ?_, ok.ext, ok.avd, fun b h => ?_, fun j l zs b h1 h2 h3 => ?_, fun j l b h1 h2 => ok.ginj j l b (hg_back h1).2 (hg_back h2).2, fun j b h => ok.gown j b (hg_back h).2⟩, k⟩
  · by_cases hj : i = j
    · subst hj
      rw [List.getElem?_set_self (Nat.lt_of_lt_of_le hil ok.len)] at h
      cases h
      exact ⟨v, List.getElem?_set_self hil, r.carry k⟩
    · rw [List.getElem?_set_ne hj] at h
      obtain ⟨v', h1, h2⟩ := ok.sl.sh j d' h
      exact ⟨v', by rw [List.getElem?_set_ne hj]; exact h1, h2.carry k⟩
  · obtain ⟨hj, h⟩ := back h
    obtain ⟨b, us, h1, h2, h3⟩ := ok.sl.ow j zs h
    exact ⟨b, us, by rw [List.getElem?_set_ne hj]; exact h1, h2, h3.carry k⟩
  · obtain ⟨n1, h1⟩ := back h1
    obtain ⟨n2, h2⟩ := back h2
    rw [List.getElem?_set_ne n1] at h3
    rw [List.getElem?_set_ne n2] at h4
    exact ok.inj j l _ _ b h1 h2 h3 h4
  · obtain ⟨n1, h1⟩ := back h1
    rw [List.getElem?_set_ne n1] at h2
    exact ok.own j _ b h1 h2
  · obtain ⟨zs, h1, h2⟩ := ok.bag b h
    have hi0 : i ≠ 0 := by
      rcases hb with z | z
      · rw [z] at h; cases h
      · exact z
    exact ⟨zs, by rw [List.getElem?_set_ne hi0]; exact h1, by rw [List.getElem?_set_ne hi0]; exact h2⟩
  · obtain ⟨n1, h1⟩ := back h1
    rw [List.getElem?_set_ne n1] at h2
    exact ok.gow j l zs b h1 h2 (hg_back h3).2
/-- a list that nobody else knows, at a -/
structure Fresh (X : Cx) (Z : Zc) (S : SS) (σ : L2.St) (H : Hp) (a : Addr) (xs : List D) : Prop where
  at_ : ∃ vs, H a = some (.lst vs) ∧ Reps X.K X.mg H (fun b => avs Z S σ b ∨ b = a) vs xs
  new : Z.H0 a = none
  nav : ¬ avs Z S σ a
  sl : SlotsOk X (fun b => avs Z S σ b ∨ b = a) S σ H
theorem Fresh.rep {a : Addr} {xs : List D} (f : Fresh X Z S σ H a xs) : Rep X.K X.mg H (avs Z S σ) (.ref a) (.lst xs) := by
  obtain ⟨vs, h, r⟩ := f.at_
  exact .lst h f.nav (r.carry (.same (Same.refl H) fun _ z => .inl z))
/-- a new list is laid -/
theorem Ok.newL (ok : Ok X Z S σ H) {a : Addr} {vs : List V} {xs : List D} (ha : H a = none) (r : Reps X.K X.mg H (avs Z S σ) vs xs) : Ok X Z S σ (upd H a (.lst vs)) ∧ Fresh X Z S σ (upd H a (.lst vs)) a xs := by
  have s : Same H (upd H a (.lst vs)) := Same.upd ha
  have k : Carry H (upd H a (.lst vs)) (avs Z S σ) (fun b => avs Z S σ b ∨ b = a) := .new ha
  refine ⟨ok.same s, ⟨vs, upd_same, r.carry k⟩, ?_, fun h => ?_, ok.sl.carry k (fun _ _ b us _ _ e => s b _ e) fun _ b o _ e => s b o e⟩
  · cases e : Z.H0 a with
    | none => rfl
    | some o =>
      by_cases hb : Z.bag = some a
      · obtain ⟨zs, h1, h2⟩ := ok.bag a hb
        obtain ⟨b, us, h3, h4, _⟩ := ok.sl.ow 0 zs h1
        rw [h2] at h3
        cases h3
        rw [ha] at h4
        cases h4
      · have := ok.ext a o e hb
        rw [ha] at this
        cases this
  · rcases h with h | ⟨j, zs, h1, h2⟩ | ⟨j, h1⟩
    · exact ok.avd a h ha
    · obtain ⟨b, us, h3, h4, _⟩ := ok.sl.ow j zs h1
      rw [h2] at h3
      cases h3
      rw [ha] at h4
      cases h4
    · exact ok.sl.gthere h1 ha
/-- a slot gets a list of its own -/
theorem Ok.setOw (ok : Ok X Z S σ H) {i : Nat} {a : Addr} {xs : List D} (f : Fresh X Z S σ H a xs) (hb : Z.bag = none ∨ i ≠ 0) (hn : i < X.N.length) :
    Ok X Z (S.set i (.ow xs)) (σ.set i (some (.ref a))) H ∧ (∀ {v : V} {d : D}, Rep X.K X.mg H (fun b => avs Z S σ b ∨ b = a) v d → Rep X.K X.mg H (avs Z (S.set i (.ow xs)) (σ.set i (some (.ref a)))) v d) := by
  obtain ⟨vs, hv, hr⟩ := f.at_
  have hil : i < σ.length := Nat.lt_of_lt_of_le hn ok.nm
  have hiS : i < S.length := Nat.lt_of_lt_of_le hil ok.len
  have sub : ∀ b, avs Z (S.set i (.ow xs)) (σ.set i (some (.ref a))) b → avs Z S σ b ∨ b = a := fun b h => by
    rcases h with h | ⟨j, zs, h1, h2⟩ | ⟨j, h1⟩
    · exact .inl (.inl h)
    · by_cases hj : i = j
      · subst hj
        rw [List.getElem?_set_self hil] at h2
        cases h2
        exact .inr rfl
      · rw [List.getElem?_set_ne hj] at h1 h2
        exact .inl (.inr (.inl ⟨j, zs, h1, h2⟩))
    · exact .inl (.inr (.inr ⟨j, (hg_back h1).2⟩))
  have k : Carry H H (fun b => avs Z S σ b ∨ b = a) (avs Z (S.set i (.ow xs)) (σ.set i (some (.ref a)))) := .same (Same.refl H) sub
  have other : ∀ {j : Nat} {zs : List D} {b : Addr}, S[j]? = some (.ow zs) → σ[j]? = some (some (.ref b)) → b ≠ a := fun {j zs b} h1 h2 z => f.nav (.inr (.inl ⟨j, zs, h1, z ▸ h2⟩))
  refine ⟨⟨by rw [List.length_set, List.length_set]; exact ok.len, by rw [List.length_set]; exact ok.nm, fun j b g h => gi_set (gh_back h).1 (ok.gi j b g (gh_back h).2), ⟨fun j d' h => ?_, fun j zs h => ?_, fun j b g h => (f.sl.gh j b g (gh_back h).2).carry k fun _ _ o h => h⟩, fun j l zs ys' b h1 h2 h3 h4 => ?_, fun j zs b h1 h2 => ?_, ok.ext, ok.avd, fun b h => ?_, fun j l zs b h1 h2 h3 => ?_, fun j l b h1 h2 => ok.ginj j l b (hg_back h1).2 (hg_back h2).2, fun j b h => ok.gown j b (hg_back h).2⟩, fun r => r.carry k⟩
  · have hj : i ≠ j := fun z => by
      subst z
      rw [List.getElem?_set_self hiS] at h
      cases h
    rw [List.getElem?_set_ne hj] at h
    obtain ⟨v', h1, h2⟩ := f.sl.sh j d' h
    exact ⟨v', by rw [List.getElem?_set_ne hj]; exact h1, h2.carry k⟩
  · by_cases hj : i = j
    · subst hj
      rw [List.getElem?_set_self hiS] at h
      cases h
      exact ⟨a, vs, List.getElem?_set_self hil, hv, hr.carry k⟩
    · rw [List.getElem?_set_ne hj] at h
      obtain ⟨b, us, h1, h2, h3⟩ := f.sl.ow j zs h
      exact ⟨b, us, by rw [List.getElem?_set_ne hj]; exact h1, h2, h3.carry k⟩
  · by_cases hj : i = j
    · by_cases hl : i = l
      · rw [← hj, ← hl]
      · subst hj
        rw [List.getElem?_set_self hil] at h3
        cases h3
        rw [List.getElem?_set_ne hl] at h2 h4
        exact absurd rfl (other h2 h4)
    · rw [List.getElem?_set_ne hj] at h1 h3
      by_cases hl : i = l
      · subst hl
        rw [List.getElem?_set_self hil] at h4
        cases h4
        exact absurd rfl (other h1 h3)
      · rw [List.getElem?_set_ne hl] at h2 h4
        exact ok.inj j l _ _ b h1 h2 h3 h4
  · by_cases hj : i = j
    · subst hj
      rw [List.getElem?_set_self hil] at h2
      cases h2
      exact ⟨.inl f.new, fun z => f.nav (.inl z)⟩
    · rw [List.getElem?_set_ne hj] at h1 h2
      exact ok.own j zs b h1 h2
  · obtain ⟨zs, h1, h2⟩ := ok.bag b h
    have hi0 : i ≠ 0 := by
      rcases hb with z | z
      · rw [z] at h; cases h
      · exact z
    exact ⟨zs, by rw [List.getElem?_set_ne hi0]; exact h1, by rw [List.getElem?_set_ne hi0]; exact h2⟩
  · by_cases hj : i = j
    · subst hj
      rw [List.getElem?_set_self hil] at h2
      cases h2
      exact f.nav (avs_gh (hg_back h3).2)
    · rw [List.getElem?_set_ne hj] at h1 h2
      exact ok.gow j l zs b h1 h2 (hg_back h3).2
end
end Zz

/-! The pure layer: judgements and rules for expressions. -/
namespace Zz
open PySem PySem.Spec PyProof.Rows L2

abbrev ZE := SS → (D → SS → Prop) → Prop
abbrev ZT := SS → (Bool → SS → Prop) → Prop
abbrev ZA := SS → (List D → SS → Prop) → Prop
/-- a value that is looked at: data, or the own list of a slot -/
inductive DV where
  | sh (d : D) | at (i : Nat)
abbrev ZV := SS → (DV → SS → Prop) → Prop

/-- all that was represented still is; what is not ours stays -/
structure Frm (X : Cx) (Z : Zc) (S : SS) (σ : L2.St) (H : Hp) (S' : SS) (σ' : L2.St) (H' : Hp) : Prop where
  rp : ∀ v d, Rep X.K X.mg H (avs Z S σ) v d → Rep X.K X.mg H' (avs Z S' σ') v d
  pr : ∀ a, Z.av a → H' a = H a
section
variable {X : Cx} {Z : Zc} {S S' S'' : SS} {σ σ' σ'' : L2.St} {H H' H'' : Hp}
theorem Frm.refl : Frm X Z S σ H S σ H := ⟨fun _ _ r => r, fun _ _ => rfl⟩
theorem Frm.trans (a : Frm X Z S σ H S' σ' H') (b : Frm X Z S' σ' H' S'' σ'' H'') : Frm X Z S σ H S'' σ'' H'' := ⟨fun v d r => b.rp v d (a.rp v d r), fun c h => (b.pr c h).trans (a.pr c h)⟩
theorem Frm.of (k : Carry H H' (avs Z S σ) (avs Z S' σ')) (p : ∀ a, Z.av a → H' a = H a) : Frm X Z S σ H S' σ' H' := ⟨fun _ _ r => r.carry k, p⟩
theorem Ok.prot (ok : Ok X Z S σ H) (s : Same H H') : ∀ a, Z.av a → H' a = H a := fun a h => by
  cases e : H a with
  | none => exact absurd e (ok.avd a h)
  | some o => exact s a o e
theorem Frm.same (ok : Ok X Z S σ H) (s : Same H H') : Frm X Z S σ H S σ H' := .of (.same s fun _ z => z) (ok.prot s)
theorem Frm.reps (f : Frm X Z S σ H S' σ' H') : ∀ {vs : List V} {ds : List D}, Reps X.K X.mg H (avs Z S σ) vs ds → Reps X.K X.mg H' (avs Z S' σ') vs ds
  | _, _, .nil => .nil
  | _, _, .cons r t => .cons (f.rp _ _ r) (f.reps t)
theorem Ok.avsd (ok : Ok X Z S σ H) : ∀ a, avs Z S σ a → H a ≠ none := fun a h => by
  rcases h with h | ⟨i, xs, h1, h2⟩ | ⟨i, h1⟩
  · exact ok.avd a h
  · obtain ⟨b, vs, h3, h4, _⟩ := ok.sl.ow i xs h1
    rw [h2] at h3
    cases h3
    rw [h4]
    simp
  · exact ok.sl.gthere h1
end

def RVal (X : Cx) (Z : Zc) (S : SS) (σ : L2.St) (H : Hp) (v : V) : DV → Prop
  | .sh d => Rep X.K X.mg H (avs Z S σ) v d
  | .at i => σ[i]? = some (some v)
theorem RVal.frm {X : Cx} {Z : Zc} {S S' : SS} {σ : L2.St} {H H' : Hp} {v : V} {dv : DV} (r : RVal X Z S σ H v dv) (f : Frm X Z S σ H S' σ H') : RVal X Z S' σ H' v dv := by
  cases dv with
  | sh d => exact f.rp _ _ r
  | «at» i => exact r

/-- an expression: its value is data -/
structure PD (X : Cx) (P : Zc → Prop) (e : Expr) (t : ZE) : Prop where
  ex : ∃ t0 : TE, PE X e t0 ∧ ∀ (Z : Zc), P Z → ∀ (S : SS) (σ : L2.St) (H : Hp) (Qz : D → SS → Prop) (Q : VK), Ok X Z S σ H → t S Qz →
    (∀ d S' v H', Qz d S' → Ok X Z S' σ H' → Frm X Z S σ H S' σ H' → Rep X.K X.mg H' (avs Z S' σ) v d → Q v H') → t0 σ H Q
/-- .. is a new list -/
structure PF (X : Cx) (P : Zc → Prop) (e : Expr) (t : ZA) : Prop where
  ex : ∃ t0 : TE, PE X e t0 ∧ ∀ (Z : Zc), P Z → ∀ (S : SS) (σ : L2.St) (H : Hp) (Qz : List D → SS → Prop) (Q : VK), Ok X Z S σ H → t S Qz →
    (∀ xs S' a H', Qz xs S' → Ok X Z S' σ H' → Frm X Z S σ H S' σ H' → Fresh X Z S' σ H' a xs → (∀ v d, Rep X.K X.mg H (avs Z S σ) v d → Rep X.K X.mg H' (fun b => avs Z S' σ b ∨ b = a) v d) → Q (.ref a) H') → t0 σ H Q
/-- .. is looked at at once -/
structure PV (X : Cx) (P : Zc → Prop) (e : Expr) (t : ZV) : Prop where
  ex : ∃ t0 : TE, PE X e t0 ∧ ∀ (Z : Zc), P Z → ∀ (S : SS) (σ : L2.St) (H : Hp) (Qz : DV → SS → Prop) (Q : VK), Ok X Z S σ H → t S Qz →
    (∀ d S' v H', Qz d S' → Ok X Z S' σ H' → Frm X Z S σ H S' σ H' → RVal X Z S' σ H' v d → Q v H') → t0 σ H Q
structure PTd (X : Cx) (P : Zc → Prop) (e : Expr) (t : ZT) : Prop where
  ex : ∃ t0 : TT, PT X e t0 ∧ ∀ (Z : Zc), P Z → ∀ (S : SS) (σ : L2.St) (H : Hp) (Qz : Bool → SS → Prop) (Q : Bool → Hp → Prop), Ok X Z S σ H → t S Qz →
    (∀ b S' H', Qz b S' → Ok X Z S' σ H' → Frm X Z S σ H S' σ H' → Q b H') → t0 σ H Q
structure PWd (X : Cx) (P : Zc → Prop) (e : Expr) (t : ZT) : Prop where
  ex : ∃ t0 : TT, PW X e t0 ∧ ∀ (Z : Zc), P Z → ∀ (S : SS) (σ : L2.St) (H : Hp) (Qz : Bool → SS → Prop) (Q : Bool → Hp → Prop), Ok X Z S σ H → t S Qz →
    (∀ b S' H', Qz b S' → Ok X Z S' σ H' → Frm X Z S σ H S' σ H' → Q b H') → t0 σ H Q
structure PAd (X : Cx) (P : Zc → Prop) (es : List Expr) (t : ZA) : Prop where
  ex : ∃ t0 : TA, PA X es t0 ∧ ∀ (Z : Zc), P Z → ∀ (S : SS) (σ : L2.St) (H : Hp) (Qz : List D → SS → Prop) (Q : List V → Hp → Prop), Ok X Z S σ H → t S Qz →
    (∀ ds S' vs H', Qz ds S' → Ok X Z S' σ H' → Frm X Z S σ H S' σ H' → Reps X.K X.mg H' (avs Z S' σ) vs ds → Q vs H') → t0 σ H Q

section
variable {X : Cx} {Z : Zc} {P : Zc → Prop} {e a b c : Expr} {pos : Pos}

/-! ### coercions -/
def zShV (t : ZE) : ZV := fun S Q => t S fun d S' => Q (.sh d) S'
theorem PD.pv {t : ZE} (h : PD X P e t) : PV X P e (zShV t) := by
  obtain ⟨t0, p, q⟩ := h.ex
  exact ⟨t0, p, fun Z hZ S σ H Qz Q ok hq k => q Z hZ S σ H _ Q ok hq fun d S' v H' h1 o f r => k _ S' v H' h1 o f r⟩
def zFD (t : ZA) : ZE := fun S Q => t S fun xs S' => Q (.lst xs) S'
theorem PF.pd {t : ZA} (h : PF X P e t) : PD X P e (zFD t) := by
  obtain ⟨t0, p, q⟩ := h.ex
  exact ⟨t0, p, fun Z hZ S σ H Qz Q ok hq k => q Z hZ S σ H _ Q ok hq fun xs S' a H' h1 o f r _ => k _ S' _ H' h1 o f r.rep⟩

/-! ### names and constants -/
/-- a name whose slot holds data; an own list is frozen by it -/
def zVar (i : Nat) : ZE := fun S Q => match S[i]? with
  | some (.sh d) => Q d S
  | some (.ow xs) => Q (.lst xs) (S.set i (.sh (.lst xs)))
  | _ => False
def zVarV (i : Nat) : ZV := fun S Q => match S[i]? with
  | some (.sh d) => Q (.sh d) S
  | some (.ow _) => Q (.at i) S
  | _ => False
theorem pd_var (i : Nat) {x : Str} (hb : ∀ Z, P Z → Z.bag = none ∨ i ≠ 0) (hN : X.N[i]? = some x := by rfl) (hv : Vis X.env.scope x := by first | exact Or.inl rfl | exact Or.inr (Or.inl rfl) | exact Or.inr (Or.inr rfl)) (hd : (x == ("__debug__" : Str)) = false := by decide)
    (hcd : (x == ("__classdict__" : Str)) = false := by decide) : PD X P (.Name x pos) (zVar i) := by
  refine ⟨_, pe_var (i := i) hN hv hd hcd, fun Z hZ S σ H Qz Q ok h k => ?_⟩
  unfold zVar at h
  split at h
  · rename_i d e
    obtain ⟨v, h1, h2⟩ := ok.sl.sh i d e
    exact ⟨v, h1, k d S v H h ok .refl h2⟩
  · rename_i xs e
    obtain ⟨a, vs, h1, h2, h3⟩ := ok.sl.ow i xs e
    obtain ⟨ok2, r⟩ := ok.frz e h1 (hb Z hZ)
    exact ⟨_, h1, k _ _ _ H h ok2 (Frm.of (.same (Same.refl H) avs_frz) fun _ _ => rfl) r⟩
  · exact h.elim
theorem pv_var (i : Nat) {x : Str} (hN : X.N[i]? = some x := by rfl) (hv : Vis X.env.scope x := by first | exact Or.inl rfl | exact Or.inr (Or.inl rfl) | exact Or.inr (Or.inr rfl)) (hd : (x == ("__debug__" : Str)) = false := by decide)
    (hcd : (x == ("__classdict__" : Str)) = false := by decide) : PV X P (.Name x pos) (zVarV i) := by
  refine ⟨_, pe_var (i := i) hN hv hd hcd, fun Z hZ S σ H Qz Q ok h k => ?_⟩
  unfold zVarV at h
  split at h
  · rename_i d e
    obtain ⟨v, h1, h2⟩ := ok.sl.sh i d e
    exact ⟨v, h1, k _ S v H h ok .refl h2⟩
  · rename_i xs e
    obtain ⟨a, vs, h1, h2, h3⟩ := ok.sl.ow i xs e
    exact ⟨_, h1, k _ _ _ H h ok .refl h1⟩
  · exact h.elim
def zC (d : D) : ZE := fun S Q => Q d S
theorem pd_c {v : V} {d : D} (h : PE X e (tC v)) (r : ∀ H av, Rep X.K X.mg H av v d) : PD X P e (zC d) :=
  ⟨_, h, fun Z hZ S σ H Qz Q ok h k => k d S v H h ok .refl (r _ _)⟩
theorem pd_int {i j} : PD X P (.Constant (.int i) j pos) (zC (.int i)) := pd_c pe_int fun _ _ => .int i
theorem pd_bl {b j} : PD X P (.Constant (.bool b) j pos) (zC (.bl b)) := pd_c pe_bl fun _ _ => .bl b
theorem pd_non {j} : PD X P (.Constant .none j pos) (zC .non) := pd_c pe_non fun _ _ => .non
theorem pd_str {s j} : PD X P (.Constant (.str s) j pos) (zC (.str s)) := pd_c pe_str fun _ _ => .str s
theorem pd_glob {x : Str} {i : Int} {t : Tok} (hg : Gl X x) (hm : X.mg x = some (.int i t)) (hd : (x == ("__debug__" : Str)) = false := by decide) : PD X P (.Name x pos) (zC (.int i)) :=
  pd_c (pe_glob (v := .int i) hg hm ⟨t, rfl⟩ hd) fun _ _ => .int i

/-! ### two-place operations -/
def zOp (f : D → D → (D → Prop) → Prop) (ta tb : ZE) : ZE := fun S Q => ta S fun d S1 => tb S1 fun e S2 => f d e fun r => Q r S2
/-- what an operation by values must do -/
def OpZ (K : PySem.W.Frag) (mg : Str → Option Value) (r : R2) (f : D → D → (D → Prop) → Prop) : Prop :=
  ∀ (H : Hp) (av : Addr → Prop) (x y : V) (d e : D) (Qd : D → Prop) (Q : VK), (∀ a, av a → H a ≠ none) → Rep K mg H av x d → Rep K mg H av y e → f d e Qd →
    (∀ d' v H', Qd d' → Same H H' → Rep K mg H' av v d' → Q v H') → r x y H Q
theorem pd_op {op : Operator} {r : R2} {f : D → D → (D → Prop) → Prop} {ta tb : ZE} (ho : OpR X (binaryOp op) r) (hf : OpZ X.K X.mg r f) (ha : PD X P a ta) (hb : PD X P b tb) : PD X P (.BinOp a op b pos) (zOp f ta tb) := by
  obtain ⟨t0, p0, q0⟩ := ha.ex
  obtain ⟨t1, p1, q1⟩ := hb.ex
  refine ⟨_, pe_op ho p0 p1, fun Z hZ S σ H Qz Q ok h k => ?_⟩
  refine q0 Z hZ S σ H _ _ ok h fun d S1 v H1 h1 ok1 f1 r1 => ?_
  refine q1 Z hZ S1 σ H1 _ _ ok1 h1 fun e S2 u H2 h2 ok2 f2 r2 => ?_
  exact hf H2 _ v u d e _ Q ok2.avsd (f2.rp _ _ r1) r2 h2 fun d' w H3 h3 s r3 => k d' S2 w H3 h3 (ok2.same s) ((f1.trans f2).trans (.same ok2 s)) r3
def fI (g : Int → Int → Int) : D → D → (D → Prop) → Prop := fun d e Q => match d, e with
  | .int i, .int j => Q (.int (g i j))
  | _, _ => False
def fIC (C : Int → Int → Prop) (g : Int → Int → Int) : D → D → (D → Prop) → Prop := fun d e Q => match d, e with
  | .int i, .int j => C i j ∧ Q (.int (g i j))
  | _, _ => False
theorem opz_I0 {g : Int → Int → Int} {K mg} : OpZ K mg (rI0 fun i j => .int (g i j)) (fI g) := by
  intro H av x y d e Qd Q _ r1 r2 h k
  unfold fI at h
  split at h
  · obtain rfl := r1.int_inv
    obtain rfl := r2.int_inv
    exact ⟨_, _, rfl, rfl, k _ _ H h (Same.refl H) (.int _)⟩
  · exact h.elim
theorem opz_IC {C : Int → Int → Prop} {g : Int → Int → Int} {K mg} : OpZ K mg (rI C fun i j => .int (g i j)) (fIC C g) := by
  intro H av x y d e Qd Q _ r1 r2 h k
  unfold fIC at h
  split at h
  · obtain rfl := r1.int_inv
    obtain rfl := r2.int_inv
    exact ⟨_, _, rfl, rfl, h.1, k _ _ H h.2 (Same.refl H) (.int _)⟩
  · exact h.elim
variable {ta tb tc : ZE}
abbrev zAdd := zOp (fI fun i j => i + j)
abbrev zSub := zOp (fI fun i j => i - j)
abbrev zMul := zOp (fIC CMulW fun i j => i * j)
abbrev zDiv := zOp (fIC CDivW fun i j => i / j)
abbrev zMod := zOp (fIC (fun _ j => 0 < j) fun i j => i % j)
theorem pd_add (ha : PD X P a ta) (hb : PD X P b tb) : PD X P (.BinOp a .Add b pos) (zAdd ta tb) := pd_op op_add opz_I0 ha hb
theorem pd_sub (ha : PD X P a ta) (hb : PD X P b tb) : PD X P (.BinOp a .Sub b pos) (zSub ta tb) := pd_op op_sub opz_I0 ha hb
theorem pd_mul (ha : PD X P a ta) (hb : PD X P b tb) : PD X P (.BinOp a .Mult b pos) (zMul ta tb) := pd_op op_mulW opz_IC ha hb
theorem pd_div (ha : PD X P a ta) (hb : PD X P b tb) : PD X P (.BinOp a .FloorDiv b pos) (zDiv ta tb) := pd_op op_fdivW opz_IC ha hb
theorem pd_mod (ha : PD X P a ta) (hb : PD X P b tb) : PD X P (.BinOp a .Mod b pos) (zMod ta tb) := pd_op op_mod opz_IC ha hb
/-- -a -/
def zNeg (ta : ZE) : ZE := fun S Q => ta S fun d S1 => match d with
  | .int i => Q (.int (-i)) S1
  | _ => False
theorem pd_neg (ha : PD X P a ta) : PD X P (.UnaryOp .USub a pos) (zNeg ta) := by
  obtain ⟨t0, p0, q0⟩ := ha.ex
  refine ⟨_, pe_un un_neg p0, fun Z hZ S σ H Qz Q ok h k => ?_⟩
  refine q0 Z hZ S σ H _ _ ok h fun d S1 v H1 h1 ok1 f1 r1 => ?_
  split at h1
  · obtain rfl := r1.int_inv
    exact ⟨_, rfl, k _ S1 _ H1 h1 ok1 f1 (.int _)⟩
  · exact h1.elim

/-! ### comparisons -/
/-- a comparison by values -/
def CmpZ (K : PySem.W.Frag) (mg : Str → Option Value) (r : R2) (f : D → D → (Bool → Prop) → Prop) : Prop :=
  ∀ (H : Hp) (av : Addr → Prop) (x y : V) (d e : D) (Qd : Bool → Prop) (Q : VK), Rep K mg H av x d → Rep K mg H av y e → f d e Qd → (∀ b, Qd b → Q (.bl b) H) → r x y H Q
def zCmp (f : D → D → (Bool → Prop) → Prop) (ta tb : ZE) : ZE := fun S Q => ta S fun d S1 => tb S1 fun e S2 => f d e fun b => Q (.bl b) S2
def zCmpT (f : D → D → (Bool → Prop) → Prop) (ta tb : ZE) : ZT := fun S Q => ta S fun d S1 => tb S1 fun e S2 => f d e fun b => Q b S2
theorem pd_cmp {op : CmpOp} {r : R2} {f : D → D → (Bool → Prop) → Prop} (ho : OpR X (compareOp op) r) (hf : CmpZ X.K X.mg r f) (ha : PD X P a ta) (hb : PD X P b tb) (hm : behindInMarks op b = false := by rfl) : PD X P (.Compare a [op] [b] pos) (zCmp f ta tb) := by
  obtain ⟨t0, p0, q0⟩ := ha.ex
  obtain ⟨t1, p1, q1⟩ := hb.ex
  refine ⟨_, pe_cmpR ho p0 p1 hm, fun Z hZ S σ H Qz Q ok h k => ?_⟩
  refine q0 Z hZ S σ H _ _ ok h fun d S1 v H1 h1 ok1 f1 r1 => ?_
  refine q1 Z hZ S1 σ H1 _ _ ok1 h1 fun e S2 u H2 h2 ok2 f2 r2 => ?_
  exact hf H2 _ v u d e _ Q (f2.rp _ _ r1) r2 h2 fun b h3 => k _ S2 _ H2 h3 ok2 (f1.trans f2) (.bl b)
theorem pt_cmp {op : CmpOp} {r : R2} {f : D → D → (Bool → Prop) → Prop} (ho : OpR X (compareOp op) r) (hf : CmpZ X.K X.mg r f) (ha : PD X P a ta) (hb : PD X P b tb) (hm : behindInMarks op b = false := by rfl) : PTd X P (.Compare a [op] [b] pos) (zCmpT f ta tb) := by
  obtain ⟨t0, p0, q0⟩ := ha.ex
  obtain ⟨t1, p1, q1⟩ := hb.ex
  refine ⟨_, pt_cmpR ho p0 p1 hm, fun Z hZ S σ H Qz Q ok h k => ?_⟩
  refine q0 Z hZ S σ H _ _ ok h fun d S1 v H1 h1 ok1 f1 r1 => ?_
  refine q1 Z hZ S1 σ H1 _ _ ok1 h1 fun e S2 u H2 h2 ok2 f2 r2 => ?_
  exact hf H2 _ v u d e _ _ (f2.rp _ _ r1) r2 h2 fun b h3 => ⟨b, rfl, k _ S2 H2 h3 ok2 (f1.trans f2)⟩
def fB (g : Int → Int → Bool) : D → D → (Bool → Prop) → Prop := fun d e Q => match d, e with
  | .int i, .int j => Q (g i j)
  | _, _ => False
theorem cmpz_I0 {g : Int → Int → Bool} {K mg} : CmpZ K mg (rI0 fun i j => .bl (g i j)) (fB g) := by
  intro H av x y d e Qd Q r1 r2 h k
  unfold fB at h
  split at h
  · obtain rfl := r1.int_inv
    obtain rfl := r2.int_inv
    exact ⟨_, _, rfl, rfl, k _ h⟩
  · exact h.elim
abbrev fLt := fB fun i j => decide (i < j)
abbrev fLe := fB fun i j => decide (i ≤ j)
abbrev fGt := fB fun i j => decide (j < i)
abbrev fGe := fB fun i j => decide (j ≤ i)
theorem cz_lt {K mg} : CmpZ K mg (rI0 fun i j => .bl (decide (i < j))) fLt := cmpz_I0
theorem cz_le {K mg} : CmpZ K mg (rI0 fun i j => .bl (decide (i ≤ j))) fLe := cmpz_I0
theorem cz_gt {K mg} : CmpZ K mg (rI0 fun i j => .bl (decide (j < i))) fGt := cmpz_I0
theorem cz_ge {K mg} : CmpZ K mg (rI0 fun i j => .bl (decide (j ≤ i))) fGe := cmpz_I0
/-- == of texts: never computed by the reading -/
noncomputable def seq (i j : Str) : Bool := @decide (i = j) (Classical.propDecidable _)
theorem seq_eq (i j : Str) : seq i j = decide (i = j) := by
  unfold seq
  by_cases h : i = j
  · rw [decide_eq_true h, @decide_eq_true _ (Classical.propDecidable _) h]
  · rw [decide_eq_false h, @decide_eq_false _ (Classical.propDecidable _) h]
/-- == over data -/
def fEq : D → D → (Bool → Prop) → Prop := fun d e Q => match d, e with
  | .int i, .int j => Q (decide (i = j))
  | .str i, .str j => Q (seq i j)
  | .bl i, .bl j => Q (decide (i = j))
  | .non, .non => Q true
  | d, e => ∃ p q, d.py = some p ∧ e.py = some q ∧ SeqAt.shaped p = true ∧ SeqAt.shaped q = true ∧ Q (PyData.eqv p q)
def rEqA (K : PySem.W.Frag) : R2 := fun x y H Q => rEq x y H Q ∨ rEqD K x y H Q
def rNeA (K : PySem.W.Frag) : R2 := fun x y H Q => rNe x y H Q ∨ rNeD K x y H Q
theorem cz_eq {K mg} : CmpZ K mg (rEqA K) fEq := by
  intro H av x y d e Qd Q r1 r2 h k
  unfold fEq at h
  split at h
  · obtain rfl := r1.int_inv
    obtain rfl := r2.int_inv
    exact .inl ⟨rfl, by have := k _ h; simpa only [V.int.injEq] using this⟩
  · obtain rfl := r1.str_inv
    obtain rfl := r2.str_inv
    exact .inl ⟨rfl, by have := k _ h; simpa only [V.str.injEq, seq_eq] using this⟩
  · obtain rfl := r1.bl_inv
    obtain rfl := r2.bl_inv
    exact .inl ⟨rfl, by have := k _ h; simpa only [V.bl.injEq] using this⟩
  · obtain rfl := r1.non_inv
    obtain rfl := r2.non_inv
    exact .inl ⟨rfl, by have := k _ h; simpa using this⟩
  · obtain ⟨p, q, h1, h2, h3, h4, h5⟩ := h
    exact .inr ⟨p, q, r1.dp h1, r2.dp h2, h3, h4, k _ h5⟩
def fNe : D → D → (Bool → Prop) → Prop := fun d e Q => fEq d e fun b => Q (!b)
theorem cz_ne {K mg} : CmpZ K mg (rNeA K) fNe := by
  intro H av x y d e Qd Q r1 r2 h k
  unfold fNe at h
  rcases cz_eq (K := K) (mg := mg) H av x y d e _ (fun v H' => ∃ b, v = .bl b ∧ Q (.bl (!b)) H') r1 r2 h (fun b hb => ⟨b, rfl, k _ hb⟩) with ⟨h1, b, e, h2⟩ | ⟨p, q, h1, h2, h3, h4, b, e, h5⟩
  · cases e
    exact .inl ⟨h1, h2⟩
  · cases e
    exact .inr ⟨p, q, h1, h2, h3, h4, h5⟩
theorem op_eqA (hu : X.A.units + 64 < cLine) : OpR X (compareOp .Eq) (rEqA X.K) := op_eq.or (op_eqD hu)
theorem op_neA (hu : X.A.units + 64 < cLine) : OpR X (compareOp .NotEq) (rNeA X.K) := op_ne.or (op_neD hu)
/-- .. of values that are looked at -/
def asD (S : SS) : DV → Option D
  | .sh d => some d
  | .at i => match S[i]? with
    | some (.ow xs) => some (.lst xs)
    | _ => none
theorem asD_rep {S : SS} {σ : L2.St} {H : Hp} {v : V} {dv : DV} {d : D} (ok : Ok X Z S σ H) (r : RVal X Z S σ H v dv) (e : asD S dv = some d) : Rep X.K X.mg H (fun _ => False) v d := by
  have k : Carry H H (avs Z S σ) (fun _ => False) := .same (Same.refl H) fun _ z => z.elim
  cases dv with
  | sh d' =>
    cases e
    exact Rep.carry k r
  | «at» i =>
    have e' : (match S[i]? with | some (.ow xs) => some (D.lst xs) | _ => none) = some d := e
    split at e'
    · rename_i xs h
      cases e'
      obtain ⟨a, vs, h1, h2, h3⟩ := ok.sl.ow i xs h
      have r' : σ[i]? = some (some v) := r
      rw [h1] at r'
      cases r'
      exact .lst h2 (fun z => z) (h3.carry k)
    · cases e'
def zCmpV (f : D → D → (Bool → Prop) → Prop) (ta : ZV) (tb : ZV) : ZE := fun S Q => ta S fun d S1 => tb S1 fun e S2 => ∃ x y, asD S2 d = some x ∧ asD S2 e = some y ∧ f x y fun b => Q (.bl b) S2
def zCmpVT (f : D → D → (Bool → Prop) → Prop) (ta : ZV) (tb : ZV) : ZT := fun S Q => ta S fun d S1 => tb S1 fun e S2 => ∃ x y, asD S2 d = some x ∧ asD S2 e = some y ∧ f x y fun b => Q b S2
theorem pd_cmpV {op : CmpOp} {r : R2} {f : D → D → (Bool → Prop) → Prop} {va vb : ZV} (ho : OpR X (compareOp op) r) (hf : CmpZ X.K X.mg r f) (ha : PV X P a va) (hb : PV X P b vb) (hm : behindInMarks op b = false := by rfl) : PD X P (.Compare a [op] [b] pos) (zCmpV f va vb) := by
  obtain ⟨t0, p0, q0⟩ := ha.ex
  obtain ⟨t1, p1, q1⟩ := hb.ex
  refine ⟨_, pe_cmpR ho p0 p1 hm, fun Z hZ S σ H Qz Q ok h k => ?_⟩
  refine q0 Z hZ S σ H _ _ ok h fun d S1 v H1 h1 ok1 f1 r1 => ?_
  refine q1 Z hZ S1 σ H1 _ _ ok1 h1 fun e S2 u H2 h2 ok2 f2 r2 => ?_
  obtain ⟨x, y, h3, h4, h5⟩ := h2
  exact hf H2 _ v u x y _ Q (asD_rep ok2 (r1.frm f2) h3) (asD_rep ok2 r2 h4) h5 fun b h3 => k _ S2 _ H2 h3 ok2 (f1.trans f2) (.bl b)
theorem pt_cmpV {op : CmpOp} {r : R2} {f : D → D → (Bool → Prop) → Prop} {va vb : ZV} (ho : OpR X (compareOp op) r) (hf : CmpZ X.K X.mg r f) (ha : PV X P a va) (hb : PV X P b vb) (hm : behindInMarks op b = false := by rfl) : PTd X P (.Compare a [op] [b] pos) (zCmpVT f va vb) := by
  obtain ⟨t0, p0, q0⟩ := ha.ex
  obtain ⟨t1, p1, q1⟩ := hb.ex
  refine ⟨_, pt_cmpR ho p0 p1 hm, fun Z hZ S σ H Qz Q ok h k => ?_⟩
  refine q0 Z hZ S σ H _ _ ok h fun d S1 v H1 h1 ok1 f1 r1 => ?_
  refine q1 Z hZ S1 σ H1 _ _ ok1 h1 fun e S2 u H2 h2 ok2 f2 r2 => ?_
  obtain ⟨x, y, h3, h4, h5⟩ := h2
  exact hf H2 _ v u x y _ _ (asD_rep ok2 (r1.frm f2) h3) (asD_rep ok2 r2 h4) h5 fun b h3 => ⟨b, rfl, k _ S2 H2 h3 ok2 (f1.trans f2)⟩
/-- a op b op' c -/
def zChain (f f' : D → D → (Bool → Prop) → Prop) (ta tb tc : ZE) : ZE := fun S Q => ta S fun x S1 => tb S1 fun y S2 => f x y fun k => (k = true → tc S2 fun w S3 => f' y w fun b => Q (.bl b) S3) ∧ (k = false → Q (.bl false) S2)
def zChainT (f f' : D → D → (Bool → Prop) → Prop) (ta tb tc : ZE) : ZT := fun S Q => ta S fun x S1 => tb S1 fun y S2 => f x y fun k => (k = true → tc S2 fun w S3 => f' y w fun b => Q b S3) ∧ (k = false → Q false S2)
theorem pd_chain {op op' : CmpOp} {r r' : R2} {f f' : D → D → (Bool → Prop) → Prop} (ho : OpR X (compareOp op) r) (hf : CmpZ X.K X.mg r f) (ho' : OpR X (compareOp op') r') (hf' : CmpZ X.K X.mg r' f') (ha : PD X P a ta) (hb : PD X P b tb) (hc : PD X P c tc)
    (hm : lastMarks [op, op'] [b, c] = false := by with_unfolding_all rfl) : PD X P (.Compare a [op, op'] [b, c] pos) (zChain f f' ta tb tc) := by
  obtain ⟨t0, p0, q0⟩ := ha.ex
  obtain ⟨t1, p1, q1⟩ := hb.ex
  obtain ⟨t2, p2, q2⟩ := hc.ex
  refine ⟨_, pe_chain ho ho' p0 p1 p2 hm, fun Z hZ S σ H Qz Q ok h k => ?_⟩
  refine q0 Z hZ S σ H _ _ ok h fun d S1 v H1 h1 ok1 f1 r1 => ?_
  refine q1 Z hZ S1 σ H1 _ _ ok1 h1 fun e S2 u H2 h2 ok2 f2 r2 => ?_
  refine hf H2 _ v u d e _ _ (f2.rp _ _ r1) r2 h2 fun b h3 => ⟨b, rfl, ?_⟩
  cases b with
  | false => exact iteF (k _ S2 _ H2 (h3.2 rfl) ok2 (f1.trans f2) (.bl false))
  | true =>
    refine iteT (q2 Z hZ S2 σ H2 _ _ ok2 (h3.1 rfl) fun g S3 w H3 h4 ok3 f3 r3 => ?_)
    exact hf' H3 _ u w e g _ _ (f3.rp _ _ r2) r3 h4 fun b h5 => k _ S3 _ H3 h5 ok3 ((f1.trans f2).trans f3) (.bl b)
theorem pt_chainZ {op op' : CmpOp} {r r' : R2} {f f' : D → D → (Bool → Prop) → Prop} (ho : OpR X (compareOp op) r) (hf : CmpZ X.K X.mg r f) (ho' : OpR X (compareOp op') r') (hf' : CmpZ X.K X.mg r' f') (ha : PD X P a ta) (hb : PD X P b tb) (hc : PD X P c tc)
    (hm : lastMarks [op, op'] [b, c] = false := by with_unfolding_all rfl) : PTd X P (.Compare a [op, op'] [b, c] pos) (zChainT f f' ta tb tc) := by
  obtain ⟨t0, p0, q0⟩ := ha.ex
  obtain ⟨t1, p1, q1⟩ := hb.ex
  obtain ⟨t2, p2, q2⟩ := hc.ex
  refine ⟨_, pt_chain ho ho' p0 p1 p2 hm, fun Z hZ S σ H Qz Q ok h k => ?_⟩
  refine q0 Z hZ S σ H _ _ ok h fun d S1 v H1 h1 ok1 f1 r1 => ?_
  refine q1 Z hZ S1 σ H1 _ _ ok1 h1 fun e S2 u H2 h2 ok2 f2 r2 => ?_
  refine hf H2 _ v u d e _ _ (f2.rp _ _ r1) r2 h2 fun b h3 => ⟨b, rfl, ?_⟩
  cases b with
  | false => exact iteF ⟨_, rfl, k _ S2 H2 (h3.2 rfl) ok2 (f1.trans f2)⟩
  | true =>
    refine iteT (q2 Z hZ S2 σ H2 _ _ ok2 (h3.1 rfl) fun g S3 w H3 h4 ok3 f3 r3 => ?_)
    exact hf' H3 _ u w e g _ _ (f3.rp _ _ r2) r3 h4 fun b h5 => ⟨b, rfl, k _ S3 H3 h5 ok3 ((f1.trans f2).trans f3)⟩

/-! ### is None, tests, and, or, not -/
def D.isNon : D → Bool
  | .non => true
  | _ => false
theorem rep_isNon {H : Hp} {av : Addr → Prop} {v : V} {d : D} (r : Rep X.K X.mg H av v d) : decide (v = .non) = d.isNon := by
  cases r <;> simp [D.isNon]
def zIsN (ta : ZV) : ZE := fun S Q => ta S fun d S1 => ∃ x, asD S1 d = some x ∧ Q (.bl x.isNon) S1
def zIsNT (ta : ZV) : ZT := fun S Q => ta S fun d S1 => ∃ x, asD S1 d = some x ∧ Q x.isNon S1
def zNotNT (ta : ZV) : ZT := fun S Q => ta S fun d S1 => ∃ x, asD S1 d = some x ∧ Q (!x.isNon) S1
theorem pd_isN {va : ZV} {j pos'} (ha : PV X P a va) : PD X P (.Compare a [.Is] [.Constant .none j pos'] pos) (zIsN va) := by
  obtain ⟨t0, p0, q0⟩ := ha.ex
  refine ⟨_, pe_cmpR op_isN p0 pe_non (nomark _), fun Z hZ S σ H Qz Q ok h k => ?_⟩
  refine q0 Z hZ S σ H _ _ ok h fun d S1 v H1 h1 ok1 f1 r1 => ?_
  obtain ⟨x, h2, h3⟩ := h1
  exact ⟨rfl, by rw [rep_isNon (asD_rep ok1 r1 h2)]; exact k _ S1 _ H1 h3 ok1 f1 (.bl _)⟩
theorem pt_isN {va : ZV} {j pos'} (ha : PV X P a va) : PTd X P (.Compare a [.Is] [.Constant .none j pos'] pos) (zIsNT va) := by
  obtain ⟨t0, p0, q0⟩ := ha.ex
  refine ⟨_, pt_cmpR op_isN p0 pe_non (nomark _), fun Z hZ S σ H Qz Q ok h k => ?_⟩
  refine q0 Z hZ S σ H _ _ ok h fun d S1 v H1 h1 ok1 f1 r1 => ?_
  obtain ⟨x, h2, h3⟩ := h1
  exact ⟨rfl, _, rfl, by rw [rep_isNon (asD_rep ok1 r1 h2)]; exact k _ S1 H1 h3 ok1 f1⟩
theorem pt_notN {va : ZV} {j pos'} (ha : PV X P a va) : PTd X P (.Compare a [.IsNot] [.Constant .none j pos'] pos) (zNotNT va) := by
  obtain ⟨t0, p0, q0⟩ := ha.ex
  refine ⟨_, pt_cmpR op_notN p0 pe_non (nomark _), fun Z hZ S σ H Qz Q ok h k => ?_⟩
  refine q0 Z hZ S σ H _ _ ok h fun d S1 v H1 h1 ok1 f1 r1 => ?_
  obtain ⟨x, h2, h3⟩ := h1
  exact ⟨rfl, _, rfl, by rw [rep_isNon (asD_rep ok1 r1 h2)]; exact k _ S1 H1 h3 ok1 f1⟩
/-- a value that is a bool, as a test -/
def zB (ta : ZE) : ZT := fun S Q => ta S fun d S1 => match d with
  | .bl b => Q b S1
  | _ => False
theorem pt_b (h : PD X P e ta) (he : ∀ whole, isTrue e X.env whole = (do let v ← whole; standAt e.pos; holding [v] (truthy v)) := by intro _; rfl) : PTd X P e (zB ta) := by
  obtain ⟨t0, p0, q0⟩ := h.ex
  refine ⟨_, pt_val p0 he, fun Z hZ S σ H Qz Q ok h k => ?_⟩
  refine q0 Z hZ S σ H _ _ ok h fun d S1 v H1 h1 ok1 f1 r1 => ?_
  split at h1
  · obtain rfl := r1.bl_inv
    exact ⟨_, rfl, k _ S1 H1 h1 ok1 f1⟩
  · exact h1.elim
variable {qa qb : ZT} {rest : List Expr}
def zAndT (t u : ZT) : ZT := fun S Q => t S fun c S1 => (c = true → u S1 Q) ∧ (c = false → Q false S1)
def zOrT (t u : ZT) : ZT := fun S Q => t S fun c S1 => (c = true → Q true S1) ∧ (c = false → u S1 Q)
def zNotT (t : ZT) : ZT := fun S Q => t S fun c S1 => Q (!c) S1
theorem PWd.pt (h : PWd X P e qa) : PTd X P e qa := by
  obtain ⟨t0, p0, q0⟩ := h.ex
  exact ⟨_, p0.pt, q0⟩
theorem wd_and1 (ha : PTd X P a qa) : PWd X P (.BoolOp .And [a] pos) qa := by
  obtain ⟨t0, p0, q0⟩ := ha.ex
  exact ⟨_, pw_and1 p0, q0⟩
theorem wd_or1 (ha : PTd X P a qa) : PWd X P (.BoolOp .Or [a] pos) qa := by
  obtain ⟨t0, p0, q0⟩ := ha.ex
  exact ⟨_, pw_or1 p0, q0⟩
theorem wd_and (ha : PTd X P a qa) (hb : PWd X P (.BoolOp .And (b :: rest) pos) qb) : PWd X P (.BoolOp .And (a :: b :: rest) pos) (zAndT qa qb) := by
  obtain ⟨t0, p0, q0⟩ := ha.ex
  obtain ⟨t1, p1, q1⟩ := hb.ex
  refine ⟨_, pw_and p0 p1, fun Z hZ S σ H Qz Q ok h k => ?_⟩
  refine q0 Z hZ S σ H _ _ ok h fun c S1 H1 h1 ok1 f1 => ?_
  cases c with
  | true => exact iteT (q1 Z hZ S1 σ H1 _ _ ok1 (h1.1 rfl) fun b S2 H2 h2 ok2 f2 => k b S2 H2 h2 ok2 (f1.trans f2))
  | false => exact iteF (k _ S1 H1 (h1.2 rfl) ok1 f1)
theorem wd_or (ha : PTd X P a qa) (hb : PWd X P (.BoolOp .Or (b :: rest) pos) qb) : PWd X P (.BoolOp .Or (a :: b :: rest) pos) (zOrT qa qb) := by
  obtain ⟨t0, p0, q0⟩ := ha.ex
  obtain ⟨t1, p1, q1⟩ := hb.ex
  refine ⟨_, pw_or p0 p1, fun Z hZ S σ H Qz Q ok h k => ?_⟩
  refine q0 Z hZ S σ H _ _ ok h fun c S1 H1 h1 ok1 f1 => ?_
  cases c with
  | true => exact iteT (k _ S1 H1 (h1.1 rfl) ok1 f1)
  | false => exact iteF (q1 Z hZ S1 σ H1 _ _ ok1 (h1.2 rfl) fun b S2 H2 h2 ok2 f2 => k b S2 H2 h2 ok2 (f1.trans f2))
theorem td_not (ha : PTd X P a qa) : PTd X P (.UnaryOp .Not a pos) (zNotT qa) := by
  obtain ⟨t0, p0, q0⟩ := ha.ex
  exact ⟨_, pt_not p0, fun Z hZ S σ H Qz Q ok h k => q0 Z hZ S σ H _ _ ok h fun c S1 H1 h1 ok1 f1 => k _ S1 H1 h1 ok1 f1⟩
/-- .. as values (of bools) -/
def zAndV (ta tb : ZE) : ZE := fun S Q => ta S fun d S1 => match d with
  | .bl b => (b = true → tb S1 Q) ∧ (b = false → Q (.bl false) S1)
  | _ => False
def zOrV (ta tb : ZE) : ZE := fun S Q => ta S fun d S1 => match d with
  | .bl b => (b = true → Q (.bl true) S1) ∧ (b = false → tb S1 Q)
  | _ => False
def zNotV (ta : ZE) : ZE := fun S Q => ta S fun d S1 => match d with
  | .bl b => Q (.bl (!b)) S1
  | _ => False
theorem pd_one {op} (h : PD X P a ta) : PD X P (.BoolOp op [a] pos) ta := by
  obtain ⟨t0, p0, q0⟩ := h.ex
  exact ⟨_, pe_one p0, q0⟩
theorem pd_and (ha : PD X P a ta) (hb : PD X P (.BoolOp .And (b :: rest) pos) tb) : PD X P (.BoolOp .And (a :: b :: rest) pos) (zAndV ta tb) := by
  obtain ⟨t0, p0, q0⟩ := ha.ex
  obtain ⟨t1, p1, q1⟩ := hb.ex
  refine ⟨_, pe_and p0 p1, fun Z hZ S σ H Qz Q ok h k => ?_⟩
  refine q0 Z hZ S σ H _ _ ok h fun d S1 v H1 h1 ok1 f1 r1 => ?_
  split at h1
  · rename_i c
    obtain rfl := r1.bl_inv
    cases c with
    | true => exact ⟨_, rfl, iteT (q1 Z hZ S1 σ H1 _ _ ok1 (h1.1 rfl) fun b S2 u H2 h2 ok2 f2 r2 => k b S2 u H2 h2 ok2 (f1.trans f2) r2)⟩
    | false => exact ⟨_, rfl, iteF (k _ S1 _ H1 (h1.2 rfl) ok1 f1 (.bl false))⟩
  · exact h1.elim
theorem pd_or (ha : PD X P a ta) (hb : PD X P (.BoolOp .Or (b :: rest) pos) tb) : PD X P (.BoolOp .Or (a :: b :: rest) pos) (zOrV ta tb) := by
  obtain ⟨t0, p0, q0⟩ := ha.ex
  obtain ⟨t1, p1, q1⟩ := hb.ex
  refine ⟨_, pe_or p0 p1, fun Z hZ S σ H Qz Q ok h k => ?_⟩
  refine q0 Z hZ S σ H _ _ ok h fun d S1 v H1 h1 ok1 f1 r1 => ?_
  split at h1
  · rename_i c
    obtain rfl := r1.bl_inv
    cases c with
    | true => exact ⟨_, rfl, iteT (k _ S1 _ H1 (h1.1 rfl) ok1 f1 (.bl true))⟩
    | false => exact ⟨_, rfl, iteF (q1 Z hZ S1 σ H1 _ _ ok1 (h1.2 rfl) fun b S2 u H2 h2 ok2 f2 r2 => k b S2 u H2 h2 ok2 (f1.trans f2) r2)⟩
  · exact h1.elim
theorem pd_not (ha : PD X P a ta) : PD X P (.UnaryOp .Not a pos) (zNotV ta) := by
  obtain ⟨t0, p0, q0⟩ := ha.ex
  refine ⟨_, pe_not p0, fun Z hZ S σ H Qz Q ok h k => ?_⟩
  refine q0 Z hZ S σ H _ _ ok h fun d S1 v H1 h1 ok1 f1 r1 => ?_
  split at h1
  · obtain rfl := r1.bl_inv
    exact ⟨_, rfl, k _ S1 _ H1 h1 ok1 f1 (.bl _)⟩
  · exact h1.elim
def zIf (t : ZT) (ta tb : ZE) : ZE := fun S Q => t S fun c S1 => (c = true → ta S1 Q) ∧ (c = false → tb S1 Q)
theorem pd_if (hc : PTd X P c qa) (ha : PD X P a ta) (hb : PD X P b tb) : PD X P (.IfExp c a b pos) (zIf qa ta tb) := by
  obtain ⟨tC, pC, qC⟩ := hc.ex
  obtain ⟨t0, p0, q0⟩ := ha.ex
  obtain ⟨t1, p1, q1⟩ := hb.ex
  refine ⟨_, pe_ifExp pC p0 p1, fun Z hZ S σ H Qz Q ok h k => ?_⟩
  refine qC Z hZ S σ H _ _ ok h fun c S1 H1 h1 ok1 f1 => ?_
  cases c with
  | true => exact iteT (q0 Z hZ S1 σ H1 _ _ ok1 (h1.1 rfl) fun d S2 v H2 h2 ok2 f2 r2 => k d S2 v H2 h2 ok2 (f1.trans f2) r2)
  | false => exact iteF (q1 Z hZ S1 σ H1 _ _ ok1 (h1.2 rfl) fun d S2 v H2 h2 ok2 f2 r2 => k d S2 v H2 h2 ok2 (f1.trans f2) r2)

/-! ### arguments and displays -/
def zNil : ZA := fun S Q => Q [] S
def zCons (t : ZE) (u : ZA) : ZA := fun S Q => t S fun d S1 => u S1 fun ds S2 => Q (d :: ds) S2
variable {es : List Expr} {tz : ZA}
theorem ad_nil : PAd X P [] zNil := ⟨_, pa_nil, fun Z hZ S σ H Qz Q ok h k => k [] S [] H h ok .refl .nil⟩
theorem ad_cons (ha : PD X P e ta) (hr : PAd X P es tz) (hs : starEach (e :: es) X.env = (false, eval e X.env) :: starEach es X.env := by rfl) : PAd X P (e :: es) (zCons ta tz) := by
  obtain ⟨t0, p0, q0⟩ := ha.ex
  obtain ⟨t1, p1, q1⟩ := hr.ex
  refine ⟨_, pa_cons p0 p1 hs, fun Z hZ S σ H Qz Q ok h k => ?_⟩
  refine q0 Z hZ S σ H _ _ ok h fun d S1 v H1 h1 ok1 f1 r1 => ?_
  exact q1 Z hZ S1 σ H1 _ _ ok1 h1 fun ds S2 vs H2 h2 ok2 f2 r2 => k _ S2 _ H2 h2 ok2 (f1.trans f2) (.cons (f2.rp _ _ r1) r2)
def zTup (t : ZA) : ZE := fun S Q => t S fun ds S1 => ds.length ≤ sizeLine ∧ Q (.tup ds) S1
def zLst (t : ZA) : ZA := fun S Q => t S fun ds S1 => ds.length ≤ sizeLine ∧ Q ds S1
theorem pd_tup {x1} (h : PAd X P es tz) : PD X P (.Tuple es x1 pos) (zTup tz) := by
  obtain ⟨t0, p0, q0⟩ := h.ex
  refine ⟨_, pe_tup p0, fun Z hZ S σ H Qz Q ok h k => ?_⟩
  refine q0 Z hZ S σ H _ _ ok h fun ds S1 vs H1 h1 ok1 f1 r1 => ⟨by rw [r1.length]; exact h1.1, fun p hp => ?_⟩
  have s : Same H1 (upd H1 p (.tup vs)) := Same.upd hp
  exact k _ S1 _ _ h1.2 (ok1.same s) (f1.trans (.same ok1 s)) (.tup (.inl (.inl upd_same)) (r1.carry (.same s fun _ z => z)))
/-- a new list comes -/
theorem fresh_k {S S1 : SS} {σ : L2.St} {H H1 : Hp} {Qz : List D → SS → Prop} {Q : VK} (ok1 : Ok X Z S1 σ H1) (f1 : Frm X Z S σ H S1 σ H1) {xs : List D} {vs : List V} (r : Reps X.K X.mg H1 (avs Z S1 σ) vs xs) (hq : Qz xs S1)
    (k : ∀ xs S' a H', Qz xs S' → Ok X Z S' σ H' → Frm X Z S σ H S' σ H' → Fresh X Z S' σ H' a xs → (∀ v d, Rep X.K X.mg H (avs Z S σ) v d → Rep X.K X.mg H' (fun b => avs Z S' σ b ∨ b = a) v d) → Q (.ref a) H') : ∀ p, H1 p = none → Q (.ref p) (upd H1 p (.lst vs)) := fun p hp => by
  obtain ⟨ok2, fr⟩ := ok1.newL hp r
  exact k _ S1 p _ hq ok2 (f1.trans (.same ok1 (Same.upd hp))) fr fun v d rv => (f1.rp v d rv).carry (.new hp)
theorem pf_lst (h : PAd X P es tz) : PF X P (.List es pos) (zLst tz) := by
  obtain ⟨t0, p0, q0⟩ := h.ex
  refine ⟨_, pe_lst p0, fun Z hZ S σ H Qz Q ok h k => ?_⟩
  refine q0 Z hZ S σ H _ _ ok h fun ds S1 vs H1 h1 ok1 f1 r1 => ⟨by rw [r1.length]; exact h1.1, fresh_k ok1 f1 r1 h1.2 k⟩

/-! ### lists and tuples that are looked at -/
def cnt (S : SS) : DV → Option (List D)
  | .sh (.lst xs) => some xs
  | .sh (.fls xs) => some xs
  | .sh (.tup xs) => some xs
  | .at i => match S[i]? with
    | some (.ow xs) => some xs
    | _ => none
  | _ => none
theorem cnt_at {S : SS} {σ : L2.St} {H : Hp} {v : V} {dv : DV} {xs : List D} (ok : Ok X Z S σ H) (r : RVal X Z S σ H v dv) (e : cnt S dv = some xs) :
    ∃ a vs, v = .ref a ∧ (SqL X.K H a vs ∨ SqT X.K H a vs) ∧ Reps X.K X.mg H (avs Z S σ) vs xs := by
  cases dv with
  | sh d =>
    cases d with
    | lst ys =>
      cases (show some ys = some xs from e)
      obtain ⟨a, vs, h1, h2, h3⟩ := Rep.lst_inv r
      exact ⟨a, vs, h1, .inl (.inl (.inl h2)), h3⟩
    | fls ys =>
      cases (show some ys = some xs from e)
      obtain ⟨a, vs, h1, h2, h3⟩ := Rep.fls_inv r
      exact ⟨a, vs, h1, .inl h2.seq, h3⟩
    | tup ys =>
      cases (show some ys = some xs from e)
      obtain ⟨a, vs, h1, h2, h3⟩ := Rep.tup_inv r
      exact ⟨a, vs, h1, .inr h2, h3⟩
    | _ => cases e
  | «at» i =>
    have e' : (match S[i]? with | some (.ow ys) => some ys | _ => none) = some xs := e
    split at e'
    · rename_i ys h
      cases e'
      obtain ⟨a, vs, h1, h2, h3⟩ := ok.sl.ow i _ h
      have r' : σ[i]? = some (some v) := r
      rw [h1] at r'
      cases r'
      exact ⟨a, vs, rfl, .inl (.inl (.inl h2)), h3⟩
    · cases e'
def zLen (t : ZV) : ZE := fun S Q => t S fun d S1 => ∃ xs, cnt S1 d = some xs ∧ Q (.int xs.length) S1
theorem pd_len {x : Str} {p : Pos} {va : ZV} (hg : Gl X x) (hm : X.mg x = none) (hv : bootBuiltins x = some (.builtin "len")) (ha : PV X P e va) (hn : x ≠ "__name__" := by decide) (hdb : (x == ("__debug__" : Str)) = false := by decide)
    (he : starEach [e] X.env = (false, eval e X.env) :: starEach [] X.env := by rfl) (hpl : (backTo pos (starEach [] X.env)).any (·.1) = false := by rfl) : PD X P (.Call (.Name x p) [e] [] pos) (zLen va) := by
  obtain ⟨t0, p0, q0⟩ := ha.ex
  refine ⟨_, pe_callB call_len_seq hg hm hv (pa_cons p0 pa_nil he) hn hdb he hpl, fun Z hZ S σ H Qz Q ok h k => ?_⟩
  refine q0 Z hZ S σ H _ _ ok h fun d S1 v H1 h1 ok1 f1 r1 => ?_
  obtain ⟨xs, h2, h3⟩ := h1
  obtain ⟨a, vs, rfl, h4, h5⟩ := cnt_at ok1 r1 h2
  exact ⟨a, vs, rfl, h4, by rw [h5.length]; exact k _ S1 _ H1 h3 ok1 f1 (.int _)⟩
/-- e[i] -/
theorem ixN_eq {n m : Nat} (h : n = m) (i : Int) : ixN n i = ixN m i := by rw [h]
theorem reps_at {H : Hp} {av : Addr → Prop} {vs : List V} {xs : List D} {i : Int} {d : D} (r : Reps X.K X.mg H av vs xs) (e : atI xs i = some d) : ∃ v, atI vs i = some v ∧ Rep X.K X.mg H av v d := by
  unfold atI at e ⊢
  rw [r.length]
  cases hj : ixN xs.length i with
  | none => rw [hj] at e; cases e
  | some j =>
    rw [hj] at e
    exact r.get e
def zIx (ta : ZV) (tb : ZE) : ZE := fun S Q => ta S fun d S1 => tb S1 fun e S2 => match e with
  | .int i => ∃ xs, cnt S2 d = some xs ∧ ∃ x, atI xs i = some x ∧ Q x S2
  | _ => False
theorem pd_ix {va : ZV} (ha : PV X P a va) (hb : PD X P b tb) (hs : PlainIx b := by exact fun _ _ => rfl) : PD X P (.Subscript a b pos) (zIx va tb) := by
  obtain ⟨t0, p0, q0⟩ := ha.ex
  obtain ⟨t1, p1, q1⟩ := hb.ex
  refine ⟨_, pe_ix ix_seq p0 p1 hs, fun Z hZ S σ H Qz Q ok h k => ?_⟩
  refine q0 Z hZ S σ H _ _ ok h fun d S1 v H1 h1 ok1 f1 r1 => ?_
  refine q1 Z hZ S1 σ H1 _ _ ok1 h1 fun e S2 u H2 h2 ok2 f2 r2 => ?_
  split at h2
  · obtain rfl := r2.int_inv
    obtain ⟨xs, h3, x, h4, h5⟩ := h2
    obtain ⟨p, vs, rfl, h6, h7⟩ := cnt_at ok2 (r1.frm f2) h3
    obtain ⟨w, h8, h9⟩ := reps_at h7 h4
    have q := k _ S2 w H2 h5 ok2 (f1.trans f2) h9
    rcases h6 with h6 | h6
    · exact .inl ⟨p, vs, _, w, rfl, rfl, h6, h8, q⟩
    · exact .inr (.inl ⟨p, vs, _, w, rfl, rfl, h6, h8, q⟩)
  · exact h2.elim
/-- x in e, x not in e: flat items -/
def D.flat : D → Option V
  | .non => some .non
  | .bl b => some (.bl b)
  | .int i => some (.int i)
  | .str s => some (.str s)
  | _ => none
theorem rep_flat {H : Hp} {av : Addr → Prop} {v w : V} {d : D} (r : Rep X.K X.mg H av v d) (e : d.flat = some w) : v = w := by
  cases r <;> simp [D.flat] at e <;> exact e
def D.flats : List D → Option (List V)
  | [] => some []
  | x :: xs => x.flat.bind fun v => (D.flats xs).map fun vs => v :: vs
theorem reps_flats {H : Hp} {av : Addr → Prop} : ∀ {vs : List V} {ds : List D} {ws : List V}, Reps X.K X.mg H av vs ds → D.flats ds = some ws → vs = ws
  | _, _, _, .nil, e => by simp [D.flats] at e; exact e.symm ▸ rfl
  | _, _, _, .cons r t, e => by
    simp only [D.flats, Option.bind_eq_some_iff, Option.map_eq_some_iff] at e
    obtain ⟨v, h1, vs, h2, rfl⟩ := e
    rw [rep_flat r h1, reps_flats t h2]
def zIn (neg : Bool) (ta : ZE) (tb : ZV) : ZT := fun S Q => ta S fun d S1 => tb S1 fun e S2 => ∃ xs, cnt S2 e = some xs ∧ ∃ v vs, d.flat = some v ∧ D.flats xs = some vs ∧ flatV v = true ∧ vs.all flatV = true ∧ Q (if neg then !inV v vs else inV v vs) S2
theorem pt_in {vb : ZV} (ha : PD X P a ta) (hb : PV X P b vb) (hm : behindInMarks .In b = false := by rfl) : PTd X P (.Compare a [.In] [b] pos) (zIn false ta vb) := by
  obtain ⟨t0, p0, q0⟩ := ha.ex
  obtain ⟨t1, p1, q1⟩ := hb.ex
  refine ⟨_, pt_cmpR op_in_seq p0 p1 hm, fun Z hZ S σ H Qz Q ok h k => ?_⟩
  refine q0 Z hZ S σ H _ _ ok h fun d S1 v H1 h1 ok1 f1 r1 => ?_
  refine q1 Z hZ S1 σ H1 _ _ ok1 h1 fun e S2 u H2 h2 ok2 f2 r2 => ?_
  obtain ⟨xs, h3, w, ws, h4, h5, h6, h7, h8⟩ := h2
  obtain ⟨p, vs, rfl, h9, h10⟩ := cnt_at ok2 r2 h3
  obtain rfl := rep_flat r1 h4
  obtain rfl := reps_flats h10 h5
  exact ⟨p, vs, rfl, h9, h6, h7, _, rfl, k _ S2 H2 h8 ok2 (f1.trans f2)⟩
theorem pt_notin {vb : ZV} (ha : PD X P a ta) (hb : PV X P b vb) (hm : behindInMarks .NotIn b = false := by rfl) : PTd X P (.Compare a [.NotIn] [b] pos) (zIn true ta vb) := by
  obtain ⟨t0, p0, q0⟩ := ha.ex
  obtain ⟨t1, p1, q1⟩ := hb.ex
  refine ⟨_, pt_cmpR op_notIn_seq p0 p1 hm, fun Z hZ S σ H Qz Q ok h k => ?_⟩
  refine q0 Z hZ S σ H _ _ ok h fun d S1 v H1 h1 ok1 f1 r1 => ?_
  refine q1 Z hZ S1 σ H1 _ _ ok1 h1 fun e S2 u H2 h2 ok2 f2 r2 => ?_
  obtain ⟨xs, h3, w, ws, h4, h5, h6, h7, h8⟩ := h2
  obtain ⟨p, vs, rfl, h9, h10⟩ := cnt_at ok2 r2 h3
  obtain rfl := rep_flat r1 h4
  obtain rfl := reps_flats h10 h5
  exact ⟨p, vs, rfl, h9, h6, h7, _, rfl, k _ S2 H2 h8 ok2 (f1.trans f2)⟩
end
end Zz

/-! The pure layer: statements, loops. -/
namespace Zz
open PySem PySem.Spec PyProof.Rows L2
theorem nlt {N : List Str} {i : Nat} {x : Str} (h : N[i]? = some x) : i < N.length := (List.getElem?_eq_some_iff.mp h).1

structure ZD where
  nx : SS → Prop
  rt : Sl → SS → Prop
  bk : SS → Prop := fun _ => False
  ct : SS → Prop := fun _ => False
abbrev ZS := ZD → SS → Prop
abbrev ZG := D → SS → (SS → Prop) → Prop

section
variable {X : Cx} {Z : Zc} {S S' S1 : SS} {σ σ' : L2.St} {H H' H1 : Hp}
theorem Ok.setUn (ok : Ok X Z S σ H) {i : Nat} (hb : Z.bag = none ∨ i ≠ 0) : Ok X Z (S.set i .un) (σ.set i none) H ∧ ∀ a, avs Z (S.set i .un) (σ.set i none) a → avs Z S σ a := by
  have back : ∀ {j : Nat} {x : Sl}, (∀ y, x ≠ y ∨ y ≠ Sl.un) → (S.set i .un)[j]? = some x → i ≠ j ∧ S[j]? = some x := fun {j x} hx h => by
    have hj : i ≠ j := fun z => by
      subst z
      by_cases hl : i < S.length
      · rw [List.getElem?_set_self hl] at h
        cases h
        rcases hx .un with q | q <;> exact q rfl
      · rw [List.getElem?_eq_none (by simpa using hl)] at h; cases h
    rw [List.getElem?_set_ne hj] at h
    exact ⟨hj, h⟩
  have bo : ∀ {j : Nat} {zs : List D}, (S.set i .un)[j]? = some (.ow zs) → i ≠ j ∧ S[j]? = some (.ow zs) := fun {j zs} h => back (fun y => by cases y <;> simp) h
  have bs : ∀ {j : Nat} {d : D}, (S.set i .un)[j]? = some (.sh d) → i ≠ j ∧ S[j]? = some (.sh d) := fun {j d} h => back (fun y => by cases y <;> simp) h
  have sub : ∀ a, avs Z (S.set i .un) (σ.set i none) a → avs Z S σ a := fun a h => by
    rcases h with h | ⟨j, zs, h1, h2⟩ | ⟨j, h1⟩
    · exact .inl h
    · obtain ⟨hj, h1⟩ := bo h1
      rw [List.getElem?_set_ne hj] at h2
      exact .inr (.inl ⟨j, zs, h1, h2⟩)
    · exact .inr (.inr ⟨j, (hg_back h1).2⟩)
  have k : Carry H H (avs Z S σ) (avs Z (S.set i .un) (σ.set i none)) := .same (Same.refl H) sub
  refine ⟨⟨by rw [List.length_set, List.length_set]; exact ok.len, by rw [List.length_set]; exact ok.nm, fun j b g h => gi_set (gh_back h).1 (ok.gi j b g (gh_back h).2), ⟨fun j d' h => ?_, fun j zs h => ?_, fun j b g h => (ok.sl.gh j b g (gh_back h).2).carry k fun _ _ o h => h⟩, fun j l zs ys' b h1 h2 h3 h4 => ?_, fun j zs b h1 h2 => ?_, ok.ext, ok.avd, fun b h => ?_, fun j l zs b h1 h2 h3 => ?_, fun j l b h1 h2 => ok.ginj j l b (hg_back h1).2 (hg_back h2).2, fun j b h => ok.gown j b (hg_back h).2⟩, sub⟩
  · obtain ⟨hj, h⟩ := bs h
    obtain ⟨v', h1, h2⟩ := ok.sl.sh j d' h
    exact ⟨v', by rw [List.getElem?_set_ne hj]; exact h1, h2.carry k⟩
  · obtain ⟨hj, h⟩ := bo h
    obtain ⟨b, us, h1, h2, h3⟩ := ok.sl.ow j zs h
    exact ⟨b, us, by rw [List.getElem?_set_ne hj]; exact h1, h2, h3.carry k⟩
  · obtain ⟨n1, h1⟩ := bo h1
    obtain ⟨n2, h2⟩ := bo h2
    rw [List.getElem?_set_ne n1] at h3
    rw [List.getElem?_set_ne n2] at h4
    exact ok.inj j l _ _ b h1 h2 h3 h4
  · obtain ⟨n1, h1⟩ := bo h1
    rw [List.getElem?_set_ne n1] at h2
    exact ok.own j _ b h1 h2
  · obtain ⟨zs, h1, h2⟩ := ok.bag b h
    have hi0 : i ≠ 0 := by
      rcases hb with z | z
      · rw [z] at h; cases h
      · exact z
    exact ⟨zs, by rw [List.getElem?_set_ne hi0]; exact h1, by rw [List.getElem?_set_ne hi0]; exact h2⟩
  · obtain ⟨n1, h1⟩ := bo h1
    rw [List.getElem?_set_ne n1] at h2
    exact ok.gow j l zs b h1 h2 (hg_back h3).2
end
/-- what comes back: data, or a new list -/
def RRel (X : Cx) (Z : Zc) (S : SS) (σ : L2.St) (H : Hp) (v : V) : Sl → Prop
  | .sh d => Rep X.K X.mg H (avs Z S σ) v d
  | .ow xs => ∃ a, v = .ref a ∧ Fresh X Z S σ H a xs
  | _ => False
structure Imp (X : Cx) (Z : Zc) (S : SS) (σ : L2.St) (H : Hp) (E : ZD) (D0 : Ends) : Prop where
  nx : ∀ S' σ' H', E.nx S' → Ok X Z S' σ' H' → Frm X Z S σ H S' σ' H' → D0.nx σ' H'
  rt : ∀ r S' σ' v H', E.rt r S' → Ok X Z S' σ' H' → Frm X Z S σ H S' σ' H' → RRel X Z S' σ' H' v r → D0.rt v H'
  bk : ∀ S' σ' H', E.bk S' → Ok X Z S' σ' H' → Frm X Z S σ H S' σ' H' → D0.bk σ' H'
  ct : ∀ S' σ' H', E.ct S' → Ok X Z S' σ' H' → Frm X Z S σ H S' σ' H' → D0.ct σ' H'
theorem Imp.frm {X : Cx} {Z : Zc} {S S' : SS} {σ σ' : L2.St} {H H' : Hp} {E : ZD} {D0 : Ends} (i : Imp X Z S σ H E D0) (f : Frm X Z S σ H S' σ' H') : Imp X Z S' σ' H' E D0 :=
  ⟨fun _ _ _ h o g => i.nx _ _ _ h o (f.trans g), fun _ _ _ _ _ h o g r => i.rt _ _ _ _ _ h o (f.trans g) r, fun _ _ _ h o g => i.bk _ _ _ h o (f.trans g), fun _ _ _ h o g => i.ct _ _ _ h o (f.trans g)⟩

structure PSd (X : Cx) (P : Zc → Prop) (st : Stmt) (t : ZS) : Prop where
  ex : ∃ t0 : TS, PS X st t0 ∧ ∀ (Z : Zc), P Z → ∀ (S : SS) (σ : L2.St) (H : Hp) (E : ZD) (D0 : Ends), Ok X Z S σ H → t E S → Imp X Z S σ H E D0 → t0 D0 σ H
structure PSsd (X : Cx) (P : Zc → Prop) (st : List Stmt) (t : ZS) : Prop where
  ex : ∃ t0 : TS, PSs X st t0 ∧ ∀ (Z : Zc), P Z → ∀ (S : SS) (σ : L2.St) (H : Hp) (E : ZD) (D0 : Ends), Ok X Z S σ H → t E S → Imp X Z S σ H E D0 → t0 D0 σ H
/-- only the slots js were stored -/
def Wp (js : List Nat) (σ σ' : L2.St) : Prop := ∀ vs : List Nat, (∀ j ∈ js, j ∈ vs) → wipe σ' vs = wipe σ vs
structure PGd (X : Cx) (P : Zc → Prop) (tg : Expr) (g : ZG) (js : List Nat) : Prop where
  ex : ∃ g0 : TG, PG X tg g0 ∧ ∀ (Z : Zc), P Z → ∀ (S : SS) (σ : L2.St) (H : Hp) (v : V) (d : D) (Qz : SS → Prop) (Q : L2.St → Hp → Prop), Ok X Z S σ H → Rep X.K X.mg H (avs Z S σ) v d → g d S Qz →
    (∀ S' σ' H', Qz S' → Ok X Z S' σ' H' → Frm X Z S σ H S' σ' H' → Wp js σ σ' → Q σ' H') → g0 v σ H Q
abbrev ZGs := List D → SS → (SS → Prop) → Prop
structure PGsd (X : Cx) (P : Zc → Prop) (tgs : List Expr) (g : ZGs) (js : List Nat) : Prop where
  ex : ∃ g0 : TGs, PGs X tgs g0 ∧ ∀ (Z : Zc), P Z → ∀ (S : SS) (σ : L2.St) (H : Hp) (vs : List V) (ds : List D) (Qz : SS → Prop) (Q : L2.St → Hp → Prop), Ok X Z S σ H → Reps X.K X.mg H (avs Z S σ) vs ds → g ds S Qz →
    (∀ S' σ' H', Qz S' → Ok X Z S' σ' H' → Frm X Z S σ H S' σ' H' → Wp js σ σ' → Q σ' H') → g0 vs σ H Q
theorem Wp.refl {js : List Nat} {σ : L2.St} : Wp js σ σ := fun _ _ => rfl
theorem Wp.trans {js ks : List Nat} {σ σ' σ'' : L2.St} (a : Wp js σ σ') (b : Wp ks σ' σ'') : Wp (js ++ ks) σ σ'' := fun vs h =>
  (b vs fun j hj => h j (List.mem_append_right _ hj)).trans (a vs fun j hj => h j (List.mem_append_left _ hj))
theorem wipe_set {i : Nat} {x : Option V} : ∀ (σ : L2.St) (vs : List Nat), i ∈ vs → wipe (σ.set i x) vs = wipe σ vs
  | σ, [], h => by simp at h
  | σ, v :: vs, h => by
    show (wipe (σ.set i x) vs).set v none = (wipe σ vs).set v none
    by_cases hi : i ∈ vs
    · rw [wipe_set σ vs hi]
    · have e : v = i := by
        rcases List.mem_cons.mp h with e | e
        · exact e.symm
        · exact absurd e hi
      subst e
      have : ∀ (ws : List Nat), wipe (σ.set v x) ws = (wipe σ ws).set v (if v ∈ ws then none else x) ∨ (v ∈ ws ∧ wipe (σ.set v x) ws = wipe σ ws) := by
        intro ws
        induction ws with
        | nil => left; rfl
        | cons w ws ih =>
          show (wipe (σ.set v x) ws).set w none = _ ∨ _
          by_cases hw : w = v
          · subst hw
            refine .inr ⟨List.mem_cons_self, ?_⟩
            show (wipe (σ.set w x) ws).set w none = (wipe σ ws).set w none
            rcases ih with ih | ⟨_, ih⟩
            · rw [ih, List.set_set]
            · rw [ih]
          · rcases ih with ih | ⟨h1, ih⟩
            · by_cases hm : v ∈ ws
              · refine .inl ?_
                rw [ih, List.set_comm _ _ (Ne.symm hw), if_pos hm, if_pos (List.mem_cons_of_mem _ hm)]
                rfl
              · refine .inl ?_
                rw [ih, List.set_comm _ _ (Ne.symm hw), if_neg hm, if_neg (fun z => (List.mem_cons.mp z).elim (fun e => hw e.symm) hm)]
                rfl
            · exact .inr ⟨List.mem_cons_of_mem _ h1, by show (wipe (σ.set v x) ws).set w none = (wipe σ ws).set w none; rw [ih]⟩
      rcases this vs with e | ⟨e, _⟩
      · rw [e, List.set_set]
      · exact absurd e hi
theorem Wp.set {i : Nat} {x : Option V} {σ : L2.St} : Wp [i] σ (σ.set i x) := fun vs h => wipe_set σ vs (h i List.mem_cons_self)

section
variable {X : Cx} {Z : Zc} {P : Zc → Prop} {st : Stmt} {rest : List Stmt} {e : Expr} {t u : ZS} {te : ZE} {pos : Pos}
def zNext : ZS := fun E S => E.nx S
def zSeq (t u : ZS) : ZS := fun E S => t { E with nx := u E } S
theorem ssd_nil : PSsd X P [] zNext := ⟨_, pss_nil, fun Z hZ S σ H E D0 ok h i => i.nx S σ H h ok .refl⟩
theorem ssd_cons (h1 : PSd X P st t) (h2 : PSsd X P rest u) : PSsd X P (st :: rest) (zSeq t u) := by
  obtain ⟨t0, p0, q0⟩ := h1.ex
  obtain ⟨t1, p1, q1⟩ := h2.ex
  refine ⟨_, pss_cons p0 p1, fun Z hZ S σ H E D0 ok h i => ?_⟩
  exact q0 Z hZ S σ H _ _ ok h ⟨fun S' σ' H' h2 o f => q1 Z hZ S' σ' H' E D0 o h2 (i.frm f), i.rt, i.bk, i.ct⟩
theorem ssd_one (h1 : PSd X P st t) : PSsd X P [st] t := by
  obtain ⟨t0, p0, q0⟩ := h1.ex
  exact ⟨_, pss_one p0, q0⟩
def zBrk : ZS := fun E S => E.bk S
def zCnt : ZS := fun E S => E.ct S
theorem sd_pass : PSd X P (.Pass pos) zNext := ⟨_, ps_pass, fun Z hZ S σ H E D0 ok h i => i.nx S σ H h ok .refl⟩
theorem sd_break : PSd X P (.Break pos) zBrk := ⟨_, ps_break, fun Z hZ S σ H E D0 ok h i => i.bk S σ H h ok .refl⟩
theorem sd_continue : PSd X P (.Continue pos) zCnt := ⟨_, ps_continue, fun Z hZ S σ H E D0 ok h i => i.ct S σ H h ok .refl⟩
def zNever : ZS := fun _ _ => False
theorem sd_never : PSd X P st zNever := ⟨_, ps_never, fun _ _ _ _ _ _ _ _ h _ => h.elim⟩
theorem ssd_never {sts : List Stmt} : PSsd X P sts zNever := ⟨_, pss_never, fun _ _ _ _ _ _ _ _ h _ => h.elim⟩
def zDrop (te : ZE) : ZS := fun E S => te S fun _ S1 => E.nx S1
theorem sd_expr (he : PD X P e te) (hs : swapsWith e none pos.line X.env = pure false := by rfl) : PSd X P (.Expr e pos) (zDrop te) := by
  obtain ⟨t0, p0, q0⟩ := he.ex
  exact ⟨_, ps_expr p0 hs, fun Z hZ S σ H E D0 ok h i => q0 Z hZ S σ H _ _ ok h fun d S1 v H1 h1 o f r => i.nx _ _ _ h1 o f⟩
def zRet (te : ZE) : ZS := fun E S => te S fun d S1 => E.rt (.sh d) S1
theorem sd_ret (he : PD X P e te) : PSd X P (.Return (some e) pos) (zRet te) := by
  obtain ⟨t0, p0, q0⟩ := he.ex
  exact ⟨_, ps_ret p0, fun Z hZ S σ H E D0 ok h i => q0 Z hZ S σ H _ _ ok h fun d S1 v H1 h1 o f r => i.rt (.sh d) _ _ _ _ h1 o f r⟩
def zRetN : ZS := fun E S => E.rt (.sh .non) S
theorem sd_retN : PSd X P (.Return none pos) zRetN := ⟨_, ps_retN, fun Z hZ S σ H E D0 ok h i => i.rt (.sh .non) _ _ _ _ h ok .refl .non⟩
/-- return of a new list -/
def zRetF (tf : ZA) : ZS := fun E S => tf S fun xs S1 => E.rt (.ow xs) S1
theorem sd_retF {tf : ZA} (he : PF X P e tf) : PSd X P (.Return (some e) pos) (zRetF tf) := by
  obtain ⟨t0, p0, q0⟩ := he.ex
  exact ⟨_, ps_ret p0, fun Z hZ S σ H E D0 ok h i => q0 Z hZ S σ H _ _ ok h fun xs S1 a H1 h1 o f fr _ => i.rt (.ow xs) _ _ _ _ h1 o f ⟨a, rfl, fr⟩⟩
/-- return of a name: an own list is handed out -/
def zRetO (i : Nat) : ZS := fun E S => match S[i]? with
  | some (.sh d) => E.rt (.sh d) S
  | some (.ow xs) => E.rt (.ow xs) (S.set i .un)
  | _ => False
theorem Ok.out {Z : Zc} {S : SS} {σ : L2.St} {H : Hp} (ok : Ok X Z S σ H) {i : Nat} {xs : List D} {a : Addr} (e : S[i]? = some (.ow xs)) (ha : σ[i]? = some (some (.ref a))) (hb : Z.bag = none ∨ i ≠ 0) :
    Ok X Z (S.set i .un) (σ.set i none) H ∧ Frm X Z S σ H (S.set i .un) (σ.set i none) H ∧ Fresh X Z (S.set i .un) (σ.set i none) H a xs := by
  obtain ⟨o, k⟩ := ok.setUn (i := i) hb
  obtain ⟨a', vs, h1, h2, h3⟩ := ok.sl.ow i xs e
  rw [ha] at h1
  cases h1
  have back : ∀ {j : Nat} {zs : List D}, (S.set i .un)[j]? = some (.ow zs) → i ≠ j ∧ S[j]? = some (.ow zs) := fun {j zs} h => by
    have hj : i ≠ j := fun z => by
      subst z
      rw [List.getElem?_set_self (List.getElem?_eq_some_iff.mp e).1] at h
      cases h
    rw [List.getElem?_set_ne hj] at h
    exact ⟨hj, h⟩
  have na : ¬ avs Z (S.set i .un) (σ.set i none) a := fun h => by
    rcases h with h | ⟨j, zs, e1, e2⟩ | ⟨j, e1⟩
    · exact (ok.own i xs a e ha).2 h
    · obtain ⟨hj, e1⟩ := back e1
      rw [List.getElem?_set_ne hj] at e2
      exact hj (ok.inj i j _ _ a e e1 ha e2)
    · exact ok.gow i j xs a e ha (hg_back e1).2
  have kk : Carry H H (avs Z S σ) (fun b => avs Z (S.set i .un) (σ.set i none) b ∨ b = a) := .same (Same.refl H) fun b h => h.elim (k b) fun z => by rw [z]; exact avs_at e ha
  refine ⟨o, .of (.same (Same.refl H) k) fun _ _ => rfl, ⟨vs, h2, h3.carry kk⟩, ?_, na, ⟨fun j d h => ?_, fun j zs h => ?_, fun j b g h => (ok.sl.gh j b g (gh_back h).2).carry kk fun _ _ o h => h⟩⟩
  · rcases (ok.own i xs a e ha).1 with z | z
    · exact z
    · rcases hb with q | q
      · rw [z] at q; cases q
      · obtain ⟨ws, e1, e2⟩ := ok.bag a z
        exact absurd (ok.inj i 0 _ _ a e e1 ha e2) q
  · have hj : i ≠ j := fun z => by
      subst z
      rw [List.getElem?_set_self (List.getElem?_eq_some_iff.mp e).1] at h
      cases h
    rw [List.getElem?_set_ne hj] at h
    obtain ⟨v, q1, q2⟩ := ok.sl.sh j d h
    exact ⟨v, by rw [List.getElem?_set_ne hj]; exact q1, q2.carry kk⟩
  · obtain ⟨hj, h⟩ := back h
    obtain ⟨b, us, q1, q2, q3⟩ := ok.sl.ow j zs h
    exact ⟨b, us, by rw [List.getElem?_set_ne hj]; exact q1, q2, q3.carry kk⟩
theorem sd_retO {i : Nat} {x : Str} {p : Pos} (hb : ∀ Z, P Z → Z.bag = none ∨ i ≠ 0) (hN : X.N[i]? = some x := by rfl) (hv : Vis X.env.scope x := by first | exact Or.inl rfl | exact Or.inr (Or.inl rfl) | exact Or.inr (Or.inr rfl)) (hd : (x == ("__debug__" : Str)) = false := by decide)
    (hcd : (x == ("__classdict__" : Str)) = false := by decide) : PSd X P (.Return (some (.Name x p)) pos) (zRetO i) := by
  refine ⟨_, ps_ret (pe_var (i := i) hN hv hd hcd), fun Z hZ S σ H E D0 ok h j => ?_⟩
  unfold zRetO at h
  split at h
  · rename_i d e
    obtain ⟨v, h1, h2⟩ := ok.sl.sh i d e
    exact ⟨v, h1, j.rt (.sh d) S σ v H h ok .refl h2⟩
  · rename_i xs e
    obtain ⟨a, vs, h1, h2, h3⟩ := ok.sl.ow i xs e
    obtain ⟨o, f, fr⟩ := ok.out e h1 (hb Z hZ)
    exact ⟨_, h1, j.rt (.ow xs) _ _ _ H h o f ⟨a, rfl, fr⟩⟩
  · exact h.elim
def zIfS (c : ZT) (t u : ZS) : ZS := fun E S => c S fun b S1 => (b = true → t E S1) ∧ (b = false → u E S1)
theorem sd_if {c : Expr} {a b : List Stmt} {tc : ZT} (hc : PTd X P c tc) (ha : PSsd X P a t) (hb : PSsd X P b u) : PSd X P (.If c a b pos) (zIfS tc t u) := by
  obtain ⟨tC, pC, qC⟩ := hc.ex
  obtain ⟨t0, p0, q0⟩ := ha.ex
  obtain ⟨t1, p1, q1⟩ := hb.ex
  refine ⟨_, ps_if pC p0 p1, fun Z hZ S σ H E D0 ok h i => qC Z hZ S σ H _ _ ok h fun b S1 H1 h1 o f => ?_⟩
  cases b with
  | true => exact iteT (q0 Z hZ S1 σ H1 E D0 o (h1.1 rfl) (i.frm f))
  | false => exact iteF (q1 Z hZ S1 σ H1 E D0 o (h1.2 rfl) (i.frm f))

/-! ### stores -/
def gzName (i : Nat) : ZG := fun d S Q => Q (S.set i (.sh d))
theorem frm_set {S : SS} {σ : L2.St} {H : Hp} {i : Nat} {v : V} {d : D} (k : Carry H H (avs Z S σ) (avs Z (S.set i (.sh d)) (σ.set i (some v)))) : Frm X Z S σ H (S.set i (.sh d)) (σ.set i (some v)) H := .of k fun _ _ => rfl
theorem gd_name {i : Nat} {x : Str} (hb : ∀ Z, P Z → Z.bag = none ∨ i ≠ 0) (hN : X.N.Nodup) (hi : X.N[i]? = some x := by rfl) (hx : Loc X.env.scope x := by first | exact Or.inl rfl | exact Or.inr rfl)
    (hf : X.fn x = true ∨ X.env.scope.names.lookup x = some .local := by first | exact .inl rfl | exact .inr rfl) : PGd X P (.Name x pos) (gzName i) [i] := by
  refine ⟨_, pg_name hN hi hx hf, fun Z hZ S σ H v d Qz Q ok r h k => ?_⟩
  obtain ⟨o, c⟩ := ok.setSh (i := i) r (hb Z hZ) (nlt hi)
  exact k _ _ _ h o (frm_set c) .set
def gzNil : ZGs := fun ds S Q => match ds with
  | [] => Q S
  | _ => False
def gzCons (g : ZG) (h : ZGs) : ZGs := fun ds S Q => match ds with
  | d :: r => g d S fun S1 => h r S1 Q
  | [] => False
theorem gsd_nil : PGsd X P [] gzNil [] := by
  refine ⟨_, pgs_nil, fun Z hZ S σ H vs ds Qz Q ok r h k => ?_⟩
  cases r with
  | nil => exact ⟨rfl, k _ _ _ h ok .refl .refl⟩
  | cons _ _ => exact h.elim
theorem gsd_cons {es : List Expr} {g : ZG} {h : ZGs} {js ks : List Nat} (h1 : PGd X P e g js) (h2 : PGsd X P es h ks)
    (hs : (assignEach (e :: es) X.env).map (·.2) = assign e X.env :: (assignEach es X.env).map (·.2) := by rfl) : PGsd X P (e :: es) (gzCons g h) (js ++ ks) := by
  obtain ⟨t0, p0, q0⟩ := h1.ex
  obtain ⟨t1, p1, q1⟩ := h2.ex
  refine ⟨_, pgs_cons p0 p1 hs, fun Z hZ S σ H vs ds Qz Q ok r hq k => ?_⟩
  cases r with
  | nil => exact hq.elim
  | cons r rr => exact ⟨_, _, rfl, q0 Z hZ S σ H _ _ _ _ ok r hq fun S1 σ1 H1 h1 o f w1 => q1 Z hZ S1 σ1 H1 _ _ _ _ o (f.reps rr) h1 fun S2 σ2 H2 h2 o2 f2 w2 => k _ _ _ h2 o2 (f.trans f2) (w1.trans w2)⟩
theorem pg_or {tg : Expr} {g g' : TG} (h : PG X tg g) (h' : PG X tg g') : PG X tg (fun v σ H Q => g v σ H Q ∨ g' v σ H Q) :=
  ⟨fun pins s σ H v u Q I r q => q.elim (fun q => h.run pins s σ H v u Q I r q) fun q => h'.run pins s σ H v u Q I r q⟩
/-- a, b, .. = a tuple or a list of that length -/
def gzTup (n : Nat) (g : ZGs) : ZG := fun d S Q => match d with
  | .tup ds => ds.length = n ∧ g ds S Q
  | .lst ds => ds.length = n ∧ g ds S Q
  | _ => False
theorem gd_tup {es : List Expr} {k : Nat} {g : ZGs} {n : Nat} {js : List Nat} (hc : X.calm = true) (h : PGsd X P es g js)
    (hn : (assignEach es X.env).length = n := by rfl) (hst : (assignEach es X.env).findIdx? (·.1) = none := by rfl) : PGd X P (.Tuple es k pos) (gzTup n g) js := by
  obtain ⟨t0, p0, q0⟩ := h.ex
  refine ⟨_, pg_or (pg_tup hc p0 hn hst) (pg_unl hc p0 hn hst), fun Z hZ S σ H v d Qz Q ok r hq k => ?_⟩
  unfold gzTup at hq
  split at hq
  · obtain ⟨a, vs, rfl, h2, h3⟩ := r.tup_inv
    exact .inl ⟨a, vs, rfl, h2, h3.length.trans hq.1, q0 Z hZ S σ H _ _ _ _ ok h3 hq.2 k⟩
  · obtain ⟨a, vs, rfl, h2, h3⟩ := r.lst_inv
    exact .inr ⟨a, vs, rfl, .inl (.inl h2), h3.length.trans hq.1, q0 Z hZ S σ H _ _ _ _ ok h3 hq.2 k⟩
  · exact hq.elim
def zAsg (te : ZE) (g : ZG) : ZS := fun E S => te S fun d S1 => g d S1 E.nx
theorem sd_asg {tg : Expr} {g : ZG} {js : List Nat} (he : PD X P e te) (hg : PGd X P tg g js) (hs : swapsWithSole [tg] e pos.line X.env = pure false := by rfl) (hw : swappedStores [tg] e X.env = pure none := by rfl)
    (h1 : (assignEach [tg] X.env).map (·.2) = [assign tg X.env] := by rfl) : PSd X P (.Assign [tg] e pos) (zAsg te g) := by
  obtain ⟨t0, p0, q0⟩ := he.ex
  obtain ⟨t1, p1, q1⟩ := hg.ex
  refine ⟨_, ps_asg p0 p1 hs hw h1, fun Z hZ S σ H E D0 ok h i => q0 Z hZ S σ H _ _ ok h fun d S1 v H1 h1 o f r => ?_⟩
  exact q1 Z hZ S1 σ H1 _ _ _ _ o r h1 fun S2 σ2 H2 h2 o2 f2 _ => i.nx _ _ _ h2 o2 (f.trans f2)
def zSet (te : ZE) (i : Nat) : ZS := fun E S => te S fun d S1 => E.nx (S1.set i (.sh d))
theorem sd_set {i : Nat} {x : Str} {pos' : Pos} (hb : ∀ Z, P Z → Z.bag = none ∨ i ≠ 0) (hN : X.N.Nodup) (he : PD X P e te) (hi : X.N[i]? = some x := by rfl) (hx : Loc X.env.scope x := by first | exact Or.inl rfl | exact Or.inr rfl)
    (hs : swapsWith e (some (.Name x pos')) pos.line X.env = pure false := by rfl) (hf : X.fn x = true ∨ X.env.scope.names.lookup x = some .local := by first | exact .inl rfl | exact .inr rfl) : PSd X P (.Assign [.Name x pos'] e pos) (zSet te i) := by
  obtain ⟨t0, p0, q0⟩ := he.ex
  refine ⟨_, ps_set hN hi hx p0 hs hf, fun Z hZ S σ H E D0 ok h j => q0 Z hZ S σ H _ _ ok h fun d S1 v H1 h1 o f r => ?_⟩
  obtain ⟨o2, c⟩ := o.setSh (i := i) r (hb Z hZ) (nlt hi)
  exact j.nx _ _ _ h1 o2 (f.trans (frm_set c))
/-- name = a new list, kept as its own -/
def zSetF (te : ZA) (i : Nat) : ZS := fun E S => te S fun d S1 => E.nx (S1.set i (.ow d))
theorem fresh_set {S S1 : SS} {σ : L2.St} {H H1 : Hp} {i : Nat} {a : Addr} {xs : List D} (hb : Z.bag = none ∨ i ≠ 0) (hn : i < X.N.length) (o : Ok X Z S1 σ H1) (f : Frm X Z S σ H S1 σ H1) (fr : Fresh X Z S1 σ H1 a xs)
    (c : ∀ v d, Rep X.K X.mg H (avs Z S σ) v d → Rep X.K X.mg H1 (fun b => avs Z S1 σ b ∨ b = a) v d) : Ok X Z (S1.set i (.ow xs)) (σ.set i (some (.ref a))) H1 ∧ Frm X Z S σ H (S1.set i (.ow xs)) (σ.set i (some (.ref a))) H1 := by
  obtain ⟨o2, k⟩ := o.setOw (i := i) fr hb hn
  exact ⟨o2, ⟨fun v d r => k (c v d r), f.pr⟩⟩
theorem sd_setF {i : Nat} {x : Str} {pos' : Pos} {tf : ZA} (hb : ∀ Z, P Z → Z.bag = none ∨ i ≠ 0) (hN : X.N.Nodup) (he : PF X P e tf) (hi : X.N[i]? = some x := by rfl) (hx : Loc X.env.scope x := by first | exact Or.inl rfl | exact Or.inr rfl)
    (hs : swapsWith e (some (.Name x pos')) pos.line X.env = pure false := by rfl) (hf : X.fn x = true ∨ X.env.scope.names.lookup x = some .local := by first | exact .inl rfl | exact .inr rfl) : PSd X P (.Assign [.Name x pos'] e pos) (zSetF tf i) := by
  obtain ⟨t0, p0, q0⟩ := he.ex
  refine ⟨_, ps_set hN hi hx p0 hs hf, fun Z hZ S σ H E D0 ok h j => q0 Z hZ S σ H _ _ ok h fun d S1 a H1 h1 o f fr c => ?_⟩
  obtain ⟨o2, f2⟩ := fresh_set (i := i) (hb Z hZ) (nlt hi) o f fr c
  exact j.nx _ _ _ h1 o2 f2
/-- name op= e -/
def zAug (i : Nat) (f : Int → Int → Int) (te : ZE) : ZS := fun E S => match S[i]? with
  | some (.sh (.int a)) => te S fun d S1 => match d with
    | .int b => E.nx (S1.set i (.sh (.int (f a b))))
    | _ => False
  | _ => False
theorem sd_aug {i : Nat} {x : Str} {pos' : Pos} {op : Operator} {f : Int → Int → Int} (ho : PIp X op (ipI f)) (hb : ∀ Z, P Z → Z.bag = none ∨ i ≠ 0) (hN : X.N.Nodup) (he : PD X P e te) (hi : X.N[i]? = some x := by rfl) (hx : Loc X.env.scope x := by first | exact Or.inl rfl | exact Or.inr rfl)
    (hf : X.fn x = true ∨ X.env.scope.names.lookup x = some .local := by first | exact .inl rfl | exact .inr rfl) : PSd X P (.AugAssign (.Name x pos') op e pos) (zAug i f te) := by
  obtain ⟨t0, p0, q0⟩ := he.ex
  refine ⟨_, ps_aug hN hi hx p0 ho hf, fun Z hZ S σ H E D0 ok h j => ?_⟩
  unfold zAug at h
  split at h
  · rename_i n e1
    obtain ⟨v, h1, h2⟩ := ok.sl.sh i _ e1
    obtain rfl := h2.int_inv
    refine ⟨_, h1, q0 Z hZ S σ H _ _ ok h fun d S1 v H1 h3 o f1 r => ?_⟩
    split at h3
    · obtain rfl := r.int_inv
      refine ⟨_, _, rfl, rfl, ?_⟩
      obtain ⟨o2, c⟩ := o.setSh (i := i) (.int (f n _)) (hb Z hZ) (nlt hi)
      exact j.nx _ _ _ h3 o2 (f1.trans (frm_set c))
    · exact h3.elim
  · exact h.elim
theorem frm_write {S : SS} {σ : L2.St} {H : Hp} {i : Nat} {xs : List D} {a : Addr} {vs ws : List V} {ys : List D} (ok : Ok X Z S σ H) (e : S[i]? = some (.ow xs)) (ha : σ[i]? = some (some (.ref a))) (hv : H a = some (.lst vs)) :
    Frm X Z S σ H (S.set i (.ow ys)) σ (upd H a (.lst ws)) := by
  refine .of ?_ fun b hb => upd_ne fun z => (ok.own i xs a e ha).2 (z ▸ hb)
  rw [avs_set e]
  exact .write hv rfl (avs_at e ha)
/-! ### methods of an own list -/
/-- content, arguments: what comes, the new content -/
abbrev ZM := List D → List D → (D → List D → Prop) → Prop
def MtZ (K : PySem.W.Frag) (mg : Str → Option Value) (r : V → List V → Hp → VK → Prop) (f : ZM) : Prop :=
  ∀ (H : Hp) (av : Addr → Prop) (l : Addr) (us vs : List V) (ys ds : List D) (Qd : D → List D → Prop) (Q : VK), H l = some (.lst us) → Reps K mg H av us ys → Reps K mg H av vs ds → f ys ds Qd →
    (∀ d ns nvs v, Qd d ns → Reps K mg H av nvs ns → Rep K mg H av v d → Q v (upd H l (.lst nvs))) → r (.ref l) vs H Q
def zLM (i : Nat) (f : ZM) (ta : ZA) : ZE := fun S Q => match S[i]? with
  | some (.ow _) => ta S fun ds S1 => match S1[i]? with
    | some (.ow xs) => f xs ds fun d ys => Q d (S1.set i (.ow ys))
    | _ => False
  | _ => False
theorem pd_lm {i : Nat} {x name : Str} {id : String} {r : V → List V → Hp → VK → Prop} {f : ZM} {npos apos cpos : Pos} {es : List Expr} {ta : ZA} (slot : Slot "list" name id) (hty : typeOf (.builtin id) = pure (.type "method_descriptor")) (hm : MtR X id r) (hf : MtZ X.K X.mg r f)
    (he : PAd X P (e :: es) ta) (hN : X.N[i]? = some x := by rfl) (hv : Vis X.env.scope x := by first | exact Or.inl rfl | exact Or.inr (Or.inl rfl) | exact Or.inr (Or.inr rfl)) (hd : (x == ("__debug__" : Str)) = false := by decide)
    (hcd : (x == ("__classdict__" : Str)) = false := by decide) (hbase : attributeBase (.Name x npos) name X.env (eval (.Name x npos) X.env) = eval (.Name x npos) X.env := by rfl)
    (hfew : ((backTo cpos (starEach (e :: es) X.env)).all (fun x => !x.1) && (backToKw cpos (keywordEach [] X.env)).all (fun x => x.1.isSome)
      && decide ((e :: es).length + ([] : List Keyword).length + (if ([] : List Keyword).isEmpty then 0 else 1) < 30)) = true := by rfl)
    (hline : (apos.endLine == cpos.line) = true := by rfl) (hs : starEach (e :: es) X.env = (false, eval e X.env) :: starEach es X.env := by rfl) (hplain : (backTo cpos (starEach es X.env)).any (·.1) = false := by rfl) :
    PD X P (.Call (.Attribute (.Name x npos) name apos) (e :: es) [] cpos) (zLM i f ta) := by
  obtain ⟨t0, p0, q0⟩ := he.ex
  refine ⟨_, pe_bm PySem.F.plainAttrs_list slot hty hm (pe_var (i := i) hN hv hd hcd) p0 hbase hfew hline hs hplain, fun Z hZ S σ H Qz Q ok h k => ?_⟩
  unfold zLM at h
  split at h
  · rename_i ws e0
    obtain ⟨a, us, h1, h2, h3⟩ := ok.sl.ow i ws e0
    refine ⟨_, h1, .inl ⟨rfl, _, .inl (.inl h2)⟩, ?_⟩
    refine q0 Z hZ S σ H _ _ ok h fun ds S1 vs H1 h4 o1 f1 r1 => ?_
    split at h4
    · rename_i xs e1
      obtain ⟨a', us', g1, g2, g3⟩ := o1.sl.ow i xs e1
      rw [h1] at g1
      cases g1
      exact hf H1 _ a us' vs xs ds _ Q g2 g3 r1 h4 fun d ns nvs v h5 h6 h7 => k d _ v _ h5 (o1.write e1 h1 g2 h6) (f1.trans (frm_write o1 e1 h1 g2)) ((frm_write o1 e1 h1 g2).rp _ _ h7)
    · exact h4.elim
  · exact h.elim
theorem pd_lm0 {i : Nat} {x name : Str} {id : String} {r : V → List V → Hp → VK → Prop} {f : ZM} {npos apos cpos : Pos} (slot : Slot "list" name id) (hty : typeOf (.builtin id) = pure (.type "method_descriptor")) (hm : MtR X id r) (hf : MtZ X.K X.mg r f)
    (hN : X.N[i]? = some x := by rfl) (hv : Vis X.env.scope x := by first | exact Or.inl rfl | exact Or.inr (Or.inl rfl) | exact Or.inr (Or.inr rfl)) (hd : (x == ("__debug__" : Str)) = false := by decide)
    (hcd : (x == ("__classdict__" : Str)) = false := by decide) (hbase : attributeBase (.Name x npos) name X.env (eval (.Name x npos) X.env) = eval (.Name x npos) X.env := by rfl)
    (hline : (apos.endLine == cpos.line) = true := by rfl) :
    PD X P (.Call (.Attribute (.Name x npos) name apos) [] [] cpos) (zLM i f zNil) := by
  refine ⟨_, pe_bm0 PySem.F.plainAttrs_list slot hty hm (pe_var (i := i) hN hv hd hcd) hbase hline, fun Z hZ S σ H Qz Q ok h k => ?_⟩
  unfold zLM zNil at h
  split at h
  · rename_i xs e1
    obtain ⟨a, us, h1, g2, g3⟩ := ok.sl.ow i xs e1
    refine ⟨_, h1, .inl ⟨rfl, _, .inl (.inl g2)⟩, ?_⟩
    have h' : (match S[i]? with | some (.ow xs) => f xs [] fun d ys => Qz d (S.set i (.ow ys)) | _ => False) := h
    rw [e1] at h'
    exact hf H _ a us [] xs [] _ Q g2 g3 .nil h' fun d ns nvs v h5 h6 h7 => k d _ v _ h5 (ok.write e1 h1 g2 h6) (frm_write ok e1 h1 g2) ((frm_write ok e1 h1 g2).rp _ _ h7)
  · exact h.elim
def fApp : ZM := fun ys ds Q => match ds with
  | [d] => ys.length < sizeLine ∧ Q .non (ys ++ [d])
  | _ => False
theorem mz_append {K mg} : MtZ K mg rAppend fApp := by
  intro H av l us vs ys ds Qd Q hl r1 r2 h k
  unfold fApp at h
  split at h
  · cases r2 with
    | cons r rr =>
      cases rr
      exact ⟨l, us, _, rfl, rfl, hl, by rw [r1.length]; exact h.1, k _ _ _ _ h.2 (r1.append (.cons r .nil)) .non⟩
  · exact h.elim
def fPop : ZM := fun ys ds Q => match ds with
  | [] => ∃ d, ys[ys.length - 1]? = some d ∧ Q d ys.dropLast
  | _ => False
theorem mz_pop {K mg} : MtZ K mg rPop fPop := by
  intro H av l us vs ys ds Qd Q hl r1 r2 h k
  unfold fPop at h
  split at h
  · cases r2
    obtain ⟨d, h1, h2⟩ := h
    obtain ⟨v, h3, h4⟩ := r1.get h1
    exact ⟨l, us, v, rfl, rfl, hl, by rw [r1.length]; exact h3, k _ _ _ _ h2 r1.dropLast h4⟩
  · exact h.elim
def fClear : ZM := fun ys ds Q => match ds with
  | [] => Q .non []
  | _ => False
theorem mz_clear {K mg} : MtZ K mg rClear fClear := by
  intro H av l us vs ys ds Qd Q hl r1 r2 h k
  unfold fClear at h
  split at h
  · cases r2
    exact ⟨l, us, rfl, rfl, hl, k _ _ _ _ h .nil .non⟩
  · exact h.elim
/-- xs[k] = e, xs an own list -/
def zSetIx (i : Nat) (te tk : ZE) : ZS := fun E S => te S fun d S1 => match S1[i]? with
  | some (.ow _) => tk S1 fun k S2 => (match k with
    | .int k => (match S2[i]? with
      | some (.ow xs) => ∃ n, ixN xs.length k = some n ∧ E.nx (S2.set i (.ow (xs.set n d)))
      | _ => False)
    | _ => False)
  | _ => False
theorem sd_setIx {i : Nat} {x : Str} {npos tpos : Pos} {ke : Expr} {tk : ZE} (he : PD X P e te) (hk : PD X P ke tk) (hN : X.N[i]? = some x := by rfl) (hv : Vis X.env.scope x := by first | exact Or.inl rfl | exact Or.inr (Or.inl rfl) | exact Or.inr (Or.inr rfl)) (hd : (x == ("__debug__" : Str)) = false := by decide)
    (hcd : (x == ("__classdict__" : Str)) = false := by decide)
    (ha : ∀ v, assign (.Subscript (.Name x npos) ke tpos) X.env v = (do
      let ov ← holding [v] (eval (.Name x npos) X.env)
      let iv ← holding [v, ov] (eval ke X.env)
      standAt tpos
      holding [v, ov, iv] (setItem ov iv v)
      release [v, ov, iv] []) := by intro _; rfl)
    (hs : swapsWithSole [.Subscript (.Name x npos) ke tpos] e pos.line X.env = pure false := by rfl) (hw : swappedStores [.Subscript (.Name x npos) ke tpos] e X.env = pure none := by rfl)
    (h1 : (assignEach [.Subscript (.Name x npos) ke tpos] X.env).map (·.2) = [assign (.Subscript (.Name x npos) ke tpos) X.env] := by rfl) :
    PSd X P (.Assign [.Subscript (.Name x npos) ke tpos] e pos) (zSetIx i te tk) := by
  obtain ⟨t0, p0, q0⟩ := he.ex
  obtain ⟨t1, p1, q1⟩ := hk.ex
  refine ⟨_, ps_asg p0 (pg_sub (pe_var (i := i) hN hv hd hcd) p1 set_list ha) hs hw h1, fun Z hZ S σ H E D0 ok h j => q0 Z hZ S σ H _ _ ok h fun d S1 v H1 h1 o f r => ?_⟩
  split at h1
  · rename_i ws e0
    obtain ⟨a0, us0, g0, _, _⟩ := o.sl.ow i ws e0
    refine ⟨_, g0, q1 Z hZ S1 σ H1 _ _ o h1 fun k S2 u H2 h2 o2 f2 r2 => ?_⟩
    split at h2
    · split at h2
      · rename_i xs e1
        obtain ⟨n, h3, h4⟩ := h2
        obtain ⟨a, us, g1, g2, g3⟩ := o2.sl.ow i xs e1
        rw [g0] at g1
        cases g1
        obtain rfl := r2.int_inv
        refine ⟨_, us, _, n, rfl, rfl, g2, by rw [g3.length]; exact h3, ?_⟩
        exact j.nx _ _ _ h4 (o2.write e1 g0 g2 (Reps.set (f2.rp _ _ r) n g3)) ((f.trans f2).trans (frm_write o2 e1 g0 g2))
      · exact h2.elim
    · exact h2.elim
  · exact h1.elim
end
end Zz

/-! The pure layer: loops, comprehensions, slices. -/
namespace Zz
open PySem PySem.Spec PyProof.Rows L2

def forz (g : ZG) (tb : ZS) : List D → ZD → SS → Prop
  | [], E, S => E.nx S
  | d :: ds, E, S => g d S fun S1 => tb { E with nx := forz g tb ds E, ct := forz g tb ds E, bk := E.nx } S1

/-- what is walked gives the items ds, whatever the body does -/
def Gives (X : Cx) (Z : Zc) (S : SS) (σ : L2.St) (H : Hp) (J : It) (ds : List D) : Prop :=
  ∀ (Z' : Zc) (S' : SS) (σ' : L2.St) (H' : Hp), Ok X Z' S' σ' H' → (∀ v d, Rep X.K X.mg H (avs Z S σ) v d → Rep X.K X.mg H' (avs Z' S' σ') v d) → ∀ i : Nat,
    (∀ d, ds[i]? = some d → J.go i H' ∧ ∀ x H'', J.yld i H' x H'' → Same H' H'' ∧ Rep X.K X.mg H'' (avs Z' S' σ') x d) ∧ (ds.length ≤ i → J.stop i H')

section
variable {X : Cx} {Z : Zc} {P : Zc → Prop} {st : Stmt} {rest : List Stmt} {e : Expr} {t u : ZS} {te : ZE} {pos : Pos}

theorem drop_at {ds : List D} {i : Nat} {d : D} (h : ds[i]? = some d) : ds.drop i = d :: ds.drop (i + 1) := by
  obtain ⟨hl, e⟩ := List.getElem?_eq_some_iff.mp h
  rw [List.drop_eq_getElem_cons hl, e]
theorem for_core {js : List Nat} {g0 : TG} {tb0 : TS} {g : ZG} {tb : ZS}
    (q0 : ∀ (S : SS) (σ : L2.St) (H : Hp) (v : V) (d : D) (Qz : SS → Prop) (Q : L2.St → Hp → Prop), Ok X Z S σ H → Rep X.K X.mg H (avs Z S σ) v d → g d S Qz →
      (∀ S' σ' H', Qz S' → Ok X Z S' σ' H' → Frm X Z S σ H S' σ' H' → Wp js σ σ' → Q σ' H') → g0 v σ H Q)
    (q1 : ∀ (S : SS) (σ : L2.St) (H : Hp) (E : ZD) (D0 : Ends), Ok X Z S σ H → tb E S → Imp X Z S σ H E D0 → tb0 D0 σ H)
    {S : SS} {σ : L2.St} {H : Hp} {E : ZD} {D0 : Ends} {J : It} {ds : List D} (ok : Ok X Z S σ H) (h : forz g tb ds E S) (im : Imp X Z S σ H E D0) (gv : Gives X Z S σ H J ds) :
    ∃ W : Nat → Nat → L2.St → Hp → Prop, (∃ m, W 0 m σ H) ∧ ∀ i m σ H, W i m σ H →
      (J.stop i H ∧ D0.nx σ H) ∨ (J.go i H ∧ ∃ N : L2.St → Hp → Prop, (∀ σ' H', N σ' H' → ∃ m', m' < m ∧ W (i + 1) m' σ' H') ∧ ∀ x H', J.yld i H x H' → g0 x σ H' fun σ2 H2 => tb0 { D0 with nx := N, ct := N, bk := D0.nx } σ2 H2) := by
  refine ⟨fun i m σ' H' => ∃ S', m = ds.length - i ∧ i ≤ ds.length ∧ Ok X Z S' σ' H' ∧ Frm X Z S σ H S' σ' H' ∧ forz g tb (ds.drop i) E S', ⟨_, S, rfl, Nat.zero_le _, ok, .refl, h⟩, ?_⟩
  rintro i m σ' H' ⟨S', rfl, hi, ok', f, h'⟩
  have gi := gv Z S' σ' H' ok' f.rp i
  by_cases hlt : i < ds.length
  · obtain ⟨d, hd⟩ : ∃ d, ds[i]? = some d := ⟨_, List.getElem?_eq_getElem hlt⟩
    rw [drop_at hd] at h'
    obtain ⟨go, yl⟩ := gi.1 d hd
    refine .inr ⟨go, fun σ2 H2 => ∃ S2, Ok X Z S2 σ2 H2 ∧ Frm X Z S σ H S2 σ2 H2 ∧ forz g tb (ds.drop (i + 1)) E S2, fun σ2 H2 ⟨S2, o2, f2, h2⟩ => ⟨ds.length - (i + 1), by omega, S2, rfl, by omega, o2, f2, h2⟩, fun x H'' hy => ?_⟩
    obtain ⟨s, r⟩ := yl x H'' hy
    have f0 : Frm X Z S' σ' H' S' σ' H'' := .same ok' s
    refine q0 S' σ' H'' x d _ _ (ok'.same s) r h' fun S2 σ2 H2 h2 o2 f2 _ => ?_
    have ff := (f.trans f0).trans f2
    refine q1 S2 σ2 H2 _ _ o2 h2 ⟨fun S3 σ3 H3 h3 o3 f3 => ⟨S3, o3, ff.trans f3, h3⟩, fun d S3 σ3 v H3 h3 o3 f3 r3 => im.rt _ _ _ _ _ h3 o3 (ff.trans f3) r3, fun S3 σ3 H3 h3 o3 f3 => im.nx _ _ _ h3 o3 (ff.trans f3), fun S3 σ3 H3 h3 o3 f3 => ⟨S3, o3, ff.trans f3, h3⟩⟩
  · have ei : i = ds.length := by omega
    refine .inl ⟨gi.2 (by omega), ?_⟩
    rw [ei, List.drop_length] at h'
    exact im.nx _ _ _ h' ok' f

/-- the ways to walk -/
theorem gives_list {S : SS} {σ : L2.St} {H : Hp} {a : Addr} {d : D} {ds : List D} (hd : d = .lst ds ∨ d = .fls ds) (r : Rep X.K X.mg H (avs Z S σ) (.ref a) d) : Gives X Z S σ H (Itl X.K a) ds := by
  intro Z' S' σ' H' ok f i
  have r' := f _ _ r
  obtain ⟨vs, hs, hr⟩ : ∃ vs, SqL X.K H' a vs ∧ Reps X.K X.mg H' (avs Z' S' σ') vs ds := by
    rcases hd with rfl | rfl
    · obtain ⟨b, vs, e, h1, h2⟩ := r'.lst_inv
      cases e
      exact ⟨vs, .inl (.inl h1), h2⟩
    · obtain ⟨b, vs, e, h1, h2⟩ := r'.fls_inv
      cases e
      exact ⟨vs, h1.seq, h2⟩
  refine ⟨fun d hd => ?_, fun hl => ⟨vs, hs, by rw [hr.length]; exact hl⟩⟩
  obtain ⟨v, h1, h2⟩ := hr.get hd
  refine ⟨⟨vs, v, hs, h1⟩, fun x H'' ⟨e, hy⟩ => ?_⟩
  subst e
  have := hy vs hs
  rw [h1] at this
  cases this
  exact ⟨Same.refl _, h2⟩
theorem gives_tup {S : SS} {σ : L2.St} {H : Hp} {a : Addr} {ds : List D} (r : Rep X.K X.mg H (avs Z S σ) (.ref a) (.tup ds)) : Gives X Z S σ H (Itt X.K a) ds := by
  intro Z' S' σ' H' ok f i
  obtain ⟨b, vs, e, hs, hr⟩ := (f _ _ r).tup_inv
  cases e
  refine ⟨fun d hd => ?_, fun hl => ⟨vs, hs, by rw [hr.length]; exact hl⟩⟩
  obtain ⟨v, h1, h2⟩ := hr.get hd
  refine ⟨⟨vs, v, hs, h1⟩, fun x H'' ⟨e, hy⟩ => ?_⟩
  subst e
  have := hy vs hs
  rw [h1] at this
  cases this
  exact ⟨Same.refl _, h2⟩
/-- lo, lo + 1, .. -/
def rangeD (lo : Int) (n : Nat) : List D := (List.range n).map fun (i : Nat) => D.int (lo + (i : Int))
theorem rangeD_get {lo : Int} {n i : Nat} {d : D} (h : (rangeD lo n)[i]? = some d) : i < n ∧ d = .int (lo + (i : Int)) := by
  unfold rangeD at h
  rw [List.getElem?_map] at h
  cases e : (List.range n)[i]? with
  | none => rw [e] at h; cases h
  | some k =>
    rw [e] at h
    obtain ⟨h1, h2⟩ := List.getElem?_eq_some_iff.mp e
    rw [List.getElem_range] at h2
    subst h2
    exact ⟨by simpa using h1, by cases h; rfl⟩
theorem rangeD_length {lo : Int} {n : Nat} : (rangeD lo n).length = n := by unfold rangeD; rw [List.length_map, List.length_range]
theorem gives_range {S : SS} {σ : L2.St} {H : Hp} {lo : Int} {n : Nat} : Gives X Z S σ H (Itr lo n) (rangeD lo n) := by
  intro Z' S' σ' H' ok f i
  refine ⟨fun d hd => ?_, fun hl => by rw [rangeD_length] at hl; exact hl⟩
  obtain ⟨h1, rfl⟩ := rangeD_get hd
  refine ⟨h1, fun x H'' ⟨e, hy⟩ => ?_⟩
  subst e hy
  exact ⟨Same.refl _, .int _⟩

/-! ### for -/
/-- the source of a loop: its reading hands on the items -/
structure PId (X : Cx) (P : Zc → Prop) (tg iter : Expr) (w : ZA) : Prop where
  ex : ∃ w0 : TI, PI X tg iter w0 ∧ ∀ (Z : Zc), P Z → ∀ (S : SS) (σ : L2.St) (H : Hp) (Qz : List D → SS → Prop) (R : It → Hp → Prop), Ok X Z S σ H → w S Qz →
    (∀ ds S' J H', Qz ds S' → Ok X Z S' σ H' → Frm X Z S σ H S' σ H' → Gives X Z S' σ H' J ds → R J H') → w0 σ H R
def zItL (te : ZE) : ZA := fun S Q => te S fun d S1 => match d with
  | .lst ds => Q ds S1
  | .fls ds => Q ds S1
  | _ => False
def zItT (te : ZE) : ZA := fun S Q => te S fun d S1 => match d with
  | .tup ds => Q ds S1
  | _ => False
theorem id_list {tg : Expr} (h : PD X P e te) : PId X P tg e (zItL te) := by
  obtain ⟨t0, p0, q0⟩ := h.ex
  refine ⟨_, pi_list p0, fun Z hZ S σ H Qz R ok h k => q0 Z hZ S σ H _ _ ok h fun d S1 v H1 h1 o f r => ?_⟩
  split at h1
  · obtain ⟨a, vs, rfl, h2, h3⟩ := r.lst_inv
    exact ⟨a, rfl, ⟨vs, .inl (.inl h2)⟩, k _ _ _ _ h1 o f (gives_list (.inl rfl) r)⟩
  · obtain ⟨a, vs, rfl, h2, h3⟩ := r.fls_inv
    exact ⟨a, rfl, ⟨vs, h2.seq⟩, k _ _ _ _ h1 o f (gives_list (.inr rfl) r)⟩
  · exact h1.elim
theorem id_tup {tg : Expr} (h : PD X P e te) : PId X P tg e (zItT te) := by
  obtain ⟨t0, p0, q0⟩ := h.ex
  refine ⟨_, pi_tup p0, fun Z hZ S σ H Qz R ok h k => q0 Z hZ S σ H _ _ ok h fun d S1 v H1 h1 o f r => ?_⟩
  split at h1
  · obtain ⟨a, vs, rfl, h2, h3⟩ := r.tup_inv
    exact ⟨a, rfl, ⟨vs, h2⟩, k _ _ _ _ h1 o f (gives_tup r)⟩
  · exact h1.elim
/-- range(a), range(a, b) -/
def zItR1 (te : ZE) : ZA := fun S Q => te S fun d S1 => match d with
  | .int j => -(2 ^ 62) ≤ j ∧ j < 2 ^ 62 ∧ Q (rangeD 0 j.toNat) S1
  | _ => False
def zItR2 (ta tb : ZE) : ZA := fun S Q => ta S fun d S1 => tb S1 fun e S2 => match d, e with
  | .int i, .int j => (-(2 ^ 62) ≤ i ∧ i < 2 ^ 62 ∧ -(2 ^ 62) ≤ j ∧ j < 2 ^ 62) ∧ Q (rangeD i (j - i).toNat) S2
  | _, _ => False
theorem id_range1 {tg a : Expr} {p : Pos} (hg : Gl X "range") (hm : X.mg "range" = none) (h : PD X P a te) (hs : starEach [a] X.env = [(false, eval a X.env)] := by rfl) : PId X P tg (.Call (.Name "range" p) [a] [] pos) (zItR1 te) := by
  obtain ⟨t0, p0, q0⟩ := h.ex
  refine ⟨_, pi_range1 hg hm (pa_cons p0 pa_nil hs) hs, fun Z hZ S σ H Qz R ok h k => q0 Z hZ S σ H _ _ ok h fun d S1 v H1 h1 o f r => ?_⟩
  split at h1
  · obtain rfl := r.int_inv
    exact ⟨_, rfl, h1.1, h1.2.1, k _ _ _ _ h1.2.2 o f gives_range⟩
  · exact h1.elim
theorem id_range2 {tg a b : Expr} {ta tb : ZE} {p : Pos} (hg : Gl X "range") (hm : X.mg "range" = none) (ha : PD X P a ta) (hb : PD X P b tb)
    (hs : starEach [a, b] X.env = [(false, eval a X.env), (false, eval b X.env)] := by rfl) (hs2 : starEach [b] X.env = [(false, eval b X.env)] := by rfl) : PId X P tg (.Call (.Name "range" p) [a, b] [] pos) (zItR2 ta tb) := by
  obtain ⟨t0, p0, q0⟩ := ha.ex
  obtain ⟨t1, p1, q1⟩ := hb.ex
  refine ⟨_, pi_range2 hg hm (pa_cons p0 (pa_cons p1 pa_nil hs2) (by rw [hs, hs2])) hs hs2, fun Z hZ S σ H Qz R ok h k => q0 Z hZ S σ H _ _ ok h fun d S1 v H1 h1 o f r => q1 Z hZ S1 σ H1 _ _ o h1 fun e S2 w H2 h2 o2 f2 r2 => ?_⟩
  split at h2
  · obtain rfl := r.int_inv
    obtain rfl := r2.int_inv
    exact ⟨_, _, rfl, h2.1, k _ _ _ _ h2.2 o2 (f.trans f2) gives_range⟩
  · exact h2.elim
def zFor (w : ZA) (g : ZG) (tb : ZS) : ZS := fun E S => w S fun ds S1 => forz g tb ds E S1
theorem sd_for {tg iter : Expr} {body : List Stmt} {w : ZA} {g : ZG} {tb : ZS} {js : List Nat} (hp : PassesOwn (model X.prog X.w) X.A X.env X.xe) (hc : X.calm = true) (hi : PId X P tg iter w) (hg : PGd X P tg g js) (hb : PSsd X P body tb)
    (hs : ∀ x, foldedSetIterable iter X.env x = pure x := by intro _; rfl) : PSd X P (.For tg iter body [] pos) (zFor w g tb) := by
  obtain ⟨w0, pw, qw⟩ := hi.ex
  obtain ⟨g0, pg, qg⟩ := hg.ex
  obtain ⟨t0, pt, qt⟩ := hb.ex
  refine ⟨_, ps_for hp hc pw pg pt hs, fun Z hZ S σ H E D0 ok h j => qw Z hZ S σ H _ _ ok h fun ds S1 J H1 h1 o f gv => ?_⟩
  exact for_core (qg Z hZ) (qt Z hZ) o h1 (j.frm f) gv

/-! ### while -/
def whz (c : ZT) (tb : ZS) : Nat → ZD → SS → Prop
  | 0, _, _ => False
  | n + 1, E, S => c S fun b S1 => (b = true → tb { E with nx := whz c tb n E, ct := whz c tb n E, bk := E.nx } S1) ∧ (b = false → E.nx S1)
def zWhile (c : ZT) (tb : ZS) : ZS := fun E S => ∃ n, whz c tb n E S
theorem sd_while {c : Expr} {body : List Stmt} {tc : ZT} {tb : ZS} (hp : PassesOwn (model X.prog X.w) X.A X.env X.xe) (hc : PTd X P c tc) (hb : PSsd X P body tb) : PSd X P (.While c body [] pos) (zWhile tc tb) := by
  obtain ⟨c0, pc, qc⟩ := hc.ex
  obtain ⟨t0, pt, qt⟩ := hb.ex
  refine ⟨_, ps_while hp pc pt, fun Z hZ S σ H E D0 ok h j => ?_⟩
  obtain ⟨n, h⟩ := h
  refine ⟨fun m σ' H' => ∃ S', Ok X Z S' σ' H' ∧ Frm X Z S σ H S' σ' H' ∧ whz tc tb m E S', ⟨n, S, ok, .refl, h⟩, ?_⟩
  rintro m σ' H' ⟨S', ok', f, h'⟩
  cases m with
  | zero => exact h'.elim
  | succ m =>
    refine qc Z hZ S' σ' H' _ _ ok' h' fun b S1 H1 h1 o1 f1 => ?_
    have ff := f.trans f1
    cases b with
    | false => exact iteF (j.nx _ _ _ (h1.2 rfl) o1 ff)
    | true =>
      refine iteT ⟨fun σ2 H2 => ∃ S2, Ok X Z S2 σ2 H2 ∧ Frm X Z S σ H S2 σ2 H2 ∧ whz tc tb m E S2, fun σ2 H2 q => ⟨m, Nat.lt_succ_self m, q⟩, ?_⟩
      exact qt Z hZ S1 σ' H1 _ _ o1 (h1.1 rfl) ⟨fun S3 σ3 H3 h3 o3 f3 => ⟨S3, o3, ff.trans f3, h3⟩, fun d S3 σ3 v H3 h3 o3 f3 r3 => j.rt _ _ _ _ _ h3 o3 (ff.trans f3) r3, fun S3 σ3 H3 h3 o3 f3 => j.nx _ _ _ h3 o3 (ff.trans f3), fun S3 σ3 H3 h3 o3 f3 => ⟨S3, o3, ff.trans f3, h3⟩⟩

/-! ### slices -/
abbrev ZO := SS → (Option Int → SS → Prop) → Prop
structure POd (X : Cx) (P : Zc → Prop) (e : Option Expr) (t : ZO) : Prop where
  ex : ∃ t0 : TO, PO X e t0 ∧ ∀ (Z : Zc), P Z → ∀ (S : SS) (σ : L2.St) (H : Hp) (Qz : Option Int → SS → Prop) (Q : Option Int → Hp → Prop), Ok X Z S σ H → t S Qz →
    (∀ o S' H', Qz o S' → Ok X Z S' σ H' → Frm X Z S σ H S' σ H' → Q o H') → t0 σ H Q
def zNoPart : ZO := fun S Q => Q none S
def zPart (te : ZE) : ZO := fun S Q => te S fun d S1 => match d with
  | .int i => Q (some i) S1
  | _ => False
theorem od_none : POd X P none zNoPart := ⟨_, po_none, fun Z hZ S σ H Qz Q ok h k => k _ _ _ h ok .refl⟩
theorem od_some (h : PD X P e te) : POd X P (some e) (zPart te) := by
  obtain ⟨t0, p0, q0⟩ := h.ex
  refine ⟨_, po_some p0, fun Z hZ S σ H Qz Q ok h k => q0 Z hZ S σ H _ _ ok h fun d S1 v H1 h1 o f r => ?_⟩
  split at h1
  · obtain rfl := r.int_inv
    exact ⟨_, rfl, k _ _ _ h1 o f⟩
  · exact h1.elim
def cutD (xs : List D) (lo hi : Option Int) : List D := (xs.drop (HT.sIx xs.length 0 lo)).take (HT.sIx xs.length xs.length hi - HT.sIx xs.length 0 lo)
theorem reps_cut {H : Hp} {av : Addr → Prop} {vs : List V} {xs : List D} {lo hi : Option Int} (r : Reps X.K X.mg H av vs xs) : Reps X.K X.mg H av (cutV vs lo hi) (cutD xs lo hi) := by
  unfold cutV cutD
  rw [r.length]
  exact (r.drop _).take _
def cntL (S : SS) : DV → Option (List D)
  | .sh (.lst xs) => some xs
  | .sh (.fls xs) => some xs
  | .at i => match S[i]? with
    | some (.ow xs) => some xs
    | _ => none
  | _ => none
theorem cntL_at {S : SS} {σ : L2.St} {H : Hp} {v : V} {dv : DV} {xs : List D} (ok : Ok X Z S σ H) (r : RVal X Z S σ H v dv) (e : cntL S dv = some xs) :
    ∃ a vs, v = .ref a ∧ SqL X.K H a vs ∧ Reps X.K X.mg H (avs Z S σ) vs xs := by
  cases dv with
  | sh d =>
    cases d with
    | lst ys =>
      cases (show some ys = some xs from e)
      obtain ⟨a, vs, h1, h2, h3⟩ := Rep.lst_inv r
      exact ⟨a, vs, h1, .inl (.inl h2), h3⟩
    | fls ys =>
      cases (show some ys = some xs from e)
      obtain ⟨a, vs, h1, h2, h3⟩ := Rep.fls_inv r
      exact ⟨a, vs, h1, h2.seq, h3⟩
    | _ => cases e
  | «at» i =>
    have e' : (match S[i]? with | some (.ow ys) => some ys | _ => none) = some xs := e
    split at e'
    · rename_i ys h
      cases e'
      obtain ⟨a, vs, h1, h2, h3⟩ := ok.sl.ow i _ h
      have r' : σ[i]? = some (some v) := r
      rw [h1] at r'
      cases r'
      exact ⟨a, vs, rfl, .inl (.inl h2), h3⟩
    · cases e'
def zSlice (ta : ZV) (lo hi : ZO) : ZA := fun S Q => ta S fun dv S1 => lo S1 fun l S2 => hi S2 fun h S3 => ∃ xs, cntL S3 dv = some xs ∧ Q (cutD xs l h) S3
theorem pf_slice {a : Expr} {lo hi : Option Expr} {va : ZV} {tl th : ZO} {p2 : Pos} (ha : PV X P a va) (hl : POd X P lo tl) (hh : POd X P hi th) : PF X P (.Subscript a (.Slice lo hi none p2) pos) (zSlice va tl th) := by
  obtain ⟨t0, p0, q0⟩ := ha.ex
  obtain ⟨t1, p1, q1⟩ := hl.ex
  obtain ⟨t2, p2, q2⟩ := hh.ex
  refine ⟨_, pe_slice sl_list p0 p1 p2, fun Z hZ S σ H Qz Q ok h k => ?_⟩
  refine q0 Z hZ S σ H _ _ ok h fun dv S1 v H1 h1 o1 f1 r1 => q1 Z hZ S1 σ H1 _ _ o1 h1 fun l S2 H2 h2 o2 f2 => q2 Z hZ S2 σ H2 _ _ o2 h2 fun u S3 H3 h3 o3 f3 => ?_
  obtain ⟨xs, h4, h5⟩ := h3
  obtain ⟨b, vs, rfl, h6, h7⟩ := cntL_at o3 ((r1.frm f2).frm f3) h4
  exact ⟨b, vs, rfl, h6, fresh_k o3 ((f1.trans f2).trans f3) (reps_cut h7) h5 k⟩
end

/-! ### comprehensions -/
def wipeS (S : SS) : List Nat → SS
  | [] => S
  | v :: vs => (wipeS S vs).set v .un
/-- the slots vs as they stood -/
def backS (S S' : SS) : List Nat → SS
  | [] => S'
  | v :: vs => match S[v]? with
    | some x => (backS S S' vs).set v x
    | none => backS S S' vs
def noOw (S : SS) : List Nat → Prop
  | [] => True
  | v :: vs => (match S[v]? with | some (.ow _) => False | some (.gh _ _) => False | _ => True) ∧ noOw S vs
def lcz (vs : List Nat) (g : ZG) (tt : ZT) (te : ZE) : List D → List D → SS → (List D → SS → Prop) → Prop
  | [], acc, S, Q => Q acc S
  | d :: ds, acc, S, Q => g d S fun S1 => tt S1 fun b S2 => (b = true → te S2 fun y S3 => acc.length < sizeLine ∧ lcz vs g tt te ds (acc ++ [y]) (wipeS S3 vs) Q) ∧ (b = false → lcz vs g tt te ds acc (wipeS S2 vs) Q)
def zLc (vs : List Nat) (w : ZA) (g : ZG) (tt : ZT) (te : ZE) : ZA := fun S Q => w S fun ds S1 => noOw S1 vs ∧ lcz vs g tt te ds [] (wipeS S1 vs) fun acc S2 => Q acc (backS S1 S2 vs)
end Zz

/-! The pure layer: list comprehensions. -/
namespace Zz
open PySem PySem.Spec PyProof.Rows L2

section
variable {X : Cx} {Z : Zc} {S S' S1 : SS} {σ σ' : L2.St} {H H' H1 : Hp}
theorem Ok.blk {s : Shared} {Hb : Hp} {sc : Scope} {env : Env} {fp : List Addr} (ok : Ok X Z S σ H) : Ok (X.blk s Hb sc env fp) Z S σ H := ⟨ok.len, ok.nm, ok.gi, ⟨ok.sl.sh, ok.sl.ow, ok.sl.gh⟩, ok.inj, ok.own, ok.ext, ok.avd, ok.bag, ok.gow, ok.ginj, ok.gown⟩
theorem Ok.unblk {s : Shared} {Hb : Hp} {sc : Scope} {env : Env} {fp : List Addr} (ok : Ok (X.blk s Hb sc env fp) Z S σ H) : Ok X Z S σ H := ⟨ok.len, ok.nm, ok.gi, ⟨ok.sl.sh, ok.sl.ow, ok.sl.gh⟩, ok.inj, ok.own, ok.ext, ok.avd, ok.bag, ok.gow, ok.ginj, ok.gown⟩
theorem Frm.unblk {s : Shared} {Hb : Hp} {sc : Scope} {env : Env} {fp : List Addr} (f : Frm (X.blk s Hb sc env fp) Z S σ H S' σ' H') : Frm X Z S σ H S' σ' H' := ⟨f.rp, f.pr⟩

theorem Ok.wipe (ok : Ok X Z S σ H) : ∀ (vs : List Nat), (∀ i ∈ vs, Z.bag = none ∨ i ≠ 0) → Ok X Z (wipeS S vs) (L2.wipe σ vs) H ∧ ∀ a, avs Z (wipeS S vs) (L2.wipe σ vs) a → avs Z S σ a
  | [], _ => ⟨ok, fun _ h => h⟩
  | v :: vs, hb => by
    obtain ⟨o, k⟩ := ok.wipe vs fun i hi => hb i (List.mem_cons_of_mem _ hi)
    obtain ⟨o2, k2⟩ := o.setUn (hb v List.mem_cons_self)
    exact ⟨o2, fun a h => k a (k2 a h)⟩
theorem wipe_get_ne {j : Nat} : ∀ {vs : List Nat}, j ∉ vs → (L2.wipe σ vs)[j]? = σ[j]?
  | [], _ => rfl
  | v :: vs, h => by
    show ((L2.wipe σ vs).set v none)[j]? = _
    have hv : v ≠ j := fun e => h (by rw [e]; exact List.mem_cons_self)
    rw [List.getElem?_set_ne hv, wipe_get_ne fun e => h (List.mem_cons_of_mem _ e)]
theorem wipe_get_in {j : Nat} : ∀ {vs : List Nat}, j ∈ vs → (L2.wipe σ vs)[j]? = if j < σ.length then some none else none
  | [], h => by simp at h
  | v :: vs, h => by
    show ((L2.wipe σ vs).set v none)[j]? = _
    by_cases hv : v = j
    · subst hv
      by_cases hl : v < σ.length
      · rw [List.getElem?_set_self (by rw [wipe_length]; exact hl), if_pos hl]
      · rw [if_neg hl, List.getElem?_eq_none_iff, List.length_set, wipe_length]
        omega
    · rw [List.getElem?_set_ne hv]
      exact wipe_get_in ((List.mem_cons.mp h).resolve_left fun e => hv e.symm)
theorem wipe_wipe (vs : List Nat) : L2.wipe (L2.wipe σ vs) vs = L2.wipe σ vs := by
  apply List.ext_getElem?
  intro j
  by_cases h : j ∈ vs
  · rw [wipe_get_in h, wipe_get_in h, wipe_length]
  · rw [wipe_get_ne h]
theorem backS_length : ∀ (vs : List Nat), (backS S S' vs).length = S'.length
  | [] => rfl
  | v :: vs => by
    unfold backS
    split
    · rw [List.length_set, backS_length vs]
    · exact backS_length vs
theorem backS_get {j : Nat} : ∀ (vs : List Nat), (∀ v ∈ vs, v < S.length ∧ v < S'.length) → (j ∈ vs → (backS S S' vs)[j]? = S[j]?) ∧ (j ∉ vs → (backS S S' vs)[j]? = S'[j]?)
  | [], _ => ⟨fun h => by simp at h, fun _ => rfl⟩
  | v :: vs, hl => by
    obtain ⟨i1, i2⟩ := backS_get (j := j) vs fun w hw => hl w (List.mem_cons_of_mem _ hw)
    have hv := hl v List.mem_cons_self
    unfold backS
    split
    · rename_i x e
      by_cases hj : v = j
      · subst hj
        refine ⟨fun _ => by rw [List.getElem?_set_self (by rw [backS_length]; exact hv.2), e], fun h => absurd List.mem_cons_self h⟩
      · rw [List.getElem?_set_ne hj]
        exact ⟨fun h => i1 ((List.mem_cons.mp h).resolve_left fun e => hj e.symm), fun h => i2 fun z => h (List.mem_cons_of_mem _ z)⟩
    · rename_i e
      rw [List.getElem?_eq_none_iff] at e
      omega
theorem noOw_getG {S : SS} {j : Nat} {a : Addr} {g : GO} : ∀ {vs : List Nat}, noOw S vs → j ∈ vs → S[j]? ≠ some (.gh a g)
  | [], _, h => by simp at h
  | v :: vs, h, hj => fun e => by
    rcases List.mem_cons.mp hj with q | q
    · subst q
      have := h.1
      rw [e] at this
      exact this
    · exact noOw_getG h.2 q e
theorem noOw_get {j : Nat} {xs : List D} : ∀ {vs : List Nat}, noOw S vs → j ∈ vs → S[j]? ≠ some (.ow xs)
  | [], _, h => by simp at h
  | v :: vs, h, hj => fun e => by
    rcases List.mem_cons.mp hj with q | q
    · subst q
      have := h.1
      rw [e] at this
      exact this
    · exact noOw_get h.2 q e
theorem Ok.back {vs : List Nat} (hvs : ∀ v ∈ vs, v < X.N.length) (o1 : Ok X Z S1 σ H1) (ok : Ok X Z S' (L2.wipe σ vs) H) (hno : noOw S1 vs) (rp : ∀ v d, Rep X.K X.mg H1 (avs Z S1 σ) v d → Rep X.K X.mg H (avs Z S' (L2.wipe σ vs)) v d) :
    Ok X Z (backS S1 S' vs) σ H ∧ ∀ a, avs Z (backS S1 S' vs) σ a → avs Z S' (L2.wipe σ vs) a := by
  have hl : ∀ v ∈ vs, v < S1.length ∧ v < S'.length := fun v hv => by
    have h1 := hvs v hv
    have h2 := o1.nm
    have h3 := o1.len
    have h4 := ok.len
    rw [wipe_length] at h4
    omega
  have ng : ∀ {j : Nat} {a : Addr} {g : GO}, (backS S1 S' vs)[j]? = some (.gh a g) → j ∉ vs ∧ S'[j]? = some (.gh a g) := fun {j a g} h => by
    obtain ⟨b1, b2⟩ := backS_get (S := S1) (S' := S') (j := j) vs hl
    by_cases hj : j ∈ vs
    · rw [b1 hj] at h
      exact absurd h (noOw_getG hno hj)
    · rw [b2 hj] at h
      exact ⟨hj, h⟩
  have ngG : ∀ {j : Nat} {a : Addr}, Gh (backS S1 S' vs) j a → Gh S' j a := fun {j a} h => by
    obtain ⟨b, g, h1, h2⟩ := h
    exact ⟨b, g, (ng h1).2, h2⟩
  have low : ∀ {j : Nat} {zs : List D}, (backS S1 S' vs)[j]? = some (.ow zs) → j ∉ vs ∧ S'[j]? = some (.ow zs) := fun {j zs} h => by
    obtain ⟨b1, b2⟩ := backS_get (S := S1) (S' := S') (j := j) vs hl
    by_cases hj : j ∈ vs
    · rw [b1 hj] at h
      exact absurd h (noOw_get hno hj)
    · rw [b2 hj] at h
      exact ⟨hj, h⟩
  have sub : ∀ a, avs Z (backS S1 S' vs) σ a → avs Z S' (L2.wipe σ vs) a := fun a h => by
    rcases h with h | ⟨j, zs, h1, h2⟩ | ⟨j, h1⟩
    · exact .inl h
    · obtain ⟨hj, h1⟩ := low h1
      exact .inr (.inl ⟨j, zs, h1, by rw [wipe_get_ne hj]; exact h2⟩)
    · exact .inr (.inr ⟨j, ngG h1⟩)
  have k : Carry H H (avs Z S' (L2.wipe σ vs)) (avs Z (backS S1 S' vs) σ) := .same (Same.refl H) sub
  refine ⟨⟨by rw [backS_length, ← wipe_length σ vs]; exact ok.len, o1.nm, fun j b g h => ?_, ⟨fun j d h => ?_, fun j zs h => ?_, fun j b g h => (ok.sl.gh j b g (ng h).2).carry k fun _ _ o h => h⟩, fun j l zs ys b h1 h2 h3 h4 => ?_, fun j zs b h1 h2 => ?_, ok.ext, ok.avd, fun b h => ?_, fun j l zs b h1 h2 h3 => ?_, fun j l b h1 h2 => ok.ginj j l b (ngG h1) (ngG h2), fun j b h => ok.gown j b (ngG h)⟩, sub⟩
  · obtain ⟨hj, h⟩ := ng h
    rcases ok.gi j b g h with q | q
    · exact .inl (by rw [← wipe_length σ vs]; exact q)
    · exact .inr (by rw [← wipe_get_ne (σ := σ) hj]; exact q)
  · obtain ⟨b1, b2⟩ := backS_get (S := S1) (S' := S') (j := j) vs hl
    by_cases hj : j ∈ vs
    · rw [b1 hj] at h
      obtain ⟨v, h1, h2⟩ := o1.sl.sh j d h
      exact ⟨v, h1, (rp _ _ h2).carry k⟩
    · rw [b2 hj] at h
      obtain ⟨v, h1, h2⟩ := ok.sl.sh j d h
      rw [wipe_get_ne hj] at h1
      exact ⟨v, h1, h2.carry k⟩
  · obtain ⟨hj, h⟩ := low h
    obtain ⟨b, us, h1, h2, h3⟩ := ok.sl.ow j zs h
    rw [wipe_get_ne hj] at h1
    exact ⟨b, us, h1, h2, h3.carry k⟩
  · obtain ⟨n1, h1⟩ := low h1
    obtain ⟨n2, h2⟩ := low h2
    exact ok.inj j l _ _ b h1 h2 (by rw [wipe_get_ne n1]; exact h3) (by rw [wipe_get_ne n2]; exact h4)
  · obtain ⟨n1, h1⟩ := low h1
    exact ok.own j _ b h1 (by rw [wipe_get_ne n1]; exact h2)
  · obtain ⟨zs, h1, h2⟩ := o1.bag b h
    obtain ⟨zs', h3, h4⟩ := ok.bag b h
    have h0 : 0 ∉ vs := fun z => noOw_get hno z h1
    obtain ⟨b1, b2⟩ := backS_get (S := S1) (S' := S') (j := 0) vs hl
    exact ⟨zs', by rw [b2 h0]; exact h3, h2⟩
  · obtain ⟨n1, h1⟩ := low h1
    exact ok.gow j l zs b h1 (by rw [wipe_get_ne n1]; exact h2) (ngG h3)

/-- a list at D that is being made, avoided -/
abbrev Zc.at (Z : Zc) (D : Addr) : Zc := { Z with av := fun a => Z.av a ∨ a = D, ez := fun _ _ => False }
theorem avs_at_iff {D a : Addr} : avs (Z.at D) S σ a ↔ (avs Z S σ a ∨ a = D) := by
  constructor
  · rintro ((h | h) | h)
    · exact .inl (.inl h)
    · exact .inr h
    · exact .inl (.inr h)
  · rintro ((h | h) | h)
    · exact .inl (.inl h)
    · exact .inr h
    · exact .inl (.inr h)
theorem Ok.toAt (ok : Ok X Z S σ H) {D : Addr} {vs : List V} (hD : H D = none) : Ok X (Z.at D) S σ (upd H D (.lst vs)) := by
  have s : Same H (upd H D (.lst vs)) := Same.upd hD
  have k : Carry H (upd H D (.lst vs)) (avs Z S σ) (avs (Z.at D) S σ) := fun a o e n => by
    obtain ⟨h1, h2⟩ := Carry.new (av := avs Z S σ) (o := .lst vs) hD a o e n
    exact ⟨h1, fun m z => h2 m (avs_at_iff.mp z)⟩
  refine ⟨ok.len, ok.nm, ok.gi, ok.sl.carry k (fun _ _ a us _ _ e => s a _ e) (fun _ b o _ e => s b o e), ok.inj, fun i xs a h1 h2 => ?_, fun a o e n => s a o (ok.ext a o e n), fun a z e => ?_, ok.bag, ok.gow, ok.ginj, fun i a h => ⟨(ok.gown i a h).1, fun z => z.elim (ok.gown i a h).2 fun e => ok.sl.gthere h (e ▸ hD)⟩⟩
  · obtain ⟨h3, h4⟩ := ok.own i xs a h1 h2
    refine ⟨h3, fun z => z.elim h4 fun e => ?_⟩
    obtain ⟨b, us, h5, h6, _⟩ := ok.sl.ow i xs h1
    rw [h2] at h5
    cases h5
    rw [e, hD] at h6
    cases h6
  · rcases z with z | z
    · exact ok.avd a z (s.free e)
    · rw [z, upd_same] at e
      cases e
theorem Ok.ofAt {D : Addr} (ok : Ok X (Z.at D) S σ H) : Ok X Z S σ H := by
  have k : Carry H H (avs (Z.at D) S σ) (avs Z S σ) := .same (Same.refl H) fun a h => avs_at_iff.mpr (.inl h)
  exact ⟨ok.len, ok.nm, ok.gi, ok.sl.carry k (fun _ _ _ _ _ _ e => e) (fun _ _ _ _ e => e), ok.inj, fun i xs a h1 h2 => ⟨(ok.own i xs a h1 h2).1, fun z => (ok.own i xs a h1 h2).2 (.inl z)⟩, ok.ext, fun a z => ok.avd a (.inl z), ok.bag, ok.gow, ok.ginj, fun i a h => ⟨(ok.gown i a h).1, fun z => (ok.gown i a h).2 (.inl z)⟩⟩
/-- the list at D is written -/
theorem Ok.wrAt {D : Addr} {us ws : List V} (ok : Ok X (Z.at D) S σ H) (h : H D = some (.lst us)) (h0 : Z.H0 D = none) : Ok X (Z.at D) S σ (upd H D (.lst ws)) := by
  have hav : avs (Z.at D) S σ D := .inl (.inr rfl)
  have k : Carry H (upd H D (.lst ws)) (avs (Z.at D) S σ) (avs (Z.at D) S σ) := .write h rfl hav
  refine ⟨ok.len, ok.nm, ok.gi, ok.sl.carry k (fun i xs a vs h1 h2 e => ?_) (fun i a o h1 e => ?_), ok.inj, ok.own, fun a o e n => ?_, fun a z e => ?_, ok.bag, ok.gow, ok.ginj, ok.gown⟩
  · rw [upd_ne fun z => (ok.own i xs a h1 h2).2 (.inr z)]
    exact e
  · rw [upd_ne fun z => (ok.gown i a h1).2 (.inr z)]
    exact e
  · rw [upd_ne fun z => by rw [z, h0] at e; cases e]
    exact ok.ext a o e n
  · by_cases hb : a = D
    · rw [hb, upd_same] at e; cases e
    · rw [upd_ne hb] at e
      exact ok.avd a z e
theorem Ok.new0 (ok : Ok X Z S σ H) {a : Addr} (ha : H a = none) : Z.H0 a = none := by
  cases e : Z.H0 a with
  | none => rfl
  | some o =>
    by_cases hb : Z.bag = some a
    · obtain ⟨zs, h1, h2⟩ := ok.bag a hb
      obtain ⟨b, us, h3, h4, _⟩ := ok.sl.ow 0 zs h1
      rw [h2] at h3
      cases h3
      rw [ha] at h4
      cases h4
    · have := ok.ext a o e hb
      rw [ha] at this
      cases this
end

/-- the claims of a comprehension's block -/
def Pin (P : Zc → Prop) : Zc → Prop := fun Z' => ∃ Z, P Z ∧ Z'.bag = Z.bag ∧ Z'.ez = fun _ _ => False
structure PTsd (X : Cx) (P : Zc → Prop) (ifs : List Expr) (t : ZT) : Prop where
  ex : ∃ t0 : TT, PTs X ifs t0 ∧ ∀ (Z : Zc), P Z → ∀ (S : SS) (σ : L2.St) (H : Hp) (Qz : Bool → SS → Prop) (Q : Bool → Hp → Prop), Ok X Z S σ H → t S Qz →
    (∀ b S' H', Qz b S' → Ok X Z S' σ H' → Frm X Z S σ H S' σ H' → Q b H') → t0 σ H Q
def zYes : ZT := fun S Q => Q true S
section
variable {X : Cx} {P : Zc → Prop}
theorem tsd_nil : PTsd X P [] zYes := ⟨_, pts_nil, fun Z hZ S σ H Qz Q ok h k => k _ _ _ h ok .refl⟩
theorem tsd_one {c : Expr} {t : ZT} (h : PTd X P c t) : PTsd X P [c] t := by
  obtain ⟨t0, p0, q0⟩ := h.ex
  exact ⟨_, pts_one p0, q0⟩

/-- readings for every block at once -/
theorem pg_all {ι : Type} {Y : ι → Cx} {tg : Expr} {G : ι → TG} (h : ∀ i, PG (Y i) tg (G i)) (j : ι) : PG (Y j) tg (fun v σ H Q => ∀ i, G i v σ H Q) :=
  ⟨fun pins s σ H v u Q I r q => (h j).run pins s σ H v u Q I r (q j)⟩
theorem pts_all {ι : Type} {Y : ι → Cx} {ifs : List Expr} {G : ι → TT} (h : ∀ i, PTs (Y i) ifs (G i)) (j : ι) : PTs (Y j) ifs (fun σ H Q => ∀ i, G i σ H Q) :=
  ⟨fun pins s σ H Q I q => (h j).run pins s σ H Q I (q j)⟩
theorem pe_all {ι : Type} {Y : ι → Cx} {e : Expr} {G : ι → TE} (h : ∀ i, PE (Y i) e (G i)) (j : ι) : PE (Y j) e (fun σ H Q => ∀ i, G i σ H Q) :=
  ⟨fun pins s σ H Q I q => (h j).run pins s σ H Q I (q j)⟩

/-- a comprehension: as a value, and stored in a local name on its row -/
structure PC (X : Cx) (P : Zc → Prop) (e : Expr) (t : ZA) : Prop where
  ex : ∃ t0 : TE, PE X e t0 ∧ (∀ (i : Nat) (y : Str) (py spos : Pos), X.N[i]? = some y → X.env.scope.names.lookup y = some .local → swapsWith e (some (.Name y py)) spos.line X.env = pure true → PS X (.Assign [.Name y py] e spos) (tAsg t0 (gName i))) ∧
    ∀ (Z : Zc), P Z → ∀ (S : SS) (σ : L2.St) (H : Hp) (Qz : List D → SS → Prop) (Q : VK), Ok X Z S σ H → t S Qz →
    (∀ xs S' a H', Qz xs S' → Ok X Z S' σ H' → Frm X Z S σ H S' σ H' → Fresh X Z S' σ H' a xs → (∀ v d, Rep X.K X.mg H (avs Z S σ) v d → Rep X.K X.mg H' (fun b => avs Z S' σ b ∨ b = a) v d) → Q (.ref a) H') → t0 σ H Q
theorem PC.pf {e : Expr} {t : ZA} (h : PC X P e t) : PF X P e t := by
  obtain ⟨t0, p, _, q⟩ := h.ex
  exact ⟨t0, p, q⟩
/-- name = [..] -/
theorem sd_setC {i : Nat} {y : Str} {py pos : Pos} {e : Expr} {t : ZA} (hb : ∀ Z, P Z → Z.bag = none ∨ i ≠ 0) (h : PC X P e t) (hi : X.N[i]? = some y := by rfl) (hy : X.env.scope.names.lookup y = some .local := by rfl) (hsw : swapsWith e (some (.Name y py)) pos.line X.env = pure true := by rfl) :
    PSd X P (.Assign [.Name y py] e pos) (zSetF t i) := by
  obtain ⟨t0, _, p, q0⟩ := h.ex
  refine ⟨_, p i y py pos hi hy hsw, fun Z hZ S σ H E D0 ok h j => q0 Z hZ S σ H _ _ ok h fun d S1 a H1 h1 o f fr c => ?_⟩
  obtain ⟨o2, f2⟩ := fresh_set (i := i) (hb Z hZ) (nlt hi) o f fr c
  exact j.nx _ _ _ h1 o2 f2
theorem sd_setCD {i : Nat} {y : Str} {py pos : Pos} {e : Expr} {t : ZA} (hb : ∀ Z, P Z → Z.bag = none ∨ i ≠ 0) (h : PC X P e t) (hi : X.N[i]? = some y := by rfl) (hy : X.env.scope.names.lookup y = some .local := by rfl) (hsw : swapsWith e (some (.Name y py)) pos.line X.env = pure true := by rfl) :
    PSd X P (.Assign [.Name y py] e pos) (zSet (zFD t) i) := by
  obtain ⟨t0, _, p, q0⟩ := h.ex
  refine ⟨_, p i y py pos hi hy hsw, fun Z hZ S σ H E D0 ok h j => q0 Z hZ S σ H _ _ ok h fun d S1 a H1 h1 o f fr c => ?_⟩
  obtain ⟨o2, c2⟩ := o.setSh (i := i) fr.rep (hb Z hZ) (nlt hi)
  exact j.nx _ _ _ h1 o2 (f.trans (frm_set c2))
theorem pc_lc {elt tg iter : Expr} {ifs : List Expr} {scope : Scope} {own : List (Str × Nat)} {pos : Pos} {w : ZA} {g : ZG} {tt : ZT} {te : ZE} {js : List Nat} (hc : X.calm = true) (hN : X.N.Nodup) (hb : ∀ Z, P Z → ∀ i ∈ own.map (·.2), Z.bag = none ∨ i ≠ 0) (hi : PId X P tg iter w) (ok : BlkOk X.N X.env.scope scope own)
    (hj : ∀ j ∈ js, j ∈ own.map (·.2))
    (hg : ∀ (s : Shared) (H : Hp) (C : Addr) (cl : List (Str × Addr)) (fp : List Addr), PGd (X.blk s H scope (compEnvC scope cl C X.env) fp) (Pin P) tg g js) (ht : ∀ (s : Shared) (H : Hp) (C : Addr) (cl : List (Str × Addr)) (fp : List Addr), PTsd (X.blk s H scope (compEnvC scope cl C X.env) fp) (Pin P) ifs tt)
    (he : ∀ (s : Shared) (H : Hp) (C : Addr) (cl : List (Str × Addr)) (fp : List Addr), PD (X.blk s H scope (compEnvC scope cl C X.env) fp) (Pin P) elt te) (hs : ∀ x, foldedSetIterable iter X.env x = pure x := by intro _; rfl) :
    PC X P (.ListComp elt [⟨tg, iter, ifs, 0⟩] scope pos) (zLc (own.map (·.2)) w g tt te) := by
  obtain ⟨w0, pw, qw⟩ := hi.ex
  let ι := Shared × Hp × Addr × List (Str × Addr) × List Addr
  let Y : ι → Cx := fun i => X.blk i.1 i.2.1 scope (compEnvC scope i.2.2.2.1 i.2.2.1 X.env) i.2.2.2.2
  have hg' : ∀ i : ι, PGd (Y i) (Pin P) tg g js := fun i => hg _ _ _ _ _
  have ht' : ∀ i : ι, PTsd (Y i) (Pin P) ifs tt := fun i => ht _ _ _ _ _
  have he' : ∀ i : ι, PD (Y i) (Pin P) elt te := fun i => he _ _ _ _ _
  have pG := fun i => (Classical.choose_spec (hg' i).ex).1
  have qG := fun i => (Classical.choose_spec (hg' i).ex).2
  have pT := fun i => (Classical.choose_spec (ht' i).ex).1
  have qT := fun i => (Classical.choose_spec (ht' i).ex).2
  have pE := fun i => (Classical.choose_spec (he' i).ex).1
  have qE := fun i => (Classical.choose_spec (he' i).ex).2
  have hvs : ∀ v ∈ own.map (·.2), v < X.N.length := fun v hv => by
    obtain ⟨p, hp, rfl⟩ := List.mem_map.mp hv
    exact nlt (ok.ix p hp)
  refine ⟨_, pe_lc hc hN pw ok (fun s H C cl fp => pg_all pG (s, H, C, cl, fp)) (fun s H C cl fp => pts_all pT (s, H, C, cl, fp)) (fun s H C cl fp => pe_all pE (s, H, C, cl, fp)) hs,
    fun i y py spos hy hyl hsw => ps_setLc hc hN hy hyl hsw pw ok (fun s H C cl fp => pg_all pG (s, H, C, cl, fp)) (fun s H C cl fp => pts_all pT (s, H, C, cl, fp)) (fun s H C cl fp => pe_all pE (s, H, C, cl, fp)) hs, fun Z hZ S σ H Qz Q ok h k => ?_⟩
  refine qw Z hZ S σ H _ _ ok h fun ds S1 J H1 h1 o1 f1 gv => ?_
  obtain ⟨hno, h1⟩ := h1
  intro L hL
  have hbz := hb Z hZ
  have hP : Pin P (Z.at L) := ⟨Z, hZ, rfl, rfl⟩
  have h0 := o1.new0 hL
  obtain ⟨oW, kW⟩ := (o1.toAt (vs := []) hL).wipe (own.map (·.2)) hbz
  refine ⟨fun i m H' => ∃ acc us S', m = ds.length - i ∧ i ≤ ds.length ∧ Ok X (Z.at L) S' (L2.wipe σ (own.map (·.2))) H' ∧ H' L = some (.lst us) ∧ Reps X.K X.mg H' (avs (Z.at L) S' (L2.wipe σ (own.map (·.2)))) us acc ∧
    (∀ v d, Rep X.K X.mg H1 (avs Z S1 σ) v d → Rep X.K X.mg H' (avs (Z.at L) S' (L2.wipe σ (own.map (·.2)))) v d) ∧ (∀ a, Z.av a → H' a = H1 a) ∧
    lcz (own.map (·.2)) g tt te (ds.drop i) acc S' (fun acc S2 => Qz acc (backS S1 S2 (own.map (·.2)))), ⟨_, [], [], _, rfl, Nat.zero_le _, oW, upd_same, .nil, fun v d r => ?_, fun a ha => upd_ne fun z => o1.avd a ha (z ▸ hL), h1⟩, ?_⟩
  · have r2 : Rep X.K X.mg (upd H1 L (.lst [])) (fun b => avs Z S1 σ b ∨ b = L) v d := r.carry (.new hL)
    exact r2.carry (.same (Same.refl _) fun a ha => avs_at_iff.mp (kW a ha))
  rintro i m H' ⟨acc, us, S', rfl, hi, o', hD, hacc, rp, pr, hl⟩
  have gi := gv (Z.at L) S' _ H' o' rp i
  by_cases hlt : i < ds.length
  · obtain ⟨d, hd⟩ : ∃ d, ds[i]? = some d := ⟨_, List.getElem?_eq_getElem hlt⟩
    rw [drop_at hd] at hl
    obtain ⟨go, yl⟩ := gi.1 d hd
    refine .inr ⟨go, fun H2 => ∃ acc us S', Ok X (Z.at L) S' (L2.wipe σ (own.map (·.2))) H2 ∧ H2 L = some (.lst us) ∧ Reps X.K X.mg H2 (avs (Z.at L) S' (L2.wipe σ (own.map (·.2)))) us acc ∧
      (∀ v d, Rep X.K X.mg H1 (avs Z S1 σ) v d → Rep X.K X.mg H2 (avs (Z.at L) S' (L2.wipe σ (own.map (·.2)))) v d) ∧ (∀ a, Z.av a → H2 a = H1 a) ∧
      lcz (own.map (·.2)) g tt te (ds.drop (i + 1)) acc S' (fun acc S2 => Qz acc (backS S1 S2 (own.map (·.2)))), fun H2 ⟨acc, us, S', a1, a2, a3, a4, a5, a6⟩ => ⟨ds.length - (i + 1), by omega, acc, us, S', rfl, by omega, a1, a2, a3, a4, a5, a6⟩, fun x H'' hy => ?_⟩
    obtain ⟨s, r⟩ := yl x H'' hy
    intro c
    have o'' := o'.same s
    have f0 : Frm X (Z.at L) S' (L2.wipe σ (own.map (·.2))) H' S' (L2.wipe σ (own.map (·.2))) H'' := .same o' s
    refine qG c (Z.at L) hP S' _ H'' x d _ _ o''.blk r hl fun S2 σ2 H2 h2 o2 f2 w2 => ⟨(w2 _ hj).trans (wipe_wipe _), ?_⟩
    have ww : L2.wipe σ2 (own.map (·.2)) = L2.wipe σ (own.map (·.2)) := (w2 _ hj).trans (wipe_wipe _)
    intro c2
    refine qT c2 (Z.at L) hP S2 σ2 H2 _ _ o2.unblk.blk h2 fun b S3 H3 h3 o3 f3 => ?_
    have f23 := (f0.trans f2.unblk).trans f3.unblk
    cases b with
    | false =>
      refine iteF ?_
      obtain ⟨oq, kq⟩ := o3.unblk.wipe (own.map (·.2)) hbz
      have kk : Carry H3 H3 (avs (Z.at L) S3 σ2) (avs (Z.at L) (wipeS S3 (own.map (·.2))) (L2.wipe σ2 (own.map (·.2)))) := .same (Same.refl H3) kq
      rw [ww] at oq kk
      exact ⟨acc, us, _, oq, by rw [f23.pr L (.inr rfl)]; exact hD, (f23.reps hacc).carry kk, fun v d q => (f23.rp v d (rp v d q)).carry kk, fun a ha => (f23.pr a (.inl ha)).trans (pr a ha), h3.2 rfl⟩
    | true =>
      refine iteT ?_
      intro c3
      refine qE c3 (Z.at L) hP S3 σ2 H3 _ _ o3.unblk.blk (h3.1 rfl) fun y S4 v H4 h4 o4 f4 r4 => ?_
      obtain ⟨hz, h4⟩ := h4
      have f24 := f23.trans f4.unblk
      have hD4 : H4 L = some (.lst us) := by rw [f24.pr L (.inr rfl)]; exact hD
      have acc4 := f24.reps hacc
      refine ⟨us, hD4, by rw [acc4.length]; exact hz, ?_⟩
      have ow := o4.unblk.wrAt (ws := us ++ [v]) hD4 h0
      obtain ⟨oq, kq⟩ := ow.wipe (own.map (·.2)) hbz
      have kw : Carry H4 (upd H4 L (.lst (us ++ [v]))) (avs (Z.at L) S4 σ2) (avs (Z.at L) S4 σ2) := .write hD4 rfl (.inl (.inr rfl))
      have kk := kw.trans (.same (Same.refl _) kq)
      rw [ww] at oq kk
      refine ⟨acc ++ [y], us ++ [v], _, oq, upd_same, (acc4.append (.cons r4 .nil)).carry kk, fun v d q => (f24.rp v d (rp v d q)).carry kk, fun a ha => ?_, h4⟩
      rw [upd_ne (show a ≠ L from fun z => o1.avd a ha (by rw [z]; exact hL)), f24.pr a (.inl ha)]
      exact pr a ha
  · have ei : i = ds.length := by omega
    refine .inl ⟨gi.2 (by omega), ?_⟩
    rw [ei, List.drop_length] at hl
    have kb : Carry (upd H1 L (.lst [])) H1 (avs (Z.at L) S1 σ) (avs Z S1 σ) := fun a o e n => by
      by_cases ha : a = L
      · subst ha
        rw [upd_same] at e
        cases e
        exact absurd (.inl (.inr rfl)) (n rfl)
      · rw [upd_ne ha] at e
        exact ⟨e, fun m z => n m (avs_at_iff.mpr (.inl z))⟩
    obtain ⟨oe, ke⟩ := (o1.toAt (vs := []) hL).back hvs o' hno fun v d r => rp v d (r.carry kb)
    have kz : Carry H' H' (avs (Z.at L) S' (L2.wipe σ (own.map (·.2)))) (fun b => avs Z (backS S1 S' (own.map (·.2))) σ b ∨ b = L) := .same (Same.refl H') fun a ha => ke a (avs_at_iff.mpr ha)
    have kz2 : Carry H' H' (avs (Z.at L) S' (L2.wipe σ (own.map (·.2)))) (avs Z (backS S1 S' (own.map (·.2))) σ) := .same (Same.refl H') fun a ha => ke a (avs_at_iff.mpr (.inl ha))
    refine k acc _ L H' hl oe.ofAt ⟨fun v d r => (rp v d (f1.rp v d r)).carry kz2, fun a ha => (pr a ha).trans (f1.pr a ha)⟩ ⟨⟨us, hD, hacc.carry kz⟩, h0, fun h => ?_, oe.sl.carry (.same (Same.refl H') fun a ha => avs_at_iff.mpr ha) (fun _ _ _ _ _ _ e => e) fun _ _ _ _ e => e⟩ fun v d r => (rp v d (f1.rp v d r)).carry kz
    rcases h with h | ⟨j, zs, e1, e2⟩ | ⟨j, e1⟩
    · exact o1.avd L h hL
    · exact (oe.own j zs L e1 e2).2 (.inr rfl)
    · exact (oe.gown j L e1).2 (.inr rfl)
theorem pf_lc {elt tg iter : Expr} {ifs : List Expr} {scope : Scope} {own : List (Str × Nat)} {pos : Pos} {w : ZA} {g : ZG} {tt : ZT} {te : ZE} {js : List Nat} (hc : X.calm = true) (hN : X.N.Nodup) (hb : ∀ Z, P Z → ∀ i ∈ own.map (·.2), Z.bag = none ∨ i ≠ 0) (hi : PId X P tg iter w) (ok : BlkOk X.N X.env.scope scope own)
    (hj : ∀ j ∈ js, j ∈ own.map (·.2))
    (hg : ∀ (s : Shared) (H : Hp) (C : Addr) (cl : List (Str × Addr)) (fp : List Addr), PGd (X.blk s H scope (compEnvC scope cl C X.env) fp) (Pin P) tg g js) (ht : ∀ (s : Shared) (H : Hp) (C : Addr) (cl : List (Str × Addr)) (fp : List Addr), PTsd (X.blk s H scope (compEnvC scope cl C X.env) fp) (Pin P) ifs tt)
    (he : ∀ (s : Shared) (H : Hp) (C : Addr) (cl : List (Str × Addr)) (fp : List Addr), PD (X.blk s H scope (compEnvC scope cl C X.env) fp) (Pin P) elt te) (hs : ∀ x, foldedSetIterable iter X.env x = pure x := by intro _; rfl) :
    PF X P (.ListComp elt [⟨tg, iter, ifs, 0⟩] scope pos) (zLc (own.map (·.2)) w g tt te) := (pc_lc hc hN hb hi ok hj hg ht he hs).pf
end
end Zz

/-! The pure layer: defs and their calls. -/
namespace Zz
open PySem PySem.Spec PyProof.Rows L2

/-- a def's promise over a stack where nothing is being shown (repr) -/
structure FnP (Pg : Program) (w : World) (K : PySem.W.Frag) (mg : Str → Option Value) (base : Heap) (k : Nat) (f : Addr) (fd : FuncData) (ps : List Str) (sp : Sp) : Prop where
  len : ∀ vs H Q E, sp vs H Q E → vs.length = ps.length
  run : ∀ (A : Around) (outer : List Env) (s : Shared) (H : Hp) (args : Args) (us : List Value) (vs : List V) (Q : VK) (E : XK), Room k A → A.guards = some [] → Env0 Pg w K mg base A outer s H → BindsTo s fd args (ps.zip us) →
    Vals vs us → sp vs H Q E → codeAny (model Pg w) A (.call (.ref f) args) (CR (L2.CX Pg w) outer Pg w H s Q E) s
theorem FnP.mono {Pg : Program} {w : World} {K : PySem.W.Frag} {mg : Str → Option Value} {base : Heap} {j k : Nat} {f : Addr} {fd : FuncData} {ps : List Str} {sp : Sp} (F : FnP Pg w K mg base j f fd ps sp) (h : j ≤ k) : FnP Pg w K mg base k f fd ps sp :=
  ⟨F.len, fun A outer s H args us vs Q E hr => F.run A outer s H args us vs Q E (Room.mono hr h)⟩
theorem fnp_of {Pg : Program} {w : World} {K : PySem.W.Frag} {mg : Str → Option Value} {base : Heap} {k : Nat} {x qual : Str} {st : Stmt} {f : Addr} {fd : FuncData} {N ps : List Str} {sp : Sp} (F : Fun K x qual st f fd) (S : FnScope N ps (defScope st))
    (len : ∀ vs H Q E, sp vs H Q E → vs.length = ps.length)
    (hbody : ∀ (cdv : Value) (A : Around) (outer : List Env) (s : Shared) (H : Hp) (vs : List V) (Q : VK) (E : XK), Room k (A.deeper (envOfC qual (defScope st) s.heap.objs.size f cdv)) → A.guards = some [] → (∀ b o, base.get? b = some o → H b = none) → sp vs H Q E →
      ∃ t, PSs (cxOf (L2.CX Pg w) Pg w K mg base N qual (defScope st) f cdv A outer s H E) (defBody st) t ∧ t { nx := fun _ H' => Q .non H', rt := Q } (start N vs) H) : FnP Pg w K mg base (k + 1) f fd ps sp := by
  obtain ⟨oc, od, kV, doc, pm, an, cdv, ct, osl, rfl, lk, hcd⟩ := F.ex
  refine ⟨len, fun A outer s H args us vs Q E hr hg e0 hb r hsp => ?_⟩
  have hl := len _ _ _ _ hsp
  have KX : K.In s.heap := e0.mod.kin.keeps fun b o e => (e0.bs b o e).1
  have lim : s.heap.NoLimit := e0.mod.nolimit.keeps fun b o e => (e0.bs b o e).1
  have hk2 : ((ps.zip us).all fun y => (defScope st).names.lookup y.1 == some .local || (defScope st).names.lookup y.1 == some .cell) = true := by
    rw [List.all_eq_true]
    rintro ⟨n, v⟩ hy
    rcases S.par n (List.of_mem_zip hy).1 with q | q
    · simp [q]
    · simp [q]
  refine Att.call_fn KX lim lk hcd hr.depth hb hk2 (fun s1 hx => ?_) S.co S.gen S.kind
  obtain ⟨t, ht, hq⟩ := hbody cdv A outer s H vs Q E (hr.deeper _) hg (fun b o e => (e0.bs b o e).2) hsp
  have I : Inv (cxOf (L2.CX Pg w) Pg w K mg base N qual (defScope st) f cdv A outer s H E) [] (start N vs) H s1 := inv_start S hr.hd e0 hl r hx
  refine wpAny_mono (ht.run [] s1 (start N vs) H _ I hq) (fun fl s' hs => ?_) fun e s' hs => hs
  have goal : ∀ {σ' : L2.St} {H' : Hp} {v : V} {u : Value}, Inv (cxOf (L2.CX Pg w) Pg w K mg base N qual (defScope st) f cdv A outer s H E) [] σ' H' s' → RelV v u → Q v H' → CE outer Pg w H s Q u s' :=
    fun {σ' H' v u} J rv q => ⟨v, H', J.os, J.bare, J.base, J.hok, rv, q⟩
  cases fl with
  | ret u =>
    obtain ⟨v, σ', H', J, rv, q⟩ := hs
    exact goal J rv q
  | next =>
    obtain ⟨σ', H', J, q⟩ := hs
    exact goal (v := V.non) (u := Value.none) J rfl q
  | brk => exact (show False from by obtain ⟨_, _, _, q⟩ := hs; exact q).elim
  | cont => exact (show False from by obtain ⟨_, _, _, q⟩ := hs; exact q).elim

section
variable {X : Cx} {k : Nat} {f : Addr} {fd : FuncData} {ps : List Str} {sp : Sp} {E : XK} {x : Str} {p pos : Pos} {e : Expr} {es : List Expr} {t : TA}
theorem run_fnp {pins : List (Addr × Obj)} {σ : L2.St} {H : Hp} {s : Shared} {Q : VK} {us : List Value} {vs : List V} (F : FnP X.prog X.w X.K X.mg X.base k f fd ps sp) (hr : Room k X.A) (hg : X.A.guards = some []) (hb : Binds X.K fd ps []) (hx : Passes (L2.CX X.prog X.w) X E)
    (I : Inv X pins σ H s) (r : Vals vs us) (h : sp vs H Q E) : wpAny (model X.prog X.w) X.A (call (.ref f) us) (EP X pins σ Q) X.xe s := by
  have hl : us.length = ps.length := by rw [← r.length]; exact F.len _ _ _ _ h
  have b := hb s us I.kIn (by rw [List.append_nil]; exact hl)
  rw [List.append_nil] at b
  refine wpAny_call (codeAny_mono (F.run X.A X.stack s H ⟨us, []⟩ us vs Q E hr hg I.env0 b r h) fun res s' hq => ?_)
  cases res with
  | error e => exact hx pins σ H s e s' I hq
  | ok fl =>
    cases fl with
    | ret u => exact I.after hq
    | _ => exact hq.elim
theorem pe_callp (F : FnP X.prog X.w X.K X.mg X.base k f fd ps sp) (hr : Room k X.A) (hgd : X.A.guards = some []) (hg : Gl X x) (hm : X.mg x = some (.ref f)) (hk : PySem.W.keepIn X.K (.ref f) = true) (hb : Binds X.K fd ps []) (hx : Passes (L2.CX X.prog X.w) X E)
    (ha : PA X (e :: es) t) (hdb : (x == ("__debug__" : Str)) = false := by decide) (he : starEach (e :: es) X.env = (false, eval e X.env) :: starEach es X.env := by rfl) (hpl : (backTo pos (starEach es X.env)).any (·.1) = false := by rfl) :
    PE X (.Call (.Name x p) (e :: es) [] pos) (fun σ H Q => t σ H fun vs H1 => sp vs H1 Q E) :=
  ⟨fun pins s σ H Q I h => wpAny_Call_Name_kw (ld_glob I hg hm (PySem.W.callWith_K (h₀ := X.base) I.ok.mod.kin hk (thn (ha.run pos pins s σ H _ I h) fun us s1 ⟨vs, H1, I1, r, q⟩ => ⟨I1.kIn, run_fnp F hr hgd hb hx I1 r q⟩) he hpl) hdb)⟩
end

/-! ### exceptions that leave -/
def XF (K : PySem.W.Frag) (mg : Str → Option Value) (av : Addr → Prop) (dd : Option Addr) (f : Option (Str × D)) (H' : Hp) : Prop :=
  match f, dd with
  | none, none => True
  | some (n, d), some a => ∃ v, H' a = some (.xd [(n, v)]) ∧ Rep K mg H' av v d
  | _, _ => False
def EZ (X : Cx) (Z : Zc) : XK := fun cls dd H' => ∃ c f, Z.ez c f ∧ X.mg c = some cls ∧ XF X.K X.mg Z.av dd f H' ∧ ∀ a o, Z.H0 a = some o → Z.bag ≠ some a → H' a = some o
def EP2 (X : Cx) (P : Zc → Prop) : XK := fun cls dd H' => ∃ Z, P Z ∧ EZ X Z cls dd H'
/-- what a body may lean on -/
structure Cd (k : Nat) (X : Cx) (P : Zc → Prop) : Prop where
  hr : Room k X.A
  gd : X.A.guards = some []
  calm : X.calm = true
  nd : X.N.Nodup
  po : PassesOwn (model X.prog X.w) X.A X.env X.xe
  tk : Takes X fun cls d _ H => EP2 X P cls d H
  cl : ∀ (Z : Zc) (p : Addr), P Z → P { Z with av := fun a => Z.av a ∨ a = p }
theorem Cd.hx {k : Nat} {X : Cx} {P : Zc → Prop} (C : Cd k X P) : Passes (L2.CX X.prog X.w) X (EP2 X P) := passes_call C.tk fun _ _ _ _ h => h
theorem Cd.hu {k : Nat} {X : Cx} {P : Zc → Prop} (C : Cd k X P) : X.A.units + 64 < cLine := C.hr.units
theorem Cd.blk {k : Nat} {X : Cx} {P : Zc → Prop} (C : Cd k X P) {s : Shared} {H : Hp} {sc : Scope} {env : Env} {fp : List Addr} : Cd k (X.blk s H sc env fp) (Pin P) :=
  ⟨C.hr, C.gd, C.calm, C.nd, PassesOwn.never, fun u s' ⟨_, _, _, _, _, _, _, _, _, _, _, _, _, _, _, _, c⟩ => by
    obtain ⟨Z', ⟨Z, _, _, e1⟩, c', f, h, _⟩ := c
    rw [e1] at h
    exact h.elim, fun Z p ⟨Z0, h0, e1, e2⟩ => ⟨Z0, h0, e1, e2⟩⟩
/-- slots that may be stored: no bag, or not its slot -/
def NoBag (P : Zc → Prop) : Prop := ∀ Z, P Z → Z.bag = none
theorem NoBag.s {P : Zc → Prop} (h : NoBag P) (i : Nat) : ∀ Z, P Z → Z.bag = none ∨ i ≠ 0 := fun Z hZ => .inl (h Z hZ)
theorem NoBag.pin {P : Zc → Prop} (h : NoBag P) : NoBag (Pin P) := fun Z ⟨Z0, h0, e, _⟩ => e.trans (h Z0 h0)
theorem bagS {P : Zc → Prop} {i : Nat} (h : i ≠ 0 := by decide) : ∀ Z, P Z → Z.bag = none ∨ i ≠ 0 := fun _ _ => .inr h

/-! ### promises over data -/
abbrev ZSp := List D → (Sl → Prop) → (Str → Option (Str × D) → Prop) → Prop
/-- what a call hands back: data, or a list that is new -/
def CRel (K : PySem.W.Frag) (mg : Str → Option Value) (av : Addr → Prop) (H H' : Hp) (v : V) : Sl → Prop
  | .sh d => Rep K mg H' av v d
  | .ow xs => ∃ a vs, v = .ref a ∧ H a = none ∧ H' a = some (.lst vs) ∧ Reps K mg H' (fun b => av b ∨ b = a) vs xs
  | _ => False
def spZ (K : PySem.W.Frag) (mg : Str → Option Value) (sp : ZSp) : Sp := fun vs H Q E => ∃ (av : Addr → Prop) (ds : List D) (Qz : Sl → Prop) (Ez : Str → Option (Str × D) → Prop),
  Reps K mg H av vs ds ∧ sp ds Qz Ez ∧ (∀ a, av a → H a ≠ none) ∧ (∀ r v H', Qz r → Same H H' → CRel K mg av H H' v r → Q v H') ∧
  (∀ c f cls dd H', Ez c f → Same H H' → mg c = some cls → XF K mg av dd f H' → E cls dd H')
/-- the first argument is an own list of the caller's, changed -/
abbrev ZSb := List D → List D → (D → List D → Prop) → Prop
def spB (K : PySem.W.Frag) (mg : Str → Option Value) (sp : ZSb) : Sp := fun vs H Q _ => ∃ (av : Addr → Prop) (b : Addr) (bvs : List V) (bs : List D) (vr : List V) (ds : List D) (Qz : D → List D → Prop),
  vs = .ref b :: vr ∧ H b = some (.lst bvs) ∧ av b ∧ Reps K mg H av bvs bs ∧ Reps K mg H av vr ds ∧ (∀ a, av a → H a ≠ none) ∧ sp bs ds Qz ∧
  (∀ d nb v nvs H', Qz d nb → (∀ a o, H a = some o → a ≠ b → H' a = some o) → H' b = some (.lst nvs) → Reps K mg H' av nvs nb → Rep K mg H' av v d → Q v H')

/-- the claims of a def's body: no less is avoided than Z0 says -/
def Sup (Z0 : Zc) : Zc → Prop := fun Z => Z.H0 = Z0.H0 ∧ Z.bag = Z0.bag ∧ Z.ez = Z0.ez ∧ ∀ a, Z0.av a → Z.av a
theorem Sup.refl {Z0 : Zc} : Sup Z0 Z0 := ⟨rfl, rfl, rfl, fun _ h => h⟩
abbrev Zc.pl (Z : Zc) (p : Addr) : Zc := { Z with av := fun a => Z.av a ∨ a = p }
def startS (N : List Str) (ds : List D) : SS := ds.map Sl.sh ++ List.replicate (N.length - ds.length) .un
section
variable {Pg : Program} {w : World} {K : PySem.W.Frag} {mg : Str → Option Value} {base : Heap} {k : Nat} {x qual : Str} {st : Stmt} {f : Addr} {fd : FuncData} {N ps : List Str}
theorem startS_sh {ds : List D} {i : Nat} {d : D} (h : (startS N ds)[i]? = some (.sh d)) : ds[i]? = some d := by
  unfold startS at h
  by_cases hi : i < ds.length
  · rw [List.getElem?_append_left (by simpa using hi), List.getElem?_map] at h
    cases e : ds[i]? with
    | none => rw [e] at h; cases h
    | some y => rw [e] at h; cases h; rfl
  · rw [List.getElem?_append_right (by simpa using hi), List.getElem?_replicate] at h
    split at h <;> cases h
theorem startS_ow {ds : List D} {i : Nat} {xs : List D} (h : (startS N ds)[i]? = some (.ow xs)) : False := by
  unfold startS at h
  by_cases hi : i < ds.length
  · rw [List.getElem?_append_left (by simpa using hi), List.getElem?_map] at h
    cases e : ds[i]? with
    | none => rw [e] at h; cases h
    | some y => rw [e] at h; cases h
  · rw [List.getElem?_append_right (by simpa using hi), List.getElem?_replicate] at h
    split at h <;> cases h
theorem startS_gh {ds : List D} {i : Nat} {a : Addr} {g : GO} (h : (startS N ds)[i]? = some (.gh a g)) : False := by
  unfold startS at h
  by_cases hi : i < ds.length
  · rw [List.getElem?_append_left (by simpa using hi), List.getElem?_map] at h
    cases e : ds[i]? with
    | none => rw [e] at h; cases h
    | some y => rw [e] at h; cases h
  · rw [List.getElem?_append_right (by simpa using hi), List.getElem?_replicate] at h
    split at h <;> cases h
theorem startS_hg {ds : List D} {i : Nat} {a : Addr} (h : Gh (startS N ds) i a) : False := by
  obtain ⟨b, g, h1, _⟩ := h
  exact startS_gh h1
theorem start_get {vs : List V} {i : Nat} {v : V} (h : vs[i]? = some v) : (start N vs)[i]? = some (some v) := by
  unfold L2.start
  rw [List.getElem?_append_left (by simpa using (List.getElem?_eq_some_iff.mp h).1), List.getElem?_map, h]
  rfl
theorem ok_start {X : Cx} {av : Addr → Prop} {ez : Str → Option (Str × D) → Prop} {vs : List V} {ds : List D} {H : Hp} (r : Reps X.K X.mg H av vs ds) (hav : ∀ a, av a → H a ≠ none) (hX : X.N = N := by rfl) : Ok X ⟨H, av, none, ez⟩ (startS N ds) (start N vs) H := by
  have sub : ∀ a, avs ⟨H, av, none, ez⟩ (startS N ds) (start N vs) a → av a := fun a h => by
    rcases h with h | ⟨i, xs, h1, _⟩ | ⟨i, h1⟩
    · exact h
    · exact (startS_ow h1).elim
    · exact (startS_hg h1).elim
  refine ⟨?_, ?_, fun i a g h => (startS_gh h).elim, ⟨fun i d h => ?_, fun i xs h => (startS_ow h).elim, fun i a g h => (startS_gh h).elim⟩, fun i j xs ys a h _ _ _ => (startS_ow h).elim, fun i xs a h _ => (startS_ow h).elim, fun a o e _ => e, fun a h => hav a h, fun b h => (by cases h), fun i j xs a h _ _ => (startS_ow h).elim, fun i j a h _ => (startS_hg h).elim, fun i a h => (startS_hg h).elim⟩
  · unfold startS L2.start
    rw [List.length_append, List.length_append, List.length_map, List.length_map, List.length_replicate, List.length_replicate, r.length]
    exact Nat.le_refl _
  · rw [hX]
    unfold L2.start
    rw [List.length_append, List.length_map, List.length_replicate]
    omega
  · obtain ⟨v, h1, h2⟩ := r.get (startS_sh h)
    exact ⟨v, start_get h1, h2.carry (.same (Same.refl H) sub)⟩

/-- THE RULE for a def over data -/
theorem okZ {sp : ZSp} {t : (Str → Option (Str × D) → Prop) → ZS} (F : Fun K x qual st f fd) (S : FnScope N ps (defScope st)) (hlen : ∀ ds Qz Ez, sp ds Qz Ez → ds.length = ps.length)
    (hbody : ∀ (cdv : Value) (A : Around) (outer : List Env) (s : Shared) (H : Hp) (E : XK) (Z0 : Zc), NoBag (Sup Z0) → Cd k (cxOf (L2.CX Pg w) Pg w K mg base N qual (defScope st) f cdv A outer s H E) (Sup Z0) →
      PSsd (cxOf (L2.CX Pg w) Pg w K mg base N qual (defScope st) f cdv A outer s H E) (Sup Z0) (defBody st) (t Z0.ez))
    (hread : ∀ ds Qz Ez, sp ds Qz Ez → t Ez { nx := fun _ => Qz (.sh .non), rt := fun r _ => Qz r } (startS N ds)) : FnP Pg w K mg base (k + 1) f fd ps (spZ K mg sp) := by
  refine fnp_of F S (fun vs H Q E h => ?_) (fun cdv A outer s H vs Q E hr hgd hbs h => ?_)
  · obtain ⟨av, ds, Qz, Ez, r, h1, _⟩ := h
    rw [r.length]
    exact hlen ds Qz Ez h1
  · obtain ⟨av, ds, Qz, Ez, r, h1, h2, h3, h4⟩ := h
    have C : Cd k (cxOf (L2.CX Pg w) Pg w K mg base N qual (defScope st) f cdv A outer s H E) (Sup ⟨H, av, none, Ez⟩) := by
      refine ⟨hr, hgd, rfl, S.nd, passes_of rfl, (takes_of rfl rfl rfl rfl).imp fun cls dd σ H' q => ?_, fun Z p ⟨z1, z2, z3, z4⟩ => ⟨z1, z2, z3, fun a z => .inl (z4 a z)⟩⟩
      obtain ⟨Z, ⟨z1, z2, z3, z4⟩, c, g, q1, q2, q3, q4⟩ := q
      rw [z3] at q1
      refine h4 c g cls dd H' q1 (fun a o e => q4 a o (by rw [z1]; exact e) (by rw [z2]; intro z; cases z)) q2 ?_
      unfold XF at q3 ⊢
      split at q3
      · trivial
      · obtain ⟨v, y1, y2⟩ := q3
        exact ⟨v, y1, y2.carry (.same (Same.refl H') z4)⟩
      · exact q3.elim
    obtain ⟨t0, p0, q0⟩ := (hbody cdv A outer s H E ⟨H, av, none, Ez⟩ (fun Z e => e.2.1) C).ex
    have sm : ∀ {S' : SS} {σ' : L2.St} {H' : Hp}, Ok (cxOf (L2.CX Pg w) Pg w K mg base N qual (defScope st) f cdv A outer s H E) ⟨H, av, none, Ez⟩ S' σ' H' → Same H H' := fun {S' σ' H'} o a u e => o.ext a u e (fun z => by cases z)
    refine ⟨t0, p0, q0 _ Sup.refl _ _ H _ _ (ok_start r h2) (hread ds Qz Ez h1) ⟨fun S' σ' H' q o g => h3 _ _ _ q (sm o) .non, fun res S' σ' v H' q o g r' => h3 _ _ _ q (sm o) ?_, fun _ _ _ q _ _ => q.elim, fun _ _ _ q _ _ => q.elim⟩⟩
    cases res with
    | sh d => exact Rep.carry (.same (Same.refl H') fun a z => .inl z) r'
    | ow xs =>
      obtain ⟨a, e, fr⟩ := r'
      obtain ⟨us, e1, e2⟩ := fr.at_
      exact ⟨a, us, e, fr.new, e1, e2.carry (.same (Same.refl H') fun b z => z.elim (fun y => .inl (.inl y)) .inr)⟩
    | un => exact r'.elim
    | gh _ _ => exact r'.elim

/-- behind such a def: what the list holds -/
def bagEnd (Qz : D → List D → Prop) (d : D) (S : SS) : Prop := match S with
  | .ow nb :: _ => Qz d nb
  | _ => False
theorem bagEnd_get {Qz : D → List D → Prop} {d : D} {S : SS} (h : bagEnd Qz d S) : ∃ nb, S[0]? = some (.ow nb) ∧ Qz d nb := by
  unfold bagEnd at h
  split at h
  · exact ⟨_, rfl, h⟩
  · exact h.elim
/-- how a def that changes its first list ends -/
def eB (Qz : D → List D → Prop) : ZD := { nx := fun S => bagEnd Qz .non S, rt := fun r S => match r with
      | .sh d => bagEnd Qz d S
      | .ow xs => bagEnd Qz (.lst xs) S
      | _ => False }
/-- .. whose first argument is an own list of the caller's -/
theorem okB {sp : ZSb} {t : ZS} (F : Fun K x qual st f fd) (S : FnScope N ps (defScope st)) (hlen : ∀ bs ds Qz, sp bs ds Qz → ds.length + 1 = ps.length)
    (hbody : ∀ (cdv : Value) (A : Around) (outer : List Env) (s : Shared) (H : Hp) (E : XK) (Z0 : Zc), Cd k (cxOf (L2.CX Pg w) Pg w K mg base N qual (defScope st) f cdv A outer s H E) (Sup Z0) →
      PSsd (cxOf (L2.CX Pg w) Pg w K mg base N qual (defScope st) f cdv A outer s H E) (Sup Z0) (defBody st) t)
    (hread : ∀ bs ds Qz, sp bs ds Qz → t (eB Qz) (.ow bs :: startS N.tail ds)) : FnP Pg w K mg base (k + 1) f fd ps (spB K mg sp) := by
  refine fnp_of F S (fun vs H Q E h => ?_) (fun cdv A outer s H vs Q E hr hgd hbs h => ?_)
  · obtain ⟨av, b, bvs, bs, vr, ds, Qz, rfl, _, _, _, r, _, h1, _⟩ := h
    rw [List.length_cons, r.length]
    exact hlen bs ds Qz h1
  · obtain ⟨av, b, bvs, bs, vr, ds, Qz, rfl, hb, hab, rb, r, hav, h1, h3⟩ := h
    have hN : N.length = N.tail.length + 1 := by
      have := congrArg List.length S.pre
      rw [List.length_take] at this
      have := hlen bs ds Qz h1
      cases N with
      | nil => simp at *; omega
      | cons _ _ => simp
    let Z0 : Zc := ⟨H, fun a => av a ∧ a ≠ b, some b, fun _ _ => False⟩
    have C : Cd k (cxOf (L2.CX Pg w) Pg w K mg base N qual (defScope st) f cdv A outer s H E) (Sup Z0) := by
      refine ⟨hr, hgd, rfl, S.nd, passes_of rfl, (takes_of rfl rfl rfl rfl).imp fun cls dd σ H' q => ?_, fun Z p ⟨z1, z2, z3, z4⟩ => ⟨z1, z2, z3, fun a z => .inl (z4 a z)⟩⟩
      obtain ⟨Z, ⟨z1, z2, z3, z4⟩, c, g, q1, q2, q3, q4⟩ := q
      rw [z3] at q1
      exact q1.elim
    obtain ⟨t0, p0, q0⟩ := (hbody cdv A outer s H E Z0 C).ex
    have est : start N (.ref b :: vr) = some (.ref b) :: start N.tail vr := by
      unfold L2.start
      rw [List.map_cons, List.cons_append, List.length_cons, show N.length - (vr.length + 1) = N.tail.length - vr.length by omega]
    have owz : ∀ {i : Nat} {xs : List D}, (Sl.ow bs :: startS N.tail ds)[i]? = some (.ow xs) → i = 0 ∧ xs = bs := fun {i xs} h => by
      cases i with
      | zero => simp at h; exact ⟨rfl, h.symm⟩
      | succ i => rw [List.getElem?_cons_succ] at h; exact (startS_ow h).elim
    have gz : ∀ {i : Nat} {a : Addr} {g : GO}, (Sl.ow bs :: startS N.tail ds)[i]? = some (.gh a g) → False := fun {i a g} h => by
      cases i with
      | zero => simp at h
      | succ i => rw [List.getElem?_cons_succ] at h; exact startS_gh h
    have sub : ∀ a, avs Z0 (Sl.ow bs :: startS N.tail ds) (some (.ref b) :: start N.tail vr) a → av a := fun a h => by
      rcases h with h | ⟨i, xs, h4, h5⟩ | ⟨i, h4⟩
      rotate_right
      · obtain ⟨b', g', h5, _⟩ := h4
        exact (gz h5).elim
      · exact h.1
      · obtain ⟨rfl, rfl⟩ := owz h4
        simp at h5
        rw [← h5]
        exact hab
    have sup : ∀ {S' : SS} {σ' : L2.St} {H' : Hp}, Ok (cxOf (L2.CX Pg w) Pg w K mg base N qual (defScope st) f cdv A outer s H E) Z0 S' σ' H' → ∀ a, av a → avs Z0 S' σ' a := fun {S' σ' H'} o a h => by
      by_cases e : a = b
      · obtain ⟨xs, e1, e2⟩ := o.bag b rfl
        exact .inr (.inl ⟨0, xs, e1, by rw [e]; exact e2⟩)
      · exact .inl ⟨h, e⟩
    have ok0 : Ok (cxOf (L2.CX Pg w) Pg w K mg base N qual (defScope st) f cdv A outer s H E) Z0 (Sl.ow bs :: startS N.tail ds) (some (.ref b) :: start N.tail vr) H := by
      have kk : Carry H H av (avs Z0 (Sl.ow bs :: startS N.tail ds) (some (.ref b) :: start N.tail vr)) := .same (Same.refl H) sub
      refine ⟨?_, ?_, fun i a g h => (gz h).elim, ⟨fun i d h => ?_, fun i xs h => ?_, fun i a g h => (gz h).elim⟩, fun i j xs ys a e1 e2 _ _ => (owz e1).1.trans (owz e2).1.symm, fun i xs a e1 e2 => ?_, fun a o e _ => e, fun a h => hav a h.1, fun b' e => ?_, fun i j xs a _ _ h => gz h.choose_spec.choose_spec.1, fun i j a h _ => (gz h.choose_spec.choose_spec.1).elim, fun i a h => (gz h.choose_spec.choose_spec.1).elim⟩
      · unfold startS L2.start
        simp [r.length]
      · show N.length ≤ _
        unfold L2.start
        rw [List.length_cons, List.length_append, List.length_map, List.length_replicate]
        omega
      · cases i with
        | zero => simp at h
        | succ i =>
          rw [List.getElem?_cons_succ] at h
          obtain ⟨v, h1, h2⟩ := r.get (startS_sh h)
          exact ⟨v, by rw [List.getElem?_cons_succ]; exact start_get h1, h2.carry kk⟩
      · obtain ⟨rfl, rfl⟩ := owz h
        exact ⟨b, bvs, rfl, hb, rb.carry kk⟩
      · obtain ⟨rfl, rfl⟩ := owz e1
        simp at e2
        subst e2
        exact ⟨.inr rfl, fun z => z.2 rfl⟩
      · cases e
        exact ⟨bs, rfl, rfl⟩
    have fin : ∀ {S' : SS} {σ' : L2.St} {H' : Hp} {v : V} {d : D} {nb : List D}, Ok (cxOf (L2.CX Pg w) Pg w K mg base N qual (defScope st) f cdv A outer s H E) Z0 S' σ' H' → S'[0]? = some (.ow nb) → Qz d nb → Rep K mg H' (avs Z0 S' σ') v d → Q v H' := fun {S' σ' H' v d nb} o e q r' => by
      obtain ⟨xs, e1, e2⟩ := o.bag b rfl
      obtain ⟨a, nvs, e3, e4, e5⟩ := o.sl.ow 0 nb e
      rw [e2] at e3
      cases e3
      have kk : Carry H' H' (avs Z0 S' σ') av := .same (Same.refl H') (sup o)
      exact h3 d nb v nvs H' q (fun a o' e n => o.ext a o' e fun z => n (by cases z; rfl)) e4 (e5.carry kk) (r'.carry kk)
    rw [est]
    refine ⟨t0, p0, q0 Z0 Sup.refl _ _ H _ _ ok0 (hread bs ds Qz h1) ⟨fun S' σ' H' q o g => ?_, fun res S' σ' v H' q o g r' => ?_, fun _ _ _ q _ _ => q.elim, fun _ _ _ q _ _ => q.elim⟩⟩
    · obtain ⟨nb, e, q⟩ := bagEnd_get q
      exact fin o e q .non
    · cases res with
      | sh d =>
        obtain ⟨nb, e, q⟩ := bagEnd_get q
        exact fin o e q r'
      | ow xs =>
        obtain ⟨nb, e, q⟩ := bagEnd_get q
        obtain ⟨a, rfl, fr⟩ := r'
        exact fin o e q fr.rep
      | un => exact r'.elim
      | gh _ _ => exact r'.elim
end

/-! ### calls -/
section
variable {X : Cx} {P : Zc → Prop} {k : Nat} {f : Addr} {fd : FuncData} {ps : List Str} {x : Str} {p pos : Pos} {e : Expr} {es : List Expr} {ta : ZA}
/-- what came, as data -/
def slD (Q : D → Prop) : Sl → Prop
  | .sh d => Q d
  | .ow xs => Q (.lst xs)
  | _ => False
/-- what came, a new list -/
def slF (Q : List D → Prop) : Sl → Prop
  | .ow xs => Q xs
  | _ => False
def zCall (sp : ZSp) (ez : Str → Option (Str × D) → Prop) (ta : ZA) : ZE := fun S Q => ta S fun ds S1 => sp ds (slD fun d => Q d S1) ez
def zCallF (sp : ZSp) (ez : Str → Option (Str × D) → Prop) (ta : ZA) : ZA := fun S Q => ta S fun ds S1 => sp ds (slF fun d => Q d S1) ez
theorem CRel.fresh {Z : Zc} {S : SS} {σ : L2.St} {H H' : Hp} {a : Addr} {xs : List D} {vs : List V} (o : Ok X Z S σ H) (s : Same H H') (ha : H a = none) (h1 : H' a = some (.lst vs)) (h2 : Reps X.K X.mg H' (fun b => avs Z S σ b ∨ b = a) vs xs) :
    Fresh X Z S σ H' a xs ∧ Carry H H' (avs Z S σ) (fun b => avs Z S σ b ∨ b = a) := by
  have kk : Carry H H' (avs Z S σ) (fun b => avs Z S σ b ∨ b = a) := fun b u e n => ⟨s b u e, fun m z => z.elim (n m) fun y => by rw [y, ha] at e; cases e⟩
  exact ⟨⟨⟨vs, h1, h2⟩, o.new0 ha, fun z => o.avsd a z ha, o.sl.carry kk (fun _ _ b us _ _ e => s b _ e) fun _ b o _ e => s b o e⟩, kk⟩
theorem callE {Z : Zc} {S1 : SS} {σ : L2.St} {H1 H' : Hp} (hZ : P Z) (o1 : Ok X Z S1 σ H1) {ez : Str → Option (Str × D) → Prop} (hez : ∀ Z, P Z → ∀ c g, ez c g → Z.ez c g) {c : Str} {g : Option (Str × D)} {cls : Value} {dd : Option Addr} (q : ez c g) (s : Same H1 H') (hc : X.mg c = some cls)
    (hf : XF X.K X.mg (avs Z S1 σ) dd g H') : EP2 X P cls dd H' := by
  refine ⟨Z, hZ, c, g, hez Z hZ c g q, hc, ?_, fun a o e n => s a o (o1.ext a o e n)⟩
  unfold XF at hf ⊢
  split at hf
  · trivial
  · obtain ⟨v, h1, h2⟩ := hf
    exact ⟨v, h1, h2.carry (.same (Same.refl H') fun a z => .inl z)⟩
  · exact hf.elim
theorem pd_call {sp : ZSp} {ez : Str → Option (Str × D) → Prop} {j : Nat} (F : FnP X.prog X.w X.K X.mg X.base j f fd ps (spZ X.K X.mg sp)) (C : Cd k X P) (hg : Gl X x) (hm : X.mg x = some (.ref f)) (hk : PySem.W.keepIn X.K (.ref f) = true) (hb : Binds X.K fd ps [])
    (hez : ∀ Z, P Z → ∀ c g, ez c g → Z.ez c g) (ha : PAd X P (e :: es) ta) (hj : j ≤ k := by decide) (hdb : (x == ("__debug__" : Str)) = false := by decide) (he : starEach (e :: es) X.env = (false, eval e X.env) :: starEach es X.env := by rfl) (hpl : (backTo pos (starEach es X.env)).any (·.1) = false := by rfl) :
    PD X P (.Call (.Name x p) (e :: es) [] pos) (zCall sp ez ta) := by
  obtain ⟨t0, p0, q0⟩ := ha.ex
  refine ⟨_, pe_callp (E := EP2 X P) (F.mono hj) C.hr C.gd hg hm hk hb C.hx p0 hdb he hpl, fun Z hZ S σ H Qz Q ok h kq => ?_⟩
  refine q0 Z hZ S σ H _ _ ok h fun ds S1 vs H1 h1 o1 f1 r1 => ?_
  refine ⟨avs Z S1 σ, ds, _, ez, r1, h1, o1.avsd, fun res v H' q s r => ?_, fun c g cls dd H' q s hc hf => callE hZ o1 hez q s hc hf⟩
  cases res with
  | sh d => exact kq d S1 v H' q (o1.same s) (f1.trans (.same o1 s)) r
  | ow xs =>
    obtain ⟨a, us, rfl, y1, y2, y3⟩ := r
    exact kq _ S1 _ H' q (o1.same s) (f1.trans (.same o1 s)) (CRel.fresh o1 s y1 y2 y3).1.rep
  | un => exact r.elim
  | gh _ _ => exact r.elim
theorem pf_call {sp : ZSp} {ez : Str → Option (Str × D) → Prop} {j : Nat} (F : FnP X.prog X.w X.K X.mg X.base j f fd ps (spZ X.K X.mg sp)) (C : Cd k X P) (hg : Gl X x) (hm : X.mg x = some (.ref f)) (hk : PySem.W.keepIn X.K (.ref f) = true) (hb : Binds X.K fd ps [])
    (hez : ∀ Z, P Z → ∀ c g, ez c g → Z.ez c g) (ha : PAd X P (e :: es) ta) (hj : j ≤ k := by decide) (hdb : (x == ("__debug__" : Str)) = false := by decide) (he : starEach (e :: es) X.env = (false, eval e X.env) :: starEach es X.env := by rfl) (hpl : (backTo pos (starEach es X.env)).any (·.1) = false := by rfl) :
    PF X P (.Call (.Name x p) (e :: es) [] pos) (zCallF sp ez ta) := by
  obtain ⟨t0, p0, q0⟩ := ha.ex
  refine ⟨_, pe_callp (E := EP2 X P) (F.mono hj) C.hr C.gd hg hm hk hb C.hx p0 hdb he hpl, fun Z hZ S σ H Qz Q ok h kq => ?_⟩
  refine q0 Z hZ S σ H _ _ ok h fun ds S1 vs H1 h1 o1 f1 r1 => ?_
  refine ⟨avs Z S1 σ, ds, _, ez, r1, h1, o1.avsd, fun res v H' q s r => ?_, fun c g cls dd H' q s hc hf => callE hZ o1 hez q s hc hf⟩
  cases res with
  | sh d => exact q.elim
  | ow xs =>
    obtain ⟨a, us, rfl, y1, y2, y3⟩ := r
    obtain ⟨fr, kk⟩ := CRel.fresh o1 s y1 y2 y3
    exact kq _ S1 _ H' q (o1.same s) (f1.trans (.same o1 s)) fr fun v d rv => (f1.rp v d rv).carry kk
  | un => exact r.elim
  | gh _ _ => exact r.elim
theorem Ok.bagW {Z : Zc} {S : SS} {σ : L2.St} {H H' : Hp} (ok : Ok X Z S σ H) {i : Nat} {xs ys : List D} {a : Addr} {ws : List V} (e : S[i]? = some (.ow xs)) (ha : σ[i]? = some (some (.ref a))) (hk : ∀ b o, H b = some o → b ≠ a → H' b = some o) (hv : H' a = some (.lst ws))
    (hw : Reps X.K X.mg H' (avs Z S σ) ws ys) : Ok X Z (S.set i (.ow ys)) σ H' ∧ Frm X Z S σ H (S.set i (.ow ys)) σ H' := by
  have kc : Carry H H' (avs Z S σ) (avs Z S σ) := fun b o e1 n => by
    have ne : b ≠ a := fun z => by
      subst z
      obtain ⟨a', us, h1, h2, _⟩ := ok.sl.ow i xs e
      rw [ha] at h1
      cases h1
      rw [h2] at e1
      cases e1
      exact n rfl (avs_at e ha)
    exact ⟨hk b o e1 ne, n⟩
  have hil : i < S.length := (List.getElem?_eq_some_iff.mp e).1
  refine ⟨⟨by rw [List.length_set]; exact ok.len, ok.nm, fun j b g h => ok.gi j b g (gh_back h).2, ⟨fun j d h => ?_, fun j zs h => ?_, fun j b g h => ?_⟩, fun j l zs ys' b h1 h2 h3 h4 => ?_, fun j zs b h1 h2 => ?_, fun b o h n => ?_, fun b z h => ?_, fun b h => ?_, fun j l zs b h1 h2 h3 => ok.gow j l _ b (set_ow e h1).choose_spec h2 (hg_back h3).2, fun j l b h1 h2 => ok.ginj j l b (hg_back h1).2 (hg_back h2).2, fun j b h => ok.gown j b (hg_back h).2⟩, .of (by rw [avs_set e]; exact kc) fun b hb => ?_⟩
  · have hj : i ≠ j := fun z => by
      subst z
      rw [List.getElem?_set_self hil] at h
      cases h
    rw [List.getElem?_set_ne hj] at h
    obtain ⟨v, h1, h2⟩ := ok.sl.sh j d h
    rw [avs_set e]
    exact ⟨v, h1, h2.carry kc⟩
  · rw [avs_set e]
    by_cases hj : i = j
    · subst hj
      rw [List.getElem?_set_self hil] at h
      cases h
      exact ⟨a, ws, ha, hv, hw⟩
    · rw [List.getElem?_set_ne hj] at h
      obtain ⟨b, us, h1, h2, h3⟩ := ok.sl.ow j zs h
      have ne : b ≠ a := fun z => hj (ok.inj i j _ _ a e h ha (by rw [z] at h1; exact h1))
      exact ⟨b, us, h1, hk b _ h2 ne, h3.carry kc⟩
  · obtain ⟨_, h⟩ := gh_back h
    rw [avs_set e]
    exact (ok.sl.gh j b g h).carry kc fun b' hb' o ho => hk b' o ho fun z => ok.gow i j xs a e ha ⟨b, g, h, by rw [← z]; exact hb'⟩
  · obtain ⟨_, q1⟩ := set_ow e h1
    obtain ⟨_, q2⟩ := set_ow e h2
    exact ok.inj j l _ _ b q1 q2 h3 h4
  · obtain ⟨_, q1⟩ := set_ow e h1
    exact ok.own j _ b q1 h2
  · have ne : b ≠ a := fun z => by
      subst z
      rcases (ok.own i xs b e ha).1 with q | q
      · rw [h] at q; cases q
      · exact n q
    exact hk b o (ok.ext b o h n) ne
  · by_cases hb : b = a
    · rw [hb, hv] at h; cases h
    · cases e1 : H b with
      | none => exact ok.avd b z e1
      | some o => rw [hk b o e1 hb] at h; cases h
  · obtain ⟨zs, h1, h2⟩ := ok.bag b h
    obtain ⟨us, h3⟩ := ow_set (ys := ys) e h1
    exact ⟨us, h3, h2⟩
  · have ne : b ≠ a := fun z => (ok.own i xs a e ha).2 (by rw [← z]; exact hb)
    cases e1 : H b with
    | none => exact absurd e1 (ok.avd b hb)
    | some o => exact hk b o e1 ne
/-- f(bag, ..) -/
def zCallB (i : Nat) (sp : ZSb) (ta : ZA) : ZE := fun S Q => match S[i]? with
  | some (.ow _) => ta S fun ds S1 => match S1[i]? with
    | some (.ow xs) => sp xs ds fun d ys => Q d (S1.set i (.ow ys))
    | _ => False
  | _ => False
theorem pd_callB {sp : ZSb} {i : Nat} {y : Str} {py : Pos} {j : Nat} (F : FnP X.prog X.w X.K X.mg X.base j f fd ps (spB X.K X.mg sp)) (C : Cd k X P) (hg : Gl X x) (hm : X.mg x = some (.ref f)) (hk : PySem.W.keepIn X.K (.ref f) = true) (hb : Binds X.K fd ps [])
    (ha : PAd X P es ta) (hj : j ≤ k := by decide) (hN : X.N[i]? = some y := by rfl) (hv : Vis X.env.scope y := by first | exact Or.inl rfl | exact Or.inr (Or.inl rfl) | exact Or.inr (Or.inr rfl)) (hdy : (y == ("__debug__" : Str)) = false := by decide) (hcd : (y == ("__classdict__" : Str)) = false := by decide)
    (hdb : (x == ("__debug__" : Str)) = false := by decide) (he : starEach (.Name y py :: es) X.env = (false, eval (.Name y py) X.env) :: starEach es X.env := by rfl) (hpl : (backTo pos (starEach es X.env)).any (·.1) = false := by rfl) :
    PD X P (.Call (.Name x p) (.Name y py :: es) [] pos) (zCallB i sp ta) := by
  obtain ⟨t0, p0, q0⟩ := ha.ex
  refine ⟨_, pe_callp (E := EP2 X P) (F.mono hj) C.hr C.gd hg hm hk hb C.hx (pa_cons (pe_var (i := i) hN hv hdy hcd) p0 he) hdb he hpl, fun Z hZ S σ H Qz Q ok h kq => ?_⟩
  unfold zCallB at h
  split at h
  · rename_i ws e0
    obtain ⟨a, us, h1, h2, h3⟩ := ok.sl.ow i ws e0
    refine ⟨_, h1, q0 Z hZ S σ H _ _ ok h fun ds S1 vs H1 h4 o1 f1 r1 => ?_⟩
    split at h4
    · rename_i xs e1
      obtain ⟨a', us', g1, g2, g3⟩ := o1.sl.ow i xs e1
      rw [h1] at g1
      cases g1
      refine ⟨avs Z S1 σ, a, us', xs, vs, ds, _, rfl, g2, avs_at e1 h1, g3, r1, o1.avsd, h4, fun d nb v nvs H' q s hl hr hd => ?_⟩
      obtain ⟨o2, f2⟩ := o1.bagW e1 h1 s hl hr
      exact kq d _ v H' q o2 (f1.trans f2) (by rw [avs_set e1]; exact hd)
    · exact h4.elim
  · exact h.elim
end
end Zz

/-! The pure layer: a law row's end. -/
namespace Zz
open PySem PySem.Spec PyProof.Rows L2

section
variable {Pg : Program} {w : World} {K : PySem.W.Frag} {mg mb : Str → Option Value} {k : Nat} {fa a : Addr} {fd : FuncData} {x : Str} {sp : ZSp} {s₁ : Shared} {vs : List Value} {ns : List Int}

theorem hidT_seer {h : Heap} {H : Hp} (N : h.NoSeer) (hA : ∀ b o ob, H b = some o → h.get? b = some ob → ob.cls = .type "list" ∧ ∃ vs n, ob.data = .seq vs n) : (hidT h H).NoSeer := by
  have dictFree : ∀ {b : Addr} {o : Obj} {es : Array DictEntry} {ep : Nat}, h.get? b = some o → o.data = .dict es ep → H b = none := by
    intro b o es ep e d
    cases q : H b with
    | none => rfl
    | some u =>
      obtain ⟨_, vs, n, z⟩ := hA b u o q e
      rw [z] at d
      cases d
  have ns' : ∀ {b : Addr} {m : Str → Option Value}, h.Ns b m → (hidT h H).Ns b m := by
    intro b m h
    obtain ⟨o, es, ep, e, d, r⟩ := h
    exact ⟨o, es, ep, hidT_get e (dictFree e d), d, r⟩
  obtain ⟨⟨mc, a1, a2⟩, ⟨mm, b1, b2⟩, ⟨mb, c1, c2⟩, mg, bm, ob, d1, d2, d3, d4, d5⟩ := N
  refine ⟨⟨mc, ns' a1, a2⟩, ⟨mm, ns' b1, b2⟩, ⟨mb, ns' c1, c2⟩, mg, bm, ob, ns' d1, d2, hidT_get d3 ?_, d4, d5⟩
  cases q : H bm with
  | none => rfl
  | some u =>
    obtain ⟨z, _⟩ := hA bm u ob q d3
    rw [d4] at z
    injection z with z
    exact absurd z (by decide)
/-- the run of the law's def from the heap behind the top, where H tracks the script alone (or nothing) -/
theorem law_core (H : Hp) (hF : SqF K H a (ns.map V.int)) (hok : HOk Pg w H s₁.heap) (hA : ∀ b o, H b = some o → b = a ∧ ∃ ob xs, o = .frz ob (.lst xs)) (hKf : ∀ b o, K.lookup b = some o → H b = none)
    (KX : K.In s₁.heap) (hns : s₁.heap.Ns mainGlobals mg) (hbl : s₁.heap.Ns builtinsNs mb) (hbb : ∀ x : Str, x ≠ "__name__" → mb x = bootBuiltins x) (hlim : s₁.heap.NoLimit) (hg : s₁.gens = #[])
    (ha : s₁.heap.get? a = some { cls := .type "list", data := .seq vs.toArray }) (hr : Room k callerA)
    (F : ∀ base : Heap, K.In base → base.Ns mainGlobals mg → (s₁.heap.NoSeer → base.NoSeer) → FnP Pg w K mg base k fa fd [x] (spZ K mg sp)) (hbind : ∀ (s : Shared) (u : Value), BindsTo s fd ⟨[u], []⟩ [(x, u)])
    (hsp : sp [.fls (ns.map D.int)] (fun r => r = .sh (.bl true)) fun _ _ => False) :
    codeAny (model Pg w) callerA (.call (.ref fa) ⟨[.ref a], []⟩) (fun r s' => r = .ok (.ret (.bool true)) ∧ OldK s₁.heap s'.heap ∧ s'.os = s₁.os ∧ AllBare s'.gens) s₁ := by
  -- no dict of the heap is tracked
  have dictFree : ∀ {b : Addr} {o : Obj} {es : Array DictEntry} {ep : Nat}, s₁.heap.get? b = some o → o.data = .dict es ep → H b = none := by
    intro b o es ep e d
    cases q : H b with
    | none => rfl
    | some u =>
      have hb := (hA b u q).1
      rw [hb, ha] at e
      cases e
      cases d
  have ns' : ∀ {b : Addr} {m : Str → Option Value}, s₁.heap.Ns b m → (hidT s₁.heap H).Ns b m := by
    intro b m h
    obtain ⟨o, es, ep, e, d, r⟩ := h
    exact ⟨o, es, ep, hidT_get e (dictFree e d), d, r⟩
  have hse : s₁.heap.NoSeer → (hidT s₁.heap H).NoSeer := fun N => hidT_seer N fun b o ob h1 h2 => by
    rw [(hA b o h1).1, ha] at h2
    cases h2
    exact ⟨rfl, _, _, rfl⟩
  have kin : K.In (hidT s₁.heap H) := fun b o e => hidT_get (KX b o e) (hKf b o e)
  have md : Mod K mg (hidT s₁.heap H) := by
    refine ⟨kin, ns' hns, ⟨mb, ns' hbl, hbb⟩, ?_⟩
    obtain ⟨mc, h1, h2⟩ := hlim
    exact ⟨mc, ns' h1, h2⟩
  have e0 : Env0 Pg w K mg (hidT s₁.heap H) callerA [] s₁ H := by
    refine ⟨rfl, md, fun b o e => of_hidT e, Nat.le_of_eq (hidT_size _ _), trivial, fun b hb => ?_, hok, .of_eq hg⟩
    cases hb
  have sq : spZ K mg sp [.ref a] H (fun v _ => v = .bl true) (fun _ _ _ => False) := by
    refine ⟨fun _ => False, _, _, _, .cons (.lsf hF (Reps.ofInts ns)) .nil, hsp, fun _ z => z.elim, fun d v H' e s r => ?_, fun _ _ _ _ _ z _ _ _ => z⟩
    subst e
    exact r.bl_inv
  refine codeAny_mono ((F _ kin (ns' hns) hse).run callerA [] s₁ H ⟨[.ref a], []⟩ [.ref a] [.ref a] _ _ hr rfl e0 (hbind s₁ (.ref a)) (.cons rfl .nil) sq) fun res s' h => ?_
  cases res with
  | error e =>
    obtain ⟨_, _, _, _, _, _, _, _, _, _, _, _, z⟩ := h
    exact z.elim
  | ok fl =>
    cases fl with
    | ret u =>
      obtain ⟨v, H', os, bare, un, hok', r', q⟩ := h
      obtain rfl : v = .bl true := q
      obtain rfl : u = Value.bool true := r'
      refine ⟨rfl, OldK.of_keep fun b o e => ?_, os, bare⟩
      cases q : H b with
      | none => exact un.keep b o e q (by intro z; cases z) (by intro z; cases z)
      | some u =>
        obtain ⟨_, ob, xs, rfl⟩ := hA b u q
        have z1 := (hok b _ q).1
        have z2 := (hok' b _ (un.frzs b ob _ q)).1
        rw [e] at z1
        cases z1
        exact z2
    | _ => exact h.elim

theorem law_callPS (KX : K.In s₁.heap) (hns : s₁.heap.Ns mainGlobals mg) (hbl : s₁.heap.Ns builtinsNs mb) (hbb : ∀ x : Str, x ≠ "__name__" → mb x = bootBuiltins x) (hlim : s₁.heap.NoLimit) (hg : s₁.gens = #[])
    (ha : s₁.heap.get? a = some { cls := .type "list", data := .seq vs.toArray }) (hi : IntsAre vs ns) (hl : ns.length ≤ sizeLine) (hr : Room k callerA)
    (F : ∀ base : Heap, K.In base → base.Ns mainGlobals mg → (s₁.heap.NoSeer → base.NoSeer) → FnP Pg w K mg base k fa fd [x] (spZ K mg sp)) (hbind : ∀ (s : Shared) (u : Value), BindsTo s fd ⟨[u], []⟩ [(x, u)])
    (hsp : sp [.fls (ns.map D.int)] (fun r => r = .sh (.bl true)) fun _ _ => False) :
    codeAny (model Pg w) callerA (.call (.ref fa) ⟨[.ref a], []⟩) (fun r s' => r = .ok (.ret (.bool true)) ∧ OldK s₁.heap s'.heap ∧ s'.os = s₁.os ∧ AllBare s'.gens) s₁ := by
  have rv : Vals (ns.map V.int) vs := vals_ints hi
  have lv := hi.length
  by_cases hk : K.lookup a = none
  · -- the script is an object of its own
    have ea : (fun b => if b = a then some (HO.frz { cls := .type "list", data := .seq vs.toArray } (.lst (ns.map V.int))) else none : Hp) a = some (.frz { cls := .type "list", data := .seq vs.toArray } (.lst (ns.map V.int))) := if_pos rfl
    have inv : ∀ b o, (fun b => if b = a then some (HO.frz { cls := .type "list", data := .seq vs.toArray } (.lst (ns.map V.int))) else none : Hp) b = some o → b = a ∧ o = .frz { cls := .type "list", data := .seq vs.toArray } (.lst (ns.map V.int)) := fun b o e => by
      by_cases hb : b = a
      · rw [hb] at e
        exact ⟨hb, (Option.some.inj (ea.symm.trans e)).symm⟩
      · have e' := (if_neg (α := Option HO) (t := some (HO.frz { cls := .type "list", data := .seq vs.toArray } (.lst (ns.map V.int)))) (e := none) hb).symm.trans e
        cases e'
    refine law_core _ (.inl ⟨_, ea⟩) (fun b o e => ?_) (fun b o e => ⟨(inv b o e).1, _, _, (inv b o e).2⟩) (fun b o e => ?_) KX hns hbl hbb hlim hg ha hr F hbind hsp
    · obtain ⟨rfl, rfl⟩ := inv b o e
      exact ⟨ha, by rw [List.length_map]; exact hl, vs, _, rv, ha⟩
    · exact if_neg fun z => by rw [z, hk] at e; cases e
  · -- it stands in the written part
    obtain ⟨o, ho⟩ : ∃ o, K.lookup a = some o := by
      cases e : K.lookup a with
      | none => exact absurd e hk
      | some o => exact ⟨o, rfl⟩
    have e := KX a o ho
    rw [ha] at e
    cases e
    refine law_core (fun _ => none) (.inr (.inr ⟨_, vs.toArray, _, ho, rfl, rfl, rfl, by rw [List.size_toArray, lv]; exact hl, by simpa using rv⟩)) (fun b o e => by cases e) (fun b o e => by cases e) (fun _ _ _ => rfl) KX hns hbl hbb hlim hg ha hr F hbind hsp
theorem law_callP (KX : K.In s₁.heap) (hns : s₁.heap.Ns mainGlobals mg) (hbl : s₁.heap.Ns builtinsNs mb) (hbb : ∀ x : Str, x ≠ "__name__" → mb x = bootBuiltins x) (hlim : s₁.heap.NoLimit) (hg : s₁.gens = #[])
    (ha : s₁.heap.get? a = some { cls := .type "list", data := .seq vs.toArray }) (hi : IntsAre vs ns) (hl : ns.length ≤ sizeLine) (hr : Room k callerA)
    (F : ∀ base : Heap, K.In base → base.Ns mainGlobals mg → FnP Pg w K mg base k fa fd [x] (spZ K mg sp)) (hbind : ∀ (s : Shared) (u : Value), BindsTo s fd ⟨[u], []⟩ [(x, u)])
    (hsp : sp [.fls (ns.map D.int)] (fun r => r = .sh (.bl true)) fun _ _ => False) :
    codeAny (model Pg w) callerA (.call (.ref fa) ⟨[.ref a], []⟩) (fun r s' => r = .ok (.ret (.bool true)) ∧ OldK s₁.heap s'.heap ∧ s'.os = s₁.os ∧ AllBare s'.gens) s₁ :=
  law_callPS KX hns hbl hbb hlim hg ha hi hl hr (fun base h1 h2 _ => F base h1 h2) hbind hsp
end

/-- the goal that k_head leaves, from the promise of the law's def -/
theorem walkP {l : PySem.W.OpenLaw} {n k : Nat} {q : Program} {loose : List Str} {XP : (Str → Option Value) → Heap → Prop} {YP : World → Heap → Prop} {d : DefRec} {K : Params → PySem.W.Frag} {sp : ZSp} {x : Str}
    (hn : l.most = some n) (hn2 : n ≤ sizeLine) (hdf : d.params.defaults = []) (hr : Room k callerA) (hY : ∀ (w : World) (h : Heap), YP w h → (K w.params).In h)
    (F : ∀ (w : World) (mg : Str → Option Value) (fa : Addr) (h : Heap), (K w.params).In h → h.Ns mainGlobals mg → mg d.name = some (.ref fa) →
      ∃ fd : FuncData, (∀ (s : Shared) (u : Value), BindsTo s fd ⟨[u], []⟩ [(x, u)]) ∧ ∀ base : Heap, (K w.params).In base → base.Ns mainGlobals mg → FnP l.prog w (K w.params) mg base k fa fd [x] (spZ (K w.params) mg sp))
    (hsp : ∀ ns : List Int, ns.length ≤ n → sp [.fls (ns.map D.int)] (fun r => r = .sh (.bl true)) fun _ _ => False) : PySem.W.WalkO q loose XP YP l.row.toRowW d [] (fun f vs => PySem.call f vs) :=
  Att.attach_call hn hdf fun w s₀ s₁ mg mb fa o pm cd doc a vs ns G Y ho hd hcd hmg hobj hints hlen hg => by
    obtain ⟨fd, hb, hF⟩ := F w mg fa _ (hY w _ Y) G.T.g hmg
    exact law_callP (hY w _ Y) G.T.g G.T.b G.T.builtins G.T.nolimit hg hobj hints (Nat.le_trans hlen hn2) hr hF hb (hsp ns hlen)
end Zz

/-! The pure layer: built-ins by name, several targets. -/
namespace Zz
open PySem PySem.Spec PyProof.Rows L2

abbrev ZB := List D → (D → Prop) → Prop
/-- a built-in by values -/
def BltZ (K : PySem.W.Frag) (mg : Str → Option Value) (r : List V → Hp → VK → Prop) (f : ZB) : Prop :=
  ∀ (H : Hp) (av : Addr → Prop) (vs : List V) (ds : List D) (Qd : D → Prop) (Q : VK), (∀ a, av a → H a ≠ none) → Reps K mg H av vs ds → f ds Qd → (∀ d v H', Qd d → Same H H' → Rep K mg H' av v d → Q v H') → r vs H Q
def zBlt (f : ZB) (ta : ZA) : ZE := fun S Q => ta S fun ds S1 => f ds fun d => Q d S1
section
variable {X : Cx} {P : Zc → Prop} {e : Expr} {es : List Expr} {x : Str} {p pos : Pos} {ta : ZA}
theorem pd_blt {id : String} {r : List V → Hp → VK → Prop} {f : ZB} (hf : BltZ X.K X.mg r f) (hc : CallR X (.builtin id) r) (hg : Gl X x) (hm : X.mg x = none) (hv : bootBuiltins x = some (.builtin id)) (ha : PAd X P (e :: es) ta) (hn : x ≠ "__name__" := by decide) (hdb : (x == ("__debug__" : Str)) = false := by decide)
    (he : starEach (e :: es) X.env = (false, eval e X.env) :: starEach es X.env := by rfl) (hpl : (backTo pos (starEach es X.env)).any (·.1) = false := by rfl) : PD X P (.Call (.Name x p) (e :: es) [] pos) (zBlt f ta) := by
  obtain ⟨t0, p0, q0⟩ := ha.ex
  refine ⟨_, pe_callB hc hg hm hv p0 hn hdb he hpl, fun Z hZ S σ H Qz Q ok h k => q0 Z hZ S σ H _ _ ok h fun ds S1 vs H1 h1 o1 f1 r1 => ?_⟩
  exact hf H1 _ vs ds _ Q o1.avsd r1 h1 fun d v H' q s r => k d S1 v H' q (o1.same s) (f1.trans (.same o1 s)) r
theorem pd_bty {T : String} {r : List V → Hp → VK → Prop} {f : ZB} (hf : BltZ X.K X.mg r f) (hc : CallR X (.type T) r) (hg : Gl X x) (hm : X.mg x = none) (hv : bootBuiltins x = some (.type T)) (ha : PAd X P (e :: es) ta) (hn : x ≠ "__name__" := by decide) (hdb : (x == ("__debug__" : Str)) = false := by decide)
    (he : starEach (e :: es) X.env = (false, eval e X.env) :: starEach es X.env := by rfl) (hpl : (backTo pos (starEach es X.env)).any (·.1) = false := by rfl) : PD X P (.Call (.Name x p) (e :: es) [] pos) (zBlt f ta) := by
  obtain ⟨t0, p0, q0⟩ := ha.ex
  refine ⟨_, pe_callTy hc hg hm hv p0 hn hdb he hpl, fun Z hZ S σ H Qz Q ok h k => q0 Z hZ S σ H _ _ ok h fun ds S1 vs H1 h1 o1 f1 r1 => ?_⟩
  exact hf H1 _ vs ds _ Q o1.avsd r1 h1 fun d v H' q s r => k d S1 v H' q (o1.same s) (f1.trans (.same o1 s)) r
end
def f2I (g : Int → Int → Int) : ZB := fun ds Q => match ds with
  | [.int i, .int j] => Q (.int (g i j))
  | _ => False
theorem reps2 {K : PySem.W.Frag} {mg : Str → Option Value} {H : Hp} {av : Addr → Prop} {vs : List V} {d e : D} (r : Reps K mg H av vs [d, e]) : ∃ v w, vs = [v, w] ∧ Rep K mg H av v d ∧ Rep K mg H av w e := by
  cases r with
  | cons r rr => cases rr with
    | cons r' rr => cases rr; exact ⟨_, _, rfl, r, r'⟩
theorem reps1 {K : PySem.W.Frag} {mg : Str → Option Value} {H : Hp} {av : Addr → Prop} {vs : List V} {d : D} (r : Reps K mg H av vs [d]) : ∃ v, vs = [v] ∧ Rep K mg H av v d := by
  cases r with
  | cons r rr => cases rr; exact ⟨_, rfl, r⟩
section
variable {K : PySem.W.Frag} {mg : Str → Option Value}
theorem bz_2I {g : Int → Int → Int} : BltZ K mg (fun xs H Q => ∃ i j, xs = [V.int i, .int j] ∧ Q (.int (g i j)) H) (f2I g) := by
  intro H av vs ds Qd Q _ r h k
  unfold f2I at h
  split at h
  · obtain ⟨v, w, rfl, r1, r2⟩ := reps2 r
    obtain rfl := r1.int_inv
    obtain rfl := r2.int_inv
    exact ⟨_, _, rfl, k _ _ H h (Same.refl H) (.int _)⟩
  · exact h.elim
abbrev fMax2 := f2I fun i j => if j > i then j else i
abbrev fMin2 := f2I fun i j => if j < i then j else i
theorem bz_max2 : BltZ K mg (fun xs H Q => ∃ i j, xs = [V.int i, .int j] ∧ Q (.int (if j > i then j else i)) H) fMax2 := bz_2I
theorem bz_min2 : BltZ K mg (fun xs H Q => ∃ i j, xs = [V.int i, .int j] ∧ Q (.int (if j < i then j else i)) H) fMin2 := bz_2I
def fInt : ZB := fun ds Q => match ds with
  | [.int i] => Q (.int i)
  | [.bl b] => Q (.int (if b then 1 else 0))
  | _ => False
theorem bz_int : BltZ K mg (fun xs H Q => (∃ i, xs = [V.int i] ∧ Q (.int i) H) ∨ ∃ k, xs = [.bl k] ∧ Q (.int (if k then 1 else 0)) H) fInt := by
  intro H av vs ds Qd Q _ r h k
  unfold fInt at h
  split at h
  · obtain ⟨v, rfl, r1⟩ := reps1 r
    obtain rfl := r1.int_inv
    exact .inl ⟨_, rfl, k _ _ H h (Same.refl H) (.int _)⟩
  · obtain ⟨v, rfl, r1⟩ := reps1 r
    obtain rfl := r1.bl_inv
    exact .inr ⟨_, rfl, k _ _ H h (Same.refl H) (.int _)⟩
  · exact h.elim
/-- the ints of data -/
def D.ints : List D → Option (List Int)
  | [] => some []
  | .int i :: xs => (D.ints xs).map (i :: ·)
  | _ => none
theorem ints_of {xs : List D} : ∀ {ns : List Int}, D.ints xs = some ns → xs = ns.map D.int := by
  induction xs with
  | nil => intro ns h; simp [D.ints] at h; subst h; rfl
  | cons x xs ih =>
    intro ns h
    cases x <;> simp [D.ints] at h
    obtain ⟨ms, h1, rfl⟩ := h
    rw [ih h1]
    rfl
theorem ints_map (ns : List Int) : D.ints (ns.map D.int) = some ns := by
  induction ns with
  | nil => rfl
  | cons n ns ih => simp [D.ints, ih]
def D.bools : List D → Option (List Bool)
  | [] => some []
  | .bl b :: xs => (D.bools xs).map (b :: ·)
  | _ => none
theorem bools_of {xs : List D} : ∀ {ns : List Bool}, D.bools xs = some ns → xs = ns.map D.bl := by
  induction xs with
  | nil => intro ns h; simp [D.bools] at h; subst h; rfl
  | cons x xs ih =>
    intro ns h
    cases x <;> simp [D.bools] at h
    obtain ⟨ms, h1, rfl⟩ := h
    rw [ih h1]
    rfl
theorem bools_map (ns : List Bool) : D.bools (ns.map D.bl) = some ns := by
  induction ns with
  | nil => rfl
  | cons n ns ih => simp [D.bools, ih]
def fAll : ZB := fun ds Q => match ds with
  | [.lst xs] => ∃ bs, D.bools xs = some bs ∧ Q (.bl (bs.all id))
  | _ => False
theorem bz_all : BltZ K mg (rAll K) fAll := by
  intro H av vs ds Qd Q _ r h k
  unfold fAll at h
  split at h
  · obtain ⟨v, rfl, r1⟩ := reps1 r
    obtain ⟨bs, h1, h2⟩ := h
    obtain rfl := bools_of h1
    obtain ⟨a, us, rfl, h3, h4⟩ := r1.lst_inv
    obtain rfl := h4.bls
    exact ⟨a, bs, rfl, .inl (.inl h3), k _ _ H h2 (Same.refl H) (.bl _)⟩
  · exact h.elim
def fSum : ZB := fun ds Q => match ds with
  | [.lst xs] => ∃ ns, D.ints xs = some ns ∧ Q (.int ns.sum)
  | _ => False
theorem bz_sum : BltZ K mg (rSum K) fSum := by
  intro H av vs ds Qd Q _ r h k
  unfold fSum at h
  split at h
  · obtain ⟨v, rfl, r1⟩ := reps1 r
    obtain ⟨bs, h1, h2⟩ := h
    obtain rfl := ints_of h1
    obtain ⟨a, us, rfl, h3, h4⟩ := r1.lst_inv
    obtain rfl := h4.ints
    exact ⟨a, bs, rfl, .inl (.inl h3), k _ _ H h2 (Same.refl H) (.int _)⟩
  · exact h.elim
def fMaxL : ZB := fun ds Q => match ds with
  | [.lst xs] => ∃ ns, D.ints xs = some ns ∧ 0 < ns.length ∧ ∀ m, m ∈ ns → (∀ y, y ∈ ns → y ≤ m) → Q (.int m)
  | _ => False
theorem bz_maxL : BltZ K mg (rMax K) fMaxL := by
  intro H av vs ds Qd Q _ r h k
  unfold fMaxL at h
  split at h
  · obtain ⟨v, rfl, r1⟩ := reps1 r
    obtain ⟨bs, h1, h2, h5⟩ := h
    obtain rfl := ints_of h1
    obtain ⟨a, us, rfl, h3, h4⟩ := r1.lst_inv
    obtain rfl := h4.ints
    exact ⟨a, bs, rfl, .inl (.inl h3), h2, fun m hm hle => k _ _ H (h5 m hm hle) (Same.refl H) (.int _)⟩
  · exact h.elim
def fMinL : ZB := fun ds Q => match ds with
  | [.lst xs] => ∃ ns, D.ints xs = some ns ∧ 0 < ns.length ∧ ∀ m, m ∈ ns → (∀ y, y ∈ ns → m ≤ y) → Q (.int m)
  | _ => False
theorem bz_minL : BltZ K mg (rMin K) fMinL := by
  intro H av vs ds Qd Q _ r h k
  unfold fMinL at h
  split at h
  · obtain ⟨v, rfl, r1⟩ := reps1 r
    obtain ⟨bs, h1, h2, h5⟩ := h
    obtain rfl := ints_of h1
    obtain ⟨a, us, rfl, h3, h4⟩ := r1.lst_inv
    obtain rfl := h4.ints
    exact ⟨a, bs, rfl, .inl (.inl h3), h2, fun m hm hle => k _ _ H (h5 m hm hle) (Same.refl H) (.int _)⟩
  · exact h.elim
def fTupleOf : ZB := fun ds Q => match ds with
  | [.lst xs] => Q (.tup xs)
  | [.tup xs] => Q (.tup xs)
  | _ => False
theorem bz_tupleOf : BltZ K mg (fun xs H Q => ∃ p ys, xs = [V.ref p] ∧ ((SqL K H p ys ∧ ∀ l, H l = none → Q (.ref l) (upd H l (.tup ys))) ∨ (SqT K H p ys ∧ Q (.ref p) H))) fTupleOf := by
  intro H av vs ds Qd Q _ r h k
  unfold fTupleOf at h
  split at h
  · obtain ⟨v, rfl, r1⟩ := reps1 r
    obtain ⟨a, us, rfl, h3, h4⟩ := r1.lst_inv
    exact ⟨a, us, rfl, .inl ⟨.inl (.inl h3), fun l hl => k _ _ _ h (Same.upd hl) (.tup (.inl (.inl upd_same)) (h4.carry (.same (Same.upd hl) fun _ z => z)))⟩⟩
  · obtain ⟨v, rfl, r1⟩ := reps1 r
    obtain ⟨a, us, rfl, h3, h4⟩ := r1.tup_inv
    exact ⟨a, us, rfl, .inr ⟨h3, k _ _ _ h (Same.refl H) (.tup h3 h4)⟩⟩
  · exact h.elim

/-! ### isinstance with a built-in class -/
def D.ty : D → Option String
  | .non => some "NoneType"
  | .bl _ => some "bool"
  | .int _ => some "int"
  | .str _ => some "str"
  | .lst _ => some "list"
  | .fls _ => some "list"
  | .tup _ => some "tuple"
  | .dic => some "dict"
  | .dct _ _ => some "dict"
  | .obj _ _ => none
  | .adr _ => none
  | .exc _ _ => none
theorem rep_ty {H : Hp} {av : Addr → Prop} {v : V} {d : D} {n : String} (r : Rep K mg H av v d) (e : d.ty = some n) : TyX K H v (.type n) := by
  cases r with
  | non => cases e; exact .base .non
  | bl b => cases e; exact .base (.bl b)
  | int i => cases e; exact .base (.int i)
  | str s => cases e; exact .base (.str s)
  | lst h _ _ => cases e; exact .base (.lst h)
  | lsf h _ =>
    cases e
    rcases h with ⟨o, h⟩ | h
    · exact .base (.frz h)
    · rcases h with (h | ⟨o, h⟩) | ⟨o, its, n, h1, h2, _⟩
      · cases h
      · cases h
      · exact .kList h1 h2
  | tup h _ =>
    cases e
    rcases h with (h | ⟨o, h⟩) | ⟨o, its, n, h1, h2, _⟩
    · exact .base (.tup h)
    · exact .fTuple h
    · exact .kTuple h1 h2
  | obj _ _ _ _ => cases e
  | adr _ => cases e
  | dic h _ => cases e; exact .base (.dK h)
  | dct h _ _ _ => cases e; exact .base (.dK h)
  | exc0 _ _ => cases e
  | exc1 _ _ _ _ => cases e
end
/-- whether a built-in type is another one, or below it -/
def tyIs (a b : String) : Bool := a == b || (a == "bool" && b == "int")
theorem kit_tyIs {K : PySem.W.Frag} {a b : String} (ha : a ∈ ["NoneType", "bool", "int", "str", "list", "tuple", "dict"]) (hb : b ∈ ["bool", "int", "str", "list", "tuple", "dict"]) : PySem.W.kitOne K (.type a) (.type b) = some (tyIs a b) := by
  have key : ∀ a ∈ ["NoneType", "bool", "int", "str", "list", "tuple", "dict"], ∀ b ∈ ["bool", "int", "str", "list", "tuple", "dict"], kitB a b = some (tyIs a b) := by decide +kernel
  exact kit_ty (key a ha b hb)
theorem ty_mem {d : D} {n : String} (e : d.ty = some n) : n ∈ ["NoneType", "bool", "int", "str", "list", "tuple", "dict"] := by
  cases d <;> simp [D.ty] at e <;> subst e <;> simp
def zIsi (T : String) (ta : ZV) : ZE := fun S Q => ta S fun d S1 => ∃ x, asD S1 d = some x ∧ ∃ n, x.ty = some n ∧ Q (.bl (tyIs n T)) S1
section
variable {X : Cx} {P : Zc → Prop} {e : Expr} {p p2 pos : Pos} {va : ZV}
theorem pd_isi {T : String} {tn : Str} (hg : Gl X "isinstance") (hm : X.mg "isinstance" = none) (hg2 : Gl X tn) (hm2 : X.mg tn = none) (hT : bootBuiltins tn = some (.type T)) (ha : PV X P e va) (hb : T ∈ ["bool", "int", "str", "list", "tuple", "dict"]) (hn : tn ≠ "__name__" := by decide)
    (hdb : (tn == ("__debug__" : Str)) = false := by decide) (he : starEach [e, .Name tn p2] X.env = (false, eval e X.env) :: starEach [.Name tn p2] X.env := by rfl) (he2 : starEach [.Name tn p2] X.env = (false, eval (.Name tn p2) X.env) :: starEach [] X.env := by rfl)
    (hpl : (backTo pos (starEach [.Name tn p2] X.env)).any (·.1) = false := by rfl) : PD X P (.Call (.Name "isinstance" p) [e, .Name tn p2] [] pos) (zIsi T va) := by
  obtain ⟨t0, p0, q0⟩ := ha.ex
  refine ⟨_, pe_callB call_isi hg hm (by decide +kernel) (pa_cons p0 (pa_cons (pe_bltn (v := .ty T) hg2 hm2 hT rfl hn hdb) pa_nil he2) he) (by decide) (by decide) he hpl, fun Z hZ S σ H Qz Q ok h k => q0 Z hZ S σ H _ _ ok h fun d S1 v H1 h1 o1 f1 r1 => ?_⟩
  obtain ⟨x, h2, n, h3, h4⟩ := h1
  exact ⟨v, .ty T, _, _, _, rfl, .ty T, rep_ty (asD_rep o1 r1 h2) h3, kit_tyIs (ty_mem h3) hb, k _ S1 _ H1 h4 o1 f1 (.bl _)⟩

/-! ### repr -/
theorem cr_repr (hgd : X.A.guards = some []) (hu : X.A.units + 64 < cLine) : CallR X (.builtin "repr") (fun xs H Q => ∃ (x : V) (p : PyData), xs = [x] ∧ Dp X.K H x p ∧ p.showable = true ∧ p.hasDict = false ∧ p.depth ≤ 60 ∧ p.shown.length ≤ sizeLine ∧ Q (.str p.shown) H) := by
  intro pins s σ H xs us Q I r h
  obtain ⟨x, p, rfl, hd, h1, h2, h3, h4, q⟩ := h
  obtain ⟨u, rfl, ru⟩ := Vals.one r
  obtain ⟨as, rd⟩ := Dp.reads I p x u hd ru
  have fin : ∀ h' tk t, (∀ b o, s.heap.get? b = some o → h'.get? b = some o) → EP X pins σ Q (.str p.shown t) { s with heap := h', toks := tk } := fun h' tk t k => ⟨.str p.shown, H, I.kept (t' := tk) k, ⟨t, rfl⟩, q⟩
  cases rd with
  | none => exact PySem.P.repr_of_none (fin s.heap _ _ fun _ _ z => z)
  | bool b => exact PySem.P.repr_of_bool (fin s.heap _ _ fun _ _ z => z)
  | int i t => exact PySem.P.repr_of_int (by simpa [PyData.showable] using h1) (fin s.heap _ _ fun _ _ z => z)
  | str y t => exact PySem.P.repr_of_str (fin s.heap _ _ fun _ _ z => z) h4
  | list g1 g2 g3 g4 => exact repr_of_reads' (.list g1 g2 g3 g4) h1 (fun z => by rw [h2] at z; cases z) hgd (by omega) (fun _ _ z => z) (fun h' u tk k => fin h' tk u k) h4
  | tuple g1 g2 g3 g4 => exact repr_of_reads' (.tuple g1 g2 g3 g4) h1 (fun z => by rw [h2] at z; cases z) hgd (by omega) (fun _ _ z => z) (fun h' u tk k => fin h' tk u k) h4
  | dict g1 g2 g3 g4 g5 => simp [PyData.hasDict] at h2
def zRepr (ta : ZV) : ZE := fun S Q => ta S fun d S1 => ∃ x, asD S1 d = some x ∧ ∃ p, x.py = some p ∧ p.showable = true ∧ p.hasDict = false ∧ p.depth ≤ 60 ∧ p.shown.length ≤ sizeLine ∧ Q (.str p.shown) S1
theorem pd_repr {k : Nat} (C : Cd k X P) (hg : Gl X "repr") (hm : X.mg "repr" = none) (ha : PV X P e va) (he : starEach [e] X.env = (false, eval e X.env) :: starEach [] X.env := by rfl) (hpl : (backTo pos (starEach [] X.env)).any (·.1) = false := by rfl) :
    PD X P (.Call (.Name "repr" p) [e] [] pos) (zRepr va) := by
  obtain ⟨t0, p0, q0⟩ := ha.ex
  refine ⟨_, pe_callB (cr_repr C.gd C.hu) hg hm (by decide +kernel) (pa_cons p0 pa_nil he) (by decide) (by decide) he hpl, fun Z hZ S σ H Qz Q ok h k => q0 Z hZ S σ H _ _ ok h fun d S1 v H1 h1 o1 f1 r1 => ?_⟩
  obtain ⟨x, h2, pd, h3, h4, h5, h6, h7, h8⟩ := h1
  exact ⟨v, pd, rfl, (asD_rep o1 r1 h2).dp h3, h4, h5, h6, h7, k _ S1 _ H1 h8 o1 f1 (.str _)⟩
end

/-! ### enumerate -/
/-- the items with their numbers -/
def enumD : Nat → List D → List D
  | _, [] => []
  | n, d :: ds => .tup [.int (n : Int), d] :: enumD (n + 1) ds
theorem enumD_get : ∀ {ds : List D} {n i : Nat} {d : D}, (enumD n ds)[i]? = some d → ∃ x, ds[i]? = some x ∧ d = .tup [.int ((n + i : Nat) : Int), x]
  | [], _, _, _, h => by simp [enumD] at h
  | y :: ds, n, 0, d, h => by simp [enumD] at h; exact ⟨y, rfl, by rw [← h]; rfl⟩
  | y :: ds, n, i + 1, d, h => by
    obtain ⟨x, h1, h2⟩ := enumD_get (ds := ds) (n := n + 1) (i := i) (by simpa [enumD] using h)
    exact ⟨x, by simpa using h1, by rw [h2, show n + 1 + i = n + (i + 1) by omega]⟩
theorem enumD_length : ∀ {ds : List D} {n : Nat}, (enumD n ds).length = ds.length
  | [], _ => rfl
  | _ :: ds, n => by simp [enumD, enumD_length]
section
variable {X : Cx} {P : Zc → Prop} {e : Expr} {pos : Pos} {te : ZE}
theorem gives_enum {Z : Zc} {S : SS} {σ : L2.St} {H : Hp} {a : Addr} {d : D} {ds : List D} (hd : d = .lst ds ∨ d = .fls ds) (r : Rep X.K X.mg H (avs Z S σ) (.ref a) d) : Gives X Z S σ H (Ite X.K a) (enumD 0 ds) := by
  intro Z' S' σ' H' ok f i
  have r' := f _ _ r
  obtain ⟨vs, hs, hr⟩ : ∃ vs, SqL X.K H' a vs ∧ Reps X.K X.mg H' (avs Z' S' σ') vs ds := by
    rcases hd with rfl | rfl
    · obtain ⟨b, vs, e, h1, h2⟩ := r'.lst_inv
      cases e
      exact ⟨vs, .inl (.inl h1), h2⟩
    · obtain ⟨b, vs, e, h1, h2⟩ := r'.fls_inv
      cases e
      exact ⟨vs, h1.seq, h2⟩
  refine ⟨fun d hd => ?_, fun hl => ⟨vs, hs, by rw [hr.length]; rwa [enumD_length] at hl⟩⟩
  obtain ⟨x, h1, rfl⟩ := enumD_get hd
  obtain ⟨v, h2, h3⟩ := hr.get h1
  refine ⟨⟨vs, v, hs, h2⟩, fun y H'' hy => ?_⟩
  obtain ⟨T, x', rfl, hT, rfl, hx⟩ := hy
  have e := hx vs hs
  rw [h2] at e
  cases e
  have s : Same H' (upd H' T (.tup [.int ((i : Nat) : Int), v])) := Same.upd hT
  refine ⟨s, .tup (.inl (.inl upd_same)) (.cons ?_ (.cons (h3.carry (.same s fun _ z => z)) .nil))⟩
  rw [Nat.zero_add]
  exact .int _
def zItE (te : ZE) : ZA := fun S Q => te S fun d S1 => match d with
  | .lst ds => Q (enumD 0 ds) S1
  | .fls ds => Q (enumD 0 ds) S1
  | _ => False
theorem id_enum {elts : List Expr} {kk : Nat} {p tpos : Pos} (hg : Gl X "enumerate") (hm : X.mg "enumerate" = none) (h : PD X P e te) (hs : starEach [e] X.env = [(false, eval e X.env)] := by rfl) : PId X P (.Tuple elts kk tpos) (.Call (.Name "enumerate" p) [e] [] pos) (zItE te) := by
  obtain ⟨t0, p0, q0⟩ := h.ex
  refine ⟨_, pi_enum hg hm (pa_cons p0 pa_nil hs) hs, fun Z hZ S σ H Qz R ok h k => q0 Z hZ S σ H _ _ ok h fun d S1 v H1 h1 o f r => ?_⟩
  split at h1
  · obtain ⟨a, vs, rfl, h2, h3⟩ := r.lst_inv
    exact ⟨a, vs, rfl, .inl (.inl h2), k _ _ _ _ h1 o f (gives_enum (.inl rfl) r)⟩
  · obtain ⟨a, vs, rfl, h2, h3⟩ := r.fls_inv
    exact ⟨a, vs, rfl, h2.seq, k _ _ _ _ h1 o f (gives_enum (.inr rfl) r)⟩
  · exact h1.elim
end

/-! ### several targets at once, some of them new lists -/
/-- an expression: data, or a new list -/
abbrev ZX := SS → (Sl → SS → Prop) → Prop
structure PX (X : Cx) (P : Zc → Prop) (e : Expr) (t : ZX) : Prop where
  ex : ∃ t0 : TE, PE X e t0 ∧ ∀ (Z : Zc), P Z → ∀ (S : SS) (σ : L2.St) (H : Hp) (Qz : Sl → SS → Prop) (Q : VK), Ok X Z S σ H → t S Qz →
    (∀ r S' v H', Qz r S' → Ok X Z S' σ H' → Frm X Z S σ H S' σ H' → RRel X Z S' σ H' v r → (∀ a, v = .ref a → (∃ xs, r = .ow xs) → ∀ w d, Rep X.K X.mg H (avs Z S σ) w d → Rep X.K X.mg H' (fun b => avs Z S' σ b ∨ b = a) w d) → Q v H') → t0 σ H Q
def zXD (t : ZE) : ZX := fun S Q => t S fun d S1 => Q (.sh d) S1
def zXF (t : ZA) : ZX := fun S Q => t S fun xs S1 => Q (.ow xs) S1
section
variable {X : Cx} {P : Zc → Prop} {e a b c : Expr} {pos : Pos} {ta tb tc : ZX}
theorem PD.px {t : ZE} (h : PD X P e t) : PX X P e (zXD t) := by
  obtain ⟨t0, p0, q0⟩ := h.ex
  exact ⟨t0, p0, fun Z hZ S σ H Qz Q ok h k => q0 Z hZ S σ H _ _ ok h fun d S1 v H1 h1 o f r => k (.sh d) S1 v H1 h1 o f r fun _ _ z => by obtain ⟨_, z⟩ := z; cases z⟩
theorem PF.px {t : ZA} (h : PF X P e t) : PX X P e (zXF t) := by
  obtain ⟨t0, p0, q0⟩ := h.ex
  exact ⟨t0, p0, fun Z hZ S σ H Qz Q ok h k => q0 Z hZ S σ H _ _ ok h fun xs S1 p H1 h1 o f r c => k (.ow xs) S1 _ H1 h1 o f ⟨p, rfl, r⟩ fun p' e _ => by cases e; exact c⟩
section
variable {Z : Zc} {S S' : SS} {σ σ' : L2.St} {H H' : Hp}
theorem avs_pl {p q : Addr} : avs (Z.pl p) S σ q ↔ (avs Z S σ q ∨ q = p) := by
  constructor
  · rintro ((h | h) | h)
    · exact .inl (.inl h)
    · exact .inr h
    · exact .inl (.inr h)
  · rintro ((h | h) | h)
    · exact .inl (.inl h)
    · exact .inr h
    · exact .inl (.inr h)
/-- a new list put aside -/
theorem Ok.aside (ok : Ok X Z S σ H) {p : Addr} {xs : List D} (f : Fresh X Z S σ H p xs) : Ok X (Z.pl p) S σ H := by
  obtain ⟨us, h1, _⟩ := f.at_
  refine ⟨ok.len, ok.nm, ok.gi, f.sl.carry (.same (Same.refl H) fun q h => avs_pl.mp h) (fun _ _ _ _ _ _ e => e) fun _ _ _ _ e => e, ok.inj, fun i ys q e1 e2 => ⟨(ok.own i ys q e1 e2).1, fun z => z.elim (ok.own i ys q e1 e2).2 fun y => f.nav (.inr (.inl ⟨i, ys, e1, by rw [← y]; exact e2⟩))⟩, ok.ext, fun q z => z.elim (ok.avd q) fun y e => (by rw [y, h1] at e; cases e), ok.bag, ok.gow, ok.ginj, fun i a e => ⟨(ok.gown i a e).1, fun z => z.elim (ok.gown i a e).2 fun y => f.nav (.inr (.inr ⟨i, by rw [← y]; exact e⟩))⟩⟩
/-- and taken up again -/
theorem Ok.retake (ok : Ok X (Z.pl p) S σ H) {us : List V} {xs : List D} (h1 : H p = some (.lst us)) (h2 : Reps X.K X.mg H (avs (Z.pl p) S σ) us xs) (h0 : Z.H0 p = none) (hn : ¬ Z.av p) : Ok X Z S σ H ∧ Fresh X Z S σ H p xs := by
  have k : Carry H H (avs (Z.pl p) S σ) (avs Z S σ) := .same (Same.refl H) fun q h => avs_pl.mpr (.inl h)
  have k2 : Carry H H (avs (Z.pl p) S σ) (fun q => avs Z S σ q ∨ q = p) := .same (Same.refl H) fun q h => avs_pl.mpr h
  refine ⟨⟨ok.len, ok.nm, ok.gi, ok.sl.carry k (fun _ _ _ _ _ _ e => e) fun _ _ _ _ e => e, ok.inj, fun i ys q e1 e2 => ⟨(ok.own i ys q e1 e2).1, fun z => (ok.own i ys q e1 e2).2 (.inl z)⟩, ok.ext, fun q z => ok.avd q (.inl z), ok.bag, ok.gow, ok.ginj, fun i a e => ⟨(ok.gown i a e).1, fun z => (ok.gown i a e).2 (.inl z)⟩⟩, ⟨us, h1, h2.carry k2⟩, h0, fun z => ?_, ok.sl.carry k2 (fun _ _ _ _ _ _ e => e) fun _ _ _ _ e => e⟩
  rcases z with z | ⟨i, ys, e1, e2⟩ | ⟨i, e1⟩
  · exact hn z
  · exact (ok.own i ys p e1 e2).2 (.inr rfl)
  · exact (ok.gown i p e1).2 (.inr rfl)
/-- a slot gets what came -/
def putR (S : SS) (i : Nat) : Sl → SS
  | .sh d => S.set i (.sh d)
  | .ow xs => S.set i (.ow xs)
  | _ => S
theorem Ok.put (ok : Ok X Z S σ H) {i : Nat} {v : V} {r : Sl} (hr : RRel X Z S σ H v r) (hb : Z.bag = none ∨ i ≠ 0) (hn : i < X.N.length) : Ok X Z (putR S i r) (σ.set i (some v)) H := by
  cases r with
  | sh d => exact (ok.setSh hr hb hn).1
  | ow xs =>
    obtain ⟨p, rfl, fr⟩ := hr
    exact (ok.setOw fr hb hn).1
  | un => exact hr.elim
  | gh _ _ => exact hr.elim
end
theorem put_all {Z : Zc} {S S' : SS} {σ : L2.St} {H H' : Hp} {i : Nat} {v : V} {r : Sl} (ok : Ok X Z S' σ H') (hr : RRel X Z S' σ H' v r) (hb : Z.bag = none ∨ i ≠ 0) (hn : i < X.N.length) (f : Frm X Z S σ H S' σ H')
    (c : ∀ a, v = .ref a → (∃ xs, r = .ow xs) → ∀ w d, Rep X.K X.mg H (avs Z S σ) w d → Rep X.K X.mg H' (fun b => avs Z S' σ b ∨ b = a) w d) :
    Ok X Z (putR S' i r) (σ.set i (some v)) H' ∧ Frm X Z S σ H (putR S' i r) (σ.set i (some v)) H' := by
  cases r with
  | sh d =>
    obtain ⟨o, k⟩ := ok.setSh (i := i) hr hb hn
    exact ⟨o, ⟨fun w d q => (f.rp w d q).carry k, f.pr⟩⟩
  | ow xs =>
    obtain ⟨p, rfl, fr⟩ := hr
    obtain ⟨o, k⟩ := ok.setOw (i := i) fr hb hn
    exact ⟨o, ⟨fun w d q => k (c p rfl ⟨xs, rfl⟩ w d q), f.pr⟩⟩
  | un => exact hr.elim
  | gh _ _ => exact hr.elim
theorem Frm.ofPl {Z : Zc} {S S' : SS} {σ σ' : L2.St} {H H' : Hp} {p : Addr} (f : Frm X (Z.pl p) S σ H S' σ' H') : ∀ a, Z.av a → H' a = H a := fun a h => f.pr a (.inl h)
/-- the second of two results stored, then the first -/
theorem put_two {k : Nat} {t1 : TE} (C : Cd k X P) {Z : Zc} (hZ : P Z) {S S1 : SS} {σ : L2.St} {H H1 : Hp} {i j : Nat} {v : V} {r : Sl} {E : ZD}
    (hbi : Z.bag = none ∨ i ≠ 0) (hbj : Z.bag = none ∨ j ≠ 0) (hni : i < X.N.length) (hnj : j < X.N.length) (o1 : Ok X Z S1 σ H1) (f1 : Frm X Z S σ H S1 σ H1) (r1 : RRel X Z S1 σ H1 v r)
    (c1 : ∀ a, v = .ref a → (∃ xs, r = .ow xs) → ∀ w d, Rep X.K X.mg H (avs Z S σ) w d → Rep X.K X.mg H1 (fun b => avs Z S1 σ b ∨ b = a) w d)
    (q1 : ∀ (Z : Zc), P Z → ∀ (S : SS) (σ : L2.St) (H : Hp) (Qz : Sl → SS → Prop) (Q : VK), Ok X Z S σ H → tb S Qz →
      (∀ r S' v H', Qz r S' → Ok X Z S' σ H' → Frm X Z S σ H S' σ H' → RRel X Z S' σ H' v r → (∀ a, v = .ref a → (∃ xs, r = .ow xs) → ∀ w d, Rep X.K X.mg H (avs Z S σ) w d → Rep X.K X.mg H' (fun b => avs Z S' σ b ∨ b = a) w d) → Q v H') → t1 σ H Q)
    (h : tb S1 fun q S2 => E.nx (putR (putR S2 j q) i r)) (Q : VK)
    (kq : ∀ S3 w H2, E.nx S3 → Ok X Z S3 ((σ.set j (some w)).set i (some v)) H2 → Frm X Z S σ H S3 ((σ.set j (some w)).set i (some v)) H2 → Q w H2) : t1 σ H1 Q := by
  cases r with
  | sh d =>
    refine q1 Z hZ S1 σ H1 _ _ o1 h fun q S2 w H2 h2 o2 f2 r2 c2 => ?_
    obtain ⟨o3, f3⟩ := put_all (i := j) o2 r2 hbj hnj f2 c2
    obtain ⟨o4, k4⟩ := o3.setSh (i := i) (f3.rp _ _ r1) hbi hni
    exact kq _ w H2 h2 o4 ((f1.trans f3).trans (frm_set k4))
  | ow xs =>
    obtain ⟨p, rfl, fr⟩ := r1
    obtain ⟨us, e1, e2⟩ := fr.at_
    have oa := o1.aside fr
    refine q1 (Z.pl p) (C.cl Z p hZ) S1 σ H1 _ _ oa h fun q S2 w H2 h2 o2 f2 r2 c2 => ?_
    obtain ⟨o3, f3⟩ := put_all (i := j) o2 r2 hbj hnj f2 c2
    have e2' : Reps X.K X.mg H1 (avs (Z.pl p) S1 σ) us xs := e2.carry (.same (Same.refl H1) fun q h => avs_pl.mp h)
    obtain ⟨o4, fr4⟩ := o3.retake (us := us) (by rw [f3.pr p (.inr rfl)]; exact e1) (f3.reps e2') fr.new fun z => fr.nav (.inl z)
    obtain ⟨o5, k5⟩ := o4.setOw (i := i) fr4 hbi hni
    refine kq _ w H2 h2 o5 ⟨fun y d q => k5 ?_, fun a ha => (f3.ofPl a ha).trans (f1.pr a ha)⟩
    have g := c1 p rfl ⟨xs, rfl⟩ y d q
    have g2 : Rep X.K X.mg H1 (avs (Z.pl p) S1 σ) y d := g.carry (.same (Same.refl H1) fun q h => avs_pl.mp h)
    exact (f3.rp _ _ g2).carry (.same (Same.refl H2) fun q h => avs_pl.mpr h)
  | un => exact r1.elim
  | gh _ _ => exact r1.elim
def zPar (i j : Nat) (ta tb : ZX) : ZS := fun E S => ta S fun r S1 => tb S1 fun q S2 => E.nx (putR (putR S2 j q) i r)
theorem sd_par {k i j : Nat} {x y : Str} {px py pt : Pos} {kt k2 pt2} (C : Cd k X P) (hbi : ∀ Z, P Z → Z.bag = none ∨ i ≠ 0) (hbj : ∀ Z, P Z → Z.bag = none ∨ j ≠ 0) (ha : PX X P a ta) (hb : PX X P b tb) (hij : i ≠ j := by decide)
    (hi : X.N[i]? = some x := by rfl) (hj : X.N[j]? = some y := by rfl) (hx : X.env.scope.names.lookup x = some .local := by rfl) (hy : X.env.scope.names.lookup y = some .local := by rfl)
    (hst : starEach [a, b] X.env = (false, eval a X.env) :: starEach [b] X.env := by rfl) (hst2 : starEach [b] X.env = (false, eval b X.env) :: starEach [] X.env := by rfl)
    (hw : swappedStores [.Tuple [.Name x px, .Name y py] kt pt] (.Tuple [a, b] k2 pt2) X.env = pure (some [x, y]) := by rfl)
    (hs : swapsWithSole [.Tuple [.Name x px, .Name y py] kt pt] (.Tuple [a, b] k2 pt2) pos.line X.env = pure false := by rfl) :
    PSd X P (.Assign [.Tuple [.Name x px, .Name y py] kt pt] (.Tuple [a, b] k2 pt2) pos) (zPar i j ta tb) := by
  obtain ⟨t0, p0, q0⟩ := ha.ex
  obtain ⟨t1, p1, q1⟩ := hb.ex
  refine ⟨_, ps_par C.calm C.nd hi hj hij hx hy (pa_cons p0 (pa_cons p1 pa_nil hst2) hst) hw hs, fun Z hZ S σ H E D0 ok h im => ?_⟩
  refine q0 Z hZ S σ H _ _ ok h fun r S1 v H1 h1 o1 f1 r1 c1 => ?_
  refine put_two (i := i) (j := j) C hZ (hbi Z hZ) (hbj Z hZ) (nlt hi) (nlt hj) o1 f1 r1 c1 q1 h1 _ fun S3 w H2 h2 o f => ⟨v, w, rfl, ?_⟩
  rw [List.set_comm _ _ hij]
  exact im.nx _ _ _ h2 o f
end
end Zz

/-! The pure layer: more expressions; defs in one bundle. -/
namespace Zz
open PySem PySem.Spec PyProof.Rows L2

section
variable {X : Cx} {P : Zc → Prop} {e a b : Expr} {es : List Expr} {x : Str} {p pos : Pos} {ta : ZA}
/-- a written power -/
theorem pd_powc {i j v : Int} {k1 k2 : Nat} {p1 p2 : Pos} (hv : i ^ j.toNat = v := by decide +kernel) (h : CPow i j := by refine ⟨?_, ?_, ?_⟩ <;> decide +kernel) : PD X P (.BinOp (.Constant (.int i) k1 p1) .Pow (.Constant (.int j) k2 p2) pos) (zC (.int v)) := by
  refine ⟨_, pe_op op_pow pe_int pe_int, fun Z hZ S σ H Qz Q ok hq k => ⟨i, j, rfl, rfl, h, ?_⟩⟩
  show Q (.int (i ^ j.toNat)) H
  rw [hv]
  exact k _ S _ H hq ok .refl (.int v)
theorem pd_negc {i : Int} {k1 : Nat} {p1 : Pos} : PD X P (.UnaryOp .USub (.Constant (.int i) k1 p1) pos) (zC (.int (-i))) := by
  refine ⟨_, pe_un un_neg pe_int, fun Z hZ S σ H Qz Q ok hq k => ⟨i, rfl, ?_⟩⟩
  exact k _ S _ H hq ok .refl (.int _)
/-- any power of two ints that is not too large -/
def CPowW (i j : Int) : Prop := 0 ≤ j ∧ (Builtin.Int.intBits i : Int) * j ≤ 2 ^ 27
theorem op_powW : OpR X (binaryOp .Pow) (rI CPowW fun i j => .int (i ^ j.toNat)) := opI fun _ _ _ _ _ _ _ hc q => pow_int hc.1 hc.2 q
abbrev zPow := zOp (fIC CPowW fun i j => i ^ j.toNat)
theorem pd_pow {ta tb : ZE} (ha : PD X P a ta) (hb : PD X P b tb) : PD X P (.BinOp a .Pow b pos) (zPow ta tb) := pd_op op_powW opz_IC ha hb
/-- a module's constant -/
theorem pd_globi {y : Str} {i : Int} (hg : Gl X y) (hm : ∃ t, X.mg y = some (.int i t)) (hd : (y == ("__debug__" : Str)) = false := by decide) : PD X P (.Name y pos) (zC (.int i)) := by
  obtain ⟨t, hm⟩ := hm
  exact pd_glob hg hm hd
theorem pd_globd {y : Str} {d : D} (hg : Gl X y) (hm : ∃ a, X.mg y = some (.ref a) ∧ ∀ H av, Rep X.K X.mg H av (.ref a) d) (hd : (y == ("__debug__" : Str)) = false := by decide) : PD X P (.Name y pos) (zC d) := by
  obtain ⟨q, hm, r⟩ := hm
  exact pd_c (pe_glob (v := .ref q) hg hm rfl hd) r
/-- lists joined, also such as are never written -/
def rCatL (K : PySem.W.Frag) : R2 := fun x y H Q => ∃ l b xs zs, x = .ref l ∧ y = .ref b ∧ SqL K H l xs ∧ SqL K H b zs ∧ xs.length + zs.length ≤ sizeLine ∧ ∀ p, H p = none → Q (.ref p) (upd H p (.lst (xs ++ zs)))
theorem op_catL : OpR X (binaryOp .Add) (rCatL X.K) := by
  intro pins s σ H x y v u Q I rx ry h
  obtain ⟨l, b, xs, zs, rfl, rfl, hH, hB, hz, q⟩ := h
  cases rx
  cases ry
  obtain ⟨its, r, e, _⟩ := I.list hH
  obtain ⟨its2, r2, e2, _⟩ := I.list hB
  obtain ⟨⟨cls, dd, data, sl⟩, n, ho, hc, _, hd⟩ := e
  obtain ⟨⟨cls2, dd2, data2, sl2⟩, n2, ho2, hc2, _, hd2⟩ := e2
  simp only at hc hd hc2 hd2
  subst hc hd hc2 hd2
  have hl := r.length
  have hl2 := r2.length
  have ea : its.toArray ++ its2.toArray = (its ++ its2).toArray := by simp
  refine concat_meets ⟨_, ho, rfl⟩ ⟨_, ho2, rfl⟩ noFill_list_add seq_list_add PySem.F.slot_list_add PySem.F.entry_list_add (PySem.F.args_list_add_2 _ _) (list_addW l b its.toArray its2.toArray n n2 dd dd2 sl sl2 (by rw [List.size_toArray, List.size_toArray]; omega)) ⟨ho, ho2, ?_⟩
  rw [ea]
  exact ⟨.ref _, _, I.lnew (t' := s.toks) (r.append r2) (by rw [List.length_append]; omega), rfl, q _ I.fresh⟩
/-- xs + ys, a new list -/
def zCat (ta tb : ZE) : ZA := fun S Q => ta S fun d S1 => tb S1 fun e S2 => match d, e with
  | .lst xs, .lst ys => xs.length + ys.length ≤ sizeLine ∧ Q (xs ++ ys) S2
  | .fls xs, .lst ys => xs.length + ys.length ≤ sizeLine ∧ Q (xs ++ ys) S2
  | _, _ => False
theorem pf_cat {ta tb : ZE} (ha : PD X P a ta) (hb : PD X P b tb) : PF X P (.BinOp a .Add b pos) (zCat ta tb) := by
  obtain ⟨t0, p0, q0⟩ := ha.ex
  obtain ⟨t1, p1, q1⟩ := hb.ex
  refine ⟨_, pe_op op_catL p0 p1, fun Z hZ S σ H Qz Q ok h k => ?_⟩
  refine q0 Z hZ S σ H _ _ ok h fun d S1 v H1 h1 o1 f1 r1 => ?_
  refine q1 Z hZ S1 σ H1 _ _ o1 h1 fun e S2 u H2 h2 o2 f2 r2 => ?_
  split at h2
  · obtain ⟨l, us, rfl, g1, g2⟩ := (f2.rp _ _ r1).lst_inv
    obtain ⟨m, ws, rfl, g3, g4⟩ := r2.lst_inv
    exact ⟨l, m, us, ws, rfl, rfl, .of g1, .of g3, by rw [g2.length, g4.length]; exact h2.1, fresh_k o2 (f1.trans f2) (g2.append g4) h2.2 k⟩
  · obtain ⟨l, us, rfl, g1, g2⟩ := (f2.rp _ _ r1).fls_inv
    obtain ⟨m, ws, rfl, g3, g4⟩ := r2.lst_inv
    exact ⟨l, m, us, ws, rfl, rfl, g1.seq, .of g3, by rw [g2.length, g4.length]; exact h2.1, fresh_k o2 (f1.trans f2) (g2.append g4) h2.2 k⟩
  · exact h2.elim
/-- list(xs) -/
def zListOf (ta : ZV) : ZA := fun S Q => ta S fun d S1 => ∃ xs, cnt S1 d = some xs ∧ Q xs S1
theorem pf_listOf {va : ZV} (hg : Gl X "list") (hm : X.mg "list" = none) (ha : PV X P e va) (he : starEach [e] X.env = (false, eval e X.env) :: starEach [] X.env := by rfl) (hpl : (backTo pos (starEach [] X.env)).any (·.1) = false := by rfl) : PF X P (.Call (.Name "list" p) [e] [] pos) (zListOf va) := by
  obtain ⟨t0, p0, q0⟩ := ha.ex
  refine ⟨_, pe_callTy call_list_of hg hm (by decide +kernel) (pa_cons p0 pa_nil he) (by decide) (by decide) he hpl, fun Z hZ S σ H Qz Q ok h k => q0 Z hZ S σ H _ _ ok h fun d S1 v H1 h1 o1 f1 r1 => ?_⟩
  obtain ⟨xs, h2, h3⟩ := h1
  obtain ⟨q, vs, rfl, h4, h5⟩ := cnt_at o1 r1 h2
  exact ⟨q, vs, rfl, h4, fresh_k o1 f1 h5 h3 k⟩
end

/-! ### a def in one bundle -/
structure Df (Pg : Program) (w : World) (K : PySem.W.Frag) (mg : Str → Option Value) (base : Heap) (k : Nat) (x : Str) (sp : Sp) : Prop where
  ex : ∃ (f : Addr) (fd : FuncData) (ps : List Str), mg x = some (.ref f) ∧ PySem.W.keepIn K (.ref f) = true ∧ Binds K fd ps [] ∧ FnP Pg w K mg base k f fd ps sp
section
variable {X : Cx} {P : Zc → Prop} {k : Nat} {x : Str} {p pos : Pos} {e : Expr} {es : List Expr} {ta : ZA}
theorem dd_call {sp : ZSp} {j : Nat} (F : Df X.prog X.w X.K X.mg X.base j x (spZ X.K X.mg sp)) (C : Cd k X P) (hg : Gl X x) (ez : Str → Option (Str × D) → Prop)
    (hez : ∀ Z, P Z → ∀ c g, ez c g → Z.ez c g) (ha : PAd X P (e :: es) ta) (hj : j ≤ k := by decide) (hdb : (x == ("__debug__" : Str)) = false := by decide) (he : starEach (e :: es) X.env = (false, eval e X.env) :: starEach es X.env := by rfl) (hpl : (backTo pos (starEach es X.env)).any (·.1) = false := by rfl) :
    PD X P (.Call (.Name x p) (e :: es) [] pos) (zCall sp ez ta) := by
  obtain ⟨f, fd, ps, hm, hk, hb, F⟩ := F.ex
  exact pd_call F C hg hm hk hb hez ha hj hdb he hpl
theorem df_call {sp : ZSp} {j : Nat} (F : Df X.prog X.w X.K X.mg X.base j x (spZ X.K X.mg sp)) (C : Cd k X P) (hg : Gl X x) (ez : Str → Option (Str × D) → Prop)
    (hez : ∀ Z, P Z → ∀ c g, ez c g → Z.ez c g) (ha : PAd X P (e :: es) ta) (hj : j ≤ k := by decide) (hdb : (x == ("__debug__" : Str)) = false := by decide) (he : starEach (e :: es) X.env = (false, eval e X.env) :: starEach es X.env := by rfl) (hpl : (backTo pos (starEach es X.env)).any (·.1) = false := by rfl) :
    PF X P (.Call (.Name x p) (e :: es) [] pos) (zCallF sp ez ta) := by
  obtain ⟨f, fd, ps, hm, hk, hb, F⟩ := F.ex
  exact pf_call F C hg hm hk hb hez ha hj hdb he hpl
theorem dd_callB {sp : ZSb} {i : Nat} {y : Str} {py : Pos} {j : Nat} (F : Df X.prog X.w X.K X.mg X.base j x (spB X.K X.mg sp)) (C : Cd k X P) (hg : Gl X x)
    (ha : PAd X P es ta) (hj : j ≤ k := by decide) (hN : X.N[i]? = some y := by rfl) (hv : Vis X.env.scope y := by first | exact Or.inl rfl | exact Or.inr (Or.inl rfl) | exact Or.inr (Or.inr rfl)) (hdy : (y == ("__debug__" : Str)) = false := by decide) (hcd : (y == ("__classdict__" : Str)) = false := by decide)
    (hdb : (x == ("__debug__" : Str)) = false := by decide) (he : starEach (.Name y py :: es) X.env = (false, eval (.Name y py) X.env) :: starEach es X.env := by rfl) (hpl : (backTo pos (starEach es X.env)).any (·.1) = false := by rfl) :
    PD X P (.Call (.Name x p) (.Name y py :: es) [] pos) (zCallB i sp ta) := by
  obtain ⟨f, fd, ps, hm, hk, hb, F⟩ := F.ex
  exact pd_callB F C hg hm hk hb ha hj hN hv hdy hcd hdb he hpl
end
theorem ez0 {P : Zc → Prop} : ∀ Z, P Z → ∀ c g, (fun (_ : Str) (_ : Option (Str × D)) => False) c g → Z.ez c g := fun _ _ _ _ h => h.elim
theorem ezS {Z0 : Zc} : ∀ Z, Sup Z0 Z → ∀ c g, Z0.ez c g → Z.ez c g := fun Z h c g q => by rw [h.2.2.1]; exact q
abbrev eF : Str → Option (Str × D) → Prop := fun _ _ => False
end Zz

/-! The pure layer: three targets at once, list(range(..)). -/
namespace Zz
open PySem PySem.Spec PyProof.Rows L2

section
variable {X : Cx} {P : Zc → Prop} {e a b c : Expr} {pos : Pos} {ta tb tc : ZX}
/-- a result is put aside until what comes behind it is stored -/
theorem put_pre {k : Nat} (C : Cd k X P) {Z : Zc} (hZ : P Z) {S S1 : SS} {σ : L2.St} {H H1 : Hp} {i : Nat} {v : V} {r : Sl} (hbi : Z.bag = none ∨ i ≠ 0) (hni : i < X.N.length) (o1 : Ok X Z S1 σ H1) (f1 : Frm X Z S σ H S1 σ H1) (r1 : RRel X Z S1 σ H1 v r)
    (c1 : ∀ a, v = .ref a → (∃ xs, r = .ow xs) → ∀ w d, Rep X.K X.mg H (avs Z S σ) w d → Rep X.K X.mg H1 (fun b => avs Z S1 σ b ∨ b = a) w d) {nx : SS → Prop} {K : L2.St → Hp → Prop} {G : Prop}
    (rest : ∀ Z', P Z' → Ok X Z' S1 σ H1 → (∀ S' σ' H', nx (putR S' i r) → Ok X Z' S' σ' H' → Frm X Z' S1 σ H1 S' σ' H' → K σ' H') → G)
    (kq : ∀ S' σ' H', nx S' → Ok X Z S' (σ'.set i (some v)) H' → Frm X Z S σ H S' (σ'.set i (some v)) H' → K σ' H') : G := by
  cases r with
  | sh d =>
    refine rest Z hZ o1 fun S' σ' H' h2 o2 f2 => ?_
    obtain ⟨o4, k4⟩ := o2.setSh (i := i) (f2.rp _ _ r1) hbi hni
    exact kq _ σ' H' h2 o4 ((f1.trans f2).trans (frm_set k4))
  | ow xs =>
    obtain ⟨p, rfl, fr⟩ := r1
    obtain ⟨us, e1, e2⟩ := fr.at_
    refine rest (Z.pl p) (C.cl Z p hZ) (o1.aside fr) fun S' σ' H' h2 o3 f3 => ?_
    have e2' : Reps X.K X.mg H1 (avs (Z.pl p) S1 σ) us xs := e2.carry (.same (Same.refl H1) fun q h => avs_pl.mp h)
    obtain ⟨o4, fr4⟩ := o3.retake (us := us) (by rw [f3.pr p (.inr rfl)]; exact e1) (f3.reps e2') fr.new fun z => fr.nav (.inl z)
    obtain ⟨o5, k5⟩ := o4.setOw (i := i) fr4 hbi hni
    refine kq _ σ' H' h2 o5 ⟨fun y d q => k5 ?_, fun a ha => (f3.ofPl a ha).trans (f1.pr a ha)⟩
    have g := c1 p rfl ⟨xs, rfl⟩ y d q
    have g2 : Rep X.K X.mg H1 (avs (Z.pl p) S1 σ) y d := g.carry (.same (Same.refl H1) fun q h => avs_pl.mp h)
    exact (f3.rp _ _ g2).carry (.same (Same.refl H') fun q h => avs_pl.mpr h)
  | un => exact r1.elim
  | gh _ _ => exact r1.elim
def zPar3 (i j l : Nat) (ta tb tc : ZX) : ZS := fun E S => ta S fun r S1 => tb S1 fun q S2 => tc S2 fun u S3 => E.nx (putR (putR (putR S3 l u) j q) i r)
theorem sd_par3 {k i j l : Nat} {x y z : Str} {px py pz pt : Pos} {kt k2 pt2} (C : Cd k X P) (hbi : ∀ Z, P Z → Z.bag = none ∨ i ≠ 0) (hbj : ∀ Z, P Z → Z.bag = none ∨ j ≠ 0) (hbl : ∀ Z, P Z → Z.bag = none ∨ l ≠ 0) (ha : PX X P a ta) (hb : PX X P b tb) (hc : PX X P c tc)
    (hij : i ≠ j := by decide) (hil : i ≠ l := by decide) (hjl : j ≠ l := by decide)
    (hi : X.N[i]? = some x := by rfl) (hj : X.N[j]? = some y := by rfl) (hl : X.N[l]? = some z := by rfl) (hx : X.env.scope.names.lookup x = some .local := by rfl) (hy : X.env.scope.names.lookup y = some .local := by rfl) (hz : X.env.scope.names.lookup z = some .local := by rfl)
    (hst : starEach [a, b, c] X.env = (false, eval a X.env) :: starEach [b, c] X.env := by rfl) (hst2 : starEach [b, c] X.env = (false, eval b X.env) :: starEach [c] X.env := by rfl) (hst3 : starEach [c] X.env = (false, eval c X.env) :: starEach [] X.env := by rfl)
    (hw : swappedStores [.Tuple [.Name x px, .Name y py, .Name z pz] kt pt] (.Tuple [a, b, c] k2 pt2) X.env = pure (some [x, y, z]) := by rfl)
    (hs : swapsWithSole [.Tuple [.Name x px, .Name y py, .Name z pz] kt pt] (.Tuple [a, b, c] k2 pt2) pos.line X.env = pure false := by rfl) :
    PSd X P (.Assign [.Tuple [.Name x px, .Name y py, .Name z pz] kt pt] (.Tuple [a, b, c] k2 pt2) pos) (zPar3 i j l ta tb tc) := by
  obtain ⟨t0, p0, q0⟩ := ha.ex
  obtain ⟨t1, p1, q1⟩ := hb.ex
  obtain ⟨t2, p2, q2⟩ := hc.ex
  refine ⟨_, ps_par3 C.calm C.nd hi hj hl hij hil hjl hx hy hz (pa_cons p0 (pa_cons p1 (pa_cons p2 pa_nil hst3) hst2) hst) hw hs, fun Z hZ S σ H E D0 ok h im => ?_⟩
  refine q0 Z hZ S σ H _ _ ok h fun r S1 v H1 h1 o1 f1 r1 c1 => ?_
  refine put_pre (i := i) C hZ (hbi Z hZ) (nlt hi) o1 f1 r1 c1 (nx := E.nx) (K := fun σ' H' => D0.nx (σ'.set i (some v)) H') (fun Z' hZ' o1' kk => ?_) fun S' σ' H' n o f => im.nx _ _ _ n o f
  refine q1 Z' hZ' S1 σ H1 _ _ o1' h1 fun q S2 w H2 h2 o2 f2 r2 c2 => ?_
  refine put_pre (i := j) C hZ' (hbj Z' hZ') (nlt hj) o2 f2 r2 c2 (nx := fun S => E.nx (putR S i r)) (K := fun σ' H' => D0.nx ((σ'.set j (some w)).set i (some v)) H') (fun Z'' hZ'' o2' kk2 => ?_) fun S' σ' H' n o f => kk _ _ _ n o f
  refine q2 Z'' hZ'' S2 σ H2 _ _ o2' h2 fun u S3 y H3 h3 o3 f3 r3 c3 => ?_
  obtain ⟨o4, f4⟩ := put_all (i := l) o3 r3 (hbl Z'' hZ'') (nlt hl) f3 c3
  refine ⟨v, w, y, rfl, ?_⟩
  rw [List.set_comm (l := σ) _ _ hij, List.set_comm _ _ hil, List.set_comm (l := σ) _ _ hjl]
  exact kk2 _ _ _ h3 o4 f4
/-- .. where a name is a cell: a tuple is made and unpacked -/
theorem sd_parC {k i j : Nat} {x y : Str} {px py pt : Pos} {kt k2 pt2} (C : Cd k X P) (hbi : ∀ Z, P Z → Z.bag = none ∨ i ≠ 0) (hbj : ∀ Z, P Z → Z.bag = none ∨ j ≠ 0) (ha : PX X P a ta) (hb : PX X P b tb) (hij : i ≠ j := by decide)
    (hi : X.N[i]? = some x := by rfl) (hj : X.N[j]? = some y := by rfl) (hx : Loc X.env.scope x := by first | exact Or.inl rfl | exact Or.inr rfl) (hy : Loc X.env.scope y := by first | exact Or.inl rfl | exact Or.inr rfl)
    (hfx : X.fn x = true ∨ X.env.scope.names.lookup x = some .local := by first | exact .inl rfl | exact .inr rfl) (hfy : X.fn y = true ∨ X.env.scope.names.lookup y = some .local := by first | exact .inl rfl | exact .inr rfl)
    (hst : starEach [a, b] X.env = (false, eval a X.env) :: starEach [b] X.env := by rfl) (hst2 : starEach [b] X.env = (false, eval b X.env) :: starEach [] X.env := by rfl)
    (hw : swappedStores [.Tuple [.Name x px, .Name y py] kt pt] (.Tuple [a, b] k2 pt2) X.env = pure none := by rfl)
    (hs : swapsWithSole [.Tuple [.Name x px, .Name y py] kt pt] (.Tuple [a, b] k2 pt2) pos.line X.env = pure false := by rfl) :
    PSd X P (.Assign [.Tuple [.Name x px, .Name y py] kt pt] (.Tuple [a, b] k2 pt2) pos) (zPar i j ta tb) := by
  obtain ⟨t0, p0, q0⟩ := ha.ex
  obtain ⟨t1, p1, q1⟩ := hb.ex
  refine ⟨_, ps_asg (pe_tup (pa_cons p0 (pa_cons p1 pa_nil hst2) hst)) (pg_tup C.calm (pgs_cons (pg_name C.nd hi hx hfx) (pgs_cons (pg_name C.nd hj hy hfy) pgs_nil))) hs hw, fun Z hZ S σ H E D0 ok h im => ?_⟩
  refine q0 Z hZ S σ H _ _ ok h fun r S1 v H1 h1 o1 f1 r1 c1 => ?_
  refine put_pre (i := i) C hZ (hbi Z hZ) (nlt hi) o1 f1 r1 c1 (nx := E.nx) (K := fun σ' H' => D0.nx (σ'.set i (some v)) H') (fun Z' hZ' o1' kk => ?_) fun S' σ' H' n o f => im.nx _ _ _ n o f
  refine q1 Z' hZ' S1 σ H1 _ _ o1' h1 fun q S2 w H2 h2 o2 f2 r2 c2 => ?_
  obtain ⟨o4, f4⟩ := put_all (i := j) o2 r2 (hbj Z' hZ') (nlt hj) f2 c2
  refine ⟨by show 2 ≤ sizeLine; decide, fun p hp => ⟨p, [v, w], rfl, .inl (.inl upd_same), rfl, v, [w], rfl, w, [], rfl, rfl, ?_⟩⟩
  have s : Same H2 (upd H2 p (.tup [v, w])) := Same.upd hp
  rw [List.set_comm _ _ hij]
  exact kk _ _ _ h2 (o4.same s) (f4.trans (.same o4 s))
theorem sd_par3C {k i j l : Nat} {x y z : Str} {px py pz pt : Pos} {kt k2 pt2} (C : Cd k X P) (hbi : ∀ Z, P Z → Z.bag = none ∨ i ≠ 0) (hbj : ∀ Z, P Z → Z.bag = none ∨ j ≠ 0) (hbl : ∀ Z, P Z → Z.bag = none ∨ l ≠ 0) (ha : PX X P a ta) (hb : PX X P b tb) (hc : PX X P c tc)
    (hij : i ≠ j := by decide) (hil : i ≠ l := by decide) (hjl : j ≠ l := by decide)
    (hi : X.N[i]? = some x := by rfl) (hj : X.N[j]? = some y := by rfl) (hl : X.N[l]? = some z := by rfl) (hx : Loc X.env.scope x := by first | exact Or.inl rfl | exact Or.inr rfl) (hy : Loc X.env.scope y := by first | exact Or.inl rfl | exact Or.inr rfl) (hz : Loc X.env.scope z := by first | exact Or.inl rfl | exact Or.inr rfl)
    (hfx : X.fn x = true ∨ X.env.scope.names.lookup x = some .local := by first | exact .inl rfl | exact .inr rfl) (hfy : X.fn y = true ∨ X.env.scope.names.lookup y = some .local := by first | exact .inl rfl | exact .inr rfl) (hfz : X.fn z = true ∨ X.env.scope.names.lookup z = some .local := by first | exact .inl rfl | exact .inr rfl)
    (hst : starEach [a, b, c] X.env = (false, eval a X.env) :: starEach [b, c] X.env := by rfl) (hst2 : starEach [b, c] X.env = (false, eval b X.env) :: starEach [c] X.env := by rfl) (hst3 : starEach [c] X.env = (false, eval c X.env) :: starEach [] X.env := by rfl)
    (hw : swappedStores [.Tuple [.Name x px, .Name y py, .Name z pz] kt pt] (.Tuple [a, b, c] k2 pt2) X.env = pure none := by rfl)
    (hs : swapsWithSole [.Tuple [.Name x px, .Name y py, .Name z pz] kt pt] (.Tuple [a, b, c] k2 pt2) pos.line X.env = pure false := by rfl) :
    PSd X P (.Assign [.Tuple [.Name x px, .Name y py, .Name z pz] kt pt] (.Tuple [a, b, c] k2 pt2) pos) (zPar3 i j l ta tb tc) := by
  obtain ⟨t0, p0, q0⟩ := ha.ex
  obtain ⟨t1, p1, q1⟩ := hb.ex
  obtain ⟨t2, p2, q2⟩ := hc.ex
  refine ⟨_, ps_asg (pe_tup (pa_cons p0 (pa_cons p1 (pa_cons p2 pa_nil hst3) hst2) hst)) (pg_tup C.calm (pgs_cons (pg_name C.nd hi hx hfx) (pgs_cons (pg_name C.nd hj hy hfy) (pgs_cons (pg_name C.nd hl hz hfz) pgs_nil)))) hs hw, fun Z hZ S σ H E D0 ok h im => ?_⟩
  refine q0 Z hZ S σ H _ _ ok h fun r S1 v H1 h1 o1 f1 r1 c1 => ?_
  refine put_pre (i := i) C hZ (hbi Z hZ) (nlt hi) o1 f1 r1 c1 (nx := E.nx) (K := fun σ' H' => D0.nx (σ'.set i (some v)) H') (fun Z' hZ' o1' kk => ?_) fun S' σ' H' n o f => im.nx _ _ _ n o f
  refine q1 Z' hZ' S1 σ H1 _ _ o1' h1 fun q S2 w H2 h2 o2 f2 r2 c2 => ?_
  refine put_pre (i := j) C hZ' (hbj Z' hZ') (nlt hj) o2 f2 r2 c2 (nx := fun S => E.nx (putR S i r)) (K := fun σ' H' => D0.nx ((σ'.set j (some w)).set i (some v)) H') (fun Z'' hZ'' o2' kk2 => ?_) fun S' σ' H' n o f => kk _ _ _ n o f
  refine q2 Z'' hZ'' S2 σ H2 _ _ o2' h2 fun u S3 y H3 h3 o3 f3 r3 c3 => ?_
  obtain ⟨o4, f4⟩ := put_all (i := l) o3 r3 (hbl Z'' hZ'') (nlt hl) f3 c3
  refine ⟨by show 3 ≤ sizeLine; decide, fun p hp => ⟨p, [v, w, y], rfl, .inl (.inl upd_same), rfl, v, [w, y], rfl, w, [y], rfl, y, [], rfl, rfl, ?_⟩⟩
  have s : Same H3 (upd H3 p (.tup [v, w, y])) := Same.upd hp
  rw [List.set_comm (l := σ) _ _ hij, List.set_comm _ _ hil, List.set_comm (l := σ) _ _ hjl]
  exact kk2 _ _ _ h3 (o4.same s) (f4.trans (.same o4 s))
end
section
variable {X : Cx} {P : Zc → Prop} {a b : Expr} {p p2 pos pos2 : Pos} {ta tb : ZE}
theorem rangeD_rg {K mg H av} (a b : Int) : Reps K mg H av (rgV a b) (rangeD a (b - a).toNat) := by
  unfold rgV rangeD
  have key : ∀ ns : List Nat, Reps K mg H av (ns.map fun i => V.int (a + (i : Nat))) (ns.map fun (i : Nat) => D.int (a + (i : Int))) := fun ns => by
    induction ns with
    | nil => exact .nil
    | cons n ns ih => exact .cons (.int _) ih
  exact key _
/-- list(range(a)), list(range(a, b)) -/
def zLR (lo : Int) (hi : Int) (Q : List D → Prop) : Prop := RgOk lo hi ∧ Q (rangeD lo (hi - lo).toNat)
def zLR1 (ta : ZE) : ZA := fun S Q => ta S fun d S1 => match d with
  | .int j => zLR 0 j fun xs => Q xs S1
  | _ => False
def zLR2 (ta tb : ZE) : ZA := fun S Q => ta S fun d S1 => tb S1 fun e S2 => match d, e with
  | .int i, .int j => zLR i j fun xs => Q xs S2
  | _, _ => False
theorem pf_listR1 {k : Nat} (C : Cd k X P) (hg : Gl X "list") (hm : X.mg "list" = none) (hg2 : Gl X "range") (hm2 : X.mg "range" = none) (ha : PD X P a ta) (na : starEach [a] X.env = (false, eval a X.env) :: starEach [] X.env := by rfl)
    (n2 : starEach [.Call (.Name "range" p2) [a] [] pos2] X.env = (false, eval (.Call (.Name "range" p2) [a] [] pos2) X.env) :: starEach [] X.env := by rfl) : PF X P (.Call (.Name "list" p) [.Call (.Name "range" p2) [a] [] pos2] [] pos) (zLR1 ta) := by
  obtain ⟨t0, p0, q0⟩ := ha.ex
  refine ⟨_, pe_listRg C.calm hg hm (prg_1 hg2 hm2 p0 na) n2, fun Z hZ S σ H Qz Q ok h k => q0 Z hZ S σ H _ _ ok h fun d S1 v H1 h1 o1 f1 r1 => ?_⟩
  split at h1
  · obtain rfl := r1.int_inv
    exact ⟨_, rfl, h1.1, fresh_k o1 f1 (rangeD_rg _ _) h1.2 k⟩
  · exact h1.elim
theorem pf_listR2 {k : Nat} (C : Cd k X P) (hg : Gl X "list") (hm : X.mg "list" = none) (hg2 : Gl X "range") (hm2 : X.mg "range" = none) (ha : PD X P a ta) (hb : PD X P b tb) (na : starEach [a, b] X.env = (false, eval a X.env) :: starEach [b] X.env := by rfl)
    (nb : starEach [b] X.env = (false, eval b X.env) :: starEach [] X.env := by rfl) (hp : (backTo pos2 (starEach [b] X.env)).any (·.1) = false := by rfl)
    (n2 : starEach [.Call (.Name "range" p2) [a, b] [] pos2] X.env = (false, eval (.Call (.Name "range" p2) [a, b] [] pos2) X.env) :: starEach [] X.env := by rfl) : PF X P (.Call (.Name "list" p) [.Call (.Name "range" p2) [a, b] [] pos2] [] pos) (zLR2 ta tb) := by
  obtain ⟨t0, p0, q0⟩ := ha.ex
  obtain ⟨t1, p1, q1⟩ := hb.ex
  refine ⟨_, pe_listRg C.calm hg hm (prg_2 hg2 hm2 p0 p1 na nb hp) n2, fun Z hZ S σ H Qz Q ok h k => q0 Z hZ S σ H _ _ ok h fun d S1 v H1 h1 o1 f1 r1 => q1 Z hZ S1 σ H1 _ _ o1 h1 fun e S2 u H2 h2 o2 f2 r2 => ?_⟩
  split at h2
  · obtain rfl := r1.int_inv
    obtain rfl := r2.int_inv
    exact ⟨_, _, rfl, rfl, h2.1, fresh_k o2 (f1.trans f2) (rangeD_rg _ _) h2.2 k⟩
  · exact h2.elim
end
end Zz

/-! The pure layer: walks over lists or tuples alike; rules for readings of loops. -/
namespace Zz
open PySem PySem.Spec PyProof.Rows L2

section
variable {X : Cx} {P : Zc → Prop} {e a b : Expr} {pos : Pos} {te ta : ZE}
theorem pi_either {tg l : Expr} {u v : TI} (h : PI X tg l u) (h' : PI X tg l v) : PI X tg l (fun σ H R => u σ H R ∨ v σ H R) :=
  ⟨fun pins s σ H R I q => q.elim (fun q => h.run pins s σ H R I q) fun q => h'.run pins s σ H R I q⟩
theorem pi_list' {tg l : Expr} {tl : TE} (hl : PE X l tl) : PI X tg l (iList X.K tl) := pi_list hl
def zItS (te : ZE) : ZA := fun S Q => te S fun d S1 => match d with
  | .lst ds => Q ds S1
  | .fls ds => Q ds S1
  | .tup ds => Q ds S1
  | _ => False
/-- a walk whose source is one of the two -/
def iSeq (K : PySem.W.Frag) (t : TE) : TI := fun σ H R => t σ H fun x H1 => ∃ a, x = .ref a ∧ (((∃ xs, SqL K H1 a xs) ∧ R (Itl K a) H1) ∨ ((∃ xs, SqT K H1 a xs) ∧ R (Itt K a) H1))
theorem pi_seq {tg l : Expr} {tl : TE} (hl : PE X l tl) : PI X tg l (iSeq X.K tl) := by
  refine ⟨fun pins z0 σ H R I0 h => ?_⟩
  refine thn (hl.run pins z0 σ H _ I0 h) fun w z ⟨x, G, I, rx, c⟩ => ?_
  obtain ⟨q, eq, c⟩ := c
  subst eq
  cases rx
  have fr : ∀ b, b ∈ [z.heap.objs.size] → FpOk X pins G b := fun b hb => by
    obtain rfl : b = z.heap.objs.size := by simpa using hb
    exact I.fpOk (Nat.le_refl _) (I.hok.fresh (Nat.le_refl _))
  rcases c with ⟨⟨ys, hy⟩, c⟩ | ⟨⟨ys, hy⟩, c⟩
  · obtain ⟨its, rv, pl, hz⟩ := I.list hy
    exact wpAny_pyIter_list pl.isList ⟨z.heap.objs.size, [z.heap.objs.size], _, _, G, rfl, I.kept (t' := z.toks) fun b o e => Heap.get?_push_of_some _ e, turn_list q _, ⟨_, Heap.get?_push_size _ rfl, rfl, rfl⟩, fr, c⟩
  · obtain ⟨its, rv, pl, hz⟩ := I.tuple hy
    exact wpAny_pyIter_tuple (show z.heap.IsTuple q its.toArray from pl) ⟨z.heap.objs.size, [z.heap.objs.size], _, _, G, rfl, I.kept (t' := z.toks) fun b o e => Heap.get?_push_of_some _ e, turn_tuple q _, ⟨_, Heap.get?_push_size _ rfl, rfl, rfl⟩, fr, c⟩
theorem id_seq {tg : Expr} (h : PD X P e te) : PId X P tg e (zItS te) := by
  obtain ⟨t0, p0, q0⟩ := h.ex
  refine ⟨_, pi_seq p0, fun Z hZ S σ H Qz R ok h k => q0 Z hZ S σ H _ _ ok h fun d S1 v H1 h1 o f r => ?_⟩
  split at h1
  · obtain ⟨a, vs, rfl, h2, h3⟩ := r.lst_inv
    exact ⟨a, rfl, .inl ⟨⟨vs, .inl (.inl h2)⟩, k _ _ _ _ h1 o f (gives_list (.inl rfl) r)⟩⟩
  · obtain ⟨a, vs, rfl, h2, h3⟩ := r.fls_inv
    exact ⟨a, rfl, .inl ⟨⟨vs, h2.seq⟩, k _ _ _ _ h1 o f (gives_list (.inr rfl) r)⟩⟩
  · obtain ⟨a, vs, rfl, h2, h3⟩ := r.tup_inv
    exact ⟨a, rfl, .inr ⟨⟨vs, h2⟩, k _ _ _ _ h1 o f (gives_tup r)⟩⟩
  · exact h1.elim
end

/-! ### readings of loops -/
theorem forz_ind {g : ZG} {tb : ZS} {E : ZD} (I : Nat → SS → Prop) {ds : List D} {S : SS} (h0 : I 0 S)
    (hs : ∀ i d S, ds[i]? = some d → I i S → ∀ K : SS → Prop, (∀ S', I (i + 1) S' → K S') → g d S fun S1 => tb { nx := K, rt := E.rt, bk := E.nx, ct := K } S1) (hx : ∀ S, I ds.length S → E.nx S) : forz g tb ds E S := by
  have key : ∀ (n i : Nat) (S : SS), n = ds.length - i → i ≤ ds.length → I i S → forz g tb (ds.drop i) E S := by
    intro n
    induction n with
    | zero =>
      intro i S hn hi h
      have : i = ds.length := by omega
      rw [this, List.drop_length]
      exact hx S (this ▸ h)
    | succ n ih =>
      intro i S hn hi h
      have hd : ds[i]? = some ds[i] := List.getElem?_eq_getElem (by omega)
      rw [drop_at hd]
      exact hs i _ S hd h _ fun S' h' => ih (i + 1) S' (by omega) (by omega) h'
  have := key _ 0 S rfl (Nat.zero_le _) h0
  rwa [List.drop_zero] at this
/-- a comprehension that leaves the state alone -/
theorem lcz_map {vs : List Nat} {g : ZG} {tt : ZT} {te : ZE} (f : D → Option D) (I : SS → Prop) {ds acc : List D} {S : SS} {Q : List D → SS → Prop} (hS : I S) (hn : acc.length + ds.length ≤ sizeLine)
    (hs : ∀ d, d ∈ ds → ∀ S, I S → ∀ (A : D → SS → Prop) (B : SS → Prop), (∀ y S', f d = some y → I S' → A y S') → (∀ S', f d = none → I S' → B S') →
      g d S fun S1 => tt S1 fun b S2 => (b = true → te S2 fun y S3 => A y (wipeS S3 vs)) ∧ (b = false → B (wipeS S2 vs)))
    (hx : ∀ S', I S' → Q (acc ++ ds.filterMap f) S') : lcz vs g tt te ds acc S Q := by
  induction ds generalizing acc S with
  | nil => exact (by simpa using hx S hS : Q acc S)
  | cons d ds ih =>
    have hl : acc.length < sizeLine := by simp at hn; omega
    refine hs d (by simp) S hS (fun y S3 => acc.length < sizeLine ∧ lcz vs g tt te ds (acc ++ [y]) S3 Q) (fun S2 => lcz vs g tt te ds acc S2 Q) (fun y S' e hI => ⟨hl, ?_⟩) (fun S' e hI => ?_)
    · refine ih hI (by simp at hn ⊢; omega) (fun d hd => hs d (by simp [hd])) fun S'' h'' => ?_
      have := hx S'' h''
      rw [List.filterMap_cons, e] at this
      simpa using this
    · refine ih hI (by simp at hn ⊢; omega) (fun d hd => hs d (by simp [hd])) fun S'' h'' => ?_
      have := hx S'' h''
      rw [List.filterMap_cons, e] at this
      simpa using this
theorem bagL {P : Zc → Prop} {js : List Nat} (h : js.all (· != 0) = true := by decide) : ∀ Z, P Z → ∀ i ∈ js, Z.bag = none ∨ i ≠ 0 := fun Z _ i hi => .inr (by have := List.all_eq_true.mp h i hi; simpa using this)
theorem NoBag.l {P : Zc → Prop} (h : NoBag P) {js : List Nat} : ∀ Z, P Z → ∀ i ∈ js, Z.bag = none ∨ i ≠ 0 := fun Z hZ i _ => .inl (h Z hZ)
end Zz
namespace Zz
def D.isI : D → Bool
  | .int _ => true
  | _ => false
end Zz
namespace Zz
/-- a claim between two statements -/
theorem zSeq_cut {t u : ZS} {E : ZD} {S : SS} (I : SS → Prop) (h1 : ∀ K : SS → Prop, (∀ S', I S' → K S') → t { nx := K, rt := E.rt, bk := E.bk, ct := E.ct } S) (h2 : ∀ S', I S' → u E S') : zSeq t u E S := h1 (u E) h2
end Zz

/-! The pure layer: plain data, shown and compared. -/
namespace Zz
open PySem PySem.Spec PyProof.Rows L2
mutual
/-- plain data: ints of up to 200 digits, short texts, lists and tuples of such -/
def D.gd : D → Bool
  | .non => true
  | .int i => decide (i.natAbs < 10 ^ 200)
  | .str s => PyData.strOk s && s.cps.toList.all fun c => decide (c < 16 ^ 8)
  | .lst xs => D.gds xs
  | .tup xs => D.gds xs
  | _ => false
def D.gds : List D → Bool
  | [] => true
  | x :: xs => x.gd && D.gds xs
end
mutual
def D.dep : D → Nat
  | .lst xs => D.deps xs + 1
  | .tup xs => D.deps xs + 1
  | _ => 0
def D.deps : List D → Nat
  | [] => 0
  | x :: xs => max x.dep (D.deps xs)
end
mutual
def D.bk : D → Nat
  | .str s => s.cps.size
  | .lst xs => D.bks xs
  | .tup xs => D.bks xs
  | _ => 0
def D.bks : List D → Nat
  | [] => 0
  | x :: xs => x.bk + 1 + D.bks xs
end
theorem gds_iff {xs : List D} : D.gds xs = true ↔ ∀ x ∈ xs, x.gd = true := by
  induction xs with
  | nil => simp [D.gds]
  | cons x xs ih => simp [D.gds, ih]
theorem deps_le {xs : List D} {n : Nat} (h : ∀ x ∈ xs, x.dep ≤ n) : D.deps xs ≤ n := by
  induction xs with
  | nil => simp [D.deps]
  | cons x xs ih =>
    have a := h x List.mem_cons_self
    have b := ih fun y hy => h y (List.mem_cons_of_mem _ hy)
    simp only [D.deps]
    omega
theorem bks_le {xs : List D} {n : Nat} (h : ∀ x ∈ xs, x.bk ≤ n) : D.bks xs ≤ (n + 1) * xs.length := by
  induction xs with
  | nil => simp [D.bks]
  | cons x xs ih =>
    have a := h x List.mem_cons_self
    have b := ih fun y hy => h y (List.mem_cons_of_mem _ hy)
    simp only [D.bks, List.length_cons, Nat.mul_add]
    omega
mutual
theorem gd_py : ∀ d : D, d.gd = true → ∃ p, d.py = some p ∧ p.canLay0 = true ∧ p.showable = true ∧ p.hasDict = false ∧ p.leavesShort 202 = true ∧ p.depth = d.dep ∧ p.bulk = d.bk
  | .non, _ => ⟨.none, rfl, rfl, rfl, rfl, rfl, rfl, rfl⟩
  | .int i, h => by
    have h := of_decide_eq_true h
    have l : i.natAbs.log2 < 1920 := by
      by_cases e : i.natAbs = 0
      · rw [e]; decide
      · exact (Nat.log2_lt e).mpr (Nat.lt_trans h (by decide))
    refine ⟨.int i, rfl, rfl, by simpa [PyData.showable] using l, rfl, ?_, rfl, rfl⟩
    have e := int_text_length_le10 (k := 200) (by decide) h
    refine decide_eq_true ?_
    show (Str.ofString (toString i)).length ≤ 202
    rw [PySem.ofString_length]
    omega
  | .str s, h => by
    simp only [D.gd, Bool.and_eq_true] at h
    exact ⟨.str s, rfl, by simpa [PyData.canLay0] using h.1, rfl, rfl, by simpa [PyData.leavesShort] using h.2, rfl, rfl⟩
  | .lst xs, h => by
    obtain ⟨ps, h1, h2, h3, h4, h5, h6, h7⟩ := gds_py xs (by simpa [D.gd] using h)
    exact ⟨.list ps, by simp [D.py, h1], by simpa [PyData.canLay0] using h2, by simpa [PyData.showable] using h3, by simpa [PyData.hasDict] using h4, by simpa [PyData.leavesShort] using h5, by simp [PyData.depth, D.dep, h6], by simp [PyData.bulk, D.bk, h7]⟩
  | .tup xs, h => by
    obtain ⟨ps, h1, h2, h3, h4, h5, h6, h7⟩ := gds_py xs (by simpa [D.gd] using h)
    exact ⟨.tuple ps, by simp [D.py, h1], by simpa [PyData.canLay0] using h2, by simpa [PyData.showable] using h3, by simpa [PyData.hasDict] using h4, by simpa [PyData.leavesShort] using h5, by simp [PyData.depth, D.dep, h6], by simp [PyData.bulk, D.bk, h7]⟩
  | .bl _, h => by cases h
  | .fls _, h => by cases h
  | .obj _ _, h => by cases h
  | .dic, h => by cases h
  | .dct _ _, h => by cases h
  | .adr _, h => by cases h
  | .exc _ _, h => by cases h
theorem gds_py : ∀ xs : List D, D.gds xs = true → ∃ ps, D.pys xs = some ps ∧ PyData.canLayAll0 ps = true ∧ PyData.showableAll ps = true ∧ PyData.hasDictAll ps = false ∧ PyData.leavesShortAll 202 ps = true ∧ PyData.depthAll ps = D.deps xs ∧ PyData.bulkAll ps = D.bks xs
  | [], _ => ⟨[], rfl, rfl, rfl, rfl, rfl, rfl, rfl⟩
  | x :: xs, h => by
    simp only [D.gds, Bool.and_eq_true] at h
    obtain ⟨p, g1, g2, g3, g4, g5, g6, g7⟩ := gd_py x h.1
    obtain ⟨ps, h1, h2, h3, h4, h5, h6, h7⟩ := gds_py xs h.2
    exact ⟨p :: ps, by simp [D.pys, g1, h1], by simp [PyData.canLayAll0, g2, h2], by simp [PyData.showableAll, g3, h3], by simp [PyData.hasDictAll, g4, h4], by simp [PyData.leavesShortAll, g5, h5], by simp [PyData.depthAll, D.deps, g6, h6], by simp [PyData.bulkAll, D.bks, g7, h7]⟩
end
mutual
theorem eqv_gd : ∀ (d e : D) (p q : PyData), d.gd = true → e.gd = true → d.py = some p → e.py = some q → (PyData.eqv p q = true ↔ d = e)
  | .non, e, p, q, _, h2, h3, h4 => by
    cases e
    all_goals first
      | (cases h2; done)
      | (simp only [D.py, Option.some.injEq] at h3 h4; subst h3; subst h4; simp [PyData.eqv]; done)
      | (simp only [D.py, Option.some.injEq, Option.map_eq_some_iff] at h3 h4; obtain ⟨_, _, rfl⟩ := h4; subst h3; simp [PyData.eqv]; done)
  | .int i, e, p, q, _, h2, h3, h4 => by
    cases e
    all_goals first
      | (cases h2; done)
      | (simp only [D.py, Option.some.injEq] at h3 h4; subst h3; subst h4; simp [PyData.eqv]; done)
      | (simp only [D.py, Option.some.injEq, Option.map_eq_some_iff] at h3 h4; obtain ⟨_, _, rfl⟩ := h4; subst h3; simp [PyData.eqv]; done)
  | .str i, e, p, q, _, h2, h3, h4 => by
    cases e
    all_goals first
      | (cases h2; done)
      | (simp only [D.py, Option.some.injEq] at h3 h4; subst h3; subst h4; simp [PyData.eqv]; done)
      | (simp only [D.py, Option.some.injEq, Option.map_eq_some_iff] at h3 h4; obtain ⟨_, _, rfl⟩ := h4; subst h3; simp [PyData.eqv]; done)
  | .lst xs, e, p, q, h1, h2, h3, h4 => by
    simp only [D.py, Option.map_eq_some_iff] at h3
    obtain ⟨ps, h3, rfl⟩ := h3
    cases e with
    | lst ys =>
      simp only [D.py, Option.map_eq_some_iff] at h4
      obtain ⟨qs, h4, rfl⟩ := h4
      have := eqvs_gd xs ys ps qs (by simpa [D.gd] using h1) (by simpa [D.gd] using h2) h3 h4
      simp [PyData.eqv, this]
    | _ =>
      first
      | (cases h2; done)
      | (simp only [D.py, Option.some.injEq] at h4; subst h4; simp [PyData.eqv]; done)
      | (simp only [D.py, Option.some.injEq, Option.map_eq_some_iff] at h4; obtain ⟨_, _, rfl⟩ := h4; simp [PyData.eqv]; done)
  | .tup xs, e, p, q, h1, h2, h3, h4 => by
    simp only [D.py, Option.map_eq_some_iff] at h3
    obtain ⟨ps, h3, rfl⟩ := h3
    cases e with
    | tup ys =>
      simp only [D.py, Option.map_eq_some_iff] at h4
      obtain ⟨qs, h4, rfl⟩ := h4
      have := eqvs_gd xs ys ps qs (by simpa [D.gd] using h1) (by simpa [D.gd] using h2) h3 h4
      simp [PyData.eqv, this]
    | _ =>
      first
      | (cases h2; done)
      | (simp only [D.py, Option.some.injEq] at h4; subst h4; simp [PyData.eqv]; done)
      | (simp only [D.py, Option.some.injEq, Option.map_eq_some_iff] at h4; obtain ⟨_, _, rfl⟩ := h4; simp [PyData.eqv]; done)
  | .bl _, _, _, _, h, _, _, _ => by cases h
  | .fls _, _, _, _, h, _, _, _ => by cases h
  | .obj _ _, _, _, _, h, _, _, _ => by cases h
  | .dic, _, _, _, h, _, _, _ => by cases h
  | .dct _ _, _, _, _, h, _, _, _ => by cases h
  | .adr _, _, _, _, h, _, _, _ => by cases h
  | .exc _ _, _, _, _, h, _, _, _ => by cases h
theorem eqvs_gd : ∀ (d e : List D) (p q : List PyData), D.gds d = true → D.gds e = true → D.pys d = some p → D.pys e = some q → (PyData.eqvAll p q = true ↔ d = e)
  | [], [], p, q, _, _, h3, h4 => by
    simp [D.pys] at h3 h4
    subst h3 h4
    simp [PyData.eqvAll]
  | [], y :: ys, p, q, _, _, h3, h4 => by
    simp [D.pys, Option.bind_eq_some_iff, Option.map_eq_some_iff] at h3 h4
    obtain ⟨a, _, b, _, rfl⟩ := h4
    subst h3
    simp [PyData.eqvAll]
  | x :: xs, [], p, q, _, _, h3, h4 => by
    simp [D.pys, Option.bind_eq_some_iff, Option.map_eq_some_iff] at h3 h4
    obtain ⟨a, _, b, _, rfl⟩ := h3
    subst h4
    simp [PyData.eqvAll]
  | x :: xs, y :: ys, p, q, h1, h2, h3, h4 => by
    simp [D.pys, Option.bind_eq_some_iff, Option.map_eq_some_iff] at h3 h4
    obtain ⟨a, g1, b, g2, rfl⟩ := h3
    obtain ⟨a', g3, b', g4, rfl⟩ := h4
    simp only [D.gds, Bool.and_eq_true] at h1 h2
    have e1 := eqv_gd x y a a' h1.1 h2.1 g1 g3
    have e2 := eqvs_gd xs ys b b' h1.2 h2.2 g2 g4
    simp [PyData.eqvAll, e1, e2]
end
theorem fEq_gd {d e : D} {Q : Bool → Prop} (hd : d.gd = true) (he : e.gd = true) (d1 : d.dep ≤ 64) (d2 : e.dep ≤ 64) (ht : d = e → Q true) (hf : d ≠ e → Q false) : fEq d e Q := by
  have key : ∃ p q, d.py = some p ∧ e.py = some q ∧ SeqAt.shaped p = true ∧ SeqAt.shaped q = true ∧ Q (PyData.eqv p q) := by
    obtain ⟨p, g1, g2, _, _, _, g3, _⟩ := gd_py d hd
    obtain ⟨q, k1, k2, _, _, _, k3, _⟩ := gd_py e he
    refine ⟨p, q, g1, k1, by simp [SeqAt.shaped, g2, g3, d1], by simp [SeqAt.shaped, k2, k3, d2], ?_⟩
    have := eqv_gd d e p q hd he g1 k1
    by_cases h : d = e
    · rw [this.mpr h]; exact ht h
    · have : PyData.eqv p q = false := Bool.eq_false_iff.mpr fun z => h (this.mp z)
      rw [this]; exact hf h
  unfold fEq
  split
  · rename_i i j
    by_cases h : i = j
    · subst h; simpa using ht rfl
    · simpa [h] using hf fun z => h (by cases z; rfl)
  · rename_i i j
    rw [seq_eq]
    by_cases h : i = j
    · subst h; simpa using ht rfl
    · simpa [h] using hf fun z => h (by cases z; rfl)
  · cases hd
  · exact ht rfl
  · exact key
theorem fNe_gd {d e : D} {Q : Bool → Prop} (hd : d.gd = true) (he : e.gd = true) (d1 : d.dep ≤ 64) (d2 : e.dep ≤ 64) (ht : d = e → Q false) (hf : d ≠ e → Q true) : fNe d e Q := fEq_gd hd he d1 d2 ht hf
theorem eqP_gd {d e : D} (hd : d.gd = true) (he : e.gd = true) (d1 : d.dep ≤ 64) (d2 : e.dep ≤ 64) : ∃ p q, d.py = some p ∧ e.py = some q ∧ SeqAt.shaped p = true ∧ SeqAt.shaped q = true ∧ (d = e → PyData.eqv p q = true) ∧ (d ≠ e → PyData.eqv p q = false) := by
  obtain ⟨p, g1, g2, _, _, _, g3, _⟩ := gd_py d hd
  obtain ⟨q, k1, k2, _, _, _, k3, _⟩ := gd_py e he
  have := eqv_gd d e p q hd he g1 k1
  exact ⟨p, q, g1, k1, by simp [SeqAt.shaped, g2, g3, d1], by simp [SeqAt.shaped, k2, k3, d2], this.mpr, fun h => Bool.eq_false_iff.mpr fun z => h (this.mp z)⟩
theorem atI_ge {α : Type} {xs : List α} {i : Int} (h0 : 0 ≤ i) : atI xs i = xs[i.toNat]? := by
  unfold atI ixN
  rw [if_pos h0]
  by_cases h : i < xs.length
  · rw [if_pos h]; rfl
  · rw [if_neg h, List.getElem?_eq_none (by omega)]; rfl
theorem atI_end {α : Type} {xs : List α} (h : 0 < xs.length) : atI xs (-1) = xs[xs.length - 1]? := by
  unfold atI ixN
  rw [if_neg (by decide), if_pos (by omega)]
  show xs[((-1 : Int) + xs.length).toNat]? = _
  congr 1
  omega
/-- what repr asks -/
theorem repr_gd {d : D} (hd : d.gd = true) (d1 : d.dep ≤ 60) (hb : d.bk ≤ 50000) : ∃ p, d.py = some p ∧ p.showable = true ∧ p.hasDict = false ∧ p.depth ≤ 60 ∧ p.shown.length ≤ sizeLine := by
  obtain ⟨p, g1, g2, g3, g4, g5, g6, g7⟩ := gd_py d hd
  refine ⟨p, g1, g3, g4, by omega, ?_⟩
  have := PyData.shown_le_bulk 202 (by decide) p g5
  rw [sizeLine_eq]
  omega
theorem gd_ints {ns : List Int} (h : ∀ n ∈ ns, n.natAbs < 10 ^ 200) : D.gds (ns.map .int) = true := gds_iff.mpr fun x hx => by
  obtain ⟨n, h1, rfl⟩ := List.mem_map.mp hx
  exact decide_eq_true (h n h1)
theorem dep_ints (ns : List Int) : D.deps (ns.map .int) = 0 := Nat.le_zero.mp (deps_le fun x hx => by
  obtain ⟨n, h1, rfl⟩ := List.mem_map.mp hx
  exact Nat.le_refl _)
theorem int_inj {ns ms : List Int} (h : ns.map D.int = ms.map D.int) : ns = ms := (List.map_inj_right fun a b e => by cases e; rfl).mp h
end Zz

/-! The pure layer: sorted(set(xs)) of a list of ints, however many. -/
namespace Zz
open PySem PySem.Spec PyProof.Rows L2
/-- the empty set that is filled -/
abbrev setOb (w : World) : Obj := { cls := .type "set", dict := none, data := .set #[] 0 (.fresh 0 0 (!w.params.followText "set-order")) }
section
variable {Pg : Program} {w : World} {A : Around} {E : Value → Shared → Prop} {z : Shared}
set_option maxHeartbeats 3200000 in
theorem set_of_list {q : Addr} {its : Array Value} (ks : List Int) {Q : Value → Shared → Prop} (noExc : A.handled = none) (isL : z.heap.IsList q its) (areInts : IntsAre its.toList ks) (few : ks.length + 1 < scanBound)
    (fin : ∀ (g : Heap) (tk c : Nat), SetR w g z.heap.objs.size (fun j => decide (j ∈ ks)) c → c ≤ ks.length → (∀ b o, z.heap.get? b = some o → g.get? b = some o) → Q (.ref z.heap.objs.size) { z with heap := g, toks := tk }) :
    wpAny (model Pg w) A (call (.type "set") [.ref q]) Q E z := by
  have size_its : its.size = ks.length := by
    have e := IntsAre.length areInts
    rwa [Array.length_toList] at e
  have ⟨mroC, mroT, mroE⟩ := F.called_set.mro
  have madeH := F.called_set.made
  have subS := F.called_set.sub
  refine wpAny_call (codeAny_of_tree (show wpAny _ _ (callAny (.type "set") _) _ _ _ from wpAny_pure ⟨Code.quiet_builtin _ (by decide +kernel), codeAny_builtin F.entry_type_call ?_⟩))
  rw [Around.under_plain (weight_type_call_type "set" [.ref q] []) rfl]
  have notTy := F.called_set.notType
  have canC := F.called_set.canCreate
  have tyC := F.typeCall_set_1 (.ref q)
  repeat (any_goals first | assumption | wp_step)
  refine codeAny_mono (code_set_led1 (.ref q) (E := E) (Q₁ := fun obj z1 => obj = .ref z.heap.objs.size ∧ z1 = { z with heap := z.heap.push (setOb w) }) ⟨rfl, rfl⟩) fun r z1 hr => ?_
  cases r with
  | error e => exact hr
  | ok fl =>
    cases fl with
    | ret obj =>
      obtain ⟨rfl, rfl⟩ := hr
      have atS : (z.heap.push (setOb w)).get? z.heap.objs.size = some (setOb w) := Heap.get?_push_size _ rfl
      have tyS : Shared.TypeIs { z with heap := z.heap.push (setOb w) } (.ref z.heap.objs.size) "set" := ⟨_, atS, rfl⟩
      have lookI := F.called_set.init.lookup
      have bindI := F.called_set.init.bind (.ref z.heap.objs.size)
      repeat (any_goals first | assumption | wp_step)
      refine codeAny_mono (codeAny_call_builtin (R := wants (fun r z2 => r = .none ∧ ∃ g tk c, z2 = { z with heap := g, toks := tk } ∧ SetR w g z.heap.objs.size (fun j => decide (j ∈ ks)) c ∧ c ≤ ks.length ∧ ∀ b o, z.heap.get? b = some o → g.get? b = some o) E) F.called_set.init.plain F.entry_set_init (check_set_init_1 tyS ?_)) fun r2 z2 hr2 => ?_
      · obtain ⟨⟨ocls, odict, odata, oslots⟩, at1, cl1, n1, dt1⟩ := isL
        simp only at cl1 dt1
        subst cl1 dt1
        have at2 : (z.heap.push (setOb w)).get? q = some { cls := .type "list", dict := odict, data := .seq its n1, slots := oslots } := Heap.get?_push_of_some _ at1
        have sub1 := F.sub_list_set
        have sub2 := F.sub_list_frozenset
        have noD : (Value.type "list" == Value.type "dict") = false := by decide
        have isL2 : (z.heap.push (setOb w)).IsList q its := ⟨_, at2, rfl, n1, rfl⟩
        unfold Builtin.«set.__init__» noKeywords Builtin.Frozenset.updateFrom
        generalize ePI : pyIter = PI
        wp_walk
        subst ePI
        refine wpAny_pyIter_list isL2 (wpAny_bind (wpAny_runValue ?_))
        have lt1 : q < z.heap.objs.size := Heap.lt_size at1
        have noExc3 : A.in1.in1.in1.handled = none := by simp [noExc]
        have ne1 : q ≠ (z.heap.push (setOb w)).objs.size := by
          rw [Heap.size_push]
          exact Nat.ne_of_lt (Nat.lt_succ_of_lt lt1)
        have notIn : z.heap.objs.size ∉ [(z.heap.push (setOb w)).objs.size, q] := fun y => by
          rw [Heap.size_push] at y
          rcases List.mem_cons.mp y with y | y
          · exact Nat.ne_of_lt (Nat.lt_succ_self _) y
          · exact Nat.ne_of_gt lt1 (List.mem_singleton.mp y)
        have vals : ∀ (i : Nat) (v : Value), its[i]? = some v → ∃ k t, ks[i]? = some k ∧ v = .int k t := fun i v hv => by
          have hi : i < ks.length := by rw [← size_its]; exact (Array.getElem?_eq_some_iff.mp hv).1
          obtain ⟨t, e⟩ := PyProof.Rows.IntsAre.int_at areInts i v (by rw [Array.getElem?_toList]; exact hv)
          exact ⟨ks[i], t, List.getElem?_eq_getElem hi, by rw [e, List.getD_eq_getElem?_getD, List.getElem?_eq_getElem hi] <;> rfl⟩
        refine set_update_ints ((Walks.list noExc3 _ q ne1 its).toS) z.heap.objs.size notIn ks size_its few vals (its.size - 0) 0 _ (by omega) (Nat.zero_le _) ⟨⟨_, Heap.get?_push_size _ rfl, rfl, rfl⟩, isL2.push _⟩ ?start ?done
        case start => exact ⟨0, Nat.le_refl 0, setR_new_at (Heap.get?_push_of_some _ atS)⟩
        case done =>
          rintro ⟨g, g2, d2, tk2, os2⟩ c2 mv hc2 hS2
          have eg : g2 = z.gens := mv.gens
          have ed : d2 = z.drawn := mv.drawn
          have eo : os2 = z.os := mv.os
          subst eg ed eo
          refine show wpAny _ _ _ _ _ _ from wpAny_pure (show wpAny _ _ (ret Value.none) _ _ _ from ?_)
          rw [size_its] at hc2
          refine wpAny_pure ⟨rfl, g, tk2, c2, rfl, hS2, hc2, fun b o e => ?_⟩
          have lt2 : b < z.heap.objs.size := Heap.lt_size e
          refine mv.heap b o (fun y => ?_) (Heap.get?_push_of_some _ (Heap.get?_push_of_some _ e))
          rw [Heap.size_push] at y
          rcases List.mem_cons.mp y with y | y
          · exact Nat.ne_of_lt lt2 y
          · exact Nat.ne_of_lt (Nat.lt_succ_of_lt lt2) (List.mem_singleton.mp y)
      · cases r2 with
        | error e => exact hr2
        | ok fl2 =>
          cases fl2 with
          | ret r =>
            obtain ⟨rfl, g, tk, c, rfl, k1, k2, k3⟩ := hr2
            repeat (any_goals first | assumption | wp_step)
            exact fin _ _ _ k1 k2 k3
          | _ => exact hr2.elim
    | _ => exact hr.elim
end
section
variable {X : Cx}
/-- set(xs) of ints -/
def rSetLI (K : PySem.W.Frag) (w : World) : List V → Hp → VK → Prop := fun xs H Q => ∃ (a : Addr) (ks : List Int), xs = [V.ref a] ∧ SqL K H a (ks.map V.int) ∧ ks.length + 1 < scanBound ∧
  ∀ p c, c ≤ ks.length → H p = none → Q (.ref p) (upd H p (SetO w p (fun j => decide (j ∈ ks)) c))
theorem cr_setLI (hc : X.calm = true) : CallR X (.type "set") (rSetLI X.K X.w) := by
  intro pins s σ H xs us Q I r h
  obtain ⟨a, ks, rfl, hs, hn, q⟩ := h
  rw [Vals.ref1 r]
  obtain ⟨its, rv, pl, hz⟩ := I.list hs
  refine set_of_list ks (I.ok.hd hc) pl.isList (by simpa using rv.ints) hn fun g tk c R hcn k => ?_
  exact ⟨.ref s.heap.objs.size, _, I.laid (t' := tk) k (Nat.le_refl _) (setO_new R), rfl, q _ c hcn (I.hok.fresh (Nat.le_refl _))⟩
/-- sorted(a set of ints) -/
def rSortedSN (w : World) : List V → Hp → VK → Prop := fun vs H Q => ∃ (a : Addr) (S : Int → Bool) (n : Nat), vs = [V.ref a] ∧ H a = some (SetO w a S n) ∧
  ∀ (ns : List Int) (p : Addr), ns.Pairwise (· < ·) → (∀ k : Int, k ∈ ns ↔ S k = true) → H p = none → Q (.ref p) (upd H p (.lst (ns.map V.int)))
theorem cr_sortedSN (hc : X.calm = true) : CallR X (.builtin "sorted") (rSortedSN X.w) := by
  intro pins s σ H vs us Q I r h
  obtain ⟨a, S, n, rfl, ha, q⟩ := h
  have R := setO_get I ha
  rw [Vals.ref1 r]
  obtain ⟨o, es, ep, t, ho, hex, hd, g, nd, hm, hb, hf, hn, hr, hl⟩ := R
  refine Calls.call_function_entry PyProof.Rows.kind_sorted PyProof.Rows.plain_sorted PyProof.Rows.entry_sorted (PyProof.Rows.args_sorted1 _) ?_
  unfold Builtin.«sorted»
  refine wpAny_bind (m := checkCount "sorted" 1 1 _) (wpAny_pure (wpAny_bind (collect_set (A := X.A.in1) (I.ok.hd hc) ⟨o, ho, hex.1, hd⟩ hf hb hr hl fun s1 vs k1 hz g1 o1 pm => ?_)))
  have hI : IntsAre vs (vs.map Builtin.Re.reRawOf) := L2.ints_of vs fun v hv => by
    obtain ⟨e, he, y⟩ := List.mem_map.mp (pm.mem_iff.mp hv)
    obtain ⟨k, tk, h1, _⟩ := g e he
    exact ⟨k, tk, y ▸ h1⟩
  have pk : (vs.map Builtin.Re.reRawOf).Perm (es.toList.map keyOf) := by
    have y := pm.map Builtin.Re.reRawOf
    rwa [List.map_map] at y
  have few : vs.length ≤ sizeLine := by
    rw [pm.length_eq, List.length_map, Array.length_toList, sizeLine_eq]
    unfold scanBound at hb
    omega
  refine wpAny_bind (wpAny_newList ?_ few)
  have atL : (s1.heap.push (seqObj "list" vs.toArray 0)).get? s1.heap.objs.size = some (seqObj "list" vs.toArray 0) := Heap.get?_push_size _ rfl
  refine wpAny_bind (wpAny_holding (wpAny_call_entry PyProof.Rows.slot_list_sort ⟨_, atL, rfl⟩ PyProof.Rows.entry_list_sort (SrtO.list_sort_ord SrtO.swo_int atL few (fun h2 => SrtO.ints_sortable hI h2) fun out h1 h2 => ⟨_, rfl, ?_⟩) (PyProof.Rows.args_list_sort _)))
  obtain ⟨y1, y2, y3⟩ := SrtO.ints_out hI h1 h2
  obtain ⟨ep2, atO⟩ := PyProof.Rows.sortedHeap_at (vs := vs) (out := out.toArray) atL
  have pn := y2.trans pk
  have old : ∀ b u, s.heap.get? b = some u → (sortedHeap (s1.heap.push (seqObj "list" vs.toArray 0)) s1.heap.objs.size vs out.toArray).get? b = some u := fun b u e => by
    have y := k1 b u e
    have lt := Heap.lt_size y
    rw [sortedHeap_old (Nat.ne_of_lt lt) (by rw [Heap.size_push]; exact Nat.lt_succ_of_lt lt)]
    exact Heap.get?_push_of_some _ y
  have nn : H s1.heap.objs.size = none := I.hok.fresh hz
  have len : ((out.map SrtO.iv).map V.int).length ≤ sizeLine := by
    rw [List.length_map, y2.length_eq, List.length_map]
    exact few
  have ok : ObjOk X.prog X.w (upd H s1.heap.objs.size (.lst ((out.map SrtO.iv).map V.int))) (sortedHeap (s1.heap.push (seqObj "list" vs.toArray 0)) s1.heap.objs.size vs out.toArray) s1.heap.objs.size (.lst ((out.map SrtO.iv).map V.int)) := ⟨len, out, ep2, vals_of_ints y1, atO⟩
  have J : Inv X pins σ (upd H s1.heap.objs.size (.lst ((out.map SrtO.iv).map V.int))) { s with heap := sortedHeap (s1.heap.push (seqObj "list" vs.toArray 0)) s1.heap.objs.size vs out.toArray, gens := s1.gens, drawn := s1.drawn, toks := s1.toks } :=
    I.call (ch := []) (Un.laid old hz nn) (I.hok.laid old hz ok) (by rw [g1]; exact I.bare) (fun _ y => nomatch y)
  have lt3 : (out.map SrtO.iv).Pairwise (· < ·) := L2.lt_of_le_nodup _ y3 (pn.nodup_iff.mpr nd)
  have fin := q _ s1.heap.objs.size lt3 (fun k => by rw [pn.mem_iff, ← hm k]) nn
  obtain ⟨h1', g1', d1', t1', o1'⟩ := s1
  cases (show o1' = s.os from o1)
  exact wpAny_pure ⟨_, rfl, .ref _, _, J, rfl, fin⟩
end
section
variable {X : Cx} {P : Zc → Prop} {e : Expr} {te : ZE} {p p2 pos pos2 : Pos}
def zSortSet (te : ZE) : ZA := fun S Q => te S fun d S1 => match d with
  | .lst xs => ∃ ns, D.ints xs = some ns ∧ ns.length ≤ 4000 ∧ ∀ ms : List Int, ms.Pairwise (· < ·) → (∀ k, k ∈ ms ↔ k ∈ ns) → Q (ms.map .int) S1
  | _ => False
theorem reps_of_ints {K : PySem.W.Frag} {mg : Str → Option Value} {H : Hp} {av : Addr → Prop} : ∀ ns : List Int, Reps K mg H av (ns.map V.int) (ns.map D.int)
  | [] => .nil
  | n :: ns => .cons (.int n) (reps_of_ints ns)
theorem pf_sortSet {k : Nat} (C : Cd k X P) (hg : Gl X "sorted") (hm : X.mg "sorted" = none) (hg2 : Gl X "set") (hm2 : X.mg "set" = none) (ha : PD X P e te) (he : starEach [e] X.env = (false, eval e X.env) :: starEach [] X.env := by rfl)
    (he2 : starEach [.Call (.Name "set" p2) [e] [] pos2] X.env = (false, eval (.Call (.Name "set" p2) [e] [] pos2) X.env) :: starEach [] X.env := by rfl) (hpl : (backTo pos (starEach [] X.env)).any (·.1) = false := by rfl) (hpl2 : (backTo pos2 (starEach [] X.env)).any (·.1) = false := by rfl) :
    PF X P (.Call (.Name "sorted" p) [.Call (.Name "set" p2) [e] [] pos2] [] pos) (zSortSet te) := by
  obtain ⟨t0, p0, q0⟩ := ha.ex
  refine ⟨_, pe_callB (cr_sortedSN C.calm) hg hm (by decide +kernel) (pa_cons (pe_callTy (cr_setLI C.calm) hg2 hm2 (by decide +kernel) (pa_cons p0 pa_nil he) (by decide) (by decide) he hpl2) pa_nil he2) (by decide) (by decide) he2 hpl, fun Z hZ S σ H Qz Q ok h k => ?_⟩
  refine q0 Z hZ S σ H _ _ ok h fun d S1 v H1 h1 o1 f1 r1 => ?_
  split at h1
  · obtain ⟨ns, e1, e2, h2⟩ := h1
    obtain rfl := Zz.ints_of e1
    obtain ⟨a, us, rfl, h3, h4⟩ := r1.lst_inv
    obtain rfl := h4.ints
    refine ⟨a, ns, rfl, .inl (.inl h3), by unfold scanBound; omega, fun q c _ hq => ?_⟩
    have s : Same H1 (upd H1 q (SetO X.w q (fun j => decide (j ∈ ns)) c)) := Same.upd hq
    refine ⟨q, _, c, rfl, upd_same, fun ms p' hs hi hp' => ?_⟩
    have o2 := o1.same s
    exact fresh_k o2 (f1.trans (.same o1 s)) (reps_of_ints ms) (h2 ms hs fun k => by rw [hi k]; simp) k p' hp'
  · exact h1.elim
end
end Zz

/-! The pure layer: objects that are filled by their __init__ and then only read. -/
namespace Zz
open PySem PySem.Spec PyProof.Rows L2

/-! ### what __init__ does -/
def putFD (f : Str) (v : D) : List (Str × D) → List (Str × D)
  | [] => [(f, v)]
  | (g, x) :: r => if g = f then (g, v) :: r else (g, x) :: putFD f v r
section
variable {K : PySem.W.Frag} {mg : Str → Option Value} {H : Hp} {av : Addr → Prop}
theorem RepF.put {f : Str} {v : V} {d : D} (r : Rep K mg H av v d) : ∀ {vs : List (Str × V)} {fs : List (Str × D)}, RepF K mg H av vs fs → RepF K mg H av (putF f v vs) (putFD f d fs)
  | _, _, .nil => .cons r .nil
  | _, _, .cons (n := n) r' t => by
    unfold putF putFD
    by_cases h : n = f
    · rw [if_pos h, if_pos h]
      exact .cons r t
    · rw [if_neg h, if_neg h]
      exact .cons r' (RepF.put r t)
theorem RepF.length : ∀ {vs : List (Str × V)} {fs : List (Str × D)}, RepF K mg H av vs fs → vs.length = fs.length
  | _, _, .nil => rfl
  | _, _, .cons _ t => by rw [List.length_cons, List.length_cons, RepF.length t]
theorem RepF.lookup {f : Str} : ∀ {vs : List (Str × V)} {fs : List (Str × D)} {d : D}, RepF K mg H av vs fs → fs.lookup f = some d → ∃ v, vs.lookup f = some v ∧ Rep K mg H av v d
  | _, _, _, .nil, e => by cases e
  | _, _, _, .cons (n := n) r t, e => by
    rw [List.lookup_cons] at e ⊢
    cases h : f == n with
    | true => rw [h] at e; cases e; exact ⟨_, rfl, r⟩
    | false => rw [h] at e; exact RepF.lookup t e
end
theorem Frm.repF {X : Cx} {Z : Zc} {S S' : SS} {σ σ' : L2.St} {H H' : Hp} (f : Frm X Z S σ H S' σ' H') : ∀ {vs : List (Str × V)} {fs : List (Str × D)}, RepF X.K X.mg H (avs Z S σ) vs fs → RepF X.K X.mg H' (avs Z S' σ') vs fs
  | _, _, .nil => .nil
  | _, _, .cons r t => .cons (f.rp _ _ r) (f.repF t)
/-- an object apart is written -/
theorem Ok.wrX {X : Cx} {Z : Zc} {S : SS} {σ : L2.St} {H : Hp} {x : Addr} {o u : HO} (ok : Ok X Z S σ H) (hv : Z.av x) (h : H x = some u) (hm : mutb u = true) (h0 : Z.H0 x = none) : Ok X Z S σ (upd H x o) := by
  have k : Carry H (upd H x o) (avs Z S σ) (avs Z S σ) := .write h hm (.inl hv)
  refine ⟨ok.len, ok.nm, ok.gi, ok.sl.carry k (fun i xs a vs h1 h2 e => ?_) (fun i a o h1 e => ?_), ok.inj, ok.own, fun a w e n => ?_, fun a z e => ?_, ok.bag, ok.gow, ok.ginj, ok.gown⟩
  · rw [upd_ne fun z => (ok.own i xs a h1 h2).2 (by rw [z]; exact hv)]
    exact e
  · rw [upd_ne fun z => (ok.gown i a h1).2 (by rw [z]; exact hv)]
    exact e
  · rw [upd_ne fun z => by rw [z, h0] at e; cases e]
    exact ok.ext a w e n
  · by_cases hb : a = x
    · rw [hb, upd_same] at e; cases e
    · rw [upd_ne hb] at e
      exact ok.avd a z e
/-- readings of a body of __init__: at the object x, what follows, slots, fields -/
abbrev ZN := Addr → (List (Str × D) → Prop) → SS → List (Str × D) → Prop
structure PBd (X : Cx) (P : Zc → Prop) (C : Addr) (sts : List Stmt) (t : ZN) : Prop where
  ex : ∃ t0 : TS, PSs X sts t0 ∧ ∀ (Z : Zc), P Z → ∀ (x dx : Addr) (S : SS) (σ : L2.St) (H : Hp) (vfs : List (Str × V)) (fs : List (Str × D)) (Qb : List (Str × D) → Prop) (D0 : Ends), Ok X Z S σ H → Z.av x → Z.H0 x = none → H x = some (.ins C dx vfs) →
    RepF X.K X.mg H (avs Z S σ) vfs fs → t x Qb S fs →
    (∀ S' σ' H' vfs' fs', Qb fs' → Ok X Z S' σ' H' → H' x = some (.ins C dx vfs') → RepF X.K X.mg H' (avs Z S' σ') vfs' fs' → D0.nx σ' H') → t0 D0 σ H
section
variable {X : Cx} {P : Zc → Prop} {C : Addr} {st : Stmt} {sts : List Stmt} {t1 : ZS} {t2 : ZN} {te : ZE}
def zBnil : ZN := fun _ Q _ fs => Q fs
theorem bd_nil : PBd X P C [] zBnil := ⟨_, pss_nil, fun Z hZ x dx S σ H vfs fs Qb D0 ok hv h0 hx rf h k => k S σ H vfs fs h ok hx rf⟩
def zBst (t : ZS) (u : ZN) : ZN := fun x Q S fs => t { nx := fun S1 => u x Q S1 fs, rt := fun _ _ => False } S
theorem bd_st (h1 : PSd X P st t1) (h2 : PBd X P C sts t2) : PBd X P C (st :: sts) (zBst t1 t2) := by
  obtain ⟨t0, p0, q0⟩ := h1.ex
  obtain ⟨u0, p1, q1⟩ := h2.ex
  refine ⟨_, pss_cons p0 p1, fun Z hZ x dx S σ H vfs fs Qb D0 ok hv h0 hx rf h k => q0 Z hZ S σ H _ _ ok h ⟨fun S' σ' H' h' o f => ?_, fun _ _ _ _ _ z _ _ _ => z.elim, fun _ _ _ z _ _ => z.elim, fun _ _ _ z _ _ => z.elim⟩⟩
  exact q1 Z hZ x dx S' σ' H' vfs fs Qb D0 o hv h0 (by rw [f.pr x hv]; exact hx) (f.repF rf) h' k
def zBput (f : Str) (te : ZE) (u : ZN) : ZN := fun x Q S fs => te S fun d S1 => S1[0]? = some (.sh (.adr x)) ∧ fs.length < 1000 ∧ u x Q S1 (putFD f d fs)
theorem bd_put {f self : Str} {e : Expr} {p1 p2 pos : Pos} (c : Cls X.K C) (n : NoAttr X.K C f) (he : PD X P e te) (h2 : PBd X P C sts t2) (hN : X.N[0]? = some self := by rfl) (hv : Vis X.env.scope self := by first | exact Or.inl rfl | exact Or.inr (Or.inl rfl) | exact Or.inr (Or.inr rfl)) (hd : (self == ("__debug__" : Str)) = false := by decide)
    (hcd : (self == ("__classdict__" : Str)) = false := by decide) (hs : swapsWith e (some (.Attribute (.Name self p1) f p2)) pos.line X.env = pure false := by rfl) : PBd X P C (.Assign [.Attribute (.Name self p1) f p2] e pos :: sts) (zBput f te t2) := by
  obtain ⟨t0, p0, q0⟩ := he.ex
  obtain ⟨u0, p1', q1⟩ := h2.ex
  refine ⟨_, pss_cons (ps_fld (pe_var (i := 0) hN hv hd hcd) p0 hs) p1', fun Z hZ x dx S σ H vfs fs Qb D0 ok hav h0 hx rf h k => q0 Z hZ S σ H _ _ ok h fun d S1 v H1 h1 o1 f1 r1 => ?_⟩
  obtain ⟨g1, g2, g3⟩ := h1
  obtain ⟨w, g4, g5⟩ := o1.sl.sh 0 _ g1
  have ew : w = .ref x := by cases g5; rfl
  subst ew
  have hx1 : H1 x = some (.ins C dx vfs) := by rw [f1.pr x hav]; exact hx
  have rf1 := f1.repF rf
  refine ⟨_, g4, x, C, dx, vfs, rfl, hx1, c, n, by rw [rf1.length]; exact g2, ?_⟩
  have kc : Carry H1 (upd H1 x (.ins C dx (putF f v vfs))) (avs Z S1 σ) (avs Z S1 σ) := .write hx1 rfl (.inl hav)
  exact q1 Z hZ x dx S1 σ _ _ _ Qb D0 (o1.wrX hav hx1 rfl h0) hav h0 upd_same ((rf1.put r1).carry kc) g3 k
end

/-! ### its promise -/
def spI (K : PySem.W.Frag) (mg : Str → Option Value) (c : Str) (sp : ZSp) : Sp := fun vs H Q E => ∃ (x C dx : Addr) (av : Addr → Prop) (vr : List V) (ds : List D) (Qz : Sl → Prop) (Ez : Str → Option (Str × D) → Prop),
  vs = .ref x :: vr ∧ H x = some (.ins C dx []) ∧ mg c = some (.ref C) ∧ Reps K mg H (fun a => av a ∨ a = x) vr ds ∧ (∀ a, av a → H a ≠ none) ∧ sp ds Qz Ez ∧
  (∀ fs vfs H', Qz (.sh (.obj c fs)) → (∀ a o, H a = some o → a ≠ x → H' a = some o) → H' x = some (.ins C dx vfs) → RepF K mg H' (fun a => av a ∨ a = x) vfs fs → Q .non H') ∧
  (∀ cc f cls dd H', Ez cc f → (∀ a o, H a = some o → a ≠ x → H' a = some o) → mg cc = some cls → XF K mg av dd f H' → E cls dd H')
section
variable {Pg : Program} {w : World} {K : PySem.W.Frag} {mg : Str → Option Value} {base : Heap} {k : Nat} {x qual c : Str} {st : Stmt} {f : Addr} {fd : FuncData} {N ps : List Str}
theorem okI {sp : ZSp} {C : Addr} {t : (Str → Option (Str × D) → Prop) → ZN} (F : Fun K x qual st f fd) (S : FnScope N ps (defScope st)) (hC : mg c = some (.ref C)) (hlen : ∀ ds Qz Ez, sp ds Qz Ez → ds.length + 1 = ps.length)
    (hbody : ∀ (cdv : Value) (A : Around) (outer : List Env) (s : Shared) (H : Hp) (E : XK) (Z0 : Zc), NoBag (Sup Z0) → Cd k (cxOf (L2.CX Pg w) Pg w K mg base N qual (defScope st) f cdv A outer s H E) (Sup Z0) →
      PBd (cxOf (L2.CX Pg w) Pg w K mg base N qual (defScope st) f cdv A outer s H E) (Sup Z0) C (defBody st) (t Z0.ez))
    (hread : ∀ x ds Qz Ez, sp ds Qz Ez → t Ez x (fun fs => Qz (.sh (.obj c fs))) (startS N (.adr x :: ds)) []) : FnP Pg w K mg base (k + 1) f fd ps (spI K mg c sp) := by
  refine fnp_of F S (fun vs H Q E h => ?_) (fun cdv A outer s H vs Q E hr hgd hbs h => ?_)
  · obtain ⟨x, C, dx, av, vr, ds, Qz, Ez, rfl, _, _, r, _, h1, _⟩ := h
    rw [List.length_cons, r.length]
    exact hlen ds Qz Ez h1
  · obtain ⟨x, C', dx, av, vr, ds, Qz, Ez, rfl, hx, hc, r, hav, h1, h3, h4⟩ := h
    obtain rfl : C = C' := by rw [hC] at hc; cases hc; rfl
    let Z0 : Zc := ⟨fun a => if a = x then none else H a, fun a => av a ∨ a = x, none, Ez⟩
    have z0 : ∀ {a o}, H a = some o → a ≠ x → Z0.H0 a = some o := fun {a o} e n => by
      show (if a = x then none else H a) = some o
      rw [if_neg n]; exact e
    have Cc : Cd k (cxOf (L2.CX Pg w) Pg w K mg base N qual (defScope st) f cdv A outer s H E) (Sup Z0) := by
      refine ⟨hr, hgd, rfl, S.nd, passes_of rfl, (takes_of rfl rfl rfl rfl).imp fun cls dd σ H' q => ?_, fun Z p ⟨z1, z2, z3, z4⟩ => ⟨z1, z2, z3, fun a z => .inl (z4 a z)⟩⟩
      obtain ⟨Z, ⟨z1, z2, z3, z4⟩, cc, g, q1, q2, q3, q4⟩ := q
      rw [z3] at q1
      refine h4 cc g cls dd H' q1 (fun a o e n => q4 a o (by rw [z1]; exact z0 e n) (by rw [z2]; intro z; cases z)) q2 ?_
      unfold XF at q3 ⊢
      split at q3
      · trivial
      · obtain ⟨v, y1, y2⟩ := q3
        exact ⟨v, y1, y2.carry (.same (Same.refl H') fun a z => z4 a (.inl z))⟩
      · exact q3.elim
    obtain ⟨t0, p0, q0⟩ := (hbody cdv A outer s H E Z0 (fun Z e => e.2.1) Cc).ex
    have hav' : ∀ a, (av a ∨ a = x) → H a ≠ none := fun a z => z.elim (hav a) fun e => by rw [e, hx]; simp
    have ok0 : Ok (cxOf (L2.CX Pg w) Pg w K mg base N qual (defScope st) f cdv A outer s H E) Z0 (startS N (.adr x :: ds)) (start N (.ref x :: vr)) H := by
      have o := ok_start (N := N) (X := cxOf (L2.CX Pg w) Pg w K mg base N qual (defScope st) f cdv A outer s H E) (ez := Ez) (Reps.cons (Rep.adr x) r) hav'
      refine ⟨o.len, o.nm, o.gi, o.sl, o.inj, fun i xs a e1 e2 => (startS_ow e1).elim, fun a u e n => ?_, o.avd, fun b e => (by cases e), o.gow, o.ginj, fun i a h => (startS_hg h).elim⟩
      have e' : (if a = x then none else H a) = some u := e
      split at e'
      · cases e'
      · exact e'
    refine ⟨t0, p0, q0 Z0 Sup.refl x dx _ _ H [] [] _ _ ok0 (.inr rfl) (if_pos rfl) hx .nil (hread x ds Qz Ez h1) fun S' σ' H' vfs' fs' q o e rf => ?_⟩
    exact h3 fs' vfs' H' q (fun a u ea n => o.ext a u (z0 ea n) (by intro z; cases z)) e (rf.carry (.same (Same.refl H') fun a z => .inl z))
end

/-! ### C(..) -/
theorem under_guards {A : Around} {C : Addr} {us : List Value} {kw : List (Str × Value)} : (A.under (.builtin "type.__call__" ⟨.ref C :: us, kw⟩)).guards = A.guards := by
  first | rfl | simp [Around.under, Code.weight, Code.isCreation, Code.isGuard, Code.isCaller, Code.frames, Code.isFrame, guardIds]
section
variable {X : Cx} {P : Zc → Prop} {k : Nat} {f C : Addr} {fd : FuncData} {ps : List Str} {sp : Sp} {E : XK} {x : Str} {p pos : Pos} {e : Expr} {es : List Expr} {t : TA} {ta : ZA}
theorem run_makeP {pins : List (Addr × Obj)} {σ : L2.St} {H : Hp} {s : Shared} {Q : VK} {us : List Value} {vs : List V} (M : Mk X.K C f) (F : FnP X.prog X.w X.K X.mg X.base k f fd ps sp) (hr : Room (k + 1) X.A) (hgd : X.A.guards = some []) (hb : Binds X.K fd ps [])
    (hx : Passes (L2.CX X.prog X.w) X E) (I : Inv X pins σ H s) (r : Vals vs us)
    (h : ∀ x dx, H x = none → H dx = none → dx ≠ x → sp (.ref x :: vs) (upd (upd H dx (.own x)) x (.ins C dx [])) (fun v H2 => v = .non ∧ Q (.ref x) H2) E) :
    wpAny (model X.prog X.w) X.A (call (.ref C) us) (EP X pins σ Q) X.xe s := by
  have q := h (s.heap.objs.size + 1) s.heap.objs.size (I.hok.fresh (Nat.le_succ _)) (I.hok.fresh (Nat.le_refl _)) (Nat.ne_of_lt (Nat.lt_succ_self _))
  have J := Inv.made (C := C) I
  have rr : Vals (V.ref (s.heap.objs.size + 1) :: vs) (Value.ref (s.heap.objs.size + 1) :: us) := .cons rfl r
  have hl : (Value.ref (s.heap.objs.size + 1) :: us).length = ps.length := by
    rw [← rr.length]
    exact F.len _ _ _ _ q
  have bd := hb _ (Value.ref (s.heap.objs.size + 1) :: us) J.kIn (by rw [List.append_nil]; exact hl)
  rw [List.append_nil] at bd
  refine wpAny_call (make_map (f := f) I.kIn M.makes M.init (beq_iff_eq.mp M.fn) (codeAny_mono (F.run _ X.stack _ _ ⟨Value.ref (s.heap.objs.size + 1) :: us, []⟩ _ _ _ E (hr.make C us []) (by rw [under_guards]; exact hgd) (J.env0.make C us []) bd rr q) fun res z hz => ?_))
  cases res with
  | error er => exact hx pins σ _ _ er z J hz
  | ok fl =>
    cases fl with
    | ret u =>
      obtain ⟨v, H', J2, rv, ev, q3⟩ := J.after hz
      subst ev
      exact ⟨rv, V.ref (s.heap.objs.size + 1), H', J2, rfl, q3⟩
    | _ => exact hz.elim
theorem pe_makeP (M : Mk X.K C f) (F : FnP X.prog X.w X.K X.mg X.base k f fd ps sp) (hr : Room (k + 1) X.A) (hgd : X.A.guards = some []) (hg : Gl X x) (hm : X.mg x = some (.ref C)) (hb : Binds X.K fd ps []) (hx : Passes (L2.CX X.prog X.w) X E)
    (ha : PA X (e :: es) t) (hdb : (x == ("__debug__" : Str)) = false := by decide) (he : starEach (e :: es) X.env = (false, eval e X.env) :: starEach es X.env := by rfl) (hpl : (backTo pos (starEach es X.env)).any (·.1) = false := by rfl) :
    PE X (.Call (.Name x p) (e :: es) [] pos) (tMake C sp [] E t) := by
  refine ⟨fun pins z σ H Q I h => wpAny_Call_Name_kw (ld_glob I hg hm (PySem.W.callWith_K (h₀ := X.base) I.ok.mod.kin M.kp (thn (ha.run pos pins z σ H _ I h) fun us s1 ⟨vs, H1, I1, r, q⟩ => ⟨I1.kIn, run_makeP M F hr hgd hb hx I1 r fun y dy h1 h2 h3 => ?_⟩) he hpl) hdb)⟩
  have := q y dy h1 h2 h3
  rwa [List.append_nil] at this
end
/-- a class with an __init__ of this promise -/
structure Kl (Pg : Program) (w : World) (K : PySem.W.Frag) (mg : Str → Option Value) (base : Heap) (k : Nat) (c : Str) (sp : ZSp) : Prop where
  ex : ∃ (C f : Addr) (fd : FuncData) (ps : List Str), mg c = some (.ref C) ∧ Mk K C f ∧ Binds K fd ps [] ∧ FnP Pg w K mg base k f fd ps (spI K mg c sp)
section
variable {X : Cx} {P : Zc → Prop} {k j : Nat} {c : Str} {p pos : Pos} {e : Expr} {es : List Expr} {ta : ZA} {sp : ZSp}
theorem dd_make (F : Kl X.prog X.w X.K X.mg X.base j c sp) (C : Cd k X P) (hg : Gl X c) (ez : Str → Option (Str × D) → Prop) (hez : ∀ Z, P Z → ∀ c g, ez c g → Z.ez c g) (ha : PAd X P (e :: es) ta) (hj : j + 1 ≤ k := by decide) (hdb : (c == ("__debug__" : Str)) = false := by decide)
    (he : starEach (e :: es) X.env = (false, eval e X.env) :: starEach es X.env := by rfl) (hpl : (backTo pos (starEach es X.env)).any (·.1) = false := by rfl) : PD X P (.Call (.Name c p) (e :: es) [] pos) (zCall sp ez ta) := by
  obtain ⟨Ca, f, fd, ps, hm, M, hb, F⟩ := F.ex
  obtain ⟨t0, p0, q0⟩ := ha.ex
  refine ⟨_, pe_makeP (E := EP2 X P) M F (Room.mono C.hr hj) C.gd hg hm hb C.hx p0 hdb he hpl, fun Z hZ S σ H Qz Q ok h kq => ?_⟩
  refine q0 Z hZ S σ H _ _ ok h fun ds S1 vs H1 h1 o1 f1 r1 => fun x dx hx hd ne => ?_
  have ax : ¬ avs Z S1 σ x := fun z => o1.avsd x z hx
  have nx : (upd H1 dx (.own x)) x = none := by rw [upd_ne (Ne.symm ne)]; exact hx
  have kc : Carry H1 (upd (upd H1 dx (.own x)) x (.ins Ca dx [])) (avs Z S1 σ) (fun a => avs Z S1 σ a ∨ a = x) :=
    ((Carry.new hd).trans (Carry.new nx)).trans (.same (Same.refl _) fun a z => z.elim (fun z => .inl (.inl z)) .inr)
  have old : ∀ {H' : Hp}, (∀ a o, (upd (upd H1 dx (.own x)) x (.ins Ca dx [])) a = some o → a ≠ x → H' a = some o) → Same H1 H' := fun {H'} s a o ea => by
    have n1 : a ≠ x := fun z => by rw [z, hx] at ea; cases ea
    have n2 : a ≠ dx := fun z => by rw [z, hd] at ea; cases ea
    exact s a o (by rw [upd_ne n1, upd_ne n2]; exact ea) n1
  rw [List.append_nil]
  refine ⟨x, Ca, dx, avs Z S1 σ, vs, ds, _, ez, rfl, upd_same, hm, r1.carry kc, fun a z e => ?_, h1, fun fs vfs H' q s hx' rf => ⟨rfl, ?_⟩, fun cc g cls dd H' q s hc hf => callE hZ o1 hez q (old s) hc hf⟩
  · have n1 : a ≠ x := fun y => ax (y ▸ z)
    have n2 : a ≠ dx := fun y => o1.avsd a z (y ▸ hd)
    rw [upd_ne n1, upd_ne n2] at e
    exact o1.avsd a z e
  · exact kq _ S1 _ H' q (o1.same (old s)) (f1.trans (.same o1 (old s))) (.obj hx' hm ax (rf.carry (.same (Same.refl H') fun a z => .inl z)))
end
end Zz

/-! The pure layer: objects: attributes, properties, isinstance, own ==. -/
namespace Zz
open PySem PySem.Spec PyProof.Rows L2

/-- what is known of an own class -/
structure Kc (K : PySem.W.Frag) (mg : Str → Option Value) (c : Str) : Prop where
  ex : ∃ C, mg c = some (.ref C) ∧ Cls K C ∧ PySem.W.findIn K (.ref C) "__class__" = some (some (.builtin "object.__class__")) ∧ PySem.W.mroIn K C (.type "object") = some true
/-- .. has no such name -/
structure Kn (K : PySem.W.Frag) (mg : Str → Option Value) (c f : Str) : Prop where
  ex : ∃ C, mg c = some (.ref C) ∧ Cls K C ∧ NoAttr K C f
/-- .. has a property, a getter of this promise -/
structure Kp (Pg : Program) (w : World) (K : PySem.W.Frag) (mg : Str → Option Value) (base : Heap) (k : Nat) (c f : Str) (sp : ZSp) : Prop where
  ex : ∃ (C p g : Addr) (fd : FuncData) (ps : List Str), mg c = some (.ref C) ∧ Cls K C ∧ PropOf K C f p g ∧ Binds K fd ps [] ∧ FnP Pg w K mg base k g fd ps (spZ K mg sp)
/-- nothing of this kind leaves -/
abbrev EXno : XK := fun _ _ _ => False
theorem passes_no {Y X : Cx} {CX : CXT} (h : ∀ (pins : List (Addr × Obj)) (σ : L2.St) (H : Hp) (s : Shared) (e : Value) (s' : Shared), Inv X pins σ H s → CX X.stack H s EXno e s' → False) : Passes CX X EXno := fun pins σ H s e s' I c => (h pins σ H s e s' I c).elim
section
variable {X : Cx} {P : Zc → Prop} {e : Expr} {pos : Pos} {va : ZV} {k j : Nat} {c f : Str}
/-- e.f -/
def zFld (c f : Str) (va : ZV) : ZE := fun S Q => va S fun dv S1 => match dv with
  | .sh (.obj c' fs) => c' = c ∧ ∃ d, fs.lookup f = some d ∧ Q d S1
  | _ => False
theorem pd_fld (h : Kn X.K X.mg c f) (ha : PV X P e va) (hb : attributeBase e f X.env (eval e X.env) = eval e X.env := by rfl) : PD X P (.Attribute e f pos) (zFld c f va) := by
  obtain ⟨C, hC, cl, n⟩ := h.ex
  obtain ⟨t0, p0, q0⟩ := ha.ex
  refine ⟨_, pe_fld p0 hb, fun Z hZ S σ H Qz Q ok h k => q0 Z hZ S σ H _ _ ok h fun dv S1 v H1 h1 o1 f1 r1 => ?_⟩
  split at h1
  · rename_i c' fs
    obtain ⟨rfl, d, h2, h3⟩ := h1
    have r1 : Rep X.K X.mg H1 (avs Z S1 σ) v (.obj c' fs) := r1
    cases r1 with
    | @obj a C2 dx _ vs _ e1 e2 e3 e4 =>
      rw [hC] at e2
      cases e2
      obtain ⟨w, e5, e6⟩ := RepF.lookup e4 h2
      exact ⟨a, C, dx, vs, w, rfl, e1, cl, n, e5, k d S1 w H1 h3 o1 f1 e6⟩
  · exact h1.elim
/-- e.f, a property -/
def zProp (c : Str) (sp : ZSp) (va : ZV) : ZE := fun S Q => va S fun dv S1 => match dv with
  | .sh (.obj c' fs) => c' = c ∧ sp [.obj c fs] (slD fun d => Q d S1) (fun _ _ => False)
  | _ => False
theorem prop_get {C p g a dx : Addr} {fs : List (Str × V)} {fd : FuncData} {ps : List Str} {sp : Sp} {pins : List (Addr × Obj)} {σ : L2.St} {H : Hp} {z : Shared} {Q : VK} {b : Bool} {E' : Value → Shared → Prop} (I : Inv X pins σ H z) (ea : H a = some (.ins C dx fs)) (cl : Cls X.K C) (hp : PropOf X.K C f p g)
    (F : FnP X.prog X.w X.K X.mg X.base k g fd ps sp) (hr : Room (k + 1) X.A) (hgd : X.A.guards = some []) (hb : Binds X.K fd ps []) (h : sp [.ref a] H Q EXno) :
    wpAny (model X.prog X.w) X.A (getAttr (.ref a) f b) (EP X pins σ Q) E' z := by
  obtain ⟨mA, O, _, _, _, _⟩ := ins_get I.hok ea
  obtain ⟨od, J, _⟩ := O.look
  obtain ⟨more, hrec⟩ := hp.rec_
  have I1 := I.tok (z.toks + 1)
  have hl : [Value.ref a].length = ps.length := F.len _ _ _ _ h
  have isC : (PySem.W.clsIn X.K C).isSome = true := by
    obtain ⟨cd, y, _⟩ := PySem.W.any_some cl.hd
    rw [y] <;> rfl
  have bd := hb { z with toks := z.toks + 1 } [.ref a] I1.kIn (by rw [List.append_nil]; exact hl)
  rw [List.append_nil] at bd
  refine PySem.W.get_bind I.kIn J (PySem.W.plainGet_of (cl.get f)).1 (PySem.W.findObj_data isC hp.at_ hp.get hp.tak) (PySem.W.plainGet_of (cl.get f)).2 (wpAny_call (PySem.W.prop_get (s := { z with toks := z.toks + 1 }) I.kIn hrec (codeAny_mono (F.run X.A.in1 X.stack _ H ⟨[.ref a], []⟩ [.ref a] [.ref a] Q EXno hr.in1 hgd I1.env0.in1 bd (.cons rfl .nil) h) fun res y hq => ?_)))
  cases res with
  | error er =>
    obtain ⟨_, _, _, _, _, _, _, _, _, _, _, _, y⟩ := hq
    exact y.elim
  | ok fl =>
    cases fl with
    | ret u =>
      obtain ⟨v, H', I3, rv, q3⟩ := I1.after hq
      show wpAny _ _ (handedOut u) _ _ _
      rw [PySem.W.handedOut_of (handed_of rv)]
      exact wpAny_pure ⟨v, H', I3, rv, q3⟩
    | _ => exact hq.elim
/-- a getter's result as data or a new list -/
theorem pd_prop {sp : ZSp} (h : Kp X.prog X.w X.K X.mg X.base j c f sp) (C : Cd k X P) (ha : PV X P e va) (hj : j + 1 ≤ k := by decide) (hb : attributeBase e f X.env (eval e X.env) = eval e X.env := by rfl) : PD X P (.Attribute e f pos) (zProp c sp va) := by
  obtain ⟨Ca, p, g, fd, ps, hC, cl, hp, bd, F⟩ := h.ex
  obtain ⟨t0, p0, q0⟩ := ha.ex
  refine ⟨fun σ H Q => t0 σ H fun x H1 => ∃ a dx fs, x = .ref a ∧ H1 a = some (.ins Ca dx fs) ∧ spZ X.K X.mg sp [.ref a] H1 Q EXno, ⟨fun pins s σ H Q I h => ?_⟩, fun Z hZ S σ H Qz Q ok h kq => q0 Z hZ S σ H _ _ ok h fun dv S1 v H1 h1 o1 f1 r1 => ?_⟩
  · refine attr_of hb (thn (p0.run pins s σ H _ I h) fun u s1 ⟨x, H1, I1, rx, a, dx, fs, ex, ea, q⟩ => ?_)
    subst ex
    obtain rfl : u = Value.ref a := rx
    exact prop_get I1 ea cl hp F (Room.mono C.hr hj) C.gd bd q
  · split at h1
    · rename_i c' fs
      obtain ⟨rfl, h2⟩ := h1
      have r1 : Rep X.K X.mg H1 (avs Z S1 σ) v (.obj c' fs) := r1
      cases r1 with
      | @obj a C2 dx _ vs _ e1 e2 e3 e4 =>
        rw [hC] at e2
        cases e2
        refine ⟨a, dx, vs, rfl, e1, avs Z S1 σ, _, _, _, .cons (.obj e1 hC e3 e4) .nil, h2, o1.avsd, fun res v H' q s r => ?_, fun _ _ _ _ _ y _ _ _ => y.elim⟩
        cases res with
        | sh d => exact kq d S1 v H' q (o1.same s) (f1.trans (.same o1 s)) r
        | ow xs =>
          obtain ⟨b, us, rfl, y1, y2, y3⟩ := r
          exact kq _ S1 _ H' q (o1.same s) (f1.trans (.same o1 s)) (CRel.fresh o1 s y1 y2 y3).1.rep
        | un => exact r.elim
        | gh _ _ => exact r.elim
    · exact h1.elim
end

/-! ### isinstance with an own class -/
structure KisO (K : PySem.W.Frag) (mg : Str → Option Value) (c : Str) (own : List (Str × Bool)) : Prop where
  ex : ∃ C, mg c = some (.ref C) ∧ (∀ n ∈ ["NoneType", "bool", "int", "str", "list", "tuple", "dict"], PySem.W.kitOne K (.type n) (.ref C) = some false) ∧
    (∀ y ∈ own, ∃ C2, mg y.1 = some (.ref C2) ∧ Cls K C2 ∧ PySem.W.findIn K (.ref C2) "__class__" = some (some (.builtin "object.__class__")) ∧ PySem.W.mroIn K C2 (.type "object") = some true ∧ PySem.W.kitOne K (.ref C2) (.ref C) = some y.2) ∧
    PySem.W.specialIn K (.builtin "object.__class__") "__get__" = some (some (.builtin "getset_descriptor.__get__")) ∧ PySem.W.takesIn K (.builtin "object.__class__") = some true
def isiO (own : List (Str × Bool)) : D → Option Bool
  | .obj c _ => own.lookup c
  | d => d.ty.map fun _ => false
def zIsiO (own : List (Str × Bool)) (va : ZV) : ZE := fun S Q => va S fun d S1 => ∃ x, asD S1 d = some x ∧ ∃ b, isiO own x = some b ∧ Q (.bl b) S1
theorem lookup_mem {α : Type} : ∀ {own : List (Str × α)} {c : Str} {b : α}, own.lookup c = some b → (c, b) ∈ own
  | (n, y) :: own, c, b, h => by
    rw [List.lookup_cons] at h
    cases e : c == n with
    | true =>
      rw [e] at h
      cases h
      rw [beq_iff_eq.mp e]
      exact List.mem_cons_self
    | false =>
      rw [e] at h
      exact List.mem_cons_of_mem _ (lookup_mem h)
section
variable {X : Cx} {P : Zc → Prop} {e : Expr} {p p2 pos : Pos} {va : ZV} {c : Str} {own : List (Str × Bool)}
theorem pd_isiO (hg : Gl X "isinstance") (hm : X.mg "isinstance" = none) (hg2 : Gl X c) (hK : KisO X.K X.mg c own) (ha : PV X P e va) (hdb : (c == ("__debug__" : Str)) = false := by decide)
    (he : starEach [e, .Name c p2] X.env = (false, eval e X.env) :: starEach [.Name c p2] X.env := by rfl) (he2 : starEach [.Name c p2] X.env = (false, eval (.Name c p2) X.env) :: starEach [] X.env := by rfl)
    (hpl : (backTo pos (starEach [.Name c p2] X.env)).any (·.1) = false := by rfl) : PD X P (.Call (.Name "isinstance" p) [e, .Name c p2] [] pos) (zIsiO own va) := by
  obtain ⟨C, hC, h1, h2, h3, h4⟩ := hK.ex
  obtain ⟨t0, p0, q0⟩ := ha.ex
  refine ⟨_, pe_callB call_isi hg hm (by decide +kernel) (pa_cons p0 (pa_cons (pe_glob (v := .ref C) hg2 hC rfl hdb) pa_nil he2) he) (by decide) (by decide) he hpl, fun Z hZ S σ H Qz Q ok h k => q0 Z hZ S σ H _ _ ok h fun d S1 v H1 g1 o1 f1 r1 => ?_⟩
  obtain ⟨x, g2, b, g3, g4⟩ := g1
  have r := asD_rep o1 r1 g2
  have fin := k _ S1 _ H1 g4 o1 f1 (.bl b)
  have blt : ∀ n, x.ty = some n → b = false → rIsi X.K [v, .ref C] H1 Q := fun n e1 e2 => by
    subst e2
    exact ⟨v, .ref C, _, _, _, rfl, .own C, rep_ty r e1, h1 n (ty_mem e1), fin⟩
  cases x with
  | obj c' fs =>
    cases r with
    | @obj a C2 dx _ vs _ e1 e2 e3 e4 =>
      obtain ⟨C3, y1, y2, y3, y4, y5⟩ := h2 _ (lookup_mem g3)
      simp only at y1 y5
      rw [y1] at e2
      cases e2
      exact ⟨_, .ref C, _, _, _, rfl, .own C, .base (.ins e1 y2 y3 h3 h4 y4), y5, fin⟩
  | adr a => cases g3
  | exc _ _ => cases g3
  | non => exact blt _ rfl (by cases g3; rfl)
  | bl _ => exact blt _ rfl (by cases g3; rfl)
  | int _ => exact blt _ rfl (by cases g3; rfl)
  | str _ => exact blt _ rfl (by cases g3; rfl)
  | lst _ => exact blt _ rfl (by cases g3; rfl)
  | tup _ => exact blt _ rfl (by cases g3; rfl)
  | fls _ => exact blt _ rfl (by cases g3; rfl)
  | dic => exact blt _ rfl (by cases g3; rfl)
  | dct _ _ => exact blt _ rfl (by cases g3; rfl)
end

/-! ### == by an own __eq__ -/
/-- what is known of a class that has its own __eq__ -/
structure Ke (Pg : Program) (w : World) (K : PySem.W.Frag) (mg : Str → Option Value) (base : Heap) (k : Nat) (c : Str) (sp : ZSp) : Prop where
  ex : ∃ (C f : Addr) (fd : FuncData) (ps : List Str), mg c = some (.ref C) ∧ Cls K C ∧ PySem.W.findIn K (.ref C) "__eq__" = some (some (.ref f)) ∧ PySem.W.isFn K (.ref f) = true ∧ Binds K fd ps [] ∧ FnP Pg w K mg base k f fd ps (spZ K mg sp) ∧
    (∀ n ∈ ["NoneType", "bool", "int", "str", "list", "tuple", "dict"], PySem.W.notFirst K C (.type n) = true) ∧ PySem.W.findIn K (.ref C) "__ne__" = some (some (.builtin "object.__ne__")) ∧ PySem.W.mroIn K C (.type "object") = some true
def rOwnEq (K : PySem.W.Frag) (mg : Str → Option Value) (C : Addr) (sp : ZSp) : R2 := fun x y H Q => ∃ a dx fs, x = .ref a ∧ H a = some (.ins C dx fs) ∧ (∃ t, (TyX K H y t ∧ PySem.W.notFirst K C t = true) ∨ (∃ b dy gs, y = .ref b ∧ H b = some (.ins C dy gs))) ∧
  spZ K mg sp [x, y] H (fun v H' => ∃ b, v = .bl b ∧ Q (.bl b) H') EXno
section
variable {X : Cx} {P : Zc → Prop} {a b : Expr} {pos : Pos} {va vb : ZV} {k j : Nat} {c : Str} {sp : ZSp}
theorem op_ownEq {C f : Addr} {fd : FuncData} {ps : List Str} (hr : Room k X.A) (hgd : X.A.guards = some []) (hs : PySem.W.findIn X.K (.ref C) "__eq__" = some (some (.ref f))) (hf : PySem.W.isFn X.K (.ref f) = true) (hb : Binds X.K fd ps [])
    (F : FnP X.prog X.w X.K X.mg X.base k f fd ps (spZ X.K X.mg sp)) : OpR X (compareOp .Eq) (rOwnEq X.K X.mg C sp) := by
  intro pins z σ H x y v u Q I rx ry h
  obtain ⟨a, dx, fs, rfl, ha, hy, hq⟩ := h
  cases rx
  obtain ⟨mA, J, _⟩ := ins_get I.hok ha
  obtain ⟨od, J, _⟩ := J.look
  obtain ⟨m, hF⟩ := I.fr
  obtain ⟨tb, lk, nf⟩ : ∃ tb, PySem.W.Looks (model X.prog X.w) z.heap (typeOf u) tb ∧ PySem.W.notFirst X.K C tb = true := by
    obtain ⟨t, h | ⟨b, dy, gs, rfl, hb'⟩⟩ := hy
    · obtain ⟨Pz, Kx, pz, _⟩ := kit_of I ry h.1
      exact ⟨t, Kx.ty _ _ I.kIn pz, h.2⟩
    · cases ry
      obtain ⟨mB, J', _⟩ := ins_get I.hok hb'
      obtain ⟨od', J', _⟩ := J'.look
      exact ⟨.ref C, J'.type, by simp [PySem.W.notFirst]⟩
  refine show wpAny (model X.prog X.w) X.A (richCompare .Eq _ u) (EP X pins σ Q) X.xe z from PySem.W.cmp_K (op := .Eq) hr.units0 hF I.ok.mod.kin J lk nf hs hf ?_
  have rr : Vals [V.ref a, y] [Value.ref a, u] := .cons rfl (.cons ry .nil)
  have hl : [Value.ref a, u].length = ps.length := F.len _ _ _ _ hq
  have bd := hb z [.ref a, u] I.kIn (by rw [List.append_nil]; exact hl)
  rw [List.append_nil] at bd
  refine wpAny_call (codeAny_mono (F.run X.A X.stack z H ⟨[.ref a, u], []⟩ _ _ _ EXno hr hgd I.env0 bd rr hq) fun res z' hz => ?_)
  cases res with
  | error er =>
    obtain ⟨_, _, _, _, _, _, _, _, _, _, _, _, y⟩ := hz
    exact y.elim
  | ok fl =>
    cases fl with
    | ret w =>
      obtain ⟨v, H', I', rz, bb, rfl, ez⟩ := I.after hz
      cases rz
      exact ⟨.bl bb, H', I', rfl, ez⟩
    | _ => exact hz.elim
/-- one == other, one of an own class; the other is data that stands where it is -/
def zOwnEq (c : Str) (sp : ZSp) (ta tb : ZE) : ZE := fun S Q => ta S fun d S1 => tb S1 fun e S2 => match d with
  | .obj c' fs => c' = c ∧ (match e with | .obj c2 _ => c2 = c | e => e.ty.isSome = true) ∧ sp [d, e] (fun r => ∃ b, r = .sh (.bl b) ∧ Q (.bl b) S2) (fun _ _ => False)
  | _ => False
theorem pd_ownEq {ta tb : ZE} (h : Ke X.prog X.w X.K X.mg X.base j c sp) (C : Cd k X P) (ha : PD X P a ta) (hb : PD X P b tb) (hj : j ≤ k := by decide) (hm : behindInMarks .Eq b = false := by rfl) : PD X P (.Compare a [.Eq] [b] pos) (zOwnEq c sp ta tb) := by
  obtain ⟨Ca, f, fd, ps, hC, cl, hs, hf, bd, F, hn, _⟩ := h.ex
  obtain ⟨t0, p0, q0⟩ := ha.ex
  obtain ⟨t1, p1, q1⟩ := hb.ex
  refine ⟨_, pe_cmpR (op_ownEq C.hr C.gd hs hf bd (F.mono hj)) p0 p1 hm, fun Z hZ S σ H Qz Q ok h kq => ?_⟩
  refine q0 Z hZ S σ H _ _ ok h fun d S1 v H1 h1 o1 f1 r1 => q1 Z hZ S1 σ H1 _ _ o1 h1 fun e S2 u H2 h2 o2 f2 r2 => ?_
  have r1 := f2.rp _ _ r1
  split at h2
  · rename_i c' fs
    obtain ⟨rfl, h3, h4⟩ := h2
    have r0 := r1
    cases r1 with
    | @obj x C2 dx _ vs _ e1 e2 e3 e4 =>
      rw [hC] at e2
      cases e2
      refine ⟨x, dx, vs, rfl, e1, ?_, avs Z S2 σ, _, _, _, .cons r0 (.cons r2 .nil), h4, o2.avsd, fun res w H' q s r => ?_, fun _ _ _ _ _ y _ _ _ => y.elim⟩
      · split at h3
        · rename_i c2 gs
          subst h3
          cases r2 with
          | @obj y C3 dy _ us _ y1 y2 y3 y4 =>
            rw [hC] at y2
            cases y2
            exact ⟨.ref Ca, .inr ⟨y, dy, us, rfl, y1⟩⟩
        · cases e5 : e.ty with
          | none => rw [e5] at h3; cases h3
          | some n =>
            have r2' : Rep X.K X.mg H2 (fun _ => False) u e := r2.carry (.same (Same.refl H2) fun _ y => y.elim)
            exact ⟨.type n, .inl ⟨rep_ty r2' e5, hn n (ty_mem e5)⟩⟩
      · obtain ⟨bb, rfl, q⟩ := q
        cases r
        exact ⟨bb, rfl, kq _ S2 _ H' q (o2.same s) ((f1.trans f2).trans (.same o2 s)) (.bl bb)⟩
  · exact h2.elim
end
end Zz

/-! The pure layer: != by an own __eq__. -/
namespace Zz
open PySem PySem.Spec PyProof.Rows L2
section
variable {prog : Program} {w : World} {A : Around} {E : Value → Shared → Prop} {z : Shared} {K : PySem.W.Frag} {x C f L : Addr} {ox : Obj} {od : Option Obj} {b tb : Value} {h₀ : Heap} {m : Str → Option Value}
/-- a built-in slot of an own object, bound and called -/
theorem slot_own {M : Model} {self : Value} {name : PySem.Str} {id : String} {args : List Value} {Q : Option Value → Shared → Prop} (sp : PySem.W.Looks M z.heap (specialOf self name) (some (.builtin id))) (bd : bindSpecial (.builtin id) self = pure (.builtin id, [self]))
    (go : wpAny M A (call (.builtin id) ([self] ++ args)) (fun v => Q (some v)) E z) : wpAny M A (callSpecialIfBound? self name args) Q E z := by
  have last : wpAny M A (call (.builtin id) ([self] ++ args) >>= fun v => pure (some v)) Q E z := wpAny_bind (wpAny_mono go (fun _ _ y => wpAny_pure y) fun _ _ y => y)
  unfold callSpecialIfBound? bindSpecialIfBound?
  refine wpAny_holding (wpAny_bind (wpAny_bind (sp.here (wpAny_bind (wpAny_askSetting (wpAny_ite ?_))))))
  split
  · exact wpAny_bind (wpAny_of_eq bd (wpAny_pure (by exact last)))
  · exact wpAny_tryCatch (wpAny_bind (wpAny_of_eq bd (wpAny_pure (by exact last))))
theorem ne_entry (hu : A.units < cLine) (KI : K.In z.heap) (I : PySem.W.InstAt z.heap x ox C od) (hs : PySem.W.findIn K (.ref C) "__eq__" = some (some (.ref f))) (hf : PySem.W.isFn K (.ref f) = true) {Q : Fin → Shared → Prop}
    (go : wpAny (model prog w) A (call (.ref f) [.ref x, b]) (fun v s' => ∃ r, v = .bool r ∧ Q (.done (.ret (.bool (!r)))) s') E z) : wpAny (model prog w) A (Builtin.«object.__ne__» ⟨[.ref x, b], []⟩) Q E z := by
  obtain ⟨hh, g, d, t, os⟩ := z
  unfold Builtin.«object.__ne__»
  repeat (first
    | with_reducible refine wpAny_cRoomFor hu ?_
    | (refine wpAny_bind (m := callSpecialIfBound? (.ref x) (Str.ofString "__eq__") [b])
        (PySem.W.ifBound_K KI I hs hf (wpAny_mono go (fun r s' hr => by
          obtain ⟨y, rfl, q⟩ := hr
          repeat (first | exact q | exact wpAny_pure q | exact wpAny_truthy_bool q | (refine wpAny_bind (m := truthy (.bool _)) (wpAny_truthy_bool ?_)) | wp_step)) fun _ _ y => y)))
    | wp_step)
theorem ne_K {Q : Value → Shared → Prop} (hu : A.units + 1 < cLine) (F : Fr h₀ L z.heap m) (K0 : K.In h₀) (I : PySem.W.InstAt z.heap x ox C od) (hb : PySem.W.Looks (model prog w) z.heap (typeOf b) tb) (nf : PySem.W.notFirst K C tb = true)
    (hne : PySem.W.findIn K (.ref C) "__ne__" = some (some (.builtin "object.__ne__"))) (hs : PySem.W.findIn K (.ref C) "__eq__" = some (some (.ref f))) (hf : PySem.W.isFn K (.ref f) = true) (hm : PySem.W.mroIn K C (.type "object") = some true)
    (go : wpAny (model prog w) A.in1 (call (.ref f) [.ref x, b]) (fun v s' => ∃ r, v = .bool r ∧ Q (.bool (!r)) s') E z) : wpAny (model prog w) A (richCompare .NotEq (.ref x) b) Q E z := by
  have KI := K0.keeps F.keep
  have sp : PySem.W.Looks (model prog w) z.heap (specialOf (.ref x) "__ne__") (some (.builtin "object.__ne__")) := I.type.andThen (PySem.W.looks_findIn KI hne)
  have iv : PySem.W.Looks (model prog w) z.heap (isInstance (.ref x) (.type "object")) true := I.type.andThen (PySem.W.looks_mroIn KI hm)
  have one : wpAny (model prog w) A (tryCompare (.ref x) (cmpInfo .NotEq).2.1 b) (fun r s' => ∃ v, r = some v ∧ Q v s') E z := by
    unfold tryCompare
    refine wpAny_bind (slot_own sp (PySem.F.slot_object_ne.bind _) (wpAny_call (codeAny_call_builtin PySem.F.slot_object_ne.plain PySem.F.entry_object_ne (@PySem.W.check_slot (model prog w) _ _ _ "object.__ne__" "object" "__ne__" (.ref x) [b] [] _ (by decide +kernel) (by decide +kernel) iv (PySem.F.args_object_ne_2 _ _) ?_))))
    refine ne_entry (A := A.in1) hu KI I hs hf (wpAny_mono go (fun v s' hv => ?_) fun _ _ e => e)
    obtain ⟨r, rfl, q⟩ := hv
    exact ⟨r, rfl, wpAny_pure ⟨_, rfl, q⟩⟩
  unfold richCompare
  simp only [oneThing_ref]
  refine wpAny_holding (wpAny_bind (wpAny_cRoomFor (Nat.lt_of_succ_lt hu) (wpAny_bind (I.type.here (wpAny_bind (hb.here ?_))))))
  split
  · rename_i q
    have e : PySem.W.subIn K tb (.ref C) = some false := by
      rcases Bool.or_eq_true_iff.mp nf with e | e
      · rw [beq_iff_eq.mp e] at q
        simp at q
      · exact beq_iff_eq.mp e
    refine wpAny_bind ((PySem.W.looks_subIn KI e).here ?_)
    simp only [Bool.false_eq_true, if_false]
    refine wpAny_bind (wpAny_mono one (fun r s' y => ?_) fun _ _ e => e)
    obtain ⟨v, rfl, hq⟩ := y
    exact wpAny_pure hq
  · refine wpAny_bind (wpAny_pure ?_)
    simp only [Bool.false_eq_true, if_false]
    refine wpAny_bind (wpAny_mono one (fun r s' y => ?_) fun _ _ e => e)
    obtain ⟨v, rfl, hq⟩ := y
    exact wpAny_pure hq
end
section
variable {X : Cx} {P : Zc → Prop} {a b : Expr} {pos : Pos} {k j : Nat} {c : Str} {sp : ZSp}
def rOwnNe (K : PySem.W.Frag) (mg : Str → Option Value) (C : Addr) (sp : ZSp) : R2 := fun x y H Q => rOwnEq K mg C sp x y H fun v H' => ∃ b, v = .bl b ∧ Q (.bl (!b)) H'
theorem op_ownNe {C f : Addr} {fd : FuncData} {ps : List Str} (hr : Room (k + 1) X.A) (hgd : X.A.guards = some []) (hs : PySem.W.findIn X.K (.ref C) "__eq__" = some (some (.ref f))) (hf : PySem.W.isFn X.K (.ref f) = true) (hb : Binds X.K fd ps [])
    (F : FnP X.prog X.w X.K X.mg X.base k f fd ps (spZ X.K X.mg sp)) (hne : PySem.W.findIn X.K (.ref C) "__ne__" = some (some (.builtin "object.__ne__"))) (hm : PySem.W.mroIn X.K C (.type "object") = some true) : OpR X (compareOp .NotEq) (rOwnNe X.K X.mg C sp) := by
  intro pins z σ H x y v u Q I rx ry h
  obtain ⟨a, dx, fs, rfl, ha, hy, hq⟩ := h
  cases rx
  obtain ⟨mA, J, _⟩ := ins_get I.hok ha
  obtain ⟨od, J, _⟩ := J.look
  obtain ⟨m, hF⟩ := I.fr
  obtain ⟨tb, lk, nf⟩ : ∃ tb, PySem.W.Looks (model X.prog X.w) z.heap (typeOf u) tb ∧ PySem.W.notFirst X.K C tb = true := by
    obtain ⟨t, h | ⟨b, dy, gs, rfl, hb'⟩⟩ := hy
    · obtain ⟨Pz, Kx, pz, _⟩ := kit_of I ry h.1
      exact ⟨t, Kx.ty _ _ I.kIn pz, h.2⟩
    · cases ry
      obtain ⟨mB, J', _⟩ := ins_get I.hok hb'
      obtain ⟨od', J', _⟩ := J'.look
      exact ⟨.ref C, J'.type, by simp [PySem.W.notFirst]⟩
  refine show wpAny (model X.prog X.w) X.A (richCompare .NotEq _ u) (EP X pins σ Q) X.xe z from ne_K (hu_of hr) hF I.ok.mod.kin J lk nf hne hs hf hm ?_
  have rr : Vals [V.ref a, y] [Value.ref a, u] := .cons rfl (.cons ry .nil)
  have hl : [Value.ref a, u].length = ps.length := F.len _ _ _ _ hq
  have bd := hb z [.ref a, u] I.kIn (by rw [List.append_nil]; exact hl)
  rw [List.append_nil] at bd
  refine wpAny_call (codeAny_mono (F.run X.A.in1 X.stack z H ⟨[.ref a, u], []⟩ _ _ _ EXno hr.in1 hgd I.env0.in1 bd rr hq) fun res z' hz => ?_)
  cases res with
  | error er =>
    obtain ⟨_, _, _, _, _, _, _, _, _, _, _, _, y⟩ := hz
    exact y.elim
  | ok fl =>
    cases fl with
    | ret w =>
      obtain ⟨v, H', I', rz, bb, rfl, b2, e2, ez⟩ := I.after hz
      cases e2
      cases rz
      exact ⟨bb, rfl, .bl (!bb), H', I', rfl, ez⟩
    | _ => exact hz.elim
def zOwnNe (c : Str) (sp : ZSp) (ta tb : ZE) : ZE := fun S Q => zOwnEq c sp ta tb S fun d S1 => match d with
  | .bl b => Q (.bl (!b)) S1
  | _ => False
theorem pd_ownNe {ta tb : ZE} (h : Ke X.prog X.w X.K X.mg X.base j c sp) (C : Cd k X P) (ha : PD X P a ta) (hb : PD X P b tb) (hj : j + 1 ≤ k := by decide) (hm : behindInMarks .NotEq b = false := by rfl) : PD X P (.Compare a [.NotEq] [b] pos) (zOwnNe c sp ta tb) := by
  obtain ⟨Ca, f, fd, ps, hC, cl, hs, hf, bd, F, hn, hne, hmr⟩ := h.ex
  obtain ⟨t0, p0, q0⟩ := ha.ex
  obtain ⟨t1, p1, q1⟩ := hb.ex
  refine ⟨_, pe_cmpR (op_ownNe (k := k - 1) (by rw [show k - 1 + 1 = k by omega]; exact C.hr) C.gd hs hf bd (F.mono (by omega)) hne hmr) p0 p1 hm, fun Z hZ S σ H Qz Q ok h kq => ?_⟩
  refine q0 Z hZ S σ H _ _ ok h fun d S1 v H1 h1 o1 f1 r1 => q1 Z hZ S1 σ H1 _ _ o1 h1 fun e S2 u H2 h2 o2 f2 r2 => ?_
  have r1 := f2.rp _ _ r1
  split at h2
  · rename_i c' fs
    obtain ⟨rfl, h3, h4⟩ := h2
    have r0 := r1
    cases r1 with
    | @obj x C2 dx _ vs _ e1 e2 e3 e4 =>
      rw [hC] at e2
      cases e2
      refine ⟨x, dx, vs, rfl, e1, ?_, avs Z S2 σ, _, _, _, .cons r0 (.cons r2 .nil), h4, o2.avsd, fun res w H' q s r => ?_, fun _ _ _ _ _ y _ _ _ => y.elim⟩
      · split at h3
        · rename_i c2 gs
          subst h3
          cases r2 with
          | @obj y C3 dy _ us _ y1 y2 y3 y4 =>
            rw [hC] at y2
            cases y2
            exact ⟨.ref Ca, .inr ⟨y, dy, us, rfl, y1⟩⟩
        · cases e5 : e.ty with
          | none => rw [e5] at h3; cases h3
          | some n =>
            have r2' : Rep X.K X.mg H2 (fun _ => False) u e := r2.carry (.same (Same.refl H2) fun _ y => y.elim)
            exact ⟨.type n, .inl ⟨rep_ty r2' e5, hn n (ty_mem e5)⟩⟩
      · obtain ⟨bb, rfl, q⟩ := q
        cases r
        exact ⟨bb, rfl, bb, rfl, kq _ S2 _ H' q (o2.same s) ((f1.trans f2).trans (.same o2 s)) (.bl (!bb))⟩
  · exact h2.elim
end
end Zz

/-! The pure layer: max of a tuple; own == and != as tests. -/
namespace Zz
open PySem PySem.Spec PyProof.Rows L2
section
variable {prog : Program} {w : World} {A : Around} {E : Value → Shared → Prop} {z : Shared} {q : Addr} {ns : List Int} {its : List Value}
theorem max_tupV {xs : Array (Int × Tok)} {Q : Value → Shared → Prop} (noExc : A.handled = none) (isT : z.heap.IsTuple q (intItems xs)) (some0 : 0 < xs.size)
    (fin : ∀ v g tk, (intItems xs)[argBest (fun i j => decide (numAt xs i > numAt xs j)) (xs.size - 1)]? = some v → (∀ b o, z.heap.get? b = some o → g.get? b = some o) → Q v { z with heap := g, toks := tk }) :
    wpAny (model prog w) A (call (.builtin "max") [.ref q]) Q E z := by
  refine call_max_walk (wpAny_pyIter_tuple isT ?_)
  have lt : q < z.heap.objs.size := by
    obtain ⟨o, e, _⟩ := isT
    exact Heap.lt_size e
  refine ⟨_, _, _, _, _, _, _, rfl, Walks.tuple (A := A.in1) noExc _ q (Nat.ne_of_lt lt) (intItems xs), ⟨⟨_, Heap.get?_push_size _ rfl, rfl, rfl⟩, isT.push _⟩, fun b hb => ?_, by simpa [intItems] using some0, CmpOf.ints_gt (numAt xs) (fun _ _ => intItems_at), fun v g tk hP hk => ?_⟩
  · rw [Heap.size_push]
    rcases List.mem_cons.mp hb with y | y
    · rw [y]; exact Nat.lt_succ_self _
    · rw [List.mem_singleton.mp y]; exact Nat.lt_succ_of_lt lt
  · refine fin v g tk (by simpa [intItems] using hP) fun b o e => hk b o (fun y => ?_) (Heap.get?_push_of_some _ e)
    have := List.mem_singleton.mp y
    exact Nat.ne_of_lt (Heap.lt_size e) this
theorem max_tup {Q : Value → Shared → Prop} (noExc : A.handled = none) (isT : z.heap.IsTuple q its.toArray) (hi : IntsAre its ns) (some0 : 0 < ns.length)
    (fin : ∀ g tk M t, (∀ b o, z.heap.get? b = some o → g.get? b = some o) → M ∈ ns → (∀ a, a ∈ ns → a ≤ M) → Q (.int M t) { z with heap := g, toks := tk }) : wpAny (model prog w) A (call (.builtin "max") [.ref q]) Q E z := by
  obtain ⟨xs, e⟩ := hi.allInts.items
  have hn : numsOf (intItems xs).toList = ns := by
    rw [← e]
    exact hi.numsOf
  rw [nums_intItems] at hn
  subst hn
  rw [e] at isT
  refine max_tupV noExc isT (by simpa using some0) fun v g tk hv hk => ?_
  obtain ⟨t, rfl⟩ := intItems_at hv
  obtain ⟨g1, g2⟩ := argBest_gt (numAt xs) (xs.size - 1)
  have some1 : 0 < xs.size := by simpa using some0
  refine fin g tk _ t hk ?_ fun a ha => ?_
  · rw [numAt_eq]
    exact PySem.getD_mem (by rw [List.length_map, Array.length_toList]; omega)
  · obtain ⟨j, hj, rfl⟩ := mem_getD ha
    rw [List.length_map, Array.length_toList] at hj
    rw [← numAt_eq]
    exact g2 j (by omega)
end
section
variable {X : Cx}
def rMaxTu (K : PySem.W.Frag) : List V → Hp → VK → Prop := fun vs H Q => ∃ (a : Addr) (ns : List Int), vs = [V.ref a] ∧ SqT K H a (ns.map V.int) ∧ 0 < ns.length ∧ ∀ m, m ∈ ns → (∀ y, y ∈ ns → y ≤ m) → Q (.int m) H
theorem cr_maxTu (hc : X.calm = true) : CallR X (.builtin "max") (rMaxTu X.K) := by
  intro pins s σ H vs us Q I r h
  obtain ⟨a, ns, rfl, hs, hne, q⟩ := h
  obtain ⟨its, rv, pl, _⟩ := I.tuple hs
  rw [Vals.ref1 r]
  exact max_tup (I.ok.hd hc) (show s.heap.IsTuple a its.toArray from pl) rv.ints hne fun g tk m t hk h1 h2 => ⟨.int _, H, I.kept hk, ⟨_, rfl⟩, q m h1 h2⟩
def fMaxTu : ZB := fun ds Q => match ds with
  | [.tup xs] => ∃ ns, D.ints xs = some ns ∧ 0 < ns.length ∧ ∀ m, m ∈ ns → (∀ y, y ∈ ns → y ≤ m) → Q (.int m)
  | _ => False
theorem bz_maxTu {K : PySem.W.Frag} {mg : Str → Option Value} : BltZ K mg (rMaxTu K) fMaxTu := by
  intro H av vs ds Qd Q _ r h k
  unfold fMaxTu at h
  split at h
  · obtain ⟨v, rfl, r1⟩ := reps1 r
    obtain ⟨bs, h1, h2, h5⟩ := h
    obtain rfl := Zz.ints_of h1
    obtain ⟨a, us, rfl, h3, h4⟩ := r1.tup_inv
    obtain rfl := h4.ints
    exact ⟨a, bs, rfl, h3, h2, fun m hm hle => k _ _ H (h5 m hm hle) (Same.refl H) (.int _)⟩
  · exact h.elim
end
section
variable {X : Cx} {P : Zc → Prop} {a b : Expr} {pos : Pos} {k j : Nat} {c : Str} {sp : ZSp}
theorem pt_ownEq {ta tb : ZE} (h : Ke X.prog X.w X.K X.mg X.base j c sp) (C : Cd k X P) (ha : PD X P a ta) (hb : PD X P b tb) (hj : j ≤ k := by decide) (hm : behindInMarks .Eq b = false := by rfl) : PTd X P (.Compare a [.Eq] [b] pos) (zB (zOwnEq c sp ta tb)) := by
  obtain ⟨Ca, f, fd, ps, hC, cl, hs, hf, bd, F, hn, _⟩ := h.ex
  obtain ⟨t0, p0, q0⟩ := ha.ex
  obtain ⟨t1, p1, q1⟩ := hb.ex
  refine ⟨_, pt_cmpR (op_ownEq C.hr C.gd hs hf bd (F.mono hj)) p0 p1 hm, fun Z hZ S σ H Qz Q ok h kq => ?_⟩
  refine q0 Z hZ S σ H _ _ ok h fun d S1 v H1 h1 o1 f1 r1 => q1 Z hZ S1 σ H1 _ _ o1 h1 fun e S2 u H2 h2 o2 f2 r2 => ?_
  have r1 := f2.rp _ _ r1
  split at h2
  · rename_i c' fs
    obtain ⟨rfl, h3, h4⟩ := h2
    have r0 := r1
    cases r1 with
    | @obj x C2 dx _ vs _ e1 e2 e3 e4 =>
      rw [hC] at e2
      cases e2
      refine ⟨x, dx, vs, rfl, e1, ?_, avs Z S2 σ, _, _, _, .cons r0 (.cons r2 .nil), h4, o2.avsd, fun res w H' q s r => ?_, fun _ _ _ _ _ y _ _ _ => y.elim⟩
      · split at h3
        · rename_i c2 gs
          subst h3
          cases r2 with
          | @obj y C3 dy _ us _ y1 y2 y3 y4 =>
            rw [hC] at y2
            cases y2
            exact ⟨.ref Ca, .inr ⟨y, dy, us, rfl, y1⟩⟩
        · cases e5 : e.ty with
          | none => rw [e5] at h3; cases h3
          | some n =>
            have r2' : Rep X.K X.mg H2 (fun _ => False) u e := r2.carry (.same (Same.refl H2) fun _ y => y.elim)
            exact ⟨.type n, .inl ⟨rep_ty r2' e5, hn n (ty_mem e5)⟩⟩
      · obtain ⟨bb, rfl, q⟩ := q
        cases r
        exact ⟨bb, rfl, bb, rfl, kq bb S2 H' q (o2.same s) ((f1.trans f2).trans (.same o2 s))⟩
  · exact h2.elim
theorem pt_ownNe {ta tb : ZE} (h : Ke X.prog X.w X.K X.mg X.base j c sp) (C : Cd k X P) (ha : PD X P a ta) (hb : PD X P b tb) (hj : j + 1 ≤ k := by decide) (hm : behindInMarks .NotEq b = false := by rfl) : PTd X P (.Compare a [.NotEq] [b] pos) (zB (zOwnNe c sp ta tb)) := by
  obtain ⟨Ca, f, fd, ps, hC, cl, hs, hf, bd, F, hn, hne, hmr⟩ := h.ex
  obtain ⟨t0, p0, q0⟩ := ha.ex
  obtain ⟨t1, p1, q1⟩ := hb.ex
  refine ⟨_, pt_cmpR (op_ownNe (k := k - 1) (by rw [show k - 1 + 1 = k by omega]; exact C.hr) C.gd hs hf bd (F.mono (by omega)) hne hmr) p0 p1 hm, fun Z hZ S σ H Qz Q ok h kq => ?_⟩
  refine q0 Z hZ S σ H _ _ ok h fun d S1 v H1 h1 o1 f1 r1 => q1 Z hZ S1 σ H1 _ _ o1 h1 fun e S2 u H2 h2 o2 f2 r2 => ?_
  have r1 := f2.rp _ _ r1
  split at h2
  · rename_i c' fs
    obtain ⟨rfl, h3, h4⟩ := h2
    have r0 := r1
    cases r1 with
    | @obj x C2 dx _ vs _ e1 e2 e3 e4 =>
      rw [hC] at e2
      cases e2
      refine ⟨x, dx, vs, rfl, e1, ?_, avs Z S2 σ, _, _, _, .cons r0 (.cons r2 .nil), h4, o2.avsd, fun res w H' q s r => ?_, fun _ _ _ _ _ y _ _ _ => y.elim⟩
      · split at h3
        · rename_i c2 gs
          subst h3
          cases r2 with
          | @obj y C3 dy _ us _ y1 y2 y3 y4 =>
            rw [hC] at y2
            cases y2
            exact ⟨.ref Ca, .inr ⟨y, dy, us, rfl, y1⟩⟩
        · cases e5 : e.ty with
          | none => rw [e5] at h3; cases h3
          | some n =>
            have r2' : Rep X.K X.mg H2 (fun _ => False) u e := r2.carry (.same (Same.refl H2) fun _ y => y.elim)
            exact ⟨.type n, .inl ⟨rep_ty r2' e5, hn n (ty_mem e5)⟩⟩
      · obtain ⟨bb, rfl, q⟩ := q
        cases r
        exact ⟨bb, rfl, bb, rfl, _, rfl, kq (!bb) S2 H' q (o2.same s) ((f1.trans f2).trans (.same o2 s))⟩
  · exact h2.elim
end
theorem kit_no {K : PySem.W.Frag} {C : Addr} (cl : Cls K C) (ty : PySem.W.typeIn K (.ref C) = some (.type "type")) : ∀ n ∈ ["NoneType", "bool", "int", "str", "list", "tuple", "dict"], PySem.W.kitOne K (.type n) (.ref C) = some false := fun n hn => by
  have isC : (PySem.W.clsIn K C).isSome = true := by
    obtain ⟨cd, y, _⟩ := PySem.W.any_some cl.hd
    rw [y] <;> rfl
  have key : ∀ n ∈ ["NoneType", "bool", "int", "str", "list", "tuple", "dict"], (fastBuiltinMro n).elim false (fun l => l.all fun v => match v with | .type _ => true | _ => false) = true := by decide +kernel
  have k := key n hn
  unfold PySem.W.kitOne PySem.W.kitCls
  rw [if_neg fun z => by cases beq_iff_eq.mp z]
  simp only
  rw [if_pos (by rw [isC, ty]; rfl)]
  show (fastBuiltinMro n).map (·.contains (.ref C)) = some false
  cases e : fastBuiltinMro n with
  | none => rw [e] at k; cases k
  | some l =>
    rw [e] at k
    have k : (l.all fun v => match v with | .type _ => true | _ => false) = true := k
    show some (l.contains (.ref C)) = some false
    congr 1
    rw [Bool.eq_false_iff]
    intro z
    have hm : Value.ref C ∈ l := List.contains_iff_mem.mp z
    have := List.all_eq_true.mp k _ hm
    cases this
end Zz

/-! The pure layer: range downwards, division by wide numbers, shifts, tuples of the module. -/
namespace Zz
open PySem PySem.Spec PyProof.Rows L2
section
variable {X : Cx} {P : Zc → Prop} {a b c e : Expr} {p pos : Pos} {ta tb tc : ZE}
/-- lo, lo - 1, .. -/
def downD (lo : Int) (n : Nat) : List D := (List.range n).map fun (i : Nat) => D.int (lo - (i : Int))
theorem downD_get {lo : Int} {n i : Nat} {d : D} (h : (downD lo n)[i]? = some d) : i < n ∧ d = .int (lo - (i : Int)) := by
  unfold downD at h
  rw [List.getElem?_map] at h
  cases e : (List.range n)[i]? with
  | none => rw [e] at h; cases h
  | some k =>
    rw [e] at h
    obtain ⟨h1, h2⟩ := List.getElem?_eq_some_iff.mp e
    rw [List.getElem_range] at h2
    subst h2
    exact ⟨by simpa using h1, by cases h; rfl⟩
theorem downD_length {lo : Int} {n : Nat} : (downD lo n).length = n := by unfold downD; rw [List.length_map, List.length_range]
theorem gives_down {Z : Zc} {S : SS} {σ : L2.St} {H : Hp} {lo : Int} {n : Nat} : Gives X Z S σ H (Itc lo (-1) n) (downD lo n) := by
  intro Z' S' σ' H' ok f i
  refine ⟨fun d hd => ?_, fun hl => by rw [downD_length] at hl; exact hl⟩
  obtain ⟨h1, rfl⟩ := downD_get hd
  refine ⟨h1, fun x H'' ⟨e, hy⟩ => ?_⟩
  subst e hy
  rw [show lo + (i : Nat) * (-1) = lo - (i : Int) by omega]
  exact ⟨Same.refl _, .int _⟩
/-- range(a, b, -1) -/
def zItDn (ta tb : ZE) : ZA := fun S Q => ta S fun d S1 => tb S1 fun e S2 => match d, e with
  | .int i, .int j => (-(2 ^ 62) ≤ i ∧ i < 2 ^ 62 ∧ -(2 ^ 62) ≤ j ∧ j < 2 ^ 62) ∧ Q (downD i (i - j).toNat) S2
  | _, _ => False
theorem id_rangeDn {tg : Expr} {k1 : Nat} {p1 p2 : Pos} (hg : Gl X "range") (hm : X.mg "range" = none) (ha : PD X P a ta) (hb : PD X P b tb)
    (hs : starEach [a, b, .UnaryOp .USub (.Constant (.int 1) k1 p1) p2] X.env = (false, eval a X.env) :: starEach [b, .UnaryOp .USub (.Constant (.int 1) k1 p1) p2] X.env := by rfl)
    (hs2 : starEach [b, .UnaryOp .USub (.Constant (.int 1) k1 p1) p2] X.env = (false, eval b X.env) :: starEach [.UnaryOp .USub (.Constant (.int 1) k1 p1) p2] X.env := by rfl)
    (hs3 : starEach [.UnaryOp .USub (.Constant (.int 1) k1 p1) p2] X.env = (false, eval (.UnaryOp .USub (.Constant (.int 1) k1 p1) p2) X.env) :: starEach [] X.env := by rfl)
    (hpl : (backTo pos (starEach [b, .UnaryOp .USub (.Constant (.int 1) k1 p1) p2] X.env)).any (·.1) = false := by rfl) :
    PId X P tg (.Call (.Name "range" p) [a, b, .UnaryOp .USub (.Constant (.int 1) k1 p1) p2] [] pos) (zItDn ta tb) := by
  obtain ⟨t0, p0, q0⟩ := ha.ex
  obtain ⟨t1, p1', q1⟩ := hb.ex
  refine ⟨_, pi_range3 hg hm (pa_cons p0 (pa_cons p1' (pa_cons (pe_un un_neg pe_int) pa_nil hs3) hs2) hs) hs hpl, fun Z hZ S σ H Qz R ok h k => q0 Z hZ S σ H _ _ ok h fun d S1 v H1 h1 o f r => q1 Z hZ S1 σ H1 _ _ o h1 fun e S2 w H2 h2 o2 f2 r2 => ?_⟩
  split at h2
  · obtain rfl := r.int_inv
    obtain rfl := r2.int_inv
    obtain ⟨⟨b1, b2, b3, b4⟩, h2⟩ := h2
    exact ⟨1, rfl, _, _, -1, _, rfl, RgC.neg b1 b2 b3 b4, k _ _ _ _ h2 o2 (f.trans f2) gives_down⟩
  · exact h2.elim
/-- // by a wide number -/
def CDivX (i j : Int) : Prop := CDivW i j ∨ CDivP i j
theorem op_fdivX : OpR X (binaryOp .FloorDiv) (rI CDivX fun i j => .int (i / j)) := opI fun i j _ _ _ _ _ hc q => by
  have h0 : 0 < j := hc.elim (fun h => h.1) fun h => h.1
  exact floordiv_int (by omega) (by rw [Int.fdiv_eq_ediv_of_nonneg i (by omega)]; exact q) (.inl (hc.elim (fun h => PyProof.noPylong_of_log2 h.2) fun h => h.2))
abbrev zDivX := zOp (fIC CDivX fun i j => i / j)
theorem pd_divX (ha : PD X P a ta) (hb : PD X P b tb) : PD X P (.BinOp a .FloorDiv b pos) (zDivX ta tb) := pd_op op_fdivX opz_IC ha hb
/-- a written shift -/
theorem pd_shlc {i j v : Int} {k1 k2 : Nat} {p1 p2 : Pos} (hv : i * 2 ^ j.toNat = v := by decide +kernel) (h : CPow i j := by refine ⟨?_, ?_, ?_⟩ <;> decide +kernel) : PD X P (.BinOp (.Constant (.int i) k1 p1) .LShift (.Constant (.int j) k2 p2) pos) (zC (.int v)) := by
  refine ⟨_, pe_op op_shl pe_int pe_int, fun Z hZ S σ H Qz Q ok hq k => ⟨i, j, rfl, rfl, h, ?_⟩⟩
  show Q (.int (i * 2 ^ j.toNat)) H
  rw [hv]
  exact k _ S _ H hq ok .refl (.int v)
end
/-- a tuple of texts of the module -/
structure Kt (K : PySem.W.Frag) (mg : Str → Option Value) (x : Str) (d : D) : Prop where
  ex : ∃ a, mg x = some (.ref a) ∧ ∀ H av, Rep K mg H av (.ref a) d
theorem kt_two {K : PySem.W.Frag} {mg : Str → Option Value} {x : Str} {a : Addr} {dd : Option Addr} {s t : Str} {k1 k2 : Tok} {n : Nat} {sl : Array (Option Value)} (hm : mg x = some (.ref a)) (hk : K.lookup a = some ⟨.type "tuple", dd, .seq #[.str s k1, .str t k2] n, sl⟩) : Kt K mg x (.tup [.str s, .str t]) :=
  ⟨a, hm, fun H av => .tup (vs := [.str s, .str t]) (.inr ⟨_, _, _, hk, rfl, rfl, by show 2 ≤ sizeLine; decide, .cons ⟨k1, rfl⟩ (.cons ⟨k2, rfl⟩ .nil)⟩) (.cons (.str s) (.cons (.str t) .nil))⟩
theorem pd_kt {X : Cx} {P : Zc → Prop} {x : Str} {d : D} {pos : Pos} (hg : Gl X x) (h : Kt X.K X.mg x d) (hd : (x == ("__debug__" : Str)) = false := by decide) : PD X P (.Name x pos) (zC d) := pd_globd hg h.ex hd
end Zz

/-! The pure layer: // by numbers of any size. -/
namespace Zz
open PySem PySem.Spec PyProof.Rows L2
/-- nothing in the written part watches imports, no file of the run bears _pylong -/
structure Wide (Pg : Program) (base : Heap) : Prop where
  tree : Pg.given.tree = none
  seer : base.NoSeer
/-- .. and the code that runs is a def's body -/
structure Wd (X : Cx) : Prop where
  wide : Wide X.prog X.base
  stack : X.stack = X.env :: X.outer
  gen : X.env.scope.isGenerator = false
  co : X.env.scope.isCoroutine = false
  dp : X.A.depth + Builtin.pylongFrames < recursionLimit
section
variable {X : Cx} {P : Zc → Prop} {a b c e : Expr} {p pos : Pos} {ta tb tc : ZE}
def CDivS (_ j : Int) : Prop := 0 < j
theorem wide_room {pins : List (Addr × Obj)} {σ : L2.St} {H : Hp} {s : Shared} (W : Wd X) (I : Inv X pins σ H s) : PySem.PylongRoom (model X.prog X.w) X.A s := by
  refine PySem.PylongRoom.of (I.nolimit) W.dp (PySem.SeerAt.of (W.wide.seer.keeps I.bk) W.wide.tree (I.ok.frames.trans (congrArg some W.stack)) W.gen W.co I.ok.blt I.ok.glob)
theorem op_fdivS (W : Wd X) : OpR X (binaryOp .FloorDiv) (rI CDivS fun i j => .int (i / j)) := by
  intro pins s σ H x y v u Q I rx ry h
  obtain ⟨i, j, rfl, rfl, hc, q⟩ := h
  obtain ⟨t, rfl⟩ := rx
  obtain ⟨t', rfl⟩ := ry
  have hc' : 0 < j := hc
  exact floordiv_int (by omega) (by rw [Int.fdiv_eq_ediv_of_nonneg i (by omega)]; exact ⟨.int (i / j), H, I.tok _, ⟨_, rfl⟩, q⟩) (.inr (wide_room W I))
abbrev zDivS := zOp (fIC CDivS fun i j => i / j)
theorem pd_divS (W : Wd X) (ha : PD X P a ta) (hb : PD X P b tb) : PD X P (.BinOp a .FloorDiv b pos) (zDivS ta tb) := pd_op (op_fdivS W) opz_IC ha hb
end
theorem wd_cx {CXt : CXT} {Pg : Program} {w : World} {K : PySem.W.Frag} {mg : Str → Option Value} {base : Heap} {N : List Str} {qual : Str} {sc : Scope} {f : Addr} {cd : Value} {A : Around} {outer : List Env} {s : Shared} {H : Hp} {E : XK} {k : Nat} {P : Zc → Prop}
    (W : Wide Pg base) (C : Cd k (cxOf CXt Pg w K mg base N qual sc f cd A outer s H E) P) (hk : 32 ≤ k := by decide) (hg : sc.isGenerator = false := by rfl) (hc : sc.isCoroutine = false := by rfl) : Wd (cxOf CXt Pg w K mg base N qual sc f cd A outer s H E) :=
  ⟨W, rfl, hg, hc, by have := C.hr.dp; have h : Builtin.pylongFrames ≤ 100 := by decide
                      omega⟩

/-- the goal that k_head leaves, where nothing imports -/
theorem walkPS {l : PySem.W.OpenLaw} {n k : Nat} {q : Program} {loose : List Str} {XP : (Str → Option Value) → Heap → Prop} {YP : World → Heap → Prop} {d : DefRec} {K : Params → PySem.W.Frag} {sp : ZSp} {x : Str}
    (hn : l.most = some n) (hn2 : n ≤ sizeLine) (hdf : d.params.defaults = []) (hr : Room k callerA) (hY : ∀ (w : World) (h : Heap), YP w h → (K w.params).In h) (hi : importsNone q = true) (ht : l.prog.given.tree = none)
    (F : ∀ (w : World) (mg : Str → Option Value) (fa : Addr) (h : Heap), (K w.params).In h → h.Ns mainGlobals mg → mg d.name = some (.ref fa) →
      ∃ fd : FuncData, (∀ (s : Shared) (u : Value), BindsTo s fd ⟨[u], []⟩ [(x, u)]) ∧ ∀ base : Heap, (K w.params).In base → base.Ns mainGlobals mg → Wide l.prog base → FnP l.prog w (K w.params) mg base k fa fd [x] (spZ (K w.params) mg sp))
    (hsp : ∀ ns : List Int, ns.length ≤ n → sp [.fls (ns.map D.int)] (fun r => r = .sh (.bl true)) fun _ _ => False) : PySem.W.WalkO q loose XP YP l.row.toRowW d [] (fun f vs => PySem.call f vs) :=
  Att.attach_call hn hdf fun w s₀ s₁ mg mb fa o pm cd doc a vs ns G Y ho hd hcd hmg hobj hints hlen hg => by
    obtain ⟨fd, hb, hF⟩ := F w mg fa _ (hY w _ Y) G.T.g hmg
    exact law_callPS (hY w _ Y) G.T.g G.T.b G.T.builtins G.T.nolimit hg hobj hints (Nat.le_trans hlen hn2) hr (fun base h1 h2 h3 => hF base h1 h2 ⟨ht, h3 (G.T.seer hi)⟩) hb (hsp ns hlen)
end Zz

/-! The pure layer: raise, try .. except X as e: m = e, caught errors as values. -/
namespace Zz
open PySem PySem.Spec PyProof.Rows L2

/-! ### raise -/
/-- an own class of errors that may be made and raised -/
structure Er (K : PySem.W.Frag) (mg : Str → Option Value) (c : Str) : Prop where
  ex : ∃ C, mg c = some (.ref C) ∧ PySem.W.excIn K C [.type "ValueError", .type "Exception", .type "BaseException", .type "object"] "ValueError.__new__" = true ∧ PySem.W.keepIn K (.ref C) = true ∧ PySem.W.subIn K (.ref C) (.type "BaseException") = some true ∧
    PySem.W.typeIn K (.ref C) = some (.type "type")
section
variable {X : Cx} {P : Zc → Prop} {k : Nat} {c : Str} {e : Expr} {te : ZE} {p pos pos2 : Pos}
def zRaise (ez : Str → Option (Str × D) → Prop) (c : Str) (te : ZE) : ZS := fun _ S => te S fun _ _ => ez c none
theorem sd_raise {ez : Str → Option (Str × D) → Prop} (h : Er X.K X.mg c) (C : Cd k X P) (hg : Gl X c) (hez : ∀ Z, P Z → ∀ c g, ez c g → Z.ez c g) (he : PD X P e te) (hs : starEach [e] X.env = (false, eval e X.env) :: starEach [] X.env := by rfl) (hdb : (c == ("__debug__" : Str)) = false := by decide) :
    PSd X P (.Raise (some (.Call (.Name c p) [e] [] pos)) none pos2) (zRaise ez c te) := by
  obtain ⟨Ca, hC, h1, h2, h3, h4⟩ := h.ex
  obtain ⟨t0, p0, q0⟩ := he.ex
  refine ⟨_, ps_raise C.calm C.tk (SkE.pmk_own1 PySem.F.excBase_ValueError h1 hC h2 (raises_own h3 h4) hg p0 hs hdb), fun Z hZ S σ H E D0 ok h i => q0 Z hZ S σ H _ _ ok h fun d S1 v H1 g1 o f r => ?_⟩
  exact ⟨Z, hZ, c, none, hez Z hZ c none g1, hC, trivial, o.ext⟩
end

/-! ### a class of errors with a field: def __init__(self, f): self.f = f -/
/-- what its __init__ promises -/
def spEi (K : PySem.W.Frag) (n : Str) : Sp := fun vs H Q _ => ∃ (a C : Addr) (v : V), vs = [.ref a, v] ∧ OexC K C ∧ PySem.W.findIn K (.ref C) n = some none ∧ H a = some (exo a C none) ∧
  ∀ dx, H dx = none → dx ≠ a → Q .non (upd (upd H dx (exd dx [(n, v)])) a (exo a C (some dx)))
structure Ei (Pg : Program) (w : World) (K : PySem.W.Frag) (mg : Str → Option Value) (base : Heap) (k : Nat) (c n : Str) : Prop where
  ex : ∃ (C fI : Addr) (fd : FuncData) (ps : List Str), mg c = some (.ref C) ∧ OexC K C ∧ PySem.W.findIn K (.ref C) "__init__" = some (some (.ref fI)) ∧ PySem.W.typeIn K (.ref fI) = some (.type "function") ∧ PySem.W.findIn K (.ref C) n = some none ∧
    Binds K fd ps [] ∧ FnOk Pg w K mg base CX0 k fI fd ps (spEi K n)
section
variable {Pg : Program} {w : World} {K : PySem.W.Frag} {mg : Str → Option Value} {base : Heap} {f : Addr} {fd : FuncData} {st : Stmt} {q n : Str} {p1 p2 p3 p4 : Pos}
theorem okEi (Fu : Fun K "__init__" q st f fd) (S : FnScope ["self", n] ["self", n] (defScope st)) (hb : defBody st = [.Assign [.Attribute (.Name "self" p1) n p2] (.Name n p3) p4])
    (v0 : Vis (defScope st) "self" := by first | exact Or.inl rfl | exact Or.inr (Or.inl rfl)) (v1 : Vis (defScope st) n := by first | exact Or.inl rfl | exact Or.inr (Or.inl rfl)) (d1 : (n == ("__debug__" : Str)) = false := by decide) (d2 : (n == ("__classdict__" : Str)) = false := by decide) : FnOk Pg w K mg base CX0 1 f fd ["self", n] (spEi K n) := by
  refine Fu.ok S (fun vs H Q E ⟨_, _, _, e, _⟩ => by rw [e]; rfl) fun cdv A outer s H vs Q E hr ⟨a, C, v, e, T, hno, ea, hq⟩ => ?_
  subst e
  rw [hb]
  refine ⟨_, pss_one (ps_ost (pe_var (i := 0) rfl v0) (pe_var (i := 1) rfl v1 d1 d2)), ?_⟩
  exact ⟨v, rfl, _, rfl, a, C, rfl, T, hno, .inl ⟨ea, hq⟩⟩
end
section
variable {X : Cx} {P : Zc → Prop} {k j : Nat} {c n : Str} {e : Expr} {te : ZE} {p pos pos2 : Pos}
def zRaiseF (ez : Str → Option (Str × D) → Prop) (c n : Str) (te : ZE) : ZS := fun _ S => te S fun d _ => ez c (some (n, d))
theorem sd_raiseF {ez : Str → Option (Str × D) → Prop} (h : Ei X.prog X.w X.K X.mg X.base j c n) (C : Cd k X P) (hg : Gl X c) (hez : ∀ Z, P Z → ∀ c g, ez c g → Z.ez c g) (he : PD X P e te) (hj : j + 1 ≤ k := by decide) (hs : starEach [e] X.env = (false, eval e X.env) :: starEach [] X.env := by rfl) (hdb : (c == ("__debug__" : Str)) = false := by decide)
    (hpl : (backTo pos (starEach [] X.env)).any (·.1) = false := by rfl) :
    PSd X P (.Raise (some (.Call (.Name c p) [e] [] pos)) none pos2) (zRaiseF ez c n te) := by
  obtain ⟨Ca, fI, fd, ps, hC, T, iC, tI, hno, hb, F⟩ := h.ex
  obtain ⟨t0, p0, q0⟩ := he.ex
  refine ⟨_, ps_raise C.calm C.tk (pmk_oex (ds := []) (dvs := []) T iC tI F (Room.mono C.hr hj) hb .nil pass0 hg hC (pa_cons p0 pa_nil hs) hdb hs hpl), fun Z hZ S σ H E D0 ok h i => q0 Z hZ S σ H _ _ ok h fun d S1 v H1 g1 o f r => ?_⟩
  refine ⟨Nat.le_of_ble_eq_true rfl, fun a ha => ⟨a, Ca, v, rfl, T, hno, upd_same, fun dx hdx hne => ⟨rfl, dx, [(n, v)], upd_same, ?_, ?_, ?_⟩⟩⟩
  · rw [upd_ne hne, upd_same]
  · rw [upd_ne hne] at hdx; exact hdx
  · rw [upd_ne hne] at hdx
    generalize hH : upd (L2.del (upd (upd (upd H1 a (exo a Ca none)) dx (exd dx [(n, v)])) a (exo a Ca (some dx))) a) dx (.xd [(n, v)]) = H3
    have s : Same H1 H3 := fun b o eb => by
      have n1 : b ≠ a := fun z => by rw [z, ha] at eb; cases eb
      have n2 : b ≠ dx := fun z => by rw [z, hdx] at eb; cases eb
      rw [← hH, upd_ne n2, L2.del_ne n1, upd_ne n1, upd_ne n2, upd_ne n1]
      exact eb
    refine ⟨Z, hZ, c, some (n, d), hez Z hZ _ _ g1, hC, ⟨v, by rw [← hH, upd_same], r.carry (.same s fun b z => .inl z)⟩, fun b u eb nb => s b u (o.ext b u eb nb)⟩
end
end Zz

/-! The pure layer: try .. except X as n: m = n. -/
namespace Zz
open PySem PySem.Spec PyProof.Rows L2
section
variable {X : Cx} {pins : List (Addr × Obj)} {σ : L2.St} {H : Hp} {s : Shared}
theorem unsuite2 {a : Addr} {oe : Obj} {pn' : List (Addr × Obj)} (I : Inv (X.suite a ((a, oe) :: (X.pn ++ pins))) pn' σ H s) (ok : X.Ok) : Inv X ((a, oe) :: pins) σ H s :=
  ⟨ok, I.os, I.bare, I.base, I.loc, I.cell, I.free, I.freeC, fun p hp => I.pin p (List.mem_append_left _ (by
    rcases List.mem_append.mp hp with h | h
    · exact List.mem_cons_of_mem _ (List.mem_append_left _ h)
    · rcases List.mem_cons.mp h with h | h
      · rw [h]; exact List.mem_cons_self
      · exact List.mem_cons_of_mem _ (List.mem_append_right _ h))), I.hok, I.len⟩
/-- a pinned exception becomes an object that is tracked -/
theorem keep_exc {a : Addr} {oe : Obj} {vs : Array Value} {cls : Value} {d : Option Addr} (I : Inv X ((a, oe) :: pins) σ H s) (hz : L2.Zc cls d oe) (hd : oe.data = .fields vs) (h0 : ∀ o, X.s_0.heap.get? a = some o → a ∈ X.ex) (hp : ∀ p ∈ X.pn ++ pins, p.1 ≠ a) :
    Inv X pins σ (upd H a (exk a cls d)) s := by
  obtain ⟨e1, e2, e3, e4, e5⟩ := I.pin (a, oe) (List.mem_append_right _ List.mem_cons_self)
  have e1 : s.heap.get? a = some oe := e1
  have e2 : H a = none := e2
  have ne : ∀ {b : Addr} {o : HO}, H b = some o → b ≠ a := fun {b o} h z => by rw [z, e2] at h; cases h
  have new : ObjOk X.prog X.w (upd H a (exk a cls d)) s.heap a (exk a cls d) := ⟨⟨oe, vs, e1, hz.1, hz.2, hd⟩, ⟨oe, e1⟩, fun h1 h2 ⟨o, vs, q1, q2⟩ hk => ⟨o, vs, hk o q1, q2⟩⟩
  refine ⟨I.ok, I.os, I.bare, ⟨I.base.keep, I.base.slot, fun b o q1 q2 q3 => ?_, I.base.there, fun b xs q => ?_, fun b o u q => ?_, fun b ps q => ?_⟩, I.loc, I.cell, ?_, fun x c hc => ?_, fun p h => ?_, I.hok.laidN (fun _ _ q => q) e2 new, I.len⟩
  · have nb : b ≠ a := fun z => by subst z; exact q3 (h0 o q1)
    rw [upd_ne nb]
    exact I.base.free b o q1 q2 q3
  · have := I.base.tups b xs q
    rw [upd_ne (ne this)]; exact this
  · have := I.base.frzs b o u q
    rw [upd_ne (ne this)]; exact this
  · obtain ⟨more, h⟩ := I.base.tbls b ps q
    exact ⟨more, by rw [upd_ne (ne h)]; exact h⟩
  · rw [upd_ne (Ne.symm e3)]; exact I.free
  · have nc : c ≠ a := fun z => by
      obtain ⟨v, hv⟩ := I.cell x c hc
      obtain ⟨o, ho, hdat⟩ := hv
      rw [z, e1] at ho
      cases ho
      exact e5 _ hdat
    rw [upd_ne nc]; exact I.freeC x c hc
  · have := I.pin p (by
      rcases List.mem_append.mp h with h | h
      · exact List.mem_append_left _ h
      · exact List.mem_append_right _ (List.mem_cons_of_mem _ h))
    exact ⟨this.1, by rw [upd_ne (hp p h)]; exact this.2.1, this.2.2⟩
end
/-- what the clause wishes of an exception of the body: slot i is n's, slot mi m's -/
def wKeep (K : PySem.W.Frag) (c : Value) (mi i : Nat) (D : Ends) : WX := fun cls d σ H => PySem.W.exmOne K cls c = some true ∧ ∀ a, H a = none → D.nx (((σ.set i (some (.ref a))).set mi (some (.ref a))).set i none) (upd H a (exk a cls d))
section
variable {X : Cx} {x n m : Str} {c : Value} {i mi : Nat} {body : List Stmt} {np mp np2 ap pos pos' : Pos}
theorem ps_try_keep {t : TS} (hs : X.stack = X.env :: X.outer) (hf : X.env.frame = some X.env.locals) (hN : X.N.Nodup) (hi : X.N[i]? = some n) (hln : X.env.kindOf n = some .local) (hmi : X.N[mi]? = some m) (hlm : Loc X.env.scope m) (hfm : X.fn m = true ∨ X.env.scope.names.lookup m = some .local) (hc : Names X x c)
    (hvn : Vis X.env.scope n) (hd1 : (n == ("__debug__" : Str)) = false) (hd2 : (n == ("__classdict__" : Str)) = false) (hsw : swapsWith (.Name n np2) (some (.Name m mp)) ap.line X.env = pure false)
    (hb : ∀ D σ H, t D σ H → ∀ (W : WX) (pn : List (Addr × Obj)) (xe : Value → Shared → Prop), Takes (X.tr pn xe) W → PassesOwn (model X.prog X.w) X.A X.env xe → (∀ cls d σ H, wKeep X.K c mi i D cls d σ H → W cls d σ H) → ∃ tb : TS, PSs (X.tr pn xe) body tb ∧ tb D σ H) :
    PS X (.Try body [.ExceptHandler (some (.Name x np)) (some n) [.Assign [.Name m mp] (.Name n np2) ap] pos'] [] [] pos) t := by
  refine ⟨fun pins s σ H D I h => ?_⟩
  have ok := I.ok
  have hfr : X.A.frames = some (X.env :: X.outer) := by rw [ok.frames, hs]
  have hloc : Loc X.env.scope n := .inl hln
  refine wpAny_Try_except ?_
  refine wpAny_mono ((?_ : wpAny (model X.prog X.w) X.A (execs body X.env) (SP (X.tr (X.pn ++ pins) (fun e s₁ => wpAny (model X.prog X.w) X.A (noteFrame e X.env) (fun _ s₂ => wpAny (model X.prog X.w) X.A (setFlight e none) (fun _ s₃ =>
    wpAny (model X.prog X.w) X.A (handleBy e X.env [.ExceptHandler (some (.Name x np)) (some n) [.Assign [.Name m mp] (.Name n np2) ap] pos']) (SP X pins D) X.xe s₃) X.xe s₂) X.xe s₁)) [] D) (fun e s₁ => wpAny (model X.prog X.w) X.A (noteFrame e X.env) (fun _ s₂ => wpAny (model X.prog X.w) X.A (setFlight e none) (fun _ s₃ =>
    wpAny (model X.prog X.w) X.A (handleBy e X.env [.ExceptHandler (some (.Name x np)) (some n) [.Assign [.Name m mp] (.Name n np2) ap] pos']) (SP X pins D) X.xe s₃) X.xe s₂) X.xe s₁) s)) (fun f s1 hsp => ?_) (fun e s1 he => he)
  · suffices tk : Takes (X.tr (X.pn ++ pins) (fun e s₁ => wpAny (model X.prog X.w) X.A (noteFrame e X.env) (fun _ s₂ => wpAny (model X.prog X.w) X.A (setFlight e none) (fun _ s₃ =>
      wpAny (model X.prog X.w) X.A (handleBy e X.env [.ExceptHandler (some (.Name x np)) (some n) [.Assign [.Name m mp] (.Name n np2) ap] pos']) (SP X pins D) X.xe s₃) X.xe s₂) X.xe s₁)) (wKeep X.K c mi i D) from by
      obtain ⟨tb, hp, hq⟩ := hb D σ H h (wKeep X.K c mi i D) _ _ tk PassesOwn.looking fun _ _ _ _ h => h
      exact hp.run [] s σ H D (I.toTry _) hq
    intro u s' xx
    -- the catch
    obtain ⟨a, B, sI, pins', σ', H', cls, d, rfl, J', nb, up, sky, na, os, ag, hb1, hyes⟩ := xx
    have J : Inv X pins σ' H' sI := J'.ofTry ok
    have sky' : L2.Sky B (X.env :: X.outer) a (L2.Zc cls d) X.env.locals s'.heap := by rw [← hs]; exact sky
    show wpAny (model X.prog X.w) X.A (noteFrame (.ref a) X.env) _ _ _
    refine Sky.land Zc.steady hfr hf sky' fun h3 fl3 up3 => ?_
    have J3 : Inv X pins σ' H' { s' with heap := h3 } := J.landed nb fl3.1 (up.trans up3) os ag
    obtain ⟨oe3, vs3, he3, hz3, hd3⟩ := fl3.there
    have notFr : ∀ {h : Heap} {o : Obj} {vs : Array Value}, h.FunFrames B (X.env :: X.outer) → h.get? a = some o → o.data = .fields vs → a ∉ frs (X.env :: X.outer) := fun {h o vs} ff e dd hm => by
      obtain ⟨_, o', e', hnf⟩ := ff.mem hm
      rw [e] at e'; cases e'
      exact hnf _ dd
    have nfr := notFr fl3.2.2.1 he3 hd3
    have nL : a ≠ X.env.locals := fun z => nfr (List.mem_filterMap.mpr ⟨X.env, List.mem_cons_self, by rw [hf, z]⟩)
    have nF : a ∉ X.fs := fun hm => by
      obtain ⟨e, he, q⟩ := List.mem_filterMap.mp hm
      exact nfr (List.mem_filterMap.mpr ⟨e, List.mem_cons_of_mem _ he, q⟩)
    have nI : sI.heap.get? a = none := by
      cases e : sI.heap.get? a with
      | none => rfl
      | some o =>
        have z := nb a o e (by rw [hs]; exact nfr)
        rw [fl3.2.1] at z
        cases z
    have S3 := J3.suite he3 hd3 na nL nF
    refine wpAny_handleBy_cons (codeAny_handlers_test ?_) (by intro q; cases q)
    have LT : PySem.W.Looks (model X.prog X.w) h3 (typeOf (.ref a)) cls := fun A Q E s k q => wpAny_typeOf_ref (k _ _ he3) (by rw [hz3.1]; exact q)
    have LM := PySem.W.exm_one (M := model X.prog X.w) (J3.kIn) LT hb1
    have test : ∀ {Q : Value → Shared → Prop} {E : Value → Shared → Prop}, Q c { s' with heap := h3 } → wpAny (model X.prog X.w) (X.A.mark (some (.ref a))) (eval (.Name x np) X.env) Q E { s' with heap := h3 } := fun {Q E} q => by
      obtain ⟨hg, hdbg, hm | ⟨hm, hv, hnn⟩⟩ := hc
      · exact ld_glob (X := X.suite a ((a, oe3) :: (X.pn ++ pins))) S3 hg hm q hdbg
      · exact ld_blt (X := X.suite a ((a, oe3) :: (X.pn ++ pins))) S3 hg hm hv q hnn hdbg
    refine test (LM.here ?_)
    refine codeAny_handlers_suite_as ?_
    refine HandSPX.lands_againZ fl3 fun h4 fl4 up4 => ?_
    have J4 : Inv X pins σ' H' { s' with heap := h4 } := J.landed nb fl4.1 ((up.trans up3).trans up4) os ag
    obtain ⟨oe4, vs4, he4, hz4, hd4⟩ := fl4.there
    have S4 := J4.suite he4 hd4 na nL nF
    refine store_ok (X := X.suite a ((a, oe4) :: (X.pn ++ pins))) (v := .ref a) S4 hN hi hloc rfl (fun s5 S5 => ?_) (.inr hln)
    have psu : PSs (X.suite a ((a, oe4) :: (X.pn ++ pins))) [.Assign [.Name m mp] (.Name n np2) ap] (fun D σ H => ∃ v, σ[i]? = some (some v) ∧ D.nx (σ.set mi (some v)) H) := pss_one (ps_set (X := X.suite a ((a, oe4) :: (X.pn ++ pins))) (i := mi) hN hmi hlm (pe_var (X := X.suite a ((a, oe4) :: (X.pn ++ pins))) (i := i) hi hvn hd1 hd2) hsw hfm)
    have len' : i < σ'.length := by rw [J.len]; exact (List.getElem?_eq_some_iff.mp hi).1
    refine wpAny_mono (psu.run [] s5 _ H' { D with nx := fun σ6 H6 => σ6 = (σ'.set i (some (.ref a))).set mi (some (.ref a)) ∧ H6 = H', rt := fun _ _ => False, bk := fun _ _ => False, ct := fun _ _ => False } S5 ⟨.ref a, List.getElem?_set_self len', rfl, rfl⟩) (fun f s6 hsp => ?_) (fun _ _ z => False.elim z)
    cases f with
    | next =>
      obtain ⟨σ6, H6, S6, rfl, rfl⟩ := hsp
      refine gone_ok (unsuite2 S6 ok) hN hi hln fun s7 J7 => ⟨_, _, keep_exc J7 hz4 hd4 (fun o e => ?_) (fun p hp z => ?_), hyes a na⟩
      · refine Classical.byContradiction fun q => ?_
        obtain ⟨o', e'⟩ := J.base.there a o e q
        rw [nI] at e'
        cases e'
      · have := (J.pin p hp).1
        rw [z, nI] at this
        cases this
    | brk => obtain ⟨_, _, _, q⟩ := hsp; exact q.elim
    | cont => obtain ⟨_, _, _, q⟩ := hsp; exact q.elim
    | ret u => obtain ⟨_, _, _, _, _, q⟩ := hsp; exact q.elim
  · cases f with
    | next =>
      obtain ⟨σ', H', J', q⟩ := hsp
      exact wpAny_execs_nil ⟨σ', H', J'.ofTry ok, q⟩
    | brk =>
      obtain ⟨σ', H', J', q⟩ := hsp
      exact ⟨σ', H', J'.ofTry ok, q⟩
    | cont =>
      obtain ⟨σ', H', J', q⟩ := hsp
      exact ⟨σ', H', J'.ofTry ok, q⟩
    | ret u =>
      obtain ⟨v, σ', H', J', r, q⟩ := hsp
      exact ⟨v, σ', H', J'.ofTry ok, r, q⟩
end
end Zz

/-! The pure layer: caught errors: isinstance, their field; a try's reading. -/
namespace Zz
open PySem PySem.Spec PyProof.Rows L2

/-! ### the classes of errors: a base, and classes over it -/
structure EcK (K : PySem.W.Frag) (mg : Str → Option Value) (PE : Addr) (c : Str) (C : Addr) : Prop where
  mg : mg c = some (.ref C)
  X : L2.ExcC K C
  ty : PySem.W.typeIn K (.ref C) = some (.type "type")
  cls : ∃ cd, PySem.W.clsIn K C = some cd ∧ (cd.mro = [.ref C, .ref PE, .type "ValueError", .type "Exception", .type "BaseException", .type "object"] ∨ (C = PE ∧ cd.mro = [.ref PE, .type "ValueError", .type "Exception", .type "BaseException", .type "object"]))
/-- cs: the base pe among them -/
structure Errs (K : PySem.W.Frag) (mg : Str → Option Value) (pe : Str) (cs : List Str) : Prop where
  ex : ∃ (PE : Addr) (ps : List (Str × Addr)), mg pe = some (.ref PE) ∧ pe ∈ cs ∧ ps.map (·.1) = cs ∧ (∀ p ∈ ps, EcK K mg PE p.1 p.2) ∧ (ps.map (·.2)).Nodup
section
variable {K : PySem.W.Frag} {mg : Str → Option Value} {pe c c' : Str} {cs : List Str} {PE C C' : Addr}
theorem EcK.sub (h : EcK K mg PE c C) (v : Value) : PySem.W.subIn K (.ref C) v = some ([Value.ref C, .ref PE, .type "ValueError", .type "Exception", .type "BaseException", .type "object"].contains v) := by
  obtain ⟨cd, h1, h2⟩ := h.cls
  show PySem.W.mroIn K C v = _
  unfold PySem.W.mroIn
  rcases h2 with h2 | ⟨rfl, h2⟩
  · rw [h1, Option.bind_some, h2]
    rfl
  · rw [h1, Option.bind_some, h2]
    show some _ = some _
    congr 1
    rw [Bool.eq_iff_iff, List.contains_iff_mem, List.contains_iff_mem]
    simp
theorem EcK.isC (h : EcK K mg PE c C) : (PySem.W.clsIn K C).isSome = true := by
  obtain ⟨cd, h1, _⟩ := h.cls
  rw [h1]
  rfl
theorem kit_err (h : EcK K mg PE c C) (h' : EcK K mg PE c' C') : PySem.W.kitOne K (.ref C) (.ref C') = some (decide (C = C' ∨ PE = C')) := by
  unfold PySem.W.kitOne
  by_cases e : C = C'
  · subst e
    rw [if_pos (beq_self_eq_true _)]
    simp
  · have ne : ¬ ((Value.ref C == Value.ref C') = true) := fun z => by cases beq_iff_eq.mp z; exact e rfl
    rw [if_neg ne]
    show (if ((PySem.W.clsIn K C').isSome && PySem.W.typeIn K (.ref C') == some (.type "type")) = true then PySem.W.subIn K (.ref C) (.ref C') else none) = _
    rw [if_pos (by rw [h'.isC, h'.ty]; rfl), h.sub]
    congr 1
    by_cases q : PE = C'
    · subst q
      rw [decide_eq_true (Or.inr rfl)]
      exact List.contains_iff_mem.mpr (List.mem_cons_of_mem _ List.mem_cons_self)
    · rw [decide_eq_false (fun z => z.elim e q), Bool.eq_false_iff]
      intro z
      have := List.contains_iff_mem.mp z
      simp at this
      rcases this with y | y
      · exact e y.symm
      · exact q y.symm
theorem Errs.base (E : Errs K mg pe cs) : ∃ PE, mg pe = some (.ref PE) ∧ EcK K mg PE pe PE := by
  obtain ⟨PE, ps, h1, h2, h3, h4, h5⟩ := E.ex
  rw [← h3] at h2
  obtain ⟨p, hp, rfl⟩ := List.mem_map.mp h2
  have k := h4 p hp
  have e := k.mg
  rw [h1] at e
  have e := Value.ref.inj (Option.some.inj e)
  exact ⟨PE, h1, by rw [e] at k ⊢; exact k⟩
theorem Errs.get (E : Errs K mg pe cs) (h : c ∈ cs) : ∃ PE C, mg pe = some (.ref PE) ∧ EcK K mg PE c C ∧ PySem.W.exmOne K (.ref C) (.ref PE) = some true := by
  obtain ⟨PE', hb1, kb⟩ := E.base
  obtain ⟨PE, ps, h1, h2, h3, h4, h5⟩ := E.ex
  rw [hb1] at h1
  cases h1
  rw [← h3] at h
  obtain ⟨p, hp, rfl⟩ := List.mem_map.mp h
  have k := h4 p hp
  refine ⟨PE', p.2, hb1, k, ?_⟩
  unfold PySem.W.exmOne
  rw [kb.X.hs, if_pos (beq_self_eq_true _)]
  show (if ((PySem.W.clsIn K PE').isSome && PySem.W.typeIn K (.ref PE') == some (.type "type")) = true then PySem.W.subIn K (.ref p.2) (.ref PE') else none) = _
  rw [if_pos (by rw [kb.isC, kb.ty]; rfl), k.sub]
  congr 1
  exact List.contains_iff_mem.mpr (List.mem_cons_of_mem _ List.mem_cons_self)
/-- isinstance of one of them with one of them -/
theorem Errs.kit (E : Errs K mg pe cs) (h : c ∈ cs) (h' : c' ∈ cs) : ∃ C C' PE, EcK K mg PE c C ∧ mg c' = some (.ref C') ∧ PySem.W.kitOne K (.ref C) (.ref C') = some (decide (c = c') || decide (c' = pe)) := by
  obtain ⟨PE', hb1, kb⟩ := E.base
  obtain ⟨PE, ps, h1, h2, h3, h4, h5⟩ := E.ex
  rw [hb1] at h1
  cases h1
  have inj : ∀ p ∈ ps, ∀ q ∈ ps, p.2 = q.2 → p.1 = q.1 := fun p hp q hq z => by
    obtain ⟨i, hi, ei⟩ := List.mem_iff_getElem.mp hp
    obtain ⟨j, hj, ej⟩ := List.mem_iff_getElem.mp hq
    have := (List.getElem_inj (h₀ := by simpa using hi) (h₁ := by simpa using hj) h5).mp (by rw [List.getElem_map, List.getElem_map, ei, ej]; exact z)
    subst this
    rw [← ei, ← ej]
  rw [← h3] at h h' h2
  obtain ⟨p, hp, rfl⟩ := List.mem_map.mp h
  obtain ⟨q, hq, rfl⟩ := List.mem_map.mp h'
  obtain ⟨b, hb, hbe⟩ := List.mem_map.mp h2
  have k := h4 p hp
  have k' := h4 q hq
  have eb : b.2 = PE' := by
    have e := (h4 b hb).mg
    rw [hbe, hb1] at e
    exact (Value.ref.inj (Option.some.inj e)).symm
  refine ⟨p.2, q.2, PE', k, k'.mg, ?_⟩
  rw [kit_err k k']
  congr 1
  have e1 : p.2 = q.2 ↔ p.1 = q.1 := ⟨inj p hp q hq, fun z => by
    have e := k.mg
    rw [z, k'.mg] at e
    exact (Value.ref.inj (Option.some.inj e)).symm⟩
  have e2 : PE' = q.2 ↔ q.1 = pe := ⟨fun z => by rw [← hbe]; exact (inj b hb q hq (eb.trans z)).symm, fun z => by
    have e := k'.mg
    rw [z, hb1] at e
    exact Value.ref.inj (Option.some.inj e)⟩
  rw [Bool.eq_iff_iff]
  simp [e1, e2]
theorem EcK.kitV (h : EcK K mg PE c C) : PySem.W.kitOne K (.ref C) (.type "ValueError") = some true := by
  unfold PySem.W.kitOne
  rw [if_neg (fun z => by cases beq_iff_eq.mp z)]
  show (if PySem.W.kitMeta "ValueError" = true then PySem.W.subIn K (.ref C) (.type "ValueError") else none) = _
  rw [if_pos (by decide +kernel), h.sub]
  rfl
end

/-! ### isinstance, the field -/
section
open PySem.W in
theorem kin_classX {prog : Program} {w : World} {A : Around} {E : Value → Shared → Prop} {s : Shared} {K : Frag} {x D : Addr} {ox : Obj} {od : Option Obj} {Q : Option Value → Shared → Prop} (T : L2.ExcC K D) (hfo : findObj K D od "__class__" = some (.bind (.builtin "getset_descriptor.__get__") (.builtin "object.__class__")))
    (X : K.In s.heap) (I : InstAt s.heap x ox D od) (h : Q (some (.ref D)) { s with toks := s.toks + 1 }) : wpAny (model prog w) A (getAttr? (.ref x) "__class__") Q E s := by
  obtain ⟨hp, g, d, t, os⟩ := s
  have L0 := I.type (M := model prog w)
  have L1 := looks_findIn (M := model prog w) X T.hg
  have L2 := looks_findIn (M := model prog w) X T.hk
  have L3 := looks_find (M := model prog w) X I hfo
  have sub : Looks (model prog w) hp (isInstance (.ref x) (.type "BaseException")) true := L0.andThen (looks_subIn X T.hs)
  have hx0 : (false && onTheHeap (Value.builtin "BaseException.__getattribute__")) = false := rfl
  have hx2 : (Value.builtin "BaseException.__getattribute__" == Value.builtin "object.__getattribute__") = false := by decide +kernel
  have hx1 : (onTheHeap (Value.ref D) && Value.builtin "BaseException.__getattribute__" == Value.builtin "object.__getattribute__") = false := by rw [hx2]; rfl
  unfold getAttr? getAttrBy? getAttrBy
  refine wpAny_bind (wpAny_mkText (wpAny_bind (wpAny_attempt (wpAny_holding (wpAny_bind (L0.at (wpAny_bind (L1.at ?_))))))))
  show wpAny _ _ (if (onTheHeap (Value.ref D) && Value.builtin "BaseException.__getattribute__" == Value.builtin "object.__getattribute__") = true then _ else _) _ _ _
  rw [hx1, if_neg Bool.false_ne_true]
  unfold getAttrByItsOwn hookBefore
  refine wpAny_bind ?_
  rw [if_pos (show onTheHeap (Value.ref D) = true from rfl)]
  refine L2.at ?_
  refine wpAny_bind (wpAny_attempt (wpAny_holding ?_))
  unfold callGetattribute
  rw [hx0, if_neg Bool.false_ne_true]
  unfold boundAndCalled
  rw [PySem.F.excAttr_ValueError.ga.bind (.ref x)]
  refine wpAny_bind (wpAny_pure ?_)
  show wpAny _ _ (call (.builtin "BaseException.__getattribute__") [.ref x, .str "__class__" t]) _ _ _
  refine wpAny_call (codeAny_call_builtin PySem.F.excAttr_ValueError.ga.plain PySem.F.entry_bexc_ga ?_)
  refine @check_slot (model prog w) _ _ ⟨hp, g, d, t + 1, os⟩ "BaseException.__getattribute__" "BaseException" "__getattribute__" (.ref x) [.str "__class__" t] [] _ (by decide +kernel) (by decide +kernel) sub (PySem.F.args_bexc_ga (.ref x) (.str "__class__" t)) ?_
  unfold Builtin.«object.__getattribute__»
  refine wpAny_bind (wpAny_of_eq (a := ((Value.ref x : Value), [Value.str "__class__" t])) (by first | rfl | (simp only [slotArgs]; rfl)) ?_)
  refine wpAny_bind (wpAny_pure (wpAny_bind (L0.at (wpAny_bind (L3.at ?_)))))
  show wpAny _ _ (holding [Value.builtin "object.__class__"] (call (.builtin "getset_descriptor.__get__") [.builtin "object.__class__", .ref x, .ref D]) >>= ret) _ _ _
  refine wpAny_bind (wpAny_holding (wpAny_call (class_get (s := ⟨hp, g, d, t + 1, os⟩) (ox := ox) (od := od) X I T.hm ?_)))
  refine wpAny_pure ?_
  show wpAny _ _ (handedOut (.ref D)) _ _ _
  rw [handedOut_of (v := .ref D) rfl]
  first
    | exact wpAny_pure (wpAny_pure h)
    | exact wpAny_pure h
    | exact wpAny_pure (wpAny_bind (wpAny_pure (wpAny_pure h)))
open PySem.W in
theorem kitx_exc {K : Frag} {x D : Addr} {ox : Obj} {od : Option Obj} (T : L2.ExcC K D) (hfo : findObj K D od "__class__" = some (.bind (.builtin "getset_descriptor.__get__") (.builtin "object.__class__"))) : KitX K (.ref x) (.ref D) (fun h => InstAt h x ox D od) where
  ty := fun _ _ _ I => I.type
  it := fun _ _ X _ => by
    obtain ⟨cdD, hcD, _⟩ := any_some T.hd
    unfold clsIn at hcD
    split at hcD
    · rename_i c' d' cd' sl' ho
      intro A' Q' E' s' k q
      unfold isType loadHead
      exact wpAny_bind (wpAny_loadPart (k _ _ (X _ _ ho)) (wpAny_pure q))
    · cases hcD
  ne := fun h tp dd its n sl X htp => by
    obtain ⟨cdD, hcD, _⟩ := any_some T.hd
    refine Bool.eq_false_iff.mpr fun q => ?_
    have e : D = tp := Value.ref.inj (beq_iff_eq.mp q)
    subst e
    unfold clsIn at hcD
    split at hcD
    · rename_i c' d' cd' sl' ho
      have z := (X _ _ ho).symm.trans htp
      cases z
    · cases hcD
  ca := fun X I k => kin_classX T hfo X I k
theorem fo_cls {K : PySem.W.Frag} {D : Addr} {od : Option Obj} (T : L2.ExcC K D) : PySem.W.findObj K D od "__class__" = some (.bind (.builtin "getset_descriptor.__get__") (.builtin "object.__class__")) := by
  have hc : (PySem.W.clsIn K D).isSome = true := by
    obtain ⟨cd, hc, _⟩ := PySem.W.any_some T.hd
    rw [hc]
    rfl
  cases od with
  | none => exact PySem.W.findObj_dataN hc T.ha T.hn T.ht
  | some o => exact PySem.W.findObj_data hc T.ha T.hn T.ht
variable {X : Cx}
/-- an exception that is tracked, as the library's lookups have it -/
theorem exk_inst {pins : List (Addr × Obj)} {σ : L2.St} {H : Hp} {s : Shared} {a D : Addr} {d : Option Addr} (I : Inv X pins σ H s) (h : H a = some (exk a (.ref D) d)) (hd : ∀ dx, d = some dx → ∃ fs, H dx = some (.xd fs)) : ∃ ox od, PySem.W.InstAt s.heap a ox D od := by
  have ho : ObjOk X.prog X.w H s.heap a (exk a (.ref D) d) := I.hok a _ h
  obtain ⟨⟨o, vs, h1, h2, h3, h4⟩, _⟩ := ho
  cases d with
  | none => exact ⟨o, none, h1, h2, by unfold PySem.W.notCls; rw [h4] <;> rfl, by rw [h3]; trivial⟩
  | some dx =>
    obtain ⟨fs, hf⟩ := hd dx rfl
    have hx : ObjOk X.prog X.w H s.heap dx (.xd fs) := I.hok dx _ hf
    obtain ⟨mA, hns, hr⟩ := hx
    obtain ⟨od, ho, _⟩ := lookIn_ns hns
    exact ⟨o, some od, h1, h2, by unfold PySem.W.notCls; rw [h4] <;> rfl, by rw [h3]; exact ho⟩
def rIsX (K : PySem.W.Frag) : List V → Hp → VK → Prop := fun xs H Q => ∃ (a D : Addr) (d : Option Addr) (c : V) (cv : Value) (b : Bool), xs = [.ref a, c] ∧ H a = some (exk a (.ref D) d) ∧ (∀ dx, d = some dx → ∃ fs, H dx = some (.xd fs)) ∧ L2.ExcC K D ∧ (∀ u, RelV c u → u = cv) ∧ PySem.W.kitOne K (.ref D) cv = some b ∧ Q (.bl b) H
theorem call_isX : CallR X (.builtin "isinstance") (rIsX X.K) := by
  intro pins s σ H xs us Q I r h
  obtain ⟨a, D, d, c, cv, b, rfl, h1, h2, T, hcv, e, q⟩ := h
  cases r with
  | cons rx rr =>
    cases rr with
    | cons rt rr =>
      cases rr
      cases rx
      have ec := hcv _ rt
      subst ec
      obtain ⟨ox, od, J⟩ := exk_inst I h1 h2
      exact PySem.W.kia_one (kitx_exc T (fo_cls T)) I.kIn J e (fun z => nomatch z) fun tk => ⟨.bl b, H, I.kept (t' := tk) fun _ _ z => z, rfl, q⟩
end
section
variable {X : Cx} {P : Zc → Prop} {e : Expr} {p p2 pos : Pos} {va : ZV} {c pe : Str} {cs : List Str}
/-- isinstance(e, c), e a caught error -/
def isB (pe c' c : Str) : Bool := decide (c' = c) || decide (c = pe) || decide (c = "ValueError")
def zIsiE (pe : Str) (cs : List Str) (c : Str) (va : ZV) : ZE := fun S Q => va S fun d S1 => match d with
  | .sh (.exc c' _) => c' ∈ cs ∧ Q (.bl (isB pe c' c)) S1
  | _ => False
theorem rep_exk {K : PySem.W.Frag} {mg : Str → Option Value} {H : Hp} {av : Addr → Prop} {v : V} {f : Option (Str × D)} (r : Rep K mg H av v (.exc c f)) : ∃ a C d, v = .ref a ∧ mg c = some (.ref C) ∧ H a = some (exk a (.ref C) d) ∧ (∀ dx, d = some dx → ∃ fs, H dx = some (.xd fs)) := by
  cases r with
  | exc0 h m => exact ⟨_, _, _, rfl, m, h, fun _ z => by cases z⟩
  | exc1 h m h2 r => exact ⟨_, _, _, rfl, m, h, fun _ z => by cases z; exact ⟨_, h2⟩⟩
theorem pd_isiE (hg : Gl X "isinstance") (hm : X.mg "isinstance" = none) (hg2 : Gl X c) (E : Errs X.K X.mg pe cs) (ha : PV X P e va) (hc : c ∈ cs) (hnv : c ≠ "ValueError" := by decide) (hdb : (c == ("__debug__" : Str)) = false := by decide)
    (he : starEach [e, .Name c p2] X.env = (false, eval e X.env) :: starEach [.Name c p2] X.env := by rfl) (he2 : starEach [.Name c p2] X.env = (false, eval (.Name c p2) X.env) :: starEach [] X.env := by rfl)
    (hpl : (backTo pos (starEach [.Name c p2] X.env)).any (·.1) = false := by rfl) : PD X P (.Call (.Name "isinstance" p) [e, .Name c p2] [] pos) (zIsiE pe cs c va) := by
  obtain ⟨t0, p0, q0⟩ := ha.ex
  obtain ⟨_, C0, _, kc, _⟩ := E.get hc
  have hC0 := kc.mg
  refine ⟨_, pe_callB call_isX hg hm (by decide +kernel) (pa_cons p0 (pa_cons (pe_glob (v := .ref C0) hg2 hC0 rfl hdb) pa_nil he2) he) (by decide) (by decide) he hpl, fun Z hZ S σ H Qz Q ok h k => q0 Z hZ S σ H _ _ ok h fun d S1 v H1 g1 o1 f1 r1 => ?_⟩
  split at g1
  · rename_i c' f
    obtain ⟨hc1, g1⟩ := g1
    unfold isB at g1
    obtain ⟨a, C, dd, rfl, hm', h1, h2⟩ := rep_exk r1
    obtain ⟨C1, C2, PE, k1, k2, k3⟩ := E.kit hc1 hc
    rw [hC0] at k2
    cases k2
    have := k1.mg
    rw [hm'] at this
    cases this
    refine ⟨a, C, dd, .ref C0, .ref C0, _, rfl, h1, h2, k1.X, fun u hu => hu, k3, ?_⟩
    rw [decide_eq_false hnv, Bool.or_false] at g1
    exact k _ S1 _ H1 g1 o1 f1 (.bl _)
  · exact g1.elim
theorem pd_isiV (hg : Gl X "isinstance") (hm : X.mg "isinstance" = none) (hg2 : Gl X "ValueError") (hm2 : X.mg "ValueError" = none) (E : Errs X.K X.mg pe cs) (ha : PV X P e va)
    (he : starEach [e, .Name "ValueError" p2] X.env = (false, eval e X.env) :: starEach [.Name "ValueError" p2] X.env := by rfl) (he2 : starEach [.Name "ValueError" p2] X.env = (false, eval (.Name "ValueError" p2) X.env) :: starEach [] X.env := by rfl)
    (hpl : (backTo pos (starEach [.Name "ValueError" p2] X.env)).any (·.1) = false := by rfl) : PD X P (.Call (.Name "isinstance" p) [e, .Name "ValueError" p2] [] pos) (zIsiE pe cs "ValueError" va) := by
  obtain ⟨t0, p0, q0⟩ := ha.ex
  refine ⟨_, pe_callB call_isX hg hm (by decide +kernel) (pa_cons p0 (pa_cons (pe_bltn (v := .ty "ValueError") hg2 hm2 PyProof.Rows.Boot.«ValueError» rfl (by decide) (by decide)) pa_nil he2) he) (by decide) (by decide) he hpl, fun Z hZ S σ H Qz Q ok h k => q0 Z hZ S σ H _ _ ok h fun d S1 v H1 g1 o1 f1 r1 => ?_⟩
  split at g1
  · rename_i c' f
    obtain ⟨hc1, g1⟩ := g1
    unfold isB at g1
    obtain ⟨a, C, dd, rfl, hm', h1, h2⟩ := rep_exk r1
    obtain ⟨PE, C1, _, k1, _⟩ := E.get hc1
    have := k1.mg
    rw [hm'] at this
    cases this
    refine ⟨a, C, dd, .ty "ValueError", .type "ValueError", true, rfl, h1, h2, k1.X, fun u hu => hu, k1.kitV, ?_⟩
    simp only [decide_true, Bool.or_true] at g1
    exact k _ S1 _ H1 g1 o1 f1 (.bl true)
  · exact g1.elim
/-- e.n, e a caught error with this field -/
def zExF (cs : List Str) (n : Str) (va : ZV) : ZE := fun S Q => va S fun d S1 => match d with
  | .sh (.exc c (some (m, x))) => c ∈ cs ∧ m = n ∧ Q x S1
  | _ => False
theorem pd_exF {cs0 : List Str} (E : Errs X.K X.mg pe cs0) (hsub : ∀ c ∈ cs, c ∈ cs0) {n : Str} (hno : ∀ c ∈ cs, ∀ C, X.mg c = some (.ref C) → PySem.W.findIn X.K (.ref C) n = some none) (ha : PV X P e va) (hb : attributeBase e n X.env (eval e X.env) = eval e X.env := by rfl) : PD X P (.Attribute e n pos) (zExF cs n va) := by
  obtain ⟨t0, p0, q0⟩ := ha.ex
  refine ⟨fun σ H Q => t0 σ H fun x H1 => ∃ a C dx y, x = .ref a ∧ L2.ExcC X.K C ∧ PySem.W.findIn X.K (.ref C) n = some none ∧ H1 a = some (exk a (.ref C) (some dx)) ∧ H1 dx = some (.xd [(n, y)]) ∧ Q y H1, ⟨fun pins s σ H Q I h => ?_⟩, fun Z hZ S σ H Qz Q ok h kq => q0 Z hZ S σ H _ _ ok h fun dv S1 v H1 h1 o1 f1 r1 => ?_⟩
  · refine attr_of hb (thn (p0.run pins s σ H _ I h) fun u s1 ⟨x, H1, I1, rx, a, C, dx, y, ex, T, hn, ea, ed, q⟩ => ?_)
    subst ex
    obtain rfl : u = Value.ref a := rx
    have ho : ObjOk X.prog X.w H1 s1.heap a (exk a (.ref C) (some dx)) := I1.hok a _ ea
    obtain ⟨⟨o, vs, h1, h2, h3, h4⟩, _⟩ := ho
    have hx : ObjOk X.prog X.w H1 s1.heap dx (.xd [(n, y)]) := I1.hok dx _ ed
    obtain ⟨mA, hns, hr⟩ := hx
    obtain ⟨od, ho, hl⟩ := lookIn_ns hns
    obtain ⟨u, hu, ru⟩ := RelO.some_of (v := y) (o := mA n) (by have := hr n; rwa [show List.lookup n [(n, y)] = some y by simp [List.lookup]] at this)
    have J : PySem.W.InstAt s1.heap a o C (some od) := ⟨h1, h2, by unfold PySem.W.notCls; rw [h4] <;> rfl, by rw [h3]; exact ho⟩
    exact HandSPX.exc_get I1.kIn J T.hg T.hk T.hs (PySem.W.findObj_own T.hd hn rfl (by rw [hl, hu])) (handed_of ru) ⟨y, H1, I1.tok _, ru, q⟩
  · split at h1
    · rename_i c m x
      obtain ⟨hc, rfl, h1⟩ := h1
      have r1 : Rep X.K X.mg H1 (avs Z S1 σ) v (.exc c (some (m, x))) := r1
      cases r1 with
      | exc1 e1 e2 e3 e4 =>
        obtain ⟨PE, C1, _, k1, _⟩ := E.get (hsub c hc)
        have := k1.mg
        rw [e2] at this
        cases this
        exact ⟨_, _, _, _, rfl, k1.X, hno c hc _ e2, e1, e3, kq x S1 _ H1 h1 o1 f1 e4⟩
    · exact h1.elim
end
end Zz

/-! The pure layer: try .. except X as n: m = n, over data. -/
namespace Zz
open PySem PySem.Spec PyProof.Rows L2
/-- a wish of an exception: its class, its field, the slots there -/
abbrev ZWs := Str → Option (Str × D) → SS → Prop
def ImpW (X : Cx) (Z : Zc) (S : SS) (σ : L2.St) (H : Hp) (w : ZWs) (W : WX) : Prop := ∀ c f S' σ' H' cls dd, w c f S' → Ok X Z S' σ' H' → Frm X Z S σ H S' σ' H' → X.mg c = some cls → XF X.K X.mg (avs Z S' σ') dd f H' → W cls dd σ' H'
theorem ImpW.frm {X : Cx} {Z : Zc} {S S' : SS} {σ σ' : L2.St} {H H' : Hp} {w : ZWs} {W : WX} (i : ImpW X Z S σ H w W) (f : Frm X Z S σ H S' σ' H') : ImpW X Z S' σ' H' w W := fun c g S'' σ'' H'' cls dd h o fr hm xf => i c g S'' σ'' H'' cls dd h o (f.trans fr) hm xf
/-- a statement in a try's body -/
structure PXd (X : Cx) (P : Zc → Prop) (st : Stmt) (t : ZWs → ZS) : Prop where
  ex : ∀ (W : WX) (pn : List (Addr × Obj)) (xe : Value → Shared → Prop), Takes (X.tr pn xe) W → PassesOwn (model X.prog X.w) X.A X.env xe → ∃ t0 : TS, PS (X.tr pn xe) st t0 ∧
    ∀ (Z : Zc), P Z → ∀ (S : SS) (σ : L2.St) (H : Hp) (E : ZD) (w : ZWs) (D0 : Ends), Ok X Z S σ H → t w E S → Imp X Z S σ H E D0 → ImpW X Z S σ H w W → t0 D0 σ H
structure PXsd (X : Cx) (P : Zc → Prop) (st : List Stmt) (t : ZWs → ZS) : Prop where
  ex : ∀ (W : WX) (pn : List (Addr × Obj)) (xe : Value → Shared → Prop), Takes (X.tr pn xe) W → PassesOwn (model X.prog X.w) X.A X.env xe → ∃ t0 : TS, PSs (X.tr pn xe) st t0 ∧
    ∀ (Z : Zc), P Z → ∀ (S : SS) (σ : L2.St) (H : Hp) (E : ZD) (w : ZWs) (D0 : Ends), Ok X Z S σ H → t w E S → Imp X Z S σ H E D0 → ImpW X Z S σ H w W → t0 D0 σ H
def NoE (P : Zc → Prop) : Zc → Prop := fun Z => ∃ Z0, P Z0 ∧ Z = { Z0 with ez := fun _ _ => False }
theorem Cd.tr {k : Nat} {X : Cx} {P : Zc → Prop} (C : Cd k X P) {pn : List (Addr × Obj)} {xe : Value → Shared → Prop} (po : PassesOwn (model X.prog X.w) X.A X.env xe) : Cd k (X.tr pn xe) (NoE P) :=
  ⟨C.hr, C.gd, C.calm, C.nd, po, fun u s' ⟨_, _, _, _, _, _, _, _, _, _, _, _, _, _, _, _, c⟩ => by
    obtain ⟨Z', ⟨Z, _, e1⟩, c', f, h, _⟩ := c
    subst e1
    exact h.elim, fun Z p ⟨Z0, h0, e⟩ => ⟨_, C.cl Z0 p h0, by rw [e]⟩⟩
theorem NoBag.noE {P : Zc → Prop} (h : NoBag P) : NoBag (NoE P) := fun Z ⟨Z0, h0, e⟩ => by rw [e]; exact h Z0 h0
section
variable {X : Cx} {Z : Zc} {S : SS} {σ : L2.St} {H : Hp}
variable {pn : List (Addr × Obj)} {xe : Value → Shared → Prop} {ez0 : Str → Option (Str × D) → Prop}
theorem Ok.ez (ok : Ok X Z S σ H) : Ok (X.tr pn xe) { Z with ez := ez0 } S σ H := ⟨ok.len, ok.nm, ok.gi, ⟨ok.sl.sh, ok.sl.ow, ok.sl.gh⟩, ok.inj, ok.own, ok.ext, ok.avd, ok.bag, ok.gow, ok.ginj, ok.gown⟩
theorem Ok.ofEz (ok : Ok (X.tr pn xe) { Z with ez := ez0 } S σ H) : Ok X Z S σ H := ⟨ok.len, ok.nm, ok.gi, ⟨ok.sl.sh, ok.sl.ow, ok.sl.gh⟩, ok.inj, ok.own, ok.ext, ok.avd, ok.bag, ok.gow, ok.ginj, ok.gown⟩
theorem Frm.ofEz {S' : SS} {σ' : L2.St} {H' : Hp} (f : Frm (X.tr pn xe) { Z with ez := ez0 } S σ H S' σ' H') : Frm X Z S σ H S' σ' H' := ⟨f.rp, f.pr⟩
theorem Imp.ez {E : ZD} {D0 : Ends} (i : Imp X Z S σ H E D0) : Imp (X.tr pn xe) { Z with ez := ez0 } S σ H E D0 :=
  ⟨fun _ _ _ h o f => i.nx _ _ _ h o.ofEz f.ofEz, fun r _ _ _ _ h o f rr => i.rt r _ _ _ _ h o.ofEz f.ofEz (by
    cases r with
    | sh d => exact rr
    | ow xs => obtain ⟨a, e, fr⟩ := rr; exact ⟨a, e, ⟨fr.at_, fr.new, fr.nav, ⟨fr.sl.sh, fr.sl.ow, fr.sl.gh⟩⟩⟩
    | un => exact rr
    | gh _ _ => exact rr), fun _ _ _ h o f => i.bk _ _ _ h o.ofEz f.ofEz, fun _ _ _ h o f => i.ct _ _ _ h o.ofEz f.ofEz⟩
end
section
variable {X : Cx} {P : Zc → Prop} {k : Nat} {st : Stmt} {rest : List Stmt} {t u : ZWs → ZS} {pos : Pos}
theorem xsd_one (h : PXd X P st t) : PXsd X P [st] t := ⟨fun W pn xe tk po => by
  obtain ⟨t0, p0, q0⟩ := h.ex W pn xe tk po
  exact ⟨_, pss_one p0, q0⟩⟩
def zSeqX (t u : ZWs → ZS) : ZWs → ZS := fun w E S => t w { E with nx := u w E } S
theorem xsd_cons (h1 : PXd X P st t) (h2 : PXsd X P rest u) : PXsd X P (st :: rest) (zSeqX t u) := ⟨fun W pn xe tk po => by
  obtain ⟨t0, p0, q0⟩ := h1.ex W pn xe tk po
  obtain ⟨t1, p1, q1⟩ := h2.ex W pn xe tk po
  exact ⟨_, pss_cons p0 p1, fun Z hZ S σ H E w D0 ok h i iw => q0 Z hZ S σ H _ w _ ok h ⟨fun S' σ' H' h2 o f => q1 Z hZ S' σ' H' E w D0 o h2 (i.frm f) (iw.frm f), i.rt, i.bk, i.ct⟩ iw⟩⟩
theorem xsd_nil : PXsd X P [] (fun _ => zNext) := ⟨fun W pn xe tk po => ⟨_, pss_nil, fun Z hZ S σ H E w D0 ok h i iw => i.nx S σ H h ok .refl⟩⟩
def zPl (t : ZS) : ZWs → ZS := fun _ => t
/-- a statement that raises nothing -/
theorem xd_plain {t : ZS} (C : Cd k X P) (h : ∀ (pn : List (Addr × Obj)) (xe : Value → Shared → Prop), Cd k (X.tr pn xe) (NoE P) → PSd (X.tr pn xe) (NoE P) st t) : PXd X P st (zPl t) := ⟨fun W pn xe tk po => by
  obtain ⟨t0, p0, q0⟩ := (h pn xe (C.tr po)).ex
  exact ⟨t0, p0, fun Z hZ S σ H E w D0 ok h i iw => q0 { Z with ez := fun _ _ => False } ⟨Z, hZ, rfl⟩ S σ H E D0 ok.ez h i.ez⟩⟩
def zIfX (c : ZT) (t u : ZWs → ZS) : ZWs → ZS := fun w E S => c S fun b S1 => (b = true → t w E S1) ∧ (b = false → u w E S1)
theorem xd_if {c : Expr} {a b : List Stmt} {tc : ZT} (C : Cd k X P) (hc : ∀ (pn : List (Addr × Obj)) (xe : Value → Shared → Prop), Cd k (X.tr pn xe) (NoE P) → PTd (X.tr pn xe) (NoE P) c tc) (ha : PXsd X P a t) (hb : PXsd X P b u) : PXd X P (.If c a b pos) (zIfX tc t u) := ⟨fun W pn xe tk po => by
  obtain ⟨tC, pC, qC⟩ := (hc pn xe (C.tr po)).ex
  obtain ⟨t0, p0, q0⟩ := ha.ex W pn xe tk po
  obtain ⟨t1, p1, q1⟩ := hb.ex W pn xe tk po
  refine ⟨_, ps_if pC p0 p1, fun Z hZ S σ H E w D0 ok h i iw => qC { Z with ez := fun _ _ => False } ⟨Z, hZ, rfl⟩ S σ H _ _ ok.ez h fun b S1 H1 h1 o f => ?_⟩
  cases b with
  | true => exact iteT (q0 Z hZ S1 σ H1 E w D0 o.ofEz (h1.1 rfl) (i.frm f.ofEz) (iw.frm f.ofEz))
  | false => exact iteF (q1 Z hZ S1 σ H1 E w D0 o.ofEz (h1.2 rfl) (i.frm f.ofEz) (iw.frm f.ofEz))⟩
end
/-! ### a call that may raise -/
section
variable {X : Cx} {W : WX} {k : Nat} {f : Addr} {fd : FuncData} {ps : List Str} {sp : Sp} {x : Str} {p pos : Pos} {e : Expr} {es : List Expr} {t : TA}
theorem run_fnpS {pins : List (Addr × Obj)} {σ : L2.St} {H : Hp} {s : Shared} {Q : VK} {us : List Value} {vs : List V} (F : FnP X.prog X.w X.K X.mg X.base k f fd ps sp) (hr : Room k X.A) (hg : X.A.guards = some []) (hb : Binds X.K fd ps []) (tk : Takes X W)
    (I : Inv X pins σ H s) (r : Vals vs us) (h : sp vs H Q (fun cls d H' => W cls d σ H')) : wpAny (model X.prog X.w) X.A (call (.ref f) us) (EP X pins σ Q) X.xe s := by
  have hl : us.length = ps.length := by rw [← r.length]; exact F.len _ _ _ _ h
  have b := hb s us I.kIn (by rw [List.append_nil]; exact hl)
  rw [List.append_nil] at b
  refine wpAny_call (codeAny_mono (F.run X.A X.stack s H ⟨us, []⟩ us vs Q _ hr hg I.env0 b r h) fun res s' hq => ?_)
  cases res with
  | error e => exact tk _ _ (XE.of_call I (fun _ _ _ h => h) hq)
  | ok fl =>
    cases fl with
    | ret u => exact I.after hq
    | _ => exact hq.elim
theorem pe_callpS (F : FnP X.prog X.w X.K X.mg X.base k f fd ps sp) (hr : Room k X.A) (hgd : X.A.guards = some []) (hg : Gl X x) (hm : X.mg x = some (.ref f)) (hk : PySem.W.keepIn X.K (.ref f) = true) (hb : Binds X.K fd ps []) (tk : Takes X W)
    (ha : PA X (e :: es) t) (hdb : (x == ("__debug__" : Str)) = false := by decide) (he : starEach (e :: es) X.env = (false, eval e X.env) :: starEach es X.env := by rfl) (hpl : (backTo pos (starEach es X.env)).any (·.1) = false := by rfl) :
    PE X (.Call (.Name x p) (e :: es) [] pos) (fun σ H Q => t σ H fun vs H1 => sp vs H1 Q (fun cls d H' => W cls d σ H')) :=
  ⟨fun pins s σ H Q I h => wpAny_Call_Name_kw (ld_glob I hg hm (PySem.W.callWith_K (h₀ := X.base) I.ok.mod.kin hk (thn (ha.run pos pins s σ H _ I h) fun us s1 ⟨vs, H1, I1, r, q⟩ => ⟨I1.kIn, run_fnpS F hr hgd hb tk I1 r q⟩) he hpl) hdb)⟩
end
section
variable {X : Cx} {P : Zc → Prop} {k j : Nat} {x : Str} {p pos pos2 : Pos} {e : Expr} {es : List Expr} {ta : ZA}
/-- f(..) as a statement -/
def zCallX (sp : ZSp) (ta : ZA) : ZWs → ZS := fun w E S => ta S fun ds S1 => sp ds (slD fun _ => E.nx S1) fun c f => w c f S1
theorem xd_call {sp : ZSp} (F : Df X.prog X.w X.K X.mg X.base j x (spZ X.K X.mg sp)) (C : Cd k X P) (hg : Gl X x) (ha : ∀ (pn : List (Addr × Obj)) (xe : Value → Shared → Prop), Cd k (X.tr pn xe) (NoE P) → PAd (X.tr pn xe) (NoE P) (e :: es) ta) (hj : j ≤ k := by decide)
    (hs : swapsWith (.Call (.Name x p) (e :: es) [] pos) none pos2.line X.env = pure false := by rfl) (hdb : (x == ("__debug__" : Str)) = false := by decide) (he : starEach (e :: es) X.env = (false, eval e X.env) :: starEach es X.env := by rfl) (hpl : (backTo pos (starEach es X.env)).any (·.1) = false := by rfl) :
    PXd X P (.Expr (.Call (.Name x p) (e :: es) [] pos) pos2) (zCallX sp ta) := ⟨fun W pn xe tk po => by
  obtain ⟨f, fd, ps, hm, hk, hb, F⟩ := F.ex
  obtain ⟨t0, p0, q0⟩ := (ha pn xe (C.tr po)).ex
  refine ⟨_, ps_expr (pe_callpS (X := X.tr pn xe) (F.mono hj) C.hr C.gd hg hm hk hb tk p0 hdb he hpl) hs, fun Z hZ S σ H E w D0 ok h i iw => ?_⟩
  refine q0 { Z with ez := fun _ _ => False } ⟨Z, hZ, rfl⟩ S σ H _ _ ok.ez h fun ds S1 vs H1 h1 o1 f1 r1 => ?_
  have o1 : Ok X Z S1 σ H1 := o1.ofEz
  have f1 : Frm X Z S σ H S1 σ H1 := f1.ofEz
  refine ⟨avs Z S1 σ, ds, _, _, r1, h1, o1.avsd, fun res v H' q s r => ?_, fun c g cls dd H' q s hc hf => iw c g S1 σ H' cls dd q (o1.same s) (f1.trans (.same o1 s)) hc hf⟩
  cases res with
  | sh d => exact i.nx _ _ _ q (o1.same s) (f1.trans (.same o1 s))
  | ow xs => exact i.nx _ _ _ q (o1.same s) (f1.trans (.same o1 s))
  | un => exact q.elim
  | gh _ _ => exact q.elim⟩
end
/-! ### the try -/
def zTryK (cs : List Str) (i mi : Nat) (tb : ZWs → ZS) : ZS := fun E S => tb (fun c f S1 => c ∈ cs ∧ E.nx (((S1.set i (.sh (.exc c f))).set mi (.sh (.exc c f))).set i .un)) E S
section
variable {X : Cx} {P : Zc → Prop} {k i mi : Nat} {x n m : Str} {cs : List Str} {body : List Stmt} {tb : ZWs → ZS} {np mp np2 ap pos pos' : Pos}
theorem exc_rep {K : PySem.W.Frag} {mg : Str → Option Value} {H : Hp} {av : Addr → Prop} {a C : Addr} {c : Str} {dd : Option Addr} {f : Option (Str × D)} (ha : H a = none) (hm : mg c = some (.ref C)) (xf : XF K mg av dd f H) : Rep K mg (upd H a (exk a (.ref C) dd)) av (.ref a) (.exc c f) := by
  have s : Same H (upd H a (exk a (.ref C) dd)) := Same.upd ha
  unfold XF at xf
  split at xf
  · exact .exc0 upd_same hm
  · obtain ⟨v, h1, h2⟩ := xf
    exact .exc1 upd_same hm (s _ _ h1) (h2.carry (.same s fun _ z => z))
  · exact xf.elim
theorem sd_tryK (Er : Errs X.K X.mg x cs) (C : Cd k X P) (hbi : ∀ Z, P Z → Z.bag = none ∨ i ≠ 0) (hbm : ∀ Z, P Z → Z.bag = none ∨ mi ≠ 0) (hb : PXsd X P body tb) (hg : Gl X x)
    (hs : X.stack = X.env :: X.outer := by rfl) (hf : X.env.frame = some X.env.locals := by rfl) (hi : X.N[i]? = some n := by rfl) (hln : X.env.kindOf n = some .local := by rfl) (hmi : X.N[mi]? = some m := by rfl) (hlm : Loc X.env.scope m := by first | exact Or.inl rfl | exact Or.inr rfl)
    (hfm : X.fn m = true ∨ X.env.scope.names.lookup m = some .local := by first | exact .inl rfl | exact .inr rfl) (hdx : (x == ("__debug__" : Str)) = false := by decide)
    (hvn : Vis X.env.scope n := by first | exact Or.inl rfl | exact Or.inr (Or.inl rfl) | exact Or.inr (Or.inr rfl)) (hd1 : (n == ("__debug__" : Str)) = false := by decide) (hd2 : (n == ("__classdict__" : Str)) = false := by decide) (hsw : swapsWith (.Name n np2) (some (.Name m mp)) ap.line X.env = pure false := by rfl) :
    PSd X P (.Try body [.ExceptHandler (some (.Name x np)) (some n) [.Assign [.Name m mp] (.Name n np2) ap] pos'] [] [] pos) (zTryK cs i mi tb) := by
  obtain ⟨PE, hPE, _⟩ := Er.base
  refine ⟨_, ps_try_keep (t := fun D σ H => ∀ (W : WX) (pn : List (Addr × Obj)) (xe : Value → Shared → Prop), Takes (X.tr pn xe) W → PassesOwn (model X.prog X.w) X.A X.env xe → (∀ cls d σ H, wKeep X.K (.ref PE) mi i D cls d σ H → W cls d σ H) → ∃ tb : TS, PSs (X.tr pn xe) body tb ∧ tb D σ H)
    hs hf C.nd hi hln hmi hlm hfm ⟨hg, hdx, .inl hPE⟩ hvn hd1 hd2 hsw (fun D σ H h => h), fun Z hZ S σ H E D0 ok h j W pn xe tk po hw => ?_⟩
  obtain ⟨t0, p0, q0⟩ := hb.ex W pn xe tk po
  refine ⟨t0, p0, q0 Z hZ S σ H E _ D0 ok h j fun c f S' σ' H' cls dd hE o fr hm xf => hw _ _ _ _ ?_⟩
  obtain ⟨hc, hE⟩ := hE
  obtain ⟨PE', Cc, k1, k2, k3⟩ := Er.get hc
  rw [hPE] at k1
  cases k1
  have := k2.mg
  rw [hm] at this
  cases this
  refine ⟨k3, fun a ha => ?_⟩
  have s : Same H' (upd H' a (exk a (.ref Cc) dd)) := Same.upd ha
  have r := exc_rep (av := avs Z S' σ') ha hm xf
  obtain ⟨o2, c2⟩ := (o.same s).setSh (i := i) r (hbi Z hZ) (nlt hi)
  obtain ⟨o3, c3⟩ := o2.setSh (i := mi) (r.carry c2) (hbm Z hZ) (nlt hmi)
  obtain ⟨o4, k4⟩ := o3.setUn (i := i) (hbi Z hZ)
  exact j.nx _ _ _ hE o4 (fr.trans ((Frm.same o s).trans ((frm_set c2).trans ((frm_set c3).trans (.of (.same (Same.refl _) k4) fun _ _ => rfl)))))
end
end Zz

/-! The pure layer: xs * k, texts joined by +, str(i), {}, errors made as values. -/
namespace Zz
open PySem PySem.Spec PyProof.Rows L2
section
variable {X : Cx} {P : Zc → Prop} {a b e : Expr} {p pos : Pos} {ta tb te : ZE} {va : ZV}
/-- xs * k, a list -/
def zRep (ta tb : ZE) : ZA := fun S Q => ta S fun d S1 => tb S1 fun e S2 => match d, e with
  | .lst xs, .int k => (-(2 ^ 63) ≤ k ∧ k < 2 ^ 63 ∧ xs.length * k.toNat ≤ sizeLine) ∧ Q (List.replicate k.toNat xs).flatten S2
  | _, _ => False
theorem Reps.rep {K : PySem.W.Frag} {mg : Str → Option Value} {H : Hp} {av : Addr → Prop} {vs : List V} {ds : List D} (r : Reps K mg H av vs ds) : ∀ n : Nat, Reps K mg H av (List.replicate n vs).flatten (List.replicate n ds).flatten
  | 0 => .nil
  | n + 1 => by
    rw [List.replicate_succ, List.replicate_succ, List.flatten_cons, List.flatten_cons]
    exact r.append (Reps.rep r n)
theorem pf_rep (ha : PD X P a ta) (hb : PD X P b tb) : PF X P (.BinOp a .Mult b pos) (zRep ta tb) := by
  obtain ⟨t0, p0, q0⟩ := ha.ex
  obtain ⟨t1, p1, q1⟩ := hb.ex
  refine ⟨_, pe_op op_rep p0 p1, fun Z hZ S σ H Qz Q ok h k => ?_⟩
  refine q0 Z hZ S σ H _ _ ok h fun d S1 v H1 h1 o1 f1 r1 => ?_
  refine q1 Z hZ S1 σ H1 _ _ o1 h1 fun e S2 u H2 h2 o2 f2 r2 => ?_
  split at h2
  · obtain ⟨l, us, rfl, g1, g2⟩ := (f2.rp _ _ r1).lst_inv
    obtain rfl := r2.int_inv
    exact ⟨l, _, us, rfl, rfl, g1, h2.1.1, h2.1.2.1, by rw [g2.length]; exact h2.1.2.2, fresh_k o2 (f1.trans f2) (g2.rep _) h2.2 k⟩
  · exact h2.elim
/-- s + t, texts -/
def fCatS : D → D → (D → Prop) → Prop := fun d e Q => match d, e with
  | .str s, .str t => s.length + t.length ≤ sizeLine ∧ Q (.str (s ++ t))
  | _, _ => False
theorem opz_catS {K mg} : OpZ K mg (fun x y H Q => ∃ i j, x = .str i ∧ y = .str j ∧ i.length + j.length ≤ sizeLine ∧ Q (.str (i ++ j)) H) fCatS := by
  intro H av x y d e Qd Q _ r1 r2 h k
  unfold fCatS at h
  split at h
  · obtain rfl := r1.str_inv
    obtain rfl := r2.str_inv
    exact ⟨_, _, rfl, rfl, h.1, k _ _ H h.2 (Same.refl H) (.str _)⟩
  · exact h.elim
abbrev zCatS := zOp fCatS
theorem pd_catS (ha : PD X P a ta) (hb : PD X P b tb) : PD X P (.BinOp a .Add b pos) (zCatS ta tb) := pd_op op_add_str opz_catS ha hb
/-- str(i) -/
def fStrI : ZB := fun ds Q => match ds with
  | [.int i] => i.natAbs.log2 < 1920 ∧ Q (.str (toString i))
  | _ => False
theorem bz_strI {K mg} : BltZ K mg (fun xs H Q => ∃ i, xs = [.int i] ∧ i.natAbs.log2 < 1920 ∧ Q (.str (toString i)) H) fStrI := by
  intro H av vs ds Qd Q _ r h k
  unfold fStrI at h
  split at h
  · obtain ⟨v, rfl, r1⟩ := reps1 r
    obtain rfl := r1.int_inv
    exact ⟨_, rfl, h.1, k _ _ H h.2 (Same.refl H) (.str _)⟩
  · exact h.elim
/-- {} -/
def zDic : ZE := fun S Q => Q .dic S
theorem pd_dic : PD X P (.Dict [] [] pos) zDic := ⟨_, pe_dnewK, fun Z hZ S σ H Qz Q ok h k a ha => by
  have s : Same H (upd H a (.dK [])) := Same.upd ha
  exact k .dic S _ _ h (ok.same s) (.same ok s) (.dic upd_same fun z => ok.avsd a z ha)⟩

/-! ### an error as a value -/
def tOfMk (t : L2.St → Hp → XK → Prop) : TE := fun σ H Q => t σ H fun cls d H' => ∀ a, H' a = none → Q (.ref a) (upd H' a (exk a cls d))
theorem pe_of_mk {t : L2.St → Hp → XK → Prop} (h : PMk X e t) : PE X e (tOfMk t) := by
  refine ⟨fun pins s σ H Q I hq => ?_⟩
  refine wpAny_mono (h pins s σ H _ I hq) (fun u s1 hu => ?_) fun _ _ x => x
  obtain ⟨a, oe, vs, sI, H', cls, d, rfl, J, k, hne, ha, hz, hd, h1, na, os, ag, r, q⟩ := hu
  have J1 : Inv X pins σ H' { sI with gens := s1.gens, os := s1.os, drawn := s1.drawn, toks := s1.toks } := ⟨J.ok, os.trans J.os, ag, J.base, J.loc, J.cell, J.free, J.freeC, J.pin, J.hok, J.len⟩
  have new : ObjOk X.prog X.w (upd H' a (exk a cls d)) s1.heap a (exk a cls d) := ⟨⟨oe, vs, ha, hz.1, hz.2, hd⟩, ⟨oe, ha⟩, fun h1 h2 ⟨o, vs, q1, q2⟩ hk => ⟨o, vs, hk o q1, q2⟩⟩
  exact ⟨.ref a, _, J1.laidN (h' := s1.heap) (t' := s1.toks) k hne na new, rfl, q a na⟩
variable {k j : Nat} {c n : Str}
/-- C(e), C an own class of errors without __init__ -/
def zExcV (c : Str) (te : ZE) : ZE := fun S Q => te S fun _ S1 => Q (.exc c none) S1
theorem pd_excV (h : Er X.K X.mg c) (hg : Gl X c) (he : PD X P e te) (hs : starEach [e] X.env = (false, eval e X.env) :: starEach [] X.env := by rfl) (hdb : (c == ("__debug__" : Str)) = false := by decide) :
    PD X P (.Call (.Name c p) [e] [] pos) (zExcV c te) := by
  obtain ⟨Ca, hC, h1, h2, h3, h4⟩ := h.ex
  obtain ⟨t0, p0, q0⟩ := he.ex
  refine ⟨_, pe_of_mk (SkE.pmk_own1 PySem.F.excBase_ValueError h1 hC h2 (raises_own h3 h4) hg p0 hs hdb), fun Z hZ S σ H Qz Q ok h kq => q0 Z hZ S σ H _ _ ok h fun d S1 v H1 g1 o f r a ha => ?_⟩
  have s : Same H1 (upd H1 a (exk a (.ref Ca) none)) := Same.upd ha
  exact kq _ S1 _ _ g1 (o.same s) (f.trans (.same o s)) (.exc0 upd_same hC)
def zExcF (c n : Str) (te : ZE) : ZE := fun S Q => te S fun d S1 => Q (.exc c (some (n, d))) S1
theorem pd_excF (h : Ei X.prog X.w X.K X.mg X.base j c n) (C : Cd k X P) (hg : Gl X c) (he : PD X P e te) (hj : j + 1 ≤ k := by decide) (hs : starEach [e] X.env = (false, eval e X.env) :: starEach [] X.env := by rfl) (hdb : (c == ("__debug__" : Str)) = false := by decide)
    (hpl : (backTo pos (starEach [] X.env)).any (·.1) = false := by rfl) : PD X P (.Call (.Name c p) [e] [] pos) (zExcF c n te) := by
  obtain ⟨Ca, fI, fd, ps, hC, T, iC, tI, hno, hb, F⟩ := h.ex
  obtain ⟨t0, p0, q0⟩ := he.ex
  refine ⟨_, pe_of_mk (pmk_oex (ds := []) (dvs := []) T iC tI F (Room.mono C.hr hj) hb .nil pass0 hg hC (pa_cons p0 pa_nil hs) hdb hs hpl), fun Z hZ S σ H Qz Q ok h kq => q0 Z hZ S σ H _ _ ok h fun d S1 v H1 g1 o f r => ?_⟩
  refine ⟨Nat.le_of_ble_eq_true rfl, fun a ha => ⟨a, Ca, v, rfl, T, hno, upd_same, fun dx hdx hne => ⟨rfl, dx, [(n, v)], upd_same, ?_, ?_, ?_⟩⟩⟩
  · rw [upd_ne hne, upd_same]
  · rw [upd_ne hne] at hdx; exact hdx
  · rw [upd_ne hne] at hdx
    generalize hH : upd (L2.del (upd (upd (upd H1 a (exo a Ca none)) dx (exd dx [(n, v)])) a (exo a Ca (some dx))) a) dx (.xd [(n, v)]) = H3
    have s : Same H1 H3 := fun b o eb => by
      have n1 : b ≠ a := fun z => by rw [z, ha] at eb; cases eb
      have n2 : b ≠ dx := fun z => by rw [z, hdx] at eb; cases eb
      rw [← hH, upd_ne n2, L2.del_ne n1, upd_ne n1, upd_ne n2, upd_ne n1]
      exact eb
    have hd : H3 dx = some (.xd [(n, v)]) := by rw [← hH, upd_same]
    intro a2 ha2
    have s2 : Same H3 (upd H3 a2 (exk a2 (.ref Ca) (some dx))) := Same.upd ha2
    have s3 : Same H1 (upd H3 a2 (exk a2 (.ref Ca) (some dx))) := fun b o e => s2 b o (s b o e)
    exact kq _ S1 _ _ g1 (o.same s3) (f.trans (.same o s3)) (.exc1 upd_same hC (s2 _ _ hd) (r.carry (.same s3 fun _ z => z)))
end

/-! ### C(..) in a try -/
section
variable {X : Cx} {W : WX} {P : Zc → Prop} {k : Nat} {f C : Addr} {fd : FuncData} {ps : List Str} {sp : Sp} {x : Str} {p pos : Pos} {e : Expr} {es : List Expr} {t : TA} {ta : ZA}
theorem run_makePS {pins : List (Addr × Obj)} {σ : L2.St} {H : Hp} {s : Shared} {Q : VK} {us : List Value} {vs : List V} (M : Mk X.K C f) (F : FnP X.prog X.w X.K X.mg X.base k f fd ps sp) (hr : Room (k + 1) X.A) (hgd : X.A.guards = some []) (hb : Binds X.K fd ps [])
    (tk : Takes X W) (I : Inv X pins σ H s) (r : Vals vs us)
    (h : ∀ x dx, H x = none → H dx = none → dx ≠ x → sp (.ref x :: vs) (upd (upd H dx (.own x)) x (.ins C dx [])) (fun v H2 => v = .non ∧ Q (.ref x) H2) (fun cls d H' => W cls d σ H')) :
    wpAny (model X.prog X.w) X.A (call (.ref C) us) (EP X pins σ Q) X.xe s := by
  have q := h (s.heap.objs.size + 1) s.heap.objs.size (I.hok.fresh (Nat.le_succ _)) (I.hok.fresh (Nat.le_refl _)) (Nat.ne_of_lt (Nat.lt_succ_self _))
  have J := Inv.made (C := C) I
  have rr : Vals (V.ref (s.heap.objs.size + 1) :: vs) (Value.ref (s.heap.objs.size + 1) :: us) := .cons rfl r
  have hl : (Value.ref (s.heap.objs.size + 1) :: us).length = ps.length := by
    rw [← rr.length]
    exact F.len _ _ _ _ q
  have bd := hb _ (Value.ref (s.heap.objs.size + 1) :: us) J.kIn (by rw [List.append_nil]; exact hl)
  rw [List.append_nil] at bd
  refine wpAny_call (make_map (f := f) I.kIn M.makes M.init (beq_iff_eq.mp M.fn) (codeAny_mono (F.run _ X.stack _ _ ⟨Value.ref (s.heap.objs.size + 1) :: us, []⟩ _ _ _ _ (hr.make C us []) (by rw [under_guards]; exact hgd) (J.env0.make C us []) bd rr q) fun res z hz => ?_))
  cases res with
  | error er => exact tk _ _ (XE.of_call J (fun _ _ _ h => h) hz)
  | ok fl =>
    cases fl with
    | ret u =>
      obtain ⟨v, H', J2, rv, ev, q3⟩ := J.after hz
      subst ev
      exact ⟨rv, V.ref (s.heap.objs.size + 1), H', J2, rfl, q3⟩
    | _ => exact hz.elim
theorem pe_makePS (M : Mk X.K C f) (F : FnP X.prog X.w X.K X.mg X.base k f fd ps sp) (hr : Room (k + 1) X.A) (hgd : X.A.guards = some []) (hg : Gl X x) (hm : X.mg x = some (.ref C)) (hb : Binds X.K fd ps []) (tk : Takes X W)
    (ha : PA X (e :: es) t) (hdb : (x == ("__debug__" : Str)) = false := by decide) (he : starEach (e :: es) X.env = (false, eval e X.env) :: starEach es X.env := by rfl) (hpl : (backTo pos (starEach es X.env)).any (·.1) = false := by rfl) :
    PE X (.Call (.Name x p) (e :: es) [] pos) (fun σ H Q => tMake C sp [] (fun cls d H' => W cls d σ H') t σ H Q) := by
  refine ⟨fun pins z σ H Q I h => wpAny_Call_Name_kw (ld_glob I hg hm (PySem.W.callWith_K (h₀ := X.base) I.ok.mod.kin M.kp (thn (ha.run pos pins z σ H _ I h) fun us s1 ⟨vs, H1, I1, r, q⟩ => ⟨I1.kIn, run_makePS M F hr hgd hb tk I1 r fun y dy h1 h2 h3 => ?_⟩) he hpl) hdb)⟩
  have := q y dy h1 h2 h3
  rwa [List.append_nil] at this
end
section
variable {X : Cx} {P : Zc → Prop} {k j : Nat} {c : Str} {p pos pos2 : Pos} {e : Expr} {es : List Expr} {ta : ZA} {sp : ZSp}
theorem xd_make (F : Kl X.prog X.w X.K X.mg X.base j c sp) (C : Cd k X P) (hg : Gl X c) (ha : ∀ (pn : List (Addr × Obj)) (xe : Value → Shared → Prop), Cd k (X.tr pn xe) (NoE P) → PAd (X.tr pn xe) (NoE P) (e :: es) ta) (hj : j + 1 ≤ k := by decide)
    (hs : swapsWith (.Call (.Name c p) (e :: es) [] pos) none pos2.line X.env = pure false := by rfl) (hdb : (c == ("__debug__" : Str)) = false := by decide)
    (he : starEach (e :: es) X.env = (false, eval e X.env) :: starEach es X.env := by rfl) (hpl : (backTo pos (starEach es X.env)).any (·.1) = false := by rfl) : PXd X P (.Expr (.Call (.Name c p) (e :: es) [] pos) pos2) (zCallX sp ta) := ⟨fun W pn xe tk po => by
  obtain ⟨Ca, f, fd, ps, hm, M, hb, F⟩ := F.ex
  obtain ⟨t0, p0, q0⟩ := (ha pn xe (C.tr po)).ex
  refine ⟨_, ps_expr (pe_makePS (X := X.tr pn xe) M F (Room.mono C.hr hj) C.gd hg hm hb tk p0 hdb he hpl) hs, fun Z hZ S σ H E w D0 ok h i iw => ?_⟩
  refine q0 { Z with ez := fun _ _ => False } ⟨Z, hZ, rfl⟩ S σ H _ _ ok.ez h fun ds S1 vs H1 h1 o1 f1 r1 => fun x dx hx hd ne => ?_
  have o1 : Ok X Z S1 σ H1 := o1.ofEz
  have f1 : Frm X Z S σ H S1 σ H1 := f1.ofEz
  have ax : ¬ avs Z S1 σ x := fun z => o1.avsd x z hx
  have nx : (upd H1 dx (.own x)) x = none := by rw [upd_ne (Ne.symm ne)]; exact hx
  have kc : Carry H1 (upd (upd H1 dx (.own x)) x (.ins Ca dx [])) (avs Z S1 σ) (fun a => avs Z S1 σ a ∨ a = x) :=
    ((Carry.new hd).trans (Carry.new nx)).trans (.same (Same.refl _) fun a z => z.elim (fun z => .inl (.inl z)) .inr)
  have old : ∀ {H' : Hp}, (∀ a o, (upd (upd H1 dx (.own x)) x (.ins Ca dx [])) a = some o → a ≠ x → H' a = some o) → Same H1 H' := fun {H'} s a o ea => by
    have n1 : a ≠ x := fun z => by rw [z, hx] at ea; cases ea
    have n2 : a ≠ dx := fun z => by rw [z, hd] at ea; cases ea
    exact s a o (by rw [upd_ne n1, upd_ne n2]; exact ea) n1
  rw [List.append_nil]
  refine ⟨x, Ca, dx, avs Z S1 σ, vs, ds, _, _, rfl, upd_same, hm, r1.carry kc, fun a z e => ?_, h1, fun fs vfs H' q s hx' rf => ⟨rfl, ?_⟩, fun cc g cls dd H' q s hc hf => iw cc g S1 σ H' cls dd q (o1.same (old s)) (f1.trans (.same o1 (old s))) hc hf⟩
  · have n1 : a ≠ x := fun y => ax (y ▸ z)
    have n2 : a ≠ dx := fun y => o1.avsd a z (y ▸ hd)
    rw [upd_ne n1, upd_ne n2] at e
    exact o1.avsd a z e
  · exact i.nx _ _ _ q (o1.same (old s)) (f1.trans (.same o1 (old s)))⟩
end

/-! ### x in xs, x not in xs as a value -/
section
variable {X : Cx} {P : Zc → Prop} {a b : Expr} {pos : Pos} {ta : ZE} {vb : ZV}
def zInD (neg : Bool) (ta : ZE) (tb : ZV) : ZE := fun S Q => ta S fun d S1 => tb S1 fun e S2 => ∃ xs, cnt S2 e = some xs ∧ ∃ v vs, d.flat = some v ∧ D.flats xs = some vs ∧ flatV v = true ∧ vs.all flatV = true ∧ Q (.bl (if neg then !inV v vs else inV v vs)) S2
theorem pd_in (ha : PD X P a ta) (hb : PV X P b vb) (hm : behindInMarks .In b = false := by rfl) : PD X P (.Compare a [.In] [b] pos) (zInD false ta vb) := by
  obtain ⟨t0, p0, q0⟩ := ha.ex
  obtain ⟨t1, p1, q1⟩ := hb.ex
  refine ⟨_, pe_cmpR op_in_seq p0 p1 hm, fun Z hZ S σ H Qz Q ok h k => ?_⟩
  refine q0 Z hZ S σ H _ _ ok h fun d S1 v H1 h1 ok1 f1 r1 => ?_
  refine q1 Z hZ S1 σ H1 _ _ ok1 h1 fun e S2 u H2 h2 ok2 f2 r2 => ?_
  obtain ⟨xs, h3, w, ws, h4, h5, h6, h7, h8⟩ := h2
  obtain ⟨p, vs, rfl, h9, h10⟩ := cnt_at ok2 r2 h3
  obtain rfl := rep_flat r1 h4
  obtain rfl := reps_flats h10 h5
  exact ⟨p, vs, rfl, h9, h6, h7, k _ S2 _ H2 h8 ok2 (f1.trans f2) (.bl _)⟩
theorem pd_notin (ha : PD X P a ta) (hb : PV X P b vb) (hm : behindInMarks .NotIn b = false := by rfl) : PD X P (.Compare a [.NotIn] [b] pos) (zInD true ta vb) := by
  obtain ⟨t0, p0, q0⟩ := ha.ex
  obtain ⟨t1, p1, q1⟩ := hb.ex
  refine ⟨_, pe_cmpR op_notIn_seq p0 p1 hm, fun Z hZ S σ H Qz Q ok h k => ?_⟩
  refine q0 Z hZ S σ H _ _ ok h fun d S1 v H1 h1 ok1 f1 r1 => ?_
  refine q1 Z hZ S1 σ H1 _ _ ok1 h1 fun e S2 u H2 h2 ok2 f2 r2 => ?_
  obtain ⟨xs, h3, w, ws, h4, h5, h6, h7, h8⟩ := h2
  obtain ⟨p, vs, rfl, h9, h10⟩ := cnt_at ok2 r2 h3
  obtain rfl := rep_flat r1 h4
  obtain rfl := reps_flats h10 h5
  exact ⟨p, vs, rfl, h9, h6, h7, k _ S2 _ H2 h8 ok2 (f1.trans f2) (.bl _)⟩
end
end Zz

/-! The pure layer: repr of data with empty dicts in it. -/
namespace Zz
open PySem PySem.Spec PyProof.Rows L2
mutual
inductive DpZ (K : PySem.W.Frag) (H : Hp) : V → PyData → Prop
  | non : DpZ K H .non .none
  | bl (b : Bool) : DpZ K H (.bl b) (.bool b)
  | int (i : Int) : DpZ K H (.int i) (.int i)
  | str (x : Str) : DpZ K H (.str x) (.str x)
  | lst {a : Addr} {xs : List V} {ds : List PyData} : SqL K H a xs → DpZs K H xs ds → DpZ K H (.ref a) (.list ds)
  | tup {a : Addr} {xs : List V} {ds : List PyData} : SqT K H a xs → DpZs K H xs ds → DpZ K H (.ref a) (.tuple ds)
  | dic {a : Addr} : H a = some (.dK []) → DpZ K H (.ref a) (.dict [])
inductive DpZs (K : PySem.W.Frag) (H : Hp) : List V → List PyData → Prop
  | nil : DpZs K H [] []
  | cons {v : V} {vs : List V} {d : PyData} {ds : List PyData} : DpZ K H v d → DpZs K H vs ds → DpZs K H (v :: vs) (d :: ds)
end
section
variable {X : Cx} {pins : List (Addr × Obj)} {σ : L2.St} {H : Hp} {s : Shared}
theorem dic_at (I : Inv X pins σ H s) {a : Addr} (h : H a = some (.dK [])) : ∃ o es n, s.heap.get? a = some o ∧ o.cls = .type "dict" ∧ o.data = .dict es n ∧ es.toList = [] ∧ (a == sysModules) = false := by
  obtain ⟨_, hS, vs, rel, dd⟩ := dk_of I.hok h
  cases rel
  obtain ⟨o, es, ep, h1, h2, h3, h4, h5, h6⟩ := dd
  refine ⟨o, es, ep, h1, h2.1, h3, ?_, hS⟩
  cases h : es.toList with
  | nil => rfl
  | cons e r => rw [h] at h5; cases h5
mutual
theorem DpZ.k (I : Inv X pins σ H s) : ∀ (d : PyData) (v : V) (u : Value), DpZ X.K H v d → RelV v u → d.showable = true → d.shown.length ≤ sizeLine →
    ∃ as bs, Reads s.heap u d as ∧ ReadAtMost s.heap d.depth bs ∧ ReprK X.prog X.w bs s.heap d.depth u d.shown
  | .none, _, _, h, r, _, _ => by
    cases h
    cases r
    exact ⟨_, [], Reads.none, (fun _ h => nomatch h), by simp only [PyData.shown]; exact .of_is ReprIs.none _ _ _⟩
  | .bool b, _, _, h, r, _, _ => by
    cases h
    cases r
    exact ⟨_, [], Reads.bool b, (fun _ h => nomatch h), by simp only [PyData.shown]; exact .of_is (ReprIs.bool b) _ _ _⟩
  | .int i, _, _, h, r, hs, _ => by
    cases h
    obtain ⟨t, rfl⟩ := r
    exact ⟨_, [], Reads.int i t, (fun _ h => nomatch h), by simp only [PyData.shown]; exact .of_is (ReprIs.int t (by simpa [PyData.showable] using hs)) _ _ _⟩
  | .str x, _, _, h, r, _, hz => by
    cases h
    obtain ⟨t, rfl⟩ := r
    exact ⟨_, [], Reads.str x t, (fun _ h => nomatch h), by simp only [PyData.shown]; exact .of_is (ReprIs.str x t (by simpa only [PyData.shown] using hz)) _ _ _⟩
  | .list xs, _, _, h, r, hs, hz => by
    cases h with
    | @lst a ys _ hq ha =>
      cases r
      obtain ⟨its, rv, ⟨o, n, ho, hc, _, hd⟩, _⟩ := I.list hq
      have hz' : (listText (PyData.shownAll xs)).length ≤ sizeLine := by simpa only [PyData.shown] using hz
      obtain ⟨as, bs, hr, hb, hk⟩ := DpZs.k I xs _ its ha rv (by simpa [PyData.showable] using hs) (fun t ht => Nat.le_trans (listText_mem_le ht) hz')
      have r : Reads s.heap (.ref a) (.list xs) _ := .list ho hc hd hr
      have hna : a ∉ bs := not_mem_of_deeper r (by simp only [PyData.depth]; omega) hb
      refine ⟨_, a :: bs, r, ReadAtMost.cons r (by simp only [PyData.depth]; omega) hb, ?_⟩
      simp only [PyData.depth, PyData.shown]
      cases its with
      | nil =>
        cases hr
        simp only [PyData.shownAll, listText_nil]
        exact ReprK.listEmpty ho hc hd
      | cons x l => exact ReprK.list ho hc hd hna (by simpa using hk.length_eq) (fun i y e => hk.item i y (by simpa using e))
  | .tuple xs, _, _, h, r, hs, hz => by
    cases h with
    | @tup a ys _ hq ha =>
      cases r
      obtain ⟨its, rv, ⟨o, ho, hc, n, hd⟩, _⟩ := I.tuple hq
      have hz' : (tupleText (PyData.shownAll xs)).length ≤ sizeLine := by simpa only [PyData.shown] using hz
      obtain ⟨as, bs, hr, hb, hk⟩ := DpZs.k I xs _ its ha rv (by simpa [PyData.showable] using hs) (fun t ht => Nat.le_trans (tupleText_mem_le ht) hz')
      have r : Reads s.heap (.ref a) (.tuple xs) _ := .tuple ho hc hd hr
      have hna : a ∉ bs := not_mem_of_deeper r (by simp only [PyData.depth]; omega) hb
      refine ⟨_, a :: bs, r, ReadAtMost.cons r (by simp only [PyData.depth]; omega) hb, ?_⟩
      simp only [PyData.depth, PyData.shown]
      exact ReprK.tuple ho hc hd hna hk
  | .dict kvs, _, _, h, r, hs, hz => by
    cases h with
    | @dic a ha =>
      cases r
      obtain ⟨o, es, n, ho, hc, hd, he, hsys⟩ := dic_at I ha
      have h4 : ReadsAll s.heap (es.toList.map (·.key)) (([] : List (PyData × PyData)).map (·.1)) [] := by rw [he]; exact .nil
      have h5 : ReadsAll s.heap (es.toList.map (·.val)) (([] : List (PyData × PyData)).map (·.2)) [] := by rw [he]; exact .nil
      have r : Reads s.heap (.ref a) (.dict []) _ := .dict ho hc hd h4 h5
      refine ⟨_, [a], r, ReadAtMost.cons (bs := []) r (Nat.le_refl _) (fun _ h => nomatch h), ?_⟩
      have k1 : ReprAllK X.prog X.w ([] : List Addr) s.heap (PyData.depthKv []) (es.toList.map (·.key)) (PyData.shownAll (([] : List (PyData × PyData)).map (·.1))) := by rw [he]; exact .nil
      have k2 : ReprAllK X.prog X.w ([] : List Addr) s.heap (PyData.depthKv []) (es.toList.map (·.val)) (PyData.shownAll (([] : List (PyData × PyData)).map (·.2))) := by rw [he]; exact .nil
      simp only [PyData.depth, PyData.shown, PyData.shownKv_eq]
      exact ReprK.dict (as := []) ho hc hd hsys List.not_mem_nil (ReprEntriesK.of_two es.toList _ _ k1 k2)
theorem DpZs.k (I : Inv X pins σ H s) : ∀ (ds : List PyData) (vs : List V) (us : List Value), DpZs X.K H vs ds → Vals vs us → PyData.showableAll ds = true → (∀ t ∈ PyData.shownAll ds, t.length ≤ sizeLine) →
    ∃ as bs, ReadsAll s.heap us ds as ∧ ReadAtMost s.heap (PyData.depthAll ds) bs ∧ ReprAllK X.prog X.w bs s.heap (PyData.depthAll ds) us (PyData.shownAll ds)
  | [], _, _, h, r, _, _ => by
    cases h
    cases r
    exact ⟨_, [], ReadsAll.nil, (fun _ h => nomatch h), by simp only [PyData.shownAll]; exact .nil⟩
  | d :: ds, _, _, h, r, hs, hz => by
    cases h with
    | cons h1 h2 =>
      cases r with
      | cons r1 r2 =>
        have hs' : d.showable = true ∧ PyData.showableAll ds = true := by simpa [PyData.showableAll] using hs
        obtain ⟨as, b1, q1, hb1, k1⟩ := DpZ.k I d _ _ h1 r1 hs'.1 (hz _ (by simp only [PyData.shownAll]; exact List.mem_cons_self ..))
        obtain ⟨bs, b2, q2, hb2, k2⟩ := DpZs.k I ds _ _ h2 r2 hs'.2 (fun t ht => hz t (by simp only [PyData.shownAll]; exact List.mem_cons_of_mem _ ht))
        refine ⟨_, b1 ++ b2, ReadsAll.cons q1 q2, ?_, ?_⟩
        · intro b hm
          simp only [PyData.depthAll]
          rcases List.mem_append.mp hm with hm | hm
          · obtain ⟨d', as', r', hd'⟩ := hb1 b hm
            exact ⟨d', as', r', Nat.le_trans hd' (Nat.le_max_left _ _)⟩
          · obtain ⟨d', as', r', hd'⟩ := hb2 b hm
            exact ⟨d', as', r', Nat.le_trans hd' (Nat.le_max_right _ _)⟩
        · simp only [PyData.depthAll, PyData.shownAll]
          exact .cons ((k1.more fun b hb => List.mem_append_left _ hb).level_le (Nat.le_max_left _ _)) (k2.more_le (fun b hb => List.mem_append_right _ hb) (Nat.le_max_right _ _))
end
end
section
variable {X : Cx}
theorem cr_reprZ (hgd : X.A.guards = some []) (hu : X.A.units + 64 < cLine) : CallR X (.builtin "repr") (fun xs H Q => ∃ (x : V) (p : PyData), xs = [x] ∧ DpZ X.K H x p ∧ p.showable = true ∧ p.depth ≤ 60 ∧ p.shown.length ≤ sizeLine ∧ Q (.str p.shown) H) := by
  intro pins s σ H xs us Q I r h
  obtain ⟨x, p, rfl, hd, h1, h3, h4, q⟩ := h
  obtain ⟨u, rfl, ru⟩ := Vals.one r
  have fin : ∀ h' tk t, (∀ b o, s.heap.get? b = some o → h'.get? b = some o) → EP X pins σ Q (.str p.shown t) { s with heap := h', toks := tk } := fun h' tk t k => ⟨.str p.shown, H, I.kept (t' := tk) k, ⟨t, rfl⟩, q⟩
  have fin2 : ∀ h' t tk, (∀ b o, s.heap.get? b = some o → h'.get? b = some o) → ∃ x t', Value.str p.shown t = .str x t' ∧ EP X pins σ Q (.str p.shown t) { s with heap := h', toks := tk } := fun h' t tk k => ⟨_, _, rfl, fin h' tk t k⟩
  cases hd with
  | non => cases ru; exact PySem.P.repr_of_none (fin s.heap _ _ fun _ _ z => z)
  | bl b => cases ru; exact PySem.P.repr_of_bool (fin s.heap _ _ fun _ _ z => z)
  | int i => obtain ⟨t, rfl⟩ := ru; exact PySem.P.repr_of_int (by simpa [PyData.showable] using h1) (fin s.heap _ _ fun _ _ z => z)
  | str y => obtain ⟨t, rfl⟩ := ru; exact PySem.P.repr_of_str (fin s.heap _ _ fun _ _ z => z) h4
  | @lst a ys xs hq ha =>
    cases ru
    obtain ⟨its, rv, ⟨o, n, ho, hc, _, hd⟩, _⟩ := I.list hq
    have hz' : (listText (PyData.shownAll xs)).length ≤ sizeLine := by simpa only [PyData.shown] using h4
    obtain ⟨as, bs, hr, hb, hk⟩ := DpZs.k I xs _ its ha rv (by simpa [PyData.showable] using h1) (fun t ht => Nat.le_trans (listText_mem_le ht) hz')
    have hna : a ∉ bs := not_mem_of_deeper (.list ho hc hd hr) (by simp only [PyData.depth]; omega) hb
    simp only [PyData.depth] at h3
    simp only [PyData.shown] at fin2
    refine call_repr_slot (by omega) ⟨o, ho, hc⟩ PySem.F.slot_list_repr.toG ?_
    cases its with
    | nil =>
      cases hr
      simp only [PyData.shownAll, listText_nil] at fin2
      exact call_list_repr_empty ⟨o, ho, hc⟩ ho hd (fin2 s.heap _ _ fun _ _ e => e)
    | cons x l =>
      exact call_list_reprK ho hc hd hna (by simpa using hk.length_eq) (fun i y e => hk.item i y (by simpa using e)) hgd (fun b _ => Clear.nil b) (by show X.A.units + 1 + _ < _; omega) (fun _ _ e => e) (fun h' u tk k => fin2 h' u tk k) hz'
  | @tup a ys xs hq ha =>
    cases ru
    obtain ⟨its, rv, ⟨o, ho, hc, n, hd⟩, _⟩ := I.tuple hq
    have hz' : (tupleText (PyData.shownAll xs)).length ≤ sizeLine := by simpa only [PyData.shown] using h4
    obtain ⟨as, bs, hr, hb, hk⟩ := DpZs.k I xs _ its ha rv (by simpa [PyData.showable] using h1) (fun t ht => Nat.le_trans (tupleText_mem_le ht) hz')
    have hna : a ∉ bs := not_mem_of_deeper (.tuple ho hc hd hr) (by simp only [PyData.depth]; omega) hb
    simp only [PyData.depth] at h3
    simp only [PyData.shown] at fin2
    exact call_repr_slot (by omega) ⟨o, ho, hc⟩ PySem.F.slot_tuple_repr (call_tuple_reprK ho hc hd hna hk hgd (fun b _ => Clear.nil b) (by show X.A.units + 1 + _ < _; omega) (fun _ _ e => e) (fun h' u tk k => fin2 h' u tk k) hz')
  | @dic a ha =>
    cases ru
    obtain ⟨o, es, n, ho, hc, hd, he, hsys⟩ := dic_at I ha
    have k1 : ReprAllK X.prog X.w ([] : List Addr) s.heap (PyData.depthKv []) (es.toList.map (·.key)) (PyData.shownAll (([] : List (PyData × PyData)).map (·.1))) := by rw [he]; exact .nil
    have k2 : ReprAllK X.prog X.w ([] : List Addr) s.heap (PyData.depthKv []) (es.toList.map (·.val)) (PyData.shownAll (([] : List (PyData × PyData)).map (·.2))) := by rw [he]; exact .nil
    simp only [PyData.depth] at h3
    simp only [PyData.shown, PyData.shownKv_eq] at fin2
    exact call_repr_slot (by omega) ⟨o, ho, hc⟩ PySem.F.slot_dict_repr (call_dict_reprK (as := []) ho hc hd hsys List.not_mem_nil (ReprEntriesK.of_two es.toList _ _ k1 k2) hgd (fun b _ => Clear.nil b) (by show X.A.units + 1 + _ < _; omega) (fun _ _ e => e) (fun h' u tk k => fin2 h' u tk k) (by simpa only [PyData.shown, PyData.shownKv_eq] using h4))
end

/-! ### over data -/
mutual
def D.pyR : D → Option PyData
  | .non => some .none
  | .bl b => some (.bool b)
  | .int i => some (.int i)
  | .str s => some (.str s)
  | .lst xs => (D.pysR xs).map .list
  | .fls xs => (D.pysR xs).map .list
  | .tup xs => (D.pysR xs).map .tuple
  | .dic => some (.dict [])
  | _ => none
def D.pysR : List D → Option (List PyData)
  | [] => some []
  | x :: xs => x.pyR.bind fun p => (D.pysR xs).map fun ps => p :: ps
end
section
variable {K : PySem.W.Frag} {mg : Str → Option Value} {H : Hp} {av : Addr → Prop}
mutual
theorem Rep.dpZ : ∀ {v : V} {d : D} {p : PyData}, Rep K mg H av v d → d.pyR = some p → DpZ K H v p
  | _, _, _, .non, e => by simp [D.pyR] at e; subst e; exact .non
  | _, _, _, .bl b, e => by simp [D.pyR] at e; subst e; exact .bl b
  | _, _, _, .int i, e => by simp [D.pyR] at e; subst e; exact .int i
  | _, _, _, .str s, e => by simp [D.pyR] at e; subst e; exact .str s
  | _, _, _, .lst h n r, e => by
    simp only [D.pyR, Option.map_eq_some_iff] at e
    obtain ⟨ps, e, rfl⟩ := e
    exact .lst (.inl (.inl h)) (Reps.dpZ r e)
  | _, _, _, .lsf h r, e => by
    simp only [D.pyR, Option.map_eq_some_iff] at e
    obtain ⟨ps, e, rfl⟩ := e
    exact .lst h.seq (Reps.dpZ r e)
  | _, _, _, .tup h r, e => by
    simp only [D.pyR, Option.map_eq_some_iff] at e
    obtain ⟨ps, e, rfl⟩ := e
    exact .tup h (Reps.dpZ r e)
  | _, _, _, .dic h _, e => by simp [D.pyR] at e; subst e; exact .dic h
  | _, _, _, .obj _ _ _ _, e => by simp [D.pyR] at e
  | _, _, _, .adr _, e => by simp [D.pyR] at e
  | _, _, _, .exc0 _ _, e => by simp [D.pyR] at e
  | _, _, _, .exc1 _ _ _ _, e => by simp [D.pyR] at e
theorem Reps.dpZ : ∀ {vs : List V} {ds : List D} {ps : List PyData}, Reps K mg H av vs ds → D.pysR ds = some ps → DpZs K H vs ps
  | _, _, _, .nil, e => by simp [D.pysR] at e; subst e; exact .nil
  | _, _, _, .cons r t, e => by
    simp only [D.pysR, Option.bind_eq_some_iff, Option.map_eq_some_iff] at e
    obtain ⟨p, e1, ps, e2, rfl⟩ := e
    exact .cons (Rep.dpZ r e1) (Reps.dpZ t e2)
end
end
/-- repr(e), where e may hold empty dicts -/
def zReprZ (ta : ZV) : ZE := fun S Q => ta S fun d S1 => ∃ x, asD S1 d = some x ∧ ∃ p, x.pyR = some p ∧ p.showable = true ∧ p.depth ≤ 60 ∧ p.shown.length ≤ sizeLine ∧ Q (.str p.shown) S1
section
variable {X : Cx} {P : Zc → Prop} {e : Expr} {p pos : Pos} {va : ZV}
theorem pd_reprZ {k : Nat} (C : Cd k X P) (hg : Gl X "repr") (hm : X.mg "repr" = none) (ha : PV X P e va) (he : starEach [e] X.env = (false, eval e X.env) :: starEach [] X.env := by rfl) (hpl : (backTo pos (starEach [] X.env)).any (·.1) = false := by rfl) :
    PD X P (.Call (.Name "repr" p) [e] [] pos) (zReprZ va) := by
  obtain ⟨t0, p0, q0⟩ := ha.ex
  refine ⟨_, pe_callB (cr_reprZ C.gd C.hu) hg hm (by decide +kernel) (pa_cons p0 pa_nil he) (by decide) (by decide) he hpl, fun Z hZ S σ H Qz Q ok h k => q0 Z hZ S σ H _ _ ok h fun d S1 v H1 h1 o1 f1 r1 => ?_⟩
  obtain ⟨x, h2, p, h3, h4, h6, h7, h8⟩ := h1
  exact ⟨v, p, rfl, (asD_rep o1 r1 h2).dpZ h3, h4, h6, h7, k _ S1 _ H1 h8 o1 f1 (.str _)⟩
end
mutual
def D.gdR : D → Bool
  | .non => true
  | .bl _ => true
  | .dic => true
  | .int i => decide (i.natAbs < 10 ^ 200)
  | .str s => PyData.strOk s && s.cps.toList.all fun c => decide (c < 16 ^ 8)
  | .lst xs => D.gdsR xs
  | .fls xs => D.gdsR xs
  | .tup xs => D.gdsR xs
  | _ => false
def D.gdsR : List D → Bool
  | [] => true
  | x :: xs => x.gdR && D.gdsR xs
/-- how deep, how much there is to be shown -/
def D.depR : D → Nat
  | .lst xs => D.depsR xs + 1
  | .fls xs => D.depsR xs + 1
  | .tup xs => D.depsR xs + 1
  | .dic => 1
  | _ => 0
def D.depsR : List D → Nat
  | [] => 0
  | x :: xs => max x.depR (D.depsR xs)
def D.bkR : D → Nat
  | .str s => s.cps.size
  | .lst xs => D.bksR xs
  | .fls xs => D.bksR xs
  | .tup xs => D.bksR xs
  | _ => 0
def D.bksR : List D → Nat
  | [] => 0
  | x :: xs => x.bkR + 1 + D.bksR xs
end
mutual
theorem gdR_py : ∀ d : D, d.gdR = true → ∃ p, d.pyR = some p ∧ p.showable = true ∧ p.leavesShort 202 = true ∧ p.depth = d.depR ∧ p.bulk = d.bkR
  | .non, _ => ⟨.none, rfl, rfl, rfl, rfl, rfl⟩
  | .bl b, _ => ⟨.bool b, rfl, rfl, rfl, rfl, rfl⟩
  | .dic, _ => ⟨.dict [], rfl, rfl, rfl, rfl, rfl⟩
  | .int i, h => by
    have h := of_decide_eq_true h
    have l : i.natAbs.log2 < 1920 := by
      by_cases e : i.natAbs = 0
      · rw [e]; decide
      · exact (Nat.log2_lt e).mpr (Nat.lt_trans h (by decide))
    refine ⟨.int i, rfl, by simpa [PyData.showable] using l, ?_, rfl, rfl⟩
    have e := int_text_length_le10 (k := 200) (by decide) h
    refine decide_eq_true ?_
    show (Str.ofString (toString i)).length ≤ 202
    rw [PySem.ofString_length]
    omega
  | .str s, h => by
    simp only [D.gdR, Bool.and_eq_true] at h
    exact ⟨.str s, rfl, rfl, by simpa [PyData.leavesShort] using h.2, rfl, rfl⟩
  | .lst xs, h => by
    obtain ⟨ps, h1, h2, h3, h4, h5⟩ := gdsR_py xs (by simpa [D.gdR] using h)
    exact ⟨.list ps, by simp [D.pyR, h1], by simpa [PyData.showable] using h2, by simpa [PyData.leavesShort] using h3, by simp [PyData.depth, D.depR, h4], by simp [PyData.bulk, D.bkR, h5]⟩
  | .fls xs, h => by
    obtain ⟨ps, h1, h2, h3, h4, h5⟩ := gdsR_py xs (by simpa [D.gdR] using h)
    exact ⟨.list ps, by simp [D.pyR, h1], by simpa [PyData.showable] using h2, by simpa [PyData.leavesShort] using h3, by simp [PyData.depth, D.depR, h4], by simp [PyData.bulk, D.bkR, h5]⟩
  | .tup xs, h => by
    obtain ⟨ps, h1, h2, h3, h4, h5⟩ := gdsR_py xs (by simpa [D.gdR] using h)
    exact ⟨.tuple ps, by simp [D.pyR, h1], by simpa [PyData.showable] using h2, by simpa [PyData.leavesShort] using h3, by simp [PyData.depth, D.depR, h4], by simp [PyData.bulk, D.bkR, h5]⟩
  | .obj _ _, h => by cases h
  | .adr _, h => by cases h
  | .exc _ _, h => by cases h
theorem gdsR_py : ∀ xs : List D, D.gdsR xs = true → ∃ ps, D.pysR xs = some ps ∧ PyData.showableAll ps = true ∧ PyData.leavesShortAll 202 ps = true ∧ PyData.depthAll ps = D.depsR xs ∧ PyData.bulkAll ps = D.bksR xs
  | [], _ => ⟨[], rfl, rfl, rfl, rfl, rfl⟩
  | x :: xs, h => by
    simp only [D.gdsR, Bool.and_eq_true] at h
    obtain ⟨p, g1, g2, g3, g4, g5⟩ := gdR_py x h.1
    obtain ⟨ps, h1, h2, h3, h4, h5⟩ := gdsR_py xs h.2
    exact ⟨p :: ps, by simp [D.pysR, g1, h1], by simp [PyData.showableAll, g2, h2], by simp [PyData.leavesShortAll, g3, h3], by simp [PyData.depthAll, D.depsR, g4, h4], by simp [PyData.bulkAll, D.bksR, g5, h5]⟩
end
theorem repr_gdR {d : D} (hd : d.gdR = true) (d1 : d.depR ≤ 60) (hb : d.bkR ≤ 50000) : ∃ p, d.pyR = some p ∧ p.showable = true ∧ p.depth ≤ 60 ∧ p.shown.length ≤ sizeLine := by
  obtain ⟨p, g1, g2, g3, g4, g5⟩ := gdR_py d hd
  refine ⟨p, g1, g2, by omega, ?_⟩
  have := PyData.shown_le_bulk 202 (by decide) p g3
  rw [sizeLine_eq]
  omega
theorem gdsR_iff {xs : List D} : D.gdsR xs = true ↔ ∀ x ∈ xs, x.gdR = true := by
  induction xs with
  | nil => simp [D.gdsR]
  | cons x xs ih => simp [D.gdsR, ih]
theorem depsR_le {xs : List D} {n : Nat} (h : ∀ x ∈ xs, x.depR ≤ n) : D.depsR xs ≤ n := by
  induction xs with
  | nil => simp [D.depsR]
  | cons x xs ih =>
    have a := h x List.mem_cons_self
    have b := ih fun y hy => h y (List.mem_cons_of_mem _ hy)
    simp only [D.depsR]
    omega
theorem bksR_le {xs : List D} {n : Nat} (h : ∀ x ∈ xs, x.bkR ≤ n) : D.bksR xs ≤ (n + 1) * xs.length := by
  induction xs with
  | nil => simp [D.bksR]
  | cons x xs ih =>
    have a := h x List.mem_cons_self
    have b := ih fun y hy => h y (List.mem_cons_of_mem _ hy)
    simp only [D.bksR, List.length_cons, Nat.mul_add]
    omega
end Zz

set_option maxHeartbeats 4000000
/-! The pure layer: slices of tuples, slices from behind, starred items. -/
namespace Zz
open PySem PySem.Spec PyProof.Rows L2 HT

/-! ### x[lo::-1] -/
/-- how many of n items lie up to the place lo -/
def upTo (n : Nat) : Option Int → Nat
  | none => n
  | some i => min (i + 1).toNat n
def loOk : Option Int → Prop
  | none => True
  | some i => 0 ≤ i
def backL {α : Type} (xs : List α) (lo : Option Int) : List α := (xs.take (upTo xs.length lo)).reverse
theorem upTo_le (n : Nat) (lo : Option Int) : upTo n lo ≤ n := by
  cases lo with
  | none => exact Nat.le_refl _
  | some i => exact Nat.min_le_right _ _
theorem take_pick {α : Type} (xs : Array α) (k : Nat) : (List.range k).filterMap (xs[·]?) = xs.toList.take k := by
  have h := pick_run xs 0 k
  have e : (List.range k).map (0 + ·) = List.range k := by
    rw [show ((0 + ·) : Nat → Nat) = id from funext fun k => Nat.zero_add k, List.map_id]
  rw [e, List.drop_zero] at h
  exact h
theorem back_bounds {lo : Option Int} (h : loOk lo) (n : Nat) : sliceBounds lo none (some (-1)) n = ((upTo n lo : Int) - 1, -1, -1) := by
  cases lo with
  | none =>
    first
    | rfl
    | simp [sliceBounds, upTo]
  | some i =>
    have h : 0 ≤ i := h
    have h1 : ¬ ((-1 : Int) > 0) := by decide
    have h2 : ¬ (i < 0) := by omega
    unfold sliceBounds upTo
    simp only [Option.getD_some, h1, h2, if_false]
    refine Prod.ext ?_ rfl
    show max (-1) (min i ((n : Int) - 1)) = _
    omega
theorem pick_back {lo : Option Int} (h : loOk lo) (items : Array Value) : slicePick items lo none (some (-1)) = (backL items.toList lo).toArray := by
  unfold slicePick backL
  rw [back_bounds h]
  show ((sliceRange ((upTo items.size lo : Int) - 1) (-1) (-1)).filterMap (items[·]?)).toArray = _
  rw [PySem.W.krv_sliceRange, PySem.W.krv_range, List.filterMap_reverse, take_pick, Array.length_toList]
section
variable {prog : Program} {w : World} {A : Around} {E : Value → Shared → Prop} {s : Shared}
theorem adjust_back {lo : Option Int} (h : loOk lo) (n : Nat) : Builtin.Slice.sliceAdjust lo none (-1) (n : Int) = ((upTo n lo : Int) - 1, -1) := by
  have h1 : ((-1 : Int) < 0) := by omega
  unfold Builtin.Slice.sliceAdjust
  simp only [h1, if_true]
  refine Prod.ext ?_ rfl
  cases lo with
  | none => rfl
  | some v =>
    have h : 0 ≤ v := h
    show (if v < 0 then max (v + (n : Int)) (-1) else min v ((n : Int) - 1)) = ((min (v + 1).toNat n : Nat) : Int) - 1
    rw [if_neg (by omega)]
    omega
theorem places_back (k : Nat) : Builtin.Slice.slicePlaces ((k : Int) - 1) (-1) (-1) = k := by
  unfold Builtin.Slice.slicePlaces
  have h1 : ¬ ((-1 : Int) > 0) := by omega
  simp only [h1, if_false]
  rw [show (- (-1 : Int)) = 1 by decide, Int.ediv_one]
  split <;> omega
theorem sliceApplied_back {sl : Addr} {vl : Value} {tk : Tok} {lo : Option Int} {n : Nat} {Q : Int × Int × Nat → Shared → Prop} (h0 : loOk lo) (hs : s.heap.IsSliceOf sl vl .none (.int (-1) tk)) (pl : IsPart vl lo)
    (h : Q ((upTo n lo : Int) - 1, -1, upTo n lo) s) : wpAny (model prog w) A (Builtin.Slice.sliceApplied (.ref sl) (pure (n : Int))) Q E s := by
  obtain ⟨os, hos, hcs, hds⟩ := id hs
  unfold Builtin.Slice.sliceApplied Builtin.Slice.sliceFields
  refine wpAny_bind (wpAny_bind (wpAny_field hos hds (x := vl) rfl (wpAny_bind (wpAny_field hos hds (x := .none) rfl (wpAny_bind (wpAny_field hos hds (x := .int (-1) tk) rfl (wpAny_pure ?_)))))))
  refine wpAny_bind (slicePart_int ?_)
  show wpAny _ _ (if ((-1 : Int) == 0) = true then _ else _) _ _ s
  rw [if_neg (by decide)]
  refine wpAny_bind (slicePart_ pl (wpAny_bind (slicePart_none (wpAny_bind (wpAny_pure ?_)))))
  show wpAny _ _ (match Builtin.Slice.sliceAdjust lo none (-1) (n : Int) with | (lo, hi) => pure (lo, (-1 : Int), Builtin.Slice.slicePlaces lo hi (-1))) _ _ s
  rw [adjust_back h0 n]
  show wpAny _ _ (pure ((upTo n lo : Int) - 1, (-1 : Int), Builtin.Slice.slicePlaces ((upTo n lo : Int) - 1) (-1) (-1))) _ _ s
  rw [places_back]
  exact wpAny_pure h
theorem fm_congr {α β : Type} {f g : α → Option β} : ∀ {l : List α}, (∀ m ∈ l, f m = g m) → l.filterMap f = l.filterMap g
  | [], _ => rfl
  | a :: l, h => by
    rw [List.filterMap_cons, List.filterMap_cons, h a List.mem_cons_self, fm_congr fun m hm => h m (List.mem_cons_of_mem _ hm)]
theorem pickT_back (xs : Array Value) (k : Nat) : ((List.range k).filterMap fun (m : Nat) => xs[((k : Int) - 1 + (m : Int) * (-1)).toNat]?).toArray = ((xs.toList.take k).reverse).toArray := by
  have e : (List.range k).filterMap (fun (m : Nat) => xs[((k : Int) - 1 + (m : Int) * (-1)).toNat]?) = ((List.range k).map fun m => k - 1 - m).filterMap (xs[·]?) := by
    rw [List.filterMap_map]
    apply fm_congr
    intro m hm
    have := List.mem_range.mp hm
    show xs[((k : Int) - 1 + (m : Int) * (-1)).toNat]? = xs[k - 1 - m]?
    rw [show ((k : Int) - 1 + (m : Int) * (-1)).toNat = k - 1 - m by omega]
  rw [e, PySem.W.krv_range, List.filterMap_reverse, take_pick]
theorem getItem_tuple_back {t sl : Addr} {items : Array Value} {vl : Value} {tk : Tok} {lo : Option Int} {Q : Value → Shared → Prop} (h0 : loOk lo) (ht : IsTup s.heap t items) (hs : s.heap.IsSliceOf sl vl .none (.int (-1) tk)) (pl : IsPart vl lo)
    (h : Q (.ref s.heap.objs.size) { s with heap := s.heap.push { cls := .type "tuple", data := .seq ((items.toList.take (upTo items.size lo)).reverse).toArray } })
    (hsz : items.size ≤ sizeLine) : wpAny (model prog w) A (getItem (.ref t) (.ref sl)) Q E s := by
  have htake : sizeOk (.seq ((items.toList.take (upTo items.size lo)).reverse).toArray) := by
    show ((items.toList.take (upTo items.size lo)).reverse).toArray.size ≤ sizeLine
    rw [List.size_toArray, List.length_reverse, List.length_take, Array.length_toList]
    omega
  obtain ⟨os, hos, hcs, hds⟩ := id hs
  have hTs : s.TypeIs (.ref sl) "slice" := ⟨os, hos, hcs⟩
  unfold getItem
  try with_reducible refine wpAny_holding ?_
  first | refine wpAny_bind (wpAny_pure ?_) | skip
  refine wpAny_bind (wpAny_sequenceKey ht.typeIs (by decide) ?_)
  refine wpAny_bind (wpAny_callSpecial?_slot (name := Str.ofString "__getitem__") ht.typeIs PyProof.Rows.slot_tuple_getitem
    (wpAny_call_entry PyProof.Rows.slot_tuple_getitem ht.typeIs entry_tuple_getitem ?_ (args_tuple_getitem _ _)))
  show wpAny _ _ (Builtin.Tuple.tupleItemsOf (.ref t) >>= _) _ _ s
  refine wpAny_bind (tupleItemsOf_ ht ?_)
  refine wpAny_bind (wpAny_typeOf hTs ?_)
  rw [if_pos (by decide)]
  refine wpAny_bind (sliceApplied_back h0 hs pl ?_)
  have hno : ¬ (((((upTo items.size lo : Nat) : Int) - 1) == 0 && (-1 : Int) == 1 && (upTo items.size lo) == items.size) = true) := by
    intro q
    rw [Bool.and_eq_true, Bool.and_eq_true] at q
    exact absurd q.1.2 (by decide)
  show wpAny _ _ (if ((((upTo items.size lo : Nat) : Int) - 1) == 0 && (-1 : Int) == 1 && (upTo items.size lo) == items.size) = true then _ else _) _ _ s
  rw [if_neg hno, pickT_back]
  first
    | exact wpAny_bind (m := Builtin.Tuple.tupleExact _) (wpAny_newObj_type (wpAny_pure ⟨_, rfl, wpAny_pure h⟩) htake)
    | exact wpAny_bind (m := Builtin.Tuple.tupleExact _) (wpAny_newObj_type (wpAny_bind (wpAny_pure (wpAny_pure ⟨_, rfl, wpAny_pure h⟩))) htake)
    | exact wpAny_bind (wpAny_bind (m := Builtin.Tuple.tupleExact _) (wpAny_newObj_type (wpAny_pure (wpAny_pure ⟨_, rfl, wpAny_pure h⟩)) htake))
    | exact wpAny_bind (wpAny_bind (m := Builtin.Tuple.tupleExact _) (wpAny_newObj_type (wpAny_pure ⟨_, rfl, wpAny_pure h⟩) htake))
end
theorem backL_length {α : Type} (xs : List α) (lo : Option Int) : (backL xs lo).length ≤ xs.length := by
  unfold backL
  rw [List.length_reverse, List.length_take]
  omega
theorem valsBack {xs : List V} {us : List Value} (r : Vals xs us) (lo : Option Int) : Vals (backL xs lo) (backL us lo) := by
  have rev : ∀ {ys : List V} {ws : List Value}, Vals ys ws → Vals ys.reverse ws.reverse := by
    intro ys ws q
    induction q with
    | nil => exact .nil
    | cons q1 q2 ih =>
      rw [List.reverse_cons, List.reverse_cons]
      exact ih.append (.cons q1 .nil)
  unfold backL
  rw [r.length]
  exact rev (r.take _)
section
variable {X : Cx} {e st : Expr} {te : TE} {lo : Option Expr} {tl ts : TO} {p2 pos : Pos}
def rBack (K : PySem.W.Frag) : V → Option Int → Hp → VK → Prop := fun x lo H Q => ∃ a xs, x = .ref a ∧ loOk lo ∧ ((SqL K H a xs ∧ ∀ p, H p = none → Q (.ref p) (upd H p (.lst (backL xs lo)))) ∨ (SqT K H a xs ∧ ∀ p, H p = none → Q (.ref p) (upd H p (.tup (backL xs lo)))))
theorem back_run {pins : List (Addr × Obj)} {s : Shared} {σ : L2.St} {H : Hp} {x : V} {v vl : Value} {tk : Tok} {lo : Option Int} {sl : Addr} {Q : VK} (I : Inv X pins σ H s) (rx : RelV x v) (hs : s.heap.IsSliceOf sl vl .none (.int (-1) tk)) (pl : IsPart vl lo) (h : rBack X.K x lo H Q) :
    ∃ T id, typeLookup (.type T) "__getitem__" = pure (some (.builtin id)) ∧ s.TypeIs v T ∧ wpAny (model X.prog X.w) X.A (getItem v (.ref sl)) (EP X pins σ Q) X.xe s := by
  obtain ⟨a, xs, rfl, h0, ⟨hx, q⟩ | ⟨hx, q⟩⟩ := h
  · cases rx
    obtain ⟨its, r, ht, hz⟩ := I.list hx
    have hlen := r.length
    refine ⟨"list", _, slot_list_getitem.lookup, ht.isList.typeIs, ?_⟩
    refine wpAny_getItem_list_slice ht.isList hs pl .none (.int _ _) (by simp) ?_ (by rw [List.size_toArray] <;> omega)
    rw [pick_back h0]
    refine ⟨.ref s.heap.objs.size, _, I.laid (t' := s.toks) (o := .lst (backL xs lo)) (fun b ob q => Heap.get?_push_of_some _ q) (Nat.le_refl _) ?_, rfl, q _ (I.hok.fresh (Nat.le_refl _))⟩
    exact ⟨Nat.le_trans (backL_length xs lo) hz, _, 0, valsBack r lo, Heap.get?_push_size _ rfl⟩
  · cases rx
    obtain ⟨its, r, ht, hz⟩ := I.tuple hx
    have hlen : its.toArray.size = xs.length := by rw [List.size_toArray]; exact r.length.symm
    refine ⟨"tuple", _, PyProof.Rows.slot_tuple_getitem.lookup, ht.typeIs, ?_⟩
    refine getItem_tuple_back h0 ht hs pl ?_ (by rw [hlen]; exact hz)
    refine ⟨.ref s.heap.objs.size, _, I.laid (t' := s.toks) (o := .tup (backL xs lo)) (fun b ob q => Heap.get?_push_of_some _ q) (Nat.le_refl _) ?_, rfl, q _ (I.hok.fresh (Nat.le_refl _))⟩
    exact ⟨Nat.le_trans (backL_length xs lo) hz, _, valsBack r lo, IsTup.new _ _⟩
/-- a[lo::-1] -/
theorem pe_back {k1 : Nat} {p3 p4 : Pos} (he : PE X e te) (hl : PO X lo tl) : PE X (.Subscript e (.Slice lo none (some (.UnaryOp .USub (.Constant (.int 1) k1 p3) p4)) p2) pos) (fun σ H Q => te σ H fun x H1 => tl σ H1 fun l H2 => rBack X.K x l H2 Q) := by
  refine ⟨fun pins s σ H Q I h => ?_⟩
  refine Subscript_ (thn (he.run pins s σ H _ I h) fun v s1 ⟨x, H1, I1, r1, q1⟩ => ?_)
  refine wpAny_Slice (thn (hl.run pins s1 σ H1 _ I1 q1) fun vl s2 ⟨l, H2, I2, pl, q2⟩ => ?_)
  rw [evalPart_none]
  refine wpAny_pure ?_
  rw [evalPart_some]
  have hst : PE X (.UnaryOp .USub (.Constant (.int 1) k1 p3) p4) (tC (.int (-1))) := by
    have := pe_un (X := X) (pos := p4) un_neg (pe_int (X := X) (i := 1) (j := k1) (pos := p3))
    exact ⟨fun pins s σ H Q I q => this.run pins s σ H Q I ⟨1, rfl, q⟩⟩
  refine thn (hst.run pins s2 σ H2 (fun y H' => y = .int (-1) ∧ H' = H2) I2 ⟨rfl, rfl⟩) fun vs s3 ⟨y, H3, I3, r3, hy, hH⟩ => ?_
  subst hy hH
  obtain ⟨tk, rfl⟩ := r3
  have I4 : Inv X pins σ H3 { s3 with heap := s3.heap.push { cls := .type "slice", data := .fields #[vl, .none, .int (-1) tk] } } := I3.kept (t' := s3.toks) fun b ob q => Heap.get?_push_of_some _ q
  obtain ⟨T, id, hT, ht, hg⟩ := back_run (s := { s3 with heap := s3.heap.push { cls := .type "slice", data := .fields #[vl, .none, .int (-1) tk] } }) (sl := s3.heap.objs.size) I4 r1 (Heap.IsSliceOf.new ..) pl q2
  show wpAny (model X.prog X.w) X.A (subscriptTail e (.Slice lo none (some (.UnaryOp .USub (.Constant (.int 1) k1 p3) p4)) p2) v (.ref s3.heap.objs.size)) (EP X pins σ Q) X.xe { s3 with heap := s3.heap.push { cls := .type "slice", data := .fields #[vl, .none, .int (-1) tk] } }
  exact tail_any (ops := [v, .ref s3.heap.objs.size]) ht hT hg (by with_unfolding_all rfl)
end

/-! ### over data -/
section
variable {X : Cx} {P : Zc → Prop} {e : Expr} {pos : Pos} {va : ZV}
theorem reps_back {H : Hp} {av : Addr → Prop} {vs : List V} {xs : List D} {lo : Option Int} (r : Reps X.K X.mg H av vs xs) : Reps X.K X.mg H av (backL vs lo) (backL xs lo) := by
  unfold backL
  rw [r.length]
  exact (r.take _).reverse
/-- a list's or a tuple's content -/
inductive LT where
  | l (xs : List D) | t (xs : List D)
def LT.d : LT → D
  | .l xs => .lst xs
  | .t xs => .tup xs
def cntA (S : SS) : DV → Option LT
  | .sh (.lst xs) => some (.l xs)
  | .sh (.fls xs) => some (.l xs)
  | .sh (.tup xs) => some (.t xs)
  | .at i => match S[i]? with
    | some (.ow xs) => some (.l xs)
    | _ => none
  | _ => none
theorem cntA_at {Z : Zc} {S : SS} {σ : L2.St} {H : Hp} {v : V} {dv : DV} {x : LT} (ok : Ok X Z S σ H) (r : RVal X Z S σ H v dv) (e : cntA S dv = some x) :
    ∃ a vs, v = .ref a ∧ (match x with | .l xs => SqL X.K H a vs ∧ Reps X.K X.mg H (avs Z S σ) vs xs | .t xs => SqT X.K H a vs ∧ Reps X.K X.mg H (avs Z S σ) vs xs ∧ Rep X.K X.mg H (avs Z S σ) (.ref a) (.tup xs)) := by
  cases dv with
  | sh d =>
    cases d with
    | lst ys =>
      cases (show some (LT.l ys) = some x from e)
      obtain ⟨a, vs, h1, h2, h3⟩ := Rep.lst_inv r
      exact ⟨a, vs, h1, .inl (.inl h2), h3⟩
    | fls ys =>
      cases (show some (LT.l ys) = some x from e)
      obtain ⟨a, vs, h1, h2, h3⟩ := Rep.fls_inv r
      exact ⟨a, vs, h1, h2.seq, h3⟩
    | tup ys =>
      cases (show some (LT.t ys) = some x from e)
      obtain ⟨a, vs, h1, h2, h3⟩ := Rep.tup_inv r
      subst h1
      exact ⟨a, vs, rfl, h2, h3, r⟩
    | _ => cases e
  | «at» i =>
    have e' : (match S[i]? with | some (.ow ys) => some (LT.l ys) | _ => none) = some x := e
    split at e'
    · rename_i ys h
      cases e'
      obtain ⟨a, vs, h1, h2, h3⟩ := ok.sl.ow i _ h
      have r' : σ[i]? = some (some v) := r
      rw [h1] at r'
      cases r'
      exact ⟨a, vs, rfl, .inl (.inl h2), h3⟩
    · cases e'
def LT.map (f : List D → List D) : LT → LT
  | .l xs => .l (f xs)
  | .t xs => .t (f xs)
/-- a[lo:hi] as data -/
def zSliceA (ta : ZV) (lo hi : ZO) : ZE := fun S Q => ta S fun dv S1 => lo S1 fun l S2 => hi S2 fun h S3 => ∃ x, cntA S3 dv = some x ∧ Q (x.map fun xs => cutD xs l h).d S3
theorem rep_lst {Z : Zc} {S : SS} {σ : L2.St} {H : Hp} {p : Addr} {vs : List V} {xs : List D} (o : Ok X Z S σ H) (hp : H p = none) (r : Reps X.K X.mg H (avs Z S σ) vs xs) : Ok X Z S σ (upd H p (.lst vs)) ∧ Frm X Z S σ H S σ (upd H p (.lst vs)) ∧ Rep X.K X.mg (upd H p (.lst vs)) (avs Z S σ) (.ref p) (.lst xs) := by
  have s : Same H (upd H p (.lst vs)) := Same.upd hp
  exact ⟨o.same s, .same o s, .lst upd_same (fun z => o.avsd p z hp) (r.carry (.same s fun _ z => z))⟩
theorem rep_tup {Z : Zc} {S : SS} {σ : L2.St} {H : Hp} {p : Addr} {vs : List V} {xs : List D} (o : Ok X Z S σ H) (hp : H p = none) (r : Reps X.K X.mg H (avs Z S σ) vs xs) : Ok X Z S σ (upd H p (.tup vs)) ∧ Frm X Z S σ H S σ (upd H p (.tup vs)) ∧ Rep X.K X.mg (upd H p (.tup vs)) (avs Z S σ) (.ref p) (.tup xs) := by
  have s : Same H (upd H p (.tup vs)) := Same.upd hp
  exact ⟨o.same s, .same o s, .tup (.inl (.inl upd_same)) (r.carry (.same s fun _ z => z))⟩
theorem cut_whole {xs : List D} {lo hi : Option Int} (h : HT.sIx xs.length 0 lo = 0 ∧ HT.sIx xs.length xs.length hi = xs.length) : cutD xs lo hi = xs := by
  unfold cutD
  rw [h.1, h.2, List.drop_zero, Nat.sub_zero, List.take_length]
theorem pd_sliceA {lo hi : Option Expr} {tl th : ZO} {p2 : Pos} (ha : PV X P e va) (hl : POd X P lo tl) (hh : POd X P hi th) : PD X P (.Subscript e (.Slice lo hi none p2) pos) (zSliceA va tl th) := by
  obtain ⟨t0, p0, q0⟩ := ha.ex
  obtain ⟨t1, p1, q1⟩ := hl.ex
  obtain ⟨t2, p2, q2⟩ := hh.ex
  refine ⟨_, pe_slice (sl_list.or sl_tupA) p0 p1 p2, fun Z hZ S σ H Qz Q ok h k => ?_⟩
  refine q0 Z hZ S σ H _ _ ok h fun dv S1 v H1 h1 o1 f1 r1 => q1 Z hZ S1 σ H1 _ _ o1 h1 fun l S2 H2 h2 o2 f2 => q2 Z hZ S2 σ H2 _ _ o2 h2 fun u S3 H3 h3 o3 f3 => ?_
  obtain ⟨x, h4, h5⟩ := h3
  obtain ⟨b, vs, rfl, h6⟩ := cntA_at o3 ((r1.frm f2).frm f3) h4
  have ff := (f1.trans f2).trans f3
  cases x with
  | l xs =>
    refine .inl ⟨b, vs, rfl, h6.1, fun p hp => ?_⟩
    obtain ⟨y1, y2, y3⟩ := rep_lst o3 hp (reps_cut (lo := l) (hi := u) h6.2)
    exact k _ S3 _ _ h5 y1 (ff.trans y2) y3
  | t xs =>
    refine .inr ⟨b, vs, rfl, h6.1, fun hw => ?_, fun hw p hp => ?_⟩
    · rw [h6.2.1.length] at hw
      have h5 : Qz (.tup (cutD xs l u)) S3 := h5
      rw [cut_whole hw] at h5
      exact k _ S3 _ _ h5 o3 ff h6.2.2
    · obtain ⟨y1, y2, y3⟩ := rep_tup o3 hp (reps_cut (lo := l) (hi := u) h6.2.1)
      exact k _ S3 _ _ h5 y1 (ff.trans y2) y3
/-- a[lo::-1] as data -/
def zBackA (ta : ZV) (lo : ZO) : ZE := fun S Q => ta S fun dv S1 => lo S1 fun l S2 => loOk l ∧ ∃ x, cntA S2 dv = some x ∧ Q (x.map fun xs => backL xs l).d S2
theorem pd_backA {lo : Option Expr} {tl : ZO} {p2 p3 p4 : Pos} {k1 : Nat} (ha : PV X P e va) (hl : POd X P lo tl) : PD X P (.Subscript e (.Slice lo none (some (.UnaryOp .USub (.Constant (.int 1) k1 p3) p4)) p2) pos) (zBackA va tl) := by
  obtain ⟨t0, p0, q0⟩ := ha.ex
  obtain ⟨t1, p1, q1⟩ := hl.ex
  refine ⟨_, pe_back p0 p1, fun Z hZ S σ H Qz Q ok h k => ?_⟩
  refine q0 Z hZ S σ H _ _ ok h fun dv S1 v H1 h1 o1 f1 r1 => q1 Z hZ S1 σ H1 _ _ o1 h1 fun l S2 H2 h2 o2 f2 => ?_
  obtain ⟨h3, x, h4, h5⟩ := h2
  obtain ⟨b, vs, rfl, h6⟩ := cntA_at o2 (r1.frm f2) h4
  have ff := f1.trans f2
  cases x with
  | l xs =>
    refine ⟨b, vs, rfl, h3, .inl ⟨h6.1, fun p hp => ?_⟩⟩
    obtain ⟨y1, y2, y3⟩ := rep_lst o2 hp (reps_back (lo := l) h6.2)
    exact k _ S2 _ _ h5 y1 (ff.trans y2) y3
  | t xs =>
    refine ⟨b, vs, rfl, h3, .inr ⟨h6.1, fun p hp => ?_⟩⟩
    obtain ⟨y1, y2, y3⟩ := rep_tup o2 hp (reps_back (lo := l) h6.2.1)
    exact k _ S2 _ _ h5 y1 (ff.trans y2) y3
/-- .. as a new list -/
def zBackF (ta : ZV) (lo : ZO) : ZA := fun S Q => ta S fun dv S1 => lo S1 fun l S2 => loOk l ∧ ∃ xs, cntL S2 dv = some xs ∧ Q (backL xs l) S2
theorem pf_backF {lo : Option Expr} {tl : ZO} {p2 p3 p4 : Pos} {k1 : Nat} (ha : PV X P e va) (hl : POd X P lo tl) : PF X P (.Subscript e (.Slice lo none (some (.UnaryOp .USub (.Constant (.int 1) k1 p3) p4)) p2) pos) (zBackF va tl) := by
  obtain ⟨t0, p0, q0⟩ := ha.ex
  obtain ⟨t1, p1, q1⟩ := hl.ex
  refine ⟨_, pe_back p0 p1, fun Z hZ S σ H Qz Q ok h k => ?_⟩
  refine q0 Z hZ S σ H _ _ ok h fun dv S1 v H1 h1 o1 f1 r1 => q1 Z hZ S1 σ H1 _ _ o1 h1 fun l S2 H2 h2 o2 f2 => ?_
  obtain ⟨h3, xs, h4, h5⟩ := h2
  obtain ⟨b, vs, rfl, h6, h7⟩ := cntL_at o2 (r1.frm f2) h4
  exact ⟨b, vs, rfl, h3, .inl ⟨h6, fresh_k o2 (f1.trans f2) (reps_back h7) h5 k⟩⟩
/-- *e in a display -/
def zStar (ta : ZV) (tr : ZA) : ZA := fun S Q => ta S fun dv S1 => ∃ xs, cnt S1 dv = some xs ∧ tr S1 fun ds S2 => Q (xs ++ ds) S2
theorem ad_star {es : List Expr} {tr : ZA} {p : Pos} (ha : PV X P e va) (hr : PAd X P es tr) (hs : starEach (.Starred e p :: es) X.env = (true, eval e X.env) :: starEach es X.env := by rfl) : PAd X P (.Starred e p :: es) (zStar va tr) := by
  obtain ⟨t0, p0, q0⟩ := ha.ex
  obtain ⟨t1, p1, q1⟩ := hr.ex
  refine ⟨_, StX.pa_star p0 p1 hs, fun Z hZ S σ H Qz Q ok h k => q0 Z hZ S σ H _ _ ok h fun dv S1 v H1 h1 o1 f1 r1 => ?_⟩
  obtain ⟨xs, h2, h3⟩ := h1
  obtain ⟨b, vs, rfl, h6, h7⟩ := cnt_at o1 r1 h2
  refine ⟨b, vs, rfl, h6.symm, q1 Z hZ S1 σ H1 _ _ o1 h3 fun ds S2 us H2 h4 o2 f2 r2 => ?_⟩
  exact k _ S2 _ H2 h4 o2 (f1.trans f2) ((f2.reps h7).append r2)
end
end Zz

set_option maxHeartbeats 4000000
/-! The pure layer: methods; a new object with a field stored from outside. -/
namespace Zz
open PySem PySem.Spec PyProof.Rows L2

/-! ### o.m(..) -/
theorem RepF.lookup_none {K : PySem.W.Frag} {mg : Str → Option Value} {H : Hp} {av : Addr → Prop} {f : Str} : ∀ {vs : List (Str × V)} {fs : List (Str × D)}, RepF K mg H av vs fs → fs.lookup f = none → vs.lookup f = none
  | _, _, .nil, _ => rfl
  | _, _, .cons (n := n) r t, e => by
    rw [List.lookup_cons] at e ⊢
    cases h : f == n with
    | true => rw [h] at e; cases e
    | false => rw [h] at e; exact RepF.lookup_none t e
/-- a class has a method of this promise -/
structure Km (Pg : Program) (w : World) (K : PySem.W.Frag) (mg : Str → Option Value) (base : Heap) (k : Nat) (c m : Str) (sp : ZSp) : Prop where
  ex : ∃ (C g : Addr) (fd : FuncData) (ps : List Str), mg c = some (.ref C) ∧ Cls K C ∧ Meth K C m g ∧ Binds K fd ps [] ∧ FnP Pg w K mg base k g fd ps (spZ K mg sp)
def tMethP (C : Addr) (m : Str) (sp : Sp) (E : XK) (ta : TE) (t : TA) : TE := fun σ H Q => ta σ H fun x H1 => ∃ a dx fs, x = .ref a ∧ H1 a = some (.ins C dx fs) ∧ fs.lookup m = none ∧
  t σ H1 fun vs H2 => sp (x :: vs) H2 Q E
section
variable {X : Cx} {P : Zc → Prop} {k j : Nat} {f C : Addr} {fd : FuncData} {ps : List Str} {sp : Sp} {E : XK} {m c : Str} {apos pos : Pos} {o e : Expr} {es : List Expr} {ta : TE} {t : TA}
theorem pe_methP {pl : Sem Bool} (he : PE X o ta) (cl : Cls X.K C) (hm : Meth X.K C m f) (F : FnP X.prog X.w X.K X.mg X.base k f fd ps sp) (hr : Room k X.A) (hgd : X.A.guards = some []) (hb : Binds X.K fd ps []) (hx : Passes (L2.CX X.prog X.w) X E) (ha : PA X (e :: es) t)
    (hst : starEach (e :: es) X.env = (false, eval e X.env) :: starEach es X.env := by rfl) (hpl : (backTo pos (starEach es X.env)).any (·.1) = false := by rfl)
    (ht : eval (.Call (.Attribute o m apos) (e :: es) [] pos) X.env = (do
      let ov ← eval o X.env
      standAt apos.atName
      let (f, first) ← holding [ov] (getMethod ov m pl)
      callWith pos f first (backTo pos (starEach (e :: es) X.env)) (backToKw pos (keywordEach [] X.env))) := by rfl) :
    PE X (.Call (.Attribute o m apos) (e :: es) [] pos) (tMethP C m sp E ta t) := by
  refine ⟨fun pins s σ H Q I h => ?_⟩
  refine PySem.W.methodCall_KW (pl := pl) (thn (he.run pins s σ H _ I h) fun u s1 ⟨x, H1, I1, rx, a, dx, fs, ex, ea, l, q⟩ => ?_) ht
  subst ex
  obtain rfl : u = Value.ref a := rx
  refine getmeth_ok I1 ea cl hm l ?_
  refine PySem.W.callWith_K (first := [.ref a]) (h₀ := X.base) I.ok.mod.kin hm.kp (thn (ha.run pos pins s1 σ H1 _ I1 q) fun us s2 ⟨vs, H2, I2, r, q2⟩ => ⟨I2.kIn, ?_⟩) hst hpl
  exact run_fnp (us := .ref a :: us) (vs := .ref a :: vs) F hr hgd hb hx I2 (.cons rfl r) q2
theorem pe_methP0 {pl : Sem Bool} (he : PE X o ta) (cl : Cls X.K C) (hm : Meth X.K C m f) (F : FnP X.prog X.w X.K X.mg X.base k f fd ps sp) (hr : Room k X.A) (hgd : X.A.guards = some []) (hb : Binds X.K fd ps []) (hx : Passes (L2.CX X.prog X.w) X E)
    (ht : eval (.Call (.Attribute o m apos) [] [] pos) X.env = (do
      let ov ← eval o X.env
      standAt apos.atName
      let (f, first) ← holding [ov] (getMethod ov m pl)
      callWith pos f first (backTo pos (starEach [] X.env)) (backToKw pos (keywordEach [] X.env))) := by rfl) :
    PE X (.Call (.Attribute o m apos) [] [] pos) (tMethP C m sp E ta tNil) := by
  refine ⟨fun pins s σ H Q I h => ?_⟩
  refine PySem.W.methodCall_KW (pl := pl) (thn (he.run pins s σ H _ I h) fun u s1 ⟨x, H1, I1, rx, a, dx, fs, ex, ea, l, q⟩ => ?_) ht
  subst ex
  obtain rfl : u = Value.ref a := rx
  refine getmeth_ok I1 ea cl hm l ?_
  exact PySem.W.callWith_K0 (first := [.ref a]) I1.kIn hm.kp (run_fnp (us := [.ref a]) (vs := [.ref a]) F hr hgd hb hx I1 (.cons rfl .nil) q)
end
section
variable {X : Cx} {P : Zc → Prop} {k j : Nat} {m c : Str} {apos pos : Pos} {o e : Expr} {es : List Expr} {va : ZV} {ta : ZA} {sp : ZSp}
def zMeth (c m : Str) (sp : ZSp) (ez : Str → Option (Str × D) → Prop) (va : ZV) (ta : ZA) : ZE := fun S Q => va S fun dv S1 => match dv with
  | .sh (.obj c' fs) => c' = c ∧ fs.lookup m = none ∧ ta S1 fun ds S2 => sp (.obj c fs :: ds) (slD fun d => Q d S2) ez
  | _ => False
def zMethF (c m : Str) (sp : ZSp) (ez : Str → Option (Str × D) → Prop) (va : ZV) (ta : ZA) : ZA := fun S Q => va S fun dv S1 => match dv with
  | .sh (.obj c' fs) => c' = c ∧ fs.lookup m = none ∧ ta S1 fun ds S2 => sp (.obj c fs :: ds) (slF fun d => Q d S2) ez
  | _ => False
/-- the receiver, and what follows, by values -/
theorem meth_core {C : Addr} {t0 : TE} {t1 : TA} {ez : Str → Option (Str × D) → Prop} (hC : X.mg c = some (.ref C)) (hez : ∀ Z, P Z → ∀ c g, ez c g → Z.ez c g)
    (q0 : ∀ (Z : Zc), P Z → ∀ (S : SS) (σ : L2.St) (H : Hp) (Qz : DV → SS → Prop) (Q : VK), Ok X Z S σ H → va S Qz → (∀ d S' v H', Qz d S' → Ok X Z S' σ H' → Frm X Z S σ H S' σ H' → RVal X Z S' σ H' v d → Q v H') → t0 σ H Q)
    (q1 : ∀ (Z : Zc), P Z → ∀ (S : SS) (σ : L2.St) (H : Hp) (Qz : List D → SS → Prop) (Q : List V → Hp → Prop), Ok X Z S σ H → ta S Qz → (∀ ds S' vs H', Qz ds S' → Ok X Z S' σ H' → Frm X Z S σ H S' σ H' → Reps X.K X.mg H' (avs Z S' σ) vs ds → Q vs H') → t1 σ H Q)
    (Z : Zc) (hZ : P Z) (S : SS) (σ : L2.St) (H : Hp) (QS : SS → Sl → Prop) (Q : VK) (ok : Ok X Z S σ H)
    (h : va S fun dv S1 => match dv with | .sh (.obj c' fs) => c' = c ∧ fs.lookup m = none ∧ ta S1 fun ds S2 => sp (.obj c fs :: ds) (QS S2) ez | _ => False)
    (kq : ∀ res S2 v H1 H', QS S2 res → Ok X Z S2 σ H1 → Frm X Z S σ H S2 σ H1 → Same H1 H' → CRel X.K X.mg (avs Z S2 σ) H1 H' v res → Q v H') : tMethP C m (spZ X.K X.mg sp) (EP2 X P) t0 t1 σ H Q := by
  refine q0 Z hZ S σ H _ _ ok h fun dv S1 v H1 h1 o1 f1 r1 => ?_
  split at h1
  · rename_i c' fs
    obtain ⟨rfl, h2, h3⟩ := h1
    have r0 : Rep X.K X.mg H1 (avs Z S1 σ) v (.obj c' fs) := r1
    have r1 := r0
    cases r1 with
    | @obj a C2 dx _ vs _ e1 e2 e3 e4 =>
      rw [hC] at e2
      cases e2
      refine ⟨a, dx, vs, rfl, e1, e4.lookup_none h2, q1 Z hZ S1 σ H1 _ _ o1 h3 fun ds S2 us H2 h4 o2 f2 r2 => ?_⟩
      refine ⟨avs Z S2 σ, .obj c' fs :: ds, _, ez, .cons (f2.rp _ _ r0) r2, h4, o2.avsd, fun res v H' q s r => kq res S2 v H2 H' q o2 (f1.trans f2) s r, fun cc g cls dd H' q s hc hf => callE hZ o2 hez q s hc hf⟩
  · exact h1.elim
theorem pd_end {Z : Zc} {S S2 : SS} {σ : L2.St} {H H1 H' : Hp} {Qz : D → SS → Prop} {Q : VK} {v : V} {res : Sl} (kq : ∀ d S' v H', Qz d S' → Ok X Z S' σ H' → Frm X Z S σ H S' σ H' → Rep X.K X.mg H' (avs Z S' σ) v d → Q v H')
    (q : slD (fun d => Qz d S2) res) (o1 : Ok X Z S2 σ H1) (f1 : Frm X Z S σ H S2 σ H1) (s : Same H1 H') (r : CRel X.K X.mg (avs Z S2 σ) H1 H' v res) : Q v H' := by
  cases res with
  | sh d => exact kq d S2 v H' q (o1.same s) (f1.trans (.same o1 s)) r
  | ow xs =>
    obtain ⟨a, us, rfl, y1, y2, y3⟩ := r
    exact kq _ S2 _ H' q (o1.same s) (f1.trans (.same o1 s)) (CRel.fresh o1 s y1 y2 y3).1.rep
  | un => exact r.elim
  | gh _ _ => exact r.elim
theorem pf_end {Z : Zc} {S S2 : SS} {σ : L2.St} {H H1 H' : Hp} {Qz : List D → SS → Prop} {Q : VK} {v : V} {res : Sl}
    (kq : ∀ xs S' a H', Qz xs S' → Ok X Z S' σ H' → Frm X Z S σ H S' σ H' → Fresh X Z S' σ H' a xs → (∀ v d, Rep X.K X.mg H (avs Z S σ) v d → Rep X.K X.mg H' (fun b => avs Z S' σ b ∨ b = a) v d) → Q (.ref a) H')
    (q : slF (fun d => Qz d S2) res) (o1 : Ok X Z S2 σ H1) (f1 : Frm X Z S σ H S2 σ H1) (s : Same H1 H') (r : CRel X.K X.mg (avs Z S2 σ) H1 H' v res) : Q v H' := by
  cases res with
  | sh d => exact q.elim
  | ow xs =>
    obtain ⟨a, us, rfl, y1, y2, y3⟩ := r
    obtain ⟨fr, kk⟩ := CRel.fresh o1 s y1 y2 y3
    exact kq _ S2 _ H' q (o1.same s) (f1.trans (.same o1 s)) fr fun v d rv => (f1.rp v d rv).carry kk
  | un => exact r.elim
  | gh _ _ => exact r.elim
theorem pd_meth {pl : Sem Bool} (h : Km X.prog X.w X.K X.mg X.base j c m sp) (Cd0 : Cd k X P) (ez : Str → Option (Str × D) → Prop) (hez : ∀ Z, P Z → ∀ c g, ez c g → Z.ez c g) (ho : PV X P o va) (ha : PAd X P (e :: es) ta) (hj : j ≤ k := by decide)
    (hst : starEach (e :: es) X.env = (false, eval e X.env) :: starEach es X.env := by rfl) (hpl : (backTo pos (starEach es X.env)).any (·.1) = false := by rfl)
    (ht : eval (.Call (.Attribute o m apos) (e :: es) [] pos) X.env = (do
      let ov ← eval o X.env
      standAt apos.atName
      let (f, first) ← holding [ov] (getMethod ov m pl)
      callWith pos f first (backTo pos (starEach (e :: es) X.env)) (backToKw pos (keywordEach [] X.env))) := by rfl) : PD X P (.Call (.Attribute o m apos) (e :: es) [] pos) (zMeth c m sp ez va ta) := by
  obtain ⟨C, g, fd, ps, hC, cl, hm, hb, F⟩ := h.ex
  obtain ⟨t0, p0, q0⟩ := ho.ex
  obtain ⟨t1, p1, q1⟩ := ha.ex
  refine ⟨_, pe_methP (E := EP2 X P) p0 cl hm (F.mono hj) Cd0.hr Cd0.gd hb Cd0.hx p1 hst hpl ht, fun Z hZ S σ H Qz Q ok h kq => ?_⟩
  exact meth_core hC hez q0 q1 Z hZ S σ H (fun S2 => slD fun d => Qz d S2) Q ok h fun res S2 v H1 H' q o1 f1 s r => pd_end kq q o1 f1 s r
theorem pd_meth0 {pl : Sem Bool} (h : Km X.prog X.w X.K X.mg X.base j c m sp) (Cd0 : Cd k X P) (ez : Str → Option (Str × D) → Prop) (hez : ∀ Z, P Z → ∀ c g, ez c g → Z.ez c g) (ho : PV X P o va) (hj : j ≤ k := by decide)
    (ht : eval (.Call (.Attribute o m apos) [] [] pos) X.env = (do
      let ov ← eval o X.env
      standAt apos.atName
      let (f, first) ← holding [ov] (getMethod ov m pl)
      callWith pos f first (backTo pos (starEach [] X.env)) (backToKw pos (keywordEach [] X.env))) := by rfl) : PD X P (.Call (.Attribute o m apos) [] [] pos) (zMeth c m sp ez va zNil) := by
  obtain ⟨C, g, fd, ps, hC, cl, hm, hb, F⟩ := h.ex
  obtain ⟨t0, p0, q0⟩ := ho.ex
  refine ⟨_, pe_methP0 (E := EP2 X P) p0 cl hm (F.mono hj) Cd0.hr Cd0.gd hb Cd0.hx ht, fun Z hZ S σ H Qz Q ok h kq => ?_⟩
  exact meth_core (ta := zNil) hC hez q0 (fun Z hZ S σ H Qz Q ok h k => k [] S [] H h ok .refl .nil) Z hZ S σ H (fun S2 => slD fun d => Qz d S2) Q ok h fun res S2 v H1 H' q o1 f1 s r => pd_end kq q o1 f1 s r
theorem pf_meth {pl : Sem Bool} (h : Km X.prog X.w X.K X.mg X.base j c m sp) (Cd0 : Cd k X P) (ez : Str → Option (Str × D) → Prop) (hez : ∀ Z, P Z → ∀ c g, ez c g → Z.ez c g) (ho : PV X P o va) (ha : PAd X P (e :: es) ta) (hj : j ≤ k := by decide)
    (hst : starEach (e :: es) X.env = (false, eval e X.env) :: starEach es X.env := by rfl) (hpl : (backTo pos (starEach es X.env)).any (·.1) = false := by rfl)
    (ht : eval (.Call (.Attribute o m apos) (e :: es) [] pos) X.env = (do
      let ov ← eval o X.env
      standAt apos.atName
      let (f, first) ← holding [ov] (getMethod ov m pl)
      callWith pos f first (backTo pos (starEach (e :: es) X.env)) (backToKw pos (keywordEach [] X.env))) := by rfl) : PF X P (.Call (.Attribute o m apos) (e :: es) [] pos) (zMethF c m sp ez va ta) := by
  obtain ⟨C, g, fd, ps, hC, cl, hm, hb, F⟩ := h.ex
  obtain ⟨t0, p0, q0⟩ := ho.ex
  obtain ⟨t1, p1, q1⟩ := ha.ex
  refine ⟨_, pe_methP (E := EP2 X P) p0 cl hm (F.mono hj) Cd0.hr Cd0.gd hb Cd0.hx p1 hst hpl ht, fun Z hZ S σ H Qz Q ok h kq => ?_⟩
  exact meth_core hC hez q0 q1 Z hZ S σ H (fun S2 => slF fun d => Qz d S2) Q ok h fun res S2 v H1 H' q o1 f1 s r => pf_end kq q o1 f1 s r
end

/-! ### x = C(..); x.f = e -/
section
variable {X : Cx} {P : Zc → Prop} {k j : Nat} {c : Str} {p pos : Pos} {e : Expr} {es : List Expr} {ta : ZA} {sp : ZSp}
/-- a new object, put aside -/
theorem Ok.asideX {Z : Zc} {S : SS} {σ : L2.St} {H H' : Hp} {x : Addr} (ok : Ok X Z S σ H) (hx : H x = none) (hx' : H' x ≠ none) (s : Same H H') : Ok X (Z.pl x) S σ H' ∧ Carry H H' (avs Z S σ) (avs (Z.pl x) S σ) := by
  have k : Carry H H' (avs Z S σ) (avs (Z.pl x) S σ) := fun a o e n => ⟨s a o e, fun m z => (avs_pl.mp z).elim (n m) fun y => by rw [y, hx] at e; cases e⟩
  refine ⟨⟨ok.len, ok.nm, ok.gi, ok.sl.carry k (fun _ _ a _ _ _ e => s a _ e) fun _ b o _ e => s b o e, ok.inj, fun i ys q e1 e2 => ⟨(ok.own i ys q e1 e2).1, fun z => z.elim (ok.own i ys q e1 e2).2 fun y => ?_⟩, fun a o e n => s a o (ok.ext a o e n), fun q z => z.elim (fun y e => ok.avd q y (s.free e)) fun y => by rw [y]; exact hx', ok.bag, ok.gow, ok.ginj, fun i a e => ⟨(ok.gown i a e).1, fun z => z.elim (ok.gown i a e).2 fun y => ?_⟩⟩, k⟩
  · obtain ⟨b, us, h3, h4, _⟩ := ok.sl.ow i ys e1
    rw [e2] at h3
    cases h3
    rw [y, hx] at h4
    cases h4
  · exact ok.sl.gthere e (by rw [y]; exact hx)
/-- and taken up again -/
theorem Ok.unpl {Z : Zc} {S : SS} {σ : L2.St} {H : Hp} {x : Addr} (ok : Ok X (Z.pl x) S σ H) (hn : ¬ Z.av x) : Ok X Z S σ H ∧ Carry H H (avs (Z.pl x) S σ) (avs Z S σ) ∧ ¬ avs Z S σ x := by
  have k : Carry H H (avs (Z.pl x) S σ) (avs Z S σ) := .same (Same.refl H) fun q h => avs_pl.mpr (.inl h)
  refine ⟨⟨ok.len, ok.nm, ok.gi, ok.sl.carry k (fun _ _ _ _ _ _ e => e) fun _ _ _ _ e => e, ok.inj, fun i ys q e1 e2 => ⟨(ok.own i ys q e1 e2).1, fun z => (ok.own i ys q e1 e2).2 (.inl z)⟩, ok.ext, fun q z => ok.avd q (.inl z), ok.bag, ok.gow, ok.ginj, fun i a e => ⟨(ok.gown i a e).1, fun z => (ok.gown i a e).2 (.inl z)⟩⟩, k, fun z => ?_⟩
  rcases z with z | ⟨i, ys, e1, e2⟩ | ⟨i, e1⟩
  · exact hn z
  · exact (ok.own i ys x e1 e2).2 (.inr rfl)
  · exact (ok.gown i x e1).2 (.inr rfl)
def zMk2 (c f : Str) (i : Nat) (sp : ZSp) (ez : Str → Option (Str × D) → Prop) (ta : ZA) (te : ZE) (tr : ZS) : ZS := fun E S => ta S fun ds S1 => sp ds (fun r => ∃ fs, r = .sh (.obj c fs) ∧ fs.length < 1000 ∧
  ∀ a, te (S1.set i (.sh (.adr a))) fun d S2 => S2[i]? = some (.sh (.adr a)) ∧ tr E (S2.set i (.sh (.obj c (putFD f d fs))))) ez
/-- what is known of an own class whose objects get a field from outside -/
structure Kf (K : PySem.W.Frag) (mg : Str → Option Value) (c f : Str) : Prop where
  ex : ∃ C, mg c = some (.ref C) ∧ Cls K C ∧ NoAttr K C f
theorem ssd_mk2 {i : Nat} {x f : Str} {e2 : Expr} {te : ZE} {tr : ZS} {sts : List Stmt} {px p1 p2 pos2 : Pos} {pc : Pos} (F : Kl X.prog X.w X.K X.mg X.base j c sp) (hK : Kf X.K X.mg c f) (C : Cd k X P) (hb : ∀ Z, P Z → Z.bag = none ∨ i ≠ 0) (hg : Gl X c) (ez : Str → Option (Str × D) → Prop) (hez : ∀ Z, P Z → ∀ c g, ez c g → Z.ez c g)
    (ha : PAd X P (e :: es) ta) (he2 : PD X P e2 te) (hr : PSsd X P sts tr) (hj : j + 1 ≤ k := by decide) (hi : X.N[i]? = some x := by rfl) (hdb : (c == ("__debug__" : Str)) = false := by decide)
    (he : starEach (e :: es) X.env = (false, eval e X.env) :: starEach es X.env := by rfl) (hpl : (backTo pc (starEach es X.env)).any (·.1) = false := by rfl)
    (hx : Loc X.env.scope x := by first | exact Or.inl rfl | exact Or.inr rfl)
    (hs : swapsWith (.Call (.Name c p) (e :: es) [] pc) (some (.Name x px)) pos.line X.env = pure false := by rfl) (hf : X.fn x = true ∨ X.env.scope.names.lookup x = some .local := by first | exact .inl rfl | exact .inr rfl)
    (hv : Vis X.env.scope x := by first | exact Or.inl rfl | exact Or.inr (Or.inl rfl) | exact Or.inr (Or.inr rfl)) (hd : (x == ("__debug__" : Str)) = false := by decide) (hcd : (x == ("__classdict__" : Str)) = false := by decide)
    (hs2 : swapsWith e2 (some (.Attribute (.Name x p1) f p2)) pos2.line X.env = pure false := by rfl) :
    PSsd X P (.Assign [.Name x px] (.Call (.Name c p) (e :: es) [] pc) pos :: .Assign [.Attribute (.Name x p1) f p2] e2 pos2 :: sts) (zMk2 c f i sp ez ta te tr) := by
  obtain ⟨Ca, f0, fd, ps, hm, M, hbd, F⟩ := F.ex
  obtain ⟨C2, hm2, cl, na⟩ := hK.ex
  rw [hm] at hm2
  cases hm2
  obtain ⟨t0, p0, q0⟩ := ha.ex
  obtain ⟨t1, p1', q1⟩ := he2.ex
  obtain ⟨t2, p2', q2⟩ := hr.ex
  refine ⟨_, pss_cons (ps_set C.nd hi hx (pe_makeP (E := EP2 X P) M F (Room.mono C.hr hj) C.gd hg hm hbd C.hx p0 hdb he hpl) hs hf) (pss_cons (ps_fld (pe_var (i := i) hi hv hd hcd) p1' hs2) p2'), fun Z hZ S σ H E D0 ok h im => ?_⟩
  refine q0 Z hZ S σ H _ _ ok h fun ds S1 vs H1 h1 o1 f1 r1 => fun x dx hx hd ne => ?_
  have ax : ¬ avs Z S1 σ x := fun z => o1.avsd x z hx
  have nx : (upd H1 dx (.own x)) x = none := by rw [upd_ne (Ne.symm ne)]; exact hx
  have kc : Carry H1 (upd (upd H1 dx (.own x)) x (.ins Ca dx [])) (avs Z S1 σ) (fun a => avs Z S1 σ a ∨ a = x) :=
    ((Carry.new hd).trans (Carry.new nx)).trans (.same (Same.refl _) fun a z => z.elim (fun z => .inl (.inl z)) .inr)
  have old : ∀ {H' : Hp}, (∀ a o, (upd (upd H1 dx (.own x)) x (.ins Ca dx [])) a = some o → a ≠ x → H' a = some o) → Same H1 H' := fun {H'} s a o ea => by
    have n1 : a ≠ x := fun z => by rw [z, hx] at ea; cases ea
    have n2 : a ≠ dx := fun z => by rw [z, hd] at ea; cases ea
    exact s a o (by rw [upd_ne n1, upd_ne n2]; exact ea) n1
  rw [List.append_nil]
  refine ⟨x, Ca, dx, avs Z S1 σ, vs, ds, _, ez, rfl, upd_same, hm, r1.carry kc, fun a z e => ?_, h1, fun fs vfs H' q s hx' rf => ⟨rfl, ?_⟩, fun cc g cls dd H' q s hc hf => callE hZ o1 hez q (old s) hc hf⟩
  · have n1 : a ≠ x := fun y => ax (y ▸ z)
    have n2 : a ≠ dx := fun y => o1.avsd a z (y ▸ hd)
    rw [upd_ne n1, upd_ne n2] at e
    exact o1.avsd a z e
  · obtain ⟨fs', e', hl, q⟩ := q
    cases e'
    have sm := old s
    have h0 : Z.H0 x = none := o1.new0 hx
    have nav : ¬ Z.av x := fun z => o1.avd x z hx
    obtain ⟨oa, ka⟩ := o1.asideX hx (by rw [hx']; simp) sm
    obtain ⟨ob, kb⟩ := oa.setSh (i := i) (v := .ref x) (d := .adr x) (.adr x) (hb Z hZ) (nlt hi)
    have rf0 : RepF X.K X.mg H' (avs (Z.pl x) (S1.set i (.sh (.adr x))) (σ.set i (some (.ref x)))) vfs fs := (rf.carry (.same (Same.refl H') fun a z => avs_pl.mp z)).carry kb
    refine q1 (Z.pl x) (C.cl Z x hZ) _ _ H' _ _ ob (q x) fun d S2 w H2 h2 o2 f2 r2 => ?_
    obtain ⟨h3, h4⟩ := h2
    obtain ⟨y, g4, g5⟩ := o2.sl.sh i _ h3
    have ew : y = .ref x := by cases g5; rfl
    subst ew
    have hx2 : H2 x = some (.ins Ca dx vfs) := by rw [f2.pr x (.inr rfl)]; exact hx'
    have rf2 := f2.repF rf0
    refine ⟨_, g4, x, Ca, dx, vfs, rfl, hx2, cl, na, by rw [rf2.length]; exact hl, ?_⟩
    have kw : Carry H2 (upd H2 x (.ins Ca dx (putF f w vfs))) (avs (Z.pl x) S2 (σ.set i (some (.ref x)))) (avs (Z.pl x) S2 (σ.set i (some (.ref x)))) := .write hx2 rfl (.inl (.inr rfl))
    have o3 := o2.wrX (o := .ins Ca dx (putF f w vfs)) (.inr rfl) hx2 rfl h0
    have rf3 := (rf2.put (f := f) r2).carry kw
    obtain ⟨o4, k4, n4⟩ := o3.unpl nav
    obtain ⟨o5, k5⟩ := o4.setSh (i := i) (v := .ref x) (d := .obj c (putFD f d fs)) (.obj upd_same hm n4 (rf3.carry k4)) (hb Z hZ) (nlt hi)
    have es : (σ.set i (some (V.ref x))).set i (some (.ref x)) = σ.set i (some (.ref x)) := List.set_set ..
    rw [es] at o5 k5
    refine q2 Z hZ _ _ _ E D0 o5 h4 (im.frm ⟨fun v0 d0 r0 => ?_, fun a ha => ?_⟩)
    · exact (((f2.rp _ _ (((f1.rp _ _ r0).carry ka).carry kb)).carry kw).carry k4).carry k5
    · have n1 : a ≠ x := fun y => nav (y ▸ ha)
      rw [upd_ne n1, f2.pr a (.inl ha)]
      cases e1 : H1 a with
      | none => exact absurd e1 (o1.avd a ha)
      | some u => rw [sm a u e1, ← e1]; exact f1.pr a ha
end
end Zz

set_option maxHeartbeats 4000000
/-! The pure layer: own trees, at a name. -/
namespace Zz
open PySem PySem.Spec PyProof.Rows L2

/-! ### trees -/
def GO.kids : GO → List OT
  | .l xs => xs
  | .o _ _ xs => xs
def GO.wk : GO → List OT → GO
  | .l _, xs => .l xs
  | .o c ns _, xs => .o c ns xs
theorem GO.foot_kids : ∀ (g : GO), g.foot = OT.foots g.kids
  | .l _ => by simp only [GO.foot, GO.kids]
  | .o _ _ _ => by simp only [GO.foot, GO.kids]
theorem GO.kids_wk : ∀ (g : GO) (xs : List OT), (g.wk xs).kids = xs
  | .l _, _ => rfl
  | .o _ _ _, _ => rfl
/-- the subtree at a path -/
def GO.sub (a : Addr) (g : GO) : List Nat → Option (Addr × GO)
  | [] => some (a, g)
  | k :: p => match g.kids[k]? with
    | some (.c b g2) => GO.sub b g2 p
    | _ => none
def GO.put (g : GO) : List Nat → GO → GO
  | [], n => n
  | k :: p, n => match g.kids[k]? with
    | some (.c b g2) => g.wk (g.kids.set k (.c b (GO.put g2 p n)))
    | _ => g
/-! a tree as data -/
mutual
def GO.dat : GO → D
  | .l xs => .lst (OT.dats xs)
  | .o c ns xs => .obj c (ns.zip (OT.dats xs))
def OT.dat : OT → D
  | .d x => x
  | .c _ g => GO.dat g
def OT.dats : List OT → List D
  | [] => []
  | x :: xs => OT.dat x :: OT.dats xs
end
theorem dats_map : ∀ (xs : List OT), OT.dats xs = xs.map OT.dat
  | [] => rfl
  | x :: xs => by rw [OT.dats, List.map_cons, dats_map xs]
def leaves (xs : List D) : List OT := xs.map .d
theorem foots_leaves : ∀ (xs : List D), OT.foots (leaves xs) = []
  | [] => rfl
  | x :: xs => by
    show OT.foot (.d x) ++ OT.foots (leaves xs) = []
    rw [foots_leaves xs]
    simp [OT.foot]
theorem foots_append : ∀ (xs ys : List OT), OT.foots (xs ++ ys) = OT.foots xs ++ OT.foots ys
  | [], _ => rfl
  | x :: xs, ys => by
    show OT.foot x ++ OT.foots (xs ++ ys) = (OT.foot x ++ OT.foots xs) ++ OT.foots ys
    rw [foots_append xs ys, List.append_assoc]
theorem foots_get : ∀ {xs : List OT} {k : Nat} {x : OT}, xs[k]? = some x → ∀ b ∈ x.foot, b ∈ OT.foots xs
  | [], _, _, h, _, _ => by simp at h
  | y :: xs, 0, x, h, b, hb => by
    simp at h
    subst h
    exact List.mem_append_left _ hb
  | y :: xs, k + 1, x, h, b, hb => List.mem_append_right _ (foots_get (xs := xs) (k := k) (by simpa using h) b hb)

section
variable {K : PySem.W.Frag} {mg : Str → Option Value} {H H' : Hp} {av av' : Addr → Prop}
/-- what stands at a tree's root -/
def Head (mg : Str → Option Value) (H : Hp) (a : Addr) (vs : List V) : GO → Prop
  | .l _ => H a = some (.lst vs)
  | .o c ns _ => ∃ C dx, H a = some (.ins C dx (ns.zip vs)) ∧ mg c = some (.ref C) ∧ ns.length = vs.length
theorem GRep0.head {a : Addr} {g : GO} (r : GRep0 K mg H av a g) : ∃ vs, Head mg H a vs g ∧ OReps K mg H av vs g.kids := by
  cases r with
  | l h r => exact ⟨_, h, r⟩
  | o h m n r => exact ⟨_, ⟨_, _, h, m, n⟩, r⟩
theorem GRep0.of {a : Addr} {g : GO} {vs : List V} {xs : List OT} (h : Head mg H a vs g) (r : OReps K mg H av vs xs) : GRep0 K mg H av a (g.wk xs) := by
  cases g with
  | l ys => exact .l h r
  | o c ns ys =>
    obtain ⟨C, dx, h1, h2, h3⟩ := h
    exact .o h1 h2 h3 r
theorem Head.keep {a : Addr} {g : GO} {vs : List V} (h : Head mg H a vs g) (k : ∀ o, H a = some o → H' a = some o) : Head mg H' a vs g := by
  cases g with
  | l xs => exact k _ h
  | o c ns xs =>
    obtain ⟨C, dx, h1, h2, h3⟩ := h
    exact ⟨C, dx, k _ h1, h2, h3⟩
theorem Head.mut {a : Addr} {g : GO} {vs : List V} (h : Head mg H a vs g) : ∃ o, H a = some o ∧ mutb o = true := by
  cases g with
  | l xs => exact ⟨_, h, rfl⟩
  | o c ns xs =>
    obtain ⟨C, dx, h1, h2, h3⟩ := h
    exact ⟨_, h1, rfl⟩
theorem OReps.length : ∀ {vs : List V} {xs : List OT}, OReps K mg H av vs xs → vs.length = xs.length
  | _, _, .nil => rfl
  | _, _, .cons _ t => congrArg (· + 1) t.length
theorem OReps.get : ∀ {vs : List V} {xs : List OT} {i : Nat} {x : OT}, OReps K mg H av vs xs → xs[i]? = some x → ∃ v, vs[i]? = some v ∧ ORep K mg H av v x
  | _, _, _, _, .nil, e => by simp at e
  | _, _, 0, _, .cons r _, e => by simp at e; subst e; exact ⟨_, rfl, r⟩
  | _, _, i + 1, d, .cons r t, e => by
    obtain ⟨v, h1, h2⟩ := OReps.get (i := i) (x := d) t (by simpa using e)
    exact ⟨v, by simpa using h1, h2⟩
theorem OReps.append : ∀ {vs ws : List V} {xs ys : List OT}, OReps K mg H av vs xs → OReps K mg H av ws ys → OReps K mg H av (vs ++ ws) (xs ++ ys)
  | _, _, _, _, .nil, s => s
  | _, _, _, _, .cons r t, s => .cons r (t.append s)
theorem OReps.leaves : ∀ {vs : List V} {ds : List D}, Reps K mg H av vs ds → OReps K mg H av vs (leaves ds)
  | _, _, .nil => .nil
  | _, _, .cons r t => .cons (.d r) (OReps.leaves t)
theorem OReps.ofLeaves : ∀ {vs : List V} {ds : List D}, OReps K mg H av vs (Zz.leaves ds) → Reps K mg H av vs ds
  | _, [], .nil => .nil
  | _, d :: ds, .cons (.d r) t => .cons r (OReps.ofLeaves t)
mutual
theorem GRep0.mut : ∀ {a : Addr} {g : GO}, GRep0 K mg H av a g → ∀ b ∈ a :: g.foot, ∃ o, H b = some o ∧ mutb o = true
  | _, _, .l h r, b, hb => by
    rcases List.mem_cons.mp hb with rfl | hb
    · exact ⟨_, h, rfl⟩
    · exact OReps.mut r b hb
  | _, _, .o h m n r, b, hb => by
    rcases List.mem_cons.mp hb with rfl | hb
    · exact ⟨_, h, rfl⟩
    · exact OReps.mut r b hb
theorem ORep.mut : ∀ {v : V} {x : OT}, ORep K mg H av v x → ∀ b ∈ x.foot, ∃ o, H b = some o ∧ mutb o = true
  | _, _, .d r, b, hb => by cases hb
  | _, _, .c r, b, hb => GRep0.mut r b hb
theorem OReps.mut : ∀ {vs : List V} {xs : List OT}, OReps K mg H av vs xs → ∀ b ∈ OT.foots xs, ∃ o, H b = some o ∧ mutb o = true
  | _, _, .nil, b, hb => by cases hb
  | _, _, .cons r t, b, hb => (List.mem_append.mp hb).elim (ORep.mut r b) (OReps.mut t b)
end
/-- the subtree stands, its cells are of the tree -/
theorem GRep0.sub : ∀ {p : List Nat} {a b : Addr} {g g' : GO}, GRep0 K mg H av a g → GO.sub a g p = some (b, g') → GRep0 K mg H av b g' ∧ ∀ c ∈ b :: g'.foot, c ∈ a :: g.foot
  | [], a, b, g, g', r, e => by
    cases (show some (a, g) = some (b, g') from e)
    exact ⟨r, fun _ h => h⟩
  | k :: p, a, b, g, g', r, e => by
    obtain ⟨vs, _, rs⟩ := r.head
    have e' : (match g.kids[k]? with | some (.c b g2) => GO.sub b g2 p | _ => none) = some (b, g') := e
    split at e'
    · rename_i c g2 hk
      obtain ⟨v, _, rc⟩ := rs.get hk
      cases rc with
      | c r2 =>
        obtain ⟨h1, h2⟩ := GRep0.sub r2 e'
        refine ⟨h1, fun x hx => List.mem_cons_of_mem _ ?_⟩
        rw [GO.foot_kids]
        exact foots_get hk x (h2 x hx)
    · cases e'
theorem nodup_app {α : Type} {xs ys : List α} (h : (xs ++ ys).Nodup) : xs.Nodup ∧ ys.Nodup ∧ ∀ x ∈ xs, x ∉ ys := by
  rw [List.nodup_append] at h
  exact ⟨h.1, h.2.1, fun x hx hy => h.2.2 x hx x hy rfl⟩
theorem app_nodup {α : Type} {xs ys : List α} (h1 : xs.Nodup) (h2 : ys.Nodup) (h3 : ∀ x ∈ xs, x ∉ ys) : (xs ++ ys).Nodup := by
  rw [List.nodup_append]
  exact ⟨h1, h2, fun x hx y hy e => h3 x hx (e ▸ hy)⟩
/-- one of the children is changed -/
theorem OReps.setC (kc : Carry H H' av av') {b : Addr} (hb : ∀ c o, H c = some o → c ≠ b → H' c = some o) {y : OT} : ∀ {vs : List V} {xs : List OT} {k : Nat} {x : OT}, OReps K mg H av vs xs → (OT.foots xs).Nodup → xs[k]? = some x → b ∈ x.foot → (∀ v, ORep K mg H av v x → ORep K mg H' av' v y) → OReps K mg H' av' vs (xs.set k y)
  | _, _, _, _, .nil, _, e, _, _ => by simp at e
  | _, _, 0, x, .cons (vs := vs) (xs := xs) r t, nd, e, hx, hy => by
    simp at e
    subst e
    obtain ⟨_, _, n3⟩ := nodup_app nd
    exact .cons (hy _ r) (OReps.carry kc t fun c hc o ho => hb c o ho fun z => n3 b hx (z ▸ hc))
  | _, _, k + 1, x, .cons (vs := vs) (xs := xs) r t, nd, e, hx, hy => by
    have e : xs[k]? = some x := by simpa using e
    obtain ⟨_, n2, n3⟩ := nodup_app nd
    exact .cons (ORep.carry kc r fun c hc o ho => hb c o ho fun z => n3 c hc (z ▸ foots_get e b hx)) (OReps.setC kc hb t n2 e hx hy)
/-- the children's cells, one child changed -/
theorem foots_set {y : OT} {P : Addr → Prop} : ∀ {xs : List OT} {k : Nat} {x : OT}, xs[k]? = some x → (OT.foots xs).Nodup → y.foot.Nodup → (∀ c ∈ y.foot, c ∈ x.foot ∨ P c) → (∀ c ∈ OT.foots xs, ¬ P c) → (OT.foots (xs.set k y)).Nodup ∧ ∀ c ∈ OT.foots (xs.set k y), c ∈ OT.foots xs ∨ P c
  | [], _, _, e, _, _, _, _ => by simp at e
  | z :: xs, 0, x, e, nd, ny, h, hp => by
    simp at e
    subst e
    obtain ⟨n1, n2, n3⟩ := nodup_app nd
    refine ⟨app_nodup ny n2 fun c hc hd => ?_, fun c hc => ?_⟩
    · rcases h c hc with q | q
      · exact n3 c q hd
      · exact hp c (List.mem_append_right _ hd) q
    · rcases List.mem_append.mp hc with q | q
      · exact (h c q).imp (List.mem_append_left _) id
      · exact .inl (List.mem_append_right _ q)
  | z :: xs, k + 1, x, e, nd, ny, h, hp => by
    have e : xs[k]? = some x := by simpa using e
    obtain ⟨n1, n2, n3⟩ := nodup_app nd
    obtain ⟨i1, i2⟩ := foots_set e n2 ny h fun c hc => hp c (List.mem_append_right _ hc)
    refine ⟨app_nodup n1 i1 fun c hc hd => ?_, fun c hc => ?_⟩
    · rcases i2 c hd with q | q
      · exact n3 c hc q
      · exact hp c (List.mem_append_left _ hc) q
    · rcases List.mem_append.mp hc with q | q
      · exact .inl (List.mem_append_left _ q)
      · exact (i2 c q).imp (List.mem_append_right _) id
theorem GO.put_foot {n : GO} {P : Addr → Prop} : ∀ {p : List Nat} {a b : Addr} {g g' : GO}, GO.sub a g p = some (b, g') → (a :: g.foot).Nodup → (b :: n.foot).Nodup → (∀ c ∈ n.foot, c ∈ g'.foot ∨ P c) → (∀ c ∈ a :: g.foot, ¬ P c) → (a :: (g.put p n).foot).Nodup ∧ ∀ c ∈ (g.put p n).foot, c ∈ g.foot ∨ P c
  | [], a, b, g, g', e, nd, nn, h, hp => by
    cases (show some (a, g) = some (b, g') from e)
    exact ⟨nn, h⟩
  | k :: p, a, b, g, g', e, nd, nn, h, hp => by
    have e' : (match g.kids[k]? with | some (.c b g2) => GO.sub b g2 p | _ => none) = some (b, g') := e
    split at e'
    · rename_i c g2 hk
      have ek : g.put (k :: p) n = g.wk (g.kids.set k (.c c (g2.put p n))) := by
        show (match g.kids[k]? with | some (.c b g2) => g.wk (g.kids.set k (.c b (GO.put g2 p n))) | _ => g) = _
        rw [hk]
      obtain ⟨na, ng⟩ := List.nodup_cons.mp nd
      rw [GO.foot_kids] at ng na
      have nc : (c :: g2.foot).Nodup := by
        have : ∀ {xs : List OT} {k : Nat}, xs[k]? = some (.c c g2) → (OT.foots xs).Nodup → (c :: g2.foot).Nodup := by
          intro xs
          induction xs with
          | nil => intro k e; simp at e
          | cons y xs ih =>
            intro k e nd
            obtain ⟨m1, m2, _⟩ := nodup_app nd
            cases k with
            | zero => simp at e; subst e; exact m1
            | succ k => exact ih (k := k) (by simpa using e) m2
        exact this hk ng
      have sub1 : ∀ x ∈ c :: g2.foot, x ∈ OT.foots g.kids := fun x hx => foots_get hk x hx
      have hp' : ∀ x ∈ OT.foots g.kids, ¬ P x := fun x hx => hp x (List.mem_cons_of_mem _ (by rw [GO.foot_kids]; exact hx))
      obtain ⟨i1, i2⟩ := GO.put_foot e' nc nn h fun x hx => hp' x (sub1 x hx)
      obtain ⟨j1, j2⟩ := foots_set (y := .c c (g2.put p n)) (P := P) hk ng i1 (fun x hx => by
        rcases List.mem_cons.mp hx with rfl | hx
        · exact .inl List.mem_cons_self
        · exact (i2 x hx).imp (List.mem_cons_of_mem _) id) hp'
      rw [ek, GO.foot_kids, GO.kids_wk]
      refine ⟨List.nodup_cons.mpr ⟨fun z => ?_, j1⟩, fun x hx => by rw [GO.foot_kids]; exact j2 x hx⟩
      rcases j2 a z with q | q
      · exact na q
      · exact hp a List.mem_cons_self q
    · cases e'
/-- the subtree at b is changed -/
theorem GRep0.put (kc : Carry H H' av av') {b : Addr} (hb : ∀ c o, H c = some o → c ≠ b → H' c = some o) {n g' : GO} (rn : GRep0 K mg H' av' b n) : ∀ {p : List Nat} {a : Addr} {g : GO}, GRep0 K mg H av a g → (a :: g.foot).Nodup → GO.sub a g p = some (b, g') → GRep0 K mg H' av' a (g.put p n)
  | [], a, g, r, nd, e => by
    cases (show some (a, g) = some (b, g') from e)
    exact rn
  | k :: p, a, g, r, nd, e => by
    obtain ⟨vs, hh, rs⟩ := r.head
    have e' : (match g.kids[k]? with | some (.c b g2) => GO.sub b g2 p | _ => none) = some (b, g') := e
    split at e'
    · rename_i c g2 hk
      have ek : g.put (k :: p) n = g.wk (g.kids.set k (.c c (g2.put p n))) := by
        show (match g.kids[k]? with | some (.c b g2) => g.wk (g.kids.set k (.c b (GO.put g2 p n))) | _ => g) = _
        rw [hk]
      obtain ⟨na, ng⟩ := List.nodup_cons.mp nd
      rw [GO.foot_kids] at ng na
      obtain ⟨v, _, rc⟩ := rs.get hk
      have bin : b ∈ (OT.c c g2).foot := by
        cases rc with
        | c r2 => exact (GRep0.sub r2 e').2 b List.mem_cons_self
      have nc : (c :: g2.foot).Nodup := by
        have : ∀ {xs : List OT} {k : Nat}, xs[k]? = some (.c c g2) → (OT.foots xs).Nodup → (c :: g2.foot).Nodup := by
          intro xs
          induction xs with
          | nil => intro k e; simp at e
          | cons y xs ih =>
            intro k e nd
            obtain ⟨m1, m2, _⟩ := nodup_app nd
            cases k with
            | zero => simp at e; subst e; exact m1
            | succ k => exact ih (k := k) (by simpa using e) m2
        exact this hk ng
      rw [ek]
      refine GRep0.of (hh.keep fun o ho => hb a o ho fun z => na (z ▸ foots_get hk b bin)) (OReps.setC kc hb rs ng hk bin fun v rv => ?_)
      cases rv with
      | c r2 => exact .c (GRep0.put kc hb rn r2 nc e')
    · cases e'
end

/-! ### a new tree, and a name that gets it -/
section
variable {X : Cx} {Z : Zc} {S S' : SS} {σ σ' : L2.St} {H H' : Hp}
/-- a tree that nobody else knows -/
structure FreshT (X : Cx) (Z : Zc) (S : SS) (σ : L2.St) (H : Hp) (a : Addr) (g : GO) : Prop where
  rep : GRep X.K X.mg H (fun b => avs Z S σ b ∨ b ∈ a :: g.foot) a g
  new : ∀ b ∈ a :: g.foot, Z.H0 b = none
  nav : ∀ b ∈ a :: g.foot, ¬ avs Z S σ b
  sl : SlotsOk X (fun b => avs Z S σ b ∨ b ∈ a :: g.foot) S σ H
theorem gh_set {i j : Nat} {a b : Addr} {g : GO} (h : Gh (S.set i (.gh a g)) j b) : (i = j ∧ b ∈ a :: g.foot) ∨ (i ≠ j ∧ Gh S j b) := by
  obtain ⟨c, g2, h1, h2⟩ := h
  by_cases hj : i = j
  · subst hj
    have hl : i < S.length := by
      have := (List.getElem?_eq_some_iff.mp h1).1
      simpa using this
    rw [List.getElem?_set_self hl] at h1
    cases h1
    exact .inl ⟨rfl, h2⟩
  · rw [List.getElem?_set_ne hj] at h1
    exact .inr ⟨hj, c, g2, h1, h2⟩
theorem Ok.bagav (ok : Ok X Z S σ H) {b : Addr} (h : ¬ avs Z S σ b) : Z.bag ≠ some b := fun z => by
  obtain ⟨xs, h1, h2⟩ := ok.bag b z
  exact h (.inr (.inl ⟨0, xs, h1, h2⟩))
theorem Ok.setT (ok : Ok X Z S σ H) {i : Nat} {a : Addr} {g : GO} (f : FreshT X Z S σ H a g) (hb : Z.bag = none ∨ i ≠ 0) (hn : i < X.N.length) :
    Ok X Z (S.set i (.gh a g)) (σ.set i (some (.ref a))) H ∧ (∀ {v : V} {d : D}, Rep X.K X.mg H (fun b => avs Z S σ b ∨ b ∈ a :: g.foot) v d → Rep X.K X.mg H (avs Z (S.set i (.gh a g)) (σ.set i (some (.ref a)))) v d) := by
  have hil : i < σ.length := Nat.lt_of_lt_of_le hn ok.nm
  have hiS : i < S.length := Nat.lt_of_lt_of_le hil ok.len
  have back : ∀ {j : Nat} {zs : List D}, (S.set i (.gh a g))[j]? = some (.ow zs) → i ≠ j ∧ S[j]? = some (.ow zs) := fun {j zs} h => by
    have hj : i ≠ j := fun z => by
      subst z
      rw [List.getElem?_set_self hiS] at h
      cases h
    rw [List.getElem?_set_ne hj] at h
    exact ⟨hj, h⟩
  have sub : ∀ b, avs Z (S.set i (.gh a g)) (σ.set i (some (.ref a))) b → avs Z S σ b ∨ b ∈ a :: g.foot := fun b h => by
    rcases h with h | ⟨j, zs, h1, h2⟩ | ⟨j, h1⟩
    · exact .inl (.inl h)
    · obtain ⟨hj, h1⟩ := back h1
      rw [List.getElem?_set_ne hj] at h2
      exact .inl (.inr (.inl ⟨j, zs, h1, h2⟩))
    · rcases gh_set h1 with ⟨_, q⟩ | ⟨_, q⟩
      · exact .inr q
      · exact .inl (.inr (.inr ⟨j, q⟩))
  have k : Carry H H (fun b => avs Z S σ b ∨ b ∈ a :: g.foot) (avs Z (S.set i (.gh a g)) (σ.set i (some (.ref a)))) := .same (Same.refl H) sub
  refine ⟨⟨by rw [List.length_set, List.length_set]; exact ok.len, by rw [List.length_set]; exact ok.nm, fun j b g' h => ?_, ⟨fun j d' h => ?_, fun j zs h => ?_, fun j b g' h => ?_⟩, fun j l zs ys b h1 h2 h3 h4 => ?_, fun j zs b h1 h2 => ?_, ok.ext, ok.avd, fun b h => ?_, fun j l zs b h1 h2 h3 => ?_, fun j l b h1 h2 => ?_, fun j b h => ?_⟩, fun r => r.carry k⟩
  · by_cases hj : i = j
    · subst hj
      rw [List.getElem?_set_self hiS] at h
      cases h
      exact .inr (List.getElem?_set_self hil)
    · rw [List.getElem?_set_ne hj] at h
      exact gi_set hj (ok.gi j b g' h)
  · have hj : i ≠ j := fun z => by
      subst z
      rw [List.getElem?_set_self hiS] at h
      cases h
    rw [List.getElem?_set_ne hj] at h
    obtain ⟨v', h1, h2⟩ := f.sl.sh j d' h
    exact ⟨v', by rw [List.getElem?_set_ne hj]; exact h1, h2.carry k⟩
  · obtain ⟨hj, h⟩ := back h
    obtain ⟨b, us, h1, h2, h3⟩ := f.sl.ow j zs h
    exact ⟨b, us, by rw [List.getElem?_set_ne hj]; exact h1, h2, h3.carry k⟩
  · by_cases hj : i = j
    · subst hj
      rw [List.getElem?_set_self hiS] at h
      cases h
      exact f.rep.carry k fun _ _ o h => h
    · rw [List.getElem?_set_ne hj] at h
      exact (f.sl.gh j b g' h).carry k fun _ _ o h => h
  · obtain ⟨n1, h1⟩ := back h1
    obtain ⟨n2, h2⟩ := back h2
    rw [List.getElem?_set_ne n1] at h3
    rw [List.getElem?_set_ne n2] at h4
    exact ok.inj j l _ _ b h1 h2 h3 h4
  · obtain ⟨n1, h1⟩ := back h1
    rw [List.getElem?_set_ne n1] at h2
    exact ok.own j zs b h1 h2
  · obtain ⟨zs, h1, h2⟩ := ok.bag b h
    have hi0 : i ≠ 0 := by
      rcases hb with z | z
      · rw [z] at h; cases h
      · exact z
    exact ⟨zs, by rw [List.getElem?_set_ne hi0]; exact h1, by rw [List.getElem?_set_ne hi0]; exact h2⟩
  · obtain ⟨n1, h1⟩ := back h1
    rw [List.getElem?_set_ne n1] at h2
    rcases gh_set h3 with ⟨_, q⟩ | ⟨_, q⟩
    · exact f.nav b q (avs_at h1 h2)
    · exact ok.gow j l zs b h1 h2 q
  · rcases gh_set h1 with ⟨e1, q1⟩ | ⟨e1, q1⟩
    · rcases gh_set h2 with ⟨e2, q2⟩ | ⟨e2, q2⟩
      · rw [← e1, ← e2]
      · exact (f.nav b q1 (avs_gh q2)).elim
    · rcases gh_set h2 with ⟨e2, q2⟩ | ⟨e2, q2⟩
      · exact (f.nav b q2 (avs_gh q1)).elim
      · exact ok.ginj j l b q1 q2
  · rcases gh_set h with ⟨e1, q1⟩ | ⟨e1, q1⟩
    · exact ⟨⟨f.new b q1, ok.bagav (f.nav b q1)⟩, fun z => f.nav b q1 (.inl z)⟩
    · exact ok.gown j b q1
/-- a tree is changed -/
theorem Ok.gset (ok : Ok X Z S σ H) {i : Nat} {a : Addr} {g g' : GO} (e : S[i]? = some (.gh a g)) (keep : ∀ b o, H b = some o → b ∉ a :: g.foot → H' b = some o) (rep : GRep X.K X.mg H' (fun b => avs Z S σ b ∨ b ∈ a :: g'.foot) a g')
    (new : ∀ b ∈ a :: g'.foot, b ∈ a :: g.foot ∨ H b = none) : Ok X Z (S.set i (.gh a g')) σ H' ∧ Frm X Z S σ H (S.set i (.gh a g')) σ H' := by
  have hiS : i < S.length := (List.getElem?_eq_some_iff.mp e).1
  have gs : ∀ b ∈ a :: g.foot, Gh S i b := fun b hb => ⟨a, g, e, hb⟩
  have back : ∀ {j : Nat} {zs : List D}, (S.set i (.gh a g'))[j]? = some (.ow zs) → i ≠ j ∧ S[j]? = some (.ow zs) := fun {j zs} h => by
    have hj : i ≠ j := fun z => by
      subst z
      rw [List.getElem?_set_self hiS] at h
      cases h
    rw [List.getElem?_set_ne hj] at h
    exact ⟨hj, h⟩
  have sub : ∀ b, avs Z (S.set i (.gh a g')) σ b → avs Z S σ b ∨ b ∈ a :: g'.foot := fun b h => by
    rcases h with h | ⟨j, zs, h1, h2⟩ | ⟨j, h1⟩
    · exact .inl (.inl h)
    · exact .inl (.inr (.inl ⟨j, zs, (back h1).2, h2⟩))
    · rcases gh_set h1 with ⟨_, q⟩ | ⟨_, q⟩
      · exact .inr q
      · exact .inl (.inr (.inr ⟨j, q⟩))
  have old : ∀ {c : Addr} {o : HO}, H c = some o → (mutb o = true → ¬ avs Z S σ c) → c ∉ a :: g.foot := fun {c o} h n z => by
    obtain ⟨o', h1, h2⟩ := (ok.sl.gh i a g e).rep.mut c z
    rw [h] at h1
    cases h1
    exact n h2 (avs_gh (gs c z))
  have nav' : ∀ {c : Addr} {o : HO}, H c = some o → ¬ avs Z S σ c → ¬ avs Z (S.set i (.gh a g')) σ c := fun {c o} h n z => by
    rcases sub c z with q | q
    · exact n q
    · rcases new c q with w | w
      · exact n (avs_gh (gs c w))
      · rw [h] at w; cases w
  have k : Carry H H' (avs Z S σ) (avs Z (S.set i (.gh a g')) σ) := fun c o h n => ⟨keep c o h (old h n), fun m => nav' h (n m)⟩
  have k' : Carry H' H' (fun b => avs Z S σ b ∨ b ∈ a :: g'.foot) (avs Z (S.set i (.gh a g')) σ) := .same (Same.refl H') sub
  have avk : ∀ {b : Addr}, Z.av b → b ∉ a :: g.foot := fun {b} h z => (ok.gown i b (gs b z)).2 h
  have oth : ∀ {j : Nat} {b : Addr}, i ≠ j → Gh S j b → b ∉ a :: g.foot := fun {j b} n h z => n (ok.ginj i j b (gs b z) h)
  have owk : ∀ {j : Nat} {zs : List D} {b : Addr}, S[j]? = some (.ow zs) → σ[j]? = some (some (.ref b)) → b ∉ a :: g.foot := fun {j zs b} h1 h2 z => ok.gow j i zs b h1 h2 (gs b z)
  refine ⟨⟨by rw [List.length_set]; exact ok.len, ok.nm, fun j b g2 h => ?_, ⟨fun j d' h => ?_, fun j zs h => ?_, fun j b g2 h => ?_⟩, fun j l zs ys b h1 h2 h3 h4 => ok.inj j l _ _ b (back h1).2 (back h2).2 h3 h4, fun j zs b h1 h2 => ok.own j zs b (back h1).2 h2, fun b o h n => ?_, fun b h => ?_, fun b h => ?_, fun j l zs b h1 h2 h3 => ?_, fun j l b h1 h2 => ?_, fun j b h => ?_⟩, .of k fun b hb => ?_⟩
  · by_cases hj : i = j
    · subst hj
      rw [List.getElem?_set_self hiS] at h
      cases h
      exact ok.gi i a g e
    · rw [List.getElem?_set_ne hj] at h
      exact ok.gi j b g2 h
  · have hj : i ≠ j := fun z => by
      subst z
      rw [List.getElem?_set_self hiS] at h
      cases h
    rw [List.getElem?_set_ne hj] at h
    obtain ⟨v', h1, h2⟩ := ok.sl.sh j d' h
    exact ⟨v', h1, h2.carry k⟩
  · obtain ⟨hj, h⟩ := back h
    obtain ⟨b, us, h1, h2, h3⟩ := ok.sl.ow j zs h
    exact ⟨b, us, h1, keep b _ h2 (owk h h1), h3.carry k⟩
  · by_cases hj : i = j
    · subst hj
      rw [List.getElem?_set_self hiS] at h
      cases h
      exact rep.carry k' fun _ _ o h => h
    · rw [List.getElem?_set_ne hj] at h
      exact (ok.sl.gh j b g2 h).carry k fun c hc o ho => keep c o ho (oth hj ⟨b, g2, h, hc⟩)
  · exact keep b o (ok.ext b o h n) fun z => by
      have := (ok.gown i b (gs b z)).1.1
      rw [h] at this
      cases this
  · cases h1 : H b with
    | none => exact absurd h1 (ok.avd b h)
    | some o => rw [keep b o h1 (avk h)]; simp
  · obtain ⟨zs, h1, h2⟩ := ok.bag b h
    have hi0 : i ≠ 0 := fun z => by
      subst z
      rw [e] at h1
      cases h1
    exact ⟨zs, by rw [List.getElem?_set_ne hi0]; exact h1, h2⟩
  · obtain ⟨n1, h1⟩ := back h1
    rcases gh_set h3 with ⟨_, q⟩ | ⟨_, q⟩
    · rcases new b q with w | w
      · exact owk h1 h2 w
      · obtain ⟨b', us, h4, h5, _⟩ := ok.sl.ow j zs h1
        rw [h2] at h4
        cases h4
        rw [w] at h5
        cases h5
    · exact ok.gow j l zs b h1 h2 q
  · have key : ∀ {l : Nat} {b : Addr}, b ∈ a :: g'.foot → i ≠ l → Gh S l b → False := fun {l b} q n h => by
      rcases new b q with w | w
      · exact oth n h w
      · exact ok.sl.gthere h w
    rcases gh_set h1 with ⟨e1, q1⟩ | ⟨e1, q1⟩
    · rcases gh_set h2 with ⟨e2, q2⟩ | ⟨e2, q2⟩
      · rw [← e1, ← e2]
      · exact (key q1 e2 q2).elim
    · rcases gh_set h2 with ⟨e2, q2⟩ | ⟨e2, q2⟩
      · exact (key q2 e1 q1).elim
      · exact ok.ginj j l b q1 q2
  · rcases gh_set h with ⟨e1, q1⟩ | ⟨e1, q1⟩
    · rcases new b q1 with w | w
      · exact ok.gown i b (gs b w)
      · exact ⟨⟨ok.new0 w, ok.bagav fun z => ok.avsd b z w⟩, fun z => ok.avd b z w⟩
    · exact ok.gown j b q1
  · cases h1 : H b with
    | none => exact absurd h1 (ok.avd b hb)
    | some o => exact keep b o h1 (avk hb)
end
end Zz

set_option maxHeartbeats 4000000
/-! The pure layer: rules for own trees. -/
namespace Zz
open PySem PySem.Spec PyProof.Rows L2

/-! ### changes -/
theorem kid_nd {xs : List OT} {k : Nat} {c : Addr} {g : GO} (e : xs[k]? = some (.c c g)) (nd : (OT.foots xs).Nodup) : (c :: g.foot).Nodup := by
  induction xs generalizing k with
  | nil => simp at e
  | cons y xs ih =>
    obtain ⟨m1, m2, _⟩ := nodup_app nd
    cases k with
    | zero => simp at e; subst e; exact m1
    | succ k => exact ih (k := k) (by simpa using e) m2
theorem GO.sub_nd : ∀ {p : List Nat} {a b : Addr} {g g' : GO}, (a :: g.foot).Nodup → GO.sub a g p = some (b, g') → (b :: g'.foot).Nodup
  | [], a, b, g, g', nd, e => by
    cases (show some (a, g) = some (b, g') from e)
    exact nd
  | k :: p, a, b, g, g', nd, e => by
    have e' : (match g.kids[k]? with | some (.c b g2) => GO.sub b g2 p | _ => none) = some (b, g') := e
    split at e'
    · rename_i c g2 hk
      have n := (List.nodup_cons.mp nd).2
      rw [GO.foot_kids] at n
      exact GO.sub_nd (kid_nd hk n) e'
    · cases e'
/-- the tree in slot i at a path -/
def subS (S : SS) (i : Nat) (p : List Nat) : Option (Addr × GO) := match S[i]? with
  | some (.gh a g) => GO.sub a g p
  | _ => none
def pset (S : SS) (i : Nat) (p : List Nat) (n : GO) : SS := match S[i]? with
  | some (.gh a g) => S.set i (.gh a (g.put p n))
  | _ => S
theorem subS_ex {S : SS} {i : Nat} {p : List Nat} {b : Addr} {g' : GO} (h : subS S i p = some (b, g')) : ∃ a g, S[i]? = some (.gh a g) ∧ GO.sub a g p = some (b, g') := by
  unfold subS at h
  split at h
  · exact ⟨_, _, by assumption, h⟩
  · cases h
section
variable {X : Cx} {Z : Zc} {S S' : SS} {σ σ' : L2.St} {H H' : Hp}
theorem Ok.pwrite (ok : Ok X Z S σ H) {i : Nat} {p : List Nat} {b : Addr} {xs ys : List OT} {vs nvs : List V} (e : subS S i p = some (b, .l xs)) (hv : H b = some (.lst vs)) (r : OReps X.K X.mg H (avs Z S σ) nvs ys) (nd : (OT.foots ys).Nodup) (sb : ∀ c ∈ OT.foots ys, c ∈ OT.foots xs) :
    Ok X Z (pset S i p (.l ys)) σ (upd H b (.lst nvs)) ∧ Frm X Z S σ H (pset S i p (.l ys)) σ (upd H b (.lst nvs)) := by
  obtain ⟨a, g, e1, e2⟩ := subS_ex e
  have ep : pset S i p (.l ys) = S.set i (.gh a (g.put p (.l ys))) := by unfold pset; rw [e1]
  rw [ep]
  have gr := ok.sl.gh i a g e1
  obtain ⟨g1, g2⟩ := gr.rep.sub e2
  have ndb := GO.sub_nd gr.nd e2
  have inav : ∀ c ∈ a :: g.foot, avs Z S σ c := fun c hc => avs_gh ⟨a, g, e1, hc⟩
  have bin := g2 b List.mem_cons_self
  have fs : ∀ c ∈ (GO.l ys).foot, c ∈ (GO.l xs).foot ∨ False := fun c hc => .inl (by
    rw [GO.foot_kids] at hc ⊢
    exact sb c hc)
  have nb : b ∉ OT.foots xs := by
    have := (List.nodup_cons.mp ndb).1
    rwa [GO.foot_kids] at this
  have nn : (b :: (GO.l ys).foot).Nodup := by
    rw [GO.foot_kids]
    exact List.nodup_cons.mpr ⟨fun z => nb (sb b z), nd⟩
  obtain ⟨f1, f2⟩ := GO.put_foot (P := fun _ => False) e2 gr.nd nn fs fun _ _ z => z
  have kc : Carry H (upd H b (.lst nvs)) (avs Z S σ) (fun c => avs Z S σ c ∨ c ∈ a :: (g.put p (.l ys)).foot) :=
    (Carry.write (o := .lst nvs) hv rfl (inav b bin)).trans (.same (Same.refl _) fun c z => z.elim id fun q => by
      rcases List.mem_cons.mp q with rfl | q
      · exact inav c List.mem_cons_self
      · exact (f2 c q).elim (fun w => inav c (List.mem_cons_of_mem _ w)) False.elim)
  have hb : ∀ c o, H c = some o → c ≠ b → (upd H b (.lst nvs)) c = some o := fun c o h n => by rw [upd_ne n]; exact h
  have rn : GRep0 X.K X.mg (upd H b (.lst nvs)) (fun c => avs Z S σ c ∨ c ∈ a :: (g.put p (.l ys)).foot) b (.l ys) := .l upd_same (r.carry kc fun c hc o ho => hb c o ho fun z => nb (z ▸ sb c hc))
  refine ok.gset e1 (fun c o h n => hb c o h fun z => n (z ▸ bin)) ⟨GRep0.put kc hb rn gr.rep gr.nd e2, f1⟩ fun c hc => ?_
  rcases List.mem_cons.mp hc with rfl | hc
  · exact .inl List.mem_cons_self
  · exact .inl ((f2 c hc).elim (List.mem_cons_of_mem _) False.elim)
mutual
theorem GRep0.rep {K : PySem.W.Frag} {mg : Str → Option Value} {av av' : Addr → Prop} (k : Carry H H av av') : ∀ {a : Addr} {g : GO}, GRep0 K mg H av a g → (∀ b ∈ a :: g.foot, ¬ av' b) → Rep K mg H av' (.ref a) g.dat
  | _, _, .l h r, n => by
    rw [GO.dat]
    exact .lst h (n _ List.mem_cons_self) (OReps.reps k r fun b hb => n b (List.mem_cons_of_mem _ hb))
  | _, _, .o h m e r, n => by
    rw [GO.dat]
    exact .obj h m (n _ List.mem_cons_self) (zipF (OReps.reps k r fun b hb => n b (List.mem_cons_of_mem _ hb)))
theorem ORep.rep {K : PySem.W.Frag} {mg : Str → Option Value} {av av' : Addr → Prop} (k : Carry H H av av') : ∀ {v : V} {x : OT}, ORep K mg H av v x → (∀ b ∈ x.foot, ¬ av' b) → Rep K mg H av' v x.dat
  | _, _, .d r, _ => by rw [OT.dat]; exact r.carry k
  | _, _, .c r, n => by rw [OT.dat]; exact GRep0.rep k r n
theorem OReps.reps {K : PySem.W.Frag} {mg : Str → Option Value} {av av' : Addr → Prop} (k : Carry H H av av') : ∀ {vs : List V} {xs : List OT}, OReps K mg H av vs xs → (∀ b ∈ OT.foots xs, ¬ av' b) → Reps K mg H av' vs (OT.dats xs)
  | _, _, .nil, _ => .nil
  | _, _, .cons r t, n => .cons (ORep.rep k r fun b hb => n b (List.mem_append_left _ hb)) (OReps.reps k t fun b hb => n b (List.mem_append_right _ hb))
theorem zipF {K : PySem.W.Frag} {mg : Str → Option Value} {av : Addr → Prop} : ∀ {ns : List Str} {vs : List V} {ds : List D}, Reps K mg H av vs ds → RepF K mg H av (ns.zip vs) (ns.zip ds)
  | [], _, _, _ => by simp only [List.zip_nil_left]; exact .nil
  | _ :: _, _, _, .nil => by simp only [List.zip_nil_right]; exact .nil
  | n :: ns, _, _, .cons r t => by
    rw [List.zip_cons_cons, List.zip_cons_cons]
    exact .cons r (zipF t)
end
/-- where the cells of a tree are no own cells any more -/
theorem gfrz_av {i : Nat} {a : Addr} {g : GO} (ok : Ok X Z S σ H) (e : S[i]? = some (.gh a g)) {s : Sl} (hs : s.isG = false) (hi : ∀ xs, s = .ow xs → σ[i]? = some (some (.ref a))) : ∀ b ∈ g.foot, ¬ avs Z (S.set i s) σ b := fun b hb h => by
  have gb : Gh S i b := ⟨a, g, e, List.mem_cons_of_mem _ hb⟩
  have hil : i < S.length := (List.getElem?_eq_some_iff.mp e).1
  rcases h with h | ⟨j, zs, h1, h2⟩ | ⟨j, h1⟩
  · exact (ok.gown i b gb).2 h
  · by_cases hj : i = j
    · subst hj
      rw [List.getElem?_set_self hil] at h1
      rw [hi zs (Option.some.inj h1)] at h2
      cases h2
      exact (List.nodup_cons.mp (ok.sl.gh i a g e).nd).1 hb
    · rw [List.getElem?_set_ne hj] at h1
      exact ok.gow j i zs b h1 h2 gb
  · obtain ⟨n, h1⟩ := hg_back h1 hs
    exact n (ok.ginj i j b gb h1)
theorem Ok.gfrz (ok : Ok X Z S σ H) {i : Nat} {a : Addr} {g : GO} (e : S[i]? = some (.gh a g)) (ha : σ[i]? = some (some (.ref a))) :
    Ok X Z (S.set i (.sh g.dat)) σ H ∧ Frm X Z S σ H (S.set i (.sh g.dat)) σ H ∧ Rep X.K X.mg H (avs Z (S.set i (.sh g.dat)) σ) (.ref a) g.dat := by
  have hil : i < S.length := (List.getElem?_eq_some_iff.mp e).1
  have sub : ∀ b, avs Z (S.set i (.sh g.dat)) σ b → avs Z S σ b := avs_frz
  have k : Carry H H (avs Z S σ) (avs Z (S.set i (.sh g.dat)) σ) := .same (Same.refl H) sub
  have na : ∀ b ∈ a :: g.foot, ¬ avs Z (S.set i (.sh g.dat)) σ b := fun b hb => by
    rcases List.mem_cons.mp hb with rfl | hb
    · rintro (h | ⟨j, zs, h1, h2⟩ | ⟨j, h1⟩)
      · exact (ok.gown i b ⟨b, g, e, List.mem_cons_self⟩).2 h
      · by_cases hj : i = j
        · subst hj
          rw [List.getElem?_set_self hil] at h1
          cases h1
        · rw [List.getElem?_set_ne hj] at h1
          exact ok.gow j i zs b h1 h2 ⟨b, g, e, List.mem_cons_self⟩
      · obtain ⟨n, h1⟩ := hg_back h1
        exact n (ok.ginj i j b ⟨b, g, e, List.mem_cons_self⟩ h1)
    · exact gfrz_av ok e rfl (fun xs z => by cases z) b hb
  have rep : Rep X.K X.mg H (avs Z (S.set i (.sh g.dat)) σ) (.ref a) g.dat := GRep0.rep k (ok.sl.gh i a g e).rep na
  have back : ∀ {j : Nat} {zs : List D}, (S.set i (.sh g.dat))[j]? = some (.ow zs) → i ≠ j ∧ S[j]? = some (.ow zs) := fun {j zs} h => by
    have hj : i ≠ j := fun z => by
      subst z
      rw [List.getElem?_set_self hil] at h; cases h
    rw [List.getElem?_set_ne hj] at h
    exact ⟨hj, h⟩
  refine ⟨⟨by rw [List.length_set]; exact ok.len, ok.nm, fun j b g h => ok.gi j b g (gh_back h).2, ⟨fun j d h => ?_, fun j zs h => ?_, fun j b g h => (ok.sl.gh j b g (gh_back h).2).carry k fun _ _ o h => h⟩, fun j l zs ys' b h1 h2 h3 h4 => ?_, fun j zs b h1 h2 => ?_, ok.ext, ok.avd, fun b h => ?_, fun j l zs b h1 h2 h3 => ok.gow j l zs b (back h1).2 h2 (hg_back h3).2, fun j l b h1 h2 => ok.ginj j l b (hg_back h1).2 (hg_back h2).2, fun j b h => ok.gown j b (hg_back h).2⟩, .of k fun _ _ => rfl, rep⟩
  · by_cases hj : i = j
    · subst hj
      rw [List.getElem?_set_self hil] at h
      cases h
      exact ⟨_, ha, rep⟩
    · rw [List.getElem?_set_ne hj] at h
      obtain ⟨v, h1, h2⟩ := ok.sl.sh j d h
      exact ⟨v, h1, h2.carry k⟩
  · obtain ⟨_, h⟩ := back h
    obtain ⟨b, us, h1, h2, h3⟩ := ok.sl.ow j zs h
    exact ⟨b, us, h1, h2, h3.carry k⟩
  · exact ok.inj j l _ _ b (back h1).2 (back h2).2 h3 h4
  · exact ok.own j _ b (back h1).2 h2
  · obtain ⟨zs, h1, h2⟩ := ok.bag b h
    have hi0 : i ≠ 0 := fun z => by
      subst z
      rw [e] at h1
      cases h1
    exact ⟨zs, by rw [List.getElem?_set_ne hi0]; exact h1, h2⟩
/-- the children of an own list are data from now on -/
theorem Ok.settle (ok : Ok X Z S σ H) {i : Nat} {a : Addr} {xs : List OT} (e : S[i]? = some (.gh a (.l xs))) (ha : σ[i]? = some (some (.ref a))) :
    Ok X Z (S.set i (.ow (OT.dats xs))) σ H ∧ Frm X Z S σ H (S.set i (.ow (OT.dats xs))) σ H := by
  have hil : i < S.length := (List.getElem?_eq_some_iff.mp e).1
  have ga : Gh S i a := ⟨a, _, e, List.mem_cons_self⟩
  have ow : ∀ {j : Nat} {zs : List D}, (S.set i (.ow (OT.dats xs)))[j]? = some (.ow zs) → (i = j ∧ zs = OT.dats xs) ∨ (i ≠ j ∧ S[j]? = some (.ow zs)) := fun {j zs} h => by
    by_cases hj : i = j
    · subst hj
      rw [List.getElem?_set_self hil] at h
      cases h
      exact .inl ⟨rfl, rfl⟩
    · rw [List.getElem?_set_ne hj] at h
      exact .inr ⟨hj, h⟩
  have sub : ∀ b, avs Z (S.set i (.ow (OT.dats xs))) σ b → avs Z S σ b := fun b h => by
    rcases h with h | ⟨j, zs, h1, h2⟩ | ⟨j, h1⟩
    · exact .inl h
    · rcases ow h1 with ⟨rfl, _⟩ | ⟨_, h1⟩
      · rw [ha] at h2
        cases h2
        exact avs_gh ga
      · exact .inr (.inl ⟨j, zs, h1, h2⟩)
    · exact .inr (.inr ⟨j, (hg_back h1).2⟩)
  have k : Carry H H (avs Z S σ) (avs Z (S.set i (.ow (OT.dats xs))) σ) := .same (Same.refl H) sub
  have gr := ok.sl.gh i a _ e
  obtain ⟨vs, hh, rs⟩ := gr.rep.head
  have hv : H a = some (.lst vs) := hh
  have nf := gfrz_av ok e (s := .ow (OT.dats xs)) rfl fun _ _ => ha
  rw [GO.foot_kids] at nf
  have rr : Reps X.K X.mg H (avs Z (S.set i (.ow (OT.dats xs))) σ) vs (OT.dats xs) := OReps.reps k rs nf
  refine ⟨⟨by rw [List.length_set]; exact ok.len, ok.nm, fun j b g h => ok.gi j b g (gh_back h).2, ⟨fun j d h => ?_, fun j zs h => ?_, fun j b g h => (ok.sl.gh j b g (gh_back h).2).carry k fun _ _ o h => h⟩, fun j l zs ys' b h1 h2 h3 h4 => ?_, fun j zs b h1 h2 => ?_, ok.ext, ok.avd, fun b h => ?_, fun j l zs b h1 h2 h3 => ?_, fun j l b h1 h2 => ok.ginj j l b (hg_back h1).2 (hg_back h2).2, fun j b h => ok.gown j b (hg_back h).2⟩, .of k fun _ _ => rfl⟩
  · have hj : i ≠ j := fun z => by
      subst z
      rw [List.getElem?_set_self hil] at h; cases h
    rw [List.getElem?_set_ne hj] at h
    obtain ⟨v, h1, h2⟩ := ok.sl.sh j d h
    exact ⟨v, h1, h2.carry k⟩
  · rcases ow h with ⟨rfl, rfl⟩ | ⟨_, h⟩
    · exact ⟨a, vs, ha, hv, rr⟩
    · obtain ⟨b, us, h1, h2, h3⟩ := ok.sl.ow j zs h
      exact ⟨b, us, h1, h2, h3.carry k⟩
  · rcases ow h1 with ⟨e1, _⟩ | ⟨n1, h1⟩
    · rcases ow h2 with ⟨e2, _⟩ | ⟨n2, h2⟩
      · rw [← e1, ← e2]
      · subst e1
        rw [ha] at h3
        cases h3
        exact (ok.gow l i _ a h2 h4 ga).elim
    · rcases ow h2 with ⟨e2, _⟩ | ⟨n2, h2⟩
      · subst e2
        rw [ha] at h4
        cases h4
        exact (ok.gow j i _ a h1 h3 ga).elim
      · exact ok.inj j l _ _ b h1 h2 h3 h4
  · rcases ow h1 with ⟨e1, _⟩ | ⟨n1, h1⟩
    · subst e1
      rw [ha] at h2
      cases h2
      obtain ⟨⟨q1, q2⟩, q3⟩ := ok.gown i a ga
      exact ⟨.inl q1, q3⟩
    · exact ok.own j _ b h1 h2
  · obtain ⟨zs, h1, h2⟩ := ok.bag b h
    have hi0 : i ≠ 0 := fun z => by
      subst z
      rw [e] at h1
      cases h1
    exact ⟨zs, by rw [List.getElem?_set_ne hi0]; exact h1, h2⟩
  · obtain ⟨n, h3⟩ := hg_back h3
    rcases ow h1 with ⟨e1, _⟩ | ⟨n1, h1⟩
    · subst e1
      rw [ha] at h2
      cases h2
      exact n (ok.ginj i l a ga h3)
    · exact ok.gow j l zs b h1 h2 h3
end

/-! ### new trees -/
abbrev ZF := SS → (Addr → GO → SS → Prop) → Prop
/-- an expression: a new tree -/
structure PFT (X : Cx) (P : Zc → Prop) (e : Expr) (t : ZF) : Prop where
  ex : ∃ t0 : TE, PE X e t0 ∧ ∀ (Z : Zc), P Z → ∀ (S : SS) (σ : L2.St) (H : Hp) (Qz : Addr → GO → SS → Prop) (Q : VK), Ok X Z S σ H → t S Qz →
    (∀ a g S' H', Qz a g S' → Ok X Z S' σ H' → Frm X Z S σ H S' σ H' → FreshT X Z S' σ H' a g → (∀ v d, Rep X.K X.mg H (avs Z S σ) v d → Rep X.K X.mg H' (fun b => avs Z S' σ b ∨ b ∈ a :: g.foot) v d) → Q (.ref a) H') → t0 σ H Q
section
variable {X : Cx} {P : Zc → Prop} {e : Expr} {pos : Pos}
theorem leaf_foot {a : Addr} {xs : List D} : a :: (GO.l (leaves xs)).foot = [a] := by rw [GO.foot_kids]; show a :: OT.foots (leaves xs) = [a]; rw [foots_leaves]
theorem Fresh.tree {Z : Zc} {S : SS} {σ : L2.St} {H : Hp} {a : Addr} {xs : List D} (f : Fresh X Z S σ H a xs) : FreshT X Z S σ H a (.l (leaves xs)) := by
  obtain ⟨vs, h, r⟩ := f.at_
  have k : Carry H H (fun b => avs Z S σ b ∨ b = a) (fun b => avs Z S σ b ∨ b ∈ a :: (GO.l (leaves xs)).foot) := .same (Same.refl H) fun b z => by
    rw [leaf_foot] at z
    exact z.imp id List.mem_singleton.mp
  refine ⟨⟨.l h (OReps.leaves (r.carry k)), by rw [leaf_foot]; simp⟩, fun b hb => ?_, fun b hb => ?_, f.sl.carry k (fun _ _ _ _ _ _ e => e) fun _ _ _ _ e => e⟩
  · rw [leaf_foot] at hb
    rw [List.mem_singleton.mp hb]
    exact f.new
  · rw [leaf_foot] at hb
    rw [List.mem_singleton.mp hb]
    exact f.nav
/-- a new flat list -/
def zTF (t : ZA) : ZF := fun S Q => t S fun xs S1 => ∀ a, Q a (.l (leaves xs)) S1
theorem pft_pf {t : ZA} (h : PF X P e t) : PFT X P e (zTF t) := by
  obtain ⟨t0, p, q⟩ := h.ex
  refine ⟨t0, p, fun Z hZ S σ H Qz Q ok hq k => q Z hZ S σ H _ Q ok hq fun xs S' a H' h1 o f fr tr => k a _ S' H' (h1 a) o f fr.tree fun v d r => (tr v d r).carry (.same (Same.refl H') fun b z => ?_)⟩
  rw [leaf_foot] at z
  exact z.imp id List.mem_singleton.mp
/-- [e], e a new tree -/
def zLst1 (t : ZF) : ZF := fun S Q => t S fun a g S1 => ∀ p, Q p (.l [.c a g]) S1
theorem foot1 {p a : Addr} {g : GO} : p :: (GO.l [.c a g]).foot = p :: a :: g.foot := by
  rw [GO.foot_kids]
  show p :: (OT.foot (.c a g) ++ []) = _
  rw [List.append_nil, OT.foot]
theorem pft_lst1 {t : ZF} (h : PFT X P e t) (hs : starEach [e] X.env = (false, eval e X.env) :: starEach [] X.env := by rfl) : PFT X P (.List [e] pos) (zLst1 t) := by
  obtain ⟨t0, p0, q0⟩ := h.ex
  refine ⟨_, pe_lst (pa_cons p0 pa_nil hs), fun Z hZ S σ H Qz Q ok hq k => q0 Z hZ S σ H _ _ ok hq fun a g S1 H1 h1 o1 f1 fr tr => ⟨by show 1 ≤ sizeLine; decide, fun p hp => ?_⟩⟩
  have s : Same H1 (upd H1 p (.lst [.ref a])) := Same.upd hp
  have np : ¬ avs Z S1 σ p := fun z => o1.avsd p z hp
  have npf : p ∉ a :: g.foot := fun z => fr.rep.rep.there p z hp
  have kc : Carry H1 (upd H1 p (.lst [.ref a])) (fun b => avs Z S1 σ b ∨ b ∈ a :: g.foot) (fun b => avs Z S1 σ b ∨ b ∈ p :: (GO.l [.c a g]).foot) := fun c o h n => ⟨s c o h, fun m z => by
    rw [foot1] at z
    rcases z with z | z
    · exact n m (.inl z)
    · rcases List.mem_cons.mp z with rfl | z
      · rw [hp] at h; cases h
      · exact n m (.inr z)⟩
  refine k p _ S1 _ (h1 p) (o1.same s) (f1.trans (.same o1 s)) ⟨⟨.l upd_same (.cons (.c (fr.rep.rep.carry kc fun b _ o h => s b o h)) .nil), by rw [foot1]; exact List.nodup_cons.mpr ⟨npf, fr.rep.nd⟩⟩, fun b hb => ?_, fun b hb => ?_, fr.sl.carry kc (fun _ _ b us _ _ e => s b _ e) fun _ b o _ e => s b o e⟩ fun v d r => (tr v d r).carry kc
  · rw [foot1] at hb
    rcases List.mem_cons.mp hb with rfl | hb
    · exact o1.new0 hp
    · exact fr.new b hb
  · rw [foot1] at hb
    rcases List.mem_cons.mp hb with rfl | hb
    · exact np
    · exact fr.nav b hb
/-- name = a new tree -/
def zSetT (t : ZF) (i : Nat) : ZS := fun E S => t S fun a g S1 => E.nx (S1.set i (.gh a g))
theorem sd_setT {i : Nat} {x : Str} {pos' : Pos} {tf : ZF} (hb : ∀ Z, P Z → Z.bag = none ∨ i ≠ 0) (hN : X.N.Nodup) (he : PFT X P e tf) (hi : X.N[i]? = some x := by rfl) (hx : Loc X.env.scope x := by first | exact Or.inl rfl | exact Or.inr rfl)
    (hs : swapsWith e (some (.Name x pos')) pos.line X.env = pure false := by rfl) (hf : X.fn x = true ∨ X.env.scope.names.lookup x = some .local := by first | exact .inl rfl | exact .inr rfl) : PSd X P (.Assign [.Name x pos'] e pos) (zSetT tf i) := by
  obtain ⟨t0, p0, q0⟩ := he.ex
  refine ⟨_, ps_set hN hi hx p0 hs hf, fun Z hZ S σ H E D0 ok h j => q0 Z hZ S σ H _ _ ok h fun a g S1 H1 h1 o f fr tr => ?_⟩
  obtain ⟨o2, c⟩ := o.setT (i := i) fr (hb Z hZ) (nlt hi)
  exact j.nx _ _ _ h1 o2 ⟨fun v d r => c (tr v d r), f.pr⟩

/-! ### paths -/
abbrev ZP := SS → (Nat → List Nat → SS → Prop) → Prop
def PVal (S : SS) (v : V) (i : Nat) (p : List Nat) : Prop := ∃ b g, subS S i p = some (b, g) ∧ v = .ref b
/-- an expression: a place in an own tree -/
structure PP (X : Cx) (P : Zc → Prop) (e : Expr) (t : ZP) : Prop where
  ex : ∃ t0 : TE, PE X e t0 ∧ ∀ (Z : Zc), P Z → ∀ (S : SS) (σ : L2.St) (H : Hp) (Qz : Nat → List Nat → SS → Prop) (Q : VK), Ok X Z S σ H → t S Qz →
    (∀ i p S' v H', Qz i p S' → Ok X Z S' σ H' → Frm X Z S σ H S' σ H' → PVal S' v i p → Q v H') → t0 σ H Q
def zPv (i : Nat) : ZP := fun S Q => match S[i]? with
  | some (.gh _ _) => Q i [] S
  | _ => False
theorem Ok.ref {Z : Zc} {S : SS} {σ : L2.St} {H : Hp} (ok : Ok X Z S σ H) {i : Nat} {a : Addr} {g : GO} (e : S[i]? = some (.gh a g)) (hn : i < X.N.length) : σ[i]? = some (some (.ref a)) := by
  rcases ok.gi i a g e with q | q
  · have := ok.nm
    omega
  · exact q
theorem pp_var (i : Nat) {x : Str} (hN : X.N[i]? = some x := by rfl) (hv : Vis X.env.scope x := by first | exact Or.inl rfl | exact Or.inr (Or.inl rfl) | exact Or.inr (Or.inr rfl)) (hd : (x == ("__debug__" : Str)) = false := by decide)
    (hcd : (x == ("__classdict__" : Str)) = false := by decide) : PP X P (.Name x pos) (zPv i) := by
  refine ⟨_, pe_var (i := i) hN hv hd hcd, fun Z hZ S σ H Qz Q ok h k => ?_⟩
  unfold zPv at h
  split at h
  · rename_i a g e
    have hr := ok.ref e (nlt hN)
    refine ⟨_, hr, k i [] S _ H h ok .refl ⟨a, g, ?_, rfl⟩⟩
    unfold subS
    rw [e]
    rfl
  · exact h.elim
theorem PVal.to {S S' : SS} {v : V} {i : Nat} {p : List Nat} (h : PVal S v i p) (e : S'[i]? = S[i]?) : PVal S' v i p := by
  obtain ⟨b, g, h1, h2⟩ := h
  refine ⟨b, g, ?_, h2⟩
  unfold subS at h1 ⊢
  rw [e]
  exact h1
/-- what stands at a place, as a list -/
theorem pval_list {Z : Zc} {S : SS} {σ : L2.St} {H : Hp} {v : V} {i : Nat} {p : List Nat} {b : Addr} {xs : List OT} (ok : Ok X Z S σ H) (h : PVal S v i p) (e : subS S i p = some (b, .l xs)) : ∃ vs, v = .ref b ∧ H b = some (.lst vs) ∧ OReps X.K X.mg H (avs Z S σ) vs xs ∧ (OT.foots xs).Nodup := by
  obtain ⟨b', g, h1, rfl⟩ := h
  rw [e] at h1
  cases h1
  obtain ⟨a, g, e1, e2⟩ := subS_ex e
  have gr := ok.sl.gh i a g e1
  obtain ⟨vs, hh, rs⟩ := (gr.rep.sub e2).1.head
  have nd := (List.nodup_cons.mp (GO.sub_nd gr.nd e2)).2
  rw [GO.foot_kids] at nd
  exact ⟨vs, rfl, hh, rs, nd⟩
/-- e[ix], a child -/
def zPix (tp : ZP) (tx : ZE) : ZP := fun S Q => tp S fun i p S1 => tx S1 fun d S2 => match d with
  | .int k => S2[i]? = S1[i]? ∧ ∃ b xs, subS S2 i p = some (b, .l xs) ∧ ∃ m c g, ixN xs.length k = some m ∧ xs[m]? = some (.c c g) ∧ Q i (p ++ [m]) S2
  | _ => False
theorem sub_snoc : ∀ {p : List Nat} {a b c : Addr} {g g1 g2 : GO} {m : Nat}, GO.sub a g p = some (b, g1) → g1.kids[m]? = some (.c c g2) → GO.sub a g (p ++ [m]) = some (c, g2)
  | [], a, b, c, g, g1, g2, m, e, h => by
    cases (show some (a, g) = some (b, g1) from e)
    show (match g.kids[m]? with | some (.c b g2) => GO.sub b g2 [] | _ => none) = _
    rw [h]
    rfl
  | k :: p, a, b, c, g, g1, g2, m, e, h => by
    have e' : (match g.kids[k]? with | some (.c b g2) => GO.sub b g2 p | _ => none) = some (b, g1) := e
    show (match g.kids[k]? with | some (.c b g2) => GO.sub b g2 (p ++ [m]) | _ => none) = _
    split at e'
    · exact sub_snoc e' h
    · cases e'
theorem at_ix {α : Type} {xs : List α} {k : Int} {m : Nat} {x : α} (h1 : ixN xs.length k = some m) (h2 : xs[m]? = some x) : atI xs k = some x := by
  unfold atI
  rw [h1]
  exact h2
theorem pp_ix {a b : Expr} {tp : ZP} {tb : ZE} (ha : PP X P a tp) (hb : PD X P b tb) (hs : PlainIx b := by exact fun _ _ => rfl) : PP X P (.Subscript a b pos) (zPix tp tb) := by
  obtain ⟨t0, p0, q0⟩ := ha.ex
  obtain ⟨t1, p1, q1⟩ := hb.ex
  refine ⟨_, pe_ix ix_list p0 p1 hs, fun Z hZ S σ H Qz Q ok h k => ?_⟩
  refine q0 Z hZ S σ H _ _ ok h fun i p S1 v H1 h1 o1 f1 r1 => ?_
  refine q1 Z hZ S1 σ H1 _ _ o1 h1 fun e S2 u H2 h2 o2 f2 r2 => ?_
  split at h2
  · obtain rfl := r2.int_inv
    obtain ⟨es, b, xs, h3, m, c, g, h4, h5, h6⟩ := h2
    obtain ⟨vs, rfl, hv, rs, _⟩ := pval_list o2 (r1.to es) h3
    obtain ⟨w, h7, h8⟩ := rs.get h5
    cases h8 with
    | c r =>
      have hk := k i (p ++ [m]) S2 (.ref c) H2 h6 o2 (f1.trans f2) (by
        obtain ⟨a, g0, e1, e2⟩ := subS_ex h3
        refine ⟨c, g, ?_, rfl⟩
        unfold subS
        rw [e1]
        exact sub_snoc e2 h5)
      exact ⟨b, vs, _, .ref c, rfl, rfl, .inl (.inl hv), at_ix (by rw [rs.length]; exact h4) h7, hk⟩
  · exact h2.elim
/-- e[ix], data -/
def zPget (tp : ZP) (tx : ZE) : ZE := fun S Q => tp S fun i p S1 => tx S1 fun d S2 => match d with
  | .int k => S2[i]? = S1[i]? ∧ ∃ b xs, subS S2 i p = some (b, .l xs) ∧ ∃ m x, ixN xs.length k = some m ∧ xs[m]? = some (.d x) ∧ Q x S2
  | _ => False
theorem pd_pget {a b : Expr} {tp : ZP} {tb : ZE} (ha : PP X P a tp) (hb : PD X P b tb) (hs : PlainIx b := by exact fun _ _ => rfl) : PD X P (.Subscript a b pos) (zPget tp tb) := by
  obtain ⟨t0, p0, q0⟩ := ha.ex
  obtain ⟨t1, p1, q1⟩ := hb.ex
  refine ⟨_, pe_ix ix_list p0 p1 hs, fun Z hZ S σ H Qz Q ok h k => ?_⟩
  refine q0 Z hZ S σ H _ _ ok h fun i p S1 v H1 h1 o1 f1 r1 => ?_
  refine q1 Z hZ S1 σ H1 _ _ o1 h1 fun e S2 u H2 h2 o2 f2 r2 => ?_
  split at h2
  · obtain rfl := r2.int_inv
    obtain ⟨es, b, xs, h3, m, x, h4, h5, h6⟩ := h2
    obtain ⟨vs, rfl, hv, rs, _⟩ := pval_list o2 (r1.to es) h3
    obtain ⟨w, h7, h8⟩ := rs.get h5
    cases h8 with
    | d r => exact ⟨b, vs, _, w, rfl, rfl, .inl (.inl hv), at_ix (by rw [rs.length]; exact h4) h7, k x S2 w H2 h6 o2 (f1.trans f2) r⟩
  · exact h2.elim
/-- len(e) -/
def zPlen (tp : ZP) : ZE := fun S Q => tp S fun i p S1 => ∃ b xs, subS S1 i p = some (b, .l xs) ∧ Q (.int (xs.length : Int)) S1
/-- e.m(..), e a flat list in a tree -/
def zPlm (tp : ZP) (f : ZM) (ta : ZA) : ZE := fun S Q => tp S fun i p S1 => (∃ b xs, subS S1 i p = some (b, .l xs)) ∧ ta S1 fun ds S2 => S2[i]? = S1[i]? ∧ ∃ b ys, subS S2 i p = some (b, .l (leaves ys)) ∧ f ys ds fun d ns => Q d (pset S2 i p (.l (leaves ns)))
theorem pd_plm {o : Expr} {tp : ZP} {name : Str} {id : String} {r : V → List V → Hp → VK → Prop} {f : ZM} {apos cpos : Pos} {es : List Expr} {ta : ZA} (ho : PP X P o tp) (slot : Slot "list" name id) (hty : typeOf (.builtin id) = pure (.type "method_descriptor")) (hm : MtR X id r) (hf : MtZ X.K X.mg r f)
    (he : PAd X P (e :: es) ta) (hbase : attributeBase o name X.env (eval o X.env) = eval o X.env := by rfl)
    (hfew : ((backTo cpos (starEach (e :: es) X.env)).all (fun x => !x.1) && (backToKw cpos (keywordEach [] X.env)).all (fun x => x.1.isSome)
      && decide ((e :: es).length + ([] : List Keyword).length + (if ([] : List Keyword).isEmpty then 0 else 1) < 30)) = true := by rfl)
    (hline : (apos.endLine == cpos.line) = true := by rfl) (hs : starEach (e :: es) X.env = (false, eval e X.env) :: starEach es X.env := by rfl) (hplain : (backTo cpos (starEach es X.env)).any (·.1) = false := by rfl) :
    PD X P (.Call (.Attribute o name apos) (e :: es) [] cpos) (zPlm tp f ta) := by
  obtain ⟨t1, p1, q1⟩ := ho.ex
  obtain ⟨t0, p0, q0⟩ := he.ex
  refine ⟨_, pe_bm PySem.F.plainAttrs_list slot hty hm p1 p0 hbase hfew hline hs hplain, fun Z hZ S σ H Qz Q ok h k => q1 Z hZ S σ H _ _ ok h fun i p S1 v H1 h1 o1 f1 r1 => ?_⟩
  obtain ⟨⟨b, xs, s0⟩, h1⟩ := h1
  obtain ⟨vs, rfl, hv, _, _⟩ := pval_list o1 r1 s0
  refine ⟨.inl ⟨rfl, _, .inl (.inl hv)⟩, q0 Z hZ S1 σ H1 _ _ o1 h1 fun ds S2 us H2 h2 o2 f2 r2 => ?_⟩
  obtain ⟨es, b', ys, h3, h4⟩ := h2
  obtain ⟨ws, e1, hw, rw', nd⟩ := pval_list o2 (r1.to es) h3
  cases e1
  refine hf H2 _ b ws us ys ds _ Q hw rw'.ofLeaves r2 h4 fun d ns nvs v h5 h6 h7 => ?_
  obtain ⟨o3, f3⟩ := o2.pwrite h3 hw (OReps.leaves h6) (by rw [foots_leaves]; exact List.nodup_nil) (fun c hc => by rw [foots_leaves] at hc; cases hc)
  exact k d _ v _ h5 o3 ((f1.trans f2).trans f3) (f3.rp _ _ h7)
/-- e[k] = v: data into a list of a tree -/
def zPput (te : ZE) (tp : ZP) (tk : ZE) : ZS := fun E S => te S fun d S1 => tp S1 fun i p S2 => tk S2 fun k S3 => match k with
  | .int k => S3[i]? = S2[i]? ∧ ∃ b xs, subS S3 i p = some (b, .l xs) ∧ ∃ n, ixN xs.length k = some n ∧ E.nx (pset S3 i p (.l (xs.set n (.d d))))
  | _ => False
theorem OReps.setD {K : PySem.W.Frag} {mg : Str → Option Value} {H : Hp} {av : Addr → Prop} {v : V} {d : D} (r : Rep K mg H av v d) : ∀ {vs : List V} {xs : List OT} (n : Nat), OReps K mg H av vs xs → OReps K mg H av (vs.set n v) (xs.set n (.d d))
  | _, _, _, .nil => .nil
  | _, _, 0, .cons _ t => .cons (.d r) t
  | _, _, n + 1, .cons q t => .cons q (OReps.setD r n t)
theorem foots_setD {d : D} : ∀ {xs : List OT} {n : Nat}, (OT.foots xs).Nodup → (OT.foots (xs.set n (.d d))).Nodup ∧ ∀ c ∈ OT.foots (xs.set n (.d d)), c ∈ OT.foots xs
  | [], _, h => ⟨h, fun _ h => h⟩
  | x :: xs, 0, h => by
    obtain ⟨_, n2, _⟩ := nodup_app h
    show (OT.foot (.d d) ++ OT.foots xs).Nodup ∧ ∀ c ∈ OT.foot (.d d) ++ OT.foots xs, _
    rw [show OT.foot (.d d) = [] by rw [OT.foot], List.nil_append]
    exact ⟨n2, fun c hc => List.mem_append_right _ hc⟩
  | x :: xs, n + 1, h => by
    obtain ⟨n1, n2, n3⟩ := nodup_app h
    obtain ⟨i1, i2⟩ := foots_setD (d := d) (n := n) n2
    exact ⟨app_nodup n1 i1 fun c hc hd => n3 c hc (i2 c hd), fun c hc => (List.mem_append.mp hc).elim (List.mem_append_left _) fun q => List.mem_append_right _ (i2 c q)⟩
theorem sd_pput {be ke : Expr} {te tk : ZE} {tp : ZP} {tpos : Pos} (he : PD X P e te) (hp : PP X P be tp) (hk : PD X P ke tk)
    (ha : ∀ v, assign (.Subscript be ke tpos) X.env v = (do
      let ov ← holding [v] (eval be X.env)
      let iv ← holding [v, ov] (eval ke X.env)
      standAt tpos
      holding [v, ov, iv] (setItem ov iv v)
      release [v, ov, iv] []) := by intro _; rfl)
    (hs : swapsWithSole [.Subscript be ke tpos] e pos.line X.env = pure false := by rfl) (hw : swappedStores [.Subscript be ke tpos] e X.env = pure none := by rfl)
    (h1 : (assignEach [.Subscript be ke tpos] X.env).map (·.2) = [assign (.Subscript be ke tpos) X.env] := by rfl) :
    PSd X P (.Assign [.Subscript be ke tpos] e pos) (zPput te tp tk) := by
  obtain ⟨t0, p0, q0⟩ := he.ex
  obtain ⟨t1, p1, q1⟩ := hp.ex
  obtain ⟨t2, p2, q2⟩ := hk.ex
  refine ⟨_, ps_asg p0 (pg_sub p1 p2 set_list ha) hs hw h1, fun Z hZ S σ H E D0 ok h j => q0 Z hZ S σ H _ _ ok h fun d S1 v H1 h1 o1 f1 r1 => ?_⟩
  refine q1 Z hZ S1 σ H1 _ _ o1 h1 fun i p S2 w H2 h2 o2 f2 r2 => q2 Z hZ S2 σ H2 _ _ o2 h2 fun k S3 u H3 h3 o3 f3 r3 => ?_
  split at h3
  · obtain rfl := r3.int_inv
    obtain ⟨es, b, xs, h4, n, h5, h6⟩ := h3
    obtain ⟨vs, rfl, hv, rs, nd⟩ := pval_list o3 (r2.to es) h4
    have rd := f3.rp _ _ (f2.rp _ _ r1)
    obtain ⟨n1, n2⟩ := foots_setD (d := d) (n := n) nd
    obtain ⟨o4, f4⟩ := o3.pwrite h4 hv (OReps.setD rd n rs) n1 n2
    exact ⟨_, vs, _, n, rfl, rfl, hv, by rw [rs.length]; exact h5, j.nx _ _ _ h6 o4 (((f1.trans f2).trans f3).trans f4)⟩
  · exact h3.elim
theorem pd_plen {tp : ZP} {p : Pos} (hg : Gl X "len") (hm : X.mg "len" = none) (hv : bootBuiltins "len" = some (.builtin "len")) (ha : PP X P e tp)
    (he : starEach [e] X.env = (false, eval e X.env) :: starEach [] X.env := by rfl) (hpl : (backTo pos (starEach [] X.env)).any (·.1) = false := by rfl) : PD X P (.Call (.Name "len" p) [e] [] pos) (zPlen tp) := by
  obtain ⟨t0, p0, q0⟩ := ha.ex
  refine ⟨_, pe_callB call_len_seq hg hm hv (pa_cons p0 pa_nil he) (by decide) (by decide) he hpl, fun Z hZ S σ H Qz Q ok h k => q0 Z hZ S σ H _ _ ok h fun i p S1 v H1 h1 o1 f1 r1 => ?_⟩
  obtain ⟨b, xs, h2, h3⟩ := h1
  obtain ⟨vs, rfl, hv, rs, _⟩ := pval_list o1 r1 h2
  refine ⟨_, vs, rfl, .inl (.inl (.inl hv)), ?_⟩
  rw [rs.length]
  exact k _ S1 _ H1 h3 o1 f1 (.int _)
/-- the name of a tree, as data from now on -/
def zVarG (i : Nat) : ZE := fun S Q => match S[i]? with
  | some (.gh _ g) => Q g.dat (S.set i (.sh g.dat))
  | _ => False
theorem pd_varG (i : Nat) {x : Str} (hN : X.N[i]? = some x := by rfl) (hv : Vis X.env.scope x := by first | exact Or.inl rfl | exact Or.inr (Or.inl rfl) | exact Or.inr (Or.inr rfl)) (hd : (x == ("__debug__" : Str)) = false := by decide)
    (hcd : (x == ("__classdict__" : Str)) = false := by decide) : PD X P (.Name x pos) (zVarG i) := by
  refine ⟨_, pe_var (i := i) hN hv hd hcd, fun Z hZ S σ H Qz Q ok h k => ?_⟩
  unfold zVarG at h
  split at h
  · rename_i a g e
    have hr := ok.ref e (nlt hN)
    obtain ⟨o, f, r⟩ := ok.gfrz e hr
    exact ⟨_, hr, k _ _ _ H h o f r⟩
  · exact h.elim
/-- ahead of a block: the children of a list become data -/
def zSettle (i : Nat) (t : ZS) : ZS := fun E S => match S[i]? with
  | some (.gh _ (.l xs)) => t E (S.set i (.ow (OT.dats xs)))
  | _ => False
theorem ssd_settle {i : Nat} {sts : List Stmt} {t : ZS} (h : PSsd X P sts t) (hn : i < X.N.length := by decide) : PSsd X P sts (zSettle i t) := by
  obtain ⟨t0, p0, q0⟩ := h.ex
  refine ⟨t0, p0, fun Z hZ S σ H E D0 ok h j => ?_⟩
  unfold zSettle at h
  split at h
  · rename_i a xs e
    obtain ⟨o, f⟩ := ok.settle e (ok.ref e hn)
    exact q0 Z hZ _ σ H E D0 o h (j.frm f)
  · exact h.elim
end
end Zz

set_option maxHeartbeats 4000000
/-! The pure layer: dict comprehensions, keys of dicts. -/
namespace Zz
open PySem PySem.Spec PyProof.Rows L2

section
variable {X : Cx}
theorem ps_setDc {i : Nat} {y : Str} {py : Pos} {kx vx tg iter : Expr} {ifs : List Expr} {scope : Scope} {own : List (Str × Nat)} {pos spos : Pos} {wi : TI} {g : TG} {tt : TT} {tk tv : TE} (hc : X.calm = true) (hN : X.N.Nodup) (hy : X.N[i]? = some y) (hyl : X.env.scope.names.lookup y = some .local)
    (hsw : swapsWith (.DictComp kx vx [⟨tg, iter, ifs, 0⟩] scope pos) (some (.Name y py)) spos.line X.env = pure true) (hi : PI X tg iter wi) (ok : BlkOk X.N X.env.scope scope own)
    (hg : ∀ (s : Shared) (H : Hp) (C : Addr) (cl : List (Str × Addr)) (fp : List Addr), PG (X.blk s H scope (compEnvC scope cl C X.env) fp) tg g) (ht : ∀ (s : Shared) (H : Hp) (C : Addr) (cl : List (Str × Addr)) (fp : List Addr), PTs (X.blk s H scope (compEnvC scope cl C X.env) fp) ifs tt)
    (hk : ∀ (s : Shared) (H : Hp) (C : Addr) (cl : List (Str × Addr)) (fp : List Addr), PE (X.blk s H scope (compEnvC scope cl C X.env) fp) kx tk)
    (he : ∀ (s : Shared) (H : Hp) (C : Addr) (cl : List (Str × Addr)) (fp : List Addr), PE (X.blk s H scope (compEnvC scope cl C X.env) fp) vx tv) (hs : ∀ x, foldedSetIterable iter X.env x = pure x := by intro _; rfl) :
    PS X (.Assign [.Name y py] (.DictComp kx vx [⟨tg, iter, ifs, 0⟩] scope pos) spos) (tAsg (tDc wi g tt tk tv (own.map (·.2))) (gName i)) := by
  refine ⟨fun pins s σ H D I h => ?_⟩
  rw [exec_Assign_Name_used _ _ _ _ hsw]
  refine wpAny_bind (wpAny_standAt (wpAny_bind ?_))
  show wpAny _ X.A (do let _ ← comprehension (.DictComp kx vx [⟨tg, iter, ifs, 0⟩] scope pos) scope X.env (firstIterPos [⟨tg, iter, ifs, 0⟩] pos) newDict false (eval iter X.env) (some (assign (.Name y py) X.env))) _ _ s
  have h : tDc wi g tt tk tv (own.map (·.2)) σ H (fun x H1 => gName i x σ H1 D.nx) := h
  refine wpAny_bind (thn (dc_core (Qf := fun _ s' => SP X pins D .next s') hc hN I hi ok hg ht hk he hs h fun L C s' m H' I' q hn f => ?_) fun _ s' hq => wpAny_pure (wpAny_pure hq))
  show wpAny _ _ (assign (.Name y py) X.env (.ref L)) _ _ _
  refine wpAny_assign_Name (store_ok2 (v := V.ref L) I' hN hy (.inl hyl) rfl (fun s2 I2 ⟨a, sb, ha⟩ => ?_) (.inr hyl))
  obtain ⟨f0, f1, f2, f3, f4, f5⟩ := f
  have haC : C ≠ a := by
    rcases ha with z | z
    · rw [z]; exact f1
    · exact fun e => f4 y a z e.symm
  refine ⟨m, hn.sameBut sb haC, fun h3 sb3 => ?_⟩
  exact ⟨_, H', I2.turned (t' := s2.toks) (fun b o hb e => (sb3.2 b hb).trans e) f0 f1 f3 f4 f5, q⟩
end

/-! ### while it is made -/
section
variable {X : Cx} {Z : Zc} {S : SS} {σ : L2.St} {H : Hp} {D : Addr}
theorem Ok.toAtO (ok : Ok X Z S σ H) {o : HO} (hD : H D = none) : Ok X (Z.at D) S σ (upd H D o) := by
  have s : Same H (upd H D o) := Same.upd hD
  have k : Carry H (upd H D o) (avs Z S σ) (avs (Z.at D) S σ) := fun a u e n => by
    obtain ⟨h1, h2⟩ := Carry.new (av := avs Z S σ) (o := o) hD a u e n
    exact ⟨h1, fun m z => h2 m (avs_at_iff.mp z)⟩
  refine ⟨ok.len, ok.nm, ok.gi, ok.sl.carry k (fun _ _ a us _ _ e => s a _ e) (fun _ b o _ e => s b o e), ok.inj, fun i xs a h1 h2 => ?_, fun a o e n => s a o (ok.ext a o e n), fun a z e => ?_, ok.bag, ok.gow, ok.ginj, fun i a h => ⟨(ok.gown i a h).1, fun z => z.elim (ok.gown i a h).2 fun e => ok.sl.gthere h (e ▸ hD)⟩⟩
  · obtain ⟨h3, h4⟩ := ok.own i xs a h1 h2
    refine ⟨h3, fun z => z.elim h4 fun e => ?_⟩
    obtain ⟨b, us, h5, h6, _⟩ := ok.sl.ow i xs h1
    rw [h2] at h5
    cases h5
    rw [e, hD] at h6
    cases h6
  · rcases z with z | z
    · exact ok.avd a z (s.free e)
    · rw [z, upd_same] at e
      cases e
theorem Ok.wrAtO {o u : HO} (ok : Ok X (Z.at D) S σ H) (h : H D = some u) (hm : mutb u = true) (h0 : Z.H0 D = none) : Ok X (Z.at D) S σ (upd H D o) := by
  have hav : avs (Z.at D) S σ D := .inl (.inr rfl)
  have k : Carry H (upd H D o) (avs (Z.at D) S σ) (avs (Z.at D) S σ) := .write h hm hav
  refine ⟨ok.len, ok.nm, ok.gi, ok.sl.carry k (fun i xs a vs h1 h2 e => ?_) (fun i a o h1 e => ?_), ok.inj, ok.own, fun a o e n => ?_, fun a z e => ?_, ok.bag, ok.gow, ok.ginj, ok.gown⟩
  · rw [upd_ne fun z => (ok.own i xs a h1 h2).2 (.inr z)]
    exact e
  · rw [upd_ne fun z => (ok.gown i a h1).2 (.inr z)]
    exact e
  · rw [upd_ne fun z => by rw [z, h0] at e; cases e]
    exact ok.ext a o e n
  · by_cases hb : a = D
    · rw [hb, upd_same] at e; cases e
    · rw [upd_ne hb] at e
      exact ok.avd a z e
end

/-! ### the rule -/
def keyD : D → Option Key
  | .int i => some (.inl i)
  | .str s => some (.inr s)
  | _ => none
theorem keyD_rep {K : PySem.W.Frag} {mg : Str → Option Value} {H : Hp} {av : Addr → Prop} {v : V} {d : D} {k : Key} (r : Rep K mg H av v d) (e : keyD d = some k) : v = kV k := by
  cases d <;> simp [keyD] at e
  · subst e; rw [r.int_inv]; rfl
  · subst e; rw [r.str_inv]; rfl
structure KFresh (ks : List Key) (k : Key) : Prop where
  ne : ∀ z ∈ ks, z ≠ k
/-- a dict comprehension over fresh keys -/
def dcz (vs : List Nat) (g : ZG) (tt : ZT) (tk tv : ZE) : List D → List Key → List D → SS → (List Key → List D → SS → Prop) → Prop
  | [], ks, acc, S, Q => Q ks acc S
  | d :: ds, ks, acc, S, Q => g d S fun S1 => tt S1 fun b S2 => (b = true → tk S2 fun x S3 => tv S3 fun y S4 => ks.length < sizeLine ∧ ∃ k, keyD x = some k ∧ KFresh ks k ∧ dcz vs g tt tk tv ds (ks ++ [k]) (acc ++ [y]) (wipeS S4 vs) Q) ∧
      (b = false → dcz vs g tt tk tv ds ks acc (wipeS S2 vs) Q)
def zDc (vs : List Nat) (w : ZA) (g : ZG) (tt : ZT) (tk tv : ZE) : ZE := fun S Q => w S fun ds S1 => noOw S1 vs ∧ dcz vs g tt tk tv ds [] [] (wipeS S1 vs) fun ks acc S2 => Q (.dct ks acc) (backS S1 S2 vs)
theorem putK_fresh {ks : List Key} {us : List V} {k : Key} {v : V} (hl : ks.length = us.length) (h : KFresh ks k) : putK (ks.zip us) k v = (ks ++ [k]).zip (us ++ [v]) := by
  have hn : ¬ (((ks.zip us).any fun kv => decide (kv.1 = k)) = true) := by
    intro z
    rw [List.any_eq_true] at z
    obtain ⟨⟨a, b⟩, h1, h2⟩ := z
    exact h.ne a (List.of_mem_zip h1).1 (of_decide_eq_true h2)
  unfold putK
  rw [if_neg hn, List.zip_append hl]
  rfl
section
variable {X : Cx} {P : Zc → Prop}
theorem sd_setDc {i : Nat} {y : Str} {py spos : Pos} {kx vx tg iter : Expr} {ifs : List Expr} {scope : Scope} {own : List (Str × Nat)} {pos : Pos} {w : ZA} {g : ZG} {tt : ZT} {tk te : ZE} {js : List Nat} (hbi : ∀ Z, P Z → Z.bag = none ∨ i ≠ 0) (hc : X.calm = true) (hN : X.N.Nodup) (hb : ∀ Z, P Z → ∀ i ∈ own.map (·.2), Z.bag = none ∨ i ≠ 0) (hi : PId X P tg iter w) (ok : BlkOk X.N X.env.scope scope own)
    (hj : ∀ j ∈ js, j ∈ own.map (·.2))
    (hg : ∀ (s : Shared) (H : Hp) (C : Addr) (cl : List (Str × Addr)) (fp : List Addr), PGd (X.blk s H scope (compEnvC scope cl C X.env) fp) (Pin P) tg g js) (ht : ∀ (s : Shared) (H : Hp) (C : Addr) (cl : List (Str × Addr)) (fp : List Addr), PTsd (X.blk s H scope (compEnvC scope cl C X.env) fp) (Pin P) ifs tt)
    (hk : ∀ (s : Shared) (H : Hp) (C : Addr) (cl : List (Str × Addr)) (fp : List Addr), PD (X.blk s H scope (compEnvC scope cl C X.env) fp) (Pin P) kx tk)
    (he : ∀ (s : Shared) (H : Hp) (C : Addr) (cl : List (Str × Addr)) (fp : List Addr), PD (X.blk s H scope (compEnvC scope cl C X.env) fp) (Pin P) vx te)
    (hy : X.N[i]? = some y := by rfl) (hyl : X.env.scope.names.lookup y = some .local := by rfl) (hsw : swapsWith (.DictComp kx vx [⟨tg, iter, ifs, 0⟩] scope pos) (some (.Name y py)) spos.line X.env = pure true := by rfl) (hs : ∀ x, foldedSetIterable iter X.env x = pure x := by intro _; rfl) :
    PSd X P (.Assign [.Name y py] (.DictComp kx vx [⟨tg, iter, ifs, 0⟩] scope pos) spos) (zSet (zDc (own.map (·.2)) w g tt tk te) i) := by
  obtain ⟨w0, pw, qw⟩ := hi.ex
  let ι := Shared × Hp × Addr × List (Str × Addr) × List Addr
  let Y : ι → Cx := fun i => X.blk i.1 i.2.1 scope (compEnvC scope i.2.2.2.1 i.2.2.1 X.env) i.2.2.2.2
  have hg' : ∀ i : ι, PGd (Y i) (Pin P) tg g js := fun i => hg _ _ _ _ _
  have ht' : ∀ i : ι, PTsd (Y i) (Pin P) ifs tt := fun i => ht _ _ _ _ _
  have hk' : ∀ i : ι, PD (Y i) (Pin P) kx tk := fun i => hk _ _ _ _ _
  have he' : ∀ i : ι, PD (Y i) (Pin P) vx te := fun i => he _ _ _ _ _
  have pG := fun i => (Classical.choose_spec (hg' i).ex).1
  have qG := fun i => (Classical.choose_spec (hg' i).ex).2
  have pT := fun i => (Classical.choose_spec (ht' i).ex).1
  have qT := fun i => (Classical.choose_spec (ht' i).ex).2
  have pK := fun i => (Classical.choose_spec (hk' i).ex).1
  have qK := fun i => (Classical.choose_spec (hk' i).ex).2
  have pE := fun i => (Classical.choose_spec (he' i).ex).1
  have qE := fun i => (Classical.choose_spec (he' i).ex).2
  have hvs : ∀ v ∈ own.map (·.2), v < X.N.length := fun v hv => by
    obtain ⟨p, hp, rfl⟩ := List.mem_map.mp hv
    exact nlt (ok.ix p hp)
  refine ⟨_, ps_setDc hc hN hy hyl hsw pw ok (fun s H C cl fp => pg_all pG (s, H, C, cl, fp)) (fun s H C cl fp => pts_all pT (s, H, C, cl, fp)) (fun s H C cl fp => pe_all pK (s, H, C, cl, fp)) (fun s H C cl fp => pe_all pE (s, H, C, cl, fp)) hs, fun Z hZ S σ H E D0 ok h k => ?_⟩
  refine qw Z hZ S σ H _ _ ok h fun ds S1 J H1 h1 o1 f1 gv => ?_
  obtain ⟨hno, h1⟩ := h1
  intro L hL
  have hbz := hb Z hZ
  have hP : Pin P (Z.at L) := ⟨Z, hZ, rfl, rfl⟩
  have h0 := o1.new0 hL
  obtain ⟨oW, kW⟩ := (o1.toAtO (o := .dK []) hL).wipe (own.map (·.2)) hbz
  refine ⟨fun n m H' => ∃ ks acc us S', m = ds.length - n ∧ n ≤ ds.length ∧ Ok X (Z.at L) S' (L2.wipe σ (own.map (·.2))) H' ∧ H' L = some (.dK (ks.zip us)) ∧ ks.length = us.length ∧ Reps X.K X.mg H' (avs (Z.at L) S' (L2.wipe σ (own.map (·.2)))) us acc ∧
    (∀ v d, Rep X.K X.mg H1 (avs Z S1 σ) v d → Rep X.K X.mg H' (avs (Z.at L) S' (L2.wipe σ (own.map (·.2)))) v d) ∧ (∀ a, Z.av a → H' a = H1 a) ∧
    dcz (own.map (·.2)) g tt tk te (ds.drop n) ks acc S' (fun ks acc S2 => E.nx ((backS S1 S2 (own.map (·.2))).set i (.sh (.dct ks acc)))), ⟨_, [], [], [], _, rfl, Nat.zero_le _, oW, upd_same, rfl, .nil, fun v d r => ?_, fun a ha => upd_ne fun z => o1.avd a ha (z ▸ hL), h1⟩, ?_⟩
  · have r2 : Rep X.K X.mg (upd H1 L (.dK [])) (fun b => avs Z S1 σ b ∨ b = L) v d := r.carry (.new hL)
    exact r2.carry (.same (Same.refl _) fun a ha => avs_at_iff.mp (kW a ha))
  rintro n m H' ⟨ks, acc, us, S', rfl, hi, o', hD, hlen, hacc, rp, pr, hl⟩
  have gi := gv (Z.at L) S' _ H' o' rp n
  by_cases hlt : n < ds.length
  · obtain ⟨d, hd⟩ : ∃ d, ds[n]? = some d := ⟨_, List.getElem?_eq_getElem hlt⟩
    rw [drop_at hd] at hl
    obtain ⟨go, yl⟩ := gi.1 d hd
    refine .inr ⟨go, fun H2 => ∃ ks acc us S', Ok X (Z.at L) S' (L2.wipe σ (own.map (·.2))) H2 ∧ H2 L = some (.dK (ks.zip us)) ∧ ks.length = us.length ∧ Reps X.K X.mg H2 (avs (Z.at L) S' (L2.wipe σ (own.map (·.2)))) us acc ∧
      (∀ v d, Rep X.K X.mg H1 (avs Z S1 σ) v d → Rep X.K X.mg H2 (avs (Z.at L) S' (L2.wipe σ (own.map (·.2)))) v d) ∧ (∀ a, Z.av a → H2 a = H1 a) ∧
      dcz (own.map (·.2)) g tt tk te (ds.drop (n + 1)) ks acc S' (fun ks acc S2 => E.nx ((backS S1 S2 (own.map (·.2))).set i (.sh (.dct ks acc)))), fun H2 ⟨ks, acc, us, S', a1, a2, a7, a3, a4, a5, a6⟩ => ⟨ds.length - (n + 1), by omega, ks, acc, us, S', rfl, by omega, a1, a2, a7, a3, a4, a5, a6⟩, fun x H'' hy => ?_⟩
    obtain ⟨s, r⟩ := yl x H'' hy
    intro c
    have o'' := o'.same s
    have f0 : Frm X (Z.at L) S' (L2.wipe σ (own.map (·.2))) H' S' (L2.wipe σ (own.map (·.2))) H'' := .same o' s
    refine qG c (Z.at L) hP S' _ H'' x d _ _ o''.blk r hl fun S2 σ2 H2 h2 o2 f2 w2 => ⟨(w2 _ hj).trans (wipe_wipe _), ?_⟩
    have ww : L2.wipe σ2 (own.map (·.2)) = L2.wipe σ (own.map (·.2)) := (w2 _ hj).trans (wipe_wipe _)
    intro c2
    refine qT c2 (Z.at L) hP S2 σ2 H2 _ _ o2.unblk.blk h2 fun b S3 H3 h3 o3 f3 => ?_
    have f23 := (f0.trans f2.unblk).trans f3.unblk
    cases b with
    | false =>
      refine iteF ?_
      obtain ⟨oq, kq⟩ := o3.unblk.wipe (own.map (·.2)) hbz
      have kk : Carry H3 H3 (avs (Z.at L) S3 σ2) (avs (Z.at L) (wipeS S3 (own.map (·.2))) (L2.wipe σ2 (own.map (·.2)))) := .same (Same.refl H3) kq
      rw [ww] at oq kk
      exact ⟨ks, acc, us, _, oq, by rw [f23.pr L (.inr rfl)]; exact hD, hlen, (f23.reps hacc).carry kk, fun v d q => (f23.rp v d (rp v d q)).carry kk, fun a ha => (f23.pr a (.inl ha)).trans (pr a ha), h3.2 rfl⟩
    | true =>
      refine iteT ?_
      intro c3
      refine qK c3 (Z.at L) hP S3 σ2 H3 _ _ o3.unblk.blk (h3.1 rfl) fun kd Sk kv Hk hk ok fk rk => ?_
      intro c4
      refine qE c4 (Z.at L) hP Sk σ2 Hk _ _ ok.unblk.blk hk fun y S4 v H4 h4 o4 f4 r4 => ?_
      obtain ⟨hz, k, hkd, hfr, h4⟩ := h4
      have f24 := (f23.trans fk.unblk).trans f4.unblk
      have hD4 : H4 L = some (.dK (ks.zip us)) := by rw [f24.pr L (.inr rfl)]; exact hD
      have acc4 := f24.reps hacc
      have hzl : (ks.zip us).length < sizeLine := by rw [List.length_zip]; omega
      refine ⟨_, k, keyD_rep rk hkd, hD4, hzl, ?_⟩
      rw [putK_fresh hlen hfr]
      have ow := o4.unblk.wrAtO (o := .dK ((ks ++ [k]).zip (us ++ [v]))) hD4 rfl h0
      obtain ⟨oq, kq⟩ := ow.wipe (own.map (·.2)) hbz
      have kw : Carry H4 (upd H4 L (.dK ((ks ++ [k]).zip (us ++ [v])))) (avs (Z.at L) S4 σ2) (avs (Z.at L) S4 σ2) := .write hD4 rfl (.inl (.inr rfl))
      have kk := kw.trans (.same (Same.refl _) kq)
      rw [ww] at oq kk
      refine ⟨ks ++ [k], acc ++ [y], us ++ [v], _, oq, upd_same, by rw [List.length_append, List.length_append, hlen]; rfl, (acc4.append (.cons r4 .nil)).carry kk, fun v d q => (f24.rp v d (rp v d q)).carry kk, fun a ha => ?_, h4⟩
      rw [upd_ne (show a ≠ L from fun z => o1.avd a ha (by rw [z]; exact hL)), f24.pr a (.inl ha)]
      exact pr a ha
  · have ei : n = ds.length := by omega
    refine .inl ⟨gi.2 (by omega), ?_⟩
    rw [ei, List.drop_length] at hl
    have kb : Carry (upd H1 L (.dK [])) H1 (avs (Z.at L) S1 σ) (avs Z S1 σ) := fun a o e n => by
      by_cases ha : a = L
      · subst ha
        rw [upd_same] at e
        cases e
        exact absurd (.inl (.inr rfl)) (n rfl)
      · rw [upd_ne ha] at e
        exact ⟨e, fun m z => n m (avs_at_iff.mpr (.inl z))⟩
    obtain ⟨oe, ke⟩ := (o1.toAtO (o := .dK []) hL).back hvs o' hno fun v d r => rp v d (r.carry kb)
    have kz2 : Carry H' H' (avs (Z.at L) S' (L2.wipe σ (own.map (·.2)))) (avs Z (backS S1 S' (own.map (·.2))) σ) := .same (Same.refl H') fun a ha => ke a (avs_at_iff.mpr (.inl ha))
    have nL : ¬ avs Z (backS S1 S' (own.map (·.2))) σ L := fun h => by
      rcases h with h | ⟨j, zs, e1, e2⟩ | ⟨j, e1⟩
      · exact o1.avd L h hL
      · exact (oe.own j zs L e1 e2).2 (.inr rfl)
      · exact (oe.gown j L e1).2 (.inr rfl)
    have rep : Rep X.K X.mg H' (avs Z (backS S1 S' (own.map (·.2))) σ) (.ref L) (.dct ks acc) := .dct hD hlen nL (hacc.carry kz2)
    obtain ⟨o9, c9⟩ := oe.ofAt.setSh (i := i) rep (hbi Z hZ) (nlt hy)
    refine k.nx _ _ _ hl o9 ⟨fun v d r => ((rp v d (f1.rp v d r)).carry kz2).carry c9, fun a ha => (pr a ha).trans (f1.pr a ha)⟩
/-- what stands at a key -/
def kget : List Key → List D → Key → Option D
  | k :: ks, d :: ds, x => if k = x then some d else kget ks ds x
  | _, _, _ => none
theorem kget_rep {K : PySem.W.Frag} {mg : Str → Option Value} {H : Hp} {av : Addr → Prop} {x : Key} : ∀ {ks : List Key} {vs : List V} {ds : List D} {d : D}, Reps K mg H av vs ds → kget ks ds x = some d → ∃ v, valV (ks.zip vs) x = some v ∧ Rep K mg H av v d
  | [], _, _, _, _, e => by simp [kget] at e
  | _ :: _, _, _, _, .nil, e => by simp [kget] at e
  | k :: ks, _, _, d, .cons (v := v) (vs := vs) r t, e => by
    unfold kget at e
    by_cases h : k = x
    · rw [if_pos h] at e
      cases e
      exact ⟨v, by rw [List.zip_cons_cons, valV_pos h], r⟩
    · rw [if_neg h] at e
      obtain ⟨w, h1, h2⟩ := kget_rep t e
      exact ⟨w, by rw [List.zip_cons_cons, valV_neg h]; exact h1, h2⟩
structure KGet (ks : List Key) (ds : List D) (k : Key) (x : D) : Prop where
  at_ : kget ks ds k = some x
def zKey (ta tb : ZE) : ZE := fun S Q => ta S fun d S1 => tb S1 fun e S2 => match d with
  | .dct ks ds => ∃ k, keyD e = some k ∧ ∃ x, KGet ks ds k x ∧ Q x S2
  | _ => False
theorem pd_key {a b : Expr} {ta tb : ZE} {pos : Pos} (hu : X.A.units + 1 < cLine) (ha : PD X P a ta) (hb : PD X P b tb) (hs : NoSl b := by exact fun _ _ => rfl) : PD X P (.Subscript a b pos) (zKey ta tb) := by
  obtain ⟨t0, p0, q0⟩ := ha.ex
  obtain ⟨t1, p1, q1⟩ := hb.ex
  refine ⟨_, pe_dget hu p0 p1 hs, fun Z hZ S σ H Qz Q ok h k => ?_⟩
  refine q0 Z hZ S σ H _ _ ok h fun d S1 v H1 h1 ok1 f1 r1 => ?_
  refine q1 Z hZ S1 σ H1 _ _ ok1 h1 fun e S2 u H2 h2 ok2 f2 r2 => ?_
  have r1 := f2.rp _ _ r1
  split at h2
  · rename_i ks ds
    obtain ⟨kk, h3, x, h4, h5⟩ := h2
    obtain rfl := keyD_rep r2 h3
    cases r1 with
    | @dct a _ vs _ e1 e2 e3 e4 =>
      obtain ⟨w, h6, h7⟩ := kget_rep e4 h4.at_
      refine ⟨a, w, rfl, ?_, k x S2 w H2 h5 ok2 (f1.trans f2) h7⟩
      have := DGet.k (k := kk) e1
      rw [h6] at this
      exact this
  · exact h2.elim
end
end Zz

set_option maxHeartbeats 4000000
/-! The pure layer: small further rules. -/
namespace Zz
open PySem PySem.Spec PyProof.Rows L2
theorem kit_two {K : PySem.W.Frag} {C C2 : Addr} (cl : Cls K C) (ty : PySem.W.typeIn K (.ref C) = some (.type "type")) (hn : (Value.ref C2 == Value.ref C) = false) (hs : PySem.W.subIn K (.ref C2) (.ref C) = some false) : PySem.W.kitOne K (.ref C2) (.ref C) = some false := by
  have isC : (PySem.W.clsIn K C).isSome = true := by
    obtain ⟨cd, y, _⟩ := PySem.W.any_some cl.hd
    rw [y] <;> rfl
  unfold PySem.W.kitOne PySem.W.kitCls
  rw [if_neg (by rw [hn]; exact Bool.false_ne_true)]
  simp only
  rw [if_pos (by rw [isC, ty]; rfl)]
  exact hs
theorem nu {k : Nat} {X : Cx} {P : Zc → Prop} (C : Cd k X P) : X.A.units + 1 < cLine := by have := C.hu; omega
def fExt : ZM := fun ys ds Q => match ds with
  | [.lst zs] => ys.length + zs.length ≤ sizeLine ∧ Q .non (ys ++ zs)
  | _ => False
theorem mz_extend {K mg} : MtZ K mg rExtend fExt := by
  intro H av l us vs ys ds Qd Q hl r1 r2 h k
  unfold fExt at h
  split at h
  · obtain ⟨v, rfl, r⟩ := reps1 r2
    obtain ⟨a, ws, rfl, h1, h2⟩ := r.lst_inv
    exact ⟨l, a, us, ws, rfl, rfl, hl, h1, by rw [r1.length, h2.length]; exact h.1, k _ _ _ _ h.2 (r1.append h2) .non⟩
  · exact h.elim
end Zz

set_option maxHeartbeats 4000000
/-! The pure layer: enumerate over a tuple. -/
namespace Zz
open PySem PySem.Spec PyProof.Rows L2
theorem meets_enumT {v : Value} {o : Obj} {H : Heap → Prop} (B : Begins v o H) :
    Meets (Builtin.«enumerate.__new__» ⟨[.type "enumerate", v], []⟩) (fun _ R s => H s.heap ∧
      R (.ok (.ret (.ref (s.heap.push o).objs.size))) { s with heap := (s.heap.push o).push { cls := .type "enumerate", data := .fields #[.none, .bool false, .ref s.heap.objs.size, rawInt 0, .none, .none] } }) :=
  .of_wp fun prog w A R s h => by
    obtain ⟨hp, g, d, tk, os⟩ := s; obtain ⟨h1, h⟩ := h
    have hsub := sub_enumerate
    have q1 : ∀ {A' : Around} {E : Value → Shared → Prop} {Q : Value → Shared → Prop}, Q (.ref hp.objs.size) ⟨hp.push o, g, d, tk, os⟩ → wpAny (model prog w) A' (pyIter v) Q E ⟨hp, g, d, tk, os⟩ :=
      fun q => B.iter prog w _ _ ⟨hp, g, d, tk, os⟩ _ h1 q
    wp_walk using q1
    refine wpAny_stack_any fun st => wpAny_pure ?_
    split
    · rename_i c _ _ _ _ _
      cases (c == Value.type "enumerate")
      · wp_walk using q1
        exact ⟨_, rfl, h⟩
      · wp_walk using q1
        exact ⟨_, rfl, h⟩
    · wp_walk using q1
      exact ⟨_, rfl, h⟩
section
variable {prog : Program} {w : World} {A : Around} {E : Value → Shared → Prop} {s : Shared}
theorem call_enumerate_tuple {t : Addr} {items : Array Value} {Q : Value → Shared → Prop} (hL : s.heap.IsTuple t items)
    (h : ∀ h', IsEnum h' (s.heap.objs.size + 1) s.heap.objs.size 0 .none → h'.IsTupleIter s.heap.objs.size t 0 → h'.objs.size = s.heap.objs.size + 2 →
      (∀ b o, s.heap.get? b = some o → h'.get? b = some o) → Q (.ref (s.heap.objs.size + 1)) { s with heap := h' }) :
    wpAny (model prog w) A (call (.type "enumerate") [.ref t]) Q E s := by
  refine callType_new F.called_enumerate (by decide) (F.typeCall_enumerate_1 _) (F.newCall_enumerate_1 _) (fun obj => F.args_object_init_2 obj _) F.entry_enumerate_new
    (meets_enumT (begins_tuple t items)) ⟨hL, ?_⟩
  have hz : (s.heap.push { cls := .type "tuple_iterator", data := .fields #[.ref t, .int 0 0] }).objs.size = s.heap.objs.size + 1 := Heap.size_push ..
  show _ ∧ _
  rw [hz]
  have he : IsEnum ((s.heap.push { cls := .type "tuple_iterator", data := .fields #[.ref t, .int 0 0] }).push
      { cls := .type "enumerate", data := .fields #[.none, .bool false, .ref s.heap.objs.size, rawInt 0, .none, .none] }) (s.heap.objs.size + 1) s.heap.objs.size 0 .none := by
    have := Heap.get?_push_size (s.heap.push { cls := .type "tuple_iterator", data := .fields #[.ref t, .int 0 0] })
      (o := { cls := .type "enumerate", data := .fields #[.none, .bool false, .ref s.heap.objs.size, rawInt 0, .none, .none] }) rfl
    rw [hz] at this; exact this
  refine ⟨⟨_, he, rfl⟩, h _ he ⟨_, Heap.get?_push_of_some _ (Heap.get?_push_size _ rfl), rfl, rfl⟩ (by rw [Heap.size_push, hz]) fun b o x => Heap.get?_push_of_some _ (Heap.get?_push_of_some _ x)⟩
end
/-- the tuple at a, each item in a new pair -/
def Iet (K : PySem.W.Frag) (a : Addr) : It :=
  ⟨fun i H => ∃ (xs : List V) (x : V), SqT K H a xs ∧ xs[i]? = some x, fun i H v H' => ∃ T x, v = .ref T ∧ H T = none ∧ H' = upd H T (.tup [.int (i : Nat), x]) ∧ ∀ xs, SqT K H a xs → xs[i]? = some x, fun i H => ∃ xs : List V, SqT K H a xs ∧ xs.length ≤ i⟩
theorem turn_enumT {P : Program} {w : World} {K : PySem.W.Frag} {elts : List Expr} {kk : Nat} {tpos : Pos} (a e it : Addr) :
    Turn P w K (.Tuple elts kk tpos) (Iet K a) [e, it] e (fun i h => (∃ old, IsEnum h e it ((i : Nat) : Int) old) ∧ h.IsTupleIter it a i ∧ e ≠ it) where
  mem := by simp
  obj := fun i h st b hb => by
    obtain ⟨⟨old, he⟩, ⟨o, ho, hc, hd⟩, _⟩ := st
    have e' : b = e ∨ b = it := by simpa using hb
    rcases e' with z | z
    · rw [z]; exact ⟨_, he, fun v q => nomatch q⟩
    · rw [z]; exact ⟨o, ho, fun v q => by rw [hd] at q; cases q⟩
  keep := fun i h h' st k => let ⟨⟨old, he⟩, hi, hne⟩ := st; ⟨⟨old, k e (by simp) _ he⟩, hi.at fun o q => k it (by simp) o q, hne⟩
  item := by
    intro X hP hw hK hc i pins s σ H E I hf st hg
    subst hP hw hK
    obtain ⟨⟨old, he⟩, hit, hne⟩ := st
    obtain ⟨xs, x, hq, hx⟩ := hg
    obtain ⟨its, rv, p, hz⟩ := I.tuple hq
    obtain ⟨u, hu, ru⟩ := rv.get hx
    have hel : e < s.heap.objs.size := Heap.lt_size he
    have hil : it < s.heap.objs.size := by obtain ⟨_, q, _⟩ := hit; exact Heap.lt_size q
    have pt : s.heap.IsTuple a its.toArray := p
    have dis : ∀ b, b ∈ [e, it] → a ≠ b := fun b hb z => by
      obtain ⟨o1, q1, c1, _⟩ := pt
      have e' : b = e ∨ b = it := by simpa using hb
      rcases e' with y | y
      · rw [z, y, he] at q1
        cases q1
        injection c1 with z1
        exact absurd z1 (by decide)
      · obtain ⟨o2, q2, c2, _⟩ := hit
        rw [z, y, q2] at q1
        cases q1
        rw [c1] at c2
        injection c2 with z1
        exact absurd z1 (by decide)
    have Dr := Draws.tuple (prog := X.prog) (w := X.w) (A := X.A.in1) (show X.A.in1.handled = none from I.ok.hd hc) it a (dis it (by simp)) its.toArray
    refine wpAny_pyNext_enum_itemD Dr he ⟨hit, pt⟩ (by have := (List.getElem?_eq_some_iff.mp hu).1; simpa using this) hne (by
      intro z
      have e' : e = it ∨ e = a := by simpa using z
      exact e'.elim hne fun y => dis e (by simp) y.symm) fun y h' tk hP ho hst hT hsz hk => ?_
    obtain rfl : y = u := by
      have : its.toArray[i]? = some u := by simpa using hu
      rw [this] at hP
      exact (Option.some.inj hP).symm
    obtain ⟨hit', pt'⟩ := hst
    refine ⟨_, rfl, wpAny_letOwnedTupleGo_enum (s := { s with heap := h', toks := tk + 1 }) ho fun h'' he' sb => ?_⟩
    have hT2 : h''.get? s.heap.objs.size = some { cls := .type "tuple", data := .seq #[.int i tk, y] } := (sb.2 _ (Nat.ne_of_gt hel)).trans hT
    have new : ObjOk X.prog X.w (upd H s.heap.objs.size (.tup [.int (i : Nat), x])) h'' s.heap.objs.size (.tup [.int (i : Nat), x]) :=
      ⟨by show 2 ≤ sizeLine; decide, [.int i tk, y], .cons ⟨_, rfl⟩ (.cons ru .nil), ⟨_, hT2, rfl, _, rfl⟩⟩
    have I1 : Inv X pins σ (upd H s.heap.objs.size (.tup [.int (i : Nat), x])) { s with heap := h'', toks := tk + 1 } :=
      I.turnedNew (ch := [e, it]) (fun b ob hb q => (sb.2 b (fun z => hb (by simp [z]))).trans (hk b ob (fun z => hb (by simp [z])) (fun z => hb (by simp [z])) q)) hf (Nat.le_refl _) new
    refine ⟨.ref s.heap.objs.size, _, I1, rfl, ⟨_, x, rfl, I.hok.fresh (Nat.le_refl _), rfl, fun ys hy => by rw [I.tuple_inj hy hq]; exact hx⟩, ⟨⟨y, ?_⟩, hit'.at fun o q => (sb.2 it (Ne.symm hne)).trans q, hne⟩, fun b hb => ?_⟩
    · have e1 : ((i + 1 : Nat) : Int) = (i : Int) + 1 := by omega
      rw [e1]; exact he'
    · have hb' : b < s.heap.objs.size := by
        have e' : b = e ∨ b = it := by simpa using hb
        rcases e' with z | z
        · rw [z]; exact hel
        · rw [z]; exact hil
      rw [upd_ne (Nat.ne_of_lt hb')]
      exact (hf b hb).1
  done := by
    intro X hP hw hK hc i pins s σ H E I hf st hg
    subst hP hw hK
    obtain ⟨⟨old, he⟩, hit, hne⟩ := st
    obtain ⟨xs, hq, hx⟩ := hg
    obtain ⟨its, rv, p, hz⟩ := I.tuple hq
    obtain ⟨f0, f1, f2, f3, f4, f5⟩ := hf it (by simp)
    have hl := rv.length
    have pt : s.heap.IsTuple a its.toArray := p
    unfold pyNext
    have hT : s.TypeIs (.ref e) "enumerate" := ⟨_, he, rfl⟩
    refine wpAny_bind (wpAny_attempt (wpAny_callSpecial?_slot (name := Str.ofString "__next__") hT F.slot_enumerate_next
      (wpAny_call_entry F.slot_enumerate_next hT F.entry_enumerate_next ?_ (F.args_enumerate_next_1 _))))
    show wpAny _ _ (field (.ref e) 2 >>= _) _ _ _
    refine wpAny_bind (wpAny_field he rfl (x := .ref it) rfl ?_)
    refine wpAny_bind (wpAny_nextOf_tuple_end (I.ok.hd hc) hit pt (by simp; omega) fun h' x eb hx' => ?_)
    obtain ⟨o, ho, hc'⟩ := hx'
    refine wpAny_bind (wpAny_isInstance (T := "StopIteration") (b := true) ⟨o, ho, hc'⟩ isSubtype_stop ?_)
    exact wpAny_pure ⟨rfl, I.turned (t' := s.toks) (fun b o hb q => eb b o hb q) f0 f1 f3 f4 f5⟩
  self := fun A i s Q E st h => let ⟨⟨_, he⟩, _⟩ := st; wpAny_pyIter_enum he h
def iEnumA (K : PySem.W.Frag) (ta : TA) : TI := fun σ H R => ta σ H fun vs H1 => ∃ a, vs = [.ref a] ∧ ((∃ xs, SqL K H1 a xs) ∧ R (Ite K a) H1 ∨ (∃ xs, SqT K H1 a xs) ∧ R (Iet K a) H1)
theorem pi_enumA {X : Cx} {e : Expr} {ta : TA} {p pos tpos : Pos} {elts : List Expr} {kk : Nat} (hg : Gl X "enumerate") (hm : X.mg "enumerate" = none) (ha : PA X [e] ta) (hs : starEach [e] X.env = [(false, eval e X.env)] := by rfl) :
    PI X (.Tuple elts kk tpos) (.Call (.Name "enumerate" p) [e] [] pos) (iEnumA X.K ta) := by
  refine ⟨fun pins s σ H R I h => ?_⟩
  refine Call_ (ld_blt I hg hm boot_enumerate (PyProof.Rows.callWith_type1 (thn (ha.run pos pins s σ H _ I h) fun us s1 ⟨vs, H1, I1, r1, q1⟩ => ?_) hs rfl))
  obtain ⟨a, ex, q1⟩ := q1
  subst ex
  cases r1 with
  | cons r rr =>
    cases rr
    cases r
    have two : ∀ b, b ∈ [s1.heap.objs.size + 1, s1.heap.objs.size] → FpOk X pins H1 b := fun b hb => by
      have e' : b = s1.heap.objs.size + 1 ∨ b = s1.heap.objs.size := by simpa using hb
      have hle : s1.heap.objs.size ≤ b := by
        rcases e' with z | z
        · rw [z]; exact Nat.le_add_right _ _
        · rw [z]; exact Nat.le_refl _
      exact I1.fpOk hle (I1.hok.fresh hle)
    rcases q1 with ⟨⟨xs, hq⟩, q⟩ | ⟨⟨xs, hq⟩, q⟩
    · obtain ⟨its, rv, p', hz⟩ := I1.list hq
      refine call_enumerate_list p'.isList fun h' he hit hsz hk => wpAny_pyIter_enum he ?_
      have I2 : Inv X pins σ H1 { s1 with heap := h' } := I1.kept (t' := s1.toks) hk
      exact ⟨s1.heap.objs.size + 1, [s1.heap.objs.size + 1, s1.heap.objs.size], _, _, H1, rfl, I2, turn_enum a (s1.heap.objs.size + 1) s1.heap.objs.size, ⟨⟨.none, he⟩, hit, Nat.succ_ne_self _⟩, two, q⟩
    · obtain ⟨its, rv, p', hz⟩ := I1.tuple hq
      refine call_enumerate_tuple p' fun h' he hit hsz hk => wpAny_pyIter_enum he ?_
      have I2 : Inv X pins σ H1 { s1 with heap := h' } := I1.kept (t' := s1.toks) hk
      exact ⟨s1.heap.objs.size + 1, [s1.heap.objs.size + 1, s1.heap.objs.size], _, _, H1, rfl, I2, turn_enumT a (s1.heap.objs.size + 1) s1.heap.objs.size, ⟨⟨.none, he⟩, hit, Nat.succ_ne_self _⟩, two, q⟩
section
variable {X : Cx} {P : Zc → Prop} {e : Expr} {pos : Pos} {te : ZE}
theorem gives_enumT {Z : Zc} {S : SS} {σ : L2.St} {H : Hp} {a : Addr} {ds : List D} (r : Rep X.K X.mg H (avs Z S σ) (.ref a) (.tup ds)) : Gives X Z S σ H (Iet X.K a) (enumD 0 ds) := by
  intro Z' S' σ' H' ok f i
  have r' := f _ _ r
  obtain ⟨vs, hs, hr⟩ : ∃ vs, SqT X.K H' a vs ∧ Reps X.K X.mg H' (avs Z' S' σ') vs ds := by
    obtain ⟨b, vs, e, h1, h2⟩ := r'.tup_inv
    cases e
    exact ⟨vs, h1, h2⟩
  refine ⟨fun d hd => ?_, fun hl => ⟨vs, hs, by rw [hr.length]; rwa [enumD_length] at hl⟩⟩
  obtain ⟨x, h1, rfl⟩ := enumD_get hd
  obtain ⟨v, h2, h3⟩ := hr.get h1
  refine ⟨⟨vs, v, hs, h2⟩, fun y H'' hy => ?_⟩
  obtain ⟨T, x', rfl, hT, rfl, hx⟩ := hy
  have e := hx vs hs
  rw [h2] at e
  cases e
  have s : Same H' (upd H' T (.tup [.int ((i : Nat) : Int), v])) := Same.upd hT
  refine ⟨s, .tup (.inl (.inl upd_same)) (.cons ?_ (.cons (h3.carry (.same s fun _ z => z)) .nil))⟩
  rw [Nat.zero_add]
  exact .int _
def zItEA (te : ZE) : ZA := fun S Q => te S fun d S1 => match d with
  | .lst ds => Q (enumD 0 ds) S1
  | .fls ds => Q (enumD 0 ds) S1
  | .tup ds => Q (enumD 0 ds) S1
  | _ => False
theorem id_enumA {elts : List Expr} {kk : Nat} {p tpos : Pos} (hg : Gl X "enumerate") (hm : X.mg "enumerate" = none) (h : PD X P e te) (hs : starEach [e] X.env = [(false, eval e X.env)] := by rfl) : PId X P (.Tuple elts kk tpos) (.Call (.Name "enumerate" p) [e] [] pos) (zItEA te) := by
  obtain ⟨t0, p0, q0⟩ := h.ex
  refine ⟨_, pi_enumA hg hm (pa_cons p0 pa_nil hs) hs, fun Z hZ S σ H Qz R ok h k => q0 Z hZ S σ H _ _ ok h fun d S1 v H1 h1 o f r => ?_⟩
  split at h1
  · obtain ⟨a, vs, rfl, h2, h3⟩ := r.lst_inv
    exact ⟨a, rfl, .inl ⟨⟨vs, .inl (.inl h2)⟩, k _ _ _ _ h1 o f (gives_enum (.inl rfl) r)⟩⟩
  · obtain ⟨a, vs, rfl, h2, h3⟩ := r.fls_inv
    exact ⟨a, rfl, .inl ⟨⟨vs, h2.seq⟩, k _ _ _ _ h1 o f (gives_enum (.inr rfl) r)⟩⟩
  · obtain ⟨a, vs, rfl, h2, h3⟩ := r.tup_inv
    exact ⟨a, rfl, .inr ⟨⟨vs, h2⟩, k _ _ _ _ h1 o f (gives_enumT r)⟩⟩
  · exact h1.elim
end
end Zz

set_option maxHeartbeats 4000000
/-! K18 -/
namespace K18
open PySem PySem.Spec PyProof.Rows L2 Zz
def topS (i : Nat) : Stmt := PySem.Challenge.pw_leafsplits_k18_great_loads.main.body.getD i (.Pass ⟨0, 0, 0, 0⟩)
def inCls (i j : Nat) : Stmt := match topS i with
  | .ClassDef (body := b) .. => b.getD j (.Pass ⟨0, 0, 0, 0⟩)
  | _ => .Pass ⟨0, 0, 0, 0⟩
abbrev errCs : List Str := ["PageError", "InvalidRule", "InvalidLevels", "InvalidKind", "InvalidNumber", "InvalidLevel", "InvalidPage"]
def errF (f : Str) : List Str := if f = "item" then ["InvalidRule"] else if f = "level" then ["InvalidLevels"] else []
abbrev s_InvalidLevels_init : Stmt := inCls 7 0
theorem sc_InvalidLevels_init : FnScope ["self", "level"] ["self", "level"] (defScope s_InvalidLevels_init) := ⟨rfl, rfl, rfl, by decide +kernel, rfl, by decide +kernel, by decide +kernel⟩
abbrev s_InvalidRule_init : Stmt := inCls 6 0
theorem sc_InvalidRule_init : FnScope ["self", "item"] ["self", "item"] (defScope s_InvalidRule_init) := ⟨rfl, rfl, rfl, by decide +kernel, rfl, by decide +kernel, by decide +kernel⟩
/-! ### is_int -/
abbrev s_is_int : Stmt := topS 2
abbrev N_is_int : List Str := ["value"]
theorem sc_is_int : FnScope N_is_int ["value"] (defScope s_is_int) := ⟨rfl, rfl, rfl, by decide +kernel, rfl, by decide +kernel, by decide +kernel⟩
/-! ### is_whole -/
abbrev s_is_whole : Stmt := topS 3
abbrev N_is_whole : List Str := ["value", "low", "high"]
theorem sc_is_whole : FnScope N_is_whole ["value", "low", "high"] (defScope s_is_whole) := ⟨rfl, rfl, rfl, by decide +kernel, rfl, by decide +kernel, by decide +kernel⟩
/-! ### normal_level -/
abbrev s_normal_level : Stmt := topS 13
abbrev N_normal_level : List Str := ["pairs", "found", "size", "times"]
theorem sc_normal_level : FnScope N_normal_level ["pairs"] (defScope s_normal_level) := ⟨rfl, rfl, rfl, by decide +kernel, rfl, by decide +kernel, by decide +kernel⟩
/-! ### page_count -/
abbrev s_page_count : Stmt := topS 14
abbrev N_page_count : List Str := ["level", "size", "times"]
theorem sc_page_count : FnScope N_page_count ["level"] (defScope s_page_count) := ⟨rfl, rfl, rfl, by decide +kernel, rfl, by decide +kernel, by decide +kernel⟩
/-! ### item_count -/
abbrev s_item_count : Stmt := topS 15
abbrev N_item_count : List Str := ["level", "size", "times"]
theorem sc_item_count : FnScope N_item_count ["level"] (defScope s_item_count) := ⟨rfl, rfl, rfl, by decide +kernel, rfl, by decide +kernel, by decide +kernel⟩
/-! ### parted -/
abbrev s_parted : Stmt := topS 16
abbrev N_parted : List Str := ["level", "page", "left", "index", "size", "times", "ahead"]
theorem sc_parted : FnScope N_parted ["level", "page"] (defScope s_parted) := ⟨rfl, rfl, rfl, by decide +kernel, rfl, by decide +kernel, by decide +kernel⟩
/-! ### page_with -/
abbrev s_page_with : Stmt := topS 18
abbrev N_page_with : List Str := ["level", "item", "left", "ahead", "size", "times"]
theorem sc_page_with : FnScope N_page_with ["level", "item"] (defScope s_page_with) := ⟨rfl, rfl, rfl, by decide +kernel, rfl, by decide +kernel, by decide +kernel⟩
/-! ### is_part -/
abbrev s_is_part : Stmt := topS 22
abbrev N_is_part : List Str := ["whole", "stays"]
theorem sc_is_part : FnScope N_is_part ["whole", "stays"] (defScope s_is_part) := ⟨rfl, rfl, rfl, by decide +kernel, rfl, by decide +kernel, by decide +kernel⟩
/-! ### require_rule -/
abbrev s_require_rule : Stmt := topS 23
abbrev N_require_rule : List Str := ["value"]
theorem sc_require_rule : FnScope N_require_rule ["value"] (defScope s_require_rule) := ⟨rfl, rfl, rfl, by decide +kernel, rfl, by decide +kernel, by decide +kernel⟩
/-! ### Rule_init -/
abbrev s_Rule_init : Stmt := inCls 24 0
abbrev N_Rule_init : List Str := ["self", "leaf", "leaf_stays", "inner", "inner_stays"]
theorem sc_Rule_init : FnScope N_Rule_init ["self", "leaf", "leaf_stays", "inner", "inner_stays"] (defScope s_Rule_init) := ⟨rfl, rfl, rfl, by decide +kernel, rfl, by decide +kernel, by decide +kernel⟩
/-! ### Rule_leaf -/
abbrev s_Rule_leaf : Stmt := inCls 24 1
abbrev N_Rule_leaf : List Str := ["self"]
theorem sc_Rule_leaf : FnScope N_Rule_leaf ["self"] (defScope s_Rule_leaf) := ⟨rfl, rfl, rfl, by decide +kernel, rfl, by decide +kernel, by decide +kernel⟩
/-! ### Rule_inner -/
abbrev s_Rule_inner : Stmt := inCls 24 4
abbrev N_Rule_inner : List Str := ["self"]
theorem sc_Rule_inner : FnScope N_Rule_inner ["self"] (defScope s_Rule_inner) := ⟨rfl, rfl, rfl, by decide +kernel, rfl, by decide +kernel, by decide +kernel⟩
/-! ### require_level -/
abbrev s_require_level : Stmt := topS 29
abbrev N_require_level : List Str := ["index", "value"]
theorem sc_require_level : FnScope N_require_level ["index", "value"] (defScope s_require_level) := ⟨rfl, rfl, rfl, by decide +kernel, rfl, by decide +kernel, by decide +kernel⟩
/-! ### is_pair -/
abbrev s_is_pair : Stmt := topS 31
abbrev N_is_pair : List Str := ["value", "most", "number"]
theorem sc_is_pair : FnScope N_is_pair ["value", "most"] (defScope s_is_pair) := ⟨rfl, rfl, rfl, by decide +kernel, rfl, by decide +kernel, by decide +kernel⟩
/-! ### is_empty_level -/
abbrev s_is_empty_level : Stmt := topS 33
abbrev N_is_empty_level : List Str := ["level", "pair"]
theorem sc_is_empty_level : FnScope N_is_empty_level ["level"] (defScope s_is_empty_level) := ⟨rfl, rfl, rfl, by decide +kernel, rfl, by decide +kernel, by decide +kernel⟩
/-! ### is_level -/
abbrev s_is_level : Stmt := topS 32
abbrev N_is_level : List Str := ["levels", "spot", "most", "level", "is_last", "pair"]
theorem sc_is_level : FnScope N_is_level ["levels", "spot", "most"] (defScope s_is_level) := ⟨rfl, rfl, rfl, by decide +kernel, rfl, by decide +kernel, by decide +kernel⟩
/-! ### require_levels -/
abbrev s_require_levels : Stmt := topS 34
abbrev N_require_levels : List Str := ["rule", "value", "spot"]
theorem sc_require_levels : FnScope N_require_levels ["rule", "value"] (defScope s_require_levels) := ⟨rfl, rfl, rfl, by decide +kernel, rfl, by decide +kernel, by decide +kernel⟩
/-! ### own_form -/
abbrev s_own_form : Stmt := topS 35
abbrev N_own_form : List Str := ["levels", "level"]
theorem sc_own_form : FnScope N_own_form ["levels"] (defScope s_own_form) := ⟨rfl, rfl, rfl, by decide +kernel, rfl, by decide +kernel, by decide +kernel⟩
/-! ### PageIndex_init -/
abbrev s_PageIndex_init : Stmt := inCls 36 0
abbrev N_PageIndex_init : List Str := ["self", "rule", "levels"]
theorem sc_PageIndex_init : FnScope N_PageIndex_init ["self", "rule", "levels"] (defScope s_PageIndex_init) := ⟨rfl, rfl, rfl, by decide +kernel, rfl, by decide +kernel, by decide +kernel⟩
/-! ### PageIndex_entries -/
abbrev s_PageIndex_entries : Stmt := inCls 36 3
abbrev N_PageIndex_entries : List Str := ["self"]
theorem sc_PageIndex_entries : FnScope N_PageIndex_entries ["self"] (defScope s_PageIndex_entries) := ⟨rfl, rfl, rfl, by decide +kernel, rfl, by decide +kernel, by decide +kernel⟩
/-! ### PageIndex_height -/
abbrev s_PageIndex_height : Stmt := inCls 36 4
abbrev N_PageIndex_height : List Str := ["self"]
theorem sc_PageIndex_height : FnScope N_PageIndex_height ["self"] (defScope s_PageIndex_height) := ⟨rfl, rfl, rfl, by decide +kernel, rfl, by decide +kernel, by decide +kernel⟩
/-! ### PageIndex_pages -/
abbrev s_PageIndex_pages : Stmt := inCls 36 6
abbrev N_PageIndex_pages : List Str := ["self", "level"]
theorem sc_PageIndex_pages : FnScope N_PageIndex_pages ["self", "level"] (defScope s_PageIndex_pages) := ⟨rfl, rfl, rfl, by decide +kernel, rfl, by decide +kernel, by decide +kernel⟩
/-! ### made_index -/
abbrev s_made_index : Stmt := topS 37
abbrev N_made_index : List Str := ["rule", "levels", "found"]
theorem sc_made_index : FnScope N_made_index ["rule", "levels"] (defScope s_made_index) := ⟨rfl, rfl, rfl, by decide +kernel, rfl, by decide +kernel, by decide +kernel⟩
/-! ### new_index -/
abbrev s_new_index : Stmt := topS 38
abbrev N_new_index : List Str := ["rule"]
theorem sc_new_index : FnScope N_new_index ["rule"] (defScope s_new_index) := ⟨rfl, rfl, rfl, by decide +kernel, rfl, by decide +kernel, by decide +kernel⟩
/-! ### require_kind -/
abbrev s_require_kind : Stmt := topS 43
abbrev N_require_kind : List Str := ["value"]
theorem sc_require_kind : FnScope N_require_kind ["value"] (defScope s_require_kind) := ⟨rfl, rfl, rfl, by decide +kernel, rfl, by decide +kernel, by decide +kernel⟩
/-! ### require_number -/
abbrev s_require_number : Stmt := topS 44
abbrev N_require_number : List Str := ["value"]
theorem sc_require_number : FnScope N_require_number ["value"] (defScope s_require_number) := ⟨rfl, rfl, rfl, by decide +kernel, rfl, by decide +kernel, by decide +kernel⟩
/-! ### require_any_level -/
abbrev s_require_any_level : Stmt := topS 45
abbrev N_require_any_level : List Str := ["value"]
theorem sc_require_any_level : FnScope N_require_any_level ["value"] (defScope s_require_any_level) := ⟨rfl, rfl, rfl, by decide +kernel, rfl, by decide +kernel, by decide +kernel⟩
/-! ### count_within -/
abbrev s_count_within : Stmt := topS 46
abbrev N_count_within : List Str := ["number", "begin", "step"]
theorem sc_count_within : FnScope N_count_within ["number", "begin", "step"] (defScope s_count_within) := ⟨rfl, rfl, rfl, by decide +kernel, rfl, by decide +kernel, by decide +kernel⟩
/-! ### splits_of -/
abbrev s_splits_of : Stmt := topS 47
abbrev N_splits_of : List Str := ["rule", "place", "segment", "most", "stays", "goes", "kind", "moment", "step", "number", "begin", "few", "ways", "widths", "later", "first"]
theorem sc_splits_of : FnScope N_splits_of ["rule", "place", "segment"] (defScope s_splits_of) := ⟨rfl, rfl, rfl, by decide +kernel, rfl, by decide +kernel, by decide +kernel⟩
/-! ### page_behind -/
abbrev s_page_behind : Stmt := topS 48
abbrev N_page_behind : List Str := ["rule", "place", "segment", "most", "stays", "found", "size", "behind", "ahead", "way", "moment", "step", "number"]
theorem sc_page_behind : FnScope N_page_behind ["rule", "place", "segment"] (defScope s_page_behind) := ⟨rfl, rfl, rfl, by decide +kernel, rfl, by decide +kernel, by decide +kernel⟩
/-! ### rule_of_level -/
abbrev s_rule_of_level : Stmt := topS 50
abbrev N_rule_of_level : List Str := ["rule", "level"]
theorem sc_rule_of_level : FnScope N_rule_of_level ["rule", "level"] (defScope s_rule_of_level) := ⟨rfl, rfl, rfl, by decide +kernel, rfl, by decide +kernel, by decide +kernel⟩
/-! ### pairs_of -/
abbrev s_pairs_of : Stmt := topS 51
abbrev N_pairs_of : List Str := ["index", "level"]
theorem sc_pairs_of : FnScope N_pairs_of ["index", "level"] (defScope s_pairs_of) := ⟨rfl, rfl, rfl, by decide +kernel, rfl, by decide +kernel, by decide +kernel⟩
/-! ### leaf_place -/
abbrev s_leaf_place : Stmt := topS 52
abbrev N_leaf_place : List Str := ["index", "gap", "page", "ahead"]
theorem sc_leaf_place : FnScope N_leaf_place ["index", "gap"] (defScope s_leaf_place) := ⟨rfl, rfl, rfl, by decide +kernel, rfl, by decide +kernel, by decide +kernel⟩
/-! ### place_above -/
abbrev s_place_above : Stmt := topS 53
abbrev N_place_above : List Str := ["index", "level", "page", "above", "ahead"]
theorem sc_place_above : FnScope N_place_above ["index", "level", "page"] (defScope s_place_above) := ⟨rfl, rfl, rfl, by decide +kernel, rfl, by decide +kernel, by decide +kernel⟩
/-! ### changed_level -/
abbrev s_changed_level : Stmt := topS 54
abbrev N_changed_level : List Str := ["rule", "pairs", "page", "ahead", "segments", "before", "size", "later", "place", "splits", "segment", "gone", "stayed", "split"]
theorem sc_changed_level : FnScope N_changed_level ["rule", "pairs", "page", "ahead", "segments"] (defScope s_changed_level) := ⟨rfl, rfl, rfl, by decide +kernel, rfl, by decide +kernel, by decide +kernel⟩
/-! ### run_behind -/
abbrev s_run_behind : Stmt := topS 55
abbrev N_run_behind : List Str := ["index", "kind", "gap", "number", "segments", "found", "page", "ahead", "level", "pairs"]
theorem sc_run_behind : FnScope N_run_behind ["index", "kind", "gap", "number"] (defScope s_run_behind) := ⟨rfl, rfl, rfl, by decide +kernel, rfl, by decide +kernel, by decide +kernel⟩
/-! ### first_split -/
abbrev s_first_split : Stmt := topS 57
abbrev N_first_split : List Str := ["rule", "kind", "level", "most", "stays", "inner", "inner_stays", "width", "inner_width", "first", "apart", "lower"]
theorem sc_first_split : FnScope N_first_split ["rule", "kind", "level"] (defScope s_first_split) := ⟨rfl, rfl, rfl, by decide +kernel, rfl, by decide +kernel, by decide +kernel⟩
/-! ### loaded -/
abbrev s_loaded : Stmt := topS 58
abbrev N_loaded : List Str := ["rule", "kind", "number"]
theorem sc_loaded : FnScope N_loaded ["rule", "kind", "number"] (defScope s_loaded) := ⟨rfl, rfl, rfl, by decide +kernel, rfl, by decide +kernel, by decide +kernel⟩
/-! ### load_pages -/
abbrev s_load_pages : Stmt := topS 59
abbrev N_load_pages : List Str := ["rule", "kind", "number", "level", "first", "apart"]
theorem sc_load_pages : FnScope N_load_pages ["rule", "kind", "number", "level"] (defScope s_load_pages) := ⟨rfl, rfl, rfl, by decide +kernel, rfl, by decide +kernel, by decide +kernel⟩
/-! ### load_height -/
abbrev s_load_height : Stmt := topS 60
abbrev N_load_height : List Str := ["rule", "kind", "number", "height"]
theorem sc_load_height : FnScope N_load_height ["rule", "kind", "number"] (defScope s_load_height) := ⟨rfl, rfl, rfl, by decide +kernel, rfl, by decide +kernel, by decide +kernel⟩
/-! ### law_bag -/
abbrev s_law_bag : Stmt := topS 62
abbrev N_law_bag : List Str := ["cell"]
theorem sc_law_bag : FnScope N_law_bag ["cell"] (defScope s_law_bag) := ⟨rfl, rfl, rfl, by decide +kernel, rfl, by decide +kernel, by decide +kernel⟩
/-! ### law_pick -/
abbrev s_law_pick : Stmt := topS 63
abbrev N_law_pick : List Str := ["bag", "many", "told", "seed", "turn", "first", "second", "drawn"]
theorem sc_law_pick : FnScope N_law_pick ["bag", "many"] (defScope s_law_pick) := ⟨rfl, rfl, rfl, by decide +kernel, rfl, by decide +kernel, by decide +kernel⟩
/-! ### law_rule -/
abbrev s_law_rule : Stmt := topS 64
abbrev N_law_rule : List Str := ["bag", "found", "turn", "most"]
theorem sc_law_rule : FnScope N_law_rule ["bag"] (defScope s_law_rule) := ⟨rfl, rfl, rfl, by decide +kernel, rfl, by decide +kernel, by decide +kernel⟩
/-! ### law_great_rule -/
abbrev s_law_great_rule : Stmt := topS 65
abbrev N_law_great_rule : List Str := ["bag", "found", "wide", "most", "least", "parts"]
theorem sc_law_great_rule : FnScope N_law_great_rule ["bag"] (defScope s_law_great_rule) := ⟨rfl, rfl, rfl, by decide +kernel, rfl, by decide +kernel, by decide +kernel⟩
/-! ### law_any_rule -/
abbrev s_law_any_rule : Stmt := topS 66
abbrev N_law_any_rule : List Str := ["bag"]
theorem sc_law_any_rule : FnScope N_law_any_rule ["bag"] (defScope s_law_any_rule) := ⟨rfl, rfl, rfl, by decide +kernel, rfl, by decide +kernel, by decide +kernel⟩
/-! ### law_firsts -/
abbrev s_law_firsts : Stmt := topS 67
abbrev N_law_firsts : List Str := ["rule", "kind", "level", "parts", "begin", "apart", "turn"]
theorem sc_law_firsts : FnScope N_law_firsts ["rule", "kind", "level"] (defScope s_law_firsts) := ⟨rfl, rfl, rfl, by decide +kernel, rfl, by decide +kernel, by decide +kernel⟩
/-! ### law_due -/
abbrev s_law_due : Stmt := topS 68
abbrev N_law_due : List Str := ["rule", "kind", "number", "level", "begin", "apart"]
theorem sc_law_due : FnScope N_law_due ["rule", "kind", "number", "level"] (defScope s_law_due) := ⟨rfl, rfl, rfl, by decide +kernel, rfl, by decide +kernel, by decide +kernel⟩
/-! ### law_right -/
abbrev s_law_right : Stmt := topS 69
abbrev N_law_right : List Str := ["bag", "rule", "kind", "made", "begin", "apart", "some", "number", "index", "level", "due"]
theorem sc_law_right : FnScope N_law_right ["bag", "rule", "kind"] (defScope s_law_right) := ⟨rfl, rfl, rfl, by decide +kernel, rfl, by decide +kernel, by decide +kernel⟩
/-! ### law -/
abbrev s_law : Stmt := topS 70
abbrev N_law : List Str := ["script", "cell", "bag", "kind", "rule"]
theorem sc_law : FnScope N_law ["script"] (defScope s_law) := ⟨rfl, rfl, rfl, by decide +kernel, rfl, by decide +kernel, by decide +kernel⟩
structure Facts (mg : Str → Option Value) : Prop where
  b_all : mg "all" = none
  b_bool : mg "bool" = none
  b_enumerate : mg "enumerate" = none
  b_int : mg "int" = none
  b_isinstance : mg "isinstance" = none
  b_len : mg "len" = none
  b_list : mg "list" = none
  b_max : mg "max" = none
  b_min : mg "min" = none
  b_range : mg "range" = none
  b_repr : mg "repr" = none
  b_set : mg "set" = none
  b_sorted : mg "sorted" = none
  b_str : mg "str" = none
  b_sum : mg "sum" = none
  b_tuple : mg "tuple" = none
  c_LEAST_PAGE : ∃ t, mg "LEAST_PAGE" = some (.int 3 t)
  c_MOST_LEVEL : ∃ t, mg "MOST_LEVEL" = some (.int 200 t)
  c_MOST_LEVELS : ∃ t, mg "MOST_LEVELS" = some (.int 100 t)
  c_MOST_NUMBER : ∃ t, mg "MOST_NUMBER" = some (.int 1000000000000000000000000000000 t)
  c_MOST_PAGE : ∃ t, mg "MOST_PAGE" = some (.int 1000000000000000000000000000000 t)
  c_MOST_PAIRS : ∃ t, mg "MOST_PAIRS" = some (.int 12 t)
  c_MOST_TIMES : ∃ t, mg "MOST_TIMES" = some (.int 1000000000000000000000000000000 t)
structure Objs (K : PySem.W.Frag) (mg : Str → Option Value) : Prop where
  triv : True
  n_PageIndex_own_levels : Kn K mg "PageIndex" "own_levels"
  n_PageIndex_own_rule : Kn K mg "PageIndex" "own_rule"
  n_Rule_own_numbers : Kn K mg "Rule" "own_numbers"
  kf_PageIndex_own_levels : Kf K mg "PageIndex" "own_levels"
  i_Rule : KisO K mg "Rule" [("Rule", true), ("PageIndex", false)]
  k_KINDS : Kt K mg "KINDS" (.tup [.str "up", .str "down"])
  errs : Errs K mg "PageError" errCs
  r_InvalidKind : Er K mg "InvalidKind"
  r_InvalidLevel : Er K mg "InvalidLevel"
  r_InvalidNumber : Er K mg "InvalidNumber"
local macro_rules | `(tactic| nofun) => `(tactic| ((conv => whnf); (repeat (first
  | (refine ⟨_, rfl, ?_⟩; conv => whnf)
  | (refine ⟨_, _, rfl, rfl, ?_⟩; conv => whnf)
  | (refine ⟨fun z => Bool.noConfusion (show false = true from z), fun _ => ?_⟩; conv => whnf)
  | (refine ⟨fun _ => ?_, fun z => Bool.noConfusion (show true = false from z)⟩; conv => whnf))); (try dsimp only)))
theorem tfF (z : false = true) : False := by cases z
theorem tfT (z : true = false) : False := by cases z
theorem andT {A B : Prop} (h : A) : (true = true → A) ∧ (true = false → B) := ⟨fun _ => h, fun z => (tfT z).elim⟩
theorem andF {A B : Prop} (h : B) : (false = true → A) ∧ (false = false → B) := ⟨fun z => (tfF z).elim, fun _ => h⟩
/-- runs a reading up to what is to be shown -/
local macro_rules | `(tactic| and_intros) => `(tactic| ((try dsimp only [startS, wipeS, backS, List.set, List.map, List.length_cons, List.length_nil, List.replicate, List.cons_append, List.nil_append, Nat.reduceAdd, Nat.reduceSub, List.getElem?_cons_succ, List.getElem?_cons_zero]); (conv => whnf); (repeat (first
  | (refine Exists.intro _ (And.intro rfl ?_); conv => whnf)
  | (refine Exists.intro _ (Exists.intro _ (And.intro rfl (And.intro rfl ?_))); conv => whnf)
  | (refine andF ?_; conv => whnf)
  | (refine andT ?_; conv => whnf)
  | (refine And.intro (by decide) ?_; conv => whnf)
  | (refine And.intro (Nat.le_of_ble_eq_true rfl) ?_; conv => whnf)
  | (refine And.intro rfl ?_; conv => whnf)
  | (refine Exists.intro _ (Exists.intro _ (Exists.intro _ (Exists.intro _ (And.intro rfl (And.intro rfl ?_))))); conv => whnf)
  | (refine Exists.intro _ (Exists.intro _ (And.intro rfl ?_)); conv => whnf)
  | (refine Exists.intro _ (Exists.intro _ (Exists.intro _ (And.intro rfl ?_))); conv => whnf)))); (try dsimp only))
def mx (a b : Int) : Int := if b > a then b else a
def mn (a b : Int) : Int := if b < a then b else a
def irng (a b : Int) : List Int := (List.range (b - a).toNat).map fun (i : Nat) => a + (i : Int)
theorem rangeD_irng (a b : Int) : rangeD a (b - a).toNat = (irng a b).map .int := by
  unfold rangeD irng
  rw [List.map_map]
  rfl
theorem irng_get {a b : Int} {i : Nat} {d : D} (h : ((irng a b).map D.int)[i]? = some d) : d = .int (a + i) ∧ a + i < b := by
  rw [← rangeD_irng] at h
  obtain ⟨h1, h2⟩ := rangeD_get h
  exact ⟨h2, by omega⟩
theorem irng_len {a b : Int} : (irng a b).length = (b - a).toNat := by simp [irng]
theorem irng_take {a b : Int} {i : Nat} (h : a + i < b) : (irng a b).take (i + 1) = (irng a b).take i ++ [a + i] := by
  have hl : i < (irng a b).length := by rw [irng_len]; omega
  rw [List.take_succ_eq_append_getElem hl]
  simp [irng]
theorem dropA {α : Type} {xs : List α} {i : Nat} {x : α} (h : xs[i]? = some x) : xs.drop i = x :: xs.drop (i + 1) := by
  obtain ⟨hl, e⟩ := List.getElem?_eq_some_iff.mp h
  rw [List.drop_eq_getElem_cons hl, e]
theorem sz2 : 2 ≤ sizeLine := by decide
theorem sz3 : 3 ≤ sizeLine := by decide
theorem asc {c : Prop} [Decidable c] (h : decide c = true) : c := of_decide_eq_true h
theorem nac {c : Prop} [Decidable c] (h : decide c = false) : ¬ c := of_decide_eq_false h

theorem log_small {i : Int} (h0 : 0 ≤ i) (h : i < 2 ^ 200) : i.natAbs.log2 < 200 := by
  by_cases e : i.natAbs = 0
  · rw [e]; decide
  · exact (Nat.log2_lt e).mpr (by omega)
theorem divW {a b : Int} (h0 : 0 < b) (h : b < 2 ^ 200) : CDivW a b := ⟨h0, Nat.lt_trans (log_small (by omega) h) (by decide)⟩
theorem mulW {a b : Int} (h0 : a.natAbs < 2 ^ 200) (h : b.natAbs < 2 ^ 200) : CMulW a b := by
  have k : ∀ n : Nat, n < 2 ^ 200 → n.log2 < 200 := fun n hn => by
    by_cases e : n = 0
    · rw [e]; decide
    · exact (Nat.log2_lt e).mpr hn
  have := k _ h0
  have := k _ h
  unfold CMulW
  omega
theorem powW {a : Int} (h : a.natAbs < 2 ^ 199) : CPowW a 3 := by
  refine ⟨by decide, ?_⟩
  have : Builtin.Int.intBits a ≤ 1000 := by
    unfold Builtin.Int.intBits
    split
    · omega
    · rename_i h0
      have h1 : a.natAbs ≠ 0 := fun z => h0 (by have : a = 0 := by omega
                                                subst this; rfl)
      have := (Nat.log2_lt h1).mpr h
      omega
  omega
theorem sz4 : 4 ≤ sizeLine := by decide
theorem sz6 : 6 ≤ sizeLine := by decide
/-- a part of a page, as points 4 and 5 ask -/
def partB (w s : Int) : Bool := decide (2 ≤ s ∧ s ≤ w - 1 ∧ w + 1 ≤ 4 * s ∧ w + 1 ≤ 4 * (w + 1 - s))
def ruleD (m a f p : Int) : D := .obj "Rule" [("own_numbers", .tup [.int m, .int a, .int f, .int p])]
def RuleOk (m a f p : Int) : Prop := 3 ≤ m ∧ m ≤ 10 ^ 30 ∧ partB m a = true ∧ 3 ≤ f ∧ f ≤ 10 ^ 30 ∧ partB f p = true
theorem RuleOk.bd {m a f p : Int} (h : RuleOk m a f p) : 2 ≤ a ∧ a ≤ m - 1 ∧ 2 ≤ p ∧ p ≤ f - 1 := by
  obtain ⟨_, _, h1, _, _, h2⟩ := h
  have h1 := of_decide_eq_true h1
  have h2 := of_decide_eq_true h2
  omega
/-- what == with a rule tells -/
def eqR (m a f p : Int) : D → Bool
  | .obj _ [(_, .tup [.int m', .int a', .int f', .int p'])] => decide (m = m' ∧ a = a' ∧ f = f' ∧ p = p')
  | _ => false
theorem whz_ind {c : ZT} {tb : ZS} {E : ZD} (I : SS → Nat → Prop)
    (hs : ∀ S n (K : SS → Prop), I S n → (∀ S' m, m < n → I S' m → K S') → c S fun b S1 => (b = true → tb { nx := K, rt := E.rt, bk := E.nx, ct := K } S1) ∧ (b = false → E.nx S1)) {S : SS} {n : Nat} (h0 : I S n) : ∃ k, whz c tb k E S := by
  have key : ∀ (k : Nat) (S : SS) (n : Nat), n < k → I S n → whz c tb k E S := by
    intro k
    induction k with
    | zero => intro S n h; omega
    | succ k ih => exact fun S n h hI => hs S n _ hI fun S' m hm hI' => ih S' m (by omega) hI'
  exact ⟨n + 1, key _ S n (Nat.lt_succ_self n) h0⟩
theorem cut2 {a b c : ZS} {E : ZD} {S : SS} (I : SS → Prop) (h1 : ∀ K : SS → Prop, (∀ S', I S' → K S') → zSeq a b { nx := K, rt := E.rt, bk := E.bk, ct := E.ct } S) (h2 : ∀ S', I S' → c E S') : zSeq a (zSeq b c) E S := h1 (c E) h2
theorem cut3 {a b c d : ZS} {E : ZD} {S : SS} (I : SS → Prop) (h1 : ∀ K : SS → Prop, (∀ S', I S' → K S') → zSeq a (zSeq b c) { nx := K, rt := E.rt, bk := E.bk, ct := E.ct } S) (h2 : ∀ S', I S' → d E S') : zSeq a (zSeq b (zSeq c d)) E S := h1 (d E) h2
theorem cut4 {a b c d e : ZS} {E : ZD} {S : SS} (I : SS → Prop) (h1 : ∀ K : SS → Prop, (∀ S', I S' → K S') → zSeq a (zSeq b (zSeq c d)) { nx := K, rt := E.rt, bk := E.bk, ct := E.ct } S) (h2 : ∀ S', I S' → e E S') : zSeq a (zSeq b (zSeq c (zSeq d e))) E S := h1 (e E) h2
theorem cut5 {a b c d e f : ZS} {E : ZD} {S : SS} (I : SS → Prop) (h1 : ∀ K : SS → Prop, (∀ S', I S' → K S') → zSeq a (zSeq b (zSeq c (zSeq d e))) { nx := K, rt := E.rt, bk := E.bk, ct := E.ct } S) (h2 : ∀ S', I S' → f E S') : zSeq a (zSeq b (zSeq c (zSeq d (zSeq e f)))) E S := h1 (f E) h2

/-- whether any value is a part of a page of w items -/
def partD (w : Int) : D → Bool
  | .int s => partB w s
  | _ => false
def wholeD (lo hi : Int) : D → Bool
  | .int i => decide (lo ≤ i) && decide (i ≤ hi)
  | _ => false
def partM (m : D) (a : D) : Bool := match m with | .int m => partD m a | _ => false
/-- the first wrong one of four values -/
def wrongAt (a b c d : D) : Option Int :=
  if wholeD 3 (10 ^ 30) a = false then some 0
  else if partM a b = false then some 1
  else if wholeD 3 (10 ^ 30) c = false then some 2
  else if partM c d = false then some 3 else none
def isK (d : D) : Prop := ∃ n, d.ty = some n
theorem wrong_k {a b c d : D} {k : Int} (h : wrongAt a b c d = some k) : k = 0 ∨ k = 1 ∨ k = 2 ∨ k = 3 := by
  unfold wrongAt at h
  repeat' split at h
  all_goals (first | (cases h; done) | (cases h; simp))
theorem whole_int {lo hi : Int} {d : D} (h : wholeD lo hi d = true) : ∃ i, d = .int i ∧ lo ≤ i ∧ i ≤ hi := by
  cases d <;> simp [wholeD] at h
  exact ⟨_, rfl, h.1, h.2⟩
theorem repr_int {i : Int} (h : i.natAbs < 10 ^ 200) : (PyData.int i).showable = true ∧ (PyData.int i).hasDict = false ∧ (PyData.int i).depth ≤ 60 ∧ (PyData.int i).shown.length ≤ sizeLine := by
  obtain ⟨p, e, r⟩ := repr_gd (d := .int i) (decide_eq_true h) (Nat.le_of_ble_eq_true rfl) (Nat.le_of_ble_eq_true rfl)
  simp [D.py] at e
  subst e
  exact r
theorem repr_non : PyData.none.showable = true ∧ PyData.none.hasDict = false ∧ PyData.none.depth ≤ 60 ∧ PyData.none.shown.length ≤ sizeLine := by
  obtain ⟨p, e, r⟩ := repr_gd (d := .non) rfl (Nat.le_of_ble_eq_true rfl) (Nat.le_of_ble_eq_true rfl)
  simp [D.py] at e
  subst e
  exact r
/-! ### levels as lists of sizes -/
abbrev Pr := Nat × Nat
def ex (ps : List Pr) : List Nat := ps.flatMap fun p => List.replicate p.2 p.1
theorem ex_nil : ex [] = [] := rfl
theorem ex_cons (p : Pr) (ps : List Pr) : ex (p :: ps) = List.replicate p.2 p.1 ++ ex ps := by simp [ex]
theorem ex_append (ps qs : List Pr) : ex (ps ++ qs) = ex ps ++ ex qs := by simp [ex]
theorem ex_one (p : Pr) : ex [p] = List.replicate p.2 p.1 := by simp [ex]
def nstep (acc : List Pr) (p : Pr) : List Pr :=
  match acc.getLast? with
  | some q => if q.1 = p.1 then acc.dropLast ++ [(p.1, q.2 + p.2)] else if 0 < p.2 then acc ++ [p] else acc
  | none => if 0 < p.2 then acc ++ [p] else acc
def norm (ps : List Pr) : List Pr := ps.foldl nstep []
def rle (xs : List Nat) : List Pr := xs.foldl (fun a s => nstep a (s, 1)) []
theorem last_split {α : Type} {xs : List α} {q : α} (h : xs.getLast? = some q) : xs = xs.dropLast ++ [q] := by
  cases xs with
  | nil => simp at h
  | cons x xs =>
    rw [List.getLast?_eq_some_getLast (by simp)] at h
    have := List.dropLast_concat_getLast (l := x :: xs) (by simp)
    rw [Option.some.inj h] at this
    exact this.symm
theorem nstep_nil (p : Pr) : nstep [] p = if 0 < p.2 then [p] else [] := rfl
theorem nstep_snoc (acc : List Pr) (q p : Pr) : nstep (acc ++ [q]) p = if q.1 = p.1 then acc ++ [(p.1, q.2 + p.2)] else if 0 < p.2 then acc ++ [q] ++ [p] else acc ++ [q] := by
  unfold nstep
  simp
theorem nstep_ind {P : List Pr → Prop} (h0 : P []) (h1 : ∀ acc q, P (acc ++ [q])) (acc : List Pr) : P acc := by
  cases e : acc.getLast? with
  | none => rw [List.getLast?_eq_none_iff] at e; rw [e]; exact h0
  | some q => rw [last_split e]; exact h1 _ _
theorem nstep_zero (acc : List Pr) (s : Nat) : nstep acc (s, 0) = acc := by
  refine nstep_ind (P := fun acc => nstep acc (s, 0) = acc) rfl (fun acc q => ?_) acc
  rw [nstep_snoc]
  by_cases h : q.1 = s
  · rw [if_pos h]
    obtain ⟨a, b⟩ := q
    simp at h
    subst h
    rfl
  · rw [if_neg h, if_neg (by simp)]
theorem nstep_add (acc : List Pr) (s t : Nat) : nstep (nstep acc (s, t)) (s, 1) = nstep acc (s, t + 1) := by
  cases t with
  | zero => rw [nstep_zero]
  | succ t =>
    refine nstep_ind (P := fun acc => nstep (nstep acc (s, t + 1)) (s, 1) = nstep acc (s, t + 1 + 1)) ?_ (fun acc q => ?_) acc
    · rw [nstep_nil, nstep_nil, if_pos (by simp), if_pos (by simp)]
      exact (nstep_snoc [] (s, t + 1) (s, 1)).trans (by simp)
    · rw [nstep_snoc, nstep_snoc]
      by_cases h : q.1 = s
      · rw [if_pos h, if_pos h, nstep_snoc, if_pos rfl]
        rfl
      · rw [if_neg h, if_neg h, if_pos (by simp), if_pos (by simp), nstep_snoc, if_pos rfl]
theorem nstep_rep (acc : List Pr) (s t : Nat) : (List.replicate t s).foldl (fun a s => nstep a (s, 1)) acc = nstep acc (s, t) := by
  induction t with
  | zero => rw [nstep_zero]; rfl
  | succ t ih => rw [List.replicate_succ', List.foldl_append, ih]; exact nstep_add acc s t
theorem norm_fold (ps : List Pr) (acc : List Pr) : ps.foldl nstep acc = (ex ps).foldl (fun a s => nstep a (s, 1)) acc := by
  induction ps generalizing acc with
  | nil => rfl
  | cons p ps ih =>
    obtain ⟨s, t⟩ := p
    rw [List.foldl_cons, ih, ex_cons, List.foldl_append, nstep_rep]
theorem norm_rle (ps : List Pr) : norm ps = rle (ex ps) := norm_fold ps []
theorem ex_nstep (acc : List Pr) (p : Pr) : ex (nstep acc p) = ex acc ++ List.replicate p.2 p.1 := by
  refine nstep_ind (P := fun acc => ex (nstep acc p) = ex acc ++ List.replicate p.2 p.1) ?_ (fun acc q => ?_) acc
  · rw [nstep_nil]
    by_cases h : 0 < p.2
    · rw [if_pos h, ex_one, ex_nil, List.nil_append]
    · rw [if_neg h, show p.2 = 0 by omega, ex_nil]; rfl
  · rw [nstep_snoc]
    by_cases h : q.1 = p.1
    · rw [if_pos h, ex_append, ex_append, ex_one, ex_one, List.append_assoc, ← h]
      simp
    · rw [if_neg h]
      by_cases h2 : 0 < p.2
      · rw [if_pos h2, ex_append, ex_one]
      · rw [if_neg h2, show p.2 = 0 by omega]; simp
theorem ex_rle (xs : List Nat) : ex (rle xs) = xs := by
  have key : ∀ (xs : List Nat) (acc : List Pr), ex (xs.foldl (fun a s => nstep a (s, 1)) acc) = ex acc ++ xs := by
    intro xs
    induction xs with
    | nil => intro acc; simp
    | cons x xs ih => intro acc; rw [List.foldl_cons, ih, ex_nstep]; simp
  exact key xs []
theorem rle_inj {xs ys : List Nat} (h : rle xs = rle ys) : xs = ys := by rw [← ex_rle xs, h, ex_rle]
theorem nstep_len (acc : List Pr) (p : Pr) : acc.length ≤ (nstep acc p).length ∧ (nstep acc p).length ≤ acc.length + 1 := by
  refine nstep_ind (P := fun acc => acc.length ≤ (nstep acc p).length ∧ (nstep acc p).length ≤ acc.length + 1) ?_ (fun acc q => ?_) acc
  · rw [nstep_nil]; split <;> simp
  · rw [nstep_snoc]
    split
    · simp
    · split <;> simp
theorem fold_len_le (ps : List Pr) (acc : List Pr) : acc.length ≤ (ps.foldl nstep acc).length ∧ (ps.foldl nstep acc).length ≤ acc.length + ps.length := by
  induction ps generalizing acc with
  | nil => simp
  | cons p ps ih =>
    have h1 := nstep_len acc p
    have h2 := ih (nstep acc p)
    rw [List.foldl_cons, List.length_cons]
    omega
theorem norm_len (ps : List Pr) : (norm ps).length ≤ ps.length := by have := (fold_len_le ps []).2; simpa [norm] using this
theorem rle_len_le (xs : List Nat) : (rle xs).length ≤ xs.length := by
  have : rle xs = norm (xs.map fun x => (x, 1)) := by
    unfold rle norm
    rw [List.foldl_map]
  rw [this]
  have := norm_len (xs.map fun x => (x, 1))
  simpa using this
theorem rle_take (xs : List Nat) (k : Nat) : (rle (xs.take k)).length ≤ (rle xs).length := by
  have e : rle xs = (xs.drop k).foldl (fun a s => nstep a (s, 1)) (rle (xs.take k)) := by
    unfold rle
    rw [← List.foldl_append, List.take_append_drop]
  have : ∀ (ys : List Nat) (acc : List Pr), acc.length ≤ (ys.foldl (fun a s => nstep a (s, 1)) acc).length := by
    intro ys
    induction ys with
    | nil => intro acc; simp
    | cons y ys ih => intro acc; exact Nat.le_trans (nstep_len acc (y, 1)).1 (ih _)
  rw [e]
  exact this _ _
/-- the pairs behind k pages -/
def dropE : List Pr → Nat → List Pr
  | [], _ => []
  | p :: ps, k => if k < p.2 then (p.1, p.2 - k) :: ps else dropE ps (k - p.2)
theorem ex_dropE : ∀ (ps : List Pr) (k : Nat), ex (dropE ps k) = (ex ps).drop k
  | [], k => by simp [dropE, ex_nil]
  | p :: ps, k => by
    unfold dropE
    rw [ex_cons]
    by_cases h : k < p.2
    · rw [if_pos h, ex_cons, List.drop_append_of_le_length (by simp; omega), List.drop_replicate]
    · have e : List.drop k (List.replicate p.2 p.1) = [] := List.drop_eq_nil_of_le (by rw [List.length_replicate]; omega)
      rw [if_neg h, ex_dropE ps, List.drop_append, e, List.nil_append, List.length_replicate]
theorem dropE_len : ∀ (ps : List Pr) (k : Nat), (dropE ps k).length ≤ ps.length
  | [], k => by simp [dropE]
  | p :: ps, k => by
    unfold dropE
    split
    · simp
    · have := dropE_len ps (k - p.2)
      simp; omega
theorem rle_drop (xs : List Nat) (k : Nat) : (rle (xs.drop k)).length ≤ (rle xs).length := by
  have e : rle (xs.drop k) = norm (dropE (rle xs) k) := by rw [norm_rle, ex_dropE, ex_rle]
  rw [e]
  exact Nat.le_trans (norm_len _) (dropE_len _ _)
theorem rle_append (xs ys : List Nat) : (rle (xs ++ ys)).length ≤ (rle xs).length + (rle ys).length := by
  have e : rle (xs ++ ys) = (rle ys).foldl nstep (rle xs) := by
    rw [norm_fold, ex_rle]
    unfold rle
    rw [List.foldl_append]
  rw [e]
  exact (fold_len_le _ _).2
theorem ex_len (ps : List Pr) : (ex ps).length = (ps.map (·.2)).sum := by
  induction ps with
  | nil => rfl
  | cons p ps ih => rw [ex_cons]; simp [ih]
theorem ex_sum (ps : List Pr) : (ex ps).sum = (ps.map fun p => p.1 * p.2).sum := by
  induction ps with
  | nil => rfl
  | cons p ps ih => rw [ex_cons, List.sum_append, ih]; simp [Nat.mul_comm]
theorem rle_mem {xs : List Nat} {p : Pr} (h : p ∈ rle xs) : 0 < p.2 ∧ p.2 ≤ xs.length ∧ p.1 ∈ xs := by
  have pos : ∀ (xs : List Nat) (acc : List Pr), (∀ p ∈ acc, 0 < p.2) → ∀ p ∈ xs.foldl (fun a s => nstep a (s, 1)) acc, 0 < p.2 := by
    intro xs
    induction xs with
    | nil => intro acc h; exact h
    | cons x xs ih =>
      intro acc h
      refine ih _ ?_
      refine nstep_ind (P := fun acc => (∀ p ∈ acc, 0 < p.2) → ∀ p ∈ nstep acc (x, 1), 0 < p.2) (fun _ p hp => ?_) (fun acc q h p hp => ?_) acc h
      · rw [nstep_nil, if_pos (by simp)] at hp
        rw [List.mem_singleton.mp hp]; simp
      · rw [nstep_snoc] at hp
        split at hp
        · rcases List.mem_append.mp hp with hp | hp
          · exact h p (List.mem_append_left _ hp)
          · rw [List.mem_singleton.mp hp]; simp
        · split at hp
          · rcases List.mem_append.mp hp with hp | hp
            · exact h p hp
            · rw [List.mem_singleton.mp hp]; simp
          · exact h p hp
  have hp := pos xs [] (by simp) p h
  refine ⟨hp, ?_, ?_⟩
  · have : p.2 ≤ (ex (rle xs)).length := by
      rw [ex_len]
      have : ∀ (ps : List Pr), p ∈ ps → p.2 ≤ (ps.map (·.2)).sum := by
        intro ps
        induction ps with
        | nil => intro h; cases h
        | cons q ps ih =>
          intro h
          rcases List.mem_cons.mp h with rfl | h
          · simp
          · have := ih h
            simp; omega
      exact this _ h
    rwa [ex_rle] at this
  · have : p.1 ∈ ex (rle xs) := by
      unfold ex
      rw [List.mem_flatMap]
      exact ⟨p, h, List.mem_replicate.mpr ⟨by omega, rfl⟩⟩
    rwa [ex_rle] at this
theorem ex_split {ps : List Pr} {i : Nat} {s t : Nat} (h : ps[i]? = some (s, t)) : ex ps = ex (ps.take i) ++ (List.replicate t s ++ ex (ps.drop (i + 1))) := by
  rw [← ex_cons (s, t), ← ex_append, ← dropA h, List.take_append_drop]
theorem part_at {ps : List Pr} {i s t k : Nat} (h : ps[i]? = some (s, t)) (h1 : (ex (ps.take i)).length ≤ k) (h2 : k - (ex (ps.take i)).length < t) :
    ex (ps.take i ++ [(s, k - (ex (ps.take i)).length)]) = (ex ps).take k ∧ (ex ps)[k]? = some s ∧ ex ((s, t - (k - (ex (ps.take i)).length) - 1) :: ps.drop (i + 1)) = (ex ps).drop (k + 1) := by
  have e := ex_split h
  rw [ex_append, ex_one, ex_cons, e]
  generalize ex (ps.take i) = A at *
  generalize ex (ps.drop (i + 1)) = B at *
  have e1 : A.take k = A := List.take_of_length_le h1
  have e2 : A.drop (k + 1) = [] := List.drop_eq_nil_of_le (by omega)
  refine ⟨?_, ?_, ?_⟩
  · rw [List.take_append, e1, List.take_append_of_le_length (by rw [List.length_replicate]; omega), List.take_replicate]
    congr 2
    show k - A.length = min (k - A.length) t
    omega
  · rw [List.getElem?_append_right h1, List.getElem?_append_left (by rw [List.length_replicate]; omega), List.getElem?_replicate, if_pos h2]
  · rw [List.drop_append, e2, List.nil_append, List.drop_append_of_le_length (by rw [List.length_replicate]; omega), List.drop_replicate]
    congr 2
    show t - (k - A.length) - 1 = t - (k + 1 - A.length)
    omega
/-- the page that has an item, and how many of its items stand ahead of it -/
def loc : List Nat → Nat → Nat × Nat
  | [], i => (0, i)
  | s :: xs, i => if i < s then (0, i) else ((loc xs (i - s)).1 + 1, (loc xs (i - s)).2)
theorem loc_rep_lt (s : Nat) (ys : List Nat) : ∀ (t i : Nat), i < s * t → loc (List.replicate t s ++ ys) i = (i / s, i % s)
  | 0, i, h => by simp at h
  | t + 1, i, h => by
    have h0 : 0 < s := Nat.pos_of_ne_zero fun z => by rw [z] at h; simp at h
    rw [List.replicate_succ, List.cons_append, loc]
    by_cases hi : i < s
    · rw [if_pos hi, Nat.div_eq_of_lt hi, Nat.mod_eq_of_lt hi]
    · rw [if_neg hi, loc_rep_lt s ys t (i - s) (by rw [Nat.mul_succ] at h; omega)]
      have h1 : i / s = (i - s) / s + 1 := by
        rw [Nat.div_eq i s, if_pos ⟨h0, by omega⟩]
      have h2 : i % s = (i - s) % s := Nat.mod_eq_sub_mod (by omega)
      rw [h1, h2]
theorem loc_rep_ge (s : Nat) (ys : List Nat) : ∀ (t i : Nat), s * t ≤ i → loc (List.replicate t s ++ ys) i = ((loc ys (i - s * t)).1 + t, (loc ys (i - s * t)).2)
  | 0, i, _ => by simp
  | t + 1, i, h => by
    rw [Nat.mul_succ] at h
    rw [List.replicate_succ, List.cons_append, loc, if_neg (by omega), loc_rep_ge s ys t (i - s) (by omega), Nat.mul_succ, show i - s - s * t = i - (s * t + s) by omega]
    exact Prod.ext rfl rfl
theorem loc_spec : ∀ {xs : List Nat} {i : Nat}, i < xs.sum → ∃ s, xs[(loc xs i).1]? = some s ∧ (loc xs i).2 < s ∧ (xs.take (loc xs i).1).sum + (loc xs i).2 = i
  | [], i, h => by simp at h
  | s :: xs, i, h => by
    unfold loc
    by_cases hi : i < s
    · rw [if_pos hi]; exact ⟨s, rfl, hi, by simp⟩
    · rw [if_neg hi]
      obtain ⟨u, h1, h2, h3⟩ := loc_spec (xs := xs) (i := i - s) (by simp at h; omega)
      refine ⟨u, by simpa using h1, h2, ?_⟩
      rw [List.take_succ_cons, List.sum_cons]
      simp only
      omega
theorem loc_lt {xs : List Nat} {i : Nat} (h : i < xs.sum) : (loc xs i).1 < xs.length := by
  obtain ⟨s, h1, _⟩ := loc_spec h
  exact (List.getElem?_eq_some_iff.mp h1).1
/-! data -/
def prD (p : Pr) : D := .tup [.int (p.1 : Int), .int (p.2 : Int)]
def isLv (d : D) (ps : List Pr) : Prop := d = .lst (ps.map prD) ∨ d = .tup (ps.map prD)
def Pok (ps : List Pr) : Prop := ∀ p ∈ ps, p.1 < 2 ^ 200 ∧ p.2 < 2 ^ 200
theorem Pok.at {ps : List Pr} (h : Pok ps) {i : Nat} {p : Pr} (e : ps[i]? = some p) : p.1 < 2 ^ 200 ∧ p.2 < 2 ^ 200 := h p (List.mem_of_getElem? e)
/-- numbers that are not great -/
def Sm (xs : List Nat) : Prop := xs.length < 2 ^ 200 ∧ ∀ x ∈ xs, x < 2 ^ 200
theorem Sm.pok {xs : List Nat} (h : Sm xs) : Pok (rle xs) := fun p hp => by
  obtain ⟨h1, h2, h3⟩ := rle_mem hp
  exact ⟨h.2 _ h3, Nat.lt_of_le_of_lt h2 h.1⟩
theorem mapD {α : Type} {f : α → D} {xs : List α} {i : Nat} {d : D} (h : (xs.map f)[i]? = some d) : ∃ x, xs[i]? = some x ∧ d = f x := by
  rw [List.getElem?_map] at h
  cases e : xs[i]? with
  | none => rw [e] at h; cases h
  | some x => rw [e] at h; exact ⟨x, rfl, (Option.some.inj h).symm⟩
theorem mulN {a b : Nat} (h0 : a < 2 ^ 200) (h : b < 2 ^ 200) : CMulW (a : Int) (b : Int) := mulW (by simpa using h0) (by simpa using h)
theorem divN {a : Int} {b : Nat} (h0 : 0 < b) (h : b < 2 ^ 200) : CDivW a (b : Int) := divW (by omega) (by exact_mod_cast h)
theorem nx_go {E : ZD} {S : SS} (h : E.nx S) : zNext E S := h
theorem forzM {α : Type} {e : α → D} {g : ZG} {tb : ZS} {E : ZD} (I : Nat → SS → Prop) {xs : List α} {S : SS} (h0 : I 0 S)
    (hs : ∀ i x S, xs[i]? = some x → I i S → ∀ K : SS → Prop, (∀ S', I (i + 1) S' → K S') → g (e x) S fun S1 => tb { nx := K, rt := E.rt, bk := E.nx, ct := K } S1) (hx : ∀ S, I xs.length S → E.nx S) : forz g tb (xs.map e) E S := by
  refine forz_ind I h0 (fun i d S hd hI K hK => ?_) (by rw [List.length_map]; exact hx)
  obtain ⟨x, h1, rfl⟩ := mapD hd
  exact hs i x S h1 hI K hK
/-- a comprehension without a condition -/
theorem lczA {α : Type} {e : α → D} {vs : List Nat} {g : ZG} {te : ZE} (k : α → D) (I : SS → Prop) {xs : List α} {acc : List D} {S : SS} {Q : List D → SS → Prop} (hS : I S) (hn : acc.length + xs.length ≤ sizeLine)
    (hs : ∀ x, x ∈ xs → ∀ S, I S → ∀ (A : D → SS → Prop), (∀ S', I S' → A (k x) S') → g (e x) S fun S1 => te S1 fun y S3 => A y (wipeS S3 vs))
    (hx : ∀ S', I S' → Q (acc ++ xs.map k) S') : lcz vs g zYes te (xs.map e) acc S Q := by
  induction xs generalizing acc S with
  | nil => exact (by simpa using hx S hS : Q acc S)
  | cons x xs ih =>
    have hl : acc.length < sizeLine := by simp at hn; omega
    have := hs x List.mem_cons_self S hS (fun y S3 => acc.length < sizeLine ∧ lcz vs g zYes te (xs.map e) (acc ++ [y]) S3 Q) fun S' hI => ⟨hl, ih hI (by simp at hn ⊢; omega) (fun z hz => hs z (List.mem_cons_of_mem _ hz)) fun S'' h'' => by have := hx S'' h''; simpa using this⟩
    have conv : ∀ (W : D → SS → Prop), (g (e x) S fun S1 => te S1 fun y S3 => W y (wipeS S3 vs)) → g (e x) S fun S1 => te S1 fun y S3 => W y (wipeS S3 vs) := fun W h => h
    have key : (fun S1 => zYes S1 fun b S2 => (b = true → te S2 fun y S3 => acc.length < sizeLine ∧ lcz vs g zYes te (xs.map e) (acc ++ [y]) (wipeS S3 vs) Q) ∧ (b = false → lcz vs g zYes te (xs.map e) acc (wipeS S2 vs) Q)) = fun S1 => te S1 fun y S3 => acc.length < sizeLine ∧ lcz vs g zYes te (xs.map e) (acc ++ [y]) (wipeS S3 vs) Q := by
      funext S1
      exact propext ⟨fun h => h.1 rfl, fun h => ⟨fun _ => h, fun z => (tfT z).elim⟩⟩
    show g (e x) S _
    rw [key]
    exact this
/-- .. with one -/
theorem lczF {α : Type} {e : α → D} {vs : List Nat} {g : ZG} {tt : ZT} {te : ZE} (k : α → Option D) (I : SS → Prop) {xs : List α} {acc : List D} {S : SS} {Q : List D → SS → Prop} (hS : I S) (hn : acc.length + xs.length ≤ sizeLine)
    (hs : ∀ x, x ∈ xs → ∀ S, I S → ∀ (A : D → SS → Prop) (B : SS → Prop), (∀ y S', k x = some y → I S' → A y S') → (∀ S', k x = none → I S' → B S') →
      g (e x) S fun S1 => tt S1 fun b S2 => (b = true → te S2 fun y S3 => A y (wipeS S3 vs)) ∧ (b = false → B (wipeS S2 vs)))
    (hx : ∀ S', I S' → Q (acc ++ xs.filterMap k) S') : lcz vs g tt te (xs.map e) acc S Q := by
  induction xs generalizing acc S with
  | nil => exact (by simpa using hx S hS : Q acc S)
  | cons x xs ih =>
    have hl : acc.length < sizeLine := by simp at hn; omega
    refine hs x List.mem_cons_self S hS (fun y S3 => acc.length < sizeLine ∧ lcz vs g tt te (xs.map e) (acc ++ [y]) S3 Q) (fun S2 => lcz vs g tt te (xs.map e) acc S2 Q) (fun y S' hy hI => ⟨hl, ?_⟩) (fun S' hy hI => ?_)
    · refine ih hI (by simp at hn ⊢; omega) (fun z hz => hs z (List.mem_cons_of_mem _ hz)) fun S'' h'' => ?_
      have := hx S'' h''
      rw [List.filterMap_cons, hy] at this
      simpa using this
    · refine ih hI (by simp at hn ⊢; omega) (fun z hz => hs z (List.mem_cons_of_mem _ hz)) fun S'' h'' => ?_
      have := hx S'' h''
      rw [List.filterMap_cons, hy] at this
      simpa using this
theorem natSum (ns : List Nat) : (ns.map fun (n : Nat) => (n : Int)).sum = ((ns.sum : Nat) : Int) := by
  induction ns with
  | nil => rfl
  | cons n ns ih => simp [ih]
theorem ints_nat {α : Type} (f : α → Nat) (xs : List α) : D.ints (xs.map fun x => D.int (f x : Int)) = some (xs.map fun x => (f x : Int)) := by
  have := Zz.ints_map (xs.map fun x => (f x : Int))
  rw [List.map_map] at this
  exact this
theorem gt23 : (2 : Nat) ^ 23 < sizeLine := by decide
/-! #### shared by all -/
/-- a rule's numbers -/
structure RN where
  lf : Nat
  ls : Nat
  inn : Nat
  ins : Nat
def RN.d (r : RN) : D := ruleD r.lf r.ls r.inn r.ins
def RN.ok (r : RN) : Prop := RuleOk r.lf r.ls r.inn r.ins
def RN.most (r : RN) (i : Nat) : Nat := if i = 0 then r.lf else r.inn
def RN.stays (r : RN) (i : Nat) : Nat := if i = 0 then r.ls else r.ins
theorem RN.ok.parts {r : RN} (h : r.ok) (i : Nat) : 3 ≤ r.most i ∧ r.most i ≤ 10 ^ 30 ∧ 2 ≤ r.stays i ∧ r.stays i ≤ r.most i - 1 ∧ r.most i + 1 ≤ 4 * r.stays i ∧ r.most i + 1 ≤ 4 * (r.most i + 1 - r.stays i) := by
  obtain ⟨h1, h2, h3, h4, h5, h6⟩ := h
  have h3 := of_decide_eq_true h3
  have h6 := of_decide_eq_true h6
  unfold RN.most RN.stays
  split
  · refine ⟨by omega, by exact_mod_cast h2, by omega, by omega, by omega, by omega⟩
  · refine ⟨by omega, by exact_mod_cast h5, by omega, by omega, by omega, by omega⟩
def lvP (ps : List Pr) : D := .lst (ps.map prD)
def lvT (xs : List Nat) : D := .tup ((rle xs).map prD)
def idx (r : RN) (L : List (List Nat)) : D := .obj "PageIndex" [("own_rule", r.d), ("own_levels", .tup (L.map lvT))]
theorem atL {L : List (List Nat)} {i : Nat} {xs : List Nat} {k : Int} (h : L[i]? = some xs) (hk : k = (i : Int)) : atI (L.map lvT) k = some (lvT xs) := by
  rw [hk]
  exact atI_nat (by rw [List.getElem?_map, h]; rfl)
/-- what the levels of an index keep -/
structure Ix (r : RN) (L : List (List Nat)) : Prop where
  ne : 0 < L.length
  ln : L.length ≤ 3000
  rl : ∀ (l : Nat) (xs : List Nat), L[l]? = some xs → (rle xs).length ≤ 2 ^ 21 ∧ xs.length ≤ 2 ^ 190 ∧ 0 < xs.length
  sz : ∀ (l : Nat) (xs : List Nat), L[l]? = some xs → ∀ x ∈ xs, x ≤ r.most l
  up : ∀ (l : Nat) (xs ys : List Nat), L[l]? = some xs → L[l + 1]? = some ys → ys.sum = xs.length
theorem Ix.sm {r : RN} {L : List (List Nat)} (h : Ix r L) (hr : r.ok) {l : Nat} {xs : List Nat} (e : L[l]? = some xs) : Sm xs := by
  obtain ⟨h1, h2, h3⟩ := h.rl _ _ e
  refine ⟨Nat.lt_of_le_of_lt h2 (by decide), fun x hx => ?_⟩
  have := h.sz _ _ e x hx
  have := (hr.parts l).2.1
  have : (10 : Nat) ^ 30 < 2 ^ 200 := by decide
  omega
def kindB : D → Bool
  | .str s => decide (s = "up") || decide (s = "down")
  | _ => false
def kS (b : Bool) : Str := if b then "up" else "down"
theorem sdu : seq "down" "up" = false := by rw [seq_eq]; decide +kernel
theorem suu : seq "up" "up" = true := by rw [seq_eq]; decide +kernel
theorem mulB {a b : Nat} {i j : Nat} (ha : a < 2 ^ i) (hb : b < 2 ^ j) (h : i + j ≤ 900000) : CMulW (a : Int) (b : Int) := by
  have k : ∀ (n m : Nat), n < 2 ^ m → n.log2 ≤ m := fun n m hn => by
    by_cases e : n = 0
    · rw [e]; exact Nat.zero_le _
    · exact Nat.le_of_lt ((Nat.log2_lt e).mpr hn)
  have := k _ _ ha
  have := k _ _ hb
  unfold CMulW
  simp only [Int.natAbs_natCast]
  omega
/-- checks of arguments, first things first -/
def ckR (d : D) (Ez : Str → Option (Str × D) → Prop) (P : RN → Prop) : Prop := (∃ r : RN, d = r.d ∧ r.ok ∧ P r) ∨ (((∃ n, d.ty = some n) ∨ ∃ fs, d = .obj "PageIndex" fs) ∧ Ez "InvalidRule" (some ("item", .non)))
def ckK (k : D) (Ez : Str → Option (Str × D) → Prop) (P : Bool → Prop) : Prop := isK k ∧ (∀ up, k = .str (kS up) → P up) ∧ (kindB k = false → Ez "InvalidKind" none)
def ckW (lo hi : Int) (nm : Str) (k : D) (Ez : Str → Option (Str × D) → Prop) (P : Nat → Prop) : Prop := isK k ∧ (∀ i : Nat, k = .int (i : Int) → lo ≤ i → (i : Int) ≤ hi → P i) ∧ (wholeD lo hi k = false → Ez nm none)
theorem kindB_str {k : D} (h : kindB k = true) : ∃ up, k = .str (kS up) := by
  unfold kindB at h
  split at h
  · rename_i s
    rw [Bool.or_eq_true] at h
    rcases h with h | h
    · exact ⟨true, by rw [of_decide_eq_true h]; rfl⟩
    · exact ⟨false, by rw [of_decide_eq_true h]; rfl⟩
  · cases h
theorem ckR.go {d : D} {Ez : Str → Option (Str × D) → Prop} {P : RN → Prop} {A : Prop} (h : ckR d Ez P) (f : ∀ r : RN, d = r.d → r.ok → P r → A) :
    (∃ fs, d = .obj "Rule" fs ∧ A) ∨ ((∃ n, d.ty = some n) ∨ ∃ fs, d = .obj "PageIndex" fs) ∧ Ez "InvalidRule" (some ("item", .non)) := by
  rcases h with ⟨r, rfl, hr, hP⟩ | h
  · exact .inl ⟨_, rfl, f r rfl hr hP⟩
  · exact .inr h
theorem ckK.go {k : D} {Ez : Str → Option (Str × D) → Prop} {P : Bool → Prop} {A : Prop} (h : ckK k Ez P) (f : ∀ up, k = .str (kS up) → P up → A) : isK k ∧ (kindB k = true → A) ∧ (kindB k = false → Ez "InvalidKind" none) :=
  ⟨h.1, fun z => by obtain ⟨up, e⟩ := kindB_str z; exact f up e (h.2.1 up e), h.2.2⟩
theorem ckW.go {lo hi : Int} {nm : Str} {k : D} {Ez : Str → Option (Str × D) → Prop} {P : Nat → Prop} {A : Prop} (h : ckW lo hi nm k Ez P) (h0 : 0 ≤ lo) (f : ∀ i : Nat, k = .int (i : Int) → lo ≤ i → (i : Int) ≤ hi → P i → A) : isK k ∧ (wholeD lo hi k = true → A) ∧ (wholeD lo hi k = false → Ez nm none) := by
  refine ⟨h.1, fun z => ?_, h.2.2⟩
  obtain ⟨i, e, h1, h2⟩ := whole_int z
  have e' : k = .int ((i.toNat : Nat) : Int) := by rw [e, Int.toNat_of_nonneg (by omega)]
  exact f i.toNat e' (by omega) (by omega) (h.2.1 _ e' (by omega) (by omega))
theorem kindB_kS (up : Bool) : kindB (.str (kS up)) = true := by cases up <;> decide +kernel
def badR (d : D) : Prop := (∃ n, d.ty = some n) ∨ ∃ fs, d = .obj "PageIndex" fs
def badK (k : D) : Prop := isK k ∧ kindB k = false
def badW (lo hi : Int) (k : D) : Prop := isK k ∧ wholeD lo hi k = false
section
variable {d k n l d' : D} {E : Str → Option (Str × D) → Prop}
theorem ck_badR {P : RN → Prop} (h : badR d) (e : E "InvalidRule" (some ("item", .non))) : ckR d E P := .inr ⟨h, e⟩
theorem ck_okR {P : RN → Prop} {r : RN} (h : r.ok) (p : P r) : ckR r.d E P := .inl ⟨r, rfl, h, p⟩
theorem ck_badK {P : Bool → Prop} (h : badK k) (e : E "InvalidKind" none) : ckK k E P := ⟨h.1, fun up z => (by rw [z] at h; have h2 := h.2; rw [kindB_kS] at h2; cases h2), fun _ => e⟩
theorem kS_inj {a b : Bool} (h : D.str (kS a) = D.str (kS b)) : a = b := by
  have h : kS a = kS b := by injection h
  revert h
  cases a <;> cases b <;> decide +kernel
theorem ck_okK {P : Bool → Prop} {up : Bool} (p : P up) : ckK (.str (kS up)) E P := ⟨⟨_, rfl⟩, fun u z => by rw [← kS_inj z]; exact p, fun z => (by rw [kindB_kS] at z; cases z)⟩
theorem ck_badW {P : Nat → Prop} {lo hi : Int} {nm : Str} (h : badW lo hi k) (e : E nm none) : ckW lo hi nm k E P := by
  refine ⟨h.1, fun i z h1 h2 => ?_, fun _ => e⟩
  rw [z] at h
  have h := h.2
  simp only [wholeD, Bool.and_eq_false_iff, decide_eq_false_iff_not] at h
  omega
theorem ck_okW {P : Nat → Prop} {lo hi : Int} {nm : Str} {i : Nat} (h1 : lo ≤ i) (h2 : (i : Int) ≤ hi) (p : P i) : ckW lo hi nm (.int (i : Int)) E P := by
  refine ⟨⟨_, rfl⟩, fun j z _ _ => ?_, fun z => ?_⟩
  · have : i = j := by injection z with z; omega
    rw [← this]; exact p
  · simp only [wholeD, Bool.and_eq_false_iff, decide_eq_false_iff_not] at z
    omega
end
/-- a level as a list or as a tuple of pairs -/
def lvQ (q : Bool × List Pr) : D := if q.1 then .tup (q.2.map prD) else .lst (q.2.map prD)
theorem isLv_Q (q : Bool × List Pr) : isLv (lvQ q) q.2 := by
  obtain ⟨b, ps⟩ := q
  cases b
  · exact .inl rfl
  · exact .inr rfl
theorem map_lvQ (PS : List (List Pr)) : PS.map lvP = (PS.map fun ps => (false, ps)).map lvQ := by rw [List.map_map]; rfl
def ent (L : List (List Nat)) : Nat := (L.headD []).sum
/-! #### is_int -/
def sp_is_int : ZSp := fun ds Q _ => ∃ d n, ds = [d] ∧ d.ty = some n ∧ Q (.sh (.bl d.isI))
def t_is_int : ZS := zRet (zAndV (zIsi "int" (zVarV 0)) (zNotV (zIsi "bool" (zVarV 0))))
theorem dv_is_int {Pg : Program} {w : World} {K : PySem.W.Frag} {mg : Str → Option Value} {base : Heap} {f : Addr} (G : Facts mg) (O : Objs K mg) (cdv : Value) (A : Around) (outer : List Env) (s : Shared) (H : Hp) (E : XK) (Z0 : Zc) (nb : NoBag (Sup Z0)) (C : Cd 0 (cxOf (L2.CX Pg w) Pg w K mg base N_is_int "is_int" (defScope s_is_int) f cdv A outer s H E) (Sup Z0)) :
    PSsd (cxOf (L2.CX Pg w) Pg w K mg base N_is_int "is_int" (defScope s_is_int) f cdv A outer s H E) (Sup Z0) (defBody s_is_int) t_is_int :=
  (ssd_one (sd_ret (pd_and (pd_isi (T := "int") (by rfl) G.b_isinstance (by rfl) G.b_int rfl (pv_var 0) (by decide)) (pd_one (pd_not (pd_isi (T := "bool") (by rfl) G.b_isinstance (by rfl) G.b_bool rfl (pv_var 0) (by decide)))))))
--% reads
theorem ln_is_int : ∀ ds Qz Ez, sp_is_int ds Qz Ez → ds.length = 1 := by
  rintro ds Q E ⟨d, n, rfl, _⟩
  rfl
theorem rd_is_int : ∀ ds Qz (Ez : Str → Option (Str × D) → Prop), sp_is_int ds Qz Ez → t_is_int { nx := fun _ => Qz (.sh .non), rt := fun r _ => Qz r } (startS N_is_int ds) := by
  rintro ds Q E ⟨d, n, rfl, h, q⟩
  cases d <;> first | (cases h; done) | skip
  all_goals
    nofun
    exact q
theorem ok_is_int {Pg : Program} {w : World} {K : PySem.W.Frag} {mg : Str → Option Value} {base : Heap} {f : Addr} {fd : FuncData} (Fu : Fun K "is_int" "is_int" s_is_int f fd) (G : Facts mg) (O : Objs K mg) : FnP Pg w K mg base 1 f fd ["value"] (spZ K mg sp_is_int) :=
  okZ (N := N_is_int) (t := fun _ => t_is_int) Fu sc_is_int ln_is_int (fun cdv A outer s H E Z0 nb C => dv_is_int G O cdv A outer s H E Z0 nb C) rd_is_int
/-! #### is_whole -/
def sp_is_whole : ZSp := fun ds Q _ => ∃ d n lo hi, ds = [d, .int lo, .int hi] ∧ d.ty = some n ∧ Q (.sh (.bl (wholeD lo hi d)))
def t_is_whole : ZS := zRet (zAndV (zCall sp_is_int eF (zCons (zVar 0) (zNil))) (zChain fLe fLe (zVar 1) (zVar 0) (zVar 2)))
theorem dv_is_whole {Pg : Program} {w : World} {K : PySem.W.Frag} {mg : Str → Option Value} {base : Heap} {f : Addr} (G : Facts mg) (O : Objs K mg) (D_is_int : Df Pg w K mg base 1 "is_int" (spZ K mg sp_is_int)) (cdv : Value) (A : Around) (outer : List Env) (s : Shared) (H : Hp) (E : XK) (Z0 : Zc) (nb : NoBag (Sup Z0)) (C : Cd 1 (cxOf (L2.CX Pg w) Pg w K mg base N_is_whole "is_whole" (defScope s_is_whole) f cdv A outer s H E) (Sup Z0)) :
    PSsd (cxOf (L2.CX Pg w) Pg w K mg base N_is_whole "is_whole" (defScope s_is_whole) f cdv A outer s H E) (Sup Z0) (defBody s_is_whole) t_is_whole :=
  (ssd_one (sd_ret (pd_and (dd_call D_is_int C (by rfl) eF ez0 (ad_cons (pd_var 0 (nb.s 0)) ad_nil)) (pd_one (pd_chain op_le cz_le op_le cz_le (pd_var 1 (nb.s 1)) (pd_var 0 (nb.s 0)) (pd_var 2 (nb.s 2)))))))
--% reads
theorem ln_is_whole : ∀ ds Qz Ez, sp_is_whole ds Qz Ez → ds.length = 3 := by
  rintro ds Q E ⟨d, n, lo, hi, rfl, _⟩
  rfl
theorem rd_is_whole : ∀ ds Qz (Ez : Str → Option (Str × D) → Prop), sp_is_whole ds Qz Ez → t_is_whole { nx := fun _ => Qz (.sh .non), rt := fun r _ => Qz r } (startS N_is_whole ds) := by
  rintro ds Q E ⟨d, n, lo, hi, rfl, h, q⟩
  nofun
  refine ⟨d, n, rfl, h, ?_⟩
  cases d <;> first | (cases h; done) | skip
  all_goals
    nofun
    first
      | exact q
      | (refine ⟨fun y => ?_, fun y => ?_⟩
         · nofun
           simpa [wholeD, asc y] using q
         · simpa [wholeD, nac y] using q)
theorem ok_is_whole {Pg : Program} {w : World} {K : PySem.W.Frag} {mg : Str → Option Value} {base : Heap} {f : Addr} {fd : FuncData} (Fu : Fun K "is_whole" "is_whole" s_is_whole f fd) (G : Facts mg) (O : Objs K mg) (D_is_int : Df Pg w K mg base 1 "is_int" (spZ K mg sp_is_int)) : FnP Pg w K mg base 2 f fd ["value", "low", "high"] (spZ K mg sp_is_whole) :=
  okZ (N := N_is_whole) (t := fun _ => t_is_whole) Fu sc_is_whole ln_is_whole (fun cdv A outer s H E Z0 nb C => dv_is_whole G O D_is_int cdv A outer s H E Z0 nb C) rd_is_whole
/-! #### normal_level -/
theorem gd_pr {p : Pr} (h : p.1 < 2 ^ 200 ∧ p.2 < 2 ^ 200) : (prD p).gd = true := by
  have h1 : ((p.1 : Int)).natAbs < 10 ^ 200 := by have := h.1; simp only [Int.natAbs_natCast]; omega
  have h2 : ((p.2 : Int)).natAbs < 10 ^ 200 := by have := h.2; simp only [Int.natAbs_natCast]; omega
  unfold prD
  simp only [D.gd, D.gds, Bool.and_true, Bool.and_eq_true, decide_eq_true_eq]
  exact ⟨h1, h2⟩
theorem gd_prs {ps : List Pr} (h : Pok ps) : D.gds (ps.map prD) = true := gds_iff.mpr fun x hx => by
  obtain ⟨p, hp, rfl⟩ := List.mem_map.mp hx
  exact gd_pr (h p hp)
theorem dep_prs (ps : List Pr) : D.deps (ps.map prD) ≤ 1 := deps_le fun x hx => by
  obtain ⟨p, hp, rfl⟩ := List.mem_map.mp hx
  exact Nat.le_of_ble_eq_true rfl
theorem lst_nil {ps : List Pr} (h : Pok ps) : ∃ p q, (D.lst (ps.map prD)).py = some p ∧ (D.lst []).py = some q ∧ SeqAt.shaped p = true ∧ SeqAt.shaped q = true ∧ PyData.eqv p q = ps.isEmpty := by
  obtain ⟨p, q, h1, h2, h3, h4, h5, h6⟩ := eqP_gd (d := .lst (ps.map prD)) (e := .lst []) (by show D.gds (ps.map prD) = true; exact gd_prs h) rfl (by have := dep_prs ps; show D.deps (ps.map prD) + 1 ≤ 64; omega) (by decide)
  refine ⟨p, q, h1, h2, h3, h4, ?_⟩
  cases ps with
  | nil => exact h5 rfl
  | cons a ps => exact h6 fun e => by cases e
theorem Sm.take {ps : List Pr} (h : Sm (ex ps)) (i : Nat) : Sm (ex (ps.take i)) := by
  have e : ex ps = ex (ps.take i) ++ ex (ps.drop i) := by rw [← ex_append, List.take_append_drop]
  rw [e] at h
  refine ⟨by have := h.1; rw [List.length_append] at this; omega, fun x hx => h.2 x (List.mem_append_left _ hx)⟩
theorem atI_m1 {α : Type} {xs : List α} {x : α} (h : xs.getLast? = some x) : atI xs (-1) = some x := by
  rw [last_split h]
  exact atI_last _ _
theorem ixN_m1 {α : Type} (xs : List α) (x : α) : ixN (xs ++ [x]).length (-1) = some xs.length := by
  unfold ixN
  rw [if_neg (by decide), if_pos (by rw [List.length_append]; simp; omega)]
  congr 1
  rw [List.length_append]
  simp
  omega
def sp_normal_level : ZSp := fun ds Q _ => ∃ d ps, ds = [d] ∧ isLv d ps ∧ ps.length ≤ 2 ^ 23 ∧ Sm (ex ps) ∧ Q (.ow ((rle (ex ps)).map prD))
def t_normal_level : ZS := zSeq (zSetF (zLst (zNil)) 1) (
  zSeq (zFor (zItS (zVar 0)) (gzTup 2 (gzCons (gzName 2) (gzCons (gzName 3) (gzNil)))) (zIfS (zAndT (zCmpVT fNe (zVarV 1) (zShV (zFD (zLst (zNil))))) (zCmpT fEq (zIx (zShV (zIx (zVarV 1) (zC (.int (-1))))) (zC (.int 0))) (zVar 2))) (zSetIx 1 (zTup (zCons (zVar 2) (zCons (zAdd (zIx (zShV (zIx (zVarV 1) (zC (.int (-1))))) (zC (.int 1))) (zVar 3)) (zNil)))) (zC (.int (-1)))) (zIfS (zCmpT fGt (zVar 3) (zC (.int 0))) (zDrop (zLM 1 fApp (zCons (zTup (zCons (zVar 2) (zCons (zVar 3) (zNil)))) (zNil)))) (zNext)))) (
  zRetO 1))
theorem dv_normal_level {Pg : Program} {w : World} {K : PySem.W.Frag} {mg : Str → Option Value} {base : Heap} {f : Addr} (G : Facts mg) (O : Objs K mg) (cdv : Value) (A : Around) (outer : List Env) (s : Shared) (H : Hp) (E : XK) (Z0 : Zc) (nb : NoBag (Sup Z0)) (C : Cd 0 (cxOf (L2.CX Pg w) Pg w K mg base N_normal_level "normal_level" (defScope s_normal_level) f cdv A outer s H E) (Sup Z0)) :
    PSsd (cxOf (L2.CX Pg w) Pg w K mg base N_normal_level "normal_level" (defScope s_normal_level) f cdv A outer s H E) (Sup Z0) (defBody s_normal_level) t_normal_level :=
  (ssd_cons (sd_setF (i := 1) (nb.s 1) C.nd (pf_lst ad_nil))
    (ssd_cons (sd_for C.po C.calm (id_seq (pd_var 0 (nb.s 0))) (gd_tup C.calm (gsd_cons (gd_name (i := 2) (nb.s 2) C.nd) (gsd_cons (gd_name (i := 3) (nb.s 3) C.nd) gsd_nil))) (ssd_one (sd_if (wd_and (pt_cmpV (op_neA C.hu) cz_ne (pv_var 1) (pf_lst ad_nil).pd.pv) (wd_and1 (pt_cmp (op_eqA C.hu) cz_eq (pd_ix (pd_ix (pv_var 1) pd_negc).pv pd_int) (pd_var 2 (nb.s 2))))).pt (ssd_one (sd_setIx (i := 1) (pd_tup (ad_cons (pd_var 2 (nb.s 2)) (ad_cons (pd_add (pd_ix (pd_ix (pv_var 1) pd_negc).pv pd_int) (pd_var 3 (nb.s 3))) ad_nil))) pd_negc)) (ssd_one (sd_if (pt_cmp op_gt cz_gt (pd_var 3 (nb.s 3)) pd_int) (ssd_one (sd_expr (pd_lm (i := 1) PySem.F.slot_list_append PySem.F.type_list_append mt_append mz_append (ad_cons (pd_tup (ad_cons (pd_var 2 (nb.s 2)) (ad_cons (pd_var 3 (nb.s 3)) ad_nil))) ad_nil)))) ssd_nil)))))
    (ssd_one (sd_retO (i := 1) (nb.s 1)))))
--% reads
theorem ln_normal_level : ∀ ds Qz Ez, sp_normal_level ds Qz Ez → ds.length = 1 := by
  rintro ds Q E ⟨_, _, rfl, _⟩
  rfl
theorem rd_normal_level : ∀ ds Qz (Ez : Str → Option (Str × D) → Prop), sp_normal_level ds Qz Ez → t_normal_level { nx := fun _ => Qz (.sh .non), rt := fun r _ => Qz r } (startS N_normal_level ds) := by
  rintro ds Q E ⟨d, ps, rfl, hd, hl, hm, q⟩
  rcases hd with rfl | rfl
  all_goals
    and_intros
    refine forz_ind (fun i S => ∃ d x y, S = [.sh d, .ow (((ps.take i).foldl nstep []).map prD), x, y]) ⟨_, _, _, rfl⟩ ?_ ?_
    · rintro i e S he ⟨d, x, y, rfl⟩ K hK
      obtain ⟨⟨s, t⟩, hp, rfl⟩ := mapD he
      have hnext : (ps.take (i + 1)).foldl nstep [] = nstep ((ps.take i).foldl nstep []) (s, t) := by
        rw [List.take_succ, hp, List.foldl_append]; rfl
      have hpok : Pok ((ps.take i).foldl nstep []) := by
        rw [show (ps.take i).foldl nstep [] = norm (ps.take i) from rfl, norm_rle]
        exact (hm.take i).pok
      have hlen : ((ps.take i).foldl nstep []).length < sizeLine := by
        have := norm_len (ps.take i)
        rw [List.length_take] at this
        have h2 : (2 : Nat) ^ 23 < sizeLine := by decide
        show (norm (ps.take i)).length < _
        omega
      generalize hacc : (ps.take i).foldl nstep [] = acc at *
      rw [hnext] at hK
      and_intros
      obtain ⟨u1, u2, g1, g2, g3, g4, g5⟩ := lst_nil hpok
      refine ⟨u1, u2, g1, g2, g3, g4, ?_⟩
      rw [g5]
      by_cases z : acc = []
      rotate_left
      · rw [show acc.isEmpty = false by simpa using z]
        and_intros
        obtain ⟨acc', ⟨s', t'⟩, rfl⟩ : ∃ acc' l, acc = acc' ++ [l] := by
          cases h : acc.getLast? with
          | none => exact absurd (List.getLast?_eq_none_iff.mp h) z
          | some l => exact ⟨_, _, last_split h⟩
        rw [nstep_snoc] at hK
        have e1 : ((acc' ++ [(s', t')]).map prD) = acc'.map prD ++ [prD (s', t')] := by rw [List.map_append]; rfl
        rw [e1]
        refine ⟨_, atI_last _ _, ?_⟩
        and_intros
        refine ⟨fun y => ?_, fun y => ?_⟩
        · have y := asc y
          have y' : s' = s := by omega
          subst y'
          rw [if_pos rfl] at hK
          and_intros
          refine ⟨_, atI_last _ _, ?_⟩
          and_intros
          refine ⟨_, ixN_m1 _ _, ?_⟩
          refine hK _ ⟨d, .sh (.int s'), .sh (.int t), ?_⟩
          have e2 : (acc'.map prD ++ [prD (s', t')]).set (acc'.map prD).length (.tup [.int s', .int (t' + t)]) = (acc' ++ [(s', t' + t)]).map prD := by
            rw [List.set_append_right _ _ (Nat.le_refl _), Nat.sub_self, List.map_append]
            rfl
          exact congrArg (fun z => [Sl.sh d, Sl.ow z, .sh (.int s'), .sh (.int t)]) e2
        · have y := nac y
          rw [if_neg (show ¬ s' = s by omega)] at hK
          and_intros
          refine ⟨fun w => ?_, fun w => ?_⟩
          · have w := asc w
            rw [if_pos (show 0 < t by omega)] at hK
            and_intros
            refine ⟨by rw [← e1, List.length_map]; exact hlen, ?_⟩
            exact hK _ ⟨d, _, _, by rw [List.map_append, e1]; rfl⟩
          · have w := nac w
            rw [if_neg (show ¬ 0 < t by omega)] at hK
            exact hK _ ⟨d, _, _, by rw [e1]⟩
      · subst z
        rw [nstep_nil] at hK
        and_intros
        refine ⟨fun w => ?_, fun w => ?_⟩
        · have w := asc w
          rw [if_pos (show 0 < t by omega)] at hK
          and_intros
          exact hK _ ⟨d, _, _, rfl⟩
        · have w := nac w
          rw [if_neg (show ¬ 0 < t by omega)] at hK
          exact hK _ ⟨d, _, _, rfl⟩
    · rintro S ⟨d, x, y, rfl⟩
      rw [List.length_map, List.take_length]
      and_intros
      rw [show ps.foldl nstep [] = norm ps from rfl, norm_rle]
      exact q
theorem ok_normal_level {Pg : Program} {w : World} {K : PySem.W.Frag} {mg : Str → Option Value} {base : Heap} {f : Addr} {fd : FuncData} (Fu : Fun K "normal_level" "normal_level" s_normal_level f fd) (G : Facts mg) (O : Objs K mg) : FnP Pg w K mg base 1 f fd ["pairs"] (spZ K mg sp_normal_level) :=
  okZ (N := N_normal_level) (t := fun _ => t_normal_level) Fu sc_normal_level ln_normal_level (fun cdv A outer s H E Z0 nb C => dv_normal_level G O cdv A outer s H E Z0 nb C) rd_normal_level
/-! #### page_count -/
def sp_page_count : ZSp := fun ds Q _ => ∃ d ps, ds = [d] ∧ isLv d ps ∧ ps.length ≤ 2 ^ 23 ∧ Q (.sh (.int ((ex ps).length : Int)))
def t_page_count : ZS := zRet (zBlt fSum (zCons (zFD (zLc [1, 2] (zItS (zVar 0)) (gzTup 2 (gzCons (gzName 1) (gzCons (gzName 2) (gzNil)))) (zYes) (zVar 2))) (zNil)))
theorem dv_page_count {Pg : Program} {w : World} {K : PySem.W.Frag} {mg : Str → Option Value} {base : Heap} {f : Addr} (G : Facts mg) (O : Objs K mg) (cdv : Value) (A : Around) (outer : List Env) (s : Shared) (H : Hp) (E : XK) (Z0 : Zc) (nb : NoBag (Sup Z0)) (C : Cd 0 (cxOf (L2.CX Pg w) Pg w K mg base N_page_count "page_count" (defScope s_page_count) f cdv A outer s H E) (Sup Z0)) :
    PSsd (cxOf (L2.CX Pg w) Pg w K mg base N_page_count "page_count" (defScope s_page_count) f cdv A outer s H E) (Sup Z0) (defBody s_page_count) t_page_count :=
  (ssd_one (sd_ret (pd_blt bz_sum (cr_sum C.calm) (by rfl) G.b_sum rfl (ad_cons (pf_lc (own := [("size", 1), ("times", 2)]) C.calm C.nd nb.l (id_seq (pd_var 0 (nb.s 0))) (blkOk_by (N := N_page_count) (sc := defScope s_page_count) (by decide +kernel)) (by decide) (fun _ _ _ _ _ => (gd_tup C.blk.calm (gsd_cons (gd_name (i := 1) (nb.pin.s 1) C.blk.nd) (gsd_cons (gd_name (i := 2) (nb.pin.s 2) C.blk.nd) gsd_nil)))) (fun _ _ _ _ _ => tsd_nil) (fun _ _ _ _ _ => (pd_var 2 (nb.pin.s 2)))).pd ad_nil))))
--% reads
theorem ln_page_count : ∀ ds Qz Ez, sp_page_count ds Qz Ez → ds.length = 1 := by
  rintro ds Q E ⟨_, _, rfl, _⟩
  rfl
theorem rd_page_count : ∀ ds Qz (Ez : Str → Option (Str × D) → Prop), sp_page_count ds Qz Ez → t_page_count { nx := fun _ => Qz (.sh .non), rt := fun r _ => Qz r } (startS N_page_count ds) := by
  rintro ds Q E ⟨d, ps, rfl, hd, hl, q⟩
  have := gt23
  rcases hd with rfl | rfl
  all_goals
    and_intros
    refine ⟨⟨trivial, trivial, trivial⟩, lczA (fun p => .int (p.2 : Int)) (fun S => ∃ d, S = [.sh d, .un, .un]) ⟨_, rfl⟩ (by simp; omega) ?_ ?_⟩
    · rintro ⟨s, t⟩ hp S ⟨d, rfl⟩ A hA
      and_intros
      exact hA _ ⟨_, rfl⟩
    · rintro S ⟨d, rfl⟩
      rw [List.nil_append]
      and_intros
      refine ⟨_, ints_nat _ _, ?_⟩
      and_intros
      rw [show (ps.map fun x => (x.2 : Int)) = (ps.map (·.2)).map (fun n : Nat => (n : Int)) by rw [List.map_map]; rfl, natSum, ← ex_len]
      exact q
theorem ok_page_count {Pg : Program} {w : World} {K : PySem.W.Frag} {mg : Str → Option Value} {base : Heap} {f : Addr} {fd : FuncData} (Fu : Fun K "page_count" "page_count" s_page_count f fd) (G : Facts mg) (O : Objs K mg) : FnP Pg w K mg base 1 f fd ["level"] (spZ K mg sp_page_count) :=
  okZ (N := N_page_count) (t := fun _ => t_page_count) Fu sc_page_count ln_page_count (fun cdv A outer s H E Z0 nb C => dv_page_count G O cdv A outer s H E Z0 nb C) rd_page_count
/-! #### item_count -/
def sp_item_count : ZSp := fun ds Q _ => ∃ d ps, ds = [d] ∧ isLv d ps ∧ ps.length ≤ 2 ^ 23 ∧ Pok ps ∧ Q (.sh (.int ((ex ps).sum : Int)))
def t_item_count : ZS := zRet (zBlt fSum (zCons (zFD (zLc [1, 2] (zItS (zVar 0)) (gzTup 2 (gzCons (gzName 1) (gzCons (gzName 2) (gzNil)))) (zYes) (zMul (zVar 1) (zVar 2)))) (zNil)))
theorem dv_item_count {Pg : Program} {w : World} {K : PySem.W.Frag} {mg : Str → Option Value} {base : Heap} {f : Addr} (G : Facts mg) (O : Objs K mg) (cdv : Value) (A : Around) (outer : List Env) (s : Shared) (H : Hp) (E : XK) (Z0 : Zc) (nb : NoBag (Sup Z0)) (C : Cd 0 (cxOf (L2.CX Pg w) Pg w K mg base N_item_count "item_count" (defScope s_item_count) f cdv A outer s H E) (Sup Z0)) :
    PSsd (cxOf (L2.CX Pg w) Pg w K mg base N_item_count "item_count" (defScope s_item_count) f cdv A outer s H E) (Sup Z0) (defBody s_item_count) t_item_count :=
  (ssd_one (sd_ret (pd_blt bz_sum (cr_sum C.calm) (by rfl) G.b_sum rfl (ad_cons (pf_lc (own := [("size", 1), ("times", 2)]) C.calm C.nd nb.l (id_seq (pd_var 0 (nb.s 0))) (blkOk_by (N := N_item_count) (sc := defScope s_item_count) (by decide +kernel)) (by decide) (fun _ _ _ _ _ => (gd_tup C.blk.calm (gsd_cons (gd_name (i := 1) (nb.pin.s 1) C.blk.nd) (gsd_cons (gd_name (i := 2) (nb.pin.s 2) C.blk.nd) gsd_nil)))) (fun _ _ _ _ _ => tsd_nil) (fun _ _ _ _ _ => (pd_mul (pd_var 1 (nb.pin.s 1)) (pd_var 2 (nb.pin.s 2))))).pd ad_nil))))
--% reads
theorem ln_item_count : ∀ ds Qz Ez, sp_item_count ds Qz Ez → ds.length = 1 := by
  rintro ds Q E ⟨_, _, rfl, _⟩
  rfl
theorem rd_item_count : ∀ ds Qz (Ez : Str → Option (Str × D) → Prop), sp_item_count ds Qz Ez → t_item_count { nx := fun _ => Qz (.sh .non), rt := fun r _ => Qz r } (startS N_item_count ds) := by
  rintro ds Q E ⟨d, ps, rfl, hd, hl, hk, q⟩
  have := gt23
  rcases hd with rfl | rfl
  all_goals
    and_intros
    refine ⟨⟨trivial, trivial, trivial⟩, lczA (fun p => .int ((p.1 * p.2 : Nat) : Int)) (fun S => ∃ d, S = [.sh d, .un, .un]) ⟨_, rfl⟩ (by simp; omega) ?_ ?_⟩
    · rintro ⟨s, t⟩ hp S ⟨d, rfl⟩ A hA
      and_intros
      refine ⟨mulN (hk _ hp).1 (hk _ hp).2, ?_⟩
      and_intros
      have := hA _ ⟨d, rfl⟩
      simp only [Int.natCast_mul] at this
      exact this
    · rintro S ⟨d, rfl⟩
      rw [List.nil_append]
      and_intros
      refine ⟨_, ints_nat _ _, ?_⟩
      and_intros
      rw [show (ps.map fun x => ((x.1 * x.2 : Nat) : Int)) = (ps.map fun x => x.1 * x.2).map (fun n : Nat => (n : Int)) by rw [List.map_map]; rfl, natSum, ← ex_sum]
      exact q
theorem ok_item_count {Pg : Program} {w : World} {K : PySem.W.Frag} {mg : Str → Option Value} {base : Heap} {f : Addr} {fd : FuncData} (Fu : Fun K "item_count" "item_count" s_item_count f fd) (G : Facts mg) (O : Objs K mg) : FnP Pg w K mg base 1 f fd ["level"] (spZ K mg sp_item_count) :=
  okZ (N := N_item_count) (t := fun _ => t_item_count) Fu sc_item_count ln_item_count (fun cdv A outer s H E Z0 nb C => dv_item_count G O cdv A outer s H E Z0 nb C) rd_item_count
/-! #### parted -/
def sp_parted : ZSp := fun ds Q _ => ∃ (d : D) (xs : List Nat) (k s : Nat), ds = [d, .int (k : Int)] ∧ isLv d (rle xs) ∧ (rle xs).length ≤ 2 ^ 22 ∧ Sm xs ∧ xs[k]? = some s ∧ Q (.sh (.tup [.lst ((rle (xs.take k)).map prD), .int (s : Int), .lst ((rle (xs.drop (k + 1))).map prD)]))
def t_parted : ZS := zSeq (zSet (zVar 1) 2) (
  zSeq (zFor (zItEA (zVar 0)) (gzTup 2 (gzCons (gzName 3) (gzCons (gzTup 2 (gzCons (gzName 4) (gzCons (gzName 5) (gzNil)))) (gzNil)))) (zSeq (zIfS (zCmpT fLt (zVar 2) (zVar 5)) (zSeq (zSet (zFD (zLst (zStar (zShV (zSliceA (zVarV 0) zNoPart (zPart (zVar 3)))) (zCons (zTup (zCons (zVar 4) (zCons (zVar 2) (zNil)))) (zNil))))) 6) (
  zRet (zTup (zCons (zCall sp_normal_level eF (zCons (zVar 6) (zNil))) (zCons (zVar 4) (zCons (zCall sp_normal_level eF (zCons (zFD (zLst (zCons (zTup (zCons (zVar 4) (zCons (zSub (zSub (zVar 5) (zVar 2)) (zC (.int 1))) (zNil)))) (zStar (zShV (zSliceA (zVarV 0) (zPart (zAdd (zVar 3) (zC (.int 1)))) zNoPart)) (zNil))))) (zNil))) (zNil))))))) (zNext)) (
  zAug 2 (fun a b => a - b) (zVar 5)))) (
  zRet (zC .non)))
theorem dv_parted {Pg : Program} {w : World} {K : PySem.W.Frag} {mg : Str → Option Value} {base : Heap} {f : Addr} (G : Facts mg) (O : Objs K mg) (D_normal_level : Df Pg w K mg base 1 "normal_level" (spZ K mg sp_normal_level)) (cdv : Value) (A : Around) (outer : List Env) (s : Shared) (H : Hp) (E : XK) (Z0 : Zc) (nb : NoBag (Sup Z0)) (C : Cd 1 (cxOf (L2.CX Pg w) Pg w K mg base N_parted "parted" (defScope s_parted) f cdv A outer s H E) (Sup Z0)) :
    PSsd (cxOf (L2.CX Pg w) Pg w K mg base N_parted "parted" (defScope s_parted) f cdv A outer s H E) (Sup Z0) (defBody s_parted) t_parted :=
  (ssd_cons (sd_set (i := 2) (nb.s 2) C.nd (pd_var 1 (nb.s 1)))
    (ssd_cons (sd_for C.po C.calm (id_enumA (by rfl) G.b_enumerate (pd_var 0 (nb.s 0))) (gd_tup C.calm (gsd_cons (gd_name (i := 3) (nb.s 3) C.nd) (gsd_cons (gd_tup C.calm (gsd_cons (gd_name (i := 4) (nb.s 4) C.nd) (gsd_cons (gd_name (i := 5) (nb.s 5) C.nd) gsd_nil))) gsd_nil))) (ssd_cons (sd_if (pt_cmp op_lt cz_lt (pd_var 2 (nb.s 2)) (pd_var 5 (nb.s 5))) (ssd_cons (sd_set (i := 6) (nb.s 6) C.nd (pf_lst (ad_star (pd_sliceA (pv_var 0) od_none (od_some (pd_var 3 (nb.s 3)))).pv (ad_cons (pd_tup (ad_cons (pd_var 4 (nb.s 4)) (ad_cons (pd_var 2 (nb.s 2)) ad_nil))) ad_nil))).pd)
    (ssd_one (sd_ret (pd_tup (ad_cons (dd_call D_normal_level C (by rfl) eF ez0 (ad_cons (pd_var 6 (nb.s 6)) ad_nil)) (ad_cons (pd_var 4 (nb.s 4)) (ad_cons (dd_call D_normal_level C (by rfl) eF ez0 (ad_cons (pf_lst (ad_cons (pd_tup (ad_cons (pd_var 4 (nb.s 4)) (ad_cons (pd_sub (pd_sub (pd_var 5 (nb.s 5)) (pd_var 2 (nb.s 2))) pd_int) ad_nil))) (ad_star (pd_sliceA (pv_var 0) (od_some (pd_add (pd_var 3 (nb.s 3)) pd_int)) od_none).pv ad_nil))).pd ad_nil)) ad_nil))))))) ssd_nil)
    (ssd_one (sd_aug (i := 2) ip_sub (nb.s 2) C.nd (pd_var 5 (nb.s 5))))))
    (ssd_one (sd_ret pd_non))))
--% reads
theorem ln_parted : ∀ ds Qz Ez, sp_parted ds Qz Ez → ds.length = 2 := by
  rintro ds Q E ⟨_, _, _, _, rfl, _⟩
  rfl
theorem map_take' (ps : List Pr) (i : Nat) : Zz.cutD (ps.map prD) none (some (i : Int)) = (ps.take i).map prD := by
  unfold Zz.cutD
  rw [HT.sIx_none, HT.sIx_nat, List.drop_zero, Nat.sub_zero, List.map_take, ← List.map_take]
  rw [List.length_map]
  by_cases h : i ≤ ps.length
  · rw [Nat.min_eq_left h, List.map_take]
  · rw [Nat.min_eq_right (by omega), List.map_take, List.take_of_length_le (by simp), List.take_of_length_le (by simp; omega)]
theorem map_drop' (ps : List Pr) (i : Nat) : Zz.cutD (ps.map prD) (some (i : Int)) none = (ps.drop i).map prD := by
  unfold Zz.cutD
  rw [HT.sIx_none, HT.sIx_nat, List.length_map, List.map_drop]
  by_cases h : i ≤ ps.length
  · rw [Nat.min_eq_left h, List.take_of_length_le (by simp)]
  · rw [Nat.min_eq_right (by omega), Nat.sub_self, List.take_zero, List.drop_eq_nil_of_le (by simp; omega)]
theorem enum_map {α : Type} (f : α → D) : ∀ (xs : List α) (n : Nat), enumD n (xs.map f) = (xs.zipIdx n).map fun z => .tup [.int (z.2 : Int), f z.1]
  | [], _ => rfl
  | x :: xs, n => by
    rw [List.map_cons, enumD, List.zipIdx_cons, List.map_cons, enum_map f xs (n + 1)]
theorem part_len {xs : List Nat} {i : Nat} (h : (rle xs).length ≤ 2 ^ 22) : ((rle xs).take i).length + 1 ≤ 2 ^ 23 := by
  rw [List.length_take]
  have : (2 : Nat) ^ 22 + 1 ≤ 2 ^ 23 := by decide
  omega
theorem Sm.sub {xs ys : List Nat} (h : Sm xs) (hl : ys.length ≤ xs.length) (hs : ∀ y ∈ ys, y ∈ xs) : Sm ys := ⟨Nat.lt_of_le_of_lt hl h.1, fun y hy => h.2 y (hs y hy)⟩
theorem rd_parted : ∀ ds Qz (Ez : Str → Option (Str × D) → Prop), sp_parted ds Qz Ez → t_parted { nx := fun _ => Qz (.sh .non), rt := fun r _ => Qz r } (startS N_parted ds) := by
  rintro ds Q E ⟨d, xs, k, s0, rfl, hd, hl, hm, hk, q⟩
  have h23 := gt23
  have hkl : k < xs.length := (List.getElem?_eq_some_iff.mp hk).1
  have hex := ex_rle xs
  have hpl := fun i => part_len (xs := xs) (i := i) hl
  generalize hps : rle xs = ps at *
  rcases hd with rfl | rfl
  all_goals
    and_intros
    rw [enum_map]
    refine forzM (fun i S => ∃ d x y z w, (d = .lst (ps.map prD) ∨ d = .tup (ps.map prD)) ∧ S = [.sh d, .sh (.int k), .sh (.int ((k - (ex (ps.take i)).length : Nat) : Int)), x, y, z, w] ∧ (ex (ps.take i)).length ≤ k) ⟨_, _, _, _, _, by first | exact .inl rfl | exact .inr rfl, rfl, Nat.zero_le _⟩ ?_ ?_
    · rintro i ⟨⟨s, t⟩, n⟩ S hp ⟨d, x, y, z, w, hd, rfl, hi⟩ K hK
      have hp0 : ps[i]? = some (s, t) ∧ n = i := by
        rw [List.getElem?_zipIdx] at hp
        cases e : ps[i]? with
        | none => rw [e] at hp; cases hp
        | some v =>
          rw [e] at hp
          have := Option.some.inj hp
          injection this with e1 e2
          exact ⟨by rw [e1], by omega⟩
      obtain ⟨hp0, rfl⟩ := hp0
      have hn : (ex (ps.take (n + 1))).length = (ex (ps.take n)).length + t := by
        rw [List.take_succ, hp0, Option.toList, ex_append, ex_one, List.length_append, List.length_replicate]
      rw [hn] at hK
      rcases hd with rfl | rfl
      all_goals
        and_intros
        refine ⟨fun v => ?_, fun v => ?_⟩
        · have v := asc v
          obtain ⟨g1, g2, g3⟩ := part_at (k := k) hp0 hi (by omega)
          rw [hex] at g1 g2 g3
          rw [hk] at g2
          cases g2
          and_intros
          have h24 := hpl n
          rw [map_take']
          refine ⟨by rw [List.length_append, List.length_map]; simp only [List.length_singleton]; omega, ?_⟩
          and_intros
          refine ⟨_, ps.take n ++ [(s0, k - (ex (ps.take n)).length)], rfl, .inl (by rw [List.map_append]; rfl), by rw [List.length_append]; exact h24, by rw [g1]; exact hm.sub (by rw [List.length_take]; omega) (fun y hy => List.mem_of_mem_take hy), ?_⟩
          and_intros
          rw [show ((n : Int) + 1) = ((n + 1 : Nat) : Int) by omega, map_drop', show (t : Int) - ((k - (ex (ps.take n)).length : Nat) : Int) - 1 = ((t - (k - (ex (ps.take n)).length) - 1 : Nat) : Int) by omega]
          have h22 : (2 : Nat) ^ 22 + 1 ≤ 2 ^ 23 := by decide
          have h25 : (ps.drop (n + 1)).length + 1 ≤ 2 ^ 23 := by rw [List.length_drop]; omega
          refine ⟨by rw [List.length_cons, List.append_nil, List.length_map]; omega, ?_⟩
          and_intros
          refine ⟨_, (s0, t - (k - (ex (ps.take n)).length) - 1) :: ps.drop (n + 1), rfl, .inl (by rw [List.append_nil]; rfl), by rw [List.length_cons]; exact h25, by rw [g3]; exact hm.sub (by rw [List.length_drop]; omega) (fun y hy => List.mem_of_mem_drop hy), ?_⟩
          and_intros
          rw [g1, g3]
          exact q
        · have v := nac v
          and_intros
          rw [show ((k - (ex (ps.take n)).length : Nat) : Int) - (t : Int) = ((k - ((ex (ps.take n)).length + t) : Nat) : Int) by omega]
          exact hK _ ⟨_, _, _, _, _, by first | exact .inl rfl | exact .inr rfl, rfl, by omega⟩
    · rintro S ⟨d, x, y, z, w, hd, rfl, hi⟩
      rw [List.take_of_length_le (by simp), hex] at hi
      omega
theorem ok_parted {Pg : Program} {w : World} {K : PySem.W.Frag} {mg : Str → Option Value} {base : Heap} {f : Addr} {fd : FuncData} (Fu : Fun K "parted" "parted" s_parted f fd) (G : Facts mg) (O : Objs K mg) (D_normal_level : Df Pg w K mg base 1 "normal_level" (spZ K mg sp_normal_level)) : FnP Pg w K mg base 2 f fd ["level", "page"] (spZ K mg sp_parted) :=
  okZ (N := N_parted) (t := fun _ => t_parted) Fu sc_parted ln_parted (fun cdv A outer s H E Z0 nb C => dv_parted G O D_normal_level cdv A outer s H E Z0 nb C) rd_parted
/-! #### page_with -/
def sp_page_with : ZSp := fun ds Q _ => ∃ (d : D) (xs : List Nat) (k : Nat), ds = [d, .int (k : Int)] ∧ isLv d (rle xs) ∧ Sm xs ∧ k < xs.sum ∧ Q (.sh (.tup [.int ((loc xs k).1 : Int), .int ((loc xs k).2 : Int)]))
def t_page_with : ZS := zSeq (zPar 2 3 (zXD (zVar 1)) (zXD (zC (.int 0)))) (
  zSeq (zFor (zItS (zVar 0)) (gzTup 2 (gzCons (gzName 4) (gzCons (gzName 5) (gzNil)))) (zSeq (zIfS (zCmpT fLt (zVar 2) (zMul (zVar 4) (zVar 5))) (zRet (zTup (zCons (zAdd (zVar 3) (zDiv (zVar 2) (zVar 4))) (zCons (zMod (zVar 2) (zVar 4)) (zNil))))) (zNext)) (
  zSeq (zAug 2 (fun a b => a - b) (zMul (zVar 4) (zVar 5))) (
  zAug 3 (fun a b => a + b) (zVar 5))))) (
  zRet (zC .non)))
theorem dv_page_with {Pg : Program} {w : World} {K : PySem.W.Frag} {mg : Str → Option Value} {base : Heap} {f : Addr} (G : Facts mg) (O : Objs K mg) (cdv : Value) (A : Around) (outer : List Env) (s : Shared) (H : Hp) (E : XK) (Z0 : Zc) (nb : NoBag (Sup Z0)) (C : Cd 0 (cxOf (L2.CX Pg w) Pg w K mg base N_page_with "page_with" (defScope s_page_with) f cdv A outer s H E) (Sup Z0)) :
    PSsd (cxOf (L2.CX Pg w) Pg w K mg base N_page_with "page_with" (defScope s_page_with) f cdv A outer s H E) (Sup Z0) (defBody s_page_with) t_page_with :=
  (ssd_cons (sd_par (i := 2) (j := 3) C (nb.s 2) (nb.s 3) (pd_var 1 (nb.s 1)).px pd_int.px)
    (ssd_cons (sd_for C.po C.calm (id_seq (pd_var 0 (nb.s 0))) (gd_tup C.calm (gsd_cons (gd_name (i := 4) (nb.s 4) C.nd) (gsd_cons (gd_name (i := 5) (nb.s 5) C.nd) gsd_nil))) (ssd_cons (sd_if (pt_cmp op_lt cz_lt (pd_var 2 (nb.s 2)) (pd_mul (pd_var 4 (nb.s 4)) (pd_var 5 (nb.s 5)))) (ssd_one (sd_ret (pd_tup (ad_cons (pd_add (pd_var 3 (nb.s 3)) (pd_div (pd_var 2 (nb.s 2)) (pd_var 4 (nb.s 4)))) (ad_cons (pd_mod (pd_var 2 (nb.s 2)) (pd_var 4 (nb.s 4))) ad_nil))))) ssd_nil)
    (ssd_cons (sd_aug (i := 2) ip_sub (nb.s 2) C.nd (pd_mul (pd_var 4 (nb.s 4)) (pd_var 5 (nb.s 5))))
    (ssd_one (sd_aug (i := 3) ip_add (nb.s 3) C.nd (pd_var 5 (nb.s 5)))))))
    (ssd_one (sd_ret pd_non))))
--% reads
theorem ln_page_with : ∀ ds Qz Ez, sp_page_with ds Qz Ez → ds.length = 2 := by
  rintro ds Q E ⟨_, _, _, rfl, _⟩
  rfl
theorem loc_ex {ps : List Pr} {i s t k : Nat} (h : ps[i]? = some (s, t)) : (k < s * t → loc (ex (ps.drop i)) k = (k / s, k % s)) ∧ (s * t ≤ k → loc (ex (ps.drop i)) k = ((loc (ex (ps.drop (i + 1))) (k - s * t)).1 + t, (loc (ex (ps.drop (i + 1))) (k - s * t)).2)) ∧ (ex (ps.drop i)).sum = s * t + (ex (ps.drop (i + 1))).sum := by
  rw [dropA h, ex_cons]
  refine ⟨loc_rep_lt s _ t k, loc_rep_ge s _ t k, ?_⟩
  rw [List.sum_append, List.sum_replicate_nat, Nat.mul_comm]
theorem rd_page_with : ∀ ds Qz (Ez : Str → Option (Str × D) → Prop), sp_page_with ds Qz Ez → t_page_with { nx := fun _ => Qz (.sh .non), rt := fun r _ => Qz r } (startS N_page_with ds) := by
  rintro ds Q E ⟨d, xs, k, rfl, hd, hm, hk, q⟩
  have hpk := hm.pok
  have hex := ex_rle xs
  generalize hps : rle xs = ps at *
  rcases hd with rfl | rfl
  all_goals
    and_intros
    refine forzM (fun i S => ∃ (d : D) (l a : Nat) (x y : Sl), S = [.sh d, .sh (.int k), .sh (.int (l : Int)), .sh (.int (a : Int)), x, y] ∧ (loc xs k).1 = a + (loc (ex (ps.drop i)) l).1 ∧ (loc xs k).2 = (loc (ex (ps.drop i)) l).2 ∧ l < (ex (ps.drop i)).sum) ⟨_, k, 0, _, _, rfl, by rw [List.drop_zero, hex]; omega, by rw [List.drop_zero, hex], by rw [List.drop_zero, hex]; exact hk⟩ ?_ ?_
    · rintro i ⟨s, t⟩ S hp ⟨d, l, a, x, y, rfl, e1, e2, e3⟩ K hK
      obtain ⟨g1, g2, g3⟩ := loc_ex (k := l) hp
      and_intros
      refine ⟨mulN (hpk.at hp).1 (hpk.at hp).2, ?_⟩
      and_intros
      refine ⟨fun v => ?_, fun v => ?_⟩
      · have v := asc v
        have v' : l < s * t := by rw [← Int.natCast_mul] at v; omega
        have hs : 0 < s := Nat.pos_of_ne_zero fun z => by rw [z] at v'; simp at v'
        have e := g1 v'
        rw [e] at e1 e2
        and_intros
        refine ⟨divN hs (hpk.at hp).1, ?_⟩
        and_intros
        refine ⟨by omega, ?_⟩
        and_intros
        rw [e1, e2] at q
        simp only [Int.natCast_add, Int.natCast_ediv, Int.natCast_emod] at q
        exact q
      · have v := nac v
        have v' : s * t ≤ l := by rw [← Int.natCast_mul] at v; omega
        have e := g2 v'
        rw [e] at e1 e2
        and_intros
        refine ⟨mulN (hpk.at hp).1 (hpk.at hp).2, ?_⟩
        and_intros
        rw [show (l : Int) - (s : Int) * (t : Int) = ((l - s * t : Nat) : Int) by rw [← Int.natCast_mul]; omega, show (a : Int) + (t : Int) = ((a + t : Nat) : Int) by omega]
        exact hK _ ⟨_, _, _, _, _, rfl, by simp only at e1; omega, e2, by omega⟩
    · rintro S ⟨d, l, a, x, y, rfl, e1, e2, e3⟩
      rw [List.drop_length, ex_nil] at e3
      simp at e3
theorem ok_page_with {Pg : Program} {w : World} {K : PySem.W.Frag} {mg : Str → Option Value} {base : Heap} {f : Addr} {fd : FuncData} (Fu : Fun K "page_with" "page_with" s_page_with f fd) (G : Facts mg) (O : Objs K mg) : FnP Pg w K mg base 1 f fd ["level", "item"] (spZ K mg sp_page_with) :=
  okZ (N := N_page_with) (t := fun _ => t_page_with) Fu sc_page_with ln_page_with (fun cdv A outer s H E Z0 nb C => dv_page_with G O cdv A outer s H E Z0 nb C) rd_page_with
/-! #### is_part -/
def sp_is_part : ZSp := fun ds Q _ => ∃ w d n, ds = [.int w, d] ∧ d.ty = some n ∧ w.natAbs < 2 ^ 150 ∧ Q (.sh (.bl (partD w d)))
def t_is_part : ZS := zSeq (zIfS (zNotT (zB (zCall sp_is_whole eF (zCons (zVar 1) (zCons (zC (.int 2)) (zCons (zSub (zVar 0) (zC (.int 1))) (zNil))))))) (zRet (zC (.bl false))) (zNext)) (
  zRet (zAndV (zCmp fGe (zMul (zC (.int 4)) (zVar 1)) (zAdd (zVar 0) (zC (.int 1)))) (zCmp fGe (zMul (zC (.int 4)) (zSub (zAdd (zVar 0) (zC (.int 1))) (zVar 1))) (zAdd (zVar 0) (zC (.int 1))))))
theorem dv_is_part {Pg : Program} {w : World} {K : PySem.W.Frag} {mg : Str → Option Value} {base : Heap} {f : Addr} (G : Facts mg) (O : Objs K mg) (D_is_whole : Df Pg w K mg base 2 "is_whole" (spZ K mg sp_is_whole)) (cdv : Value) (A : Around) (outer : List Env) (s : Shared) (H : Hp) (E : XK) (Z0 : Zc) (nb : NoBag (Sup Z0)) (C : Cd 2 (cxOf (L2.CX Pg w) Pg w K mg base N_is_part "is_part" (defScope s_is_part) f cdv A outer s H E) (Sup Z0)) :
    PSsd (cxOf (L2.CX Pg w) Pg w K mg base N_is_part "is_part" (defScope s_is_part) f cdv A outer s H E) (Sup Z0) (defBody s_is_part) t_is_part :=
  (ssd_cons (sd_if (td_not (pt_b (dd_call D_is_whole C (by rfl) eF ez0 (ad_cons (pd_var 1 (nb.s 1)) (ad_cons pd_int (ad_cons (pd_sub (pd_var 0 (nb.s 0)) pd_int) ad_nil)))))) (ssd_one (sd_ret pd_bl)) ssd_nil)
    (ssd_one (sd_ret (pd_and (pd_cmp op_ge cz_ge (pd_mul pd_int (pd_var 1 (nb.s 1))) (pd_add (pd_var 0 (nb.s 0)) pd_int)) (pd_one (pd_cmp op_ge cz_ge (pd_mul pd_int (pd_sub (pd_add (pd_var 0 (nb.s 0)) pd_int) (pd_var 1 (nb.s 1)))) (pd_add (pd_var 0 (nb.s 0)) pd_int)))))))
--% reads
theorem ln_is_part : ∀ ds Qz Ez, sp_is_part ds Qz Ez → ds.length = 2 := by
  rintro ds Q E ⟨_, _, _, rfl, _⟩
  rfl
theorem rd_is_part : ∀ ds Qz (Ez : Str → Option (Str × D) → Prop), sp_is_part ds Qz Ez → t_is_part { nx := fun _ => Qz (.sh .non), rt := fun r _ => Qz r } (startS N_is_part ds) := by
  rintro ds Q E ⟨w, d, n, rfl, hn, h1, q⟩
  nofun
  refine ⟨d, n, 2, w - 1, rfl, hn, ?_⟩
  by_cases hw : wholeD 2 (w - 1) d = true
  · rw [hw]
    obtain ⟨s, rfl, i1, i2⟩ := whole_int hw
    have no : ¬ (2 ≤ s ∧ s ≤ w - 1 ∧ w + 1 ≤ 4 * s ∧ w + 1 ≤ 4 * (w + 1 - s)) → Q (.sh (.bl false)) := fun z => by
      have : partB w s = false := decide_eq_false z
      rwa [show partD w (.int s) = partB w s from rfl, this] at q
    nofun
    refine ⟨mulW (by decide) (by omega), ?_⟩
    nofun
    refine ⟨fun v => ?_, fun v => ?_⟩
    · have v := asc v
      nofun
      refine ⟨mulW (by decide) (by omega), ?_⟩
      by_cases u : w + 1 ≤ 4 * (w + 1 - s)
      · have : partB w s = true := decide_eq_true ⟨i1, i2, v, u⟩
        rw [show partD w (.int s) = partB w s from rfl, this] at q
        show Q (.sh (.bl (decide (w + 1 ≤ 4 * (w + 1 - s)))))
        rw [decide_eq_true u]
        exact q
      · show Q (.sh (.bl (decide (w + 1 ≤ 4 * (w + 1 - s)))))
        rw [decide_eq_false u]
        exact no fun y => u y.2.2.2
    · exact no fun y => nac v y.2.2.1
  · have hw : wholeD 2 (w - 1) d = false := by simpa using hw
    have hp : partD w d = false := by
      cases d <;> try rfl
      rename_i s
      exact decide_eq_false fun y => by simp [wholeD] at hw; omega
    rw [hp] at q
    rw [hw]
    nofun
    exact q
theorem ok_is_part {Pg : Program} {w : World} {K : PySem.W.Frag} {mg : Str → Option Value} {base : Heap} {f : Addr} {fd : FuncData} (Fu : Fun K "is_part" "is_part" s_is_part f fd) (G : Facts mg) (O : Objs K mg) (D_is_whole : Df Pg w K mg base 2 "is_whole" (spZ K mg sp_is_whole)) : FnP Pg w K mg base 3 f fd ["whole", "stays"] (spZ K mg sp_is_part) :=
  okZ (N := N_is_part) (t := fun _ => t_is_part) Fu sc_is_part ln_is_part (fun cdv A outer s H E Z0 nb C => dv_is_part G O D_is_whole cdv A outer s H E Z0 nb C) rd_is_part
/-! #### require_rule -/
def sp_require_rule : ZSp := fun ds Q Ez => ∃ d, ds = [d] ∧ ((∃ fs, d = .obj "Rule" fs ∧ Q (.sh .non)) ∨ ((∃ n, d.ty = some n) ∨ ∃ fs, d = .obj "PageIndex" fs) ∧ Ez "InvalidRule" (some ("item", .non)))
def t_require_rule (ez : Str → Option (Str × D) → Prop) : ZS := zIfS (zNotT (zB (zIsiO [("Rule", true), ("PageIndex", false)] (zVarV 0)))) (zRaiseF ez "InvalidRule" "item" (zC .non)) (zNext)
theorem dv_require_rule {Pg : Program} {w : World} {K : PySem.W.Frag} {mg : Str → Option Value} {base : Heap} {f : Addr} (G : Facts mg) (O : Objs K mg) (D_InvalidRule_init : Ei Pg w K mg base 1 "InvalidRule" "item") (cdv : Value) (A : Around) (outer : List Env) (s : Shared) (H : Hp) (E : XK) (Z0 : Zc) (nb : NoBag (Sup Z0)) (C : Cd 2 (cxOf (L2.CX Pg w) Pg w K mg base N_require_rule "require_rule" (defScope s_require_rule) f cdv A outer s H E) (Sup Z0)) :
    PSsd (cxOf (L2.CX Pg w) Pg w K mg base N_require_rule "require_rule" (defScope s_require_rule) f cdv A outer s H E) (Sup Z0) (defBody s_require_rule) (t_require_rule Z0.ez) :=
  (ssd_one (sd_if (td_not (pt_b (pd_isiO (by rfl) G.b_isinstance (by rfl) O.i_Rule (pv_var 0)))) (ssd_one (sd_raiseF (ez := Z0.ez) D_InvalidRule_init C (by rfl) ezS pd_non)) ssd_nil))
--% reads
theorem ln_require_rule : ∀ ds Qz Ez, sp_require_rule ds Qz Ez → ds.length = 1 := by
  rintro ds Q E ⟨_, rfl, _⟩
  rfl
theorem rd_require_rule : ∀ ds Qz (Ez : Str → Option (Str × D) → Prop), sp_require_rule ds Qz Ez → t_require_rule Ez { nx := fun _ => Qz (.sh .non), rt := fun r _ => Qz r } (startS N_require_rule ds) := by
  rintro ds Q E ⟨d, rfl, ⟨fs, rfl, q⟩ | ⟨⟨n, hn⟩ | ⟨fs, rfl⟩, e⟩⟩
  · and_intros
    exact q
  · cases d <;> first | (cases hn; done) | skip
    all_goals
      and_intros
      exact e
  · and_intros
    exact e
theorem ok_require_rule {Pg : Program} {w : World} {K : PySem.W.Frag} {mg : Str → Option Value} {base : Heap} {f : Addr} {fd : FuncData} (Fu : Fun K "require_rule" "require_rule" s_require_rule f fd) (G : Facts mg) (O : Objs K mg) (D_InvalidRule_init : Ei Pg w K mg base 1 "InvalidRule" "item") : FnP Pg w K mg base 3 f fd ["value"] (spZ K mg sp_require_rule) :=
  okZ (N := N_require_rule) (t := t_require_rule) Fu sc_require_rule ln_require_rule (fun cdv A outer s H E Z0 nb C => dv_require_rule G O D_InvalidRule_init cdv A outer s H E Z0 nb C) rd_require_rule
/-! #### Rule_init -/
def sp_Rule_init : ZSp := fun ds Q Ez => ∃ a b c d, ds = [a, b, c, d] ∧ isK a ∧ isK b ∧ isK c ∧ isK d ∧ (∀ m a' f p, a = .int m → b = .int a' → c = .int f → d = .int p → RuleOk m a' f p → Q (.sh (ruleD m a' f p))) ∧ (∀ k, wrongAt a b c d = some k → Ez "InvalidRule" (some ("item", .int k)))
def t_Rule_init (ez : Str → Option (Str × D) → Prop) : ZN := zBst (zIfS (zNotT (zB (zCall sp_is_whole eF (zCons (zVar 1) (zCons (zC (.int 3)) (zCons (zC (.int 1000000000000000000000000000000)) (zNil))))))) (zRaiseF ez "InvalidRule" "item" (zC (.int 0))) (zNext)) (
  zBst (zIfS (zNotT (zB (zCall sp_is_part eF (zCons (zVar 1) (zCons (zVar 2) (zNil)))))) (zRaiseF ez "InvalidRule" "item" (zC (.int 1))) (zNext)) (
  zBst (zIfS (zNotT (zB (zCall sp_is_whole eF (zCons (zVar 3) (zCons (zC (.int 3)) (zCons (zC (.int 1000000000000000000000000000000)) (zNil))))))) (zRaiseF ez "InvalidRule" "item" (zC (.int 2))) (zNext)) (
  zBst (zIfS (zNotT (zB (zCall sp_is_part eF (zCons (zVar 3) (zCons (zVar 4) (zNil)))))) (zRaiseF ez "InvalidRule" "item" (zC (.int 3))) (zNext)) (
  zBput "own_numbers" (zTup (zCons (zVar 1) (zCons (zVar 2) (zCons (zVar 3) (zCons (zVar 4) (zNil)))))) (zBnil)))))
theorem dv_Rule_init {Pg : Program} {w : World} {K : PySem.W.Frag} {mg : Str → Option Value} {base : Heap} {f : Addr} {C : Addr} (G : Facts mg) (O : Objs K mg) (D_InvalidRule_init : Ei Pg w K mg base 1 "InvalidRule" "item") (D_is_whole : Df Pg w K mg base 2 "is_whole" (spZ K mg sp_is_whole)) (D_is_part : Df Pg w K mg base 3 "is_part" (spZ K mg sp_is_part)) (cl : Cls K C) (n_own_numbers : NoAttr K C "own_numbers") (cdv : Value) (A : Around) (outer : List Env) (s : Shared) (H : Hp) (E : XK) (Z0 : Zc) (nb : NoBag (Sup Z0)) (C0 : Cd 3 (cxOf (L2.CX Pg w) Pg w K mg base N_Rule_init "Rule.__init__" (defScope s_Rule_init) f cdv A outer s H E) (Sup Z0)) :
    PBd (cxOf (L2.CX Pg w) Pg w K mg base N_Rule_init "Rule.__init__" (defScope s_Rule_init) f cdv A outer s H E) (Sup Z0) C (defBody s_Rule_init) (t_Rule_init Z0.ez) :=
  have C := C0
  (bd_st (sd_if (td_not (pt_b (dd_call D_is_whole C (by rfl) eF ez0 (ad_cons (pd_var 1 (nb.s 1)) (ad_cons (pd_globi (by rfl) G.c_LEAST_PAGE) (ad_cons (pd_globi (by rfl) G.c_MOST_PAGE) ad_nil)))))) (ssd_one (sd_raiseF (ez := Z0.ez) D_InvalidRule_init C (by rfl) ezS pd_int)) ssd_nil)
    (bd_st (sd_if (td_not (pt_b (dd_call D_is_part C (by rfl) eF ez0 (ad_cons (pd_var 1 (nb.s 1)) (ad_cons (pd_var 2 (nb.s 2)) ad_nil))))) (ssd_one (sd_raiseF (ez := Z0.ez) D_InvalidRule_init C (by rfl) ezS pd_int)) ssd_nil)
    (bd_st (sd_if (td_not (pt_b (dd_call D_is_whole C (by rfl) eF ez0 (ad_cons (pd_var 3 (nb.s 3)) (ad_cons (pd_globi (by rfl) G.c_LEAST_PAGE) (ad_cons (pd_globi (by rfl) G.c_MOST_PAGE) ad_nil)))))) (ssd_one (sd_raiseF (ez := Z0.ez) D_InvalidRule_init C (by rfl) ezS pd_int)) ssd_nil)
    (bd_st (sd_if (td_not (pt_b (dd_call D_is_part C (by rfl) eF ez0 (ad_cons (pd_var 3 (nb.s 3)) (ad_cons (pd_var 4 (nb.s 4)) ad_nil))))) (ssd_one (sd_raiseF (ez := Z0.ez) D_InvalidRule_init C (by rfl) ezS pd_int)) ssd_nil)
    (bd_put cl n_own_numbers (pd_tup (ad_cons (pd_var 1 (nb.s 1)) (ad_cons (pd_var 2 (nb.s 2)) (ad_cons (pd_var 3 (nb.s 3)) (ad_cons (pd_var 4 (nb.s 4)) ad_nil)))))
    bd_nil)))))
--% reads
theorem ln_Rule_init : ∀ ds Qz Ez, sp_Rule_init ds Qz Ez → ds.length + 1 = 5 := by
  rintro ds Q E ⟨_, _, _, _, rfl, _⟩
  rfl
theorem rd_Rule_init : ∀ x ds Qz (Ez : Str → Option (Str × D) → Prop), sp_Rule_init ds Qz Ez → t_Rule_init Ez x (fun fs => Qz (.sh (.obj "Rule" fs))) (startS N_Rule_init (.adr x :: ds)) [] := by
  rintro x ds Q E ⟨a, b, c, d, rfl, ⟨na, ha⟩, ⟨nb, hb⟩, ⟨nc, hc⟩, ⟨nd, hd⟩, q, e⟩
  unfold wrongAt at e
  nofun
  refine ⟨a, na, 3, 10 ^ 30, rfl, ha, ?_⟩
  by_cases h1 : wholeD 3 (10 ^ 30) a = false
  · rw [if_pos h1] at e
    rw [h1]
    nofun
    exact e _ rfl
  rw [if_neg h1] at e
  have h1 : wholeD 3 (10 ^ 30) a = true := by simpa using h1
  rw [h1]
  obtain ⟨m, rfl, m1, m2⟩ := whole_int h1
  nofun
  refine ⟨m, b, nb, rfl, hb, by omega, ?_⟩
  by_cases h2 : partM (.int m) b = false
  · rw [if_pos h2] at e
    rw [show partD m b = false from h2]
    nofun
    exact e _ rfl
  rw [if_neg h2] at e
  have h2 : partD m b = true := by simpa [partM] using h2
  rw [h2]
  obtain ⟨s, rfl⟩ : ∃ s, b = .int s := by cases b <;> first | exact ⟨_, rfl⟩ | cases h2
  nofun
  refine ⟨c, nc, 3, 10 ^ 30, rfl, hc, ?_⟩
  by_cases h3 : wholeD 3 (10 ^ 30) c = false
  · rw [if_pos h3] at e
    rw [h3]
    nofun
    exact e _ rfl
  rw [if_neg h3] at e
  have h3 : wholeD 3 (10 ^ 30) c = true := by simpa using h3
  rw [h3]
  obtain ⟨f, rfl, f1, f2⟩ := whole_int h3
  nofun
  refine ⟨f, d, nd, rfl, hd, by omega, ?_⟩
  by_cases h4 : partM (.int f) d = false
  · rw [if_pos h4] at e
    rw [show partD f d = false from h4]
    nofun
    exact e _ rfl
  have h4 : partD f d = true := by simpa [partM] using h4
  rw [h4]
  obtain ⟨p, rfl⟩ : ∃ s, d = .int s := by cases d <;> first | exact ⟨_, rfl⟩ | cases h4
  nofun
  refine ⟨sz4, rfl, Nat.le_of_ble_eq_true rfl, ?_⟩
  exact q m s f p rfl rfl rfl rfl ⟨m1, m2, h2, f1, f2, h4⟩
theorem ok_Rule_init {Pg : Program} {w : World} {K : PySem.W.Frag} {mg : Str → Option Value} {base : Heap} {f : Addr} {fd : FuncData} {C : Addr} (Fu : Fun K "__init__" "Rule.__init__" s_Rule_init f fd) (G : Facts mg) (O : Objs K mg) (D_InvalidRule_init : Ei Pg w K mg base 1 "InvalidRule" "item") (D_is_whole : Df Pg w K mg base 2 "is_whole" (spZ K mg sp_is_whole)) (D_is_part : Df Pg w K mg base 3 "is_part" (spZ K mg sp_is_part)) (hC : mg "Rule" = some (.ref C)) (cl : Cls K C) (n_own_numbers : NoAttr K C "own_numbers") : FnP Pg w K mg base 4 f fd ["self", "leaf", "leaf_stays", "inner", "inner_stays"] (spI K mg "Rule" sp_Rule_init) :=
  okI (N := N_Rule_init) (t := t_Rule_init) Fu sc_Rule_init hC ln_Rule_init (fun cdv A outer s H E Z0 nb C0 => dv_Rule_init G O D_InvalidRule_init D_is_whole D_is_part cl n_own_numbers cdv A outer s H E Z0 nb C0) rd_Rule_init
/-! #### Rule_leaf -/
def sp_Rule_leaf : ZSp := fun ds Q _ => ∃ (r : RN), ds = [r.d] ∧ Q (.sh (.int r.lf))
def t_Rule_leaf : ZS := zRet (zIx (zShV (zFld "Rule" "own_numbers" (zVarV 0))) (zC (.int 0)))
theorem dv_Rule_leaf {Pg : Program} {w : World} {K : PySem.W.Frag} {mg : Str → Option Value} {base : Heap} {f : Addr} (G : Facts mg) (O : Objs K mg) (cdv : Value) (A : Around) (outer : List Env) (s : Shared) (H : Hp) (E : XK) (Z0 : Zc) (nb : NoBag (Sup Z0)) (C : Cd 0 (cxOf (L2.CX Pg w) Pg w K mg base N_Rule_leaf "Rule.leaf" (defScope s_Rule_leaf) f cdv A outer s H E) (Sup Z0)) :
    PSsd (cxOf (L2.CX Pg w) Pg w K mg base N_Rule_leaf "Rule.leaf" (defScope s_Rule_leaf) f cdv A outer s H E) (Sup Z0) (defBody s_Rule_leaf) t_Rule_leaf :=
  (ssd_one (sd_ret (pd_ix (pd_fld O.n_Rule_own_numbers (pv_var 0)).pv pd_int)))
--% reads
theorem ln_Rule_leaf : ∀ ds Qz Ez, sp_Rule_leaf ds Qz Ez → ds.length = 1 := by
  rintro ds Q E ⟨_, rfl, _⟩
  rfl
theorem rd_Rule_leaf : ∀ ds Qz (Ez : Str → Option (Str × D) → Prop), sp_Rule_leaf ds Qz Ez → t_Rule_leaf { nx := fun _ => Qz (.sh .non), rt := fun r _ => Qz r } (startS N_Rule_leaf ds) := by
  rintro ds Q E ⟨r, rfl, q⟩
  and_intros
  exact q
theorem ok_Rule_leaf {Pg : Program} {w : World} {K : PySem.W.Frag} {mg : Str → Option Value} {base : Heap} {f : Addr} {fd : FuncData} (Fu : Fun K "leaf" "Rule.leaf" s_Rule_leaf f fd) (G : Facts mg) (O : Objs K mg) : FnP Pg w K mg base 1 f fd ["self"] (spZ K mg sp_Rule_leaf) :=
  okZ (N := N_Rule_leaf) (t := fun _ => t_Rule_leaf) Fu sc_Rule_leaf ln_Rule_leaf (fun cdv A outer s H E Z0 nb C => dv_Rule_leaf G O cdv A outer s H E Z0 nb C) rd_Rule_leaf
/-! #### Rule_inner -/
def sp_Rule_inner : ZSp := fun ds Q _ => ∃ (r : RN), ds = [r.d] ∧ Q (.sh (.int r.inn))
def t_Rule_inner : ZS := zRet (zIx (zShV (zFld "Rule" "own_numbers" (zVarV 0))) (zC (.int 2)))
theorem dv_Rule_inner {Pg : Program} {w : World} {K : PySem.W.Frag} {mg : Str → Option Value} {base : Heap} {f : Addr} (G : Facts mg) (O : Objs K mg) (cdv : Value) (A : Around) (outer : List Env) (s : Shared) (H : Hp) (E : XK) (Z0 : Zc) (nb : NoBag (Sup Z0)) (C : Cd 0 (cxOf (L2.CX Pg w) Pg w K mg base N_Rule_inner "Rule.inner" (defScope s_Rule_inner) f cdv A outer s H E) (Sup Z0)) :
    PSsd (cxOf (L2.CX Pg w) Pg w K mg base N_Rule_inner "Rule.inner" (defScope s_Rule_inner) f cdv A outer s H E) (Sup Z0) (defBody s_Rule_inner) t_Rule_inner :=
  (ssd_one (sd_ret (pd_ix (pd_fld O.n_Rule_own_numbers (pv_var 0)).pv pd_int)))
--% reads
theorem ln_Rule_inner : ∀ ds Qz Ez, sp_Rule_inner ds Qz Ez → ds.length = 1 := by
  rintro ds Q E ⟨_, rfl, _⟩
  rfl
theorem rd_Rule_inner : ∀ ds Qz (Ez : Str → Option (Str × D) → Prop), sp_Rule_inner ds Qz Ez → t_Rule_inner { nx := fun _ => Qz (.sh .non), rt := fun r _ => Qz r } (startS N_Rule_inner ds) := by
  rintro ds Q E ⟨r, rfl, q⟩
  and_intros
  exact q
theorem ok_Rule_inner {Pg : Program} {w : World} {K : PySem.W.Frag} {mg : Str → Option Value} {base : Heap} {f : Addr} {fd : FuncData} (Fu : Fun K "inner" "Rule.inner" s_Rule_inner f fd) (G : Facts mg) (O : Objs K mg) : FnP Pg w K mg base 1 f fd ["self"] (spZ K mg sp_Rule_inner) :=
  okZ (N := N_Rule_inner) (t := fun _ => t_Rule_inner) Fu sc_Rule_inner ln_Rule_inner (fun cdv A outer s H E Z0 nb C => dv_Rule_inner G O cdv A outer s H E Z0 nb C) rd_Rule_inner
/-! #### require_level -/
def sp_require_level : ZSp := fun ds Q Ez => ∃ (r : RN) (L : List (List Nat)) (k : D), ds = [idx r L, k] ∧ isK k ∧ (wholeD 0 ((L.length : Int) - 1) k = true → Q (.sh .non)) ∧ (wholeD 0 ((L.length : Int) - 1) k = false → Ez "InvalidLevel" none)
def t_require_level (ez : Str → Option (Str × D) → Prop) : ZS := zIfS (zNotT (zB (zCall sp_is_whole eF (zCons (zVar 1) (zCons (zC (.int 0)) (zCons (zSub (zLen (zShV (zFld "PageIndex" "own_levels" (zVarV 0)))) (zC (.int 1))) (zNil))))))) (zRaise ez "InvalidLevel" (zC (.str "not a level of the index"))) (zNext)
theorem dv_require_level {Pg : Program} {w : World} {K : PySem.W.Frag} {mg : Str → Option Value} {base : Heap} {f : Addr} (G : Facts mg) (O : Objs K mg) (D_is_whole : Df Pg w K mg base 2 "is_whole" (spZ K mg sp_is_whole)) (cdv : Value) (A : Around) (outer : List Env) (s : Shared) (H : Hp) (E : XK) (Z0 : Zc) (nb : NoBag (Sup Z0)) (C : Cd 2 (cxOf (L2.CX Pg w) Pg w K mg base N_require_level "require_level" (defScope s_require_level) f cdv A outer s H E) (Sup Z0)) :
    PSsd (cxOf (L2.CX Pg w) Pg w K mg base N_require_level "require_level" (defScope s_require_level) f cdv A outer s H E) (Sup Z0) (defBody s_require_level) (t_require_level Z0.ez) :=
  (ssd_one (sd_if (td_not (pt_b (dd_call D_is_whole C (by rfl) eF ez0 (ad_cons (pd_var 1 (nb.s 1)) (ad_cons pd_int (ad_cons (pd_sub (pd_len (by rfl) G.b_len PySem.boot_len (pd_fld O.n_PageIndex_own_levels (pv_var 0)).pv) pd_int) ad_nil)))))) (ssd_one (sd_raise (ez := Z0.ez) O.r_InvalidLevel C (by rfl) ezS pd_str)) ssd_nil))
--% reads
theorem ln_require_level : ∀ ds Qz Ez, sp_require_level ds Qz Ez → ds.length = 2 := by
  rintro ds Q E ⟨_, _, _, rfl, _⟩
  rfl
theorem rd_require_level : ∀ ds Qz (Ez : Str → Option (Str × D) → Prop), sp_require_level ds Qz Ez → t_require_level Ez { nx := fun _ => Qz (.sh .non), rt := fun r _ => Qz r } (startS N_require_level ds) := by
  rintro ds Q E ⟨r, L, k, rfl, ⟨nm, hk⟩, q1, q2⟩
  and_intros
  refine ⟨k, nm, _, _, rfl, hk, ?_⟩
  rw [List.length_map]
  and_intros
  refine ⟨fun v => ?_, fun v => ?_⟩
  · have v : wholeD 0 ((L.length : Int) - 1) k = false := by simpa using v
    and_intros
    exact q2 v
  · have v : wholeD 0 ((L.length : Int) - 1) k = true := by simpa using v
    exact q1 v
theorem ok_require_level {Pg : Program} {w : World} {K : PySem.W.Frag} {mg : Str → Option Value} {base : Heap} {f : Addr} {fd : FuncData} (Fu : Fun K "require_level" "require_level" s_require_level f fd) (G : Facts mg) (O : Objs K mg) (D_is_whole : Df Pg w K mg base 2 "is_whole" (spZ K mg sp_is_whole)) : FnP Pg w K mg base 3 f fd ["index", "value"] (spZ K mg sp_require_level) :=
  okZ (N := N_require_level) (t := t_require_level) Fu sc_require_level ln_require_level (fun cdv A outer s H E Z0 nb C => dv_require_level G O D_is_whole cdv A outer s H E Z0 nb C) rd_require_level
/-! #### is_pair -/
def pairB (most : Nat) (p : Pr) : Bool := decide (1 ≤ p.1 ∧ p.1 ≤ most ∧ 1 ≤ p.2 ∧ p.2 ≤ 10 ^ 30)
def sp_is_pair : ZSp := fun ds Q _ => ∃ (p : Pr) (most : Nat), ds = [prD p, .int (most : Int)] ∧ Q (.sh (.bl (pairB most p)))
def t_is_pair : ZS := zSeq (zIfS (zOrT (zNotT (zB (zIsi "tuple" (zVarV 0)))) (zOrT (zCmpT fNe (zLen (zVarV 0)) (zC (.int 2))) (zNotT (zB (zBlt fAll (zCons (zFD (zLc [2] (zItS (zVar 0)) (gzName 2) (zYes) (zCall sp_is_int eF (zCons (zVar 2) (zNil))))) (zNil))))))) (zRet (zC (.bl false))) (zNext)) (
  zRet (zAndV (zChain fLe fLe (zC (.int 1)) (zIx (zVarV 0) (zC (.int 0))) (zVar 1)) (zChain fLe fLe (zC (.int 1)) (zIx (zVarV 0) (zC (.int 1))) (zC (.int 1000000000000000000000000000000)))))
theorem dv_is_pair {Pg : Program} {w : World} {K : PySem.W.Frag} {mg : Str → Option Value} {base : Heap} {f : Addr} (G : Facts mg) (O : Objs K mg) (D_is_int : Df Pg w K mg base 1 "is_int" (spZ K mg sp_is_int)) (cdv : Value) (A : Around) (outer : List Env) (s : Shared) (H : Hp) (E : XK) (Z0 : Zc) (nb : NoBag (Sup Z0)) (C : Cd 1 (cxOf (L2.CX Pg w) Pg w K mg base N_is_pair "is_pair" (defScope s_is_pair) f cdv A outer s H E) (Sup Z0)) :
    PSsd (cxOf (L2.CX Pg w) Pg w K mg base N_is_pair "is_pair" (defScope s_is_pair) f cdv A outer s H E) (Sup Z0) (defBody s_is_pair) t_is_pair :=
  (ssd_cons (sd_if (wd_or (td_not (pt_b (pd_isi (T := "tuple") (by rfl) G.b_isinstance (by rfl) G.b_tuple rfl (pv_var 0) (by decide)))) (wd_or (pt_cmp (op_neA C.hu) cz_ne (pd_len (by rfl) G.b_len PySem.boot_len (pv_var 0)) pd_int) (wd_or1 (td_not (pt_b (pd_blt bz_all (cr_all C.calm) (by rfl) G.b_all rfl (ad_cons (pf_lc (own := [("number", 2)]) C.calm C.nd nb.l (id_seq (pd_var 0 (nb.s 0))) (blkOk_by (N := N_is_pair) (sc := defScope s_is_pair) (by decide +kernel)) (by decide) (fun _ _ _ _ _ => (gd_name (i := 2) (nb.pin.s 2) C.blk.nd)) (fun _ _ _ _ _ => tsd_nil) (fun _ _ _ _ _ => (dd_call D_is_int C.blk (by rfl) eF ez0 (ad_cons (pd_var 2 (nb.pin.s 2)) ad_nil)))).pd ad_nil))))))).pt (ssd_one (sd_ret pd_bl)) ssd_nil)
    (ssd_one (sd_ret (pd_and (pd_chain op_le cz_le op_le cz_le pd_int (pd_ix (pv_var 0) pd_int) (pd_var 1 (nb.s 1))) (pd_one (pd_chain op_le cz_le op_le cz_le pd_int (pd_ix (pv_var 0) pd_int) (pd_globi (by rfl) G.c_MOST_TIMES)))))))
--% reads
theorem ln_is_pair : ∀ ds Qz Ez, sp_is_pair ds Qz Ez → ds.length = 2 := by
  rintro ds Q E ⟨_, _, rfl, _⟩
  rfl
theorem rd_is_pair : ∀ ds Qz (Ez : Str → Option (Str × D) → Prop), sp_is_pair ds Qz Ez → t_is_pair { nx := fun _ => Qz (.sh .non), rt := fun r _ => Qz r } (startS N_is_pair ds) := by
  rintro ds Q E ⟨⟨s, t⟩, most, rfl, q⟩
  have no : ¬ (1 ≤ s ∧ s ≤ most ∧ 1 ≤ t ∧ t ≤ 10 ^ 30) → Q (.sh (.bl false)) := fun z => by
    have : pairB most (s, t) = false := decide_eq_false z
    rwa [this] at q
  and_intros
  refine ⟨⟨trivial, trivial⟩, ?_⟩
  and_intros
  refine ⟨fun a => ?_, fun a => ?_⟩
  · have a := asc a
    and_intros
    refine ⟨fun b => ?_, fun b => ?_⟩
    · have b := asc b
      and_intros
      refine ⟨fun c => ?_, fun c => ?_⟩
      · have c := asc c
        and_intros
        by_cases w : t ≤ 10 ^ 30
        · have : pairB most (s, t) = true := decide_eq_true ⟨by omega, by omega, by omega, w⟩
          rw [this] at q
          rw [decide_eq_true (show (t : Int) ≤ 1000000000000000000000000000000 by omega)]
          exact q
        · rw [decide_eq_false (show ¬ (t : Int) ≤ 1000000000000000000000000000000 by omega)]
          exact no fun y => w y.2.2.2
      · exact no fun y => nac c (by have := y.2.2.1; omega)
    · and_intros
      exact no fun y => nac b (by have := y.2.1; omega)
  · and_intros
    exact no fun y => nac a (by have := y.1; omega)
theorem ok_is_pair {Pg : Program} {w : World} {K : PySem.W.Frag} {mg : Str → Option Value} {base : Heap} {f : Addr} {fd : FuncData} (Fu : Fun K "is_pair" "is_pair" s_is_pair f fd) (G : Facts mg) (O : Objs K mg) (D_is_int : Df Pg w K mg base 1 "is_int" (spZ K mg sp_is_int)) : FnP Pg w K mg base 2 f fd ["value", "most"] (spZ K mg sp_is_pair) :=
  okZ (N := N_is_pair) (t := fun _ => t_is_pair) Fu sc_is_pair ln_is_pair (fun cdv A outer s H E Z0 nb C => dv_is_pair G O D_is_int cdv A outer s H E Z0 nb C) rd_is_pair
/-! #### is_empty_level -/
def sp_is_empty_level : ZSp := fun ds Q _ => ∃ (p : Pr) (ps : List Pr), ds = [lvP (p :: ps)] ∧ Q (.sh (.bl (decide (ps = [] ∧ p = (0, 1)))))
def t_is_empty_level : ZS := zSeq (zSet (zIx (zVarV 0) (zC (.int 0))) 1) (
  zSeq (zIfS (zOrT (zCmpT fNe (zLen (zVarV 0)) (zC (.int 1))) (zOrT (zNotT (zB (zIsi "tuple" (zVarV 1)))) (zCmpT fNe (zLen (zVarV 1)) (zC (.int 2))))) (zRet (zC (.bl false))) (zNext)) (
  zRet (zAndV (zCall sp_is_whole eF (zCons (zIx (zVarV 1) (zC (.int 0))) (zCons (zC (.int 0)) (zCons (zC (.int 0)) (zNil))))) (zCall sp_is_whole eF (zCons (zIx (zVarV 1) (zC (.int 1))) (zCons (zC (.int 1)) (zCons (zC (.int 1)) (zNil))))))))
theorem dv_is_empty_level {Pg : Program} {w : World} {K : PySem.W.Frag} {mg : Str → Option Value} {base : Heap} {f : Addr} (G : Facts mg) (O : Objs K mg) (D_is_whole : Df Pg w K mg base 2 "is_whole" (spZ K mg sp_is_whole)) (cdv : Value) (A : Around) (outer : List Env) (s : Shared) (H : Hp) (E : XK) (Z0 : Zc) (nb : NoBag (Sup Z0)) (C : Cd 2 (cxOf (L2.CX Pg w) Pg w K mg base N_is_empty_level "is_empty_level" (defScope s_is_empty_level) f cdv A outer s H E) (Sup Z0)) :
    PSsd (cxOf (L2.CX Pg w) Pg w K mg base N_is_empty_level "is_empty_level" (defScope s_is_empty_level) f cdv A outer s H E) (Sup Z0) (defBody s_is_empty_level) t_is_empty_level :=
  (ssd_cons (sd_set (i := 1) (nb.s 1) C.nd (pd_ix (pv_var 0) pd_int))
    (ssd_cons (sd_if (wd_or (pt_cmp (op_neA C.hu) cz_ne (pd_len (by rfl) G.b_len PySem.boot_len (pv_var 0)) pd_int) (wd_or (td_not (pt_b (pd_isi (T := "tuple") (by rfl) G.b_isinstance (by rfl) G.b_tuple rfl (pv_var 1) (by decide)))) (wd_or1 (pt_cmp (op_neA C.hu) cz_ne (pd_len (by rfl) G.b_len PySem.boot_len (pv_var 1)) pd_int)))).pt (ssd_one (sd_ret pd_bl)) ssd_nil)
    (ssd_one (sd_ret (pd_and (dd_call D_is_whole C (by rfl) eF ez0 (ad_cons (pd_ix (pv_var 1) pd_int) (ad_cons pd_int (ad_cons pd_int ad_nil)))) (pd_one (dd_call D_is_whole C (by rfl) eF ez0 (ad_cons (pd_ix (pv_var 1) pd_int) (ad_cons pd_int (ad_cons pd_int ad_nil))))))))))
--% reads
theorem ln_is_empty_level : ∀ ds Qz Ez, sp_is_empty_level ds Qz Ez → ds.length = 1 := by
  rintro ds Q E ⟨_, _, rfl, _⟩
  rfl
theorem rd_is_empty_level : ∀ ds Qz (Ez : Str → Option (Str × D) → Prop), sp_is_empty_level ds Qz Ez → t_is_empty_level { nx := fun _ => Qz (.sh .non), rt := fun r _ => Qz r } (startS N_is_empty_level ds) := by
  rintro ds Q E ⟨⟨s, t⟩, ps, rfl, q⟩
  cases ps with
  | cons b ps =>
    rw [show decide ((b :: ps) = [] ∧ (s, t) = (0, 1)) = false from decide_eq_false fun z => by cases z.1] at q
    and_intros
    refine ⟨_, atI_nat (j := 0) rfl, ?_⟩
    and_intros
    exact q
  | nil =>
    and_intros
    refine ⟨fun z => ?_, fun z => ?_⟩
    · have h0 : s = 0 := by simp [wholeD] at z; omega
      subst h0
      and_intros
      have e : wholeD 1 1 (.int t) = decide (([] : List Pr) = [] ∧ ((0 : Nat), t) = (0, 1)) := by
        by_cases h1 : t = 1
        · subst h1; decide
        · rw [decide_eq_false (by simp; exact h1)]
          simp [wholeD]; omega
      rw [e]
      exact q
    · rw [show decide (([] : List Pr) = [] ∧ (s, t) = (0, 1)) = false from decide_eq_false fun y => by
        have h0 : s = 0 := congrArg Prod.fst y.2
        subst h0
        exact Bool.noConfusion z] at q
      exact q
theorem ok_is_empty_level {Pg : Program} {w : World} {K : PySem.W.Frag} {mg : Str → Option Value} {base : Heap} {f : Addr} {fd : FuncData} (Fu : Fun K "is_empty_level" "is_empty_level" s_is_empty_level f fd) (G : Facts mg) (O : Objs K mg) (D_is_whole : Df Pg w K mg base 2 "is_whole" (spZ K mg sp_is_whole)) : FnP Pg w K mg base 3 f fd ["level"] (spZ K mg sp_is_empty_level) :=
  okZ (N := N_is_empty_level) (t := fun _ => t_is_empty_level) Fu sc_is_empty_level ln_is_empty_level (fun cdv A outer s H E Z0 nb C => dv_is_empty_level G O D_is_whole cdv A outer s H E Z0 nb C) rd_is_empty_level
/-! #### is_level -/
def PSok (r : RN) (PS : List (List Pr)) : Prop := 1 ≤ PS.length ∧ PS.length ≤ 100 ∧ (PS = [[(0, 1)]] ∨ ∀ i ps, PS[i]? = some ps → 1 ≤ ps.length ∧ ps.length ≤ 12 ∧ (∀ p ∈ ps, pairB (r.most i) p = true) ∧
  (∀ j qs, i = j + 1 → PS[j]? = some qs → (ex ps).sum = (ex qs).length) ∧ ((ex ps).length = 1 ↔ i + 1 = PS.length))
def sp_is_level : ZSp := fun ds Q _ => ∃ (r : RN) (PS : List (List Pr)) (i : Nat), ds = [.lst (PS.map lvP), .int (i : Int), .int (r.most i : Int)] ∧ PSok r PS ∧ r.ok ∧ i < PS.length ∧ Q (.sh (.bl true))
def t_is_level : ZS := zSeq (zPar 3 4 (zXD (zIx (zVarV 0) (zVar 1))) (zXD (zCmp fEq (zVar 1) (zSub (zLen (zVarV 0)) (zC (.int 1)))))) (
  zSeq (zIfS (zOrT (zNotT (zB (zIsi "list" (zVarV 3)))) (zNotT (zChainT fLe fLe (zC (.int 1)) (zLen (zVarV 3)) (zC (.int 12))))) (zRet (zC (.bl false))) (zNext)) (
  zSeq (zIfS (zAndT (zCmpT fEq (zVar 1) (zC (.int 0))) (zAndT (zB (zVar 4)) (zB (zCall sp_is_empty_level eF (zCons (zVar 3) (zNil)))))) (zRet (zC (.bl true))) (zNext)) (
  zSeq (zIfS (zNotT (zB (zBlt fAll (zCons (zFD (zLc [5] (zItS (zVar 3)) (gzName 5) (zYes) (zCall sp_is_pair eF (zCons (zVar 5) (zCons (zVar 2) (zNil)))))) (zNil))))) (zRet (zC (.bl false))) (zNext)) (
  zSeq (zIfS (zAndT (zCmpT fGt (zVar 1) (zC (.int 0))) (zCmpT fNe (zCall sp_item_count eF (zCons (zVar 3) (zNil))) (zCall sp_page_count eF (zCons (zIx (zVarV 0) (zSub (zVar 1) (zC (.int 1)))) (zNil))))) (zRet (zC (.bl false))) (zNext)) (
  zRet (zCmp fEq (zCmp fEq (zCall sp_page_count eF (zCons (zVar 3) (zNil))) (zC (.int 1))) (zVar 4)))))))
theorem dv_is_level {Pg : Program} {w : World} {K : PySem.W.Frag} {mg : Str → Option Value} {base : Heap} {f : Addr} (G : Facts mg) (O : Objs K mg) (D_page_count : Df Pg w K mg base 1 "page_count" (spZ K mg sp_page_count)) (D_item_count : Df Pg w K mg base 1 "item_count" (spZ K mg sp_item_count)) (D_is_pair : Df Pg w K mg base 2 "is_pair" (spZ K mg sp_is_pair)) (D_is_empty_level : Df Pg w K mg base 3 "is_empty_level" (spZ K mg sp_is_empty_level)) (cdv : Value) (A : Around) (outer : List Env) (s : Shared) (H : Hp) (E : XK) (Z0 : Zc) (nb : NoBag (Sup Z0)) (C : Cd 3 (cxOf (L2.CX Pg w) Pg w K mg base N_is_level "is_level" (defScope s_is_level) f cdv A outer s H E) (Sup Z0)) :
    PSsd (cxOf (L2.CX Pg w) Pg w K mg base N_is_level "is_level" (defScope s_is_level) f cdv A outer s H E) (Sup Z0) (defBody s_is_level) t_is_level :=
  (ssd_cons (sd_par (i := 3) (j := 4) C (nb.s 3) (nb.s 4) (pd_ix (pv_var 0) (pd_var 1 (nb.s 1))).px (pd_cmp (op_eqA C.hu) cz_eq (pd_var 1 (nb.s 1)) (pd_sub (pd_len (by rfl) G.b_len PySem.boot_len (pv_var 0)) pd_int)).px)
    (ssd_cons (sd_if (wd_or (td_not (pt_b (pd_isi (T := "list") (by rfl) G.b_isinstance (by rfl) G.b_list rfl (pv_var 3) (by decide)))) (wd_or1 (td_not (pt_chainZ op_le cz_le op_le cz_le pd_int (pd_len (by rfl) G.b_len PySem.boot_len (pv_var 3)) (pd_globi (by rfl) G.c_MOST_PAIRS))))).pt (ssd_one (sd_ret pd_bl)) ssd_nil)
    (ssd_cons (sd_if (wd_and (pt_cmp (op_eqA C.hu) cz_eq (pd_var 1 (nb.s 1)) pd_int) (wd_and (pt_b (pd_var 4 (nb.s 4))) (wd_and1 (pt_b (dd_call D_is_empty_level C (by rfl) eF ez0 (ad_cons (pd_var 3 (nb.s 3)) ad_nil)))))).pt (ssd_one (sd_ret pd_bl)) ssd_nil)
    (ssd_cons (sd_if (td_not (pt_b (pd_blt bz_all (cr_all C.calm) (by rfl) G.b_all rfl (ad_cons (pf_lc (own := [("pair", 5)]) C.calm C.nd nb.l (id_seq (pd_var 3 (nb.s 3))) (blkOk_by (N := N_is_level) (sc := defScope s_is_level) (by decide +kernel)) (by decide) (fun _ _ _ _ _ => (gd_name (i := 5) (nb.pin.s 5) C.blk.nd)) (fun _ _ _ _ _ => tsd_nil) (fun _ _ _ _ _ => (dd_call D_is_pair C.blk (by rfl) eF ez0 (ad_cons (pd_var 5 (nb.pin.s 5)) (ad_cons (pd_var 2 (nb.pin.s 2)) ad_nil))))).pd ad_nil)))) (ssd_one (sd_ret pd_bl)) ssd_nil)
    (ssd_cons (sd_if (wd_and (pt_cmp op_gt cz_gt (pd_var 1 (nb.s 1)) pd_int) (wd_and1 (pt_cmp (op_neA C.hu) cz_ne (dd_call D_item_count C (by rfl) eF ez0 (ad_cons (pd_var 3 (nb.s 3)) ad_nil)) (dd_call D_page_count C (by rfl) eF ez0 (ad_cons (pd_ix (pv_var 0) (pd_sub (pd_var 1 (nb.s 1)) pd_int)) ad_nil))))).pt (ssd_one (sd_ret pd_bl)) ssd_nil)
    (ssd_one (sd_ret (pd_cmp (op_eqA C.hu) cz_eq (pd_cmp (op_eqA C.hu) cz_eq (dd_call D_page_count C (by rfl) eF ez0 (ad_cons (pd_var 3 (nb.s 3)) ad_nil)) pd_int) (pd_var 4 (nb.s 4))))))))))
--% reads
theorem ln_is_level : ∀ ds Qz Ez, sp_is_level ds Qz Ez → ds.length = 3 := by
  rintro ds Q E ⟨_, _, _, rfl, _⟩
  rfl
theorem PSok.pok {r : RN} {PS : List (List Pr)} (h : PSok r PS) (hr : r.ok) {i : Nat} {ps : List Pr} (e : PS[i]? = some ps) : Pok ps ∧ ps.length ≤ 12 ∧ ps ≠ [] := by
  obtain ⟨h1, h2, rfl | h3⟩ := h
  · cases i with
    | zero => simp at e; subst e; exact ⟨fun p hp => by rw [List.mem_singleton.mp hp]; decide, by decide, by simp⟩
    | succ i => simp at e
  · obtain ⟨g1, g2, g3, _⟩ := h3 i ps e
    refine ⟨fun p hp => ?_, g2, fun z => by rw [z] at g1; simp at g1⟩
    obtain ⟨y1, y2, y3, y4⟩ := of_decide_eq_true (g3 p hp)
    obtain ⟨z1, z2, _⟩ := hr.parts i
    have : (10 : Nat) ^ 30 < 2 ^ 200 := by decide
    omega
theorem rd_is_level : ∀ ds Qz (Ez : Str → Option (Str × D) → Prop), sp_is_level ds Qz Ez → t_is_level { nx := fun _ => Qz (.sh .non), rt := fun r _ => Qz r } (startS N_is_level ds) := by
  rintro ds Q E ⟨r, PS, i, rfl, hP, hr, hi, q⟩
  obtain ⟨ps, hps⟩ : ∃ ps, PS[i]? = some ps := ⟨_, List.getElem?_eq_getElem hi⟩
  obtain ⟨pk, pl, pn⟩ := hP.pok hr hps
  have hat : atI (PS.map lvP) (i : Int) = some (lvP ps) := atI_nat (by rw [List.getElem?_map, hps]; rfl)
  have h23 : (12 : Nat) ≤ 2 ^ 23 := by decide
  and_intros
  refine ⟨_, hat, ?_⟩
  and_intros
  have e1 : decide ((i : Int) = ((PS.map lvP).length : Int) - 1) = decide (i + 1 = PS.length) := by
    rw [List.length_map]
    congr 1
    exact propext ⟨by omega, by omega⟩
  have e2 : 1 ≤ ps.length := by cases ps with
    | nil => exact absurd rfl pn
    | cons a b => simp
  rw [e1]
  refine ⟨fun _ => ?_, fun z => absurd (nac z) (by rw [List.length_map]; omega)⟩
  and_intros
  rw [show decide (((ps.map prD).length : Int) ≤ 12) = true from decide_eq_true (by rw [List.length_map]; omega)]
  refine ⟨fun z => Bool.noConfusion (show false = true from z), fun _ => ?_⟩
  obtain ⟨p, ps', rfl⟩ : ∃ p ps', ps = p :: ps' := by cases ps with
    | nil => exact absurd rfl pn
    | cons a b => exact ⟨_, _, rfl⟩
  by_cases hE : PS = [[(0, 1)]]
  · subst hE
    have h0 : i = 0 := by simp at hi; exact hi
    subst h0
    simp at hps
    obtain ⟨rfl, rfl⟩ := hps
    and_intros
    exact q
  · obtain ⟨h1, h2, h3 | h3⟩ := hP
    · exact absurd h3 hE
    obtain ⟨g1, g2, g3, g4, g5⟩ := h3 i _ hps
    refine nx_go ?_
    dsimp only
    refine zSeq_cut (fun S' => S' = [.sh (.lst (PS.map lvP)), .sh (.int i), .sh (.int (r.most i)), .sh (lvP (p :: ps')), .sh (.bl (decide (i + 1 = PS.length))), .un]) (fun K hK => ?_) fun S' hS => ?_
    · and_intros
      refine ⟨fun z => ?_, fun z => ?_⟩
      · have z := asc z
        and_intros
        refine ⟨fun y => ?_, fun y => ?_⟩
        · and_intros
          have hp := of_decide_eq_true (g3 p List.mem_cons_self)
          rw [show decide (ps' = [] ∧ p = (0, 1)) = false from decide_eq_false fun w => by rw [w.2] at hp; exact absurd hp.1 (by decide)]
          and_intros
          exact hK _ rfl
        · and_intros
          exact hK _ rfl
      · and_intros
        exact hK _ rfl
    · subst hS
      refine zSeq_cut (fun S' => S' = [.sh (.lst (PS.map lvP)), .sh (.int i), .sh (.int (r.most i)), .sh (lvP (p :: ps')), .sh (.bl (decide (i + 1 = PS.length))), .un]) (fun K hK => ?_) fun S' hS => ?_
      · and_intros
        refine ⟨⟨trivial, trivial⟩, lczA (fun p => .bl (pairB (r.most i) p)) (fun S => S = [.sh (.lst (PS.map lvP)), .sh (.int i), .sh (.int (r.most i)), .sh (lvP (p :: ps')), .sh (.bl (decide (i + 1 = PS.length))), .un]) rfl (by have := gt23; simp only [List.length_nil]; omega) ?_ ?_⟩
        · rintro x hx S rfl A hA
          and_intros
          exact hA _ rfl
        · rintro S rfl
          rw [List.nil_append]
          and_intros
          have eb : D.bools ((p :: ps').map fun p => D.bl (pairB (r.most i) p)) = some ((p :: ps').map (pairB (r.most i))) := by
            have := bools_map ((p :: ps').map (pairB (r.most i)))
            rw [List.map_map] at this
            exact this
          refine ⟨_, eb, ?_⟩
          rw [show ((p :: ps').map (pairB (r.most i))).all id = true from List.all_eq_true.mpr fun x hx => by
            obtain ⟨y, hy, rfl⟩ := List.mem_map.mp hx
            exact g3 y hy]
          and_intros
          exact hK _ rfl
      · subst hS
        refine zSeq_cut (fun S' => S' = [.sh (.lst (PS.map lvP)), .sh (.int i), .sh (.int (r.most i)), .sh (lvP (p :: ps')), .sh (.bl (decide (i + 1 = PS.length))), .un]) (fun K hK => ?_) fun S' hS => ?_
        · and_intros
          refine ⟨fun z => ?_, fun z => ?_⟩
          · have z := asc z
            obtain ⟨j, rfl⟩ : ∃ j, i = j + 1 := ⟨i - 1, by omega⟩
            obtain ⟨qs, hqs⟩ : ∃ qs, PS[j]? = some qs := ⟨_, List.getElem?_eq_getElem (by omega)⟩
            obtain ⟨_, ql, _⟩ := (show PSok r PS from ⟨h1, h2, .inr h3⟩).pok hr hqs
            have hat2 : atI (PS.map lvP) ((j + 1 : Nat) - 1 : Int) = some (lvP qs) := by
              rw [show (((j + 1 : Nat) : Int) - 1) = (j : Int) by omega]
              exact atI_nat (by rw [List.getElem?_map, hqs]; rfl)
            and_intros
            refine ⟨_, p :: ps', rfl, .inl rfl, by omega, pk, ?_⟩
            and_intros
            refine ⟨_, hat2, ?_⟩
            and_intros
            refine ⟨_, qs, rfl, .inl rfl, by omega, ?_⟩
            rw [g4 j qs rfl hqs]
            and_intros
            rw [show decide (((ex qs).length : Int) = ((ex qs).length : Int)) = true from decide_eq_true rfl]
            and_intros
            exact hK _ rfl
          · and_intros
            exact hK _ rfl
        · subst hS
          and_intros
          refine ⟨_, p :: ps', rfl, .inl rfl, by omega, ?_⟩
          and_intros
          rw [show decide (decide (((ex (p :: ps')).length : Int) = 1) = decide (i + 1 = PS.length)) = true from decide_eq_true (by
            congr 1
            exact propext ⟨fun y => g5.mp (by omega), fun y => by have := g5.mpr y; omega⟩)]
          exact q
theorem ok_is_level {Pg : Program} {w : World} {K : PySem.W.Frag} {mg : Str → Option Value} {base : Heap} {f : Addr} {fd : FuncData} (Fu : Fun K "is_level" "is_level" s_is_level f fd) (G : Facts mg) (O : Objs K mg) (D_page_count : Df Pg w K mg base 1 "page_count" (spZ K mg sp_page_count)) (D_item_count : Df Pg w K mg base 1 "item_count" (spZ K mg sp_item_count)) (D_is_pair : Df Pg w K mg base 2 "is_pair" (spZ K mg sp_is_pair)) (D_is_empty_level : Df Pg w K mg base 3 "is_empty_level" (spZ K mg sp_is_empty_level)) : FnP Pg w K mg base 4 f fd ["levels", "spot", "most"] (spZ K mg sp_is_level) :=
  okZ (N := N_is_level) (t := fun _ => t_is_level) Fu sc_is_level ln_is_level (fun cdv A outer s H E Z0 nb C => dv_is_level G O D_page_count D_item_count D_is_pair D_is_empty_level cdv A outer s H E Z0 nb C) rd_is_level
/-! #### require_levels -/
def sp_require_levels : ZSp := fun ds Q _ => ∃ (r : RN) (PS : List (List Pr)), ds = [r.d, .lst (PS.map lvP)] ∧ PSok r PS ∧ r.ok ∧ Q (.sh .non)
def t_require_levels (ez : Str → Option (Str × D) → Prop) : ZS := zSeq (zIfS (zOrT (zNotT (zB (zIsi "list" (zVarV 1)))) (zNotT (zChainT fLe fLe (zC (.int 1)) (zLen (zVarV 1)) (zC (.int 100))))) (zRaiseF ez "InvalidLevels" "level" (zC .non)) (zNext)) (
  zFor (zItR1 (zLen (zVarV 1))) (gzName 2) (zIfS (zNotT (zB (zCall sp_is_level eF (zCons (zVar 1) (zCons (zVar 2) (zCons (zIf (zCmpT fEq (zVar 2) (zC (.int 0))) (zProp "Rule" sp_Rule_leaf (zVarV 0)) (zProp "Rule" sp_Rule_inner (zVarV 0))) (zNil))))))) (zRaiseF ez "InvalidLevels" "level" (zVar 2)) (zNext)))
theorem dv_require_levels {Pg : Program} {w : World} {K : PySem.W.Frag} {mg : Str → Option Value} {base : Heap} {f : Addr} (G : Facts mg) (O : Objs K mg) (D_InvalidLevels_init : Ei Pg w K mg base 1 "InvalidLevels" "level") (D_Rule_leaf : Kp Pg w K mg base 1 "Rule" "leaf" sp_Rule_leaf) (D_Rule_inner : Kp Pg w K mg base 1 "Rule" "inner" sp_Rule_inner) (D_is_level : Df Pg w K mg base 4 "is_level" (spZ K mg sp_is_level)) (cdv : Value) (A : Around) (outer : List Env) (s : Shared) (H : Hp) (E : XK) (Z0 : Zc) (nb : NoBag (Sup Z0)) (C : Cd 4 (cxOf (L2.CX Pg w) Pg w K mg base N_require_levels "require_levels" (defScope s_require_levels) f cdv A outer s H E) (Sup Z0)) :
    PSsd (cxOf (L2.CX Pg w) Pg w K mg base N_require_levels "require_levels" (defScope s_require_levels) f cdv A outer s H E) (Sup Z0) (defBody s_require_levels) (t_require_levels Z0.ez) :=
  (ssd_cons (sd_if (wd_or (td_not (pt_b (pd_isi (T := "list") (by rfl) G.b_isinstance (by rfl) G.b_list rfl (pv_var 1) (by decide)))) (wd_or1 (td_not (pt_chainZ op_le cz_le op_le cz_le pd_int (pd_len (by rfl) G.b_len PySem.boot_len (pv_var 1)) (pd_globi (by rfl) G.c_MOST_LEVELS))))).pt (ssd_one (sd_raiseF (ez := Z0.ez) D_InvalidLevels_init C (by rfl) ezS pd_non)) ssd_nil)
    (ssd_one (sd_for C.po C.calm (id_range1 (by rfl) G.b_range (pd_len (by rfl) G.b_len PySem.boot_len (pv_var 1))) (gd_name (i := 2) (nb.s 2) C.nd) (ssd_one (sd_if (td_not (pt_b (dd_call D_is_level C (by rfl) eF ez0 (ad_cons (pd_var 1 (nb.s 1)) (ad_cons (pd_var 2 (nb.s 2)) (ad_cons (pd_if (pt_cmp (op_eqA C.hu) cz_eq (pd_var 2 (nb.s 2)) pd_int) (pd_prop D_Rule_leaf C (pv_var 0)) (pd_prop D_Rule_inner C (pv_var 0))) ad_nil)))))) (ssd_one (sd_raiseF (ez := Z0.ez) D_InvalidLevels_init C (by rfl) ezS (pd_var 2 (nb.s 2)))) ssd_nil)))))
--% reads
theorem ln_require_levels : ∀ ds Qz Ez, sp_require_levels ds Qz Ez → ds.length = 2 := by
  rintro ds Q E ⟨_, _, rfl, _⟩
  rfl
theorem rd_require_levels : ∀ ds Qz (Ez : Str → Option (Str × D) → Prop), sp_require_levels ds Qz Ez → t_require_levels Ez { nx := fun _ => Qz (.sh .non), rt := fun r _ => Qz r } (startS N_require_levels ds) := by
  rintro ds Q E ⟨r, PS, rfl, hP, hr, q⟩
  obtain ⟨h1, h2, _⟩ := id hP
  and_intros
  refine ⟨fun _ => ?_, fun z => absurd (nac z) (by rw [List.length_map]; omega)⟩
  and_intros
  rw [show decide (((PS.map lvP).length : Int) ≤ 100) = true from decide_eq_true (by rw [List.length_map]; omega)]
  and_intros
  refine ⟨by omega, by rw [List.length_map]; omega, ?_⟩
  refine forz_ind (fun i S => ∃ x, S = [.sh r.d, .sh (.lst (PS.map lvP)), x]) ⟨_, rfl⟩ ?_ ?_
  · rintro i d S hd ⟨x, rfl⟩ K hK
    obtain ⟨hi, rfl⟩ := rangeD_get hd
    rw [List.length_map, Int.toNat_natCast] at hi
    rw [Int.zero_add]
    and_intros
    refine ⟨fun z => ?_, fun z => ?_⟩
    · have z := asc z
      have z' : i = 0 := by omega
      subst z'
      and_intros
      refine ⟨hP, hr, hi, ?_⟩
      and_intros
      exact hK _ ⟨_, rfl⟩
    · have z := nac z
      have z' : ¬ i = 0 := by omega
      and_intros
      refine ⟨r, PS, i, by rw [show r.most i = r.inn by unfold RN.most; rw [if_neg z']], hP, hr, hi, ?_⟩
      and_intros
      exact hK _ ⟨_, rfl⟩
  · rintro S ⟨x, rfl⟩
    exact q
theorem ok_require_levels {Pg : Program} {w : World} {K : PySem.W.Frag} {mg : Str → Option Value} {base : Heap} {f : Addr} {fd : FuncData} (Fu : Fun K "require_levels" "require_levels" s_require_levels f fd) (G : Facts mg) (O : Objs K mg) (D_InvalidLevels_init : Ei Pg w K mg base 1 "InvalidLevels" "level") (D_Rule_leaf : Kp Pg w K mg base 1 "Rule" "leaf" sp_Rule_leaf) (D_Rule_inner : Kp Pg w K mg base 1 "Rule" "inner" sp_Rule_inner) (D_is_level : Df Pg w K mg base 4 "is_level" (spZ K mg sp_is_level)) : FnP Pg w K mg base 5 f fd ["rule", "value"] (spZ K mg sp_require_levels) :=
  okZ (N := N_require_levels) (t := t_require_levels) Fu sc_require_levels ln_require_levels (fun cdv A outer s H E Z0 nb C => dv_require_levels G O D_InvalidLevels_init D_Rule_leaf D_Rule_inner D_is_level cdv A outer s H E Z0 nb C) rd_require_levels
/-! #### own_form -/
def sp_own_form : ZSp := fun ds Q _ => ∃ (PS : List (Bool × List Pr)), ds = [.lst (PS.map lvQ)] ∧ PS.length ≤ 2 ^ 23 ∧ (∀ q ∈ PS, q.2.length ≤ 2 ^ 23 ∧ Sm (ex q.2)) ∧ Q (.sh (.tup (PS.map fun q => lvT (ex q.2))))
def t_own_form : ZS := zRet (zBlt fTupleOf (zCons (zFD (zLc [1] (zItS (zVar 0)) (gzName 1) (zYes) (zBlt fTupleOf (zCons (zCall sp_normal_level eF (zCons (zVar 1) (zNil))) (zNil))))) (zNil)))
theorem dv_own_form {Pg : Program} {w : World} {K : PySem.W.Frag} {mg : Str → Option Value} {base : Heap} {f : Addr} (G : Facts mg) (O : Objs K mg) (D_normal_level : Df Pg w K mg base 1 "normal_level" (spZ K mg sp_normal_level)) (cdv : Value) (A : Around) (outer : List Env) (s : Shared) (H : Hp) (E : XK) (Z0 : Zc) (nb : NoBag (Sup Z0)) (C : Cd 1 (cxOf (L2.CX Pg w) Pg w K mg base N_own_form "own_form" (defScope s_own_form) f cdv A outer s H E) (Sup Z0)) :
    PSsd (cxOf (L2.CX Pg w) Pg w K mg base N_own_form "own_form" (defScope s_own_form) f cdv A outer s H E) (Sup Z0) (defBody s_own_form) t_own_form :=
  (ssd_one (sd_ret (pd_bty bz_tupleOf call_tuple_of (by rfl) G.b_tuple rfl (ad_cons (pf_lc (own := [("level", 1)]) C.calm C.nd nb.l (id_seq (pd_var 0 (nb.s 0))) (blkOk_by (N := N_own_form) (sc := defScope s_own_form) (by decide +kernel)) (by decide) (fun _ _ _ _ _ => (gd_name (i := 1) (nb.pin.s 1) C.blk.nd)) (fun _ _ _ _ _ => tsd_nil) (fun _ _ _ _ _ => (pd_bty bz_tupleOf call_tuple_of (by rfl) G.b_tuple rfl (ad_cons (dd_call D_normal_level C.blk (by rfl) eF ez0 (ad_cons (pd_var 1 (nb.pin.s 1)) ad_nil)) ad_nil)))).pd ad_nil))))
--% reads
theorem ln_own_form : ∀ ds Qz Ez, sp_own_form ds Qz Ez → ds.length = 1 := by
  rintro ds Q E ⟨_, rfl, _⟩
  rfl
theorem rd_own_form : ∀ ds Qz (Ez : Str → Option (Str × D) → Prop), sp_own_form ds Qz Ez → t_own_form { nx := fun _ => Qz (.sh .non), rt := fun r _ => Qz r } (startS N_own_form ds) := by
  rintro ds Q E ⟨PS, rfl, hl, h, q⟩
  have h23 := gt23
  and_intros
  refine ⟨⟨trivial, trivial⟩, lczA (fun q => lvT (ex q.2)) (fun S => S = [.sh (.lst (PS.map lvQ)), .un]) rfl (by simp only [List.length_nil]; omega) ?_ ?_⟩
  · rintro ps hps S rfl A hA
    and_intros
    refine ⟨_, ps.2, rfl, isLv_Q ps, (h ps hps).1, (h ps hps).2, ?_⟩
    and_intros
    exact hA _ rfl
  · rintro S rfl
    rw [List.nil_append]
    and_intros
    exact q
theorem ok_own_form {Pg : Program} {w : World} {K : PySem.W.Frag} {mg : Str → Option Value} {base : Heap} {f : Addr} {fd : FuncData} (Fu : Fun K "own_form" "own_form" s_own_form f fd) (G : Facts mg) (O : Objs K mg) (D_normal_level : Df Pg w K mg base 1 "normal_level" (spZ K mg sp_normal_level)) : FnP Pg w K mg base 2 f fd ["levels"] (spZ K mg sp_own_form) :=
  okZ (N := N_own_form) (t := fun _ => t_own_form) Fu sc_own_form ln_own_form (fun cdv A outer s H E Z0 nb C => dv_own_form G O D_normal_level cdv A outer s H E Z0 nb C) rd_own_form
/-! #### PageIndex_init -/
theorem PSok.sm {r : RN} {PS : List (List Pr)} (h : PSok r PS) (hr : r.ok) {ps : List Pr} (e : ps ∈ PS) : ps.length ≤ 12 ∧ Sm (ex ps) := by
  obtain ⟨i, hi⟩ := List.getElem?_of_mem e
  obtain ⟨h1, h2, h3⟩ := h.pok hr hi
  refine ⟨h2, ?_, fun x hx => ?_⟩
  · rw [ex_len]
    have key : ∀ (qs : List Pr), (∀ p ∈ qs, p.2 ≤ 10 ^ 30) → (qs.map (·.2)).sum ≤ qs.length * 10 ^ 30 := by
      intro qs
      induction qs with
      | nil => intro _; simp
      | cons q qs ih =>
        intro hq
        have a := ih fun p hp => hq p (List.mem_cons_of_mem _ hp)
        have b := hq q List.mem_cons_self
        rw [List.map_cons, List.sum_cons, List.length_cons, Nat.succ_mul]
        omega
    have b : ∀ p ∈ ps, p.2 ≤ 10 ^ 30 := by
      obtain ⟨g1, g2, rfl | g3⟩ := h
      · cases i with
        | zero => simp at hi; subst hi; intro p hp; rw [List.mem_singleton.mp hp]; decide
        | succ i => simp at hi
      · intro p hp
        exact (of_decide_eq_true ((g3 i ps hi).2.2.1 p hp)).2.2.2
    have c := key ps b
    have d : ps.length * 10 ^ 30 ≤ 12 * 10 ^ 30 := Nat.mul_le_mul_right _ h2
    have e : (12 : Nat) * 10 ^ 30 < 2 ^ 200 := by decide
    omega
  · unfold ex at hx
    obtain ⟨p, hp, hx⟩ := List.mem_flatMap.mp hx
    rw [(List.mem_replicate.mp hx).2]
    exact (h1 p hp).1
def sp_PageIndex_init : ZSp := fun ds Q _ => ∃ (r : RN) (PS : List (List Pr)), ds = [r.d, .lst (PS.map lvP)] ∧ PSok r PS ∧ r.ok ∧ Q (.sh (idx r (PS.map ex)))
def t_PageIndex_init (ez : Str → Option (Str × D) → Prop) : ZN := zBst (zDrop (zCall sp_require_rule ez (zCons (zVar 1) (zNil)))) (
  zBst (zDrop (zCall sp_require_levels ez (zCons (zVar 1) (zCons (zVar 2) (zNil))))) (
  zBput "own_rule" (zVar 1) (zBput "own_levels" (zCall sp_own_form eF (zCons (zVar 2) (zNil))) (zBnil))))
theorem dv_PageIndex_init {Pg : Program} {w : World} {K : PySem.W.Frag} {mg : Str → Option Value} {base : Heap} {f : Addr} {C : Addr} (G : Facts mg) (O : Objs K mg) (D_require_rule : Df Pg w K mg base 3 "require_rule" (spZ K mg sp_require_rule)) (D_require_levels : Df Pg w K mg base 5 "require_levels" (spZ K mg sp_require_levels)) (D_own_form : Df Pg w K mg base 2 "own_form" (spZ K mg sp_own_form)) (cl : Cls K C) (n_own_rule : NoAttr K C "own_rule") (n_own_levels : NoAttr K C "own_levels") (cdv : Value) (A : Around) (outer : List Env) (s : Shared) (H : Hp) (E : XK) (Z0 : Zc) (nb : NoBag (Sup Z0)) (C0 : Cd 5 (cxOf (L2.CX Pg w) Pg w K mg base N_PageIndex_init "PageIndex.__init__" (defScope s_PageIndex_init) f cdv A outer s H E) (Sup Z0)) :
    PBd (cxOf (L2.CX Pg w) Pg w K mg base N_PageIndex_init "PageIndex.__init__" (defScope s_PageIndex_init) f cdv A outer s H E) (Sup Z0) C (defBody s_PageIndex_init) (t_PageIndex_init Z0.ez) :=
  have C := C0
  (bd_st (sd_expr (dd_call D_require_rule C (by rfl) Z0.ez ezS (ad_cons (pd_var 1 (nb.s 1)) ad_nil)))
    (bd_st (sd_expr (dd_call D_require_levels C (by rfl) Z0.ez ezS (ad_cons (pd_var 1 (nb.s 1)) (ad_cons (pd_var 2 (nb.s 2)) ad_nil))))
    (bd_put cl n_own_rule (pd_var 1 (nb.s 1))
    (bd_put cl n_own_levels (dd_call D_own_form C (by rfl) eF ez0 (ad_cons (pd_var 2 (nb.s 2)) ad_nil))
    bd_nil))))
--% reads
theorem ln_PageIndex_init : ∀ ds Qz Ez, sp_PageIndex_init ds Qz Ez → ds.length + 1 = 3 := by
  rintro ds Q E ⟨_, _, rfl, _⟩
  rfl
theorem rd_PageIndex_init : ∀ x ds Qz (Ez : Str → Option (Str × D) → Prop), sp_PageIndex_init ds Qz Ez → t_PageIndex_init Ez x (fun fs => Qz (.sh (.obj "PageIndex" fs))) (startS N_PageIndex_init (.adr x :: ds)) [] := by
  rintro x ds Q E ⟨r, PS, rfl, hP, hr, q⟩
  and_intros
  refine .inl ⟨_, rfl, ?_⟩
  and_intros
  refine ⟨hP, hr, rfl, by show 0 < 1000; decide, ?_⟩
  and_intros
  have h100 := hP.2.1
  refine ⟨PS.map fun ps => (false, ps), by rw [← map_lvQ], by rw [List.length_map]; omega, fun q hq => ?_, ?_⟩
  · obtain ⟨ps, hps, rfl⟩ := List.mem_map.mp hq
    have := (hP.sm hr hps).1
    exact ⟨by show ps.length ≤ _; omega, (hP.sm hr hps).2⟩
  · conv => whnf
    refine ⟨rfl, by show 1 < 1000; decide, ?_⟩
    conv => whnf
    unfold idx at q
    rw [List.map_map] at q ⊢
    exact q
theorem ok_PageIndex_init {Pg : Program} {w : World} {K : PySem.W.Frag} {mg : Str → Option Value} {base : Heap} {f : Addr} {fd : FuncData} {C : Addr} (Fu : Fun K "__init__" "PageIndex.__init__" s_PageIndex_init f fd) (G : Facts mg) (O : Objs K mg) (D_require_rule : Df Pg w K mg base 3 "require_rule" (spZ K mg sp_require_rule)) (D_require_levels : Df Pg w K mg base 5 "require_levels" (spZ K mg sp_require_levels)) (D_own_form : Df Pg w K mg base 2 "own_form" (spZ K mg sp_own_form)) (hC : mg "PageIndex" = some (.ref C)) (cl : Cls K C) (n_own_rule : NoAttr K C "own_rule") (n_own_levels : NoAttr K C "own_levels") : FnP Pg w K mg base 6 f fd ["self", "rule", "levels"] (spI K mg "PageIndex" sp_PageIndex_init) :=
  okI (N := N_PageIndex_init) (t := t_PageIndex_init) Fu sc_PageIndex_init hC ln_PageIndex_init (fun cdv A outer s H E Z0 nb C0 => dv_PageIndex_init G O D_require_rule D_require_levels D_own_form cl n_own_rule n_own_levels cdv A outer s H E Z0 nb C0) rd_PageIndex_init
/-! #### PageIndex_entries -/
def sp_PageIndex_entries : ZSp := fun ds Q _ => ∃ (r : RN) (xs : List Nat) (L : List (List Nat)), ds = [idx r (xs :: L)] ∧ (rle xs).length ≤ 2 ^ 23 ∧ Sm xs ∧ Q (.sh (.int (xs.sum : Int)))
def t_PageIndex_entries : ZS := zRet (zCall sp_item_count eF (zCons (zIx (zShV (zFld "PageIndex" "own_levels" (zVarV 0))) (zC (.int 0))) (zNil)))
theorem dv_PageIndex_entries {Pg : Program} {w : World} {K : PySem.W.Frag} {mg : Str → Option Value} {base : Heap} {f : Addr} (G : Facts mg) (O : Objs K mg) (D_item_count : Df Pg w K mg base 1 "item_count" (spZ K mg sp_item_count)) (cdv : Value) (A : Around) (outer : List Env) (s : Shared) (H : Hp) (E : XK) (Z0 : Zc) (nb : NoBag (Sup Z0)) (C : Cd 1 (cxOf (L2.CX Pg w) Pg w K mg base N_PageIndex_entries "PageIndex.entries" (defScope s_PageIndex_entries) f cdv A outer s H E) (Sup Z0)) :
    PSsd (cxOf (L2.CX Pg w) Pg w K mg base N_PageIndex_entries "PageIndex.entries" (defScope s_PageIndex_entries) f cdv A outer s H E) (Sup Z0) (defBody s_PageIndex_entries) t_PageIndex_entries :=
  (ssd_one (sd_ret (dd_call D_item_count C (by rfl) eF ez0 (ad_cons (pd_ix (pd_fld O.n_PageIndex_own_levels (pv_var 0)).pv pd_int) ad_nil))))
--% reads
theorem ln_PageIndex_entries : ∀ ds Qz Ez, sp_PageIndex_entries ds Qz Ez → ds.length = 1 := by
  rintro ds Q E ⟨_, _, _, rfl, _⟩
  rfl
theorem rd_PageIndex_entries : ∀ ds Qz (Ez : Str → Option (Str × D) → Prop), sp_PageIndex_entries ds Qz Ez → t_PageIndex_entries { nx := fun _ => Qz (.sh .non), rt := fun r _ => Qz r } (startS N_PageIndex_entries ds) := by
  rintro ds Q E ⟨r, xs, L, rfl, hl, hm, q⟩
  and_intros
  refine ⟨_, atL (i := 0) rfl rfl, ?_⟩
  and_intros
  refine ⟨_, rle xs, rfl, .inr rfl, hl, hm.pok, ?_⟩
  rw [ex_rle]
  and_intros
  exact q
theorem ok_PageIndex_entries {Pg : Program} {w : World} {K : PySem.W.Frag} {mg : Str → Option Value} {base : Heap} {f : Addr} {fd : FuncData} (Fu : Fun K "entries" "PageIndex.entries" s_PageIndex_entries f fd) (G : Facts mg) (O : Objs K mg) (D_item_count : Df Pg w K mg base 1 "item_count" (spZ K mg sp_item_count)) : FnP Pg w K mg base 2 f fd ["self"] (spZ K mg sp_PageIndex_entries) :=
  okZ (N := N_PageIndex_entries) (t := fun _ => t_PageIndex_entries) Fu sc_PageIndex_entries ln_PageIndex_entries (fun cdv A outer s H E Z0 nb C => dv_PageIndex_entries G O D_item_count cdv A outer s H E Z0 nb C) rd_PageIndex_entries
/-! #### PageIndex_height -/
def sp_PageIndex_height : ZSp := fun ds Q _ => ∃ (r : RN) (L : List (List Nat)), ds = [idx r L] ∧ Q (.sh (.int (L.length : Int)))
def t_PageIndex_height : ZS := zRet (zLen (zShV (zFld "PageIndex" "own_levels" (zVarV 0))))
theorem dv_PageIndex_height {Pg : Program} {w : World} {K : PySem.W.Frag} {mg : Str → Option Value} {base : Heap} {f : Addr} (G : Facts mg) (O : Objs K mg) (cdv : Value) (A : Around) (outer : List Env) (s : Shared) (H : Hp) (E : XK) (Z0 : Zc) (nb : NoBag (Sup Z0)) (C : Cd 0 (cxOf (L2.CX Pg w) Pg w K mg base N_PageIndex_height "PageIndex.height" (defScope s_PageIndex_height) f cdv A outer s H E) (Sup Z0)) :
    PSsd (cxOf (L2.CX Pg w) Pg w K mg base N_PageIndex_height "PageIndex.height" (defScope s_PageIndex_height) f cdv A outer s H E) (Sup Z0) (defBody s_PageIndex_height) t_PageIndex_height :=
  (ssd_one (sd_ret (pd_len (by rfl) G.b_len PySem.boot_len (pd_fld O.n_PageIndex_own_levels (pv_var 0)).pv)))
--% reads
theorem ln_PageIndex_height : ∀ ds Qz Ez, sp_PageIndex_height ds Qz Ez → ds.length = 1 := by
  rintro ds Q E ⟨_, _, rfl, _⟩
  rfl
theorem rd_PageIndex_height : ∀ ds Qz (Ez : Str → Option (Str × D) → Prop), sp_PageIndex_height ds Qz Ez → t_PageIndex_height { nx := fun _ => Qz (.sh .non), rt := fun r _ => Qz r } (startS N_PageIndex_height ds) := by
  rintro ds Q E ⟨r, L, rfl, q⟩
  and_intros
  rw [List.length_map]
  exact q
theorem ok_PageIndex_height {Pg : Program} {w : World} {K : PySem.W.Frag} {mg : Str → Option Value} {base : Heap} {f : Addr} {fd : FuncData} (Fu : Fun K "height" "PageIndex.height" s_PageIndex_height f fd) (G : Facts mg) (O : Objs K mg) : FnP Pg w K mg base 1 f fd ["self"] (spZ K mg sp_PageIndex_height) :=
  okZ (N := N_PageIndex_height) (t := fun _ => t_PageIndex_height) Fu sc_PageIndex_height ln_PageIndex_height (fun cdv A outer s H E Z0 nb C => dv_PageIndex_height G O cdv A outer s H E Z0 nb C) rd_PageIndex_height
/-! #### PageIndex_pages -/
def sp_PageIndex_pages : ZSp := fun ds Q Ez => ∃ (r : RN) (L : List (List Nat)) (k : D), ds = [idx r L, k] ∧ (∀ xs ∈ L, (rle xs).length ≤ 2 ^ 23) ∧ ckW 0 ((L.length : Int) - 1) "InvalidLevel" k Ez fun l => ∀ xs, L[l]? = some xs → Q (.sh (.int (xs.length : Int)))
def t_PageIndex_pages (ez : Str → Option (Str × D) → Prop) : ZS := zSeq (zDrop (zCall sp_require_level ez (zCons (zVar 0) (zCons (zVar 1) (zNil))))) (
  zRet (zCall sp_page_count eF (zCons (zIx (zShV (zFld "PageIndex" "own_levels" (zVarV 0))) (zVar 1)) (zNil))))
theorem dv_PageIndex_pages {Pg : Program} {w : World} {K : PySem.W.Frag} {mg : Str → Option Value} {base : Heap} {f : Addr} (G : Facts mg) (O : Objs K mg) (D_page_count : Df Pg w K mg base 1 "page_count" (spZ K mg sp_page_count)) (D_require_level : Df Pg w K mg base 3 "require_level" (spZ K mg sp_require_level)) (cdv : Value) (A : Around) (outer : List Env) (s : Shared) (H : Hp) (E : XK) (Z0 : Zc) (nb : NoBag (Sup Z0)) (C : Cd 3 (cxOf (L2.CX Pg w) Pg w K mg base N_PageIndex_pages "PageIndex.pages" (defScope s_PageIndex_pages) f cdv A outer s H E) (Sup Z0)) :
    PSsd (cxOf (L2.CX Pg w) Pg w K mg base N_PageIndex_pages "PageIndex.pages" (defScope s_PageIndex_pages) f cdv A outer s H E) (Sup Z0) (defBody s_PageIndex_pages) (t_PageIndex_pages Z0.ez) :=
  (ssd_cons (sd_expr (dd_call D_require_level C (by rfl) Z0.ez ezS (ad_cons (pd_var 0 (nb.s 0)) (ad_cons (pd_var 1 (nb.s 1)) ad_nil))))
    (ssd_one (sd_ret (dd_call D_page_count C (by rfl) eF ez0 (ad_cons (pd_ix (pd_fld O.n_PageIndex_own_levels (pv_var 0)).pv (pd_var 1 (nb.s 1))) ad_nil)))))
--% reads
theorem ln_PageIndex_pages : ∀ ds Qz Ez, sp_PageIndex_pages ds Qz Ez → ds.length = 2 := by
  rintro ds Q E ⟨_, _, _, rfl, _⟩
  rfl
theorem rd_PageIndex_pages : ∀ ds Qz (Ez : Str → Option (Str × D) → Prop), sp_PageIndex_pages ds Qz Ez → t_PageIndex_pages Ez { nx := fun _ => Qz (.sh .non), rt := fun r _ => Qz r } (startS N_PageIndex_pages ds) := by
  rintro ds Q E ⟨r, L, k, rfl, hl, h⟩
  and_intros
  obtain ⟨g1, g2, g3⟩ := h.go (by decide) fun l e h1 h2 q => (⟨l, e, h1, h2, q⟩ : ∃ l : Nat, k = .int (l : Int) ∧ (0 : Int) ≤ l ∧ (l : Int) ≤ (L.length : Int) - 1 ∧ ∀ xs, L[l]? = some xs → Q (.sh (.int (xs.length : Int))))
  refine ⟨g1, fun v => ?_, g3⟩
  obtain ⟨l, rfl, h1, h2, q⟩ := g2 v
  have hi : l < L.length := by omega
  have e := List.getElem?_eq_getElem hi
  generalize L[l] = xs at e
  and_intros
  refine ⟨_, atL e rfl, ?_⟩
  and_intros
  refine ⟨_, rle xs, rfl, .inr rfl, hl _ (List.mem_of_getElem? e), ?_⟩
  rw [ex_rle]
  exact q xs e
theorem ok_PageIndex_pages {Pg : Program} {w : World} {K : PySem.W.Frag} {mg : Str → Option Value} {base : Heap} {f : Addr} {fd : FuncData} (Fu : Fun K "pages" "PageIndex.pages" s_PageIndex_pages f fd) (G : Facts mg) (O : Objs K mg) (D_page_count : Df Pg w K mg base 1 "page_count" (spZ K mg sp_page_count)) (D_require_level : Df Pg w K mg base 3 "require_level" (spZ K mg sp_require_level)) : FnP Pg w K mg base 4 f fd ["self", "level"] (spZ K mg sp_PageIndex_pages) :=
  okZ (N := N_PageIndex_pages) (t := t_PageIndex_pages) Fu sc_PageIndex_pages ln_PageIndex_pages (fun cdv A outer s H E Z0 nb C => dv_PageIndex_pages G O D_page_count D_require_level cdv A outer s H E Z0 nb C) rd_PageIndex_pages
/-! #### made_index -/
theorem PSok.empty {r : RN} : PSok r [[(0, 1)]] := ⟨by decide, by decide, .inl rfl⟩
def sp_made_index : ZSp := fun ds Q _ => ∃ (r : RN) (PS : List (Bool × List Pr)), ds = [r.d, .lst (PS.map lvQ)] ∧ r.ok ∧ PS.length ≤ 2 ^ 23 ∧ (∀ q ∈ PS, q.2.length ≤ 2 ^ 23 ∧ Sm (ex q.2)) ∧ Q (.sh (idx r (PS.map fun q => ex q.2)))
def t_made_index (ez : Str → Option (Str × D) → Prop) : ZS := zMk2 "PageIndex" "own_levels" 2 sp_PageIndex_init ez (zCons (zVar 0) (zCons (zFD (zLst (zCons (zFD (zLst (zCons (zTup (zCons (zC (.int 0)) (zCons (zC (.int 1)) (zNil)))) (zNil)))) (zNil)))) (zNil))) (zCall sp_own_form eF (zCons (zVar 1) (zNil))) (
  zRet (zVar 2))
theorem dv_made_index {Pg : Program} {w : World} {K : PySem.W.Frag} {mg : Str → Option Value} {base : Heap} {f : Addr} (G : Facts mg) (O : Objs K mg) (D_own_form : Df Pg w K mg base 2 "own_form" (spZ K mg sp_own_form)) (D_PageIndex___init__ : Kl Pg w K mg base 6 "PageIndex" sp_PageIndex_init) (cdv : Value) (A : Around) (outer : List Env) (s : Shared) (H : Hp) (E : XK) (Z0 : Zc) (nb : NoBag (Sup Z0)) (C : Cd 7 (cxOf (L2.CX Pg w) Pg w K mg base N_made_index "made_index" (defScope s_made_index) f cdv A outer s H E) (Sup Z0)) :
    PSsd (cxOf (L2.CX Pg w) Pg w K mg base N_made_index "made_index" (defScope s_made_index) f cdv A outer s H E) (Sup Z0) (defBody s_made_index) (t_made_index Z0.ez) :=
  (ssd_mk2 (i := 2) D_PageIndex___init__ O.kf_PageIndex_own_levels C (nb.s 2) (by rfl) Z0.ez ezS (ad_cons (pd_var 0 (nb.s 0)) (ad_cons (pf_lst (ad_cons (pf_lst (ad_cons (pd_tup (ad_cons pd_int (ad_cons pd_int ad_nil))) ad_nil)).pd ad_nil)).pd ad_nil)) (dd_call D_own_form C (by rfl) eF ez0 (ad_cons (pd_var 1 (nb.s 1)) ad_nil))
    (ssd_one (sd_ret (pd_var 2 (nb.s 2)))))
--% reads
theorem ln_made_index : ∀ ds Qz Ez, sp_made_index ds Qz Ez → ds.length = 2 := by
  rintro ds Q E ⟨_, _, rfl, _⟩
  rfl
theorem rd_made_index : ∀ ds Qz (Ez : Str → Option (Str × D) → Prop), sp_made_index ds Qz Ez → t_made_index Ez { nx := fun _ => Qz (.sh .non), rt := fun r _ => Qz r } (startS N_made_index ds) := by
  rintro ds Q E ⟨r, PS, rfl, hr, hl, h, q⟩
  and_intros
  refine ⟨r, [[(0, 1)]], rfl, .empty, hr, _, rfl, by show 2 < 1000; decide, fun a => ?_⟩
  and_intros
  refine ⟨hl, h, rfl, ?_⟩
  unfold idx at q
  rw [List.map_map] at q
  exact q
theorem ok_made_index {Pg : Program} {w : World} {K : PySem.W.Frag} {mg : Str → Option Value} {base : Heap} {f : Addr} {fd : FuncData} (Fu : Fun K "made_index" "made_index" s_made_index f fd) (G : Facts mg) (O : Objs K mg) (D_own_form : Df Pg w K mg base 2 "own_form" (spZ K mg sp_own_form)) (D_PageIndex___init__ : Kl Pg w K mg base 6 "PageIndex" sp_PageIndex_init) : FnP Pg w K mg base 8 f fd ["rule", "levels"] (spZ K mg sp_made_index) :=
  okZ (N := N_made_index) (t := t_made_index) Fu sc_made_index ln_made_index (fun cdv A outer s H E Z0 nb C => dv_made_index G O D_own_form D_PageIndex___init__ cdv A outer s H E Z0 nb C) rd_made_index
/-! #### new_index -/
def sp_new_index : ZSp := fun ds Q _ => ∃ (r : RN), ds = [r.d] ∧ r.ok ∧ Q (.sh (idx r [[0]]))
def t_new_index (ez : Str → Option (Str × D) → Prop) : ZS := zRet (zCall sp_PageIndex_init ez (zCons (zVar 0) (zCons (zFD (zLst (zCons (zFD (zLst (zCons (zTup (zCons (zC (.int 0)) (zCons (zC (.int 1)) (zNil)))) (zNil)))) (zNil)))) (zNil))))
theorem dv_new_index {Pg : Program} {w : World} {K : PySem.W.Frag} {mg : Str → Option Value} {base : Heap} {f : Addr} (G : Facts mg) (O : Objs K mg) (D_PageIndex___init__ : Kl Pg w K mg base 6 "PageIndex" sp_PageIndex_init) (cdv : Value) (A : Around) (outer : List Env) (s : Shared) (H : Hp) (E : XK) (Z0 : Zc) (nb : NoBag (Sup Z0)) (C : Cd 7 (cxOf (L2.CX Pg w) Pg w K mg base N_new_index "new_index" (defScope s_new_index) f cdv A outer s H E) (Sup Z0)) :
    PSsd (cxOf (L2.CX Pg w) Pg w K mg base N_new_index "new_index" (defScope s_new_index) f cdv A outer s H E) (Sup Z0) (defBody s_new_index) (t_new_index Z0.ez) :=
  (ssd_one (sd_ret (dd_make D_PageIndex___init__ C (by rfl) Z0.ez ezS (ad_cons (pd_var 0 (nb.s 0)) (ad_cons (pf_lst (ad_cons (pf_lst (ad_cons (pd_tup (ad_cons pd_int (ad_cons pd_int ad_nil))) ad_nil)).pd ad_nil)).pd ad_nil)))))
--% reads
theorem ln_new_index : ∀ ds Qz Ez, sp_new_index ds Qz Ez → ds.length = 1 := by
  rintro ds Q E ⟨_, rfl, _⟩
  rfl
theorem rd_new_index : ∀ ds Qz (Ez : Str → Option (Str × D) → Prop), sp_new_index ds Qz Ez → t_new_index Ez { nx := fun _ => Qz (.sh .non), rt := fun r _ => Qz r } (startS N_new_index ds) := by
  rintro ds Q E ⟨r, rfl, hr, q⟩
  and_intros
  refine ⟨r, [[(0, 1)]], rfl, .empty, hr, ?_⟩
  and_intros
  exact q
theorem ok_new_index {Pg : Program} {w : World} {K : PySem.W.Frag} {mg : Str → Option Value} {base : Heap} {f : Addr} {fd : FuncData} (Fu : Fun K "new_index" "new_index" s_new_index f fd) (G : Facts mg) (O : Objs K mg) (D_PageIndex___init__ : Kl Pg w K mg base 6 "PageIndex" sp_PageIndex_init) : FnP Pg w K mg base 8 f fd ["rule"] (spZ K mg sp_new_index) :=
  okZ (N := N_new_index) (t := t_new_index) Fu sc_new_index ln_new_index (fun cdv A outer s H E Z0 nb C => dv_new_index G O D_PageIndex___init__ cdv A outer s H E Z0 nb C) rd_new_index
/-! #### require_kind -/
def sp_require_kind : ZSp := fun ds Q Ez => ∃ k, ds = [k] ∧ isK k ∧ (kindB k = true → Q (.sh .non)) ∧ (kindB k = false → Ez "InvalidKind" none)
def t_require_kind (ez : Str → Option (Str × D) → Prop) : ZS := zIfS (zOrT (zNotT (zB (zIsi "str" (zVarV 0)))) (zIn true (zVar 0) (zShV (zC (.tup [.str "up", .str "down"]))))) (zRaise ez "InvalidKind" (zC (.str "not up or down"))) (zNext)
theorem dv_require_kind {Pg : Program} {w : World} {K : PySem.W.Frag} {mg : Str → Option Value} {base : Heap} {f : Addr} (G : Facts mg) (O : Objs K mg) (cdv : Value) (A : Around) (outer : List Env) (s : Shared) (H : Hp) (E : XK) (Z0 : Zc) (nb : NoBag (Sup Z0)) (C : Cd 0 (cxOf (L2.CX Pg w) Pg w K mg base N_require_kind "require_kind" (defScope s_require_kind) f cdv A outer s H E) (Sup Z0)) :
    PSsd (cxOf (L2.CX Pg w) Pg w K mg base N_require_kind "require_kind" (defScope s_require_kind) f cdv A outer s H E) (Sup Z0) (defBody s_require_kind) (t_require_kind Z0.ez) :=
  (ssd_one (sd_if (wd_or (td_not (pt_b (pd_isi (T := "str") (by rfl) G.b_isinstance (by rfl) G.b_str rfl (pv_var 0) (by decide)))) (wd_or1 (pt_notin (pd_var 0 (nb.s 0)) (pd_kt (by rfl) O.k_KINDS).pv))).pt (ssd_one (sd_raise (ez := Z0.ez) O.r_InvalidKind C (by rfl) ezS pd_str)) ssd_nil))
--% reads
theorem ln_require_kind : ∀ ds Qz Ez, sp_require_kind ds Qz Ez → ds.length = 1 := by
  rintro ds Q E ⟨_, rfl, _⟩
  rfl
theorem in_kind (s : Str) : inV (V.str s) [V.str "up", V.str "down"] = kindB (.str s) := by
  have h : ∀ a b : Str, (a == b) = decide (b = a) := fun a b => by
    by_cases e : b = a
    · subst e; simp
    · rw [decide_eq_false e]
      simpa using fun z => e z.symm
  unfold kindB
  simp only [inV, List.any_cons, List.any_nil, eqV, Bool.or_false]
  rw [h, h]
theorem rd_require_kind : ∀ ds Qz (Ez : Str → Option (Str × D) → Prop), sp_require_kind ds Qz Ez → t_require_kind Ez { nx := fun _ => Qz (.sh .non), rt := fun r _ => Qz r } (startS N_require_kind ds) := by
  rintro ds Q E ⟨k, rfl, ⟨n, hn⟩, q, e⟩
  cases k
  case str s =>
    and_intros
    rw [in_kind]
    cases h : kindB (.str s) with
    | true =>
      and_intros
      exact q h
    | false =>
      and_intros
      exact e h
  all_goals first | (cases hn; done) | skip
  all_goals
    and_intros
    exact e rfl
theorem ok_require_kind {Pg : Program} {w : World} {K : PySem.W.Frag} {mg : Str → Option Value} {base : Heap} {f : Addr} {fd : FuncData} (Fu : Fun K "require_kind" "require_kind" s_require_kind f fd) (G : Facts mg) (O : Objs K mg) : FnP Pg w K mg base 1 f fd ["value"] (spZ K mg sp_require_kind) :=
  okZ (N := N_require_kind) (t := t_require_kind) Fu sc_require_kind ln_require_kind (fun cdv A outer s H E Z0 nb C => dv_require_kind G O cdv A outer s H E Z0 nb C) rd_require_kind
/-! #### require_number -/
def sp_require_number : ZSp := fun ds Q Ez => ∃ k, ds = [k] ∧ isK k ∧ (wholeD 1 (10 ^ 30) k = true → Q (.sh .non)) ∧ (wholeD 1 (10 ^ 30) k = false → Ez "InvalidNumber" none)
def t_require_number (ez : Str → Option (Str × D) → Prop) : ZS := zIfS (zNotT (zB (zCall sp_is_whole eF (zCons (zVar 0) (zCons (zC (.int 1)) (zCons (zC (.int 1000000000000000000000000000000)) (zNil))))))) (zRaise ez "InvalidNumber" (zC (.str "not an integer from 1 to 10 ** 30"))) (zNext)
theorem dv_require_number {Pg : Program} {w : World} {K : PySem.W.Frag} {mg : Str → Option Value} {base : Heap} {f : Addr} (G : Facts mg) (O : Objs K mg) (D_is_whole : Df Pg w K mg base 2 "is_whole" (spZ K mg sp_is_whole)) (cdv : Value) (A : Around) (outer : List Env) (s : Shared) (H : Hp) (E : XK) (Z0 : Zc) (nb : NoBag (Sup Z0)) (C : Cd 2 (cxOf (L2.CX Pg w) Pg w K mg base N_require_number "require_number" (defScope s_require_number) f cdv A outer s H E) (Sup Z0)) :
    PSsd (cxOf (L2.CX Pg w) Pg w K mg base N_require_number "require_number" (defScope s_require_number) f cdv A outer s H E) (Sup Z0) (defBody s_require_number) (t_require_number Z0.ez) :=
  (ssd_one (sd_if (td_not (pt_b (dd_call D_is_whole C (by rfl) eF ez0 (ad_cons (pd_var 0 (nb.s 0)) (ad_cons pd_int (ad_cons (pd_globi (by rfl) G.c_MOST_NUMBER) ad_nil)))))) (ssd_one (sd_raise (ez := Z0.ez) O.r_InvalidNumber C (by rfl) ezS pd_str)) ssd_nil))
--% reads
theorem ln_require_number : ∀ ds Qz Ez, sp_require_number ds Qz Ez → ds.length = 1 := by
  rintro ds Q E ⟨_, rfl, _⟩
  rfl
theorem rd_require_number : ∀ ds Qz (Ez : Str → Option (Str × D) → Prop), sp_require_number ds Qz Ez → t_require_number Ez { nx := fun _ => Qz (.sh .non), rt := fun r _ => Qz r } (startS N_require_number ds) := by
  rintro ds Q E ⟨k, rfl, ⟨n, hn⟩, q, e⟩
  and_intros
  refine ⟨k, n, 1, 10 ^ 30, rfl, hn, ?_⟩
  cases h : wholeD 1 (10 ^ 30) k with
  | true =>
    and_intros
    exact q h
  | false =>
    and_intros
    exact e h
theorem ok_require_number {Pg : Program} {w : World} {K : PySem.W.Frag} {mg : Str → Option Value} {base : Heap} {f : Addr} {fd : FuncData} (Fu : Fun K "require_number" "require_number" s_require_number f fd) (G : Facts mg) (O : Objs K mg) (D_is_whole : Df Pg w K mg base 2 "is_whole" (spZ K mg sp_is_whole)) : FnP Pg w K mg base 3 f fd ["value"] (spZ K mg sp_require_number) :=
  okZ (N := N_require_number) (t := t_require_number) Fu sc_require_number ln_require_number (fun cdv A outer s H E Z0 nb C => dv_require_number G O D_is_whole cdv A outer s H E Z0 nb C) rd_require_number
/-! #### require_any_level -/
def sp_require_any_level : ZSp := fun ds Q Ez => ∃ k, ds = [k] ∧ isK k ∧ (wholeD 0 200 k = true → Q (.sh .non)) ∧ (wholeD 0 200 k = false → Ez "InvalidLevel" none)
def t_require_any_level (ez : Str → Option (Str × D) → Prop) : ZS := zIfS (zNotT (zB (zCall sp_is_whole eF (zCons (zVar 0) (zCons (zC (.int 0)) (zCons (zC (.int 200)) (zNil))))))) (zRaise ez "InvalidLevel" (zC (.str "not an integer from 0 to 200"))) (zNext)
theorem dv_require_any_level {Pg : Program} {w : World} {K : PySem.W.Frag} {mg : Str → Option Value} {base : Heap} {f : Addr} (G : Facts mg) (O : Objs K mg) (D_is_whole : Df Pg w K mg base 2 "is_whole" (spZ K mg sp_is_whole)) (cdv : Value) (A : Around) (outer : List Env) (s : Shared) (H : Hp) (E : XK) (Z0 : Zc) (nb : NoBag (Sup Z0)) (C : Cd 2 (cxOf (L2.CX Pg w) Pg w K mg base N_require_any_level "require_any_level" (defScope s_require_any_level) f cdv A outer s H E) (Sup Z0)) :
    PSsd (cxOf (L2.CX Pg w) Pg w K mg base N_require_any_level "require_any_level" (defScope s_require_any_level) f cdv A outer s H E) (Sup Z0) (defBody s_require_any_level) (t_require_any_level Z0.ez) :=
  (ssd_one (sd_if (td_not (pt_b (dd_call D_is_whole C (by rfl) eF ez0 (ad_cons (pd_var 0 (nb.s 0)) (ad_cons pd_int (ad_cons (pd_globi (by rfl) G.c_MOST_LEVEL) ad_nil)))))) (ssd_one (sd_raise (ez := Z0.ez) O.r_InvalidLevel C (by rfl) ezS pd_str)) ssd_nil))
--% reads
theorem ln_require_any_level : ∀ ds Qz Ez, sp_require_any_level ds Qz Ez → ds.length = 1 := by
  rintro ds Q E ⟨_, rfl, _⟩
  rfl
theorem rd_require_any_level : ∀ ds Qz (Ez : Str → Option (Str × D) → Prop), sp_require_any_level ds Qz Ez → t_require_any_level Ez { nx := fun _ => Qz (.sh .non), rt := fun r _ => Qz r } (startS N_require_any_level ds) := by
  rintro ds Q E ⟨k, rfl, ⟨n, hn⟩, q, e⟩
  and_intros
  refine ⟨k, n, 0, 200, rfl, hn, ?_⟩
  cases h : wholeD 0 200 k with
  | true =>
    and_intros
    exact q h
  | false =>
    and_intros
    exact e h
theorem ok_require_any_level {Pg : Program} {w : World} {K : PySem.W.Frag} {mg : Str → Option Value} {base : Heap} {f : Addr} {fd : FuncData} (Fu : Fun K "require_any_level" "require_any_level" s_require_any_level f fd) (G : Facts mg) (O : Objs K mg) (D_is_whole : Df Pg w K mg base 2 "is_whole" (spZ K mg sp_is_whole)) : FnP Pg w K mg base 3 f fd ["value"] (spZ K mg sp_require_any_level) :=
  okZ (N := N_require_any_level) (t := t_require_any_level) Fu sc_require_any_level ln_require_any_level (fun cdv A outer s H E Z0 nb C => dv_require_any_level G O D_is_whole cdv A outer s H E Z0 nb C) rd_require_any_level
/-! #### count_within -/
def numD : Option Nat → D
  | none => .non
  | some n => .int (n : Int)
def cw (n b s : Nat) : Nat := if n < b then 0 else (n - b) / s + 1
def cwO (n : Option Nat) (b s : Nat) : Option Nat := n.map fun n => cw n b s
def sp_count_within : ZSp := fun ds Q _ => ∃ (n : Option Nat) (b s : Nat), ds = [numD n, .int (b : Int), .int (s : Int)] ∧ 0 < s ∧ (∀ v, n = some v → b ≤ v → s < 2 ^ 200) ∧ Q (.sh (numD (cwO n b s)))
def t_count_within : ZS := zSeq (zIfS (zIsNT (zVarV 0)) (zRet (zC .non)) (zNext)) (
  zRet (zIf (zCmpT fLt (zVar 0) (zVar 1)) (zC (.int 0)) (zAdd (zDiv (zSub (zVar 0) (zVar 1)) (zVar 2)) (zC (.int 1)))))
theorem dv_count_within {Pg : Program} {w : World} {K : PySem.W.Frag} {mg : Str → Option Value} {base : Heap} {f : Addr} (G : Facts mg) (O : Objs K mg) (cdv : Value) (A : Around) (outer : List Env) (s : Shared) (H : Hp) (E : XK) (Z0 : Zc) (nb : NoBag (Sup Z0)) (C : Cd 0 (cxOf (L2.CX Pg w) Pg w K mg base N_count_within "count_within" (defScope s_count_within) f cdv A outer s H E) (Sup Z0)) :
    PSsd (cxOf (L2.CX Pg w) Pg w K mg base N_count_within "count_within" (defScope s_count_within) f cdv A outer s H E) (Sup Z0) (defBody s_count_within) t_count_within :=
  (ssd_cons (sd_if (pt_isN (pv_var 0)) (ssd_one (sd_ret pd_non)) ssd_nil)
    (ssd_one (sd_ret (pd_if (pt_cmp op_lt cz_lt (pd_var 0 (nb.s 0)) (pd_var 1 (nb.s 1))) pd_int (pd_add (pd_div (pd_sub (pd_var 0 (nb.s 0)) (pd_var 1 (nb.s 1))) (pd_var 2 (nb.s 2))) pd_int)))))
--% reads
theorem ln_count_within : ∀ ds Qz Ez, sp_count_within ds Qz Ez → ds.length = 3 := by
  rintro ds Q E ⟨_, _, _, rfl, _⟩
  rfl
theorem rd_count_within : ∀ ds Qz (Ez : Str → Option (Str × D) → Prop), sp_count_within ds Qz Ez → t_count_within { nx := fun _ => Qz (.sh .non), rt := fun r _ => Qz r } (startS N_count_within ds) := by
  rintro ds Q E ⟨n, b, s, rfl, h1, h2, q⟩
  cases n with
  | none =>
    and_intros
    exact q
  | some n =>
    and_intros
    refine ⟨fun z => ?_, fun z => ?_⟩
    · have z := asc z
      and_intros
      rw [show cwO (some n) b s = some 0 by simp only [cwO, cw, Option.map]; rw [if_pos (by omega)]] at q
      exact q
    · have z := nac z
      and_intros
      refine ⟨divN h1 (h2 _ rfl (by omega)), ?_⟩
      and_intros
      rw [show cwO (some n) b s = some ((n - b) / s + 1) by simp only [cwO, cw, Option.map]; rw [if_neg (by omega)]] at q
      have e : ((n : Int) - (b : Int)) / (s : Int) + 1 = (((n - b) / s + 1 : Nat) : Int) := by
        rw [show (n : Int) - (b : Int) = ((n - b : Nat) : Int) by omega, ← Int.natCast_ediv]
        omega
      rw [e]
      exact q
theorem ok_count_within {Pg : Program} {w : World} {K : PySem.W.Frag} {mg : Str → Option Value} {base : Heap} {f : Addr} {fd : FuncData} (Fu : Fun K "count_within" "count_within" s_count_within f fd) (G : Facts mg) (O : Objs K mg) : FnP Pg w K mg base 1 f fd ["number", "begin", "step"] (spZ K mg sp_count_within) :=
  okZ (N := N_count_within) (t := fun _ => t_count_within) Fu sc_count_within ln_count_within (fun cdv A outer s H E Z0 nb C => dv_count_within G O cdv A outer s H E Z0 nb C) rd_count_within
/-! #### splits_of -/
/-- a segment -/
structure Seg where
  up : Bool
  mo : Nat
  st : Nat
  nu : Option Nat
def segD (g : Seg) : D := .tup [.str (kS g.up), .int (g.mo : Int), .int (g.st : Int), numD g.nu]
def few (m s a b : Nat) (up : Bool) : Nat := if up then b / (m + 1 - s) else (a - 1) / s
def wid (m s : Nat) (up : Bool) : Nat := if up then m + 1 - s else s
def beg (m a b : Nat) : Nat := m + 1 - a - b
def lat (m s a b : Nat) (up : Bool) : Nat := beg m a b + few m s a b up * wid m s up
def fstN (m s a b : Nat) (g : Seg) : Nat := match g.nu with
  | none => few m s a b g.up
  | some n => min (few m s a b g.up) (cw n (beg m a b) (wid m s g.up))
def sndN (m s a b : Nat) (g : Seg) : Option Nat := cwO g.nu (lat m s a b g.up) (wid m s (!g.up))
def sp0 (m s a b : Nat) (g : Seg) : Seg := ⟨!g.up, g.mo + (beg m a b - 1) * g.st, wid m s g.up * g.st, some (fstN m s a b g)⟩
def sp1 (m s a b : Nat) (g : Seg) : Seg := ⟨g.up, g.mo + (lat m s a b g.up - 1) * g.st, wid m s (!g.up) * g.st, sndN m s a b g⟩
def Rl (m s : Nat) : Prop := 3 ≤ m ∧ m ≤ 10 ^ 30 ∧ 2 ≤ s ∧ s ≤ m - 1 ∧ m + 1 ≤ 4 * s ∧ m + 1 ≤ 4 * (m + 1 - s)
theorem mulL {a b : Nat} (h0 : a < 2 ^ 200) (h : b.log2 ≤ 800000) : CMulW (a : Int) (b : Int) := by
  have k : a.log2 < 200 := by
    by_cases e : a = 0
    · rw [e]; decide
    · exact (Nat.log2_lt e).mpr h0
  unfold CMulW
  simp only [Int.natAbs_natCast]
  omega
theorem Rl.few3 {m s a b : Nat} (h : Rl m s) (hp : a + b ≤ m) (up : Bool) : few m s a b up ≤ 3 := by
  obtain ⟨h1, h2, h3, h4, h5, h6⟩ := h
  unfold few
  cases up
  · have : (a - 1) / s < 4 := (Nat.div_lt_iff_lt_mul (by omega)).mpr (by omega)
    simp only [Bool.false_eq_true, if_false]
    omega
  · have : b / (m + 1 - s) < 4 := (Nat.div_lt_iff_lt_mul (by omega)).mpr (by omega)
    simp only [if_true]
    omega
theorem Rl.widB {m s : Nat} (h : Rl m s) (up : Bool) : 2 ≤ wid m s up ∧ wid m s up ≤ m := by
  obtain ⟨h1, h2, h3, h4, h5, h6⟩ := h
  unfold wid
  cases up
  · simp only [Bool.false_eq_true, if_false]; omega
  · simp only [if_true]; omega
theorem Rl.latB {m s a b : Nat} (h : Rl m s) (hp : a + b ≤ m) (up : Bool) : beg m a b ≤ m + 1 ∧ 1 ≤ beg m a b ∧ lat m s a b up ≤ 4 * m + 1 ∧ beg m a b ≤ lat m s a b up := by
  have h1 := h.few3 hp up
  have h2 := (h.widB up).2
  have h3 : few m s a b up * wid m s up ≤ 3 * m := Nat.mul_le_mul h1 h2
  unfold lat beg
  omega
def sp_splits_of : ZSp := fun ds Q _ => ∃ (m s a b : Nat) (g : Seg), ds = [.tup [.int (m : Int), .int (s : Int)], .tup [.int (a : Int), .int (b : Int)], segD g] ∧ Rl m s ∧ a + b ≤ m ∧ g.st.log2 ≤ 800000 ∧
  Q (.ow [segD (sp0 m s a b g), segD (sp1 m s a b g)])
def t_splits_of : ZS := zSeq (zAsg (zVar 0) (gzTup 2 (gzCons (gzName 3) (gzCons (gzName 4) (gzNil))))) (
  zSeq (zSet (zSub (zAdd (zVar 3) (zC (.int 1))) (zVar 4)) 5) (
  zSeq (zAsg (zVar 2) (gzTup 4 (gzCons (gzName 6) (gzCons (gzName 7) (gzCons (gzName 8) (gzCons (gzName 9) (gzNil))))))) (
  zSeq (zSet (zSub (zSub (zAdd (zVar 3) (zC (.int 1))) (zIx (zVarV 1) (zC (.int 0)))) (zIx (zVarV 1) (zC (.int 1)))) 10) (
  zSeq (zIfS (zCmpT fEq (zVar 6) (zC (.str "up"))) (zPar3 11 12 13 (zXD (zDiv (zIx (zVarV 1) (zC (.int 1))) (zVar 5))) (zXD (zTup (zCons (zC (.str "down")) (zCons (zC (.str "up")) (zNil))))) (zXD (zTup (zCons (zVar 5) (zCons (zVar 4) (zNil)))))) (zPar3 11 12 13 (zXD (zBlt fMax2 (zCons (zC (.int 0)) (zCons (zDiv (zSub (zIx (zVarV 1) (zC (.int 0))) (zC (.int 1))) (zVar 4)) (zNil))))) (zXD (zTup (zCons (zC (.str "up")) (zCons (zC (.str "down")) (zNil))))) (zXD (zTup (zCons (zVar 4) (zCons (zVar 5) (zNil))))))) (
  zSeq (zSet (zAdd (zVar 10) (zMul (zVar 11) (zIx (zVarV 13) (zC (.int 0))))) 14) (
  zSeq (zSet (zIf (zIsNT (zVarV 9)) (zVar 11) (zBlt fMin2 (zCons (zVar 11) (zCons (zCall sp_count_within eF (zCons (zVar 9) (zCons (zVar 10) (zCons (zIx (zVarV 13) (zC (.int 0))) (zNil))))) (zNil))))) 15) (
  zRetF (zLst (zCons (zTup (zCons (zIx (zVarV 12) (zC (.int 0))) (zCons (zAdd (zVar 7) (zMul (zSub (zVar 10) (zC (.int 1))) (zVar 8))) (zCons (zMul (zIx (zVarV 13) (zC (.int 0))) (zVar 8)) (zCons (zVar 15) (zNil)))))) (zCons (zTup (zCons (zIx (zVarV 12) (zC (.int 1))) (zCons (zAdd (zVar 7) (zMul (zSub (zVar 14) (zC (.int 1))) (zVar 8))) (zCons (zMul (zIx (zVarV 13) (zC (.int 1))) (zVar 8)) (zCons (zCall sp_count_within eF (zCons (zVar 9) (zCons (zVar 14) (zCons (zIx (zVarV 13) (zC (.int 1))) (zNil))))) (zNil)))))) (zNil)))))))))))
theorem dv_splits_of {Pg : Program} {w : World} {K : PySem.W.Frag} {mg : Str → Option Value} {base : Heap} {f : Addr} (G : Facts mg) (O : Objs K mg) (D_count_within : Df Pg w K mg base 1 "count_within" (spZ K mg sp_count_within)) (cdv : Value) (A : Around) (outer : List Env) (s : Shared) (H : Hp) (E : XK) (Z0 : Zc) (nb : NoBag (Sup Z0)) (C : Cd 1 (cxOf (L2.CX Pg w) Pg w K mg base N_splits_of "splits_of" (defScope s_splits_of) f cdv A outer s H E) (Sup Z0)) :
    PSsd (cxOf (L2.CX Pg w) Pg w K mg base N_splits_of "splits_of" (defScope s_splits_of) f cdv A outer s H E) (Sup Z0) (defBody s_splits_of) t_splits_of :=
  (ssd_cons (sd_asg (pd_var 0 (nb.s 0)) (gd_tup C.calm (gsd_cons (gd_name (i := 3) (nb.s 3) C.nd) (gsd_cons (gd_name (i := 4) (nb.s 4) C.nd) gsd_nil))))
    (ssd_cons (sd_set (i := 5) (nb.s 5) C.nd (pd_sub (pd_add (pd_var 3 (nb.s 3)) pd_int) (pd_var 4 (nb.s 4))))
    (ssd_cons (sd_asg (pd_var 2 (nb.s 2)) (gd_tup C.calm (gsd_cons (gd_name (i := 6) (nb.s 6) C.nd) (gsd_cons (gd_name (i := 7) (nb.s 7) C.nd) (gsd_cons (gd_name (i := 8) (nb.s 8) C.nd) (gsd_cons (gd_name (i := 9) (nb.s 9) C.nd) gsd_nil))))))
    (ssd_cons (sd_set (i := 10) (nb.s 10) C.nd (pd_sub (pd_sub (pd_add (pd_var 3 (nb.s 3)) pd_int) (pd_ix (pv_var 1) pd_int)) (pd_ix (pv_var 1) pd_int)))
    (ssd_cons (sd_if (pt_cmp (op_eqA C.hu) cz_eq (pd_var 6 (nb.s 6)) pd_str) (ssd_one (sd_par3 (i := 11) (j := 12) (l := 13) C (nb.s 11) (nb.s 12) (nb.s 13) (pd_div (pd_ix (pv_var 1) pd_int) (pd_var 5 (nb.s 5))).px (pd_tup (ad_cons pd_str (ad_cons pd_str ad_nil))).px (pd_tup (ad_cons (pd_var 5 (nb.s 5)) (ad_cons (pd_var 4 (nb.s 4)) ad_nil))).px)) (ssd_one (sd_par3 (i := 11) (j := 12) (l := 13) C (nb.s 11) (nb.s 12) (nb.s 13) (pd_blt bz_max2 (call_max2 C.calm) (by rfl) G.b_max rfl (ad_cons pd_int (ad_cons (pd_div (pd_sub (pd_ix (pv_var 1) pd_int) pd_int) (pd_var 4 (nb.s 4))) ad_nil))).px (pd_tup (ad_cons pd_str (ad_cons pd_str ad_nil))).px (pd_tup (ad_cons (pd_var 4 (nb.s 4)) (ad_cons (pd_var 5 (nb.s 5)) ad_nil))).px)))
    (ssd_cons (sd_set (i := 14) (nb.s 14) C.nd (pd_add (pd_var 10 (nb.s 10)) (pd_mul (pd_var 11 (nb.s 11)) (pd_ix (pv_var 13) pd_int))))
    (ssd_cons (sd_set (i := 15) (nb.s 15) C.nd (pd_if (pt_isN (pv_var 9)) (pd_var 11 (nb.s 11)) (pd_blt bz_min2 (call_min2 C.calm) (by rfl) G.b_min rfl (ad_cons (pd_var 11 (nb.s 11)) (ad_cons (dd_call D_count_within C (by rfl) eF ez0 (ad_cons (pd_var 9 (nb.s 9)) (ad_cons (pd_var 10 (nb.s 10)) (ad_cons (pd_ix (pv_var 13) pd_int) ad_nil)))) ad_nil)))))
    (ssd_one (sd_retF (pf_lst (ad_cons (pd_tup (ad_cons (pd_ix (pv_var 12) pd_int) (ad_cons (pd_add (pd_var 7 (nb.s 7)) (pd_mul (pd_sub (pd_var 10 (nb.s 10)) pd_int) (pd_var 8 (nb.s 8)))) (ad_cons (pd_mul (pd_ix (pv_var 13) pd_int) (pd_var 8 (nb.s 8))) (ad_cons (pd_var 15 (nb.s 15)) ad_nil))))) (ad_cons (pd_tup (ad_cons (pd_ix (pv_var 12) pd_int) (ad_cons (pd_add (pd_var 7 (nb.s 7)) (pd_mul (pd_sub (pd_var 14 (nb.s 14)) pd_int) (pd_var 8 (nb.s 8)))) (ad_cons (pd_mul (pd_ix (pv_var 13) pd_int) (pd_var 8 (nb.s 8))) (ad_cons (dd_call D_count_within C (by rfl) eF ez0 (ad_cons (pd_var 9 (nb.s 9)) (ad_cons (pd_var 14 (nb.s 14)) (ad_cons (pd_ix (pv_var 13) pd_int) ad_nil)))) ad_nil))))) ad_nil))))))))))))
--% reads
theorem ln_splits_of : ∀ ds Qz Ez, sp_splits_of ds Qz Ez → ds.length = 3 := by
  rintro ds Q E ⟨_, _, _, _, _, rfl, _⟩
  rfl
theorem min_if (a b : Nat) : (if (b : Int) < (a : Int) then (b : Int) else (a : Int)) = ((min a b : Nat) : Int) := by
  split <;> omega
theorem rd_splits_of : ∀ ds Qz (Ez : Str → Option (Str × D) → Prop), sp_splits_of ds Qz Ez → t_splits_of { nx := fun _ => Qz (.sh .non), rt := fun r _ => Qz r } (startS N_splits_of ds) := by
  rintro ds Q E ⟨m, s, a, b, ⟨up, mo, st, nu⟩, rfl, hR, hp, hst, q⟩
  obtain ⟨h1, h2, h3, h4, h5, h6⟩ := id hR
  have h200 : (10 : Nat) ^ 30 < 2 ^ 100 := by decide
  have h200' : (2 : Nat) ^ 100 * 8 ≤ 2 ^ 200 := by decide
  have eg : (m : Int) + 1 - (s : Int) = ((m + 1 - s : Nat) : Int) := by omega
  have eb : (m : Int) + 1 - (a : Int) - (b : Int) = ((beg m a b : Nat) : Int) := by unfold beg; omega
  obtain ⟨l1, l2, l3, l4⟩ := hR.latB hp up
  have f3 := hR.few3 hp up
  have hst : st.log2 ≤ 800000 := hst
  have ln : (lat m s a b up : Int) = (beg m a b : Int) + (few m s a b up : Int) * (wid m s up : Int) := by unfold lat; rw [← Int.natCast_mul]; omega
  have w0 := hR.widB up
  have w1 := hR.widB (!up)
  -- what follows the choice by kind
  have main : ∀ (S0 : SS), S0 = [.sh (.tup [.int (m : Int), .int (s : Int)]), .sh (.tup [.int (a : Int), .int (b : Int)]), .sh (segD ⟨up, mo, st, nu⟩), .sh (.int m), .sh (.int s), .sh (.int ((m + 1 - s : Nat) : Int)), .sh (.str (kS up)), .sh (.int mo), .sh (.int st), .sh (numD nu), .sh (.int (beg m a b)), .sh (.int (few m s a b up)), .sh (.tup [.str (kS (!up)), .str (kS up)]), .sh (.tup [.int (wid m s up), .int (wid m s (!up))]), .un, .un] →
      zSeq (zSet (zAdd (zVar 10) (zMul (zVar 11) (zIx (zVarV 13) (zC (.int 0))))) 14) (
        zSeq (zSet (zIf (zIsNT (zVarV 9)) (zVar 11) (zBlt fMin2 (zCons (zVar 11) (zCons (zCall sp_count_within eF (zCons (zVar 9) (zCons (zVar 10) (zCons (zIx (zVarV 13) (zC (.int 0))) (zNil))))) (zNil))))) 15) (
        zRetF (zLst (zCons (zTup (zCons (zIx (zVarV 12) (zC (.int 0))) (zCons (zAdd (zVar 7) (zMul (zSub (zVar 10) (zC (.int 1))) (zVar 8))) (zCons (zMul (zIx (zVarV 13) (zC (.int 0))) (zVar 8)) (zCons (zVar 15) (zNil)))))) (zCons (zTup (zCons (zIx (zVarV 12) (zC (.int 1))) (zCons (zAdd (zVar 7) (zMul (zSub (zVar 14) (zC (.int 1))) (zVar 8))) (zCons (zMul (zIx (zVarV 13) (zC (.int 1))) (zVar 8)) (zCons (zCall sp_count_within eF (zCons (zVar 9) (zCons (zVar 14) (zCons (zIx (zVarV 13) (zC (.int 1))) (zNil))))) (zNil)))))) (zNil))))))
        { nx := fun _ => Q (.sh .non), rt := fun r _ => Q r } S0 := by
    rintro S0 rfl
    have fin : ∀ (f : Nat), f = fstN m s a b ⟨up, mo, st, nu⟩ → Q (.ow [.tup [.str (kS (!up)), .int ((mo : Int) + ((beg m a b : Int) - 1) * (st : Int)), .int ((wid m s up : Int) * (st : Int)), .int (f : Int)], .tup [.str (kS up), .int ((mo : Int) + ((lat m s a b up : Int) - 1) * (st : Int)), .int ((wid m s (!up) : Int) * (st : Int)), numD (cwO nu (lat m s a b up) (wid m s (!up)))]]) := fun f hf => by
      subst hf
      rw [show ((mo : Int) + ((beg m a b : Int) - 1) * (st : Int)) = ((mo + (beg m a b - 1) * st : Nat) : Int) by rw [show ((beg m a b : Int) - 1) = ((beg m a b - 1 : Nat) : Int) by omega, ← Int.natCast_mul]; omega,
        show ((mo : Int) + ((lat m s a b up : Int) - 1) * (st : Int)) = ((mo + (lat m s a b up - 1) * st : Nat) : Int) by rw [show ((lat m s a b up : Int) - 1) = ((lat m s a b up - 1 : Nat) : Int) by omega, ← Int.natCast_mul]; omega,
        ← Int.natCast_mul, ← Int.natCast_mul]
      exact q
    have mb : CMulW ((beg m a b : Int) - 1) (st : Int) := by
      rw [show ((beg m a b : Int) - 1) = ((beg m a b - 1 : Nat) : Int) by omega]
      exact mulL (by omega) hst
    have ml : CMulW ((lat m s a b up : Int) - 1) (st : Int) := by
      rw [show ((lat m s a b up : Int) - 1) = ((lat m s a b up - 1 : Nat) : Int) by omega]
      exact mulL (by omega) hst
    have m0 : CMulW (wid m s up : Int) (st : Int) := mulL (by omega) hst
    have m1 : CMulW (wid m s (!up) : Int) (st : Int) := mulL (by omega) hst
    and_intros
    refine ⟨mulN (by omega) (by omega), ?_⟩
    and_intros
    rw [← ln]
    cases nu with
    | none =>
      and_intros
      refine ⟨mb, ?_⟩
      and_intros
      refine ⟨m0, ?_⟩
      and_intros
      refine ⟨ml, ?_⟩
      and_intros
      refine ⟨m1, ?_⟩
      and_intros
      refine ⟨by omega, by omega, ?_⟩
      and_intros
      exact fin _ rfl
    | some n =>
      and_intros
      refine ⟨by omega, by omega, ?_⟩
      and_intros
      rw [min_if]
      refine ⟨mb, ?_⟩
      and_intros
      refine ⟨m0, ?_⟩
      and_intros
      refine ⟨ml, ?_⟩
      and_intros
      refine ⟨m1, ?_⟩
      and_intros
      refine ⟨by omega, by omega, ?_⟩
      and_intros
      exact fin _ rfl
  unfold t_splits_of
  refine cut5 (fun S' => S' = [.sh (.tup [.int (m : Int), .int (s : Int)]), .sh (.tup [.int (a : Int), .int (b : Int)]), .sh (segD ⟨up, mo, st, nu⟩), .sh (.int m), .sh (.int s), .sh (.int ((m + 1 - s : Nat) : Int)), .sh (.str (kS up)), .sh (.int mo), .sh (.int st), .sh (numD nu), .sh (.int (beg m a b)), .sh (.int (few m s a b up)), .sh (.tup [.str (kS (!up)), .str (kS up)]), .sh (.tup [.int (wid m s up), .int (wid m s (!up))]), .un, .un]) (fun K hK => ?_) fun S' h => main S' h
  cases up
  · and_intros
    rw [show kS false = ("down" : Str) from rfl, sdu]
    and_intros
    refine ⟨divN (by omega) (by omega), ?_⟩
    and_intros
    rw [eg, eb]
    refine hK _ ?_
    have ea : (if (((a : Int) - 1) / (s : Int) : Int) > 0 then ((a : Int) - 1) / (s : Int) else 0) = ((few m s a b false : Nat) : Int) := by
      unfold few
      simp only [Bool.false_eq_true, if_false]
      by_cases h0 : a = 0
      · subst h0
        have e1 : (((0 : Nat) : Int) - 1) / (s : Int) = -1 := by
          have : (((0 : Nat) : Int) - 1) = -1 := by simp
          rw [this]
          have y1 : (-1 : Int) / (s : Int) < 0 := Int.ediv_neg_of_neg_of_pos (by omega) (by omega)
          have y2 : -1 ≤ (-1 : Int) / (s : Int) := Int.le_ediv_of_mul_le (by omega) (by omega)
          omega
        rw [e1]
        simp
      · rw [show (a : Int) - 1 = ((a - 1 : Nat) : Int) by omega, ← Int.natCast_ediv]
        generalize (a - 1) / s = q
        split <;> omega
    rw [ea]
    rfl
  · and_intros
    rw [show kS true = ("up" : Str) from rfl, suu]
    and_intros
    rw [eg]
    refine ⟨divN (by omega) (by omega), ?_⟩
    and_intros
    rw [eb]
    refine hK _ ?_
    simp only [few, wid, if_true, Int.natCast_ediv]
    rfl
theorem ok_splits_of {Pg : Program} {w : World} {K : PySem.W.Frag} {mg : Str → Option Value} {base : Heap} {f : Addr} {fd : FuncData} (Fu : Fun K "splits_of" "splits_of" s_splits_of f fd) (G : Facts mg) (O : Objs K mg) (D_count_within : Df Pg w K mg base 1 "count_within" (spZ K mg sp_count_within)) : FnP Pg w K mg base 2 f fd ["rule", "place", "segment"] (spZ K mg sp_splits_of) :=
  okZ (N := N_splits_of) (t := fun _ => t_splits_of) Fu sc_splits_of ln_splits_of (fun cdv A outer s H E Z0 nb C => dv_splits_of G O D_count_within cdv A outer s H E Z0 nb C) rd_splits_of
/-! #### page_behind -/
theorem cw_lt {n b s : Nat} (h : n < b) : cw n b s = 0 := if_pos h
theorem cw_ge {n b s : Nat} (h : b ≤ n) (hs : 0 < s) : ∃ q, cw n b s = q + 1 ∧ q * s ≤ n - b ∧ n - b < q * s + s := by
  refine ⟨(n - b) / s, if_neg (by omega), Nat.div_mul_le_self _ _, ?_⟩
  have := Nat.lt_div_mul_add hs (a := n - b)
  omega
def side (a b : Nat) (up : Bool) : Nat := if up then b else a
theorem seg_step {m s a b : Nat} (n : Nat) (up : Bool) (hR : Rl m s) (hp : a + b ≤ m) :
    let f := min (few m s a b up) (cw n (beg m a b) (wid m s up))
    let h := cw n (lat m s a b up) (wid m s (!up))
    f * wid m s up ≤ side a b up ∧ f ≤ 3 ∧ ∃ z, f * wid m s up + h * wid m s (!up) + z = a + b + n ∧ z ≤ m ∧ side a b up - f * wid m s up ≤ z ∧ 2 * (f + h) + min (m + 1 - (a + b)) 2 ≤ n + min (m + 1 - z) 2 := by
  obtain ⟨h1, h2, h3, h4, h5, h6⟩ := id hR
  have hf3 := hR.few3 hp up
  have hw := hR.widB up
  have hv := hR.widB (!up)
  have hwv : wid m s up + wid m s (!up) = m + 1 := by cases up <;> simp [wid] <;> omega
  have hF : ∃ c, c ≤ side a b up ∧ side a b up ≤ c + 1 ∧ (up = true → c = side a b up) ∧ few m s a b up = c / wid m s up := by
    cases up
    · exact ⟨a - 1, by simp [side], by simp [side]; omega, by simp, by simp [few, wid]⟩
    · exact ⟨b, by simp [side], by simp [side], by simp [side], by simp [few, wid]⟩
  have hsd : side a b up ≤ a + b := by cases up <;> simp [side]
  have hsm : up = false → few m s a b up * wid m s up < side a b up ∨ few m s a b up = 0 := by
    rintro rfl
    by_cases h0 : a ≤ 1
    · right
      simp only [few, Bool.false_eq_true, if_false]
      rw [show a - 1 = 0 by omega, Nat.zero_div]
    · left
      have := Nat.div_mul_le_self (a - 1) s
      simp only [few, wid, side, Bool.false_eq_true, if_false]
      omega
  obtain ⟨c, hc1, hc2, hc3, hc4⟩ := hF
  have x1 := Nat.div_mul_le_self c (wid m s up)
  have x2 := Nat.lt_div_mul_add (show 0 < wid m s up by omega) (a := c)
  rw [← hc4] at x1 x2
  have hl : lat m s a b up = beg m a b + few m s a b up * wid m s up := rfl
  have hb : beg m a b = m + 1 - (a + b) := by unfold beg; omega
  rw [hl, hb]
  generalize side a b up = sd at *
  generalize hW : wid m s up = W at *
  generalize hV : wid m s (!up) = V at *
  generalize hFe : few m s a b up = F at *
  have mF : 2 * F ≤ F * W := by rw [Nat.mul_comm]; exact Nat.mul_le_mul_left _ hw.1
  generalize hX : F * W = X at *
  intro f h
  by_cases c1 : n < m + 1 - (a + b)
  · have e1 : f = 0 := by show min F _ = 0; rw [cw_lt c1]; omega
    have e2 : h = 0 := cw_lt (by omega)
    rw [e1, e2]
    refine ⟨by omega, by omega, a + b + n, by omega, by omega, by omega, by omega⟩
  · obtain ⟨q, q1, q2, q3⟩ := cw_ge (s := W) (show m + 1 - (a + b) ≤ n by omega) (by omega)
    have mq : 2 * q ≤ q * W := by rw [Nat.mul_comm]; exact Nat.mul_le_mul_left _ hw.1
    by_cases c2 : n < m + 1 - (a + b) + X
    · have e2 : h = 0 := cw_lt c2
      have hqF : q + 1 ≤ F := by
        by_cases z : q + 1 ≤ F
        · exact z
        · have := Nat.mul_le_mul_right W (show F ≤ q by omega)
          omega
      have e1 : f = q + 1 := by show min F _ = _; rw [q1]; omega
      have g1 := Nat.mul_le_mul_right W hqF
      rw [hX, Nat.succ_mul] at g1
      rw [e1, e2, Nat.succ_mul]
      generalize q * W = Y at *
      refine ⟨by omega, by omega, a + b + n - (Y + W), by omega, by omega, by omega, by omega⟩
    · obtain ⟨p, p1, p2, p3⟩ := cw_ge (s := V) (show m + 1 - (a + b) + X ≤ n by omega) (by omega)
      have mp : 2 * p ≤ p * V := by rw [Nat.mul_comm]; exact Nat.mul_le_mul_left _ hv.1
      have hqF : F ≤ q := by
        by_cases z : F ≤ q
        · exact z
        · have := Nat.mul_le_mul_right W (show q + 1 ≤ F by omega)
          rw [Nat.succ_mul] at this
          omega
      have e1 : f = F := by show min F _ = _; rw [q1]; omega
      have e2 : h = p + 1 := p1
      rw [e1, e2, hX, Nat.succ_mul]
      generalize p * V = Y at *
      refine ⟨by omega, by omega, a + b + n - X - (Y + V), by omega, by omega, by omega, by omega⟩
/-- how many new pages stand ahead and behind -/
def pbU (m s a b : Nat) (g : Seg) (n : Nat) : Nat := if g.up then cw n (lat m s a b g.up) (wid m s (!g.up)) else min (few m s a b g.up) (cw n (beg m a b) (wid m s g.up))
def pbD (m s a b : Nat) (g : Seg) (n : Nat) : Nat := if g.up then min (few m s a b g.up) (cw n (beg m a b) (wid m s g.up)) else cw n (lat m s a b g.up) (wid m s (!g.up))
def pbZ (m s a b : Nat) (g : Seg) (n : Nat) : Nat := a + b + n - pbU m s a b g n * s - pbD m s a b g n * (m + 1 - s)
def pbA (m s a b : Nat) (g : Seg) (n : Nat) : Nat := if g.up then pbZ m s a b g n - (b - pbD m s a b g n * (m + 1 - s)) else a - pbU m s a b g n * s
def pbB (m s a b : Nat) (g : Seg) (n : Nat) : Nat := if g.up then b - pbD m s a b g n * (m + 1 - s) else pbZ m s a b g n - (a - pbU m s a b g n * s)
theorem pb_ok {m s a b : Nat} {g : Seg} (n : Nat) (hR : Rl m s) (hp : a + b ≤ m) :
    pbA m s a b g n + pbB m s a b g n = pbZ m s a b g n ∧ pbZ m s a b g n ≤ m ∧ pbU m s a b g n * s + pbD m s a b g n * (m + 1 - s) + pbZ m s a b g n = a + b + n ∧
    2 * (pbU m s a b g n + pbD m s a b g n) + min (m + 1 - (a + b)) 2 ≤ n + min (m + 1 - pbZ m s a b g n) 2 ∧
    (g.up = true → pbD m s a b g n * (m + 1 - s) ≤ b ∧ b - pbD m s a b g n * (m + 1 - s) ≤ pbZ m s a b g n) ∧ (g.up = false → pbU m s a b g n * s ≤ a ∧ a - pbU m s a b g n * s ≤ pbZ m s a b g n) := by
  obtain ⟨k1, k2, z, k3, k4, k5, k6⟩ := seg_step n g.up hR hp
  obtain ⟨up, mo, st, nu⟩ := g
  cases up
  · simp only [side, wid, Bool.false_eq_true, if_false, Bool.not_false, if_true] at k1 k2 k3 k4 k5 k6
    have ez : pbZ m s a b ⟨false, mo, st, nu⟩ n = z := by
      simp only [pbZ, pbU, pbD, wid, Bool.false_eq_true, if_false, Bool.not_false, if_true]
      omega
    simp only [pbA, pbB, ez]
    simp only [pbU, pbD, wid, Bool.false_eq_true, if_false, Bool.not_false, if_true]
    refine ⟨by omega, by omega, by omega, by omega, by simp, fun _ => ⟨k1, k5⟩⟩
  · simp only [side, wid, Bool.false_eq_true, if_false, Bool.not_true, if_true] at k1 k2 k3 k4 k5 k6
    have ez : pbZ m s a b ⟨true, mo, st, nu⟩ n = z := by
      simp only [pbZ, pbU, pbD, wid, Bool.false_eq_true, if_false, Bool.not_true, if_true]
      omega
    simp only [pbA, pbB, ez]
    simp only [pbU, pbD, wid, Bool.false_eq_true, if_false, Bool.not_true, if_true]
    refine ⟨by omega, by omega, by omega, by omega, fun _ => ⟨k1, k5⟩, by simp⟩
def sp_page_behind : ZSp := fun ds Q _ => ∃ (m s a b : Nat) (up : Bool) (mo st n : Nat), ds = [.tup [.int (m : Int), .int (s : Int)], .tup [.int (a : Int), .int (b : Int)], segD ⟨up, mo, st, some n⟩] ∧ Rl m s ∧ a + b ≤ m ∧ st.log2 ≤ 800000 ∧ n < 2 ^ 150 ∧
  Q (.sh (.tup [.tup [.int (pbA m s a b ⟨up, mo, st, some n⟩ n : Int), .int (pbB m s a b ⟨up, mo, st, some n⟩ n : Int)], .int (pbU m s a b ⟨up, mo, st, some n⟩ n : Int), .int (pbD m s a b ⟨up, mo, st, some n⟩ n : Int)]))
def t_page_behind : ZS := zSeq (zAsg (zVar 0) (gzTup 2 (gzCons (gzName 3) (gzCons (gzName 4) (gzNil))))) (
  zSeq (zSet (zDc [9, 10, 11, 12] (zItS (zCall sp_splits_of eF (zCons (zVar 0) (zCons (zVar 1) (zCons (zVar 2) (zNil)))))) (gzTup 4 (gzCons (gzName 9) (gzCons (gzName 10) (gzCons (gzName 11) (gzCons (gzName 12) (gzNil)))))) (zYes) (zVar 9) (zVar 12)) 5) (
  zSeq (zSet (zSub (zSub (zAdd (zAdd (zIx (zVarV 1) (zC (.int 0))) (zIx (zVarV 1) (zC (.int 1)))) (zIx (zVarV 2) (zC (.int 3)))) (zMul (zKey (zVar 5) (zC (.str "up"))) (zVar 4))) (zMul (zKey (zVar 5) (zC (.str "down"))) (zSub (zAdd (zVar 3) (zC (.int 1))) (zVar 4)))) 6) (
  zSeq (zIfS (zCmpT fEq (zIx (zVarV 2) (zC (.int 0))) (zC (.str "up"))) (zSeq (zSet (zSub (zIx (zVarV 1) (zC (.int 1))) (zMul (zKey (zVar 5) (zC (.str "down"))) (zSub (zAdd (zVar 3) (zC (.int 1))) (zVar 4)))) 7) (
  zRet (zTup (zCons (zTup (zCons (zSub (zVar 6) (zVar 7)) (zCons (zVar 7) (zNil)))) (zCons (zKey (zVar 5) (zC (.str "up"))) (zCons (zKey (zVar 5) (zC (.str "down"))) (zNil))))))) (zNext)) (
  zSeq (zSet (zSub (zIx (zVarV 1) (zC (.int 0))) (zMul (zKey (zVar 5) (zC (.str "up"))) (zVar 4))) 8) (
  zRet (zTup (zCons (zTup (zCons (zVar 8) (zCons (zSub (zVar 6) (zVar 8)) (zNil)))) (zCons (zKey (zVar 5) (zC (.str "up"))) (zCons (zKey (zVar 5) (zC (.str "down"))) (zNil))))))))))
theorem dv_page_behind {Pg : Program} {w : World} {K : PySem.W.Frag} {mg : Str → Option Value} {base : Heap} {f : Addr} (G : Facts mg) (O : Objs K mg) (D_splits_of : Df Pg w K mg base 2 "splits_of" (spZ K mg sp_splits_of)) (cdv : Value) (A : Around) (outer : List Env) (s : Shared) (H : Hp) (E : XK) (Z0 : Zc) (nb : NoBag (Sup Z0)) (C : Cd 2 (cxOf (L2.CX Pg w) Pg w K mg base N_page_behind "page_behind" (defScope s_page_behind) f cdv A outer s H E) (Sup Z0)) :
    PSsd (cxOf (L2.CX Pg w) Pg w K mg base N_page_behind "page_behind" (defScope s_page_behind) f cdv A outer s H E) (Sup Z0) (defBody s_page_behind) t_page_behind :=
  (ssd_cons (sd_asg (pd_var 0 (nb.s 0)) (gd_tup C.calm (gsd_cons (gd_name (i := 3) (nb.s 3) C.nd) (gsd_cons (gd_name (i := 4) (nb.s 4) C.nd) gsd_nil))))
    (ssd_cons (sd_setDc (i := 5) (own := [("way", 9), ("moment", 10), ("step", 11), ("number", 12)]) (nb.s 5) C.calm C.nd nb.l (id_seq (dd_call D_splits_of C (by rfl) eF ez0 (ad_cons (pd_var 0 (nb.s 0)) (ad_cons (pd_var 1 (nb.s 1)) (ad_cons (pd_var 2 (nb.s 2)) ad_nil))))) (blkOk_by (N := N_page_behind) (sc := defScope s_page_behind) (by decide +kernel)) (by decide) (fun _ _ _ _ _ => (gd_tup C.blk.calm (gsd_cons (gd_name (i := 9) (nb.pin.s 9) C.blk.nd) (gsd_cons (gd_name (i := 10) (nb.pin.s 10) C.blk.nd) (gsd_cons (gd_name (i := 11) (nb.pin.s 11) C.blk.nd) (gsd_cons (gd_name (i := 12) (nb.pin.s 12) C.blk.nd) gsd_nil)))))) (fun _ _ _ _ _ => tsd_nil) (fun _ _ _ _ _ => (pd_var 9 (nb.pin.s 9))) (fun _ _ _ _ _ => (pd_var 12 (nb.pin.s 12))))
    (ssd_cons (sd_set (i := 6) (nb.s 6) C.nd (pd_sub (pd_sub (pd_add (pd_add (pd_ix (pv_var 1) pd_int) (pd_ix (pv_var 1) pd_int)) (pd_ix (pv_var 2) pd_int)) (pd_mul (pd_key (nu C) (pd_var 5 (nb.s 5)) pd_str) (pd_var 4 (nb.s 4)))) (pd_mul (pd_key (nu C) (pd_var 5 (nb.s 5)) pd_str) (pd_sub (pd_add (pd_var 3 (nb.s 3)) pd_int) (pd_var 4 (nb.s 4))))))
    (ssd_cons (sd_if (pt_cmp (op_eqA C.hu) cz_eq (pd_ix (pv_var 2) pd_int) pd_str) (ssd_cons (sd_set (i := 7) (nb.s 7) C.nd (pd_sub (pd_ix (pv_var 1) pd_int) (pd_mul (pd_key (nu C) (pd_var 5 (nb.s 5)) pd_str) (pd_sub (pd_add (pd_var 3 (nb.s 3)) pd_int) (pd_var 4 (nb.s 4))))))
    (ssd_one (sd_ret (pd_tup (ad_cons (pd_tup (ad_cons (pd_sub (pd_var 6 (nb.s 6)) (pd_var 7 (nb.s 7))) (ad_cons (pd_var 7 (nb.s 7)) ad_nil))) (ad_cons (pd_key (nu C) (pd_var 5 (nb.s 5)) pd_str) (ad_cons (pd_key (nu C) (pd_var 5 (nb.s 5)) pd_str) ad_nil))))))) ssd_nil)
    (ssd_cons (sd_set (i := 8) (nb.s 8) C.nd (pd_sub (pd_ix (pv_var 1) pd_int) (pd_mul (pd_key (nu C) (pd_var 5 (nb.s 5)) pd_str) (pd_var 4 (nb.s 4)))))
    (ssd_one (sd_ret (pd_tup (ad_cons (pd_tup (ad_cons (pd_var 8 (nb.s 8)) (ad_cons (pd_sub (pd_var 6 (nb.s 6)) (pd_var 8 (nb.s 8))) ad_nil))) (ad_cons (pd_key (nu C) (pd_var 5 (nb.s 5)) pd_str) (ad_cons (pd_key (nu C) (pd_var 5 (nb.s 5)) pd_str) ad_nil)))))))))))
--% reads
theorem ln_page_behind : ∀ ds Qz Ez, sp_page_behind ds Qz Ez → ds.length = 3 := by
  rintro ds Q E ⟨_, _, _, _, _, _, _, _, rfl, _⟩
  rfl
theorem kget1 {k k2 : Key} {x y : D} : KGet [k, k2] [x, y] k x := ⟨by unfold kget; rw [if_pos rfl]⟩
theorem kget2 {k k2 : Key} {x y : D} (h : k ≠ k2) : KGet [k, k2] [x, y] k2 y := ⟨by unfold kget; rw [if_neg h]; unfold kget; rw [if_pos rfl]⟩
theorem ud : (Sum.inr ("up" : Str) : Key) ≠ Sum.inr ("down" : Str) := by decide +kernel
theorem fr0 {k : Key} : KFresh [] k := ⟨fun _ h => by cases h⟩
theorem fr1 {k k2 : Key} (h : k ≠ k2) : KFresh [k] k2 := ⟨fun z hz => by rw [List.mem_singleton.mp hz]; exact h⟩
theorem rd_page_behind : ∀ ds Qz (Ez : Str → Option (Str × D) → Prop), sp_page_behind ds Qz Ez → t_page_behind { nx := fun _ => Qz (.sh .non), rt := fun r _ => Qz r } (startS N_page_behind ds) := by
  rintro ds Q E ⟨m, s, a, b, up, mo, st, n, rfl, hR, hp, hst, hn, q⟩
  obtain ⟨h1, h2, h3, h4, h5, h6⟩ := id hR
  have h200 : (10 : Nat) ^ 30 < 2 ^ 100 := by decide
  have eg : (m : Int) + 1 - (s : Int) = ((m + 1 - s : Nat) : Int) := by omega
  obtain ⟨p1, p2, p3, p4, p5, p6⟩ := pb_ok (g := ⟨up, mo, st, some n⟩) n hR hp
  have hn200 : (2 : Nat) ^ 150 * 2 ≤ 2 ^ 200 := by decide
  cases up
  · have eU : fstN m s a b ⟨false, mo, st, some n⟩ = pbU m s a b ⟨false, mo, st, some n⟩ n := rfl
    have eD : sndN m s a b ⟨false, mo, st, some n⟩ = some (pbD m s a b ⟨false, mo, st, some n⟩ n) := rfl
    have e0 : segD (sp0 m s a b ⟨false, mo, st, some n⟩) = .tup [.str "up", .int ((mo + (beg m a b - 1) * st : Nat) : Int), .int ((wid m s false * st : Nat) : Int), .int (pbU m s a b ⟨false, mo, st, some n⟩ n : Int)] := rfl
    have e1 : segD (sp1 m s a b ⟨false, mo, st, some n⟩) = .tup [.str "down", .int ((mo + (lat m s a b false - 1) * st : Nat) : Int), .int ((wid m s true * st : Nat) : Int), .int (pbD m s a b ⟨false, mo, st, some n⟩ n : Int)] := rfl
    obtain ⟨p6, p7⟩ := p6 rfl
    have eA : pbA m s a b ⟨false, mo, st, some n⟩ n = a - pbU m s a b ⟨false, mo, st, some n⟩ n * s := rfl
    have eB : pbB m s a b ⟨false, mo, st, some n⟩ n = pbZ m s a b ⟨false, mo, st, some n⟩ n - (a - pbU m s a b ⟨false, mo, st, some n⟩ n * s) := rfl
    rw [eA, eB] at q
    generalize pbZ m s a b ⟨false, mo, st, some n⟩ n = Z at *
    generalize pbU m s a b ⟨false, mo, st, some n⟩ n = U at *
    generalize pbD m s a b ⟨false, mo, st, some n⟩ n = W at *
    and_intros
    refine ⟨m, s, a, b, ⟨false, mo, st, some n⟩, rfl, hR, hp, hst, ?_⟩
    rw [e0, e1]
    and_intros
    refine ⟨⟨trivial, trivial, trivial, trivial, trivial⟩, ?_⟩
    and_intros
    refine ⟨fr0, ?_⟩
    and_intros
    refine ⟨fr1 ud, ?_⟩
    and_intros
    refine ⟨_, kget1, ?_⟩
    and_intros
    refine ⟨mulN (by omega) (by omega), ?_⟩
    and_intros
    refine ⟨_, kget2 ud, ?_⟩
    and_intros
    rw [eg]
    refine ⟨mulN (by omega) (by omega), ?_⟩
    and_intros
    rw [show kS false = ("down" : Str) from rfl, sdu]
    and_intros
    refine ⟨_, kget1, ?_⟩
    and_intros
    refine ⟨mulN (by omega) (by omega), ?_⟩
    and_intros
    refine ⟨_, kget1, ?_⟩
    and_intros
    refine ⟨_, kget2 ud, ?_⟩
    and_intros
    rw [show ((U : Nat) : Int) * (s : Int) = ((U * s : Nat) : Int) from (Int.natCast_mul ..).symm, show ((W : Nat) : Int) * ((m + 1 - s : Nat) : Int) = ((W * (m + 1 - s) : Nat) : Int) from (Int.natCast_mul ..).symm]
    generalize U * s = X at *
    generalize W * (m + 1 - s) = Y at *
    rw [show (a : Int) + b + n - X - Y - (a - X) = ((Z - (a - X) : Nat) : Int) by omega, show (a : Int) - X = ((a - X : Nat) : Int) by omega]
    exact q
  · have eU : fstN m s a b ⟨true, mo, st, some n⟩ = pbD m s a b ⟨true, mo, st, some n⟩ n := rfl
    have eD : sndN m s a b ⟨true, mo, st, some n⟩ = some (pbU m s a b ⟨true, mo, st, some n⟩ n) := rfl
    have e0 : segD (sp0 m s a b ⟨true, mo, st, some n⟩) = .tup [.str "down", .int ((mo + (beg m a b - 1) * st : Nat) : Int), .int ((wid m s true * st : Nat) : Int), .int (pbD m s a b ⟨true, mo, st, some n⟩ n : Int)] := rfl
    have e1 : segD (sp1 m s a b ⟨true, mo, st, some n⟩) = .tup [.str "up", .int ((mo + (lat m s a b true - 1) * st : Nat) : Int), .int ((wid m s false * st : Nat) : Int), .int (pbU m s a b ⟨true, mo, st, some n⟩ n : Int)] := rfl
    obtain ⟨p6, p7⟩ := p5 rfl
    have eA : pbA m s a b ⟨true, mo, st, some n⟩ n = pbZ m s a b ⟨true, mo, st, some n⟩ n - (b - pbD m s a b ⟨true, mo, st, some n⟩ n * (m + 1 - s)) := rfl
    have eB : pbB m s a b ⟨true, mo, st, some n⟩ n = b - pbD m s a b ⟨true, mo, st, some n⟩ n * (m + 1 - s) := rfl
    rw [eA, eB] at q
    generalize pbZ m s a b ⟨true, mo, st, some n⟩ n = Z at *
    generalize pbU m s a b ⟨true, mo, st, some n⟩ n = U at *
    generalize pbD m s a b ⟨true, mo, st, some n⟩ n = W at *
    and_intros
    refine ⟨m, s, a, b, ⟨true, mo, st, some n⟩, rfl, hR, hp, hst, ?_⟩
    rw [e0, e1]
    and_intros
    refine ⟨⟨trivial, trivial, trivial, trivial, trivial⟩, ?_⟩
    and_intros
    refine ⟨fr0, ?_⟩
    and_intros
    refine ⟨fr1 ud.symm, ?_⟩
    and_intros
    refine ⟨_, kget2 ud.symm, ?_⟩
    and_intros
    refine ⟨mulN (by omega) (by omega), ?_⟩
    and_intros
    refine ⟨_, kget1, ?_⟩
    and_intros
    rw [eg]
    refine ⟨mulN (by omega) (by omega), ?_⟩
    and_intros
    rw [show kS true = ("up" : Str) from rfl, suu]
    and_intros
    refine ⟨_, kget1, ?_⟩
    and_intros
    rw [eg]
    refine ⟨mulN (by omega) (by omega), ?_⟩
    and_intros
    refine ⟨_, kget2 ud.symm, ?_⟩
    and_intros
    refine ⟨_, kget1, ?_⟩
    and_intros
    rw [show ((U : Nat) : Int) * (s : Int) = ((U * s : Nat) : Int) from (Int.natCast_mul ..).symm, show ((W : Nat) : Int) * ((m + 1 - s : Nat) : Int) = ((W * (m + 1 - s) : Nat) : Int) from (Int.natCast_mul ..).symm]
    generalize U * s = X at *
    generalize W * (m + 1 - s) = Y at *
    rw [show (a : Int) + b + n - X - Y - (b - Y) = ((Z - (b - Y) : Nat) : Int) by omega, show (b : Int) - Y = ((b - Y : Nat) : Int) by omega]
    exact q
theorem ok_page_behind {Pg : Program} {w : World} {K : PySem.W.Frag} {mg : Str → Option Value} {base : Heap} {f : Addr} {fd : FuncData} (Fu : Fun K "page_behind" "page_behind" s_page_behind f fd) (G : Facts mg) (O : Objs K mg) (D_splits_of : Df Pg w K mg base 2 "splits_of" (spZ K mg sp_splits_of)) : FnP Pg w K mg base 3 f fd ["rule", "place", "segment"] (spZ K mg sp_page_behind) :=
  okZ (N := N_page_behind) (t := fun _ => t_page_behind) Fu sc_page_behind ln_page_behind (fun cdv A outer s H E Z0 nb C => dv_page_behind G O D_splits_of cdv A outer s H E Z0 nb C) rd_page_behind
/-! #### rule_of_level -/
def sp_rule_of_level : ZSp := fun ds Q _ => ∃ (r : RN) (i : Nat), ds = [r.d, .int (i : Int)] ∧ Q (.sh (.tup [.int (r.most i : Int), .int (r.stays i : Int)]))
def t_rule_of_level : ZS := zRet (zIf (zCmpT fEq (zVar 1) (zC (.int 0))) (zSliceA (zShV (zFld "Rule" "own_numbers" (zVarV 0))) zNoPart (zPart (zC (.int 2)))) (zSliceA (zShV (zFld "Rule" "own_numbers" (zVarV 0))) (zPart (zC (.int 2))) zNoPart))
theorem dv_rule_of_level {Pg : Program} {w : World} {K : PySem.W.Frag} {mg : Str → Option Value} {base : Heap} {f : Addr} (G : Facts mg) (O : Objs K mg) (cdv : Value) (A : Around) (outer : List Env) (s : Shared) (H : Hp) (E : XK) (Z0 : Zc) (nb : NoBag (Sup Z0)) (C : Cd 0 (cxOf (L2.CX Pg w) Pg w K mg base N_rule_of_level "rule_of_level" (defScope s_rule_of_level) f cdv A outer s H E) (Sup Z0)) :
    PSsd (cxOf (L2.CX Pg w) Pg w K mg base N_rule_of_level "rule_of_level" (defScope s_rule_of_level) f cdv A outer s H E) (Sup Z0) (defBody s_rule_of_level) t_rule_of_level :=
  (ssd_one (sd_ret (pd_if (pt_cmp (op_eqA C.hu) cz_eq (pd_var 1 (nb.s 1)) pd_int) (pd_sliceA (pd_fld O.n_Rule_own_numbers (pv_var 0)).pv od_none (od_some pd_int)) (pd_sliceA (pd_fld O.n_Rule_own_numbers (pv_var 0)).pv (od_some pd_int) od_none))))
--% reads
theorem ln_rule_of_level : ∀ ds Qz Ez, sp_rule_of_level ds Qz Ez → ds.length = 2 := by
  rintro ds Q E ⟨_, _, rfl, _⟩
  rfl
theorem rd_rule_of_level : ∀ ds Qz (Ez : Str → Option (Str × D) → Prop), sp_rule_of_level ds Qz Ez → t_rule_of_level { nx := fun _ => Qz (.sh .non), rt := fun r _ => Qz r } (startS N_rule_of_level ds) := by
  rintro ds Q E ⟨r, i, rfl, q⟩
  and_intros
  refine ⟨fun v => ?_, fun v => ?_⟩
  · have v := asc v
    and_intros
    rw [RN.most, RN.stays, if_pos (by omega), if_pos (by omega)] at q
    exact q
  · have v := nac v
    and_intros
    rw [RN.most, RN.stays, if_neg (by omega), if_neg (by omega)] at q
    exact q
theorem ok_rule_of_level {Pg : Program} {w : World} {K : PySem.W.Frag} {mg : Str → Option Value} {base : Heap} {f : Addr} {fd : FuncData} (Fu : Fun K "rule_of_level" "rule_of_level" s_rule_of_level f fd) (G : Facts mg) (O : Objs K mg) : FnP Pg w K mg base 1 f fd ["rule", "level"] (spZ K mg sp_rule_of_level) :=
  okZ (N := N_rule_of_level) (t := fun _ => t_rule_of_level) Fu sc_rule_of_level ln_rule_of_level (fun cdv A outer s H E Z0 nb C => dv_rule_of_level G O cdv A outer s H E Z0 nb C) rd_rule_of_level
/-! #### pairs_of -/
def pairD (L : List (List Nat)) (i : Nat) : D := match L[i]? with
  | some xs => lvT xs
  | none => .lst [prD (1, 1)]
def sp_pairs_of : ZSp := fun ds Q _ => ∃ (r : RN) (L : List (List Nat)) (i : Nat), ds = [idx r L, .int (i : Int)] ∧ Q (.sh (pairD L i))
def t_pairs_of : ZS := zRet (zIf (zCmpT fLt (zVar 1) (zLen (zShV (zFld "PageIndex" "own_levels" (zVarV 0))))) (zIx (zShV (zFld "PageIndex" "own_levels" (zVarV 0))) (zVar 1)) (zFD (zLst (zCons (zTup (zCons (zC (.int 1)) (zCons (zC (.int 1)) (zNil)))) (zNil)))))
theorem dv_pairs_of {Pg : Program} {w : World} {K : PySem.W.Frag} {mg : Str → Option Value} {base : Heap} {f : Addr} (G : Facts mg) (O : Objs K mg) (cdv : Value) (A : Around) (outer : List Env) (s : Shared) (H : Hp) (E : XK) (Z0 : Zc) (nb : NoBag (Sup Z0)) (C : Cd 0 (cxOf (L2.CX Pg w) Pg w K mg base N_pairs_of "pairs_of" (defScope s_pairs_of) f cdv A outer s H E) (Sup Z0)) :
    PSsd (cxOf (L2.CX Pg w) Pg w K mg base N_pairs_of "pairs_of" (defScope s_pairs_of) f cdv A outer s H E) (Sup Z0) (defBody s_pairs_of) t_pairs_of :=
  (ssd_one (sd_ret (pd_if (pt_cmp op_lt cz_lt (pd_var 1 (nb.s 1)) (pd_len (by rfl) G.b_len PySem.boot_len (pd_fld O.n_PageIndex_own_levels (pv_var 0)).pv)) (pd_ix (pd_fld O.n_PageIndex_own_levels (pv_var 0)).pv (pd_var 1 (nb.s 1))) (pf_lst (ad_cons (pd_tup (ad_cons pd_int (ad_cons pd_int ad_nil))) ad_nil)).pd)))
--% reads
theorem ln_pairs_of : ∀ ds Qz Ez, sp_pairs_of ds Qz Ez → ds.length = 2 := by
  rintro ds Q E ⟨_, _, _, rfl, _⟩
  rfl
theorem rd_pairs_of : ∀ ds Qz (Ez : Str → Option (Str × D) → Prop), sp_pairs_of ds Qz Ez → t_pairs_of { nx := fun _ => Qz (.sh .non), rt := fun r _ => Qz r } (startS N_pairs_of ds) := by
  rintro ds Q E ⟨r, L, i, rfl, q⟩
  and_intros
  rw [List.length_map]
  refine ⟨fun v => ?_, fun v => ?_⟩
  · have v := asc v
    have hi : i < L.length := by omega
    have e := List.getElem?_eq_getElem hi
    generalize L[i] = xs at e
    rw [pairD, e] at q
    and_intros
    exact ⟨_, atL e rfl, q⟩
  · have v := nac v
    rw [pairD, List.getElem?_eq_none (by omega)] at q
    and_intros
    exact q
theorem ok_pairs_of {Pg : Program} {w : World} {K : PySem.W.Frag} {mg : Str → Option Value} {base : Heap} {f : Addr} {fd : FuncData} (Fu : Fun K "pairs_of" "pairs_of" s_pairs_of f fd) (G : Facts mg) (O : Objs K mg) : FnP Pg w K mg base 1 f fd ["index", "level"] (spZ K mg sp_pairs_of) :=
  okZ (N := N_pairs_of) (t := fun _ => t_pairs_of) Fu sc_pairs_of ln_pairs_of (fun cdv A outer s H E Z0 nb C => dv_pairs_of G O cdv A outer s H E Z0 nb C) rd_pairs_of
/-! #### leaf_place -/
def lfp (L : List (List Nat)) (g : Nat) : Nat × Nat := if g = 0 then (0, 0) else match L[0]? with
  | some xs => ((loc xs (g - 1)).1, (loc xs (g - 1)).2 + 1)
  | none => (0, 0)
def sp_leaf_place : ZSp := fun ds Q _ => ∃ (r : RN) (L : List (List Nat)) (g : Nat) (xs : List Nat), ds = [idx r L, .int (g : Int)] ∧ L[0]? = some xs ∧ Sm xs ∧ g ≤ xs.sum ∧ Q (.sh (.tup [.int ((lfp L g).1 : Int), .int ((lfp L g).2 : Int)]))
def t_leaf_place : ZS := zSeq (zIfS (zCmpT fEq (zVar 1) (zC (.int 0))) (zRet (zTup (zCons (zC (.int 0)) (zCons (zC (.int 0)) (zNil))))) (zNext)) (
  zSeq (zAsg (zCall sp_page_with eF (zCons (zIx (zShV (zFld "PageIndex" "own_levels" (zVarV 0))) (zC (.int 0))) (zCons (zSub (zVar 1) (zC (.int 1))) (zNil)))) (gzTup 2 (gzCons (gzName 2) (gzCons (gzName 3) (gzNil))))) (
  zRet (zTup (zCons (zVar 2) (zCons (zAdd (zVar 3) (zC (.int 1))) (zNil))))))
theorem dv_leaf_place {Pg : Program} {w : World} {K : PySem.W.Frag} {mg : Str → Option Value} {base : Heap} {f : Addr} (G : Facts mg) (O : Objs K mg) (D_page_with : Df Pg w K mg base 1 "page_with" (spZ K mg sp_page_with)) (cdv : Value) (A : Around) (outer : List Env) (s : Shared) (H : Hp) (E : XK) (Z0 : Zc) (nb : NoBag (Sup Z0)) (C : Cd 1 (cxOf (L2.CX Pg w) Pg w K mg base N_leaf_place "leaf_place" (defScope s_leaf_place) f cdv A outer s H E) (Sup Z0)) :
    PSsd (cxOf (L2.CX Pg w) Pg w K mg base N_leaf_place "leaf_place" (defScope s_leaf_place) f cdv A outer s H E) (Sup Z0) (defBody s_leaf_place) t_leaf_place :=
  (ssd_cons (sd_if (pt_cmp (op_eqA C.hu) cz_eq (pd_var 1 (nb.s 1)) pd_int) (ssd_one (sd_ret (pd_tup (ad_cons pd_int (ad_cons pd_int ad_nil))))) ssd_nil)
    (ssd_cons (sd_asg (dd_call D_page_with C (by rfl) eF ez0 (ad_cons (pd_ix (pd_fld O.n_PageIndex_own_levels (pv_var 0)).pv pd_int) (ad_cons (pd_sub (pd_var 1 (nb.s 1)) pd_int) ad_nil))) (gd_tup C.calm (gsd_cons (gd_name (i := 2) (nb.s 2) C.nd) (gsd_cons (gd_name (i := 3) (nb.s 3) C.nd) gsd_nil))))
    (ssd_one (sd_ret (pd_tup (ad_cons (pd_var 2 (nb.s 2)) (ad_cons (pd_add (pd_var 3 (nb.s 3)) pd_int) ad_nil)))))))
--% reads
theorem ln_leaf_place : ∀ ds Qz Ez, sp_leaf_place ds Qz Ez → ds.length = 2 := by
  rintro ds Q E ⟨_, _, _, _, rfl, _⟩
  rfl
theorem rd_leaf_place : ∀ ds Qz (Ez : Str → Option (Str × D) → Prop), sp_leaf_place ds Qz Ez → t_leaf_place { nx := fun _ => Qz (.sh .non), rt := fun r _ => Qz r } (startS N_leaf_place ds) := by
  rintro ds Q E ⟨r, L, g, xs, rfl, hx, hs, hg, q⟩
  obtain ⟨x0, L, rfl⟩ : ∃ x L', L = x :: L' := by
    cases L with
    | nil => simp at hx
    | cons x L => exact ⟨x, L, rfl⟩
  cases Option.some.inj hx
  and_intros
  refine ⟨fun v => ?_, fun v => ?_⟩
  · have v := asc v
    and_intros
    rw [lfp, if_pos (by omega)] at q
    exact q
  · have v := nac v
    rw [lfp, if_neg (by omega)] at q
    and_intros
    refine ⟨_, atL (i := 0) hx rfl, ?_⟩
    and_intros
    rw [show (g : Int) - 1 = ((g - 1 : Nat) : Int) by omega]
    refine ⟨_, xs, _, rfl, .inr rfl, hs, by omega, ?_⟩
    and_intros
    exact q
theorem ok_leaf_place {Pg : Program} {w : World} {K : PySem.W.Frag} {mg : Str → Option Value} {base : Heap} {f : Addr} {fd : FuncData} (Fu : Fun K "leaf_place" "leaf_place" s_leaf_place f fd) (G : Facts mg) (O : Objs K mg) (D_page_with : Df Pg w K mg base 1 "page_with" (spZ K mg sp_page_with)) : FnP Pg w K mg base 2 f fd ["index", "gap"] (spZ K mg sp_leaf_place) :=
  okZ (N := N_leaf_place) (t := fun _ => t_leaf_place) Fu sc_leaf_place ln_leaf_place (fun cdv A outer s H E Z0 nb C => dv_leaf_place G O D_page_with cdv A outer s H E Z0 nb C) rd_leaf_place
/-! #### place_above -/
def pab (L : List (List Nat)) (l p : Nat) : Nat × Nat := match L[l + 1]? with
  | some ys => ((loc ys p).1, (loc ys p).2 + 1)
  | none => (0, 1)
def sp_place_above : ZSp := fun ds Q _ => ∃ (r : RN) (L : List (List Nat)) (l p : Nat), ds = [idx r L, .int (l : Int), .int (p : Int)] ∧ (∀ ys, L[l + 1]? = some ys → Sm ys ∧ p < ys.sum) ∧ Q (.sh (.tup [.int ((pab L l p).1 : Int), .int ((pab L l p).2 : Int)]))
def t_place_above : ZS := zSeq (zIfS (zCmpT fGe (zAdd (zVar 1) (zC (.int 1))) (zLen (zShV (zFld "PageIndex" "own_levels" (zVarV 0))))) (zRet (zTup (zCons (zC (.int 0)) (zCons (zC (.int 1)) (zNil))))) (zNext)) (
  zSeq (zAsg (zCall sp_page_with eF (zCons (zIx (zShV (zFld "PageIndex" "own_levels" (zVarV 0))) (zAdd (zVar 1) (zC (.int 1)))) (zCons (zVar 2) (zNil)))) (gzTup 2 (gzCons (gzName 3) (gzCons (gzName 4) (gzNil))))) (
  zRet (zTup (zCons (zVar 3) (zCons (zAdd (zVar 4) (zC (.int 1))) (zNil))))))
theorem dv_place_above {Pg : Program} {w : World} {K : PySem.W.Frag} {mg : Str → Option Value} {base : Heap} {f : Addr} (G : Facts mg) (O : Objs K mg) (D_page_with : Df Pg w K mg base 1 "page_with" (spZ K mg sp_page_with)) (cdv : Value) (A : Around) (outer : List Env) (s : Shared) (H : Hp) (E : XK) (Z0 : Zc) (nb : NoBag (Sup Z0)) (C : Cd 1 (cxOf (L2.CX Pg w) Pg w K mg base N_place_above "place_above" (defScope s_place_above) f cdv A outer s H E) (Sup Z0)) :
    PSsd (cxOf (L2.CX Pg w) Pg w K mg base N_place_above "place_above" (defScope s_place_above) f cdv A outer s H E) (Sup Z0) (defBody s_place_above) t_place_above :=
  (ssd_cons (sd_if (pt_cmp op_ge cz_ge (pd_add (pd_var 1 (nb.s 1)) pd_int) (pd_len (by rfl) G.b_len PySem.boot_len (pd_fld O.n_PageIndex_own_levels (pv_var 0)).pv)) (ssd_one (sd_ret (pd_tup (ad_cons pd_int (ad_cons pd_int ad_nil))))) ssd_nil)
    (ssd_cons (sd_asg (dd_call D_page_with C (by rfl) eF ez0 (ad_cons (pd_ix (pd_fld O.n_PageIndex_own_levels (pv_var 0)).pv (pd_add (pd_var 1 (nb.s 1)) pd_int)) (ad_cons (pd_var 2 (nb.s 2)) ad_nil))) (gd_tup C.calm (gsd_cons (gd_name (i := 3) (nb.s 3) C.nd) (gsd_cons (gd_name (i := 4) (nb.s 4) C.nd) gsd_nil))))
    (ssd_one (sd_ret (pd_tup (ad_cons (pd_var 3 (nb.s 3)) (ad_cons (pd_add (pd_var 4 (nb.s 4)) pd_int) ad_nil)))))))
--% reads
theorem ln_place_above : ∀ ds Qz Ez, sp_place_above ds Qz Ez → ds.length = 3 := by
  rintro ds Q E ⟨_, _, _, _, rfl, _⟩
  rfl
theorem rd_place_above : ∀ ds Qz (Ez : Str → Option (Str × D) → Prop), sp_place_above ds Qz Ez → t_place_above { nx := fun _ => Qz (.sh .non), rt := fun r _ => Qz r } (startS N_place_above ds) := by
  rintro ds Q E ⟨r, L, l, p, rfl, hy, q⟩
  and_intros
  rw [List.length_map]
  refine ⟨fun v => ?_, fun v => ?_⟩
  · have v := asc v
    rw [pab, List.getElem?_eq_none (by omega)] at q
    and_intros
    exact q
  · have v := nac v
    have hi : l + 1 < L.length := by omega
    have e := List.getElem?_eq_getElem hi
    generalize L[l + 1] = ys at e
    rw [pab, e] at q
    obtain ⟨h1, h2⟩ := hy _ e
    and_intros
    refine ⟨_, atL e (by omega), ?_⟩
    and_intros
    refine ⟨_, ys, _, rfl, .inr rfl, h1, h2, ?_⟩
    and_intros
    exact q
theorem ok_place_above {Pg : Program} {w : World} {K : PySem.W.Frag} {mg : Str → Option Value} {base : Heap} {f : Addr} {fd : FuncData} (Fu : Fun K "place_above" "place_above" s_place_above f fd) (G : Facts mg) (O : Objs K mg) (D_page_with : Df Pg w K mg base 1 "page_with" (spZ K mg sp_page_with)) : FnP Pg w K mg base 2 f fd ["index", "level", "page"] (spZ K mg sp_place_above) :=
  okZ (N := N_place_above) (t := fun _ => t_place_above) Fu sc_place_above ln_place_above (fun cdv A outer s H E Z0 nb C => dv_place_above G O D_page_with cdv A outer s H E Z0 nb C) rd_place_above
/-! #### changed_level -/
def pos (m s a b : Nat) (g : Seg) : List Seg := [sp0 m s a b g, sp1 m s a b g].filter fun g => decide (0 < g.nu.getD 0)
structure CS where
  a : Nat
  b : Nat
  A : List Pr
  B : List Pr
  S : List Seg
def cst (m s : Nat) (c : CS) (g : Seg) : CS :=
  ⟨pbA m s c.a c.b g (g.nu.getD 0), pbB m s c.a c.b g (g.nu.getD 0), c.A ++ [(s, pbU m s c.a c.b g (g.nu.getD 0))], (m + 1 - s, pbD m s c.a c.b g (g.nu.getD 0)) :: c.B, c.S ++ pos m s c.a c.b g⟩
def chF (m s a b : Nat) (gs : List Seg) : CS := gs.foldl (cst m s) ⟨a, b, [], [], []⟩
def chP (m s a b : Nat) (gs : List Seg) (xs : List Nat) (k : Nat) : List Pr :=
  rle (xs.take k) ++ (chF m s a b gs).A ++ ([((chF m s a b gs).a + (chF m s a b gs).b, 1)] ++ ((chF m s a b gs).B ++ rle (xs.drop (k + 1))))
def SgOk (g : Seg) : Prop := ∃ n, g.nu = some n ∧ n < 2 ^ 150 ∧ g.st.log2 ≤ 800000
theorem chF_take {m s a b : Nat} {gs : List Seg} {i : Nat} {g : Seg} (h : gs[i]? = some g) : chF m s a b (gs.take (i + 1)) = cst m s (chF m s a b (gs.take i)) g := by
  unfold chF
  rw [List.take_succ, h, Option.toList, List.foldl_append]
  rfl
theorem pos_len (m s a b : Nat) (g : Seg) : (pos m s a b g).length ≤ 2 := List.length_filter_le _ _
theorem chF_len (m s a b : Nat) (gs : List Seg) : (chF m s a b gs).A.length = gs.length ∧ (chF m s a b gs).B.length = gs.length ∧ (chF m s a b gs).S.length ≤ 2 * gs.length := by
  have key : ∀ (gs : List Seg) (c : CS), (gs.foldl (cst m s) c).A.length = c.A.length + gs.length ∧ (gs.foldl (cst m s) c).B.length = c.B.length + gs.length ∧ (gs.foldl (cst m s) c).S.length ≤ c.S.length + 2 * gs.length := by
    intro gs
    induction gs with
    | nil => intro c; simp
    | cons g gs ih =>
      intro c
      obtain ⟨h1, h2, h3⟩ := ih (cst m s c g)
      have := pos_len m s c.a c.b g
      rw [List.foldl_cons]
      simp only [cst, List.length_append, List.length_cons, List.length_nil] at h1 h2 h3 ⊢
      omega
  have := key gs ⟨a, b, [], [], []⟩
  unfold chF
  simpa using this
theorem chF_ab {m s a b : Nat} {gs : List Seg} (hR : Rl m s) (hp : a + b ≤ m) : (chF m s a b gs).a + (chF m s a b gs).b ≤ m := by
  have key : ∀ (gs : List Seg) (c : CS), c.a + c.b ≤ m → (gs.foldl (cst m s) c).a + (gs.foldl (cst m s) c).b ≤ m := by
    intro gs
    induction gs with
    | nil => intro c h; exact h
    | cons g gs ih =>
      intro c h
      rw [List.foldl_cons]
      apply ih
      obtain ⟨h1, h2, _⟩ := pb_ok (g := g) (g.nu.getD 0) hR h
      show pbA m s c.a c.b g (g.nu.getD 0) + pbB m s c.a c.b g (g.nu.getD 0) ≤ m
      omega
  exact key gs _ hp
def sp_changed_level : ZSp := fun ds Q _ => ∃ (m s k a b : Nat) (d : D) (xs : List Nat) (gs : List Seg), ds = [.tup [.int (m : Int), .int (s : Int)], d, .int (k : Int), .int (a : Int), .lst (gs.map segD)] ∧
  isLv d (rle xs) ∧ (rle xs).length ≤ 2 ^ 21 ∧ Sm xs ∧ xs[k]? = some (a + b) ∧ Rl m s ∧ a + b ≤ m ∧ gs.length ≤ 64 ∧ (∀ g ∈ gs, SgOk g) ∧
  Q (.sh (.tup [lvP (chP m s a b gs xs k), .lst ((chF m s a b gs).S.map segD)]))
def t_changed_level : ZS := zSeq (zAsg (zCall sp_parted eF (zCons (zVar 1) (zCons (zVar 2) (zNil)))) (gzTup 3 (gzCons (gzName 5) (gzCons (gzName 6) (gzCons (gzName 7) (gzNil)))))) (
  zSeq (zPar 8 9 (zXD (zTup (zCons (zVar 3) (zCons (zSub (zVar 6) (zVar 3)) (zNil))))) (zXF (zLst (zNil)))) (
  zSeq (zFor (zItS (zVar 4)) (gzName 10) (zSeq (zDrop (zLM 9 fExt (zCons (zFD (zLc [13] (zItS (zCall sp_splits_of eF (zCons (zVar 0) (zCons (zVar 8) (zCons (zVar 10) (zNil)))))) (gzName 13) (zCmpT fGt (zIx (zVarV 13) (zC (.int 3))) (zC (.int 0))) (zVar 13))) (zNil)))) (
  zSeq (zAsg (zCall sp_page_behind eF (zCons (zVar 0) (zCons (zVar 8) (zCons (zVar 10) (zNil))))) (gzTup 3 (gzCons (gzName 8) (gzCons (gzName 11) (gzCons (gzName 12) (gzNil)))))) (
  zPar 5 7 (zXD (zFD (zLst (zStar (zVarV 5) (zCons (zTup (zCons (zIx (zVarV 0) (zC (.int 1))) (zCons (zVar 11) (zNil)))) (zNil)))))) (zXD (zFD (zLst (zCons (zTup (zCons (zSub (zAdd (zIx (zVarV 0) (zC (.int 0))) (zC (.int 1))) (zIx (zVarV 0) (zC (.int 1)))) (zCons (zVar 12) (zNil)))) (zStar (zVarV 7) (zNil)))))))))) (
  zRet (zTup (zCons (zFD (zLst (zStar (zVarV 5) (zCons (zTup (zCons (zAdd (zIx (zVarV 8) (zC (.int 0))) (zIx (zVarV 8) (zC (.int 1)))) (zCons (zC (.int 1)) (zNil)))) (zStar (zVarV 7) (zNil)))))) (zCons (zVar 9) (zNil)))))))
theorem dv_changed_level {Pg : Program} {w : World} {K : PySem.W.Frag} {mg : Str → Option Value} {base : Heap} {f : Addr} (G : Facts mg) (O : Objs K mg) (D_parted : Df Pg w K mg base 2 "parted" (spZ K mg sp_parted)) (D_splits_of : Df Pg w K mg base 2 "splits_of" (spZ K mg sp_splits_of)) (D_page_behind : Df Pg w K mg base 3 "page_behind" (spZ K mg sp_page_behind)) (cdv : Value) (A : Around) (outer : List Env) (s : Shared) (H : Hp) (E : XK) (Z0 : Zc) (nb : NoBag (Sup Z0)) (C : Cd 3 (cxOf (L2.CX Pg w) Pg w K mg base N_changed_level "changed_level" (defScope s_changed_level) f cdv A outer s H E) (Sup Z0)) :
    PSsd (cxOf (L2.CX Pg w) Pg w K mg base N_changed_level "changed_level" (defScope s_changed_level) f cdv A outer s H E) (Sup Z0) (defBody s_changed_level) t_changed_level :=
  (ssd_cons (sd_asg (dd_call D_parted C (by rfl) eF ez0 (ad_cons (pd_var 1 (nb.s 1)) (ad_cons (pd_var 2 (nb.s 2)) ad_nil))) (gd_tup C.calm (gsd_cons (gd_name (i := 5) (nb.s 5) C.nd) (gsd_cons (gd_name (i := 6) (nb.s 6) C.nd) (gsd_cons (gd_name (i := 7) (nb.s 7) C.nd) gsd_nil)))))
    (ssd_cons (sd_par (i := 8) (j := 9) C (nb.s 8) (nb.s 9) (pd_tup (ad_cons (pd_var 3 (nb.s 3)) (ad_cons (pd_sub (pd_var 6 (nb.s 6)) (pd_var 3 (nb.s 3))) ad_nil))).px (pf_lst ad_nil).px)
    (ssd_cons (sd_for C.po C.calm (id_seq (pd_var 4 (nb.s 4))) (gd_name (i := 10) (nb.s 10) C.nd) (ssd_cons (sd_expr (pd_lm (i := 9) PySem.F.slot_list_extend PySem.F.type_list_extend mt_extend mz_extend (ad_cons (pf_lc (own := [("split", 13)]) C.calm C.nd nb.l (id_seq (dd_call D_splits_of C (by rfl) eF ez0 (ad_cons (pd_var 0 (nb.s 0)) (ad_cons (pd_var 8 (nb.s 8)) (ad_cons (pd_var 10 (nb.s 10)) ad_nil))))) (blkOk_by (N := N_changed_level) (sc := defScope s_changed_level) (by decide +kernel)) (by decide) (fun _ _ _ _ _ => (gd_name (i := 13) (nb.pin.s 13) C.blk.nd)) (fun _ _ _ _ _ => (tsd_one (pt_cmp op_gt cz_gt (pd_ix (pv_var 13) pd_int) pd_int))) (fun _ _ _ _ _ => (pd_var 13 (nb.pin.s 13)))).pd ad_nil)))
    (ssd_cons (sd_asg (dd_call D_page_behind C (by rfl) eF ez0 (ad_cons (pd_var 0 (nb.s 0)) (ad_cons (pd_var 8 (nb.s 8)) (ad_cons (pd_var 10 (nb.s 10)) ad_nil)))) (gd_tup C.calm (gsd_cons (gd_name (i := 8) (nb.s 8) C.nd) (gsd_cons (gd_name (i := 11) (nb.s 11) C.nd) (gsd_cons (gd_name (i := 12) (nb.s 12) C.nd) gsd_nil)))))
    (ssd_one (sd_par (i := 5) (j := 7) C (nb.s 5) (nb.s 7) (pf_lst (ad_star (pv_var 5) (ad_cons (pd_tup (ad_cons (pd_ix (pv_var 0) pd_int) (ad_cons (pd_var 11 (nb.s 11)) ad_nil))) ad_nil))).pd.px (pf_lst (ad_cons (pd_tup (ad_cons (pd_sub (pd_add (pd_ix (pv_var 0) pd_int) pd_int) (pd_ix (pv_var 0) pd_int)) (ad_cons (pd_var 12 (nb.s 12)) ad_nil))) (ad_star (pv_var 7) ad_nil))).pd.px)))))
    (ssd_one (sd_ret (pd_tup (ad_cons (pf_lst (ad_star (pv_var 5) (ad_cons (pd_tup (ad_cons (pd_add (pd_ix (pv_var 8) pd_int) (pd_ix (pv_var 8) pd_int)) (ad_cons pd_int ad_nil))) (ad_star (pv_var 7) ad_nil)))).pd (ad_cons (pd_var 9 (nb.s 9)) ad_nil))))))))
--% reads
theorem ln_changed_level : ∀ ds Qz Ez, sp_changed_level ds Qz Ez → ds.length = 5 := by
  rintro ds Q E ⟨_, _, _, _, _, _, _, _, rfl, _⟩
  rfl
theorem fm_pos (m s a b : Nat) (g : Seg) : ([sp0 m s a b g, sp1 m s a b g].filterMap fun z => if 0 < z.nu.getD 0 then some (segD z) else none) = (pos m s a b g).map segD := by
  unfold pos
  generalize sp0 m s a b g = x
  generalize sp1 m s a b g = y
  by_cases h1 : 0 < x.nu.getD 0 <;> by_cases h2 : 0 < y.nu.getD 0 <;> simp [h1, h2]
theorem rd_changed_level : ∀ ds Qz (Ez : Str → Option (Str × D) → Prop), sp_changed_level ds Qz Ez → t_changed_level { nx := fun _ => Qz (.sh .non), rt := fun r _ => Qz r } (startS N_changed_level ds) := by
  rintro ds Q E ⟨m, s, k, a, b, d, xs, gs, rfl, hd, hl, hm, hk, hR, hp, hgl, hgs, q⟩
  have h24 : (2 : Nat) ^ 22 + 200 ≤ 2 ^ 23 ∧ (2 : Nat) ^ 21 * 2 = 2 ^ 22 := by decide
  have h23 := gt23
  have ht := rle_take xs k
  have hdr := rle_drop xs (k + 1)
  and_intros
  refine ⟨d, xs, k, a + b, rfl, hd, by omega, hm, hk, ?_⟩
  and_intros
  unfold chP at q
  generalize rle (xs.take k) = T at *
  generalize rle (xs.drop (k + 1)) = U at *
  refine forzM (fun i S => ∃ x y z, S = [.sh (.tup [.int (m : Int), .int (s : Int)]), .sh d, .sh (.int (k : Int)), .sh (.int (a : Int)), .sh (.lst (gs.map segD)), .sh (.lst ((T ++ (chF m s a b (gs.take i)).A).map prD)), .sh (.int ((a + b : Nat) : Int)), .sh (.lst (((chF m s a b (gs.take i)).B ++ U).map prD)), .sh (.tup [.int ((chF m s a b (gs.take i)).a : Int), .int ((chF m s a b (gs.take i)).b : Int)]), .ow ((chF m s a b (gs.take i)).S.map segD), x, y, z, .un]) ⟨_, _, _, by
      rw [List.take_zero, show ((a + b : Nat) : Int) - (a : Int) = (b : Int) by omega]; simp [chF]; rfl⟩ ?_ ?_
  · rintro i g S hg ⟨x, y, z, rfl⟩ K hK
    obtain ⟨l1, l2, l3⟩ := chF_len m s a b (gs.take i)
    have hpc := chF_ab (gs := gs.take i) hR hp
    have hil : i < gs.length := (List.getElem?_eq_some_iff.mp hg).1
    rw [List.length_take] at l1 l2 l3
    rw [chF_take hg] at hK
    generalize chF m s a b (gs.take i) = c at *
    obtain ⟨n, hn, hn2, hst⟩ := hgs g (List.mem_of_getElem? hg)
    obtain ⟨up, mo, st, nu⟩ := g
    subst hn
    and_intros
    refine ⟨m, s, c.a, c.b, _, rfl, hR, hpc, hst, ?_⟩
    and_intros
    refine ⟨⟨trivial, trivial⟩, ?_⟩
    generalize hg' : (⟨up, mo, st, some n⟩ : Seg) = g' at *
    have hs2 : 2 ≤ sizeLine := by decide
    refine lczF (e := segD) (xs := [sp0 m s c.a c.b g', sp1 m s c.a c.b g']) (fun z => if 0 < z.nu.getD 0 then some (segD z) else none) (fun S' => S' = [.sh (.tup [.int (m : Int), .int (s : Int)]), .sh d, .sh (.int (k : Int)), .sh (.int (a : Int)), .sh (.lst (gs.map segD)), .sh (.lst ((T ++ c.A).map prD)), .sh (.int ((a + b : Nat) : Int)), .sh (.lst ((c.B ++ U).map prD)), .sh (.tup [.int (c.a : Int), .int (c.b : Int)]), .ow (c.S.map segD), .sh (segD g'), y, z, .un]) rfl (by simp; exact hs2) ?_ ?_
    · rintro g0 hm0 S' rfl A B hA hB
      obtain ⟨v, hv⟩ : ∃ v, g0.nu = some v := by
        rcases List.mem_cons.mp hm0 with rfl | h
        · exact ⟨_, rfl⟩
        · rw [List.mem_singleton.mp h, ← hg']
          exact ⟨_, rfl⟩
      obtain ⟨up', mo', st', nu'⟩ := g0
      have hv : nu' = some v := hv
      subst hv
      and_intros
      refine ⟨fun w => ?_, fun w => ?_⟩
      · have w := asc w
        and_intros
        exact hA _ _ (if_pos (show 0 < v by omega)) rfl
      · have w := nac w
        exact hB _ (if_neg (show ¬ 0 < v by omega)) rfl
    · rintro S' rfl
      rw [fm_pos]
      and_intros
      have hpl := pos_len m s c.a c.b g'
      refine ⟨by rw [List.length_map, List.length_map]; omega, ?_⟩
      rw [← hg']
      and_intros
      refine ⟨m, s, c.a, c.b, up, mo, st, n, rfl, hR, hpc, by rw [← hg'] at hst; exact hst, hn2, ?_⟩
      rw [hg']
      and_intros
      obtain ⟨h1, h2, h3, h4, h5, h6⟩ := id hR
      refine ⟨by simp only [List.length_append, List.length_map, List.length_cons, List.length_nil]; omega, ?_⟩
      and_intros
      refine ⟨by simp only [List.length_append, List.length_map, List.length_cons, List.length_nil]; omega, ?_⟩
      and_intros
      have hnu : g'.nu.getD 0 = n := by rw [← hg']; rfl
      rw [show (m : Int) + 1 - (s : Int) = ((m + 1 - s : Nat) : Int) by omega]
      refine hK _ ⟨.sh (segD g'), .sh (.int (pbU m s c.a c.b g' n : Int)), .sh (.int (pbD m s c.a c.b g' n : Int)), ?_⟩
      simp only [cst, hnu, List.map_append, List.map_cons, List.append_nil, List.map_nil, List.append_assoc, List.cons_append]
      rfl
  · rintro S ⟨x, y, z, rfl⟩
    rw [List.take_length]
    obtain ⟨l1, l2, l3⟩ := chF_len m s a b gs
    generalize chF m s a b gs = c at *
    and_intros
    refine ⟨by simp only [List.length_append, List.length_map, List.length_cons, List.length_nil]; omega, ?_⟩
    and_intros
    unfold lvP at q
    simp only [List.map_append, List.map_cons, List.append_nil, List.map_nil, List.append_assoc, List.cons_append, List.nil_append] at q ⊢
    exact q
theorem ok_changed_level {Pg : Program} {w : World} {K : PySem.W.Frag} {mg : Str → Option Value} {base : Heap} {f : Addr} {fd : FuncData} (Fu : Fun K "changed_level" "changed_level" s_changed_level f fd) (G : Facts mg) (O : Objs K mg) (D_parted : Df Pg w K mg base 2 "parted" (spZ K mg sp_parted)) (D_splits_of : Df Pg w K mg base 2 "splits_of" (spZ K mg sp_splits_of)) (D_page_behind : Df Pg w K mg base 3 "page_behind" (spZ K mg sp_page_behind)) : FnP Pg w K mg base 4 f fd ["rule", "pairs", "page", "ahead", "segments"] (spZ K mg sp_changed_level) :=
  okZ (N := N_changed_level) (t := fun _ => t_changed_level) Fu sc_changed_level ln_changed_level (fun cdv A outer s H E Z0 nb C => dv_changed_level G O D_parted D_splits_of D_page_behind cdv A outer s H E Z0 nb C) rd_changed_level
/-! #### run_behind -/
def tot (gs : List Seg) : Nat := (gs.map fun g => g.nu.getD 0).sum
theorem tot_nil : tot [] = 0 := rfl
theorem tot_append (gs hs : List Seg) : tot (gs ++ hs) = tot gs + tot hs := by simp [tot]
theorem tot_cons (g : Seg) (gs : List Seg) : tot (g :: gs) = g.nu.getD 0 + tot gs := by simp [tot]
theorem tot_pos (gs : List Seg) : tot (gs.filter fun g => decide (0 < g.nu.getD 0)) = tot gs := by
  induction gs with
  | nil => rfl
  | cons g gs ih =>
    rw [List.filter_cons]
    split
    · rw [tot_cons, tot_cons, ih]
    · rename_i h
      have h : ¬ 0 < g.nu.getD 0 := fun z => h (decide_eq_true z)
      rw [tot_cons, ih]
      omega
theorem tot_pb {m s a b : Nat} {g : Seg} {n : Nat} (h : g.nu = some n) : tot (pos m s a b g) = pbU m s a b g n + pbD m s a b g n ∧ g.nu.getD 0 = n := by
  obtain ⟨up, mo, st, nu⟩ := g
  have h : nu = some n := h
  subst h
  refine ⟨?_, rfl⟩
  unfold pos
  rw [tot_pos, tot_cons, tot_cons, tot_nil]
  cases up
  · show min _ _ + (cw _ _ _ + 0) = min _ _ + cw _ _ _
    omega
  · show min _ _ + (cw _ _ _ + 0) = cw _ _ _ + min _ _
    omega
/-- a segment on level l of a run -/
def GOk (l : Nat) (g : Seg) : Prop := ∃ n, g.nu = some n ∧ 1 ≤ n ∧ g.st < 2 ^ (100 * l + 1)
theorem ch_tot {m s : Nat} (hR : Rl m s) {l : Nat} : ∀ (gs : List Seg) (c : CS), c.a + c.b ≤ m → (∀ g ∈ gs, GOk l g) →
    2 * tot (gs.foldl (cst m s) c).S + min (m + 1 - (c.a + c.b)) 2 ≤ 2 * tot c.S + tot gs + min (m + 1 - ((gs.foldl (cst m s) c).a + (gs.foldl (cst m s) c).b)) 2
  | [], c, _, _ => by rw [List.foldl_nil, tot_nil]; omega
  | g :: gs, c, hc, hg => by
    obtain ⟨n, hn, hn1, hst⟩ := hg g List.mem_cons_self
    obtain ⟨e1, e2⟩ := tot_pb (m := m) (s := s) (a := c.a) (b := c.b) hn
    obtain ⟨h1, h2, h3, h4, _⟩ := pb_ok (g := g) n hR hc
    have ih := ch_tot hR gs (cst m s c g) (by show pbA m s c.a c.b g (g.nu.getD 0) + pbB m s c.a c.b g (g.nu.getD 0) ≤ m; rw [e2]; omega) fun x hx => hg x (List.mem_cons_of_mem _ hx)
    rw [List.foldl_cons, tot_cons, e2]
    have e3 : (cst m s c g).S = c.S ++ pos m s c.a c.b g := rfl
    have e4 : (cst m s c g).a + (cst m s c g).b = pbZ m s c.a c.b g n := by
      show pbA m s c.a c.b g (g.nu.getD 0) + pbB m s c.a c.b g (g.nu.getD 0) = _
      rw [e2]; omega
    rw [e4, e3, tot_append, e1] at ih
    omega
theorem chF_tot {m s a b l : Nat} {gs : List Seg} (hR : Rl m s) (hp : a + b ≤ m) (hg : ∀ g ∈ gs, GOk l g) : 2 * tot (chF m s a b gs).S + min (m + 1 - (a + b)) 2 ≤ tot gs + 2 := by
  have h := ch_tot hR gs ⟨a, b, [], [], []⟩ hp hg
  have e : tot (⟨a, b, [], [], []⟩ : CS).S = 0 := rfl
  rw [e] at h
  show 2 * tot (gs.foldl (cst m s) ⟨a, b, [], [], []⟩).S + _ ≤ _
  simp only at h
  omega
theorem pos_ok {m s a b l : Nat} {g : Seg} (hR : Rl m s) (hg : GOk l g) : ∀ x ∈ pos m s a b g, GOk (l + 1) x := by
  obtain ⟨n, hn, h1, h2⟩ := hg
  have hm : m < 2 ^ 100 := Nat.lt_of_le_of_lt hR.2.1 (by decide)
  have hb : ∀ up, wid m s up * g.st < 2 ^ (100 * (l + 1) + 1) := fun up => by
    have := (hR.widB up).2
    have h3 : 2 ^ (100 * (l + 1) + 1) = 2 ^ 100 * 2 ^ (100 * l + 1) := by rw [← Nat.pow_add]; congr 1; omega
    rw [h3]
    exact Nat.mul_lt_mul'' (by omega) h2
  intro x hx
  unfold pos at hx
  rw [List.mem_filter] at hx
  obtain ⟨hx1, hx2⟩ := hx
  have hx2 := of_decide_eq_true hx2
  rcases List.mem_cons.mp hx1 with rfl | h
  · exact ⟨_, rfl, hx2, hb _⟩
  · have h := List.mem_singleton.mp h
    subst h
    refine ⟨cw n _ _, by show cwO g.nu _ _ = _; rw [hn]; rfl, ?_, hb _⟩
    have : (sp1 m s a b g).nu = some (cw n (lat m s a b g.up) (wid m s (!g.up))) := by show cwO g.nu _ _ = _; rw [hn]; rfl
    rw [this] at hx2
    exact hx2
theorem ch_ok {m s l : Nat} (hR : Rl m s) : ∀ (gs : List Seg) (c : CS), (∀ g ∈ gs, GOk l g) → (∀ g ∈ c.S, GOk (l + 1) g) → ∀ x ∈ (gs.foldl (cst m s) c).S, GOk (l + 1) x
  | [], c, _, h => h
  | g :: gs, c, hg, h => by
    rw [List.foldl_cons]
    refine ch_ok hR gs _ (fun x hx => hg x (List.mem_cons_of_mem _ hx)) fun x hx => ?_
    rcases List.mem_append.mp hx with hx | hx
    · exact h x hx
    · exact pos_ok hR (hg g List.mem_cons_self) x hx
theorem tot_ge {l : Nat} : ∀ {gs : List Seg}, (∀ g ∈ gs, GOk l g) → gs.length ≤ tot gs
  | [], _ => Nat.zero_le _
  | g :: gs, h => by
    obtain ⟨n, hn, h1, _⟩ := h g List.mem_cons_self
    have := tot_ge fun x hx => h x (List.mem_cons_of_mem _ hx)
    rw [tot_cons, hn, List.length_cons]
    simp only [Option.getD_some]
    omega
theorem tot_last {gs : List Seg} : tot gs.dropLast ≤ tot gs := by
  cases e : gs.getLast? with
  | none => rw [List.getLast?_eq_none_iff] at e; rw [e]; exact Nat.le_refl _
  | some q =>
    have := last_split e
    rw [this, tot_append, List.dropLast_concat]
    omega
theorem ch_last {m s a b l : Nat} {gs : List Seg} (hR : Rl m s) (hp : a + b ≤ m) (hg : ∀ g ∈ gs, GOk l g) (h7 : tot gs.dropLast ≤ 7) : tot (chF m s a b gs).S.dropLast ≤ 7 := by
  cases e : gs.getLast? with
  | none => rw [List.getLast?_eq_none_iff] at e; rw [e]; exact Nat.zero_le _
  | some q =>
    have hs := last_split e
    generalize gs.dropLast = hs' at *
    subst hs
    have h1 : chF m s a b (hs' ++ [q]) = cst m s (chF m s a b hs') q := by unfold chF; rw [List.foldl_append]; rfl
    have h2 := chF_tot (gs := hs') hR hp fun g h => hg g (List.mem_append_left _ h)
    have hab := chF_ab (gs := hs') hR hp
    rw [h1]
    generalize chF m s a b hs' = c at *
    have e3 : (cst m s c q).S = c.S ++ pos m s c.a c.b q := rfl
    rw [e3]
    obtain ⟨n, hn, _, _⟩ := hg q (List.mem_append_right _ List.mem_cons_self)
    have hf : fstN m s c.a c.b q ≤ 3 := by
      have := hR.few3 (a := c.a) (b := c.b) hab q.up
      unfold fstN
      rw [hn]
      simp only
      omega
    have h4 : tot c.S ≤ 4 := by omega
    have hl := tot_last (gs := c.S)
    unfold pos
    have e0 : (sp0 m s c.a c.b q).nu.getD 0 = fstN m s c.a c.b q := rfl
    generalize sp0 m s c.a c.b q = x at *
    generalize sp1 m s c.a c.b q = y at *
    by_cases y0 : 0 < x.nu.getD 0 <;> by_cases y1 : 0 < y.nu.getD 0
    · rw [show ([x, y].filter fun g => decide (0 < g.nu.getD 0)) = [x, y] by simp [y0, y1], show c.S ++ [x, y] = (c.S ++ [x]) ++ [y] by simp, List.dropLast_concat, tot_append, tot_cons, tot_nil, e0]
      omega
    · rw [show ([x, y].filter fun g => decide (0 < g.nu.getD 0)) = [x] by simp [y0, y1], List.dropLast_concat]
      omega
    · rw [show ([x, y].filter fun g => decide (0 < g.nu.getD 0)) = [y] by simp [y0, y1], List.dropLast_concat]
      omega
    · rw [show ([x, y].filter fun g => decide (0 < g.nu.getD 0)) = [] by simp [y0, y1], List.append_nil]
      omega
theorem ch_ex {m s : Nat} (hR : Rl m s) {l : Nat} : ∀ (gs : List Seg) (c : CS), (∀ g ∈ gs, GOk l g) →
    (ex (gs.foldl (cst m s) c).A).length + (ex (gs.foldl (cst m s) c).B).length + tot c.S = tot (gs.foldl (cst m s) c).S + (ex c.A).length + (ex c.B).length ∧ ((∀ p ∈ c.A ++ c.B, p.1 ≤ m) → ∀ p ∈ (gs.foldl (cst m s) c).A ++ (gs.foldl (cst m s) c).B, p.1 ≤ m)
  | [], c, _ => ⟨by rw [List.foldl_nil]; omega, fun h => h⟩
  | g :: gs, c, hg => by
    obtain ⟨n, hn, _, _⟩ := hg g List.mem_cons_self
    obtain ⟨e1, e2⟩ := tot_pb (m := m) (s := s) (a := c.a) (b := c.b) hn
    obtain ⟨ih, ih2⟩ := ch_ex hR gs (cst m s c g) fun x hx => hg x (List.mem_cons_of_mem _ hx)
    rw [List.foldl_cons]
    have e3 : (cst m s c g).S = c.S ++ pos m s c.a c.b g := rfl
    have e4 : (cst m s c g).A = c.A ++ [(s, pbU m s c.a c.b g n)] := by show c.A ++ [(s, pbU m s c.a c.b g (g.nu.getD 0))] = _; rw [e2]
    have e5 : (cst m s c g).B = (m + 1 - s, pbD m s c.a c.b g n) :: c.B := by show (m + 1 - s, pbD m s c.a c.b g (g.nu.getD 0)) :: c.B = _; rw [e2]
    obtain ⟨h1, h2, h3, h4, h5, h6⟩ := id hR
    refine ⟨?_, fun h => ih2 fun p hp => ?_⟩
    · rw [e3, e4, e5, tot_append, e1, ex_append, ex_one, ex_cons, List.length_append, List.length_append, List.length_replicate, List.length_replicate] at ih
      omega
    · rw [e4, e5] at hp
      rcases List.mem_append.mp hp with hp | hp
      · rcases List.mem_append.mp hp with hp | hp
        · exact h p (List.mem_append_left _ hp)
        · rw [List.mem_singleton.mp hp]; show s ≤ m; omega
      · rcases List.mem_cons.mp hp with rfl | hp
        · show m + 1 - s ≤ m; omega
        · exact h p (List.mem_append_right _ hp)
/-! the walk of a run from level to level -/
def xsL (L : List (List Nat)) (l : Nat) : List Nat := (L[l]?).getD [1]
def plc (L : List (List Nat)) (g : Nat) : Nat → Nat × Nat
  | 0 => lfp L g
  | l + 1 => pab L l (plc L g l).1
def szL (L : List (List Nat)) (g l : Nat) : Nat := ((xsL L l)[(plc L g l).1]?).getD 0
structure RunA where
  r : RN
  L : List (List Nat)
  g : Nat
  sg : Seg
def RunA.b (z : RunA) (l : Nat) : Nat := szL z.L z.g l - (plc z.L z.g l).2
def RunA.sgs (z : RunA) : Nat → List Seg
  | 0 => [z.sg]
  | l + 1 => (chF (z.r.most l) (z.r.stays l) (plc z.L z.g l).2 (z.b l) (z.sgs l)).S
def RunA.lvl (z : RunA) (l : Nat) : List Pr := chP (z.r.most l) (z.r.stays l) (plc z.L z.g l).2 (z.b l) (z.sgs l) (xsL z.L l) (plc z.L z.g l).1
def RunA.more (z : RunA) (l : Nat) : Prop := z.sgs l ≠ [] ∨ l < z.L.length
structure RunA.ok (z : RunA) : Prop where
  r : z.r.ok
  x : Ix z.r z.L
  g : ∀ xs, z.L[0]? = some xs → z.g ≤ xs.sum
  s : ∃ n, z.sg.nu = some n ∧ 1 ≤ n ∧ n < 2 ^ 149
  t : z.sg.st = 1
theorem xsL_some {L : List (List Nat)} {l : Nat} (h : l < L.length) : L[l]? = some (xsL L l) := by
  unfold xsL
  rw [List.getElem?_eq_getElem h]
  rfl
theorem xsL_none {L : List (List Nat)} {l : Nat} (h : L.length ≤ l) : xsL L l = [1] := by
  unfold xsL
  rw [List.getElem?_eq_none h]
  rfl
theorem RunA.ok.place {z : RunA} (h : z.ok) : ∀ l, (xsL z.L l)[(plc z.L z.g l).1]? = some (szL z.L z.g l) ∧ (plc z.L z.g l).2 ≤ szL z.L z.g l ∧ szL z.L z.g l ≤ z.r.most l ∧ (z.L.length ≤ l → szL z.L z.g l = 1) := by
  have fin : ∀ l, (∃ s, (xsL z.L l)[(plc z.L z.g l).1]? = some s ∧ (plc z.L z.g l).2 ≤ s) → (xsL z.L l)[(plc z.L z.g l).1]? = some (szL z.L z.g l) ∧ (plc z.L z.g l).2 ≤ szL z.L z.g l ∧ szL z.L z.g l ≤ z.r.most l ∧ (z.L.length ≤ l → szL z.L z.g l = 1) := by
    rintro l ⟨s, e1, e2⟩
    have e : szL z.L z.g l = s := by unfold szL; rw [e1]; rfl
    rw [e]
    refine ⟨e1, e2, ?_, ?_⟩
    · by_cases hl : l < z.L.length
      · exact h.x.sz _ _ (xsL_some hl) s (List.mem_of_getElem? e1)
      · rw [xsL_none (by omega)] at e1
        have := List.mem_singleton.mp (List.mem_of_getElem? e1)
        have := (h.r.parts l).1
        omega
    · intro hl
      rw [xsL_none hl] at e1
      exact List.mem_singleton.mp (List.mem_of_getElem? e1)
  intro l
  induction l with
  | zero =>
    refine fin 0 ?_
    have hx := xsL_some h.x.ne
    have hg := h.g _ hx
    obtain ⟨_, _, hn⟩ := h.x.rl _ _ hx
    show ∃ s, (xsL z.L 0)[(lfp z.L z.g).1]? = some s ∧ (lfp z.L z.g).2 ≤ s
    unfold lfp
    rw [hx]
    generalize xsL z.L 0 = xs at *
    by_cases h0 : z.g = 0
    · rw [if_pos h0]
      exact ⟨_, List.getElem?_eq_getElem hn, Nat.zero_le _⟩
    · rw [if_neg h0]
      obtain ⟨s, s1, s2, s3⟩ := loc_spec (xs := xs) (i := z.g - 1) (by omega)
      exact ⟨s, s1, s2⟩
  | succ l ih =>
    refine fin (l + 1) ?_
    show ∃ s, (xsL z.L (l + 1))[(pab z.L l (plc z.L z.g l).1).1]? = some s ∧ (pab z.L l (plc z.L z.g l).1).2 ≤ s
    by_cases hl : l + 1 < z.L.length
    · have hx := xsL_some (L := z.L) (l := l) (by omega)
      have hy := xsL_some hl
      have hs := h.x.up _ _ _ hx hy
      have hp := (List.getElem?_eq_some_iff.mp ih.1).1
      unfold pab
      rw [hy]
      obtain ⟨s, s1, s2, s3⟩ := loc_spec (xs := xsL z.L (l + 1)) (i := (plc z.L z.g l).1) (by omega)
      exact ⟨s, s1, s2⟩
    · unfold pab
      have hn : z.L[l + 1]? = none := List.getElem?_eq_none (by omega)
      rw [hn, xsL_none (show z.L.length ≤ l + 1 by omega)]
      exact ⟨1, rfl, Nat.le_refl _⟩
theorem RunA.ok.rl {z : RunA} (h : z.ok) (l : Nat) : Rl (z.r.most l) (z.r.stays l) := h.r.parts l
theorem RunA.ok.ab {z : RunA} (h : z.ok) (l : Nat) : (plc z.L z.g l).2 + z.b l = szL z.L z.g l := by
  have := (h.place l).2.1
  unfold RunA.b
  omega
theorem RunA.ok.abm {z : RunA} (h : z.ok) (l : Nat) : (plc z.L z.g l).2 + z.b l ≤ z.r.most l := by
  rw [h.ab l]
  exact (h.place l).2.2.1
theorem RunA.ok.gok {z : RunA} (h : z.ok) : ∀ l, ∀ g ∈ z.sgs l, GOk l g
  | 0, g, hg => by
    rw [List.mem_singleton.mp hg]
    obtain ⟨n, h1, h2, h3⟩ := h.s
    exact ⟨n, h1, h2, by rw [h.t]; decide⟩
  | l + 1, g, hg => ch_ok (h.rl l) (z.sgs l) ⟨_, _, [], [], []⟩ (h.gok l) (fun x hx => by cases hx) g hg
theorem RunA.ok.tots {z : RunA} (h : z.ok) (l : Nat) : 2 * tot (z.sgs (l + 1)) ≤ tot (z.sgs l) + 1 ∧ (z.L.length ≤ l → 2 * tot (z.sgs (l + 1)) ≤ tot (z.sgs l)) := by
  have h1 := chF_tot (h.rl l) (h.abm l) (h.gok l)
  have e : tot (z.sgs (l + 1)) = tot (chF (z.r.most l) (z.r.stays l) (plc z.L z.g l).2 (z.b l) (z.sgs l)).S := rfl
  rw [← e] at h1
  have h2 := h.abm l
  have h3 := (h.rl l).1
  refine ⟨by omega, fun hl => ?_⟩
  have h4 := h.ab l
  have h5 := (h.place l).2.2.2 hl
  omega
theorem RunA.ok.totb {z : RunA} (h : z.ok) : ∀ l, tot (z.sgs l) < 2 ^ 149
  | 0 => by
    obtain ⟨n, h1, h2, h3⟩ := h.s
    show tot [z.sg] < _
    rw [tot_cons, h1, tot_nil]
    exact h3
  | l + 1 => by
    have h1 := h.totb l
    have h2 := (h.tots l).1
    have : (2 : Nat) ≤ 2 ^ 149 := by decide
    omega
theorem RunA.ok.last {z : RunA} (h : z.ok) : ∀ l, tot (z.sgs l).dropLast ≤ 7
  | 0 => Nat.zero_le _
  | l + 1 => ch_last (h.rl l) (h.abm l) (h.gok l) (h.last l)
theorem RunA.ok.len8 {z : RunA} (h : z.ok) (l : Nat) : (z.sgs l).length ≤ 8 := by
  have h1 := h.last l
  have h2 := tot_ge (gs := (z.sgs l).dropLast) fun g hg => h.gok l g (List.dropLast_subset _ hg)
  rw [List.length_dropLast] at h2
  omega
theorem RunA.ok.far {z : RunA} (h : z.ok) : ∀ j, tot (z.sgs (z.L.length + j)) * 2 ^ j < 2 ^ 149
  | 0 => by rw [Nat.pow_zero, Nat.mul_one]; exact h.totb _
  | j + 1 => by
    have h1 := h.far j
    have h2 := (h.tots (z.L.length + j)).2 (by omega)
    have h3 := Nat.mul_le_mul_right (2 ^ j) h2
    rw [Nat.pow_succ, show tot (z.sgs (z.L.length + (j + 1))) * (2 ^ j * 2) = 2 * tot (z.sgs (z.L.length + j + 1)) * 2 ^ j by rw [Nat.mul_comm (2 ^ j) 2, ← Nat.mul_assoc, Nat.mul_comm (tot _) 2]; rfl]
    exact Nat.lt_of_le_of_lt h3 h1
theorem RunA.ok.mem_tot {gs : List Seg} {g : Seg} {n : Nat} (hg : g ∈ gs) (hn : g.nu = some n) : n ≤ tot gs := by
  induction gs with
  | nil => cases hg
  | cons x gs ih =>
    rw [tot_cons]
    rcases List.mem_cons.mp hg with rfl | hg
    · rw [hn]; simp
    · have := ih hg; omega
/-- above so many levels nothing is left -/
theorem RunA.ok.stop {z : RunA} (h : z.ok) {l : Nat} (hm : z.more l) : l < z.L.length + 149 := by
  by_cases hl : l < z.L.length + 149
  · exact hl
  · exfalso
    have h1 := h.far (l - z.L.length)
    rw [show z.L.length + (l - z.L.length) = l by omega] at h1
    have h2 := tot_ge (h.gok l)
    have h3 : 0 < (z.sgs l).length := by
      rcases hm with hm | hm
      · exact List.length_pos_iff.mpr hm
      · omega
    have h4 : (2 : Nat) ^ 149 ≤ 2 ^ (l - z.L.length) := Nat.pow_le_pow_right (by omega) (by omega)
    have h5 : 1 * 2 ^ (l - z.L.length) ≤ tot (z.sgs l) * 2 ^ (l - z.L.length) := Nat.mul_le_mul_right _ (by omega)
    omega
theorem RunA.ok.sgok {z : RunA} (h : z.ok) {l : Nat} (hl : l < 3200) : ∀ g ∈ z.sgs l, SgOk g := fun g hg => by
  obtain ⟨n, h1, h2, h3⟩ := h.gok l g hg
  have h4 := RunA.ok.mem_tot hg h1
  have h5 := h.totb l
  refine ⟨n, h1, Nat.lt_trans (Nat.lt_of_le_of_lt h4 h5) (by decide), ?_⟩
  by_cases e : g.st = 0
  · rw [e]; decide
  · have := (Nat.log2_lt e).mpr h3
    omega
theorem RunA.ok.lvl_len {z : RunA} (h : z.ok) (l : Nat) : (z.lvl l).length ≤ 2 ^ 23 := by
  obtain ⟨l1, l2, _⟩ := chF_len (z.r.most l) (z.r.stays l) (plc z.L z.g l).2 (z.b l) (z.sgs l)
  have h8 := h.len8 l
  have ht := rle_take (xsL z.L l) (plc z.L z.g l).1
  have hd := rle_drop (xsL z.L l) ((plc z.L z.g l).1 + 1)
  have hx : (rle (xsL z.L l)).length ≤ 2 ^ 21 := by
    by_cases hl : l < z.L.length
    · exact (h.x.rl _ _ (xsL_some hl)).1
    · rw [xsL_none (by omega)]; decide
  have : (2 : Nat) ^ 21 * 2 + 100 ≤ 2 ^ 23 := by decide
  unfold RunA.lvl chP
  simp only [List.length_append, List.length_cons, List.length_nil]
  omega
theorem xsL_sm {z : RunA} (h : z.ok) (l : Nat) : Sm (xsL z.L l) ∧ (xsL z.L l).length ≤ 2 ^ 190 := by
  by_cases hl : l < z.L.length
  · exact ⟨h.x.sm h.r (xsL_some hl), (h.x.rl _ _ (xsL_some hl)).2.1⟩
  · rw [xsL_none (by omega)]
    exact ⟨⟨by decide, fun x hx => by rw [List.mem_singleton.mp hx]; decide⟩, by decide⟩
theorem RunA.ok.lvl_sm {z : RunA} (h : z.ok) (l : Nat) : Sm (ex (z.lvl l)) := by
  obtain ⟨c1, c2⟩ := ch_ex (h.rl l) (z.sgs l) ⟨(plc z.L z.g l).2, z.b l, [], [], []⟩ (h.gok l)
  have c2 := c2 (fun p hp => by cases hp)
  have hab := chF_ab (gs := z.sgs l) (h.rl l) (h.abm l)
  have ht := h.totb (l + 1)
  have e : tot (z.sgs (l + 1)) = tot (chF (z.r.most l) (z.r.stays l) (plc z.L z.g l).2 (z.b l) (z.sgs l)).S := rfl
  rw [e] at ht
  have hm : z.r.most l < 2 ^ 200 := Nat.lt_of_le_of_lt (h.rl l).2.1 (by decide)
  obtain ⟨hx, hx2⟩ := xsL_sm h l
  unfold RunA.lvl chP
  change (ex (chF (z.r.most l) (z.r.stays l) (plc z.L z.g l).2 (z.b l) (z.sgs l)).A).length + (ex (chF (z.r.most l) (z.r.stays l) (plc z.L z.g l).2 (z.b l) (z.sgs l)).B).length + 0 = tot (chF (z.r.most l) (z.r.stays l) (plc z.L z.g l).2 (z.b l) (z.sgs l)).S + 0 + 0 at c1
  change ∀ p ∈ (chF (z.r.most l) (z.r.stays l) (plc z.L z.g l).2 (z.b l) (z.sgs l)).A ++ (chF (z.r.most l) (z.r.stays l) (plc z.L z.g l).2 (z.b l) (z.sgs l)).B, p.1 ≤ z.r.most l at c2
  generalize chF (z.r.most l) (z.r.stays l) (plc z.L z.g l).2 (z.b l) (z.sgs l) = c at *
  have h149 : (2 : Nat) ^ 149 + 2 ^ 190 * 2 + 100 ≤ 2 ^ 200 := by decide
  have hpr : ∀ (ps : List Pr) (x : Nat), x ∈ ex ps → ∃ p ∈ ps, p.1 = x := fun ps x hx => by
    unfold ex at hx
    obtain ⟨p, hp, hx⟩ := List.mem_flatMap.mp hx
    exact ⟨p, hp, (List.eq_of_mem_replicate hx).symm⟩
  refine ⟨?_, fun x hx' => ?_⟩
  · simp only [ex_append, ex_rle, ex_one, List.length_append, List.length_replicate, List.length_take, List.length_drop]
    omega
  · simp only [ex_append, ex_rle, ex_one, List.mem_append] at hx'
    rcases hx' with (hx' | hx') | hx' | hx' | hx'
    · exact hx.2 x (List.mem_of_mem_take hx')
    · obtain ⟨p, hp, rfl⟩ := hpr _ _ hx'
      have := c2 p (List.mem_append_left _ hp)
      omega
    · have := List.eq_of_mem_replicate hx'
      omega
    · obtain ⟨p, hp, rfl⟩ := hpr _ _ hx'
      have := c2 p (List.mem_append_right _ hp)
      omega
    · exact hx.2 x (List.mem_of_mem_drop hx')
theorem RunA.ok.lv {z : RunA} (h : z.ok) (l : Nat) : isLv (pairD z.L l) (rle (xsL z.L l)) ∧ (rle (xsL z.L l)).length ≤ 2 ^ 21 := by
  unfold pairD
  by_cases hl : l < z.L.length
  · rw [xsL_some hl]
    exact ⟨.inr rfl, (h.x.rl _ _ (xsL_some hl)).1⟩
  · rw [List.getElem?_eq_none (by omega), xsL_none (by omega)]
    exact ⟨.inl rfl, by decide⟩
theorem kS_ok (up : Bool) : PyData.strOk (kS up) = true := by cases up <;> decide +kernel
theorem segs_py : ∀ gs : List Seg, ∃ ps, D.pys (gs.map segD) = some ps ∧ PyData.canLayAll0 ps = true ∧ PyData.depthAll ps ≤ 1 ∧ (gs = [] → ps = []) ∧ (gs ≠ [] → ∃ x xs, ps = x :: xs)
  | [] => ⟨[], rfl, rfl, Nat.zero_le _, fun _ => rfl, fun h => absurd rfl h⟩
  | g :: gs => by
    obtain ⟨ps, h1, h2, h3, _⟩ := segs_py gs
    obtain ⟨p, g1, g2, g3⟩ : ∃ p, (segD g).py = some p ∧ PyData.canLay0 p = true ∧ PyData.depth p ≤ 1 := by
      obtain ⟨up, mo, st, nu⟩ := g
      cases nu with
      | none => exact ⟨_, rfl, by simp [PyData.canLay0, PyData.canLayAll0, kS_ok], by simp [PyData.depth, PyData.depthAll]⟩
      | some n => exact ⟨_, rfl, by simp [PyData.canLay0, PyData.canLayAll0, kS_ok], by simp [PyData.depth, PyData.depthAll]⟩
    exact ⟨p :: ps, by simp [D.pys, g1, h1], by simp [PyData.canLayAll0, g2, h2], by simp only [PyData.depthAll]; omega, ⟨fun h => (List.cons_ne_nil _ _ h).elim, fun _ => ⟨p, ps, rfl⟩⟩⟩
theorem eqSeg (gs : List Seg) : ∃ p q, (D.lst (gs.map segD)).py = some p ∧ (D.lst []).py = some q ∧ SeqAt.shaped p = true ∧ SeqAt.shaped q = true ∧ (gs = [] → PyData.eqv p q = true) ∧ (gs ≠ [] → PyData.eqv p q = false) := by
  obtain ⟨ps, h1, h2, h3, h4, h5⟩ := segs_py gs
  refine ⟨.list ps, .list [], by simp [D.py, h1], rfl, ?_, rfl, fun h => ?_, fun h => ?_⟩
  · have : PyData.depth (.list ps) ≤ 64 := by simp only [PyData.depth]; omega
    simp [SeqAt.shaped, PyData.canLay0, h2, this]
  · rw [h4 h]; rfl
  · obtain ⟨x, xs, rfl⟩ := h5 h; rfl
/-- the levels behind a run, up to N of them -/
def RunA.behind (z : RunA) (N : Nat) : List (List Nat) := (List.range N).map fun l => ex (z.lvl l)
def sp_run_behind : ZSp := fun ds Q _ => ∃ (r : RN) (L : List (List Nat)) (up : Bool) (g n : Nat), ds = [idx r L, .str (kS up), .int (g : Int), .int (n : Int)] ∧
  (⟨r, L, g, ⟨up, 1, 1, some n⟩⟩ : RunA).ok ∧
  ∀ N, (∀ l < N, (⟨r, L, g, ⟨up, 1, 1, some n⟩⟩ : RunA).more l) → ¬ (⟨r, L, g, ⟨up, 1, 1, some n⟩⟩ : RunA).more N → Q (.sh (idx r ((⟨r, L, g, ⟨up, 1, 1, some n⟩⟩ : RunA).behind N)))
def t_run_behind (ez : Str → Option (Str × D) → Prop) : ZS := zSeq (zPar 4 5 (zXD (zFD (zLst (zCons (zTup (zCons (zVar 1) (zCons (zC (.int 1)) (zCons (zC (.int 1)) (zCons (zVar 3) (zNil)))))) (zNil))))) (zXF (zLst (zNil)))) (
  zSeq (zAsg (zCall sp_leaf_place eF (zCons (zVar 0) (zCons (zVar 2) (zNil)))) (gzTup 2 (gzCons (gzName 6) (gzCons (gzName 7) (gzNil))))) (
  zSeq (zWhile (zOrT (zCmpT fNe (zVar 4) (zFD (zLst (zNil)))) (zCmpT fLt (zLen (zVarV 5)) (zLen (zShV (zFld "PageIndex" "own_levels" (zVarV 0)))))) (zSeq (zSet (zLen (zVarV 5)) 8) (
  zSeq (zAsg (zCall sp_changed_level eF (zCons (zCall sp_rule_of_level eF (zCons (zFld "PageIndex" "own_rule" (zVarV 0)) (zCons (zVar 8) (zNil)))) (zCons (zCall sp_pairs_of eF (zCons (zVar 0) (zCons (zVar 8) (zNil)))) (zCons (zVar 6) (zCons (zVar 7) (zCons (zVar 4) (zNil))))))) (gzTup 2 (gzCons (gzName 9) (gzCons (gzName 4) (gzNil))))) (
  zSeq (zDrop (zLM 5 fApp (zCons (zVar 9) (zNil)))) (
  zAsg (zCall sp_place_above eF (zCons (zVar 0) (zCons (zVar 8) (zCons (zVar 6) (zNil))))) (gzTup 2 (gzCons (gzName 6) (gzCons (gzName 7) (gzNil))))))))) (
  zRet (zCall sp_made_index ez (zCons (zFld "PageIndex" "own_rule" (zVarV 0)) (zCons (zVar 5) (zNil)))))))
theorem dv_run_behind {Pg : Program} {w : World} {K : PySem.W.Frag} {mg : Str → Option Value} {base : Heap} {f : Addr} (G : Facts mg) (O : Objs K mg) (D_made_index : Df Pg w K mg base 8 "made_index" (spZ K mg sp_made_index)) (D_rule_of_level : Df Pg w K mg base 1 "rule_of_level" (spZ K mg sp_rule_of_level)) (D_pairs_of : Df Pg w K mg base 1 "pairs_of" (spZ K mg sp_pairs_of)) (D_leaf_place : Df Pg w K mg base 2 "leaf_place" (spZ K mg sp_leaf_place)) (D_place_above : Df Pg w K mg base 2 "place_above" (spZ K mg sp_place_above)) (D_changed_level : Df Pg w K mg base 4 "changed_level" (spZ K mg sp_changed_level)) (cdv : Value) (A : Around) (outer : List Env) (s : Shared) (H : Hp) (E : XK) (Z0 : Zc) (nb : NoBag (Sup Z0)) (C : Cd 8 (cxOf (L2.CX Pg w) Pg w K mg base N_run_behind "run_behind" (defScope s_run_behind) f cdv A outer s H E) (Sup Z0)) :
    PSsd (cxOf (L2.CX Pg w) Pg w K mg base N_run_behind "run_behind" (defScope s_run_behind) f cdv A outer s H E) (Sup Z0) (defBody s_run_behind) (t_run_behind Z0.ez) :=
  (ssd_cons (sd_par (i := 4) (j := 5) C (nb.s 4) (nb.s 5) (pf_lst (ad_cons (pd_tup (ad_cons (pd_var 1 (nb.s 1)) (ad_cons pd_int (ad_cons pd_int (ad_cons (pd_var 3 (nb.s 3)) ad_nil))))) ad_nil)).pd.px (pf_lst ad_nil).px)
    (ssd_cons (sd_asg (dd_call D_leaf_place C (by rfl) eF ez0 (ad_cons (pd_var 0 (nb.s 0)) (ad_cons (pd_var 2 (nb.s 2)) ad_nil))) (gd_tup C.calm (gsd_cons (gd_name (i := 6) (nb.s 6) C.nd) (gsd_cons (gd_name (i := 7) (nb.s 7) C.nd) gsd_nil))))
    (ssd_cons (sd_while C.po (wd_or (pt_cmp (op_neA C.hu) cz_ne (pd_var 4 (nb.s 4)) (pf_lst ad_nil).pd) (wd_or1 (pt_cmp op_lt cz_lt (pd_len (by rfl) G.b_len PySem.boot_len (pv_var 5)) (pd_len (by rfl) G.b_len PySem.boot_len (pd_fld O.n_PageIndex_own_levels (pv_var 0)).pv)))).pt (ssd_cons (sd_set (i := 8) (nb.s 8) C.nd (pd_len (by rfl) G.b_len PySem.boot_len (pv_var 5)))
    (ssd_cons (sd_asg (dd_call D_changed_level C (by rfl) eF ez0 (ad_cons (dd_call D_rule_of_level C (by rfl) eF ez0 (ad_cons (pd_fld O.n_PageIndex_own_rule (pv_var 0)) (ad_cons (pd_var 8 (nb.s 8)) ad_nil))) (ad_cons (dd_call D_pairs_of C (by rfl) eF ez0 (ad_cons (pd_var 0 (nb.s 0)) (ad_cons (pd_var 8 (nb.s 8)) ad_nil))) (ad_cons (pd_var 6 (nb.s 6)) (ad_cons (pd_var 7 (nb.s 7)) (ad_cons (pd_var 4 (nb.s 4)) ad_nil)))))) (gd_tup C.calm (gsd_cons (gd_name (i := 9) (nb.s 9) C.nd) (gsd_cons (gd_name (i := 4) (nb.s 4) C.nd) gsd_nil))))
    (ssd_cons (sd_expr (pd_lm (i := 5) PySem.F.slot_list_append PySem.F.type_list_append mt_append mz_append (ad_cons (pd_var 9 (nb.s 9)) ad_nil)))
    (ssd_one (sd_asg (dd_call D_place_above C (by rfl) eF ez0 (ad_cons (pd_var 0 (nb.s 0)) (ad_cons (pd_var 8 (nb.s 8)) (ad_cons (pd_var 6 (nb.s 6)) ad_nil)))) (gd_tup C.calm (gsd_cons (gd_name (i := 6) (nb.s 6) C.nd) (gsd_cons (gd_name (i := 7) (nb.s 7) C.nd) gsd_nil)))))))))
    (ssd_one (sd_ret (dd_call D_made_index C (by rfl) Z0.ez ezS (ad_cons (pd_fld O.n_PageIndex_own_rule (pv_var 0)) (ad_cons (pd_var 5 (nb.s 5)) ad_nil))))))))
--% reads
theorem ln_run_behind : ∀ ds Qz Ez, sp_run_behind ds Qz Ez → ds.length = 4 := by
  rintro ds Q E ⟨_, _, _, _, _, rfl, _⟩
  rfl
theorem rd_run_behind : ∀ ds Qz (Ez : Str → Option (Str × D) → Prop), sp_run_behind ds Qz Ez → t_run_behind Ez { nx := fun _ => Qz (.sh .non), rt := fun r _ => Qz r } (startS N_run_behind ds) := by
  rintro ds Q E ⟨r, L, up, g, n, rfl, h, q⟩
  have hx0 := xsL_some h.x.ne
  have hg0 := h.g _ hx0
  and_intros
  refine ⟨r, L, g, _, rfl, hx0, h.x.sm h.r hx0, hg0, ?_⟩
  and_intros
  obtain ⟨z, hz⟩ : ∃ z : RunA, z = ⟨r, L, g, ⟨up, 1, 1, some n⟩⟩ := ⟨_, rfl⟩
  rw [← hz] at h q
  have hL : z.L = L := by rw [hz]
  have hr : z.r = r := by rw [hz]
  have hg : z.g = g := by rw [hz]
  refine whz_ind (fun S m => ∃ l e8 e9, S = [.sh (idx r L), .sh (.str (kS up)), .sh (.int (g : Int)), .sh (.int (n : Int)), .sh (.lst ((z.sgs l).map segD)), .ow ((List.range l).map fun l => lvP (z.lvl l)), .sh (.int ((plc L g l).1 : Int)), .sh (.int ((plc L g l).2 : Int)), e8, e9] ∧ (∀ l' < l, z.more l') ∧ m + l = L.length + 149) (n := L.length + 149) ?_ ⟨0, .un, .un, by rw [hz]; rfl, fun l' hl' => absurd hl' (Nat.not_lt_zero _), rfl⟩
  rintro S m K ⟨l, e8, e9, rfl, hm, hml⟩ hK
  have hlen := h.len8 l
  and_intros
  obtain ⟨p, q', e1, e2, e3, e4, e5, e6⟩ := eqSeg (z.sgs l)
  have body : z.more l → zSeq (zSet (zLen (zVarV 5)) 8)
      (zSeq
        (zAsg
          (zCall sp_changed_level eF
            (zCons
              (zCall sp_rule_of_level eF
                (zCons (zFld "PageIndex" "own_rule" (zVarV 0)) (zCons (zVar 8) zNil)))
              (zCons (zCall sp_pairs_of eF (zCons (zVar 0) (zCons (zVar 8) zNil)))
                (zCons (zVar 6) (zCons (zVar 7) (zCons (zVar 4) zNil))))))
          (gzTup 2 (gzCons (gzName 9) (gzCons (gzName 4) gzNil))))
        (zSeq (zDrop (zLM 5 fApp (zCons (zVar 9) zNil)))
          (zAsg (zCall sp_place_above eF (zCons (zVar 0) (zCons (zVar 8) (zCons (zVar 6) zNil))))
            (gzTup 2 (gzCons (gzName 6) (gzCons (gzName 7) gzNil))))))
      { nx := K, rt := fun r x => Q r, bk := zRet (zCall sp_made_index E (zCons (zFld "PageIndex" "own_rule" (zVarV 0)) (zCons (zVar 5) zNil))) { nx := fun x => Q (Sl.sh D.non), rt := fun r x => Q r }, ct := K }
      [Sl.sh (idx r L), Sl.sh (D.str (kS up)), Sl.sh (D.int ↑g), Sl.sh (D.int ↑n), Sl.sh (D.lst (List.map segD (z.sgs l))), Sl.ow (List.map (fun l => lvP (z.lvl l)) (List.range l)), Sl.sh (D.int ↑(plc L g l).fst), Sl.sh (D.int ↑(plc L g l).snd), e8, e9] := fun hmore => by
    have hst := h.stop hmore
    have hln := h.x.ln
    rw [hL] at hst hln
    obtain ⟨p1, p2, p3, p4⟩ := h.place l
    have hab := h.ab l
    and_intros
    simp only [List.length_map, List.length_range]
    obtain ⟨v1, v2⟩ := h.lv l
    rw [hL] at v1 v2
    refine ⟨r.most l, r.stays l, (plc L g l).1, (plc L g l).2, z.b l, pairD L l, xsL L l, z.sgs l, rfl, v1, v2, by rw [← hL]; exact (xsL_sm h l).1, by rw [← hL, ← hg, hab]; exact p1, by rw [← hr]; exact h.rl l, by rw [← hL, ← hg, ← hr]; exact h.abm l, by omega, h.sgok (by omega), ?_⟩
    and_intros
    refine ⟨by rw [List.length_map, List.length_range]; have := gt23; omega, ?_⟩
    and_intros
    refine ⟨r, L, l, _, rfl, fun ys hys => ?_, ?_⟩
    · have hl1 : l + 1 < L.length := (List.getElem?_eq_some_iff.mp hys).1
      have hxl := xsL_some (L := L) (l := l) (by omega)
      have hsm := h.x
      rw [hr, hL] at hsm
      refine ⟨hsm.sm (by rw [← hr]; exact h.r) hys, ?_⟩
      rw [hsm.up _ _ _ hxl hys]
      rw [hL, hg] at p1
      exact (List.getElem?_eq_some_iff.mp p1).1
    and_intros
    refine hK _ (m - 1) (by omega) ⟨l + 1, .sh (.int (l : Int)), .sh (lvP (z.lvl l)), ?_, fun l' hl' => ?_, by omega⟩
    · rw [List.range_succ, List.map_append]
      have ec : chP (r.most l) (r.stays l) (plc L g l).snd (z.b l) (z.sgs l) (xsL L l) (plc L g l).fst = z.lvl l := by rw [← hL, ← hg, ← hr]; rfl
      have es : (chF (r.most l) (r.stays l) (plc L g l).snd (z.b l) (z.sgs l)).S = z.sgs (l + 1) := by rw [← hL, ← hg, ← hr]; rfl
      rw [ec, es]
      rfl
    · by_cases e : l' = l
      · rw [e]; exact hmore
      · exact hm l' (by omega)
  have stopped : ¬ z.more l → zRet (zCall sp_made_index E (zCons (zFld "PageIndex" "own_rule" (zVarV 0)) (zCons (zVar 5) zNil))) { nx := fun x => Q (Sl.sh D.non), rt := fun r x => Q r }
      [Sl.sh (idx r L), Sl.sh (D.str (kS up)), Sl.sh (D.int ↑g), Sl.sh (D.int ↑n), Sl.sh (D.lst (List.map segD (z.sgs l))), Sl.ow (List.map (fun l => lvP (z.lvl l)) (List.range l)), Sl.sh (D.int ↑(plc L g l).fst), Sl.sh (D.int ↑(plc L g l).snd), e8, e9] := fun hmore => by
    have hln := h.x.ln
    rw [hL] at hln
    and_intros
    have h23 : (4000 : Nat) ≤ 2 ^ 23 := by decide
    refine ⟨r, (List.range l).map fun l => (false, z.lvl l), by rw [List.map_map]; rfl, by rw [← hr]; exact h.r, by rw [List.length_map, List.length_range]; omega, fun ps hps => ?_, ?_⟩
    · obtain ⟨l', _, rfl⟩ := List.mem_map.mp hps
      exact ⟨h.lvl_len l', h.lvl_sm l'⟩
    · and_intros
      rw [List.map_map]
      exact q l hm hmore
  refine ⟨p, q', e1, e2, e3, e4, fun w => ?_, fun w => ?_⟩
  · have hne : z.sgs l ≠ [] := fun e => by rw [e5 e] at w; cases w
    exact andT (body (.inl hne))
  · have hne : z.sgs l = [] := by
      by_cases e : z.sgs l = []
      · exact e
      · rw [e6 e] at w; cases w
    and_intros
    rw [List.length_map, List.length_map, List.length_range]
    refine ⟨fun w => ?_, fun w => ?_⟩
    · have w := asc w
      exact body (.inr (by rw [hL]; omega))
    · have w := nac w
      refine stopped fun hmore => ?_
      rcases hmore with hmore | hmore
      · exact hmore hne
      · rw [hL] at hmore; omega
theorem ok_run_behind {Pg : Program} {w : World} {K : PySem.W.Frag} {mg : Str → Option Value} {base : Heap} {f : Addr} {fd : FuncData} (Fu : Fun K "run_behind" "run_behind" s_run_behind f fd) (G : Facts mg) (O : Objs K mg) (D_made_index : Df Pg w K mg base 8 "made_index" (spZ K mg sp_made_index)) (D_rule_of_level : Df Pg w K mg base 1 "rule_of_level" (spZ K mg sp_rule_of_level)) (D_pairs_of : Df Pg w K mg base 1 "pairs_of" (spZ K mg sp_pairs_of)) (D_leaf_place : Df Pg w K mg base 2 "leaf_place" (spZ K mg sp_leaf_place)) (D_place_above : Df Pg w K mg base 2 "place_above" (spZ K mg sp_place_above)) (D_changed_level : Df Pg w K mg base 4 "changed_level" (spZ K mg sp_changed_level)) : FnP Pg w K mg base 9 f fd ["index", "kind", "gap", "number"] (spZ K mg sp_run_behind) :=
  okZ (N := N_run_behind) (t := t_run_behind) Fu sc_run_behind ln_run_behind (fun cdv A outer s H E Z0 nb C => dv_run_behind G O D_made_index D_rule_of_level D_pairs_of D_leaf_place D_place_above D_changed_level cdv A outer s H E Z0 nb C) rd_run_behind
/-! #### first_split -/
/-- what stays of a page of w items that is split by a load -/
def widK (up : Bool) (w s : Nat) : Nat := if up then s else w + 1 - s
/-- the first split of a level by a load, and how far the next ones are apart -/
def fsp (r : RN) (up : Bool) : Nat → Nat × Nat
  | 0 => (r.lf + 1, widK up r.lf r.ls)
  | n + 1 => ((fsp r up n).1 + (r.inn - 1) * (fsp r up n).2, widK up r.inn r.ins * (fsp r up n).2)
theorem RN.ok.wk {r : RN} (h : r.ok) (up : Bool) : (3 ≤ r.lf ∧ r.lf ≤ 10 ^ 30 ∧ 2 ≤ widK up r.lf r.ls ∧ widK up r.lf r.ls ≤ r.lf - 1) ∧ 3 ≤ r.inn ∧ r.inn ≤ 10 ^ 30 ∧ 2 ≤ widK up r.inn r.ins ∧ widK up r.inn r.ins ≤ r.inn - 1 := by
  have h0 := h.parts 0
  have h1 := h.parts 1
  simp only [RN.most, RN.stays, if_true, Nat.one_ne_zero, if_false] at h0 h1
  cases up
  · simp only [widK, Bool.false_eq_true, if_false]
    omega
  · simp only [widK, if_true]
    omega
theorem pw (n : Nat) : (2 : Nat) ^ (101 * (n + 1 + 1)) = 2 ^ 101 * 2 ^ (101 * (n + 1)) := by
  rw [← Nat.pow_add]
  congr 1
  omega
theorem fsp_bd {r : RN} (hr : r.ok) (up : Bool) : ∀ n, 2 ≤ (fsp r up n).2 ∧ (fsp r up n).2 < 2 ^ (101 * (n + 1)) ∧ 4 ≤ (fsp r up n).1 ∧ (fsp r up n).1 < 2 ^ (101 * (n + 1)) ∧ (fsp r up n).2 ≤ (fsp r up n).1
  | 0 => by
    have := hr.wk up
    have : (10 : Nat) ^ 30 + 1 < 2 ^ 101 := by decide
    simp only [fsp]
    show _ ∧ _ < 2 ^ 101 ∧ _ ∧ _ < 2 ^ 101 ∧ _
    omega
  | n + 1 => by
    obtain ⟨i1, i2, i3, i4, i5⟩ := fsp_bd hr up n
    obtain ⟨_, h5, h6, h7, h8⟩ := hr.wk up
    have hq : (10 : Nat) ^ 30 < 2 ^ 100 := by decide
    rw [pw]
    simp only [fsp]
    generalize (fsp r up n).2 = x at *
    generalize (fsp r up n).1 = y at *
    generalize (2 : Nat) ^ (101 * (n + 1)) = z at *
    generalize widK up r.inn r.ins = h at *
    generalize r.inn = f at *
    have a1 : 1 * x ≤ h * x := Nat.mul_le_mul_right _ (by omega)
    have a2 : h * x ≤ (f - 1) * x := Nat.mul_le_mul_right _ h8
    have a3 : (f - 1) * x ≤ 2 ^ 100 * x := Nat.mul_le_mul_right _ (by omega)
    refine ⟨by omega, by omega, by omega, by omega, by omega⟩
theorem fsp_grow {r : RN} (hr : r.ok) (up : Bool) (n : Nat) : (fsp r up n).1 + 2 * 2 ≤ (fsp r up (n + 1)).1 ∧ 2 * (fsp r up n).2 ≤ (fsp r up (n + 1)).2 ∧ 2 * (fsp r up n).2 ≤ (fsp r up (n + 1)).1 := by
  obtain ⟨i1, i2, i3, i4, i5⟩ := fsp_bd hr up n
  obtain ⟨_, h5, h6, h7, h8⟩ := hr.wk up
  simp only [fsp]
  have a1 : 2 * (fsp r up n).2 ≤ (r.inn - 1) * (fsp r up n).2 := Nat.mul_le_mul_right _ (by omega)
  have a2 : 2 * (fsp r up n).2 ≤ widK up r.inn r.ins * (fsp r up n).2 := Nat.mul_le_mul_right _ h7
  omega
theorem fsp_pow {r : RN} (hr : r.ok) (up : Bool) : ∀ n, 2 ^ (n + 1) ≤ (fsp r up n).2
  | 0 => (fsp_bd hr up 0).1
  | n + 1 => by
    have h1 := fsp_pow hr up n
    have h2 := (fsp_grow hr up n).2.1
    have : 2 ^ (n + 1 + 1) = 2 ^ (n + 1) * 2 := Nat.pow_succ ..
    omega
def sp_first_split : ZSp := fun ds Q _ => ∃ (r : RN) (up : Bool) (l : Nat), ds = [r.d, .str (kS up), .int (l : Int)] ∧ r.ok ∧ l ≤ 400 ∧ Q (.sh (.tup [.int ((fsp r up l).1 : Int), .int ((fsp r up l).2 : Int)]))
def t_first_split : ZS := zSeq (zAsg (zFld "Rule" "own_numbers" (zVarV 0)) (gzTup 4 (gzCons (gzName 3) (gzCons (gzName 4) (gzCons (gzName 5) (gzCons (gzName 6) (gzNil))))))) (
  zSeq (zSet (zIf (zCmpT fEq (zVar 1) (zC (.str "up"))) (zVar 4) (zSub (zAdd (zVar 3) (zC (.int 1))) (zVar 4))) 7) (
  zSeq (zSet (zIf (zCmpT fEq (zVar 1) (zC (.str "up"))) (zVar 6) (zSub (zAdd (zVar 5) (zC (.int 1))) (zVar 6))) 8) (
  zSeq (zPar 9 10 (zXD (zAdd (zVar 3) (zC (.int 1)))) (zXD (zVar 7))) (
  zSeq (zFor (zItR1 (zVar 2)) (gzName 11) (zPar 9 10 (zXD (zAdd (zVar 9) (zMul (zSub (zVar 5) (zC (.int 1))) (zVar 10)))) (zXD (zMul (zVar 8) (zVar 10))))) (
  zRet (zTup (zCons (zVar 9) (zCons (zVar 10) (zNil)))))))))
theorem dv_first_split {Pg : Program} {w : World} {K : PySem.W.Frag} {mg : Str → Option Value} {base : Heap} {f : Addr} (G : Facts mg) (O : Objs K mg) (cdv : Value) (A : Around) (outer : List Env) (s : Shared) (H : Hp) (E : XK) (Z0 : Zc) (nb : NoBag (Sup Z0)) (C : Cd 0 (cxOf (L2.CX Pg w) Pg w K mg base N_first_split "first_split" (defScope s_first_split) f cdv A outer s H E) (Sup Z0)) :
    PSsd (cxOf (L2.CX Pg w) Pg w K mg base N_first_split "first_split" (defScope s_first_split) f cdv A outer s H E) (Sup Z0) (defBody s_first_split) t_first_split :=
  (ssd_cons (sd_asg (pd_fld O.n_Rule_own_numbers (pv_var 0)) (gd_tup C.calm (gsd_cons (gd_name (i := 3) (nb.s 3) C.nd) (gsd_cons (gd_name (i := 4) (nb.s 4) C.nd) (gsd_cons (gd_name (i := 5) (nb.s 5) C.nd) (gsd_cons (gd_name (i := 6) (nb.s 6) C.nd) gsd_nil))))))
    (ssd_cons (sd_set (i := 7) (nb.s 7) C.nd (pd_if (pt_cmp (op_eqA C.hu) cz_eq (pd_var 1 (nb.s 1)) pd_str) (pd_var 4 (nb.s 4)) (pd_sub (pd_add (pd_var 3 (nb.s 3)) pd_int) (pd_var 4 (nb.s 4)))))
    (ssd_cons (sd_set (i := 8) (nb.s 8) C.nd (pd_if (pt_cmp (op_eqA C.hu) cz_eq (pd_var 1 (nb.s 1)) pd_str) (pd_var 6 (nb.s 6)) (pd_sub (pd_add (pd_var 5 (nb.s 5)) pd_int) (pd_var 6 (nb.s 6)))))
    (ssd_cons (sd_par (i := 9) (j := 10) C (nb.s 9) (nb.s 10) (pd_add (pd_var 3 (nb.s 3)) pd_int).px (pd_var 7 (nb.s 7)).px)
    (ssd_cons (sd_for C.po C.calm (id_range1 (by rfl) G.b_range (pd_var 2 (nb.s 2))) (gd_name (i := 11) (nb.s 11) C.nd) (ssd_one (sd_par (i := 9) (j := 10) C (nb.s 9) (nb.s 10) (pd_add (pd_var 9 (nb.s 9)) (pd_mul (pd_sub (pd_var 5 (nb.s 5)) pd_int) (pd_var 10 (nb.s 10)))).px (pd_mul (pd_var 8 (nb.s 8)) (pd_var 10 (nb.s 10))).px)))
    (ssd_one (sd_ret (pd_tup (ad_cons (pd_var 9 (nb.s 9)) (ad_cons (pd_var 10 (nb.s 10)) ad_nil))))))))))
--% reads
theorem ln_first_split : ∀ ds Qz Ez, sp_first_split ds Qz Ez → ds.length = 3 := by
  rintro ds Q E ⟨_, _, _, rfl, _⟩
  rfl
theorem rd_first_split : ∀ ds Qz (Ez : Str → Option (Str × D) → Prop), sp_first_split ds Qz Ez → t_first_split { nx := fun _ => Qz (.sh .non), rt := fun r _ => Qz r } (startS N_first_split ds) := by
  rintro ds Q E ⟨r, up, l, rfl, hr, hl, q⟩
  have hb := fsp_bd hr up
  obtain ⟨k1, k2⟩ := hr.wk up
  have hq : (10 : Nat) ^ 30 < 2 ^ 100 := by decide
  have main : ∀ S, S = [.sh r.d, .sh (.str (kS up)), .sh (.int (l : Int)), .sh (.int (r.lf : Int)), .sh (.int (r.ls : Int)), .sh (.int (r.inn : Int)), .sh (.int (r.ins : Int)), .sh (.int (widK up r.lf r.ls : Int)), .sh (.int (widK up r.inn r.ins : Int)), .un, .un, .un] →
      zSeq (zPar 9 10 (zXD (zAdd (zVar 3) (zC (.int 1)))) (zXD (zVar 7))) (
  zSeq (zFor (zItR1 (zVar 2)) (gzName 11) (zPar 9 10 (zXD (zAdd (zVar 9) (zMul (zSub (zVar 5) (zC (.int 1))) (zVar 10)))) (zXD (zMul (zVar 8) (zVar 10))))) (
  zRet (zTup (zCons (zVar 9) (zCons (zVar 10) (zNil)))))) { nx := fun _ => Q (.sh .non), rt := fun r _ => Q r } S := by
    rintro S rfl
    and_intros
    refine ⟨by omega, by omega, ?_⟩
    rw [Int.toNat_natCast]
    refine forz_ind (fun i S => ∃ x, S = [.sh r.d, .sh (.str (kS up)), .sh (.int (l : Int)), .sh (.int (r.lf : Int)), .sh (.int (r.ls : Int)), .sh (.int (r.inn : Int)), .sh (.int (r.ins : Int)), .sh (.int (widK up r.lf r.ls : Int)), .sh (.int (widK up r.inn r.ins : Int)), .sh (.int ((fsp r up i).1 : Int)), .sh (.int ((fsp r up i).2 : Int)), x]) ⟨_, rfl⟩ ?_ ?_
    · rintro i d S hd ⟨x, rfl⟩ K hK
      obtain ⟨hi, rfl⟩ := rangeD_get hd
      have hi : i < l := by simpa using hi
      obtain ⟨b1, b2, b3, b4, b5⟩ := hb i
      have b6 : (2 : Nat) ^ (101 * (i + 1)) ≤ 2 ^ (101 * 401) := Nat.pow_le_pow_right (by decide) (by omega)
      and_intros
      rw [show (r.inn : Int) - 1 = ((r.inn - 1 : Nat) : Int) by omega]
      refine ⟨mulB (i := 100) (j := 101 * 401) (by omega) (by omega) (by decide), ?_⟩
      and_intros
      refine ⟨mulB (i := 100) (j := 101 * 401) (by omega) (by omega) (by decide), ?_⟩
      and_intros
      rw [show (((fsp r up i).1 : Nat) : Int) + ((r.inn - 1 : Nat) : Int) * ((fsp r up i).2 : Int) = ((fsp r up (i + 1)).1 : Int) by simp only [fsp, Int.natCast_add, Int.natCast_mul], show ((widK up r.inn r.ins : Nat) : Int) * ((fsp r up i).2 : Int) = ((fsp r up (i + 1)).2 : Int) by simp only [fsp, Int.natCast_mul]]
      exact hK _ ⟨_, rfl⟩
    · rintro S ⟨x, rfl⟩
      have hll : (rangeD 0 l).length = l := by simp [rangeD]
      and_intros
      rw [hll]
      exact q
  refine cut3 (fun S => S = [.sh r.d, .sh (.str (kS up)), .sh (.int (l : Int)), .sh (.int (r.lf : Int)), .sh (.int (r.ls : Int)), .sh (.int (r.inn : Int)), .sh (.int (r.ins : Int)), .sh (.int (widK up r.lf r.ls : Int)), .sh (.int (widK up r.inn r.ins : Int)), .un, .un, .un]) (fun K hK => ?_) fun S' h => main S' h
  cases up
  · and_intros
    rw [show kS false = ("down" : Str) from rfl, sdu]
    and_intros
    rw [sdu]
    and_intros
    rw [show (r.lf : Int) + 1 - (r.ls : Int) = ((widK false r.lf r.ls : Nat) : Int) by simp only [widK, Bool.false_eq_true, if_false] at k1 ⊢; omega, show (r.inn : Int) + 1 - (r.ins : Int) = ((widK false r.inn r.ins : Nat) : Int) by simp only [widK, Bool.false_eq_true, if_false] at k2 ⊢; omega]
    exact hK _ rfl
  · and_intros
    rw [show kS true = ("up" : Str) from rfl, suu]
    and_intros
    rw [suu]
    and_intros
    exact hK _ rfl
theorem ok_first_split {Pg : Program} {w : World} {K : PySem.W.Frag} {mg : Str → Option Value} {base : Heap} {f : Addr} {fd : FuncData} (Fu : Fun K "first_split" "first_split" s_first_split f fd) (G : Facts mg) (O : Objs K mg) : FnP Pg w K mg base 1 f fd ["rule", "kind", "level"] (spZ K mg sp_first_split) :=
  okZ (N := N_first_split) (t := fun _ => t_first_split) Fu sc_first_split ln_first_split (fun cdv A outer s H E Z0 nb C => dv_first_split G O cdv A outer s H E Z0 nb C) rd_first_split
/-! #### loaded -/
/-- the run of a load -/
def ldA (r : RN) (up : Bool) (n : Nat) : RunA := ⟨r, [[0]], 0, ⟨up, 1, 1, some n⟩⟩
theorem ldA_ok {r : RN} (hr : r.ok) (up : Bool) {n : Nat} (h1 : 1 ≤ n) (h2 : n ≤ 10 ^ 30) : (ldA r up n).ok := by
  have one : ∀ (l : Nat) (xs : List Nat), ([[0]] : List (List Nat))[l]? = some xs → l = 0 ∧ xs = [0] := fun l xs h => by
    cases l with
    | zero => cases h; exact ⟨rfl, rfl⟩
    | succ l => simp at h
  refine ⟨hr, ⟨Nat.zero_lt_one, by show 1 ≤ 3000; decide, fun l xs h => ?_, fun l xs h x hx => ?_, fun l xs ys h h' => ?_⟩, fun xs h => Nat.zero_le _, ⟨n, rfl, h1, Nat.lt_of_le_of_lt h2 (by decide)⟩, rfl⟩
  · obtain ⟨_, rfl⟩ := one _ _ h
    decide
  · obtain ⟨_, rfl⟩ := one _ _ h
    rw [List.mem_singleton.mp hx]
    exact Nat.zero_le _
  · have := (one _ _ h').1
    omega
def sp_loaded : ZSp := fun ds Q Ez => ∃ d k n, ds = [d, k, n] ∧ ckR d Ez fun r => ckK k Ez fun up => ckW 1 (10 ^ 30) "InvalidNumber" n Ez fun n =>
  ∀ N, (∀ l < N, (ldA r up n).more l) → ¬ (ldA r up n).more N → Q (.sh (idx r ((ldA r up n).behind N)))
def t_loaded (ez : Str → Option (Str × D) → Prop) : ZS := zSeq (zDrop (zCall sp_require_rule ez (zCons (zVar 0) (zNil)))) (
  zSeq (zDrop (zCall sp_require_kind ez (zCons (zVar 1) (zNil)))) (
  zSeq (zDrop (zCall sp_require_number ez (zCons (zVar 2) (zNil)))) (
  zRet (zCall sp_run_behind ez (zCons (zCall sp_new_index ez (zCons (zVar 0) (zNil))) (zCons (zVar 1) (zCons (zC (.int 0)) (zCons (zVar 2) (zNil)))))))))
theorem dv_loaded {Pg : Program} {w : World} {K : PySem.W.Frag} {mg : Str → Option Value} {base : Heap} {f : Addr} (G : Facts mg) (O : Objs K mg) (D_require_rule : Df Pg w K mg base 3 "require_rule" (spZ K mg sp_require_rule)) (D_new_index : Df Pg w K mg base 8 "new_index" (spZ K mg sp_new_index)) (D_require_kind : Df Pg w K mg base 1 "require_kind" (spZ K mg sp_require_kind)) (D_require_number : Df Pg w K mg base 3 "require_number" (spZ K mg sp_require_number)) (D_run_behind : Df Pg w K mg base 9 "run_behind" (spZ K mg sp_run_behind)) (cdv : Value) (A : Around) (outer : List Env) (s : Shared) (H : Hp) (E : XK) (Z0 : Zc) (nb : NoBag (Sup Z0)) (C : Cd 9 (cxOf (L2.CX Pg w) Pg w K mg base N_loaded "loaded" (defScope s_loaded) f cdv A outer s H E) (Sup Z0)) :
    PSsd (cxOf (L2.CX Pg w) Pg w K mg base N_loaded "loaded" (defScope s_loaded) f cdv A outer s H E) (Sup Z0) (defBody s_loaded) (t_loaded Z0.ez) :=
  (ssd_cons (sd_expr (dd_call D_require_rule C (by rfl) Z0.ez ezS (ad_cons (pd_var 0 (nb.s 0)) ad_nil)))
    (ssd_cons (sd_expr (dd_call D_require_kind C (by rfl) Z0.ez ezS (ad_cons (pd_var 1 (nb.s 1)) ad_nil)))
    (ssd_cons (sd_expr (dd_call D_require_number C (by rfl) Z0.ez ezS (ad_cons (pd_var 2 (nb.s 2)) ad_nil)))
    (ssd_one (sd_ret (dd_call D_run_behind C (by rfl) Z0.ez ezS (ad_cons (dd_call D_new_index C (by rfl) Z0.ez ezS (ad_cons (pd_var 0 (nb.s 0)) ad_nil)) (ad_cons (pd_var 1 (nb.s 1)) (ad_cons pd_int (ad_cons (pd_var 2 (nb.s 2)) ad_nil))))))))))
--% reads
theorem ln_loaded : ∀ ds Qz Ez, sp_loaded ds Qz Ez → ds.length = 3 := by
  rintro ds Q E ⟨_, _, _, rfl, _⟩
  rfl
theorem rd_loaded : ∀ ds Qz (Ez : Str → Option (Str × D) → Prop), sp_loaded ds Qz Ez → t_loaded Ez { nx := fun _ => Qz (.sh .non), rt := fun r _ => Qz r } (startS N_loaded ds) := by
  rintro ds Q E ⟨d, k, n, rfl, h0⟩
  and_intros
  refine h0.go fun r e hr h1 => ?_
  clear h0
  subst e
  and_intros
  refine h1.go fun up e h2 => ?_
  clear h1
  subst e
  and_intros
  refine h2.go (by decide) fun n e l1 l2 h3 => ?_
  clear h2
  subst e
  and_intros
  refine ⟨hr, ?_⟩
  and_intros
  exact ⟨r, [[0]], up, 0, n, rfl, ldA_ok hr up (by omega) (by omega), h3⟩
theorem ok_loaded {Pg : Program} {w : World} {K : PySem.W.Frag} {mg : Str → Option Value} {base : Heap} {f : Addr} {fd : FuncData} (Fu : Fun K "loaded" "loaded" s_loaded f fd) (G : Facts mg) (O : Objs K mg) (D_require_rule : Df Pg w K mg base 3 "require_rule" (spZ K mg sp_require_rule)) (D_new_index : Df Pg w K mg base 8 "new_index" (spZ K mg sp_new_index)) (D_require_kind : Df Pg w K mg base 1 "require_kind" (spZ K mg sp_require_kind)) (D_require_number : Df Pg w K mg base 3 "require_number" (spZ K mg sp_require_number)) (D_run_behind : Df Pg w K mg base 9 "run_behind" (spZ K mg sp_run_behind)) : FnP Pg w K mg base 10 f fd ["rule", "kind", "number"] (spZ K mg sp_loaded) :=
  okZ (N := N_loaded) (t := t_loaded) Fu sc_loaded ln_loaded (fun cdv A outer s H E Z0 nb C => dv_loaded G O D_require_rule D_new_index D_require_kind D_require_number D_run_behind cdv A outer s H E Z0 nb C) rd_loaded
/-! #### load_pages -/
/-- the pages of a level behind a load of n -/
def lpg (r : RN) (up : Bool) (n l : Nat) : Nat := if 0 < l ∧ n < (fsp r up (l - 1)).1 then 0 else 1 + cw n (fsp r up l).1 (fsp r up l).2
def sp_load_pages : ZSp := fun ds Q Ez => ∃ d k n l, ds = [d, k, n, l] ∧ ckR d Ez fun r => ckK k Ez fun up => ckW 1 (10 ^ 30) "InvalidNumber" n Ez fun n => ckW 0 200 "InvalidLevel" l Ez fun l => Q (.sh (.int (lpg r up n l : Int)))
def t_load_pages (ez : Str → Option (Str × D) → Prop) : ZS := zSeq (zDrop (zCall sp_require_rule ez (zCons (zVar 0) (zNil)))) (
  zSeq (zDrop (zCall sp_require_kind ez (zCons (zVar 1) (zNil)))) (
  zSeq (zDrop (zCall sp_require_number ez (zCons (zVar 2) (zNil)))) (
  zSeq (zDrop (zCall sp_require_any_level ez (zCons (zVar 3) (zNil)))) (
  zSeq (zIfS (zAndT (zCmpT fGt (zVar 3) (zC (.int 0))) (zCmpT fLt (zVar 2) (zIx (zShV (zCall sp_first_split eF (zCons (zVar 0) (zCons (zVar 1) (zCons (zSub (zVar 3) (zC (.int 1))) (zNil)))))) (zC (.int 0))))) (zRet (zC (.int 0))) (zNext)) (
  zSeq (zAsg (zCall sp_first_split eF (zCons (zVar 0) (zCons (zVar 1) (zCons (zVar 3) (zNil))))) (gzTup 2 (gzCons (gzName 4) (gzCons (gzName 5) (gzNil))))) (
  zRet (zAdd (zC (.int 1)) (zCall sp_count_within eF (zCons (zVar 2) (zCons (zVar 4) (zCons (zVar 5) (zNil))))))))))))
theorem dv_load_pages {Pg : Program} {w : World} {K : PySem.W.Frag} {mg : Str → Option Value} {base : Heap} {f : Addr} (G : Facts mg) (O : Objs K mg) (D_require_rule : Df Pg w K mg base 3 "require_rule" (spZ K mg sp_require_rule)) (D_require_kind : Df Pg w K mg base 1 "require_kind" (spZ K mg sp_require_kind)) (D_require_number : Df Pg w K mg base 3 "require_number" (spZ K mg sp_require_number)) (D_require_any_level : Df Pg w K mg base 3 "require_any_level" (spZ K mg sp_require_any_level)) (D_count_within : Df Pg w K mg base 1 "count_within" (spZ K mg sp_count_within)) (D_first_split : Df Pg w K mg base 1 "first_split" (spZ K mg sp_first_split)) (cdv : Value) (A : Around) (outer : List Env) (s : Shared) (H : Hp) (E : XK) (Z0 : Zc) (nb : NoBag (Sup Z0)) (C : Cd 3 (cxOf (L2.CX Pg w) Pg w K mg base N_load_pages "load_pages" (defScope s_load_pages) f cdv A outer s H E) (Sup Z0)) :
    PSsd (cxOf (L2.CX Pg w) Pg w K mg base N_load_pages "load_pages" (defScope s_load_pages) f cdv A outer s H E) (Sup Z0) (defBody s_load_pages) (t_load_pages Z0.ez) :=
  (ssd_cons (sd_expr (dd_call D_require_rule C (by rfl) Z0.ez ezS (ad_cons (pd_var 0 (nb.s 0)) ad_nil)))
    (ssd_cons (sd_expr (dd_call D_require_kind C (by rfl) Z0.ez ezS (ad_cons (pd_var 1 (nb.s 1)) ad_nil)))
    (ssd_cons (sd_expr (dd_call D_require_number C (by rfl) Z0.ez ezS (ad_cons (pd_var 2 (nb.s 2)) ad_nil)))
    (ssd_cons (sd_expr (dd_call D_require_any_level C (by rfl) Z0.ez ezS (ad_cons (pd_var 3 (nb.s 3)) ad_nil)))
    (ssd_cons (sd_if (wd_and (pt_cmp op_gt cz_gt (pd_var 3 (nb.s 3)) pd_int) (wd_and1 (pt_cmp op_lt cz_lt (pd_var 2 (nb.s 2)) (pd_ix (dd_call D_first_split C (by rfl) eF ez0 (ad_cons (pd_var 0 (nb.s 0)) (ad_cons (pd_var 1 (nb.s 1)) (ad_cons (pd_sub (pd_var 3 (nb.s 3)) pd_int) ad_nil)))).pv pd_int)))).pt (ssd_one (sd_ret pd_int)) ssd_nil)
    (ssd_cons (sd_asg (dd_call D_first_split C (by rfl) eF ez0 (ad_cons (pd_var 0 (nb.s 0)) (ad_cons (pd_var 1 (nb.s 1)) (ad_cons (pd_var 3 (nb.s 3)) ad_nil)))) (gd_tup C.calm (gsd_cons (gd_name (i := 4) (nb.s 4) C.nd) (gsd_cons (gd_name (i := 5) (nb.s 5) C.nd) gsd_nil))))
    (ssd_one (sd_ret (pd_add pd_int (dd_call D_count_within C (by rfl) eF ez0 (ad_cons (pd_var 2 (nb.s 2)) (ad_cons (pd_var 4 (nb.s 4)) (ad_cons (pd_var 5 (nb.s 5)) ad_nil)))))))))))))
--% reads
theorem ln_load_pages : ∀ ds Qz Ez, sp_load_pages ds Qz Ez → ds.length = 4 := by
  rintro ds Q E ⟨_, _, _, _, rfl, _⟩
  rfl
theorem rd_load_pages : ∀ ds Qz (Ez : Str → Option (Str × D) → Prop), sp_load_pages ds Qz Ez → t_load_pages Ez { nx := fun _ => Qz (.sh .non), rt := fun r _ => Qz r } (startS N_load_pages ds) := by
  rintro ds Q E ⟨d, k, n, l, rfl, h0⟩
  and_intros
  refine h0.go fun r e hr h1 => ?_
  clear h0
  subst e
  and_intros
  refine h1.go fun up e h2 => ?_
  clear h1
  subst e
  and_intros
  refine h2.go (by decide) fun n e l1 l2 h3 => ?_
  clear h2
  subst e
  and_intros
  refine h3.go (by decide) fun l e l3 l4 q => ?_
  clear h3
  subst e
  have hb := fsp_bd hr up l
  have hq : (10 : Nat) ^ 30 < 2 ^ 200 := by decide
  have hn : n ≤ 10 ^ 30 := by omega
  unfold lpg at q
  have last : ¬ (0 < l ∧ n < (fsp r up (l - 1)).1) → zSeq (zAsg (zCall sp_first_split eF (zCons (zVar 0) (zCons (zVar 1) (zCons (zVar 3) (zNil))))) (gzTup 2 (gzCons (gzName 4) (gzCons (gzName 5) (gzNil))))) (
  zRet (zAdd (zC (.int 1)) (zCall sp_count_within eF (zCons (zVar 2) (zCons (zVar 4) (zCons (zVar 5) (zNil))))))) { nx := fun _ => Q (.sh .non), rt := fun r _ => Q r } [.sh r.d, .sh (.str (kS up)), .sh (.int (n : Int)), .sh (.int (l : Int)), .un, .un] := fun hc => by
    rw [if_neg hc] at q
    and_intros
    refine ⟨hr, by omega, ?_⟩
    and_intros
    refine ⟨some n, _, _, rfl, by omega, fun v e hv => ?_, ?_⟩
    · cases e
      omega
    · and_intros
      rw [show (1 : Int) + (cw n (fsp r up l).1 (fsp r up l).2 : Int) = ((1 + cw n (fsp r up l).1 (fsp r up l).2 : Nat) : Int) by omega]
      exact q
  and_intros
  refine ⟨fun v => ?_, fun v => ?_⟩
  · have v := asc v
    and_intros
    rw [show (l : Int) - 1 = ((l - 1 : Nat) : Int) by omega]
    refine ⟨r, up, l - 1, rfl, hr, by omega, ?_⟩
    and_intros
    refine ⟨fun w => ?_, fun w => ?_⟩
    · have w := asc w
      rw [if_pos ⟨by omega, by omega⟩] at q
      and_intros
      exact q
    · have w := nac w
      exact last (by omega)
  · have v := nac v
    exact andF (nx_go (last (by omega)))
theorem ok_load_pages {Pg : Program} {w : World} {K : PySem.W.Frag} {mg : Str → Option Value} {base : Heap} {f : Addr} {fd : FuncData} (Fu : Fun K "load_pages" "load_pages" s_load_pages f fd) (G : Facts mg) (O : Objs K mg) (D_require_rule : Df Pg w K mg base 3 "require_rule" (spZ K mg sp_require_rule)) (D_require_kind : Df Pg w K mg base 1 "require_kind" (spZ K mg sp_require_kind)) (D_require_number : Df Pg w K mg base 3 "require_number" (spZ K mg sp_require_number)) (D_require_any_level : Df Pg w K mg base 3 "require_any_level" (spZ K mg sp_require_any_level)) (D_count_within : Df Pg w K mg base 1 "count_within" (spZ K mg sp_count_within)) (D_first_split : Df Pg w K mg base 1 "first_split" (spZ K mg sp_first_split)) : FnP Pg w K mg base 4 f fd ["rule", "kind", "number", "level"] (spZ K mg sp_load_pages) :=
  okZ (N := N_load_pages) (t := t_load_pages) Fu sc_load_pages ln_load_pages (fun cdv A outer s H E Z0 nb C => dv_load_pages G O D_require_rule D_require_kind D_require_number D_require_any_level D_count_within D_first_split cdv A outer s H E Z0 nb C) rd_load_pages
/-! #### load_height -/
def sp_load_height : ZSp := fun ds Q Ez => ∃ d k n, ds = [d, k, n] ∧ ckR d Ez fun r => ckK k Ez fun up => ckW 1 (10 ^ 30) "InvalidNumber" n Ez fun n => ∀ t, (∀ j < t, (fsp r up j).1 ≤ n) → n < (fsp r up t).1 → Q (.sh (.int ((t + 1 : Nat) : Int)))
def t_load_height (ez : Str → Option (Str × D) → Prop) : ZS := zSeq (zDrop (zCall sp_require_rule ez (zCons (zVar 0) (zNil)))) (
  zSeq (zDrop (zCall sp_require_kind ez (zCons (zVar 1) (zNil)))) (
  zSeq (zDrop (zCall sp_require_number ez (zCons (zVar 2) (zNil)))) (
  zSeq (zSet (zC (.int 1)) 3) (
  zSeq (zWhile (zCmpT fGe (zVar 2) (zIx (zShV (zCall sp_first_split eF (zCons (zVar 0) (zCons (zVar 1) (zCons (zSub (zVar 3) (zC (.int 1))) (zNil)))))) (zC (.int 0)))) (zAug 3 (fun a b => a + b) (zC (.int 1)))) (
  zRet (zVar 3))))))
theorem dv_load_height {Pg : Program} {w : World} {K : PySem.W.Frag} {mg : Str → Option Value} {base : Heap} {f : Addr} (G : Facts mg) (O : Objs K mg) (D_require_rule : Df Pg w K mg base 3 "require_rule" (spZ K mg sp_require_rule)) (D_require_kind : Df Pg w K mg base 1 "require_kind" (spZ K mg sp_require_kind)) (D_require_number : Df Pg w K mg base 3 "require_number" (spZ K mg sp_require_number)) (D_first_split : Df Pg w K mg base 1 "first_split" (spZ K mg sp_first_split)) (cdv : Value) (A : Around) (outer : List Env) (s : Shared) (H : Hp) (E : XK) (Z0 : Zc) (nb : NoBag (Sup Z0)) (C : Cd 3 (cxOf (L2.CX Pg w) Pg w K mg base N_load_height "load_height" (defScope s_load_height) f cdv A outer s H E) (Sup Z0)) :
    PSsd (cxOf (L2.CX Pg w) Pg w K mg base N_load_height "load_height" (defScope s_load_height) f cdv A outer s H E) (Sup Z0) (defBody s_load_height) (t_load_height Z0.ez) :=
  (ssd_cons (sd_expr (dd_call D_require_rule C (by rfl) Z0.ez ezS (ad_cons (pd_var 0 (nb.s 0)) ad_nil)))
    (ssd_cons (sd_expr (dd_call D_require_kind C (by rfl) Z0.ez ezS (ad_cons (pd_var 1 (nb.s 1)) ad_nil)))
    (ssd_cons (sd_expr (dd_call D_require_number C (by rfl) Z0.ez ezS (ad_cons (pd_var 2 (nb.s 2)) ad_nil)))
    (ssd_cons (sd_set (i := 3) (nb.s 3) C.nd pd_int)
    (ssd_cons (sd_while C.po (pt_cmp op_ge cz_ge (pd_var 2 (nb.s 2)) (pd_ix (dd_call D_first_split C (by rfl) eF ez0 (ad_cons (pd_var 0 (nb.s 0)) (ad_cons (pd_var 1 (nb.s 1)) (ad_cons (pd_sub (pd_var 3 (nb.s 3)) pd_int) ad_nil)))).pv pd_int)) (ssd_one (sd_aug (i := 3) ip_add (nb.s 3) C.nd pd_int)))
    (ssd_one (sd_ret (pd_var 3 (nb.s 3)))))))))
--% reads
theorem ln_load_height : ∀ ds Qz Ez, sp_load_height ds Qz Ez → ds.length = 3 := by
  rintro ds Q E ⟨_, _, _, rfl, _⟩
  rfl
theorem rd_load_height : ∀ ds Qz (Ez : Str → Option (Str × D) → Prop), sp_load_height ds Qz Ez → t_load_height Ez { nx := fun _ => Qz (.sh .non), rt := fun r _ => Qz r } (startS N_load_height ds) := by
  rintro ds Q E ⟨d, k, n, rfl, h0⟩
  and_intros
  refine h0.go fun r e hr h1 => ?_
  clear h0
  subst e
  and_intros
  refine h1.go fun up e h2 => ?_
  clear h1
  subst e
  and_intros
  refine h2.go (by decide) fun n e l1 l2 q => ?_
  clear h2
  subst e
  have hq : (10 : Nat) ^ 30 < 2 ^ 100 := by decide
  have hn : n ≤ 10 ^ 30 := by omega
  and_intros
  refine whz_ind (fun S m => ∃ t, S = [.sh r.d, .sh (.str (kS up)), .sh (.int (n : Int)), .sh (.int ((t + 1 : Nat) : Int))] ∧ (∀ j < t, (fsp r up j).1 ≤ n) ∧ m + t = 100) (n := 100) ?_ ⟨0, rfl, fun j hj => absurd hj (Nat.not_lt_zero _), rfl⟩
  rintro S m K ⟨t, rfl, ht, hm⟩ hK
  and_intros
  rw [show ((t + 1 : Nat) : Int) - 1 = (t : Int) by omega]
  refine ⟨r, up, t, rfl, hr, by omega, ?_⟩
  and_intros
  refine ⟨fun v => ?_, fun v => ?_⟩
  · have v := asc v
    have ht' : ∀ j < t + 1, (fsp r up j).1 ≤ n := fun j hj => by
      by_cases e : j = t
      · rw [e]; omega
      · exact ht j (by omega)
    have hp := fsp_pow hr up t
    have hb := (fsp_bd hr up t).2.2.2.2
    have hlt : t + 1 < 100 := (Nat.pow_lt_pow_iff_right (show 1 < 2 by decide)).mp (show 2 ^ (t + 1) < 2 ^ 100 by omega)
    and_intros
    rw [show ((t + 1 : Nat) : Int) + 1 = ((t + 1 + 1 : Nat) : Int) by omega]
    exact hK _ (m - 1) (by omega) ⟨t + 1, rfl, ht', by omega⟩
  · have v := nac v
    and_intros
    exact q t ht (by omega)
theorem ok_load_height {Pg : Program} {w : World} {K : PySem.W.Frag} {mg : Str → Option Value} {base : Heap} {f : Addr} {fd : FuncData} (Fu : Fun K "load_height" "load_height" s_load_height f fd) (G : Facts mg) (O : Objs K mg) (D_require_rule : Df Pg w K mg base 3 "require_rule" (spZ K mg sp_require_rule)) (D_require_kind : Df Pg w K mg base 1 "require_kind" (spZ K mg sp_require_kind)) (D_require_number : Df Pg w K mg base 3 "require_number" (spZ K mg sp_require_number)) (D_first_split : Df Pg w K mg base 1 "first_split" (spZ K mg sp_first_split)) : FnP Pg w K mg base 4 f fd ["rule", "kind", "number"] (spZ K mg sp_load_height) :=
  okZ (N := N_load_height) (t := t_load_height) Fu sc_load_height ln_load_height (fun cdv A outer s H E Z0 nb C => dv_load_height G O D_require_rule D_require_kind D_require_number D_first_split cdv A outer s H E Z0 nb C) rd_load_height
/-! #### runs: numbers of pages and entries -/
theorem ch_sum {m s : Nat} (hR : Rl m s) {l : Nat} : ∀ (gs : List Seg) (c : CS), c.a + c.b ≤ m → (∀ g ∈ gs, GOk l g) →
    (ex (gs.foldl (cst m s) c).A).sum + (ex (gs.foldl (cst m s) c).B).sum + ((gs.foldl (cst m s) c).a + (gs.foldl (cst m s) c).b) = (ex c.A).sum + (ex c.B).sum + (c.a + c.b) + tot gs
  | [], c, _, _ => by rw [List.foldl_nil, tot_nil]; omega
  | g :: gs, c, hc, hg => by
    obtain ⟨n, hn, hn1, hst⟩ := hg g List.mem_cons_self
    have e2 : g.nu.getD 0 = n := by rw [hn]; rfl
    obtain ⟨h1, h2, h3, h4, _⟩ := pb_ok (g := g) n hR hc
    have ih := ch_sum hR gs (cst m s c g) (by show pbA m s c.a c.b g (g.nu.getD 0) + pbB m s c.a c.b g (g.nu.getD 0) ≤ m; rw [e2]; omega) fun x hx => hg x (List.mem_cons_of_mem _ hx)
    have e3 : (cst m s c g).a + (cst m s c g).b = pbZ m s c.a c.b g n := by
      show pbA m s c.a c.b g (g.nu.getD 0) + pbB m s c.a c.b g (g.nu.getD 0) = _
      rw [e2]; exact h1
    have e4 : (cst m s c g).A = c.A ++ [(s, pbU m s c.a c.b g n)] := by show c.A ++ [(s, pbU m s c.a c.b g (g.nu.getD 0))] = _; rw [e2]
    have e5 : (cst m s c g).B = (m + 1 - s, pbD m s c.a c.b g n) :: c.B := by show (m + 1 - s, pbD m s c.a c.b g (g.nu.getD 0)) :: c.B = _; rw [e2]
    rw [List.foldl_cons, ih, e3, e4, e5, tot_cons, e2, ex_append, ex_one, ex_cons, List.sum_append, List.sum_append, List.sum_replicate_nat, List.sum_replicate_nat]
    dsimp only
    omega
theorem RunA.lvl_ex (z : RunA) (l : Nat) : ex (z.lvl l) = (xsL z.L l).take (plc z.L z.g l).1 ++ ex (chF (z.r.most l) (z.r.stays l) (plc z.L z.g l).2 (z.b l) (z.sgs l)).A ++ ((chF (z.r.most l) (z.r.stays l) (plc z.L z.g l).2 (z.b l) (z.sgs l)).a + (chF (z.r.most l) (z.r.stays l) (plc z.L z.g l).2 (z.b l) (z.sgs l)).b) :: (ex (chF (z.r.most l) (z.r.stays l) (plc z.L z.g l).2 (z.b l) (z.sgs l)).B ++ (xsL z.L l).drop ((plc z.L z.g l).1 + 1)) := by
  unfold RunA.lvl chP
  simp only [ex_append, ex_rle, ex_one, List.append_assoc]
  rfl
theorem split_at {xs : List Nat} {k s : Nat} (h : xs[k]? = some s) : xs = xs.take k ++ s :: xs.drop (k + 1) := by
  obtain ⟨hl, e⟩ := List.getElem?_eq_some_iff.mp h
  rw [← e, List.getElem_cons_drop, List.take_append_drop]
theorem RunA.ok.len {z : RunA} (h : z.ok) (l : Nat) : (ex (z.lvl l)).length = (xsL z.L l).length + tot (z.sgs (l + 1)) := by
  obtain ⟨c1, _⟩ := ch_ex (h.rl l) (z.sgs l) ⟨(plc z.L z.g l).2, z.b l, [], [], []⟩ (h.gok l)
  change (ex (chF (z.r.most l) (z.r.stays l) (plc z.L z.g l).2 (z.b l) (z.sgs l)).A).length + (ex (chF (z.r.most l) (z.r.stays l) (plc z.L z.g l).2 (z.b l) (z.sgs l)).B).length + 0 = tot (z.sgs (l + 1)) + 0 + 0 at c1
  have e := congrArg List.length (split_at (h.place l).1)
  rw [z.lvl_ex l]
  simp only [List.length_append, List.length_cons] at e ⊢
  omega
theorem RunA.ok.sum {z : RunA} (h : z.ok) (l : Nat) : (ex (z.lvl l)).sum = (xsL z.L l).sum + tot (z.sgs l) := by
  have c1 := ch_sum (h.rl l) (z.sgs l) ⟨(plc z.L z.g l).2, z.b l, [], [], []⟩ (h.abm l) (h.gok l)
  change (ex (chF (z.r.most l) (z.r.stays l) (plc z.L z.g l).2 (z.b l) (z.sgs l)).A).sum + (ex (chF (z.r.most l) (z.r.stays l) (plc z.L z.g l).2 (z.b l) (z.sgs l)).B).sum + ((chF (z.r.most l) (z.r.stays l) (plc z.L z.g l).2 (z.b l) (z.sgs l)).a + (chF (z.r.most l) (z.r.stays l) (plc z.L z.g l).2 (z.b l) (z.sgs l)).b) = 0 + 0 + ((plc z.L z.g l).2 + z.b l) + tot (z.sgs l) at c1
  have e := congrArg List.sum (split_at (h.place l).1)
  have hab := h.ab l
  rw [z.lvl_ex l]
  simp only [List.sum_append, List.sum_cons] at e ⊢
  omega
theorem RunA.behind_len (z : RunA) (N : Nat) : (z.behind N).length = N := by simp [RunA.behind]
theorem RunA.behind_get (z : RunA) {N l : Nat} (h : l < N) : (z.behind N)[l]? = some (ex (z.lvl l)) := by
  simp [RunA.behind, h]
theorem RunA.ok.behind_rle {z : RunA} (h : z.ok) (N : Nat) : ∀ xs ∈ z.behind N, (rle xs).length ≤ 2 ^ 23 ∧ Sm xs := fun xs hx => by
  obtain ⟨l, _, rfl⟩ := List.mem_map.mp hx
  refine ⟨?_, h.lvl_sm l⟩
  rw [← norm_rle]
  exact Nat.le_trans (norm_len _) (h.lvl_len l)
theorem cw_cw {n F A i w : Nat} (hA : 0 < A) (hi : 1 ≤ i) (hw : 0 < w) : cw (cw n F A) i w = cw n (F + (i - 1) * A) (w * A) := by
  by_cases h : n < F
  · rw [cw_lt h, cw_lt (show 0 < i by omega), cw_lt (show n < F + (i - 1) * A by omega)]
  · have e : cw n F A = (n - F) / A + 1 := if_neg h
    have q1 := Nat.div_mul_le_self (n - F) A
    have q2 := Nat.lt_div_mul_add hA (a := n - F)
    rw [e]
    generalize hq : (n - F) / A = q at *
    by_cases h2 : q + 1 < i
    · have : (q + 1) * A ≤ (i - 1) * A := Nat.mul_le_mul_right A (by omega)
      rw [Nat.succ_mul] at this
      rw [cw_lt h2, cw_lt (by omega)]
    · have h3 : (i - 1) * A ≤ q * A := Nat.mul_le_mul_right A (by omega)
      have h4 : n - (F + (i - 1) * A) = n - F - (i - 1) * A := by omega
      unfold cw
      rw [if_neg h2, if_neg (by omega), h4, Nat.mul_comm w A, ← Nat.div_div_eq_div_mul, Nat.mul_comm (i - 1) A, Nat.sub_mul_div, hq, show q + 1 - i = q - (i - 1) by omega]
theorem fsp_mono {r : RN} (hr : r.ok) (up : Bool) : ∀ {i j : Nat}, i < j → (fsp r up i).1 < (fsp r up j).1
  | i, j + 1, h => by
    have g := (fsp_grow hr up j).1
    rcases Nat.lt_or_ge i j with c | c
    · have := fsp_mono hr up c
      omega
    · rw [show i = j by omega]; omega
theorem fsp_le {r : RN} (hr : r.ok) (up : Bool) {i j : Nat} (h : i ≤ j) : (fsp r up i).1 ≤ (fsp r up j).1 := by
  rcases Nat.lt_or_ge i j with c | c
  · exact Nat.le_of_lt (fsp_mono hr up c)
  · rw [show i = j by omega]; exact Nat.le_refl _
/-- the splits of a level of a load, of the entries at level 0 -/
def ldc (r : RN) (up : Bool) (n : Nat) : Nat → Nat
  | 0 => n
  | l + 1 => cw n (fsp r up l).1 (fsp r up l).2
theorem ldA_plc (r : RN) (up : Bool) (n l : Nat) : plc (ldA r up n).L (ldA r up n).g l = (0, if l = 0 then 0 else 1) ∧ (ldA r up n).b l = 0 := by
  have e : plc (ldA r up n).L (ldA r up n).g l = (0, if l = 0 then 0 else 1) := by
    cases l with
    | zero => rfl
    | succ l => rfl
  refine ⟨e, ?_⟩
  unfold RunA.b szL
  rw [e]
  cases l with
  | zero => rfl
  | succ l => rfl
theorem ldA_sgs {r : RN} (hr : r.ok) (up : Bool) (n : Nat) : ∀ l, ∃ mo st, (ldA r up n).sgs l = if l ≠ 0 ∧ ldc r up n l = 0 then [] else [⟨up, mo, st, some (ldc r up n l)⟩]
  | 0 => ⟨1, 1, rfl⟩
  | l + 1 => by
    obtain ⟨mo, st, h⟩ := ldA_sgs hr up n l
    obtain ⟨e1, e2⟩ := ldA_plc r up n l
    have hR : Rl (r.most l) (r.stays l) := hr.parts l
    have hw := hR.widB (!up)
    have ew : wid (r.most l) (r.stays l) (!up) = widK up (r.most l) (r.stays l) := by cases up <;> rfl
    have hc : ldc r up n (l + 1) = cw (ldc r up n l) (r.most l + 1 - (if l = 0 then 0 else 1)) (widK up (r.most l) (r.stays l)) := by
      cases l with
      | zero => rfl
      | succ l =>
        have hb := (fsp_bd hr up l)
        show cw n ((fsp r up l).1 + (r.inn - 1) * (fsp r up l).2) (widK up r.inn r.ins * (fsp r up l).2) = cw (cw n (fsp r up l).1 (fsp r up l).2) (r.inn + 1 - 1) (widK up r.inn r.ins)
        have := hr.wk up
        rw [cw_cw (by omega) (by omega) (by omega)]
        rfl
    have hS : (ldA r up n).sgs (l + 1) = (chF (r.most l) (r.stays l) (if l = 0 then 0 else 1) 0 ((ldA r up n).sgs l)).S := by
      show (chF (r.most l) (r.stays l) (plc (ldA r up n).L (ldA r up n).g l).2 ((ldA r up n).b l) ((ldA r up n).sgs l)).S = _
      rw [e1, e2]
    rw [hS, h]
    by_cases c : l ≠ 0 ∧ ldc r up n l = 0
    · rw [if_pos c]
      refine ⟨0, 0, ?_⟩
      rw [if_pos (show l + 1 ≠ 0 ∧ ldc r up n (l + 1) = 0 from ⟨Nat.succ_ne_zero _, by rw [hc, c.2]; exact cw_lt (by have := hR.1; split <;> omega)⟩)]
      rfl
    · rw [if_neg c]
      have hf : few (r.most l) (r.stays l) (if l = 0 then 0 else 1) 0 up = 0 := by
        unfold few
        cases up
        · show ((if l = 0 then 0 else 1) - 1) / _ = 0
          rw [show ((if l = 0 then 0 else 1) - 1) = 0 by split <;> rfl, Nat.zero_div]
        · exact Nat.zero_div _
      refine ⟨mo + (lat (r.most l) (r.stays l) (if l = 0 then 0 else 1) 0 up - 1) * st, wid (r.most l) (r.stays l) (!up) * st, ?_⟩
      show ([] ++ pos (r.most l) (r.stays l) (if l = 0 then 0 else 1) 0 ⟨up, mo, st, some (ldc r up n l)⟩) = _
      rw [List.nil_append]
      unfold pos
      have e0 : (sp0 (r.most l) (r.stays l) (if l = 0 then 0 else 1) 0 ⟨up, mo, st, some (ldc r up n l)⟩).nu.getD 0 = 0 := by
        show min (few (r.most l) (r.stays l) (if l = 0 then 0 else 1) 0 up) _ = 0
        rw [hf, Nat.zero_min]
      have e3 : (sp1 (r.most l) (r.stays l) (if l = 0 then 0 else 1) 0 ⟨up, mo, st, some (ldc r up n l)⟩) = ⟨up, mo + (lat (r.most l) (r.stays l) (if l = 0 then 0 else 1) 0 up - 1) * st, wid (r.most l) (r.stays l) (!up) * st, some (ldc r up n (l + 1))⟩ := by
        have : lat (r.most l) (r.stays l) (if l = 0 then 0 else 1) 0 up = r.most l + 1 - (if l = 0 then 0 else 1) := by
          unfold lat
          rw [hf, Nat.zero_mul]
          rfl
        rw [hc, ← ew, ← this]
        rfl
      rw [e3]
      by_cases c2 : ldc r up n (l + 1) = 0
      · rw [if_pos (show l + 1 ≠ 0 ∧ ldc r up n (l + 1) = 0 from ⟨Nat.succ_ne_zero _, c2⟩), c2]
        simp [e0]
      · rw [if_neg (show ¬ (l + 1 ≠ 0 ∧ ldc r up n (l + 1) = 0) from fun z => c2 z.2), List.filter_cons_of_neg (by simp [e0]), List.filter_cons_of_pos (by simp; omega)]
        rfl
theorem ldA_tot {r : RN} (hr : r.ok) (up : Bool) (n l : Nat) : tot ((ldA r up n).sgs l) = ldc r up n l := by
  obtain ⟨mo, st, h⟩ := ldA_sgs hr up n l
  rw [h]
  split
  · rename_i c; rw [c.2]; rfl
  · rw [tot_cons, tot_nil]; rfl
theorem ldA_more {r : RN} (hr : r.ok) (up : Bool) (n l : Nat) : (ldA r up n).more l ↔ l = 0 ∨ (fsp r up (l - 1)).1 ≤ n := by
  obtain ⟨mo, st, h⟩ := ldA_sgs hr up n l
  unfold RunA.more
  rw [h]
  cases l with
  | zero => simp
  | succ l =>
    have hl : (ldA r up n).L.length = 1 := rfl
    have e : ldc r up n (l + 1) = 0 ↔ n < (fsp r up l).1 := by
      show cw _ _ _ = 0 ↔ _
      unfold cw
      split <;> simp <;> omega
    rw [hl]
    by_cases c : ldc r up n (l + 1) = 0
    · rw [if_pos (show l + 1 ≠ 0 ∧ ldc r up n (l + 1) = 0 from ⟨Nat.succ_ne_zero _, c⟩)]
      have := e.mp c
      simp
      omega
    · rw [if_neg (show ¬ (l + 1 ≠ 0 ∧ ldc r up n (l + 1) = 0) from fun z => c z.2)]
      have : ¬ n < (fsp r up l).1 := fun z => c (e.mpr z)
      simp
      omega

/-! #### shared by laws -/
/-- m picks more can be made -/
def BagOk (m : Nat) (bs : List D) : Prop := ∃ b0 b1 c : Int, bs = [.int b0, .int b1, .int c] ∧ 0 ≤ c ∧ c + m ≤ 2 ^ 64
theorem BagOk.le {m n : Nat} {bs : List D} (h : BagOk m bs) (l : n ≤ m) : BagOk n bs := by
  obtain ⟨b0, b1, c, e, h1, h2⟩ := h
  exact ⟨b0, b1, c, e, h1, by omega⟩
def natsD (xs : List Nat) : D := .lst (xs.map fun (n : Nat) => D.int (n : Int))
theorem lczR {vs : List Nat} {g : ZG} {te : ZE} (I : List D → SS → Prop) {Q : List D → SS → Prop} {N : Nat} (hN : N ≤ sizeLine)
    (hs : ∀ acc S d, I acc S → acc.length < N → ∀ A : D → SS → Prop, (∀ y S', I (acc ++ [y]) S' → A y S') → g d S fun S1 => te S1 fun y S3 => A y (wipeS S3 vs))
    (hx : ∀ acc S', acc.length = N → I acc S' → Q acc S') : ∀ (xs acc : List D) (S : SS), acc.length + xs.length = N → I acc S → lcz vs g zYes te xs acc S Q
  | [], acc, S, hn, h => hx acc S (by simpa using hn) h
  | d :: xs, acc, S, hn, h => by
    rw [List.length_cons] at hn
    have := hs acc S d h (by omega) (fun y S3 => acc.length < sizeLine ∧ lcz vs g zYes te xs (acc ++ [y]) S3 Q) fun y S' hI => ⟨by omega, lczR I hN hs hx xs _ _ (by rw [List.length_append]; simp only [List.length_singleton]; omega) hI⟩
    have key : (fun S1 => zYes S1 fun b S2 => (b = true → te S2 fun y S3 => acc.length < sizeLine ∧ lcz vs g zYes te xs (acc ++ [y]) (wipeS S3 vs) Q) ∧ (b = false → lcz vs g zYes te xs acc (wipeS S2 vs) Q)) = fun S1 => te S1 fun y S3 => acc.length < sizeLine ∧ lcz vs g zYes te xs (acc ++ [y]) (wipeS S3 vs) Q := by
      funext S1
      exact propext ⟨fun h => h.1 rfl, fun h => ⟨fun _ => h, fun z => (tfT z).elim⟩⟩
    show g d S _
    rw [key]
    exact this
/-- levels that a law draws: all but the top -/
structure Shq (r : RN) (c : Nat) (L : List (List Nat)) : Prop where
  lv : ∀ (l : Nat) (xs : List Nat), L[l]? = some xs → 1 ≤ xs.length ∧ xs.length ≤ c ∧ (∀ x ∈ xs, 1 ≤ x ∧ x ≤ r.most l)
  up : ∀ (l : Nat) (xs ys : List Nat), L[l]? = some xs → L[l + 1]? = some ys → ys.sum = xs.length
  lo : ∀ (l : Nat) (xs : List Nat), L[l]? = some xs → l + 1 < L.length → xs.length ≠ 1
structure Shp (r : RN) (c : Nat) (L : List (List Nat)) : Prop extends Shq r c L where
  ne : 0 < L.length
  ln : L.length ≤ c + 10
  top : ∀ (l : Nat) (xs : List Nat), L[l]? = some xs → l + 1 = L.length → xs.length = 1
theorem Shq.snoc {r : RN} {c : Nat} {L : List (List Nat)} {xs ys : List Nat} (h : Shq r c (L ++ [xs])) (h1 : xs.length ≠ 1) (h2 : 1 ≤ ys.length) (h3 : ys.length ≤ c) (h4 : ∀ y ∈ ys, 1 ≤ y ∧ y ≤ r.inn) (h5 : ys.sum = xs.length) : Shq r c (L ++ [xs] ++ [ys]) := by
  have g : ∀ (l : Nat) (zs : List Nat), (L ++ [xs] ++ [ys])[l]? = some zs → ((L ++ [xs])[l]? = some zs ∧ l ≤ L.length) ∨ (l = L.length + 1 ∧ zs = ys) := fun l zs e => by
    rw [List.getElem?_append] at e
    split at e
    · rename_i c
      rw [List.length_append] at c
      simp only [List.length_singleton] at c
      exact .inl ⟨e, by omega⟩
    · rename_i c
      rw [List.length_append] at c e
      simp only [List.length_singleton] at c e
      have hl := (List.getElem?_eq_some_iff.mp e).1
      simp only [List.length_singleton] at hl
      rw [show l - (L.length + 1) = 0 by omega] at e
      exact .inr ⟨by omega, by simpa using e.symm⟩
  have lastx : (L ++ [xs])[L.length]? = some xs := by rw [List.getElem?_append_right (Nat.le_refl _), Nat.sub_self]; rfl
  refine ⟨fun l zs e => ?_, fun l zs ws e e' => ?_, fun l zs e hl => ?_⟩
  · rcases g l zs e with ⟨e, _⟩ | ⟨rfl, rfl⟩
    · exact h.lv l zs e
    · exact ⟨h2, h3, fun x hx => by rw [show r.most (L.length + 1) = r.inn from if_neg (by omega)]; exact h4 x hx⟩
  · rcases g l zs e with ⟨e1, hl⟩ | ⟨rfl, rfl⟩
    · rcases g (l + 1) ws e' with ⟨e2, _⟩ | ⟨hl', e3⟩
      · exact h.up l zs ws e1 e2
      · rw [show l = L.length by omega, lastx] at e1
        cases e1
        rw [e3]
        exact h5
    · rcases g _ ws e' with ⟨_, hl⟩ | ⟨hl, _⟩ <;> omega
  · rcases g l zs e with ⟨e, hl'⟩ | ⟨rfl, rfl⟩
    · by_cases c : l = L.length
      · rw [c, lastx] at e
        cases e
        exact h1
      · exact h.lo l zs e (by rw [List.length_append]; simp only [List.length_singleton]; omega)
    · simp only [List.length_append, List.length_singleton] at hl
      omega
def Small (d : D) : Prop := d.gdR = true ∧ d.depR ≤ 5 ∧ d.bkR ≤ 10000
theorem small_int {i : Int} (h : i.natAbs < 10 ^ 200) : Small (.int i) := ⟨by simp only [D.gdR, decide_eq_true_eq]; exact h, by simp only [D.depR]; omega, by simp only [D.bkR]; omega⟩
theorem lcT {k : Nat} {s : Str} {vs : List Nat} {g : ZG} {te : ZE} {Q : List D → SS → Prop} {S : SS} (hk : k ≤ 1000)
    (hs : ∀ i < k, ∀ A : D → SS → Prop, A (.str s) S → g (.int ((i : Nat) : Int)) S fun S1 => te S1 fun y S3 => A y (wipeS S3 vs))
    (hx : Q (List.replicate k (.str s)) S) : lcz vs g zYes te (rangeD 0 k) [] S Q := by
  have e : rangeD 0 k = (List.range k).map fun i : Nat => D.int (i : Int) := by
    unfold rangeD
    refine List.map_congr_left fun i _ => ?_
    rw [Int.zero_add]
  rw [e]
  refine lczA (fun _ => .str s) (fun S' => S' = S) rfl ?_ ?_ ?_
  · rw [List.length_range]
    have h1 := gt23
    have h2 : 1000 ≤ 2 ^ 23 := by decide
    show 0 + k ≤ sizeLine
    omega
  · rintro i hi S' rfl A hA
    exact hs i (List.mem_range.mp hi) A (hA _ rfl)
  · rintro S' rfl
    rw [List.map_const', List.length_range]
    exact hx
theorem eqL {c : Str} {k : Nat} (h : (D.str c).gd = true) : ∃ p, (D.lst (List.replicate k (.str c))).py = some p ∧ SeqAt.shaped p = true ∧ PyData.eqv p p = true := by
  have g : (D.lst (List.replicate k (.str c))).gd = true := gds_iff.mpr fun x hx => by rw [(List.mem_replicate.mp hx).2]; exact h
  have dp : (D.lst (List.replicate k (.str c))).dep ≤ 64 := by
    have : D.deps (List.replicate k (.str c)) ≤ 1 := deps_le fun x hx => by rw [(List.mem_replicate.mp hx).2]; exact Nat.zero_le _
    simp only [D.dep]; omega
  obtain ⟨p, q, e1, e2, e3, e4, e5, e6⟩ := eqP_gd g g dp dp
  rw [e1] at e2
  cases e2
  exact ⟨p, e1, e3, e5 rfl⟩
theorem cut_to (xs : List D) (k : Nat) : Zz.cutD xs none (some (k : Int)) = xs.take k := by
  unfold Zz.cutD
  rw [HT.sIx_none, HT.sIx_nat, List.drop_zero, Nat.sub_zero]
  rcases Nat.le_total k xs.length with h | h
  · rw [Nat.min_eq_left h]
  · rw [Nat.min_eq_right h, List.take_of_length_le (Nat.le_refl _), List.take_of_length_le h]
theorem RuleOk.rn {m a f p : Int} (h : RuleOk m a f p) : ∃ r : RN, r.ok ∧ m = r.lf ∧ a = r.ls ∧ f = r.inn ∧ p = r.ins := by
  have hb := h.bd
  obtain ⟨h1, h2, h3, h4, h5, h6⟩ := id h
  have e : ∀ x : Int, 0 ≤ x → x = ((x.toNat : Nat) : Int) := fun x hx => (Int.toNat_of_nonneg hx).symm
  refine ⟨⟨m.toNat, a.toNat, f.toNat, p.toNat⟩, ?_, e _ (by omega), e _ (by omega), e _ (by omega), e _ (by omega)⟩
  unfold RN.ok
  rw [← e m (by omega), ← e a (by omega), ← e f (by omega), ← e p (by omega)]
  exact h
theorem RuleOk.right {m a f p : Int} (h : RuleOk m a f p) : wrongAt (.int m) (.int a) (.int f) (.int p) = none := by
  obtain ⟨h1, h2, h3, h4, h5, h6⟩ := h
  have w : ∀ x : Int, 3 ≤ x → x ≤ 10 ^ 30 → wholeD 3 (10 ^ 30) (.int x) = true := fun x a b => by
    show (decide (3 ≤ x) && decide (x ≤ 10 ^ 30)) = true
    rw [decide_eq_true a, decide_eq_true b]
    rfl
  unfold wrongAt
  rw [if_neg (by rw [w m h1 h2]; decide), if_neg (by show ¬ partB m a = false; rw [h3]; decide), if_neg (by rw [w f h4 h5]; decide), if_neg (by show ¬ partB f p = false; rw [h6]; decide)]
theorem small_lst {xs : List D} (h : ∀ d ∈ xs, Small d) (hl : xs.length ≤ 4) : ∃ p, (D.lst xs).pyR = some p ∧ p.showable = true ∧ p.depth ≤ 60 ∧ p.shown.length ≤ sizeLine := by
  refine repr_gdR ?_ ?_ ?_
  · exact gdsR_iff.mpr fun x hx => (h x hx).1
  · have := depsR_le fun x hx => (h x hx).2.1
    simp only [D.depR]; omega
  · have := bksR_le fun x hx => (h x hx).2.2
    have e : (10000 + 1) * xs.length ≤ 10001 * 4 := Nat.mul_le_mul_left _ hl
    simp only [D.bkR]; omega
theorem small_non : Small .non := ⟨rfl, by decide, by decide⟩
theorem small_kS (up : Bool) : Small (.str (kS up)) := by cases up <;> exact ⟨by decide +kernel, by decide +kernel, by decide +kernel⟩
theorem lv_gd {L : List (List Nat)} (h : ∀ xs ∈ L, Sm xs) : (D.lst (L.map fun xs => lvP (rle xs))).gd = true ∧ (D.lst (L.map fun xs => lvP (rle xs))).dep ≤ 64 := by
  refine ⟨gds_iff.mpr fun x hx => ?_, ?_⟩
  · obtain ⟨xs, hx2, rfl⟩ := List.mem_map.mp hx
    refine gds_iff.mpr fun y hy => ?_
    obtain ⟨p, hp, rfl⟩ := List.mem_map.mp hy
    obtain ⟨h1, h2⟩ := (h xs hx2).pok p hp
    have e : (2 : Nat) ^ 200 < 10 ^ 200 := by decide
    have g : ∀ n : Nat, n < 2 ^ 200 → (D.int (n : Int)).gd = true := fun n hn => decide_eq_true (by rw [Int.natAbs_natCast]; omega)
    simp only [prD, D.gd, D.gds, g _ h1, g _ h2, Bool.and_true]
    exact Bool.and_eq_true_iff.mpr ⟨g _ h1, g _ h2⟩
  · have : D.deps (L.map fun xs => lvP (rle xs)) ≤ 2 := deps_le fun x hx => by
      obtain ⟨xs, hx, rfl⟩ := List.mem_map.mp hx
      have : D.deps ((rle xs).map prD) ≤ 1 := deps_le fun y hy => by
        obtain ⟨p, hp, rfl⟩ := List.mem_map.mp hy
        exact Nat.le_of_ble_eq_true rfl
      simp only [lvP, D.dep]; omega
    simp only [D.dep]; omega
theorem lv_eq {L : List (List Nat)} (h : ∀ xs ∈ L, Sm xs) : ∃ p q, (D.lst (L.map fun xs => lvP (rle xs))).py = some p ∧ (D.lst (L.map fun xs => lvP (rle xs))).py = some q ∧ SeqAt.shaped p = true ∧ SeqAt.shaped q = true ∧ PyData.eqv p q = true := by
  obtain ⟨g, d⟩ := lv_gd h
  obtain ⟨p, q, h1, h2, h3, h4, h5, _⟩ := eqP_gd g g d d
  exact ⟨p, q, h1, h2, h3, h4, h5 rfl⟩
theorem Ix.sms {r : RN} {L : List (List Nat)} (h : Ix r L) (hr : r.ok) : ∀ xs ∈ L, Sm xs := fun xs hx => by
  obtain ⟨l, hl, e⟩ := List.mem_iff_getElem.mp hx
  exact h.sm hr (l := l) (by rw [List.getElem?_eq_getElem hl, e])
/-! calls that tell -/
theorem mapR {α β : Type} {f : α → β} {xs : List α} {i : Nat} {y : β} (h : (xs.map f)[i]? = some y) : ∃ x, xs[i]? = some x ∧ y = f x := by
  rw [List.getElem?_map] at h
  cases e : xs[i]? with
  | none => rw [e] at h; cases h
  | some x => rw [e] at h; exact ⟨x, rfl, (Option.some.inj h).symm⟩
theorem Shp.psok {r : RN} {c : Nat} {L : List (List Nat)} (h : Shp r c L) (hc : c ≤ 12) : PSok r (L.map rle) := by
  have h1 := h.ne
  have h2 := h.ln
  refine ⟨by rw [List.length_map]; omega, by rw [List.length_map]; omega, .inr fun i ps e => ?_⟩
  obtain ⟨xs, e1, rfl⟩ := mapR e
  obtain ⟨g1, g2, g3⟩ := h.lv i xs e1
  have hln := rle_len_le xs
  refine ⟨?_, by omega, fun p hp => ?_, fun j qs hi e2 => ?_, ?_⟩
  · by_cases z : rle xs = []
    · have := ex_rle xs
      rw [z] at this
      rw [← this] at g1
      exact absurd g1 (by decide)
    · exact List.length_pos_iff.mpr z
  · obtain ⟨k1, k2, k3⟩ := rle_mem hp
    have := g3 _ k3
    have h30 : 12 ≤ 10 ^ 30 := by decide
    exact decide_eq_true ⟨this.1, this.2, k1, by omega⟩
  · subst hi
    obtain ⟨ys, e3, rfl⟩ := mapR e2
    rw [ex_rle, ex_rle]
    exact h.up j ys xs e3 e1
  · rw [ex_rle, List.length_map]
    constructor
    · intro z
      have hi := (List.getElem?_eq_some_iff.mp e1).1
      by_cases y : i + 1 < L.length
      · exact absurd z (h.lo i xs e1 y)
      · omega
    · intro z
      exact h.top i xs e1 z
theorem Shp.ix {r : RN} {c : Nat} {L : List (List Nat)} (h : Shp r c L) (hc : c ≤ 12) : Ix r L := by
  have h2 := h.ln
  refine ⟨h.ne, by omega, fun l xs e => ?_, fun l xs e x hx => ((h.lv l xs e).2.2 x hx).2, h.up⟩
  obtain ⟨g1, g2, g3⟩ := h.lv l xs e
  have hln := rle_len_le xs
  have e1 : 12 ≤ 2 ^ 21 := by decide
  have e2 : 12 ≤ 2 ^ 190 := by decide
  exact ⟨by omega, by omega, g1⟩
theorem sum_le_mul {xs : List Nat} {b : Nat} (h : ∀ x ∈ xs, x ≤ b) : xs.sum ≤ xs.length * b := by
  induction xs with
  | nil => simp
  | cons x xs ih =>
    have a := h x List.mem_cons_self
    have c := ih fun y hy => h y (List.mem_cons_of_mem _ hy)
    rw [List.sum_cons, List.length_cons, Nat.succ_mul]
    omega
theorem Shp.ent {r : RN} {c : Nat} {L : List (List Nat)} (h : Shp r c L) (hr : r.ok) (hc : c ≤ 12) : ent L ≤ 12 * 10 ^ 30 := by
  cases L with
  | nil => exact Nat.zero_le _
  | cons xs L =>
    obtain ⟨g1, g2, g3⟩ := h.lv 0 xs rfl
    have := sum_le_mul fun x hx => (g3 x hx).2
    have a := (hr.parts 0).2.1
    have b : xs.length * r.most 0 ≤ 12 * 10 ^ 30 := Nat.mul_le_mul (by omega) a
    show xs.sum ≤ _
    omega
theorem Ix.empty (r : RN) : Ix r [[0]] := by
  have one : ∀ (l : Nat) (xs : List Nat), ([[0]] : List (List Nat))[l]? = some xs → l = 0 ∧ xs = [0] := fun l xs h => by
    cases l with
    | zero => cases h; exact ⟨rfl, rfl⟩
    | succ l => simp at h
  refine ⟨Nat.zero_lt_one, by show 1 ≤ 3000; decide, fun l xs h => ?_, fun l xs h x hx => ?_, fun l xs ys h h' => ?_⟩
  · obtain ⟨_, rfl⟩ := one _ _ h
    decide
  · obtain ⟨_, rfl⟩ := one _ _ h
    rw [List.mem_singleton.mp hx]
    exact Nat.zero_le _
  · have := (one _ _ h').1
    omega
theorem map_ex_rle (L : List (List Nat)) : (L.map rle).map ex = L := by
  rw [List.map_map]
  exact (List.map_congr_left fun xs _ => ex_rle xs).trans (List.map_id _)
theorem map_lvP_rle (L : List (List Nat)) : (L.map fun xs => lvP (rle xs)) = (L.map rle).map lvP := by rw [List.map_map]; rfl
theorem RN.ok.rule {r : RN} (h : r.ok) : RuleOk r.lf r.ls r.inn r.ins := h
def rnD (r : RN) : D := .tup [.int (r.lf : Int), .int (r.ls : Int), .int (r.inn : Int), .int (r.ins : Int)]
/-! #### law_bag -/
def sp_law_bag : ZSp := fun ds Q _ => ∃ cell, ds = [.int cell] ∧ ∀ bs, BagOk 1000000 bs → Q (.ow bs)
def t_law_bag : ZS := zRetF (zLst (zCons (zBlt fMax2 (zCons (zC (.int 0)) (zCons (zSub (zVar 0) (zC (.int 1000000000000000000))) (zNil)))) (zCons (zVar 0) (zCons (zC (.int 0)) (zNil)))))
theorem dv_law_bag {Pg : Program} {w : World} {K : PySem.W.Frag} {mg : Str → Option Value} {base : Heap} {f : Addr} (G : Facts mg) (O : Objs K mg) (cdv : Value) (A : Around) (outer : List Env) (s : Shared) (H : Hp) (E : XK) (Z0 : Zc) (nb : NoBag (Sup Z0)) (C : Cd 0 (cxOf (L2.CX Pg w) Pg w K mg base N_law_bag "_law_bag" (defScope s_law_bag) f cdv A outer s H E) (Sup Z0)) :
    PSsd (cxOf (L2.CX Pg w) Pg w K mg base N_law_bag "_law_bag" (defScope s_law_bag) f cdv A outer s H E) (Sup Z0) (defBody s_law_bag) t_law_bag :=
  (ssd_one (sd_retF (pf_lst (ad_cons (pd_blt bz_max2 (call_max2 C.calm) (by rfl) G.b_max rfl (ad_cons pd_int (ad_cons (pd_sub (pd_var 0 (nb.s 0)) (pd_powc (v := 1000000000000000000))) ad_nil))) (ad_cons (pd_var 0 (nb.s 0)) (ad_cons pd_int ad_nil))))))
--% reads
theorem ln_law_bag : ∀ ds Qz Ez, sp_law_bag ds Qz Ez → ds.length = 1 := by
  rintro ds Q E ⟨_, rfl, _⟩
  rfl
theorem rd_law_bag : ∀ ds Qz (Ez : Str → Option (Str × D) → Prop), sp_law_bag ds Qz Ez → t_law_bag { nx := fun _ => Qz (.sh .non), rt := fun r _ => Qz r } (startS N_law_bag ds) := by
  rintro ds Q E ⟨cell, rfl, q⟩
  nofun
  exact ⟨sz3, q _ ⟨_, _, _, rfl, by decide, by decide⟩⟩
theorem ok_law_bag {Pg : Program} {w : World} {K : PySem.W.Frag} {mg : Str → Option Value} {base : Heap} {f : Addr} {fd : FuncData} (Fu : Fun K "_law_bag" "_law_bag" s_law_bag f fd) (G : Facts mg) (O : Objs K mg) : FnP Pg w K mg base 1 f fd ["cell"] (spZ K mg sp_law_bag) :=
  okZ (N := N_law_bag) (t := fun _ => t_law_bag) Fu sc_law_bag ln_law_bag (fun cdv A outer s H E Z0 nb C => dv_law_bag G O cdv A outer s H E Z0 nb C) rd_law_bag
/-! #### law_pick -/
def sp_law_pick : ZSb := fun bs ds Q => ∃ (m : Nat) (many : Int), BagOk (m + 1) bs ∧ ds = [.int many] ∧ 0 < many ∧ many < 2 ^ 200 ∧ ∀ r bs', 0 ≤ r → r < many → BagOk m bs' → Q (.int r) bs'
def t_law_pick : ZS := zSeq (zSetIx 0 (zAdd (zIx (zVarV 0) (zC (.int 2))) (zC (.int 1))) (zC (.int 2))) (
  zSeq (zIfS (zCmpT fGt (zIx (zVarV 0) (zC (.int 0))) (zC (.int 0))) (zSeq (zSet (zMod (zBlt fInt (zCons (zIx (zVarV 0) (zC (.int 0))) (zNil))) (zVar 1)) 2) (
  zSeq (zSetIx 0 (zDiv (zBlt fInt (zCons (zIx (zVarV 0) (zC (.int 0))) (zNil))) (zVar 1)) (zC (.int 0))) (
  zRet (zVar 2)))) (zNext)) (
  zSeq (zPar 3 4 (zXD (zBlt fInt (zCons (zIx (zVarV 0) (zC (.int 1))) (zNil)))) (zXD (zBlt fInt (zCons (zIx (zVarV 0) (zC (.int 2))) (zNil))))) (
  zSeq (zSet (zMod (zBlt fInt (zCons (zAdd (zAdd (zMul (zMod (zVar 3) (zC (.int 2147483629))) (zC (.int 48271))) (zMul (zVar 4) (zC (.int 69621)))) (zC (.int 12345))) (zNil))) (zC (.int 2147483647))) 5) (
  zSeq (zSet (zMod (zBlt fInt (zCons (zAdd (zMul (zVar 5) (zVar 5)) (zMul (zVar 4) (zC (.int 40692)))) (zNil))) (zC (.int 2147483587))) 6) (
  zSeq (zSet (zDiv (zBlt fInt (zCons (zAdd (zMul (zVar 5) (zC (.int 2147483587))) (zVar 6)) (zNil))) (zC (.int 32))) 7) (
  zSeq (zIfS (zCmpT fGt (zVar 1) (zC (.int 1000000000000000))) (zSet (zAdd (zPow (zVar 7) (zC (.int 8))) (zVar 6)) 7) (zNext)) (
  zRet (zMod (zBlt fInt (zCons (zVar 7) (zNil))) (zVar 1)))))))))
theorem dv_law_pick {Pg : Program} {w : World} {K : PySem.W.Frag} {mg : Str → Option Value} {base : Heap} {f : Addr} (G : Facts mg) (O : Objs K mg) (cdv : Value) (A : Around) (outer : List Env) (s : Shared) (H : Hp) (E : XK) (Z0 : Zc) (C : Cd 0 (cxOf (L2.CX Pg w) Pg w K mg base N_law_pick "_law_pick" (defScope s_law_pick) f cdv A outer s H E) (Sup Z0)) :
    PSsd (cxOf (L2.CX Pg w) Pg w K mg base N_law_pick "_law_pick" (defScope s_law_pick) f cdv A outer s H E) (Sup Z0) (defBody s_law_pick) t_law_pick :=
  (ssd_cons (sd_setIx (i := 0) (pd_add (pd_ix (pv_var 0) pd_int) pd_int) pd_int)
    (ssd_cons (sd_if (pt_cmp op_gt cz_gt (pd_ix (pv_var 0) pd_int) pd_int) (ssd_cons (sd_set (i := 2) bagS C.nd (pd_mod (pd_bty bz_int call_int1 (by rfl) G.b_int rfl (ad_cons (pd_ix (pv_var 0) pd_int) ad_nil)) (pd_var 1 bagS)))
    (ssd_cons (sd_setIx (i := 0) (pd_div (pd_bty bz_int call_int1 (by rfl) G.b_int rfl (ad_cons (pd_ix (pv_var 0) pd_int) ad_nil)) (pd_var 1 bagS)) pd_int)
    (ssd_one (sd_ret (pd_var 2 bagS))))) ssd_nil)
    (ssd_cons (sd_par (i := 3) (j := 4) C bagS bagS (pd_bty bz_int call_int1 (by rfl) G.b_int rfl (ad_cons (pd_ix (pv_var 0) pd_int) ad_nil)).px (pd_bty bz_int call_int1 (by rfl) G.b_int rfl (ad_cons (pd_ix (pv_var 0) pd_int) ad_nil)).px)
    (ssd_cons (sd_set (i := 5) bagS C.nd (pd_mod (pd_bty bz_int call_int1 (by rfl) G.b_int rfl (ad_cons (pd_add (pd_add (pd_mul (pd_mod (pd_var 3 bagS) pd_int) pd_int) (pd_mul (pd_var 4 bagS) pd_int)) pd_int) ad_nil)) pd_int))
    (ssd_cons (sd_set (i := 6) bagS C.nd (pd_mod (pd_bty bz_int call_int1 (by rfl) G.b_int rfl (ad_cons (pd_add (pd_mul (pd_var 5 bagS) (pd_var 5 bagS)) (pd_mul (pd_var 4 bagS) pd_int)) ad_nil)) pd_int))
    (ssd_cons (sd_set (i := 7) bagS C.nd (pd_div (pd_bty bz_int call_int1 (by rfl) G.b_int rfl (ad_cons (pd_add (pd_mul (pd_var 5 bagS) pd_int) (pd_var 6 bagS)) ad_nil)) pd_int))
    (ssd_cons (sd_if (pt_cmp op_gt cz_gt (pd_var 1 bagS) (pd_powc (v := 1000000000000000))) (ssd_one (sd_set (i := 7) bagS C.nd (pd_add (pd_pow (pd_var 7 bagS) pd_int) (pd_var 6 bagS)))) ssd_nil)
    (ssd_one (sd_ret (pd_mod (pd_bty bz_int call_int1 (by rfl) G.b_int rfl (ad_cons (pd_var 7 bagS) ad_nil)) (pd_var 1 bagS)))))))))))
--% reads
theorem ln_law_pick : ∀ bs ds Qz, sp_law_pick bs ds Qz → ds.length + 1 = 2 := by
  rintro bs ds Q ⟨_, _, _, rfl, _⟩
  rfl
theorem rd_law_pick : ∀ bs ds Qz, sp_law_pick bs ds Qz → t_law_pick (eB Qz) (.ow bs :: startS N_law_pick.tail ds) := by
  rintro bs ds Q ⟨m, many, ⟨b0, b1, c, rfl, h3, h4⟩, rfl, h1, h2, q⟩
  nofun
  refine ⟨fun z => ?_, fun z => ?_⟩
  · nofun
    refine ⟨h1, ?_⟩
    nofun
    refine ⟨divW h1 h2, ?_⟩
    nofun
    exact q _ _ (Int.emod_nonneg _ (by omega)) (Int.emod_lt_of_pos _ h1) ⟨_, _, _, rfl, by omega, by omega⟩
  · nofun
    refine ⟨by decide, ?_⟩
    nofun
    refine ⟨mulW (by omega) (by decide), ?_⟩
    nofun
    refine ⟨mulW (by omega) (by decide), ?_⟩
    nofun
    refine ⟨by decide, ?_⟩
    nofun
    generalize hf : (b1 % 2147483629 * 48271 + (c + 1) * 69621 + 12345) % 2147483647 = first at *
    have hf1 : 0 ≤ first := by omega
    have hf2 : first < 2147483647 := by omega
    refine ⟨mulW (by omega) (by omega), ?_⟩
    nofun
    refine ⟨mulW (by omega) (by decide), ?_⟩
    nofun
    refine ⟨by decide, ?_⟩
    nofun
    generalize hg : (first * first + (c + 1) * 40692) % 2147483587 = second at *
    have hg1 : 0 ≤ second := by omega
    have hg2 : second < 2147483587 := by omega
    refine ⟨mulW (by omega) (by decide), ?_⟩
    nofun
    refine ⟨divW (by decide) (by decide), ?_⟩
    nofun
    generalize hd : (first * 2147483587 + second) / 32 = drawn at *
    have hd1 : 0 ≤ drawn := by omega
    have hd2 : drawn < 2 ^ 60 := by omega
    refine ⟨fun z => ?_, fun z => ?_⟩
    · nofun
      refine ⟨⟨by decide, ?_⟩, ?_⟩
      · have : Builtin.Int.intBits drawn ≤ 1000 := by
          unfold Builtin.Int.intBits
          have := log_small hd1 (by omega)
          split <;> omega
        omega
      nofun
      refine ⟨h1, ?_⟩
      nofun
      exact q _ _ (Int.emod_nonneg _ (by omega)) (Int.emod_lt_of_pos _ h1) ⟨_, _, _, rfl, by omega, by omega⟩
    · nofun
      refine ⟨h1, ?_⟩
      nofun
      exact q _ _ (Int.emod_nonneg _ (by omega)) (Int.emod_lt_of_pos _ h1) ⟨_, _, _, rfl, by omega, by omega⟩
theorem ok_law_pick {Pg : Program} {w : World} {K : PySem.W.Frag} {mg : Str → Option Value} {base : Heap} {f : Addr} {fd : FuncData} (Fu : Fun K "_law_pick" "_law_pick" s_law_pick f fd) (G : Facts mg) (O : Objs K mg) : FnP Pg w K mg base 1 f fd ["bag", "many"] (spB K mg sp_law_pick) :=
  okB (N := N_law_pick) (t := t_law_pick) Fu sc_law_pick ln_law_pick (fun cdv A outer s H E Z0 C => dv_law_pick G O cdv A outer s H E Z0 C) rd_law_pick
/-! #### law_rule -/
def sp_law_rule : ZSb := fun bs ds Q => ∃ n, BagOk (n + 4) bs ∧ ds = [] ∧ ∀ m a f p bs', RuleOk m a f p → (m ≤ 8 ∧ f ≤ 8) → BagOk n bs' → Q (.tup [.int m, .int a, .int f, .int p]) bs'
def t_law_rule : ZS := zSeq (zSet (zFD (zLst (zNil))) 1) (
  zSeq (zFor (zItR1 (zC (.int 2))) (gzName 2) (zSeq (zSet (zAdd (zC (.int 3)) (zCallB 0 sp_law_pick (zCons (zC (.int 5)) (zNil)))) 3) (
  zSet (zFD (zCat (zVar 1) (zFD (zLst (zCons (zVar 3) (zCons (zAdd (zC (.int 2)) (zCallB 0 sp_law_pick (zCons (zSub (zVar 3) (zC (.int 2))) (zNil)))) (zNil))))))) 1))) (
  zRet (zBlt fTupleOf (zCons (zVar 1) (zNil)))))
theorem dv_law_rule {Pg : Program} {w : World} {K : PySem.W.Frag} {mg : Str → Option Value} {base : Heap} {f : Addr} (G : Facts mg) (O : Objs K mg) (D__law_pick : Df Pg w K mg base 1 "_law_pick" (spB K mg sp_law_pick)) (cdv : Value) (A : Around) (outer : List Env) (s : Shared) (H : Hp) (E : XK) (Z0 : Zc) (C : Cd 1 (cxOf (L2.CX Pg w) Pg w K mg base N_law_rule "_law_rule" (defScope s_law_rule) f cdv A outer s H E) (Sup Z0)) :
    PSsd (cxOf (L2.CX Pg w) Pg w K mg base N_law_rule "_law_rule" (defScope s_law_rule) f cdv A outer s H E) (Sup Z0) (defBody s_law_rule) t_law_rule :=
  (ssd_cons (sd_set (i := 1) bagS C.nd (pf_lst ad_nil).pd)
    (ssd_cons (sd_for C.po C.calm (id_range1 (by rfl) G.b_range pd_int) (gd_name (i := 2) bagS C.nd) (ssd_cons (sd_set (i := 3) bagS C.nd (pd_add pd_int (dd_callB (i := 0) D__law_pick C (by rfl) (ad_cons pd_int ad_nil))))
    (ssd_one (sd_set (i := 1) bagS C.nd (pf_cat (pd_var 1 bagS) (pf_lst (ad_cons (pd_var 3 bagS) (ad_cons (pd_add pd_int (dd_callB (i := 0) D__law_pick C (by rfl) (ad_cons (pd_sub (pd_var 3 bagS) pd_int) ad_nil))) ad_nil))).pd).pd))))
    (ssd_one (sd_ret (pd_bty bz_tupleOf call_tuple_of (by rfl) G.b_tuple rfl (ad_cons (pd_var 1 bagS) ad_nil))))))
--% reads
theorem ln_law_rule : ∀ bs ds Qz, sp_law_rule bs ds Qz → ds.length + 1 = 1 := by
  rintro bs ds Q ⟨_, _, rfl, _⟩
  rfl
theorem rd_law_rule : ∀ bs ds Qz, sp_law_rule bs ds Qz → t_law_rule (eB Qz) (.ow bs :: startS N_law_rule.tail ds) := by
  rintro bs ds Q ⟨n, hb, rfl, q⟩
  nofun
  refine ⟨Nat.zero_le _, ?_⟩
  nofun
  refine ⟨by decide, by decide, ?_⟩
  refine forz_ind (fun i S => ∃ bs ps x y, S = [.ow bs, .sh (.lst (ps.map fun p : Int × Int => [D.int p.1, D.int p.2]).flatten), x, y] ∧ BagOk (n + 4 - 2 * i) bs ∧ ps.length = i ∧ ∀ p ∈ ps, 3 ≤ p.1 ∧ p.1 ≤ 8 ∧ partB p.1 p.2 = true) ⟨_, [], _, _, rfl, hb, rfl, fun p hp => by cases hp⟩ ?_ ?_
  · rintro i d S hd ⟨bs, ps, x, y, rfl, hb, hl, hs⟩ K hK
    obtain ⟨hi, rfl⟩ := rangeD_get hd
    have hi : i < 2 := hi
    have hfl : ((ps.map fun p : Int × Int => [D.int p.1, D.int p.2]).flatten).length = 2 * i := by
      rw [List.length_flatten, List.map_map, ← hl]
      clear hs hl
      induction ps with
      | nil => rfl
      | cons p ps ih => simp at ih ⊢; omega
    nofun
    refine ⟨n + 3 - 2 * i, 5, by rw [show n + 3 - 2 * i + 1 = n + 4 - 2 * i by omega]; exact hb, rfl, by decide, by decide, fun r bs hr1 hr2 hb => ?_⟩
    nofun
    refine ⟨n + 2 - 2 * i, 3 + r - 2, by rw [show n + 2 - 2 * i + 1 = n + 3 - 2 * i by omega]; exact hb, rfl, by omega, by omega, fun r2 bs hr3 hr4 hb => ?_⟩
    nofun
    refine ⟨sz2, ?_⟩
    nofun
    refine ⟨by rw [hfl, sizeLine_eq]; show 2 * i + 2 ≤ _; omega, hK _ ⟨bs, ps ++ [(3 + r, 2 + r2)], .sh (.int (0 + (i : Int))), .sh (.int (3 + r)), ?_, ?_, ?_, ?_⟩⟩
    · rw [List.map_append, List.flatten_append]
      rfl
    · rw [show n + 4 - 2 * (i + 1) = n + 2 - 2 * i by omega]; exact hb
    · rw [List.length_append, hl]; rfl
    · intro p hp
      rcases List.mem_append.mp hp with hp | hp
      · exact hs p hp
      · simp at hp
        subst hp
        exact ⟨show 3 ≤ 3 + r by omega, show 3 + r ≤ 8 by omega, decide_eq_true (show 2 ≤ 2 + r2 ∧ 2 + r2 ≤ 3 + r - 1 ∧ 3 + r + 1 ≤ 4 * (2 + r2) ∧ 3 + r + 1 ≤ 4 * (3 + r + 1 - (2 + r2)) by omega)⟩
  · rintro S ⟨bs, ps, x, y, rfl, hb, hl, hs⟩
    have hl : ps.length = 2 := hl
    obtain ⟨⟨m, a⟩, ⟨f, p⟩, rfl⟩ : ∃ p1 p2 : Int × Int, ps = [p1, p2] := match ps, hl with
      | [p1, p2], _ => ⟨p1, p2, rfl⟩
    have a1 := hs (m, a) List.mem_cons_self
    have a2 := hs (f, p) (List.mem_cons_of_mem _ List.mem_cons_self)
    have a3 := a1.2.1
    have a4 := a2.2.1
    have q := q m a f p _ ⟨a1.1, by omega, a1.2.2, a2.1, by omega, a2.2.2⟩ ⟨a3, a4⟩ (hb.le (show n ≤ n + 4 - 2 * 2 by omega))
    nofun
    exact q
theorem ok_law_rule {Pg : Program} {w : World} {K : PySem.W.Frag} {mg : Str → Option Value} {base : Heap} {f : Addr} {fd : FuncData} (Fu : Fun K "_law_rule" "_law_rule" s_law_rule f fd) (G : Facts mg) (O : Objs K mg) (D__law_pick : Df Pg w K mg base 1 "_law_pick" (spB K mg sp_law_pick)) : FnP Pg w K mg base 2 f fd ["bag"] (spB K mg sp_law_rule) :=
  okB (N := N_law_rule) (t := t_law_rule) Fu sc_law_rule ln_law_rule (fun cdv A outer s H E Z0 C => dv_law_rule G O D__law_pick cdv A outer s H E Z0 C) rd_law_rule
/-! #### law_great_rule -/
def sp_law_great_rule : ZSb := fun bs ds Q => ∃ n, BagOk (n + 10) bs ∧ ds = [] ∧ ∀ m a f p bs', RuleOk m a f p → BagOk n bs' → Q (.tup [.int m, .int a, .int f, .int p]) bs'
def t_law_great_rule : ZS := zSeq (zSet (zFD (zLst (zNil))) 1) (
  zSeq (zSet (zIx (zShV (zFD (zLst (zCons (zSub (zC (.int 1000000000000000000000000000000)) (zC (.int 3))) (zCons (zC (.int 1000000000000000000000000000)) (zCons (zC (.int 1000000000000)) (zNil))))))) (zCallB 0 sp_law_pick (zCons (zC (.int 3)) (zNil)))) 2) (
  zSeq (zFor (zItS (zTup (zCons (zAdd (zC (.int 3)) (zCallB 0 sp_law_pick (zCons (zVar 2) (zNil)))) (zCons (zAdd (zC (.int 3)) (zCallB 0 sp_law_pick (zCons (zIx (zShV (zFD (zLst (zCons (zC (.int 5)) (zCons (zSub (zC (.int 1000000000000000000000000000000)) (zC (.int 3))) (zNil)))))) (zCallB 0 sp_law_pick (zCons (zC (.int 2)) (zNil)))) (zNil)))) (zNil))))) (gzName 3) (zSeq (zSet (zBlt fMax2 (zCons (zC (.int 2)) (zCons (zSub (zC (.int 0)) (zDiv (zSub (zSub (zC (.int 0)) (zVar 3)) (zC (.int 1))) (zC (.int 4)))) (zNil)))) 4) (
  zSeq (zSet (zFD (zLst (zCons (zVar 4) (zCons (zSub (zAdd (zVar 3) (zC (.int 1))) (zVar 4)) (zCons (zAdd (zVar 4) (zCallB 0 sp_law_pick (zCons (zSub (zAdd (zVar 3) (zC (.int 2))) (zMul (zC (.int 2)) (zVar 4))) (zNil)))) (zCons (zDiv (zAdd (zVar 3) (zC (.int 1))) (zC (.int 2))) (zNil))))))) 5) (
  zSet (zFD (zCat (zVar 1) (zFD (zLst (zCons (zVar 3) (zCons (zIx (zVarV 5) (zCallB 0 sp_law_pick (zCons (zC (.int 4)) (zNil)))) (zNil))))))) 1)))) (
  zRet (zBlt fTupleOf (zCons (zVar 1) (zNil))))))
theorem dv_law_great_rule {Pg : Program} {w : World} {K : PySem.W.Frag} {mg : Str → Option Value} {base : Heap} {f : Addr} (G : Facts mg) (O : Objs K mg) (D__law_pick : Df Pg w K mg base 1 "_law_pick" (spB K mg sp_law_pick)) (cdv : Value) (A : Around) (outer : List Env) (s : Shared) (H : Hp) (E : XK) (Z0 : Zc) (C : Cd 1 (cxOf (L2.CX Pg w) Pg w K mg base N_law_great_rule "_law_great_rule" (defScope s_law_great_rule) f cdv A outer s H E) (Sup Z0)) :
    PSsd (cxOf (L2.CX Pg w) Pg w K mg base N_law_great_rule "_law_great_rule" (defScope s_law_great_rule) f cdv A outer s H E) (Sup Z0) (defBody s_law_great_rule) t_law_great_rule :=
  (ssd_cons (sd_set (i := 1) bagS C.nd (pf_lst ad_nil).pd)
    (ssd_cons (sd_set (i := 2) bagS C.nd (pd_ix (pf_lst (ad_cons (pd_sub (pd_powc (v := 1000000000000000000000000000000)) pd_int) (ad_cons (pd_powc (v := 1000000000000000000000000000)) (ad_cons (pd_powc (v := 1000000000000)) ad_nil)))).pd.pv (dd_callB (i := 0) D__law_pick C (by rfl) (ad_cons pd_int ad_nil))))
    (ssd_cons (sd_for C.po C.calm (id_seq (pd_tup (ad_cons (pd_add pd_int (dd_callB (i := 0) D__law_pick C (by rfl) (ad_cons (pd_var 2 bagS) ad_nil))) (ad_cons (pd_add pd_int (dd_callB (i := 0) D__law_pick C (by rfl) (ad_cons (pd_ix (pf_lst (ad_cons pd_int (ad_cons (pd_sub (pd_powc (v := 1000000000000000000000000000000)) pd_int) ad_nil))).pd.pv (dd_callB (i := 0) D__law_pick C (by rfl) (ad_cons pd_int ad_nil))) ad_nil))) ad_nil)))) (gd_name (i := 3) bagS C.nd) (ssd_cons (sd_set (i := 4) bagS C.nd (pd_blt bz_max2 (call_max2 C.calm) (by rfl) G.b_max rfl (ad_cons pd_int (ad_cons (pd_sub pd_int (pd_div (pd_sub (pd_sub pd_int (pd_var 3 bagS)) pd_int) pd_int)) ad_nil))))
    (ssd_cons (sd_set (i := 5) bagS C.nd (pf_lst (ad_cons (pd_var 4 bagS) (ad_cons (pd_sub (pd_add (pd_var 3 bagS) pd_int) (pd_var 4 bagS)) (ad_cons (pd_add (pd_var 4 bagS) (dd_callB (i := 0) D__law_pick C (by rfl) (ad_cons (pd_sub (pd_add (pd_var 3 bagS) pd_int) (pd_mul pd_int (pd_var 4 bagS))) ad_nil))) (ad_cons (pd_div (pd_add (pd_var 3 bagS) pd_int) pd_int) ad_nil))))).pd)
    (ssd_one (sd_set (i := 1) bagS C.nd (pf_cat (pd_var 1 bagS) (pf_lst (ad_cons (pd_var 3 bagS) (ad_cons (pd_ix (pv_var 5) (dd_callB (i := 0) D__law_pick C (by rfl) (ad_cons pd_int ad_nil))) ad_nil))).pd).pd)))))
    (ssd_one (sd_ret (pd_bty bz_tupleOf call_tuple_of (by rfl) G.b_tuple rfl (ad_cons (pd_var 1 bagS) ad_nil)))))))
--% reads
theorem ln_law_great_rule : ∀ bs ds Qz, sp_law_great_rule bs ds Qz → ds.length + 1 = 1 := by
  rintro bs ds Q ⟨_, _, rfl, _⟩
  rfl
theorem rd_law_great_rule : ∀ bs ds Qz, sp_law_great_rule bs ds Qz → t_law_great_rule (eB Qz) (.ow bs :: startS N_law_great_rule.tail ds) := by
  rintro bs ds Q ⟨n, hb, rfl, q⟩
  nofun
  refine ⟨Nat.zero_le _, ?_⟩
  nofun
  refine ⟨sz3, ?_⟩
  nofun
  refine ⟨n + 9, 3, hb, rfl, by decide, by decide, fun r bs h1 h2 hb => ?_⟩
  nofun
  obtain ⟨wide, hm1, hw1, hw2⟩ : ∃ mx : Int, atI [D.int (1000000000000000000000000000000 - 3), D.int 1000000000000000000000000000, D.int 1000000000000] r = some (.int mx) ∧ 1 ≤ mx ∧ mx ≤ 10 ^ 30 - 3 := by
    rcases (show r = 0 ∨ r = 1 ∨ r = 2 by omega) with rfl | rfl | rfl
    · exact ⟨_, rfl, by decide, by decide⟩
    · exact ⟨_, rfl, by decide, by decide⟩
    · exact ⟨_, rfl, by decide, by decide⟩
  refine ⟨_, hm1, ?_⟩
  nofun
  refine ⟨n + 8, wide, hb, rfl, by omega, by omega, fun r1 bs h3 h4 hb => ?_⟩
  nofun
  refine ⟨sz2, ?_⟩
  nofun
  refine ⟨n + 7, 2, hb, rfl, by decide, by decide, fun r2 bs h5 h6 hb => ?_⟩
  nofun
  obtain ⟨wid2, hm2, hw3, hw4⟩ : ∃ mx : Int, atI [D.int 5, D.int (1000000000000000000000000000000 - 3)] r2 = some (.int mx) ∧ 1 ≤ mx ∧ mx ≤ 10 ^ 30 - 3 := by
    rcases (show r2 = 0 ∨ r2 = 1 by omega) with rfl | rfl
    · exact ⟨_, rfl, by decide, by decide⟩
    · exact ⟨_, rfl, by decide, by decide⟩
  refine ⟨_, hm2, ?_⟩
  nofun
  refine ⟨n + 6, wid2, hb, rfl, by omega, by omega, fun r3 bs h7 h8 hb => ?_⟩
  nofun
  refine ⟨sz2, ?_⟩
  have ha1 : 3 ≤ 3 + r1 ∧ 3 + r1 ≤ 10 ^ 30 := by omega
  have ha2 : 3 ≤ 3 + r3 ∧ 3 + r3 ≤ 10 ^ 30 := by omega
  generalize 3 + r1 = m1 at *
  generalize 3 + r3 = m2 at *
  refine forz_ind (fun i S => ∃ bs ps x y z, S = [.ow bs, .sh (.lst (ps.map fun p : Int × Int => [D.int p.1, D.int p.2]).flatten), .sh (.int wide), x, y, z] ∧ BagOk (n + 6 - 2 * i) bs ∧ ps.length = i ∧ ∀ p ∈ ps, 3 ≤ p.1 ∧ p.1 ≤ 10 ^ 30 ∧ partB p.1 p.2 = true) ⟨_, [], _, _, _, rfl, hb, rfl, fun p hp => by cases hp⟩ ?_ ?_
  · rintro i d S hd ⟨bs, ps, x, y, z, rfl, hb, hl, hs⟩ K hK
    obtain ⟨m, rfl, hi, hq1, hq2⟩ : ∃ m : Int, d = .int m ∧ i < 2 ∧ 3 ≤ m ∧ m ≤ 10 ^ 30 := by
      match i, hd with
      | 0, hd => cases hd; exact ⟨_, rfl, by decide, ha1.1, ha1.2⟩
      | 1, hd => cases hd; exact ⟨_, rfl, by decide, ha2.1, ha2.2⟩
    have hfl : ((ps.map fun p : Int × Int => [D.int p.1, D.int p.2]).flatten).length = 2 * i := by
      rw [List.length_flatten, List.map_map, ← hl]
      clear hs hl
      induction ps with
      | nil => rfl
      | cons p ps ih => simp at ih ⊢; omega
    nofun
    refine ⟨divW (by decide) (by decide), ?_⟩
    nofun
    obtain ⟨l, hl0, hl1, hl2, hl3⟩ : ∃ l, (if 0 - (0 - m - 1) / 4 > 2 then 0 - (0 - m - 1) / 4 else 2) = l ∧ 2 ≤ l ∧ m + 1 ≤ 4 * l ∧ (l = 2 ∨ 4 * l ≤ m + 4) := ⟨_, rfl, by split <;> omega, by split <;> omega, by split <;> omega⟩
    generalize (if 0 - (0 - m - 1) / 4 > 2 then 0 - (0 - m - 1) / 4 else 2) = l' at *
    subst hl0
    refine ⟨mulW (by decide) (by omega), ?_⟩
    nofun
    refine ⟨n + 5 - 2 * i, m + 2 - 2 * l', by rw [show n + 5 - 2 * i + 1 = n + 6 - 2 * i by omega]; exact hb, rfl, by omega, by omega, fun r4 bs hr1 hr2 hb => ?_⟩
    nofun
    refine ⟨divW (by decide) (by decide), ?_⟩
    nofun
    refine ⟨sz4, ?_⟩
    nofun
    refine ⟨n + 4 - 2 * i, 4, by rw [show n + 4 - 2 * i + 1 = n + 5 - 2 * i by omega]; exact hb, rfl, by decide, by decide, fun r5 bs hr3 hr4 hb => ?_⟩
    nofun
    obtain ⟨st, hm3, hpt⟩ : ∃ st : Int, atI [D.int l', D.int (m + 1 - l'), D.int (l' + r4), D.int ((m + 1) / 2)] r5 = some (.int st) ∧ partB m st = true := by
      rcases (show r5 = 0 ∨ r5 = 1 ∨ r5 = 2 ∨ r5 = 3 by omega) with rfl | rfl | rfl | rfl
      · exact ⟨_, rfl, decide_eq_true (by omega)⟩
      · exact ⟨_, rfl, decide_eq_true (by omega)⟩
      · exact ⟨_, rfl, decide_eq_true (by omega)⟩
      · exact ⟨_, rfl, decide_eq_true (by omega)⟩
    refine ⟨_, hm3, ?_⟩
    nofun
    refine ⟨sz2, ?_⟩
    nofun
    refine ⟨by rw [hfl, sizeLine_eq]; show 2 * i + 2 ≤ _; omega, hK _ ⟨bs, ps ++ [(m, st)], .sh (.int m), .sh (.int l'), .sh (.lst [D.int l', D.int (m + 1 - l'), D.int (l' + r4), D.int ((m + 1) / 2)]), ?_, ?_, ?_, ?_⟩⟩
    · rw [List.map_append, List.flatten_append]
      rfl
    · rw [show n + 6 - 2 * (i + 1) = n + 4 - 2 * i by omega]; exact hb
    · rw [List.length_append, hl]; rfl
    · intro p hp
      rcases List.mem_append.mp hp with hp | hp
      · exact hs p hp
      · simp at hp
        subst hp
        exact ⟨hq1, hq2, hpt⟩
  · rintro S ⟨bs, ps, x, y, z, rfl, hb, hl, hs⟩
    have hl : ps.length = 2 := hl
    obtain ⟨⟨m, a⟩, ⟨f, p⟩, rfl⟩ : ∃ p1 p2 : Int × Int, ps = [p1, p2] := match ps, hl with
      | [p1, p2], _ => ⟨p1, p2, rfl⟩
    have a1 := hs (m, a) List.mem_cons_self
    have a2 := hs (f, p) (List.mem_cons_of_mem _ List.mem_cons_self)
    have q := q m a f p _ ⟨a1.1, a1.2.1, a1.2.2, a2.1, a2.2.1, a2.2.2⟩ (hb.le (show n ≤ n + 6 - 2 * 2 by omega))
    nofun
    exact q
theorem ok_law_great_rule {Pg : Program} {w : World} {K : PySem.W.Frag} {mg : Str → Option Value} {base : Heap} {f : Addr} {fd : FuncData} (Fu : Fun K "_law_great_rule" "_law_great_rule" s_law_great_rule f fd) (G : Facts mg) (O : Objs K mg) (D__law_pick : Df Pg w K mg base 1 "_law_pick" (spB K mg sp_law_pick)) : FnP Pg w K mg base 2 f fd ["bag"] (spB K mg sp_law_great_rule) :=
  okB (N := N_law_great_rule) (t := t_law_great_rule) Fu sc_law_great_rule ln_law_great_rule (fun cdv A outer s H E Z0 C => dv_law_great_rule G O D__law_pick cdv A outer s H E Z0 C) rd_law_great_rule
/-! #### law_any_rule -/
def sp_law_any_rule : ZSb := fun bs ds Q => ∃ n, BagOk (n + 15) bs ∧ ds = [] ∧ ∀ m a f p bs', RuleOk m a f p → BagOk n bs' → Q (.tup [.int m, .int a, .int f, .int p]) bs'
def t_law_any_rule : ZS := zRet (zIx (zShV (zFD (zLst (zCons (zCallB 0 sp_law_rule (zNil)) (zCons (zCallB 0 sp_law_great_rule (zNil)) (zNil)))))) (zCallB 0 sp_law_pick (zCons (zC (.int 2)) (zNil))))
theorem dv_law_any_rule {Pg : Program} {w : World} {K : PySem.W.Frag} {mg : Str → Option Value} {base : Heap} {f : Addr} (G : Facts mg) (O : Objs K mg) (D__law_pick : Df Pg w K mg base 1 "_law_pick" (spB K mg sp_law_pick)) (D__law_rule : Df Pg w K mg base 2 "_law_rule" (spB K mg sp_law_rule)) (D__law_great_rule : Df Pg w K mg base 2 "_law_great_rule" (spB K mg sp_law_great_rule)) (cdv : Value) (A : Around) (outer : List Env) (s : Shared) (H : Hp) (E : XK) (Z0 : Zc) (C : Cd 2 (cxOf (L2.CX Pg w) Pg w K mg base N_law_any_rule "_law_any_rule" (defScope s_law_any_rule) f cdv A outer s H E) (Sup Z0)) :
    PSsd (cxOf (L2.CX Pg w) Pg w K mg base N_law_any_rule "_law_any_rule" (defScope s_law_any_rule) f cdv A outer s H E) (Sup Z0) (defBody s_law_any_rule) t_law_any_rule :=
  (ssd_one (sd_ret (pd_ix (pf_lst (ad_cons (dd_callB (i := 0) D__law_rule C (by rfl) ad_nil) (ad_cons (dd_callB (i := 0) D__law_great_rule C (by rfl) ad_nil) ad_nil))).pd.pv (dd_callB (i := 0) D__law_pick C (by rfl) (ad_cons pd_int ad_nil)))))
--% reads
theorem ln_law_any_rule : ∀ bs ds Qz, sp_law_any_rule bs ds Qz → ds.length + 1 = 1 := by
  rintro bs ds Q ⟨_, _, rfl, _⟩
  rfl
theorem rd_law_any_rule : ∀ bs ds Qz, sp_law_any_rule bs ds Qz → t_law_any_rule (eB Qz) (.ow bs :: startS N_law_any_rule.tail ds) := by
  rintro bs ds Q ⟨n, hb, rfl, q⟩
  nofun
  refine ⟨n + 11, hb, rfl, fun m a f p bs h _ hb => ?_⟩
  nofun
  refine ⟨n + 1, hb, rfl, fun m' a' f' p' bs h' hb => ?_⟩
  nofun
  refine ⟨sz2, ?_⟩
  nofun
  refine ⟨n, 2, hb, rfl, by decide, by decide, fun r bs h1 h2 hb => ?_⟩
  nofun
  rcases (show r = 0 ∨ r = 1 by omega) with rfl | rfl
  · nofun
    exact q _ _ _ _ _ h hb
  · nofun
    exact q _ _ _ _ _ h' hb
theorem ok_law_any_rule {Pg : Program} {w : World} {K : PySem.W.Frag} {mg : Str → Option Value} {base : Heap} {f : Addr} {fd : FuncData} (Fu : Fun K "_law_any_rule" "_law_any_rule" s_law_any_rule f fd) (G : Facts mg) (O : Objs K mg) (D__law_pick : Df Pg w K mg base 1 "_law_pick" (spB K mg sp_law_pick)) (D__law_rule : Df Pg w K mg base 2 "_law_rule" (spB K mg sp_law_rule)) (D__law_great_rule : Df Pg w K mg base 2 "_law_great_rule" (spB K mg sp_law_great_rule)) : FnP Pg w K mg base 3 f fd ["bag"] (spB K mg sp_law_any_rule) :=
  okB (N := N_law_any_rule) (t := t_law_any_rule) Fu sc_law_any_rule ln_law_any_rule (fun cdv A outer s H E Z0 C => dv_law_any_rule G O D__law_pick D__law_rule D__law_great_rule cdv A outer s H E Z0 C) rd_law_any_rule
/-! #### law_firsts -/
def sp_law_firsts : ZSp := fun ds Q _ => ∃ (r : RN) (up : Bool) (l : Nat), ds = [rnD r, .str (kS up), .int (l : Int)] ∧ r.ok ∧ l ≤ 400 ∧ Q (.sh (.tup [.int ((fsp r up l).1 : Int), .int ((fsp r up l).2 : Int)]))
def t_law_firsts : ZS := zSeq (zSet (zFD (zLst (zCons (zIx (zVarV 0) (zC (.int 1))) (zCons (zIx (zVarV 0) (zC (.int 3))) (zNil))))) 3) (
  zSeq (zIfS (zCmpT fEq (zVar 1) (zC (.str "down"))) (zSet (zFD (zLst (zCons (zSub (zAdd (zIx (zVarV 0) (zC (.int 0))) (zC (.int 1))) (zIx (zVarV 0) (zC (.int 1)))) (zCons (zSub (zAdd (zIx (zVarV 0) (zC (.int 2))) (zC (.int 1))) (zIx (zVarV 0) (zC (.int 3)))) (zNil))))) 3) (zNext)) (
  zSeq (zPar 4 5 (zXD (zAdd (zIx (zVarV 0) (zC (.int 0))) (zC (.int 1)))) (zXD (zIx (zVarV 3) (zC (.int 0))))) (
  zSeq (zFor (zItR1 (zVar 2)) (gzName 6) (zSeq (zSet (zAdd (zVar 4) (zMul (zVar 5) (zSub (zIx (zVarV 0) (zC (.int 2))) (zC (.int 1))))) 4) (
  zSet (zMul (zVar 5) (zIx (zVarV 3) (zC (.int 1)))) 5))) (
  zRet (zTup (zCons (zVar 4) (zCons (zVar 5) (zNil))))))))
theorem dv_law_firsts {Pg : Program} {w : World} {K : PySem.W.Frag} {mg : Str → Option Value} {base : Heap} {f : Addr} (G : Facts mg) (O : Objs K mg) (cdv : Value) (A : Around) (outer : List Env) (s : Shared) (H : Hp) (E : XK) (Z0 : Zc) (nb : NoBag (Sup Z0)) (C : Cd 0 (cxOf (L2.CX Pg w) Pg w K mg base N_law_firsts "_law_firsts" (defScope s_law_firsts) f cdv A outer s H E) (Sup Z0)) :
    PSsd (cxOf (L2.CX Pg w) Pg w K mg base N_law_firsts "_law_firsts" (defScope s_law_firsts) f cdv A outer s H E) (Sup Z0) (defBody s_law_firsts) t_law_firsts :=
  (ssd_cons (sd_set (i := 3) (nb.s 3) C.nd (pf_lst (ad_cons (pd_ix (pv_var 0) pd_int) (ad_cons (pd_ix (pv_var 0) pd_int) ad_nil))).pd)
    (ssd_cons (sd_if (pt_cmp (op_eqA C.hu) cz_eq (pd_var 1 (nb.s 1)) pd_str) (ssd_one (sd_set (i := 3) (nb.s 3) C.nd (pf_lst (ad_cons (pd_sub (pd_add (pd_ix (pv_var 0) pd_int) pd_int) (pd_ix (pv_var 0) pd_int)) (ad_cons (pd_sub (pd_add (pd_ix (pv_var 0) pd_int) pd_int) (pd_ix (pv_var 0) pd_int)) ad_nil))).pd)) ssd_nil)
    (ssd_cons (sd_par (i := 4) (j := 5) C (nb.s 4) (nb.s 5) (pd_add (pd_ix (pv_var 0) pd_int) pd_int).px (pd_ix (pv_var 3) pd_int).px)
    (ssd_cons (sd_for C.po C.calm (id_range1 (by rfl) G.b_range (pd_var 2 (nb.s 2))) (gd_name (i := 6) (nb.s 6) C.nd) (ssd_cons (sd_set (i := 4) (nb.s 4) C.nd (pd_add (pd_var 4 (nb.s 4)) (pd_mul (pd_var 5 (nb.s 5)) (pd_sub (pd_ix (pv_var 0) pd_int) pd_int))))
    (ssd_one (sd_set (i := 5) (nb.s 5) C.nd (pd_mul (pd_var 5 (nb.s 5)) (pd_ix (pv_var 3) pd_int))))))
    (ssd_one (sd_ret (pd_tup (ad_cons (pd_var 4 (nb.s 4)) (ad_cons (pd_var 5 (nb.s 5)) ad_nil)))))))))
--% reads
theorem ln_law_firsts : ∀ ds Qz Ez, sp_law_firsts ds Qz Ez → ds.length = 3 := by
  rintro ds Q E ⟨_, _, _, rfl, _⟩
  rfl
theorem rd_law_firsts : ∀ ds Qz (Ez : Str → Option (Str × D) → Prop), sp_law_firsts ds Qz Ez → t_law_firsts { nx := fun _ => Qz (.sh .non), rt := fun r _ => Qz r } (startS N_law_firsts ds) := by
  rintro ds Q E ⟨r, up, l, rfl, hr, hl, q⟩
  have hb := fsp_bd hr up
  obtain ⟨⟨w1, w2, w3, w4⟩, w5, w6, w7, w8⟩ := hr.wk up
  have k100 : 10 ^ 30 < 2 ^ 100 := by decide
  refine zSeq_cut (fun S => S = [.sh (rnD r), .sh (.str (kS up)), .sh (.int (l : Int)), .sh (.lst [.int (r.ls : Int), .int (r.ins : Int)]), .un, .un, .un]) (fun K hK => ?_) ?_
  · and_intros
    exact hK _ rfl
  rintro S rfl
  refine zSeq_cut (fun S => S = [.sh (rnD r), .sh (.str (kS up)), .sh (.int (l : Int)), .sh (.lst [.int (widK up r.lf r.ls : Int), .int (widK up r.inn r.ins : Int)]), .un, .un, .un]) (fun K hK => ?_) ?_
  · and_intros
    cases up
    · rw [show kS false = ("down" : Str) from rfl, seq_eq, decide_eq_true rfl]
      refine andT ?_
      and_intros
      have h0 := (hr.parts 0).2.2.2.1
      have h1 := (hr.parts 1).2.2.2.1
      rw [show r.stays 0 = r.ls from rfl, show r.most 0 = r.lf from rfl] at h0
      rw [show r.stays 1 = r.ins from rfl, show r.most 1 = r.inn from rfl] at h1
      have e1 : ((widK false r.lf r.ls : Nat) : Int) = (r.lf : Int) + 1 - (r.ls : Int) := by show ((r.lf + 1 - r.ls : Nat) : Int) = _; omega
      have e2 : ((widK false r.inn r.ins : Nat) : Int) = (r.inn : Int) + 1 - (r.ins : Int) := by show ((r.inn + 1 - r.ins : Nat) : Int) = _; omega
      exact hK _ (by rw [e1, e2]; rfl)
    · rw [show kS true = ("up" : Str) from rfl, seq_eq, show decide (("up" : Str) = "down") = false by decide +kernel]
      refine andF ?_
      exact hK _ rfl
  rintro S rfl
  and_intros
  refine ⟨by omega, by omega, ?_⟩
  refine forz_ind (fun i S => ∃ x, S = [.sh (rnD r), .sh (.str (kS up)), .sh (.int (l : Int)), .sh (.lst [.int (widK up r.lf r.ls : Int), .int (widK up r.inn r.ins : Int)]), .sh (.int ((fsp r up i).1 : Int)), .sh (.int ((fsp r up i).2 : Int)), x]) ⟨_, rfl⟩ ?_ ?_
  · rintro i d S hd ⟨x, rfl⟩ K hK
    obtain ⟨hi, rfl⟩ := rangeD_get hd
    have hi : i < l := by omega
    obtain ⟨b1, b2, b3, b4, b5⟩ := hb i
    have hp : 2 ^ (101 * (i + 1)) ≤ 2 ^ (101 * 401) := Nat.pow_le_pow_right (by omega) (by omega)
    and_intros
    rw [show (r.inn : Int) - 1 = ((r.inn - 1 : Nat) : Int) by omega]
    refine ⟨mulB (i := 101 * 401) (j := 100) (by omega) (by omega) (by decide), ?_⟩
    and_intros
    refine ⟨mulB (i := 101 * 401) (j := 100) (by omega) (by omega) (by decide), ?_⟩
    refine hK _ ⟨.sh (.int (0 + (i : Int))), ?_⟩
    have e1 : ((fsp r up (i + 1)).1 : Int) = ((fsp r up i).1 : Int) + ((fsp r up i).2 : Int) * ((r.inn - 1 : Nat) : Int) := by
      show (((fsp r up i).1 + (r.inn - 1) * (fsp r up i).2 : Nat) : Int) = _
      rw [Int.natCast_add, Int.natCast_mul, Int.mul_comm]
    have e2 : ((fsp r up (i + 1)).2 : Int) = ((fsp r up i).2 : Int) * (widK up r.inn r.ins : Int) := by
      show ((widK up r.inn r.ins * (fsp r up i).2 : Nat) : Int) = _
      rw [Int.natCast_mul, Int.mul_comm]
    rw [e1, e2]
    rfl
  · rintro S ⟨x, rfl⟩
    rw [rangeD_length]
    and_intros
    exact q
theorem ok_law_firsts {Pg : Program} {w : World} {K : PySem.W.Frag} {mg : Str → Option Value} {base : Heap} {f : Addr} {fd : FuncData} (Fu : Fun K "_law_firsts" "_law_firsts" s_law_firsts f fd) (G : Facts mg) (O : Objs K mg) : FnP Pg w K mg base 1 f fd ["rule", "kind", "level"] (spZ K mg sp_law_firsts) :=
  okZ (N := N_law_firsts) (t := fun _ => t_law_firsts) Fu sc_law_firsts ln_law_firsts (fun cdv A outer s H E Z0 nb C => dv_law_firsts G O cdv A outer s H E Z0 nb C) rd_law_firsts
/-! #### law_due -/
def sp_law_due : ZSp := fun ds Q _ => ∃ (r : RN) (up : Bool) (n l : Nat), ds = [rnD r, .str (kS up), .int (n : Int), .int (l : Int)] ∧ r.ok ∧ l ≤ 400 ∧ n ≤ 10 ^ 30 ∧ Q (.sh (.int (lpg r up n l : Int)))
def t_law_due : ZS := zSeq (zIfS (zAndT (zCmpT fGt (zVar 3) (zC (.int 0))) (zCmpT fLt (zVar 2) (zIx (zShV (zCall sp_law_firsts eF (zCons (zVar 0) (zCons (zVar 1) (zCons (zSub (zVar 3) (zC (.int 1))) (zNil)))))) (zC (.int 0))))) (zRet (zC (.int 0))) (zNext)) (
  zSeq (zAsg (zCall sp_law_firsts eF (zCons (zVar 0) (zCons (zVar 1) (zCons (zVar 3) (zNil))))) (gzTup 2 (gzCons (gzName 4) (gzCons (gzName 5) (gzNil))))) (
  zRet (zIf (zCmpT fLt (zVar 2) (zVar 4)) (zC (.int 1)) (zAdd (zC (.int 2)) (zDiv (zSub (zVar 2) (zVar 4)) (zVar 5))))))
theorem dv_law_due {Pg : Program} {w : World} {K : PySem.W.Frag} {mg : Str → Option Value} {base : Heap} {f : Addr} (G : Facts mg) (O : Objs K mg) (D__law_firsts : Df Pg w K mg base 1 "_law_firsts" (spZ K mg sp_law_firsts)) (cdv : Value) (A : Around) (outer : List Env) (s : Shared) (H : Hp) (E : XK) (Z0 : Zc) (nb : NoBag (Sup Z0)) (C : Cd 1 (cxOf (L2.CX Pg w) Pg w K mg base N_law_due "_law_due" (defScope s_law_due) f cdv A outer s H E) (Sup Z0)) :
    PSsd (cxOf (L2.CX Pg w) Pg w K mg base N_law_due "_law_due" (defScope s_law_due) f cdv A outer s H E) (Sup Z0) (defBody s_law_due) t_law_due :=
  (ssd_cons (sd_if (wd_and (pt_cmp op_gt cz_gt (pd_var 3 (nb.s 3)) pd_int) (wd_and1 (pt_cmp op_lt cz_lt (pd_var 2 (nb.s 2)) (pd_ix (dd_call D__law_firsts C (by rfl) eF ez0 (ad_cons (pd_var 0 (nb.s 0)) (ad_cons (pd_var 1 (nb.s 1)) (ad_cons (pd_sub (pd_var 3 (nb.s 3)) pd_int) ad_nil)))).pv pd_int)))).pt (ssd_one (sd_ret pd_int)) ssd_nil)
    (ssd_cons (sd_asg (dd_call D__law_firsts C (by rfl) eF ez0 (ad_cons (pd_var 0 (nb.s 0)) (ad_cons (pd_var 1 (nb.s 1)) (ad_cons (pd_var 3 (nb.s 3)) ad_nil)))) (gd_tup C.calm (gsd_cons (gd_name (i := 4) (nb.s 4) C.nd) (gsd_cons (gd_name (i := 5) (nb.s 5) C.nd) gsd_nil))))
    (ssd_one (sd_ret (pd_if (pt_cmp op_lt cz_lt (pd_var 2 (nb.s 2)) (pd_var 4 (nb.s 4))) pd_int (pd_add pd_int (pd_div (pd_sub (pd_var 2 (nb.s 2)) (pd_var 4 (nb.s 4))) (pd_var 5 (nb.s 5)))))))))
--% reads
theorem ln_law_due : ∀ ds Qz Ez, sp_law_due ds Qz Ez → ds.length = 4 := by
  rintro ds Q E ⟨_, _, _, _, rfl, _⟩
  rfl
theorem rd_law_due : ∀ ds Qz (Ez : Str → Option (Str × D) → Prop), sp_law_due ds Qz Ez → t_law_due { nx := fun _ => Qz (.sh .non), rt := fun r _ => Qz r } (startS N_law_due ds) := by
  rintro ds Q E ⟨r, up, n, l, rfl, hr, hl, hn, q⟩
  have hb := fsp_bd hr up
  have k2 : 10 ^ 30 < 2 ^ 200 := by decide
  unfold lpg at q
  refine zSeq_cut (fun S => S = [.sh (rnD r), .sh (.str (kS up)), .sh (.int (n : Int)), .sh (.int (l : Int)), .un, .un] ∧ ¬ (0 < l ∧ n < (fsp r up (l - 1)).1)) (fun K hK => ?_) ?_
  · and_intros
    refine ⟨fun v => ?_, fun v => ?_⟩
    · have v := asc v
      and_intros
      refine ⟨r, up, l - 1, by rw [show (l : Int) - 1 = ((l - 1 : Nat) : Int) by omega], hr, by omega, ?_⟩
      and_intros
      refine ⟨fun w => ?_, fun w => ?_⟩
      · have w := asc w
        rw [if_pos ⟨by omega, by omega⟩] at q
        exact q
      · have w := nac w
        exact hK _ ⟨rfl, by omega⟩
    · have v := nac v
      exact andF (hK _ ⟨rfl, by omega⟩)
  rintro S ⟨rfl, hc⟩
  rw [if_neg hc] at q
  and_intros
  unfold cw at q
  obtain ⟨b1, b2, b3, b4, b5⟩ := hb l
  refine ⟨hr, hl, rfl, fun w => ?_, fun w => ?_⟩
  · have w := asc w
    rw [if_pos (by omega)] at q
    exact q
  · have w := nac w
    rw [if_neg (by omega)] at q
    and_intros
    refine ⟨divW (by omega) (by omega), ?_⟩
    and_intros
    rw [show (2 : Int) + ((n : Int) - ((fsp r up l).1 : Int)) / ((fsp r up l).2 : Int) = ((1 + ((n - (fsp r up l).1) / (fsp r up l).2 + 1) : Nat) : Int) by
      rw [show (n : Int) - ((fsp r up l).1 : Int) = ((n - (fsp r up l).1 : Nat) : Int) by omega]
      rw [← Int.natCast_ediv]
      omega]
    exact q
theorem ok_law_due {Pg : Program} {w : World} {K : PySem.W.Frag} {mg : Str → Option Value} {base : Heap} {f : Addr} {fd : FuncData} (Fu : Fun K "_law_due" "_law_due" s_law_due f fd) (G : Facts mg) (O : Objs K mg) (D__law_firsts : Df Pg w K mg base 1 "_law_firsts" (spZ K mg sp_law_firsts)) : FnP Pg w K mg base 2 f fd ["rule", "kind", "number", "level"] (spZ K mg sp_law_due) :=
  okZ (N := N_law_due) (t := fun _ => t_law_due) Fu sc_law_due ln_law_due (fun cdv A outer s H E Z0 nb C => dv_law_due G O D__law_firsts cdv A outer s H E Z0 nb C) rd_law_due
/-! #### law_right -/
def sp_law_right : ZSb := fun bs ds Q => ∃ (m : Nat) (r : RN) (up : Bool), BagOk (m + 5) bs ∧ ds = [rnD r, .str (kS up)] ∧ r.ok ∧ ∀ bs', BagOk m bs' → Q (.bl true) bs'
def t_law_right : ZS := zSeq (zSet (zCall sp_Rule_init eF (zCons (zIx (zVarV 1) (zC (.int 0))) (zCons (zIx (zVarV 1) (zC (.int 1))) (zCons (zIx (zVarV 1) (zC (.int 2))) (zCons (zIx (zVarV 1) (zC (.int 3))) (zNil)))))) 3) (
  zSeq (zAsg (zCall sp_law_firsts eF (zCons (zVar 1) (zCons (zVar 2) (zCons (zCallB 0 sp_law_pick (zCons (zC (.int 9)) (zNil))) (zNil))))) (gzTup 2 (gzCons (gzName 4) (gzCons (gzName 5) (gzNil))))) (
  zSeq (zSet (zFD (zLst (zCons (zAdd (zC (.int 1)) (zCallB 0 sp_law_pick (zCons (zC (.int 1000000000000000000000000000000)) (zNil)))) (zCons (zVar 4) (zCons (zSub (zVar 4) (zC (.int 1))) (zCons (zAdd (zVar 4) (zMul (zVar 5) (zCallB 0 sp_law_pick (zCons (zC (.int 99)) (zNil))))) (zCons (zSub (zAdd (zVar 4) (zVar 5)) (zC (.int 1))) (zNil)))))))) 6) (
  zSeq (zSet (zBlt fMin2 (zCons (zC (.int 1000000000000000000000000000000)) (zCons (zIx (zVarV 6) (zCallB 0 sp_law_pick (zCons (zC (.int 5)) (zNil)))) (zNil)))) 7) (
  zSeq (zSet (zCall sp_loaded eF (zCons (zVar 3) (zCons (zVar 2) (zCons (zVar 7) (zNil))))) 8) (
  zSeq (zIfS (zOrT (zCmpT fNe (zCall sp_load_height eF (zCons (zVar 3) (zCons (zVar 2) (zCons (zVar 7) (zNil))))) (zProp "PageIndex" sp_PageIndex_height (zVarV 8))) (zCmpT fNe (zProp "PageIndex" sp_PageIndex_entries (zVarV 8)) (zVar 7))) (zRet (zC (.bl false))) (zNext)) (
  zSeq (zFor (zItS (zFD (zSortSet (zFD (zLst (zCons (zC (.int 0)) (zCons (zC (.int 1)) (zCons (zSub (zProp "PageIndex" sp_PageIndex_height (zVarV 8)) (zC (.int 1))) (zCons (zProp "PageIndex" sp_PageIndex_height (zVarV 8)) (zCons (zCallB 0 sp_law_pick (zCons (zAdd (zProp "PageIndex" sp_PageIndex_height (zVarV 8)) (zC (.int 1))) (zNil))) (zCons (zC (.int 200)) (zNil)))))))))))) (gzName 9) (zSeq (zSet (zCall sp_law_due eF (zCons (zVar 1) (zCons (zVar 2) (zCons (zVar 7) (zCons (zVar 9) (zNil)))))) 10) (
  zSeq (zIfS (zCmpT fNe (zReprZ (zShV (zCall sp_load_pages eF (zCons (zVar 3) (zCons (zVar 2) (zCons (zVar 7) (zCons (zVar 9) (zNil)))))))) (zReprZ (zVarV 10))) (zRet (zC (.bl false))) (zNext)) (
  zIfS (zOrT (zAndT (zCmpT fLt (zVar 9) (zProp "PageIndex" sp_PageIndex_height (zVarV 8))) (zCmpT fNe (zMeth "PageIndex" "pages" sp_PageIndex_pages eF (zVarV 8) (zCons (zVar 9) (zNil))) (zVar 10))) (zAndT (zCmpT fGe (zVar 9) (zProp "PageIndex" sp_PageIndex_height (zVarV 8))) (zCmpT fNe (zVar 10) (zC (.int 0))))) (zRet (zC (.bl false))) (zNext))))) (
  zRet (zC (.bl true)))))))))
theorem dv_law_right {Pg : Program} {w : World} {K : PySem.W.Frag} {mg : Str → Option Value} {base : Heap} {f : Addr} (G : Facts mg) (O : Objs K mg) (D_Rule___init__ : Kl Pg w K mg base 4 "Rule" sp_Rule_init) (D_PageIndex_entries : Kp Pg w K mg base 2 "PageIndex" "entries" sp_PageIndex_entries) (D_PageIndex_height : Kp Pg w K mg base 1 "PageIndex" "height" sp_PageIndex_height) (D_PageIndex_pages : Km Pg w K mg base 4 "PageIndex" "pages" sp_PageIndex_pages) (D_loaded : Df Pg w K mg base 10 "loaded" (spZ K mg sp_loaded)) (D_load_pages : Df Pg w K mg base 4 "load_pages" (spZ K mg sp_load_pages)) (D_load_height : Df Pg w K mg base 4 "load_height" (spZ K mg sp_load_height)) (D__law_pick : Df Pg w K mg base 1 "_law_pick" (spB K mg sp_law_pick)) (D__law_firsts : Df Pg w K mg base 1 "_law_firsts" (spZ K mg sp_law_firsts)) (D__law_due : Df Pg w K mg base 2 "_law_due" (spZ K mg sp_law_due)) (cdv : Value) (A : Around) (outer : List Env) (s : Shared) (H : Hp) (E : XK) (Z0 : Zc) (C : Cd 10 (cxOf (L2.CX Pg w) Pg w K mg base N_law_right "_law_right" (defScope s_law_right) f cdv A outer s H E) (Sup Z0)) :
    PSsd (cxOf (L2.CX Pg w) Pg w K mg base N_law_right "_law_right" (defScope s_law_right) f cdv A outer s H E) (Sup Z0) (defBody s_law_right) t_law_right :=
  (ssd_cons (sd_set (i := 3) bagS C.nd (dd_make D_Rule___init__ C (by rfl) eF ez0 (ad_cons (pd_ix (pv_var 1) pd_int) (ad_cons (pd_ix (pv_var 1) pd_int) (ad_cons (pd_ix (pv_var 1) pd_int) (ad_cons (pd_ix (pv_var 1) pd_int) ad_nil))))))
    (ssd_cons (sd_asg (dd_call D__law_firsts C (by rfl) eF ez0 (ad_cons (pd_var 1 bagS) (ad_cons (pd_var 2 bagS) (ad_cons (dd_callB (i := 0) D__law_pick C (by rfl) (ad_cons pd_int ad_nil)) ad_nil)))) (gd_tup C.calm (gsd_cons (gd_name (i := 4) bagS C.nd) (gsd_cons (gd_name (i := 5) bagS C.nd) gsd_nil))))
    (ssd_cons (sd_set (i := 6) bagS C.nd (pf_lst (ad_cons (pd_add pd_int (dd_callB (i := 0) D__law_pick C (by rfl) (ad_cons (pd_powc (v := 1000000000000000000000000000000)) ad_nil))) (ad_cons (pd_var 4 bagS) (ad_cons (pd_sub (pd_var 4 bagS) pd_int) (ad_cons (pd_add (pd_var 4 bagS) (pd_mul (pd_var 5 bagS) (dd_callB (i := 0) D__law_pick C (by rfl) (ad_cons pd_int ad_nil)))) (ad_cons (pd_sub (pd_add (pd_var 4 bagS) (pd_var 5 bagS)) pd_int) ad_nil)))))).pd)
    (ssd_cons (sd_set (i := 7) bagS C.nd (pd_blt bz_min2 (call_min2 C.calm) (by rfl) G.b_min rfl (ad_cons (pd_powc (v := 1000000000000000000000000000000)) (ad_cons (pd_ix (pv_var 6) (dd_callB (i := 0) D__law_pick C (by rfl) (ad_cons pd_int ad_nil))) ad_nil))))
    (ssd_cons (sd_set (i := 8) bagS C.nd (dd_call D_loaded C (by rfl) eF ez0 (ad_cons (pd_var 3 bagS) (ad_cons (pd_var 2 bagS) (ad_cons (pd_var 7 bagS) ad_nil)))))
    (ssd_cons (sd_if (wd_or (pt_cmp (op_neA C.hu) cz_ne (dd_call D_load_height C (by rfl) eF ez0 (ad_cons (pd_var 3 bagS) (ad_cons (pd_var 2 bagS) (ad_cons (pd_var 7 bagS) ad_nil)))) (pd_prop D_PageIndex_height C (pv_var 8))) (wd_or1 (pt_cmp (op_neA C.hu) cz_ne (pd_prop D_PageIndex_entries C (pv_var 8)) (pd_var 7 bagS)))).pt (ssd_one (sd_ret pd_bl)) ssd_nil)
    (ssd_cons (sd_for C.po C.calm (id_seq (pf_sortSet C (by rfl) G.b_sorted (by rfl) G.b_set (pf_lst (ad_cons pd_int (ad_cons pd_int (ad_cons (pd_sub (pd_prop D_PageIndex_height C (pv_var 8)) pd_int) (ad_cons (pd_prop D_PageIndex_height C (pv_var 8)) (ad_cons (dd_callB (i := 0) D__law_pick C (by rfl) (ad_cons (pd_add (pd_prop D_PageIndex_height C (pv_var 8)) pd_int) ad_nil)) (ad_cons pd_int ad_nil))))))).pd).pd) (gd_name (i := 9) bagS C.nd) (ssd_cons (sd_set (i := 10) bagS C.nd (dd_call D__law_due C (by rfl) eF ez0 (ad_cons (pd_var 1 bagS) (ad_cons (pd_var 2 bagS) (ad_cons (pd_var 7 bagS) (ad_cons (pd_var 9 bagS) ad_nil))))))
    (ssd_cons (sd_if (pt_cmp (op_neA C.hu) cz_ne (pd_reprZ C (by rfl) G.b_repr (dd_call D_load_pages C (by rfl) eF ez0 (ad_cons (pd_var 3 bagS) (ad_cons (pd_var 2 bagS) (ad_cons (pd_var 7 bagS) (ad_cons (pd_var 9 bagS) ad_nil))))).pv) (pd_reprZ C (by rfl) G.b_repr (pv_var 10))) (ssd_one (sd_ret pd_bl)) ssd_nil)
    (ssd_one (sd_if (wd_or (wd_and (pt_cmp op_lt cz_lt (pd_var 9 bagS) (pd_prop D_PageIndex_height C (pv_var 8))) (wd_and1 (pt_cmp (op_neA C.hu) cz_ne (pd_meth D_PageIndex_pages C eF ez0 (pv_var 8) (ad_cons (pd_var 9 bagS) ad_nil)) (pd_var 10 bagS)))).pt (wd_or1 (wd_and (pt_cmp op_ge cz_ge (pd_var 9 bagS) (pd_prop D_PageIndex_height C (pv_var 8))) (wd_and1 (pt_cmp (op_neA C.hu) cz_ne (pd_var 10 bagS) pd_int))).pt)).pt (ssd_one (sd_ret pd_bl)) ssd_nil)))))
    (ssd_one (sd_ret pd_bl)))))))))
--% reads
theorem ln_law_right : ∀ bs ds Qz, sp_law_right bs ds Qz → ds.length + 1 = 3 := by
  rintro bs ds Q ⟨_, _, _, _, rfl, _⟩
  rfl
theorem rd_law_right : ∀ bs ds Qz, sp_law_right bs ds Qz → t_law_right (eB Qz) (.ow bs :: startS N_law_right.tail ds) := by
  rintro bs ds Q ⟨m, r, up, hb, rfl, hr, q⟩
  have fb := fsp_bd hr up
  have k2 : 10 ^ 30 < 2 ^ 199 := by decide
  refine zSeq_cut (fun S => S = [.ow bs, .sh (rnD r), .sh (.str (kS up)), .sh r.d, .un, .un, .un, .un, .un, .un, .un]) (fun K hK => ?_) ?_
  · and_intros
    refine ⟨_, _, _, _, rfl, ⟨_, rfl⟩, ⟨_, rfl⟩, ⟨_, rfl⟩, ⟨_, rfl⟩, fun m a f p e1 e2 e3 e4 _ => ?_, fun k hk => ?_⟩
    · cases e1
      cases e2
      cases e3
      cases e4
      exact hK _ rfl
    · rw [RuleOk.right hr.rule] at hk
      cases hk
  rintro S rfl
  refine cut3 (fun S => ∃ bs n x4 x5 x6, BagOk (m + 1) bs ∧ 1 ≤ n ∧ n ≤ 10 ^ 30 ∧ S = [.ow bs, .sh (rnD r), .sh (.str (kS up)), .sh r.d, x4, x5, x6, .sh (.int ((n : Nat) : Int)), .un, .un, .un]) (fun K hK => ?_) ?_
  · and_intros
    refine ⟨m + 4, 9, hb, rfl, by decide, by decide, fun l bs l1 l2 hb => ?_⟩
    obtain ⟨l, rfl⟩ : ∃ w : Nat, l = w := ⟨l.toNat, by omega⟩
    and_intros
    refine ⟨hr, by omega, rfl, ?_⟩
    obtain ⟨b1, b2, b3, b4, b5⟩ := fb l
    have hp : 2 ^ (101 * (l + 1)) ≤ 2 ^ (101 * 10) := Nat.pow_le_pow_right (by omega) (by omega)
    and_intros
    refine ⟨m + 3, 10 ^ 30, hb, rfl, by decide, by decide, fun u bs u1 u2 hb => ?_⟩
    and_intros
    refine ⟨m + 2, 99, hb, rfl, by decide, by decide, fun v bs v1 v2 hb => ?_⟩
    obtain ⟨v, rfl⟩ : ∃ w : Nat, v = w := ⟨v.toNat, by omega⟩
    and_intros
    refine ⟨mulB (i := 101 * 10) (j := 10) (by omega) (by omega) (by decide), ?_⟩
    and_intros
    refine ⟨m + 1, 5, hb, rfl, by decide, by decide, fun z bs z1 z2 hb => ?_⟩
    and_intros
    obtain ⟨x, hx, hx1⟩ : ∃ x : Int, atI [D.int (1 + u), D.int ((fsp r up l).1 : Int), D.int (((fsp r up l).1 : Int) - 1), D.int (((fsp r up l).1 : Int) + ((fsp r up l).2 : Int) * (v : Int)), D.int (((fsp r up l).1 : Int) + ((fsp r up l).2 : Int) - 1)] z = some (.int x) ∧ 1 ≤ x := by
      have hm : 0 ≤ ((fsp r up l).2 : Int) * (v : Int) := Int.mul_nonneg (by omega) (by omega)
      rcases (show z = 0 ∨ z = 1 ∨ z = 2 ∨ z = 3 ∨ z = 4 by omega) with rfl | rfl | rfl | rfl | rfl
      · exact ⟨_, rfl, by omega⟩
      · exact ⟨_, rfl, by omega⟩
      · exact ⟨_, rfl, by omega⟩
      · exact ⟨_, rfl, by omega⟩
      · exact ⟨_, rfl, by omega⟩
    refine ⟨_, hx, ?_⟩
    and_intros
    rw [show (if x < 1000000000000000000000000000000 then x else 1000000000000000000000000000000) = (((if x < 1000000000000000000000000000000 then x else 1000000000000000000000000000000 : Int).toNat : Nat) : Int) by split <;> omega]
    exact hK _ ⟨bs, _, _, _, _, hb, by split <;> omega, by split <;> omega, rfl⟩
  rintro S ⟨bs, n, x4, x5, x6, hb, n1, n2, rfl⟩
  and_intros
  refine ck_okR hr (ck_okK (ck_okW (by omega) (by omega) fun N hN1 hN2 => ?_))
  have mm := ldA_more hr up n
  have hN0 : N ≠ 0 := fun z => hN2 ((mm N).mpr (.inl z))
  have hF : ∀ j, j + 1 < N → (fsp r up j).1 ≤ n := fun j hj => ((mm (j + 1)).mp (hN1 _ hj)).resolve_left (by omega)
  have hG : n < (fsp r up (N - 1)).1 := Nat.lt_of_not_le fun z => hN2 ((mm N).mpr (.inr z))
  have hN101 : N ≤ 101 := by
    rcases Nat.lt_or_ge 101 N with c | c
    · have := hF 100 (by omega)
      have := fsp_pow hr up 100
      have := (fb 100).2.2.2.2
      have : 10 ^ 30 < 2 ^ (100 + 1) := by decide
      omega
    · exact c
  have hok := ldA_ok hr up (n := n) (by omega) (by omega)
  have br := hok.behind_rle N
  have bl := (ldA r up n).behind_len N
  have bg : ∀ l, l < N → ∃ xs, ((ldA r up n).behind N)[l]? = some xs ∧ xs.length = lpg r up n l := fun l hl => by
    refine ⟨_, (ldA r up n).behind_get hl, ?_⟩
    have xl : (xsL (ldA r up n).L l).length = 1 := by cases l <;> rfl
    rw [hok.len l, ldA_tot hr, xl]
    unfold lpg
    rw [if_neg]
    · rfl
    · rintro ⟨h1, h2⟩
      have := hF (l - 1) (by omega)
      omega
  have bz : ∀ l, N ≤ l → lpg r up n l = 0 := fun l hl => by
    unfold lpg
    rw [if_pos]
    refine ⟨by omega, ?_⟩
    have := fsp_le hr up (show N - 1 ≤ l - 1 by omega)
    omega
  obtain ⟨xs0, L', hL, hs0⟩ : ∃ xs0 L', (ldA r up n).behind N = xs0 :: L' ∧ xs0.sum = n := by
    have e := (ldA r up n).behind_get (show 0 < N by omega)
    generalize hh : (ldA r up n).behind N = LL at *
    cases LL with
    | nil => cases e
    | cons x y =>
      refine ⟨x, y, rfl, ?_⟩
      cases e
      rw [hok.sum 0]
      show 0 + tot [_] = n
      rw [tot_cons, tot_nil]
      simp
      rfl
  rw [hL] at br bl bg
  and_intros
  refine ck_okR hr (ck_okK (ck_okW (by omega) (by omega) fun t t1 t2 => ?_))
  have ht : t + 1 = N := by
    rcases Nat.lt_trichotomy (t + 1) N with c | c | c
    · have := hF t (by omega)
      omega
    · exact c
    · have := t1 (N - 1) (by omega)
      omega
  rw [ht]
  rw [hL]
  have hlen : (((xs0 :: L').length : Nat) : Int) = (N : Int) := by rw [bl]
  and_intros
  rw [hlen, decide_eq_true (rfl : ((N : Nat) : Int) = N)]
  refine ⟨fun v => absurd v (by decide), fun _ => ?_⟩
  and_intros
  refine ⟨(br xs0 List.mem_cons_self).1, (br xs0 List.mem_cons_self).2, ?_⟩
  rw [hs0]
  and_intros
  rw [decide_eq_true (rfl : ((n : Nat) : Int) = n)]
  refine ⟨fun v => absurd v (by decide), fun _ => ?_⟩
  and_intros
  refine ⟨m, ((xs0 :: L').length : Int) + 1, hb, rfl, by omega, by omega, fun u bs u1 u2 hb => ?_⟩
  rw [hlen] at u2
  and_intros
  have hlen2 : L'.length + 1 = N := bl
  refine fun ms _ hms => ?_
  have hms : ∀ k ∈ ms, 0 ≤ k ∧ k ≤ 200 := fun k hk => by
    have := (hms k).mp hk
    simp only [List.mem_cons, List.not_mem_nil, or_false] at this
    omega
  clear hN1 hN2 mm hF t1 t2
  refine forz_ind (fun _ S => ∃ x9 x10, S = [.ow bs, .sh (rnD r), .sh (.str (kS up)), .sh r.d, x4, x5, x6, .sh (.int (n : Int)), .sh (idx r (xs0 :: L')), x9, x10]) ⟨_, _, rfl⟩ ?_ ?_
  · rintro i d S hd ⟨x9, x10, rfl⟩ K hK
    obtain ⟨k, hk, rfl⟩ := mapD hd
    obtain ⟨k1, k3⟩ := hms k (List.mem_of_getElem? hk)
    obtain ⟨l, rfl⟩ : ∃ l : Nat, k = l := ⟨k.toNat, by omega⟩
    clear hd hk
    have hll : lpg r up n l ≤ n + 2 := by
      unfold lpg
      split
      · omega
      · have : cw n (fsp r up l).1 (fsp r up l).2 ≤ n + 1 := by
          unfold cw
          split
          · omega
          · have := Nat.div_le_self (n - (fsp r up l).1) (fsp r up l).2
            omega
        omega
    and_intros
    refine ⟨r, up, n, l, rfl, hr, by omega, n2, ?_⟩
    and_intros
    refine ⟨_, _, _, _, rfl, ck_okR hr (ck_okK (ck_okW (by omega) (by omega) (ck_okW (by omega) (by omega) ?_)))⟩
    obtain ⟨p, p1, p2, p3, p4⟩ := repr_gdR (d := .int (lpg r up n l : Int)) (by simp only [D.gdR, decide_eq_true_eq]; omega) (Nat.le_of_ble_eq_true rfl) (Nat.le_of_ble_eq_true rfl)
    cases p1
    and_intros
    refine ⟨p2, p3, p4, ?_⟩
    and_intros
    refine ⟨p2, p3, p4, ?_⟩
    and_intros
    rw [seq_eq, decide_eq_true rfl]
    refine ⟨fun v => absurd v (by decide), fun _ => ?_⟩
    and_intros
    rw [hlen]
    have key : ∀ x9 x10 : Sl, zIfS (zAndT (zCmpT fGe (zVar 9) (zProp (Str.ofString "PageIndex") sp_PageIndex_height (zVarV 8))) (zCmpT fNe (zVar 10) (zC (.int 0)))) (zRet (zC (.bl false))) zNext { nx := K, rt := (eB Q).rt, bk := (eB Q).bk, ct := K } [.ow bs, .sh (rnD r), .sh (.str (kS up)), .sh r.d, x4, x5, x6, .sh (.int (n : Int)), .sh (idx r (xs0 :: L')), .sh (.int (l : Int)), .sh (.int (lpg r up n l : Int))] := fun _ _ => by
      and_intros
      rw [hlen]
      refine ⟨fun v => ?_, fun v => ?_⟩
      · have v := asc v
        rw [bz l (by omega)]
        and_intros
        exact hK _ ⟨_, _, rfl⟩
      · and_intros
        exact hK _ ⟨_, _, rfl⟩
    refine ⟨fun v => ?_, fun v => ?_⟩
    · have v := asc v
      obtain ⟨xs, e1, e2⟩ := bg l (by omega)
      and_intros
      refine ⟨fun xs hx => (br xs hx).1, ck_okW (by omega) (by rw [hlen]; omega) fun ys hy => ?_⟩
      rw [e1] at hy
      rw [← Option.some.inj hy, e2]
      and_intros
      rw [decide_eq_true (rfl : ((lpg r up n l : Nat) : Int) = lpg r up n l)]
      refine ⟨fun v => absurd v (by decide), fun _ => ?_⟩
      exact key x9 x10
    · exact andF (key x9 x10)
  · rintro S ⟨x9, x10, rfl⟩
    and_intros
    exact q _ hb
theorem ok_law_right {Pg : Program} {w : World} {K : PySem.W.Frag} {mg : Str → Option Value} {base : Heap} {f : Addr} {fd : FuncData} (Fu : Fun K "_law_right" "_law_right" s_law_right f fd) (G : Facts mg) (O : Objs K mg) (D_Rule___init__ : Kl Pg w K mg base 4 "Rule" sp_Rule_init) (D_PageIndex_entries : Kp Pg w K mg base 2 "PageIndex" "entries" sp_PageIndex_entries) (D_PageIndex_height : Kp Pg w K mg base 1 "PageIndex" "height" sp_PageIndex_height) (D_PageIndex_pages : Km Pg w K mg base 4 "PageIndex" "pages" sp_PageIndex_pages) (D_loaded : Df Pg w K mg base 10 "loaded" (spZ K mg sp_loaded)) (D_load_pages : Df Pg w K mg base 4 "load_pages" (spZ K mg sp_load_pages)) (D_load_height : Df Pg w K mg base 4 "load_height" (spZ K mg sp_load_height)) (D__law_pick : Df Pg w K mg base 1 "_law_pick" (spB K mg sp_law_pick)) (D__law_firsts : Df Pg w K mg base 1 "_law_firsts" (spZ K mg sp_law_firsts)) (D__law_due : Df Pg w K mg base 2 "_law_due" (spZ K mg sp_law_due)) : FnP Pg w K mg base 11 f fd ["bag", "rule", "kind"] (spB K mg sp_law_right) :=
  okB (N := N_law_right) (t := t_law_right) Fu sc_law_right ln_law_right (fun cdv A outer s H E Z0 C => dv_law_right G O D_Rule___init__ D_PageIndex_entries D_PageIndex_height D_PageIndex_pages D_loaded D_load_pages D_load_height D__law_pick D__law_firsts D__law_due cdv A outer s H E Z0 C) rd_law_right
/-! #### law -/
def sp_law : ZSp := fun ds Q _ => ∃ ns : List Int, ds = [.fls (ns.map D.int)] ∧ ns.length ≤ 63 ∧ Q (.sh (.bl true))
def t_law : ZS := zSeq (zFor (zItS (zFD (zCat (zSliceA (zVarV 0) zNoPart (zPart (zC (.int 6)))) (zFD (zLst (zCons (zC (.int 0)) (zNil))))))) (gzName 1) (zSeq (zSetF (zCallF sp_law_bag eF (zCons (zVar 1) (zNil))) 2) (
  zFor (zItS (zTup (zCons (zC (.str "up")) (zCons (zC (.str "down")) (zNil))))) (gzName 3) (zIfS (zNotT (zB (zCallB 2 sp_law_right (zCons (zCallB 2 sp_law_any_rule (zNil)) (zCons (zVar 3) (zNil)))))) (zRet (zC (.bl false))) (zNext))))) (
  zSeq (zSet (zCall sp_Rule_init eF (zCons (zC (.int 3)) (zCons (zC (.int 2)) (zCons (zC (.int 3)) (zCons (zC (.int 2)) (zNil)))))) 4) (
  zRet (zCmp fEq (zFD (zLst (zCons (zCall sp_load_pages eF (zCons (zVar 4) (zCons (zC (.str "up")) (zCons (zC (.int 1000000000000000000000000000000)) (zCons (zC (.int 0)) (zNil)))))) (zCons (zCall sp_load_height eF (zCons (zVar 4) (zCons (zC (.str "up")) (zCons (zC (.int 15)) (zNil))))) (zNil))))) (zFD (zLst (zCons (zMul (zC (.int 5)) (zC (.int 100000000000000000000000000000))) (zCons (zC (.int 3)) (zNil))))))))
theorem dv_law {Pg : Program} {w : World} {K : PySem.W.Frag} {mg : Str → Option Value} {base : Heap} {f : Addr} (G : Facts mg) (O : Objs K mg) (D_Rule___init__ : Kl Pg w K mg base 4 "Rule" sp_Rule_init) (D_load_pages : Df Pg w K mg base 4 "load_pages" (spZ K mg sp_load_pages)) (D_load_height : Df Pg w K mg base 4 "load_height" (spZ K mg sp_load_height)) (D__law_bag : Df Pg w K mg base 1 "_law_bag" (spZ K mg sp_law_bag)) (D__law_any_rule : Df Pg w K mg base 3 "_law_any_rule" (spB K mg sp_law_any_rule)) (D__law_right : Df Pg w K mg base 11 "_law_right" (spB K mg sp_law_right)) (cdv : Value) (A : Around) (outer : List Env) (s : Shared) (H : Hp) (E : XK) (Z0 : Zc) (nb : NoBag (Sup Z0)) (C : Cd 11 (cxOf (L2.CX Pg w) Pg w K mg base N_law "law" (defScope s_law) f cdv A outer s H E) (Sup Z0)) :
    PSsd (cxOf (L2.CX Pg w) Pg w K mg base N_law "law" (defScope s_law) f cdv A outer s H E) (Sup Z0) (defBody s_law) t_law :=
  (ssd_cons (sd_for C.po C.calm (id_seq (pf_cat (pd_sliceA (pv_var 0) od_none (od_some pd_int)) (pf_lst (ad_cons pd_int ad_nil)).pd).pd) (gd_name (i := 1) (nb.s 1) C.nd) (ssd_cons (sd_setF (i := 2) (nb.s 2) C.nd (df_call D__law_bag C (by rfl) eF ez0 (ad_cons (pd_var 1 (nb.s 1)) ad_nil)))
    (ssd_one (sd_for C.po C.calm (id_seq (pd_tup (ad_cons pd_str (ad_cons pd_str ad_nil)))) (gd_name (i := 3) (nb.s 3) C.nd) (ssd_one (sd_if (td_not (pt_b (dd_callB (i := 2) D__law_right C (by rfl) (ad_cons (dd_callB (i := 2) D__law_any_rule C (by rfl) ad_nil) (ad_cons (pd_var 3 (nb.s 3)) ad_nil))))) (ssd_one (sd_ret pd_bl)) ssd_nil))))))
    (ssd_cons (sd_set (i := 4) (nb.s 4) C.nd (dd_make D_Rule___init__ C (by rfl) eF ez0 (ad_cons pd_int (ad_cons pd_int (ad_cons pd_int (ad_cons pd_int ad_nil))))))
    (ssd_one (sd_ret (pd_cmp (op_eqA C.hu) cz_eq (pf_lst (ad_cons (dd_call D_load_pages C (by rfl) eF ez0 (ad_cons (pd_var 4 (nb.s 4)) (ad_cons pd_str (ad_cons (pd_powc (v := 1000000000000000000000000000000)) (ad_cons pd_int ad_nil))))) (ad_cons (dd_call D_load_height C (by rfl) eF ez0 (ad_cons (pd_var 4 (nb.s 4)) (ad_cons pd_str (ad_cons pd_int ad_nil)))) ad_nil))).pd (pf_lst (ad_cons (pd_mul pd_int (pd_powc (v := 100000000000000000000000000000))) (ad_cons pd_int ad_nil))).pd)))))
--% reads
theorem ln_law : ∀ ds Qz Ez, sp_law ds Qz Ez → ds.length = 1 := by
  rintro ds Q E ⟨_, rfl, _⟩
  rfl
theorem rd_law : ∀ ds Qz (Ez : Str → Option (Str × D) → Prop), sp_law ds Qz Ez → t_law { nx := fun _ => Qz (.sh .non), rt := fun r _ => Qz r } (startS N_law ds) := by
  rintro ds Q E ⟨ns, rfl, hl, q⟩
  and_intros
  have ct : ∃ ks : List Int, Zz.cutD (ns.map D.int) none (some 6) ++ [D.int 0] = ks.map D.int ∧ (Zz.cutD (ns.map D.int) none (some 6)).length ≤ 6 := by
    rw [show (6 : Int) = ((6 : Nat) : Int) from rfl, cut_to, ← List.map_take]
    exact ⟨ns.take 6 ++ [0], by rw [List.map_append]; rfl, by rw [List.length_map, List.length_take]; omega⟩
  obtain ⟨ks, hk, hkl⟩ := ct
  refine ⟨by rw [sizeLine_eq]; simp at hkl ⊢; omega, ?_⟩
  rw [hk]
  clear hk hkl
  refine forz_ind (fun _ S => ∃ x1 x2 x3 x4, S = [.sh (.fls (ns.map D.int)), x1, x2, x3, x4]) ⟨_, _, _, _, rfl⟩ ?_ ?_
  · rintro i d S hd ⟨x1, x2, x3, x4, rfl⟩ K hK
    obtain ⟨c, _, rfl⟩ := mapD hd
    and_intros
    intro bs hb
    repeat (conv => whnf
            refine ⟨Nat.le_of_ble_eq_true rfl, ?_⟩)
    refine forz_ind (fun i S => ∃ bs x3 x4, BagOk (1000 - 100 * i) bs ∧ S = [.sh (.fls (ns.map D.int)), .sh (.int c), .ow bs, x3, x4]) ⟨bs, _, _, hb.le (by omega), rfl⟩ ?_ ?_
    · rintro i d S hd ⟨bs, x3, x4, hb, rfl⟩ K2 hK2
      obtain ⟨up, rfl, hi⟩ : ∃ up, d = .str (kS up) ∧ i < 2 := by
        match i, hd with
        | 0, hd => cases hd; exact ⟨true, rfl, by decide⟩
        | 1, hd => cases hd; exact ⟨false, rfl, by decide⟩
      and_intros
      refine ⟨985 - 100 * i, hb.le (by omega), rfl, fun m a f p bs h1 hb => ?_⟩
      obtain ⟨r, hr, rfl, rfl, rfl, rfl⟩ := h1.rn
      and_intros
      refine ⟨900 - 100 * i, r, up, hb.le (by omega), rfl, hr, fun bs hb => ?_⟩
      and_intros
      exact hK2 _ ⟨bs, _, _, hb.le (by omega), rfl⟩
    · rintro S ⟨bs, x3, x4, hb, rfl⟩
      exact hK _ ⟨_, _, _, _, rfl⟩
  · rintro S ⟨x1, x2, x3, x4, rfl⟩
    have h0 : (⟨3, 2, 3, 2⟩ : RN).ok := by unfold RN.ok; exact ⟨by decide, by decide, by decide +kernel, by decide, by decide, by decide +kernel⟩
    dsimp only
    refine zSeq_cut (fun S => S = [.sh (.fls (ns.map D.int)), x1, x2, x3, .sh (RN.d ⟨3, 2, 3, 2⟩)]) (fun K hK => ?_) ?_
    · and_intros
      refine ⟨_, _, _, _, rfl, ⟨_, rfl⟩, ⟨_, rfl⟩, ⟨_, rfl⟩, ⟨_, rfl⟩, fun m a f p e1 e2 e3 e4 _ => ?_, fun k hk => ?_⟩
      · cases e1
        cases e2
        cases e3
        cases e4
        exact hK _ rfl
      · have := RuleOk.right h0.rule
        rw [show wrongAt (.int 3) (.int 2) (.int 3) (.int 2) = none from this] at hk
        cases hk
    rintro S rfl
    and_intros
    refine ⟨_, _, _, _, rfl, ck_okR (r := ⟨3, 2, 3, 2⟩) h0 (ck_okK (up := true) (ck_okW (i := 10 ^ 30) (by decide) (by decide) (ck_okW (i := 0) (by decide) (by decide) ?_)))⟩
    rw [show lpg ⟨3, 2, 3, 2⟩ true (10 ^ 30) 0 = 5 * 10 ^ 29 by decide +kernel]
    and_intros
    refine ck_okR (r := ⟨3, 2, 3, 2⟩) h0 (ck_okK (up := true) (ck_okW (i := 15) (by decide) (by decide) fun t t1 t2 => ?_))
    have ht : t = 2 := by
      rcases Nat.lt_trichotomy t 2 with c | c | c
      · have := fsp_le h0 true (show t ≤ 1 by omega)
        have : (fsp ⟨3, 2, 3, 2⟩ true 1).1 = 8 := by decide +kernel
        omega
      · exact c
      · have := t1 2 c
        have : (fsp ⟨3, 2, 3, 2⟩ true 2).1 = 16 := by decide +kernel
        omega
    subst ht
    and_intros
    rw [show PyData.eqv (PyData.list [PyData.int ((5 * 10 ^ 29 : Nat) : Int), PyData.int ((3 : Nat) : Int)]) (PyData.list [PyData.int (5 * 100000000000000000000000000000), PyData.int 3]) = true by decide +kernel]
    exact q
theorem ok_law {Pg : Program} {w : World} {K : PySem.W.Frag} {mg : Str → Option Value} {base : Heap} {f : Addr} {fd : FuncData} (Fu : Fun K "law" "law" s_law f fd) (G : Facts mg) (O : Objs K mg) (D_Rule___init__ : Kl Pg w K mg base 4 "Rule" sp_Rule_init) (D_load_pages : Df Pg w K mg base 4 "load_pages" (spZ K mg sp_load_pages)) (D_load_height : Df Pg w K mg base 4 "load_height" (spZ K mg sp_load_height)) (D__law_bag : Df Pg w K mg base 1 "_law_bag" (spZ K mg sp_law_bag)) (D__law_any_rule : Df Pg w K mg base 3 "_law_any_rule" (spB K mg sp_law_any_rule)) (D__law_right : Df Pg w K mg base 11 "_law_right" (spB K mg sp_law_right)) : FnP Pg w K mg base 12 f fd ["script"] (spZ K mg sp_law) :=
  okZ (N := N_law) (t := fun _ => t_law) Fu sc_law ln_law (fun cdv A outer s H E Z0 nb C => dv_law G O D_Rule___init__ D_load_pages D_load_height D__law_bag D__law_any_rule D__law_right cdv A outer s H E Z0 nb C) rd_law
theorem hsp : ∀ ns : List Int, ns.length ≤ 63 → sp_law [.fls (ns.map D.int)] (fun r => r = .sh (.bl true)) fun _ _ => False := fun ns h => ⟨ns, rfl, h, rfl⟩
theorem all_mk {w : World} {K : PySem.W.Frag} {h : Heap} {mg : Str → Option Value} {fa : Addr} (X : K.In h) (N : h.Ns mainGlobals mg) (hfa : mg "law" = some (.ref fa))
    {C_Rule : Addr} (aC_Rule : PySem.W.nsIn K mainGlobals "Rule" = some (some (.ref C_Rule))) (pg_Rule : PySem.W.plainGet K C_Rule Str.empty = true) (hd_Rule : PySem.W.hasDictIn K C_Rule = true) (po_Rule : PySem.W.plainOver K C_Rule = true) (sa_Rule : PySem.W.findIn K (.ref C_Rule) "__setattr__" = some (some (.builtin "object.__setattr__")))
    (mk_Rule : PySem.W.makesIn K C_Rule = true) (kc_Rule : PySem.W.keepIn K (.ref C_Rule) = true) (ha_Rule : PySem.W.findIn K (.ref C_Rule) "__class__" = some (some (.builtin "object.__class__"))) (hm_Rule : PySem.W.mroIn K C_Rule (.type "object") = some true)
    (ty_Rule : PySem.W.typeIn K (.ref C_Rule) = some (.type "type"))
    (n_Rule_own_numbers : PySem.W.findIn K (.ref C_Rule) "own_numbers" = some none)
    (nf_Rule_NoneType : PySem.W.notFirst K C_Rule (.type "NoneType") = true)
    (nf_Rule_bool : PySem.W.notFirst K C_Rule (.type "bool") = true)
    (nf_Rule_int : PySem.W.notFirst K C_Rule (.type "int") = true)
    (nf_Rule_str : PySem.W.notFirst K C_Rule (.type "str") = true)
    (nf_Rule_list : PySem.W.notFirst K C_Rule (.type "list") = true)
    (nf_Rule_tuple : PySem.W.notFirst K C_Rule (.type "tuple") = true)
    (nf_Rule_dict : PySem.W.notFirst K C_Rule (.type "dict") = true)
    {C_PageIndex : Addr} (aC_PageIndex : PySem.W.nsIn K mainGlobals "PageIndex" = some (some (.ref C_PageIndex))) (pg_PageIndex : PySem.W.plainGet K C_PageIndex Str.empty = true) (hd_PageIndex : PySem.W.hasDictIn K C_PageIndex = true) (po_PageIndex : PySem.W.plainOver K C_PageIndex = true) (sa_PageIndex : PySem.W.findIn K (.ref C_PageIndex) "__setattr__" = some (some (.builtin "object.__setattr__")))
    (mk_PageIndex : PySem.W.makesIn K C_PageIndex = true) (kc_PageIndex : PySem.W.keepIn K (.ref C_PageIndex) = true) (ha_PageIndex : PySem.W.findIn K (.ref C_PageIndex) "__class__" = some (some (.builtin "object.__class__"))) (hm_PageIndex : PySem.W.mroIn K C_PageIndex (.type "object") = some true)
    (ty_PageIndex : PySem.W.typeIn K (.ref C_PageIndex) = some (.type "type"))
    (n_PageIndex_own_rule : PySem.W.findIn K (.ref C_PageIndex) "own_rule" = some none)
    (n_PageIndex_own_levels : PySem.W.findIn K (.ref C_PageIndex) "own_levels" = some none)
    (nf_PageIndex_NoneType : PySem.W.notFirst K C_PageIndex (.type "NoneType") = true)
    (nf_PageIndex_bool : PySem.W.notFirst K C_PageIndex (.type "bool") = true)
    (nf_PageIndex_int : PySem.W.notFirst K C_PageIndex (.type "int") = true)
    (nf_PageIndex_str : PySem.W.notFirst K C_PageIndex (.type "str") = true)
    (nf_PageIndex_list : PySem.W.notFirst K C_PageIndex (.type "list") = true)
    (nf_PageIndex_tuple : PySem.W.notFirst K C_PageIndex (.type "tuple") = true)
    (nf_PageIndex_dict : PySem.W.notFirst K C_PageIndex (.type "dict") = true)
    (ne_PageIndex_Rule : (Value.ref C_PageIndex == Value.ref C_Rule) = false) (sn_PageIndex_Rule : PySem.W.subIn K (.ref C_PageIndex) (.ref C_Rule) = some false)
    (hn0 : PySem.W.specialIn K (.builtin "object.__class__") "__get__" = some (some (.builtin "getset_descriptor.__get__"))) (htk0 : PySem.W.takesIn K (.builtin "object.__class__") = some true)
    {C_PageError : Addr} (aC_PageError : PySem.W.nsIn K mainGlobals "PageError" = some (some (.ref C_PageError))) (ga_PageError : PySem.W.findIn K (.ref C_PageError) "__getattribute__" = some (some (.builtin "BaseException.__getattribute__"))) (gg_PageError : PySem.W.findIn K (.ref C_PageError) "__getattr__" = some none) (sb_PageError : PySem.W.subIn K (.ref C_PageError) (.type "BaseException") = some true) (hd_PageError : PySem.W.hasDictIn K C_PageError = true)
    (ha_PageError : PySem.W.findIn K (.ref C_PageError) "__class__" = some (some (.builtin "object.__class__"))) (hm_PageError : PySem.W.mroIn K C_PageError (.type "object") = some true) (ty_PageError : PySem.W.typeIn K (.ref C_PageError) = some (.type "type")) {cd_PageError : ClassData} (cl_PageError : PySem.W.clsIn K C_PageError = some cd_PageError) (mr_PageError : cd_PageError.mro = [.ref C_PageError, .type "ValueError", .type "Exception", .type "BaseException", .type "object"])
    {C_InvalidRule : Addr} (aC_InvalidRule : PySem.W.nsIn K mainGlobals "InvalidRule" = some (some (.ref C_InvalidRule))) (ga_InvalidRule : PySem.W.findIn K (.ref C_InvalidRule) "__getattribute__" = some (some (.builtin "BaseException.__getattribute__"))) (gg_InvalidRule : PySem.W.findIn K (.ref C_InvalidRule) "__getattr__" = some none) (sb_InvalidRule : PySem.W.subIn K (.ref C_InvalidRule) (.type "BaseException") = some true) (hd_InvalidRule : PySem.W.hasDictIn K C_InvalidRule = true)
    (ha_InvalidRule : PySem.W.findIn K (.ref C_InvalidRule) "__class__" = some (some (.builtin "object.__class__"))) (hm_InvalidRule : PySem.W.mroIn K C_InvalidRule (.type "object") = some true) (ty_InvalidRule : PySem.W.typeIn K (.ref C_InvalidRule) = some (.type "type")) {cd_InvalidRule : ClassData} (cl_InvalidRule : PySem.W.clsIn K C_InvalidRule = some cd_InvalidRule) (mr_InvalidRule : cd_InvalidRule.mro = [.ref C_InvalidRule, .ref C_PageError, .type "ValueError", .type "Exception", .type "BaseException", .type "object"])
    {nm_InvalidRule q_InvalidRule : Str} {N_InvalidRule : Addr} {bs_InvalidRule bm_InvalidRule : List Value} {sn_InvalidRule : List Str} {su_InvalidRule : List Value} {ab_InvalidRule : Bool} {co_InvalidRule : Option Bool} {dd_InvalidRule : Option Addr} {m0_InvalidRule m1_InvalidRule m2_InvalidRule m3_InvalidRule m5_InvalidRule : Option Value}
    (xl_InvalidRule : K.lookup C_InvalidRule = some (excClassObj nm_InvalidRule q_InvalidRule C_InvalidRule N_InvalidRule bs_InvalidRule bm_InvalidRule true sn_InvalidRule su_InvalidRule ab_InvalidRule co_InvalidRule dd_InvalidRule m0_InvalidRule m1_InvalidRule m2_InvalidRule m3_InvalidRule m5_InvalidRule "ValueError.__new__")) (rv_InvalidRule : PySem.HandSPX.refsVE bm_InvalidRule = true) (sa_InvalidRule : PySem.W.findIn K (.ref C_InvalidRule) "__setattr__" = some (some (.builtin "object.__setattr__"))) (kc_InvalidRule : PySem.W.keepIn K (.ref C_InvalidRule) = true)
    {fe_InvalidRule : Addr} (ie_InvalidRule : PySem.W.findIn K (.ref C_InvalidRule) "__init__" = some (some (.ref fe_InvalidRule))) (te_InvalidRule : PySem.W.typeIn K (.ref fe_InvalidRule) = some (.type "function")) (ne_InvalidRule : PySem.W.findIn K (.ref C_InvalidRule) "item" = some none)
    {od_InvalidRule an_InvalidRule : Option Addr} {sl_InvalidRule : Array (Option Value)} {ow_InvalidRule kV_InvalidRule dc_InvalidRule pm_InvalidRule cv_InvalidRule ct_InvalidRule : Value} (l_InvalidRule : K.lookup fe_InvalidRule = some ⟨ow_InvalidRule, od_InvalidRule, .func (PySem.W.fnOf "__init__" "InvalidRule.__init__" (defArgs s_InvalidRule_init) (defBody s_InvalidRule_init) (defScope s_InvalidRule_init) .none kV_InvalidRule dc_InvalidRule pm_InvalidRule an_InvalidRule cv_InvalidRule ct_InvalidRule), sl_InvalidRule⟩) (c_InvalidRule : PySem.W.codeIn K cv_InvalidRule "InvalidRule.__init__" = true) (ke_InvalidRule : PySem.W.keepIn K (.ref fe_InvalidRule) = true)
    {C_InvalidLevels : Addr} (aC_InvalidLevels : PySem.W.nsIn K mainGlobals "InvalidLevels" = some (some (.ref C_InvalidLevels))) (ga_InvalidLevels : PySem.W.findIn K (.ref C_InvalidLevels) "__getattribute__" = some (some (.builtin "BaseException.__getattribute__"))) (gg_InvalidLevels : PySem.W.findIn K (.ref C_InvalidLevels) "__getattr__" = some none) (sb_InvalidLevels : PySem.W.subIn K (.ref C_InvalidLevels) (.type "BaseException") = some true) (hd_InvalidLevels : PySem.W.hasDictIn K C_InvalidLevels = true)
    (ha_InvalidLevels : PySem.W.findIn K (.ref C_InvalidLevels) "__class__" = some (some (.builtin "object.__class__"))) (hm_InvalidLevels : PySem.W.mroIn K C_InvalidLevels (.type "object") = some true) (ty_InvalidLevels : PySem.W.typeIn K (.ref C_InvalidLevels) = some (.type "type")) {cd_InvalidLevels : ClassData} (cl_InvalidLevels : PySem.W.clsIn K C_InvalidLevels = some cd_InvalidLevels) (mr_InvalidLevels : cd_InvalidLevels.mro = [.ref C_InvalidLevels, .ref C_PageError, .type "ValueError", .type "Exception", .type "BaseException", .type "object"])
    {nm_InvalidLevels q_InvalidLevels : Str} {N_InvalidLevels : Addr} {bs_InvalidLevels bm_InvalidLevels : List Value} {sn_InvalidLevels : List Str} {su_InvalidLevels : List Value} {ab_InvalidLevels : Bool} {co_InvalidLevels : Option Bool} {dd_InvalidLevels : Option Addr} {m0_InvalidLevels m1_InvalidLevels m2_InvalidLevels m3_InvalidLevels m5_InvalidLevels : Option Value}
    (xl_InvalidLevels : K.lookup C_InvalidLevels = some (excClassObj nm_InvalidLevels q_InvalidLevels C_InvalidLevels N_InvalidLevels bs_InvalidLevels bm_InvalidLevels true sn_InvalidLevels su_InvalidLevels ab_InvalidLevels co_InvalidLevels dd_InvalidLevels m0_InvalidLevels m1_InvalidLevels m2_InvalidLevels m3_InvalidLevels m5_InvalidLevels "ValueError.__new__")) (rv_InvalidLevels : PySem.HandSPX.refsVE bm_InvalidLevels = true) (sa_InvalidLevels : PySem.W.findIn K (.ref C_InvalidLevels) "__setattr__" = some (some (.builtin "object.__setattr__"))) (kc_InvalidLevels : PySem.W.keepIn K (.ref C_InvalidLevels) = true)
    {fe_InvalidLevels : Addr} (ie_InvalidLevels : PySem.W.findIn K (.ref C_InvalidLevels) "__init__" = some (some (.ref fe_InvalidLevels))) (te_InvalidLevels : PySem.W.typeIn K (.ref fe_InvalidLevels) = some (.type "function")) (ne_InvalidLevels : PySem.W.findIn K (.ref C_InvalidLevels) "level" = some none)
    {od_InvalidLevels an_InvalidLevels : Option Addr} {sl_InvalidLevels : Array (Option Value)} {ow_InvalidLevels kV_InvalidLevels dc_InvalidLevels pm_InvalidLevels cv_InvalidLevels ct_InvalidLevels : Value} (l_InvalidLevels : K.lookup fe_InvalidLevels = some ⟨ow_InvalidLevels, od_InvalidLevels, .func (PySem.W.fnOf "__init__" "InvalidLevels.__init__" (defArgs s_InvalidLevels_init) (defBody s_InvalidLevels_init) (defScope s_InvalidLevels_init) .none kV_InvalidLevels dc_InvalidLevels pm_InvalidLevels an_InvalidLevels cv_InvalidLevels ct_InvalidLevels), sl_InvalidLevels⟩) (c_InvalidLevels : PySem.W.codeIn K cv_InvalidLevels "InvalidLevels.__init__" = true) (ke_InvalidLevels : PySem.W.keepIn K (.ref fe_InvalidLevels) = true)
    {C_InvalidKind : Addr} (aC_InvalidKind : PySem.W.nsIn K mainGlobals "InvalidKind" = some (some (.ref C_InvalidKind))) (ga_InvalidKind : PySem.W.findIn K (.ref C_InvalidKind) "__getattribute__" = some (some (.builtin "BaseException.__getattribute__"))) (gg_InvalidKind : PySem.W.findIn K (.ref C_InvalidKind) "__getattr__" = some none) (sb_InvalidKind : PySem.W.subIn K (.ref C_InvalidKind) (.type "BaseException") = some true) (hd_InvalidKind : PySem.W.hasDictIn K C_InvalidKind = true)
    (ha_InvalidKind : PySem.W.findIn K (.ref C_InvalidKind) "__class__" = some (some (.builtin "object.__class__"))) (hm_InvalidKind : PySem.W.mroIn K C_InvalidKind (.type "object") = some true) (ty_InvalidKind : PySem.W.typeIn K (.ref C_InvalidKind) = some (.type "type")) {cd_InvalidKind : ClassData} (cl_InvalidKind : PySem.W.clsIn K C_InvalidKind = some cd_InvalidKind) (mr_InvalidKind : cd_InvalidKind.mro = [.ref C_InvalidKind, .ref C_PageError, .type "ValueError", .type "Exception", .type "BaseException", .type "object"])
    (ex_InvalidKind : PySem.W.excIn K C_InvalidKind [.type "ValueError", .type "Exception", .type "BaseException", .type "object"] "ValueError.__new__" = true) (kc_InvalidKind : PySem.W.keepIn K (.ref C_InvalidKind) = true)
    {C_InvalidNumber : Addr} (aC_InvalidNumber : PySem.W.nsIn K mainGlobals "InvalidNumber" = some (some (.ref C_InvalidNumber))) (ga_InvalidNumber : PySem.W.findIn K (.ref C_InvalidNumber) "__getattribute__" = some (some (.builtin "BaseException.__getattribute__"))) (gg_InvalidNumber : PySem.W.findIn K (.ref C_InvalidNumber) "__getattr__" = some none) (sb_InvalidNumber : PySem.W.subIn K (.ref C_InvalidNumber) (.type "BaseException") = some true) (hd_InvalidNumber : PySem.W.hasDictIn K C_InvalidNumber = true)
    (ha_InvalidNumber : PySem.W.findIn K (.ref C_InvalidNumber) "__class__" = some (some (.builtin "object.__class__"))) (hm_InvalidNumber : PySem.W.mroIn K C_InvalidNumber (.type "object") = some true) (ty_InvalidNumber : PySem.W.typeIn K (.ref C_InvalidNumber) = some (.type "type")) {cd_InvalidNumber : ClassData} (cl_InvalidNumber : PySem.W.clsIn K C_InvalidNumber = some cd_InvalidNumber) (mr_InvalidNumber : cd_InvalidNumber.mro = [.ref C_InvalidNumber, .ref C_PageError, .type "ValueError", .type "Exception", .type "BaseException", .type "object"])
    (ex_InvalidNumber : PySem.W.excIn K C_InvalidNumber [.type "ValueError", .type "Exception", .type "BaseException", .type "object"] "ValueError.__new__" = true) (kc_InvalidNumber : PySem.W.keepIn K (.ref C_InvalidNumber) = true)
    {C_InvalidLevel : Addr} (aC_InvalidLevel : PySem.W.nsIn K mainGlobals "InvalidLevel" = some (some (.ref C_InvalidLevel))) (ga_InvalidLevel : PySem.W.findIn K (.ref C_InvalidLevel) "__getattribute__" = some (some (.builtin "BaseException.__getattribute__"))) (gg_InvalidLevel : PySem.W.findIn K (.ref C_InvalidLevel) "__getattr__" = some none) (sb_InvalidLevel : PySem.W.subIn K (.ref C_InvalidLevel) (.type "BaseException") = some true) (hd_InvalidLevel : PySem.W.hasDictIn K C_InvalidLevel = true)
    (ha_InvalidLevel : PySem.W.findIn K (.ref C_InvalidLevel) "__class__" = some (some (.builtin "object.__class__"))) (hm_InvalidLevel : PySem.W.mroIn K C_InvalidLevel (.type "object") = some true) (ty_InvalidLevel : PySem.W.typeIn K (.ref C_InvalidLevel) = some (.type "type")) {cd_InvalidLevel : ClassData} (cl_InvalidLevel : PySem.W.clsIn K C_InvalidLevel = some cd_InvalidLevel) (mr_InvalidLevel : cd_InvalidLevel.mro = [.ref C_InvalidLevel, .ref C_PageError, .type "ValueError", .type "Exception", .type "BaseException", .type "object"])
    (ex_InvalidLevel : PySem.W.excIn K C_InvalidLevel [.type "ValueError", .type "Exception", .type "BaseException", .type "object"] "ValueError.__new__" = true) (kc_InvalidLevel : PySem.W.keepIn K (.ref C_InvalidLevel) = true)
    {C_InvalidPage : Addr} (aC_InvalidPage : PySem.W.nsIn K mainGlobals "InvalidPage" = some (some (.ref C_InvalidPage))) (ga_InvalidPage : PySem.W.findIn K (.ref C_InvalidPage) "__getattribute__" = some (some (.builtin "BaseException.__getattribute__"))) (gg_InvalidPage : PySem.W.findIn K (.ref C_InvalidPage) "__getattr__" = some none) (sb_InvalidPage : PySem.W.subIn K (.ref C_InvalidPage) (.type "BaseException") = some true) (hd_InvalidPage : PySem.W.hasDictIn K C_InvalidPage = true)
    (ha_InvalidPage : PySem.W.findIn K (.ref C_InvalidPage) "__class__" = some (some (.builtin "object.__class__"))) (hm_InvalidPage : PySem.W.mroIn K C_InvalidPage (.type "object") = some true) (ty_InvalidPage : PySem.W.typeIn K (.ref C_InvalidPage) = some (.type "type")) {cd_InvalidPage : ClassData} (cl_InvalidPage : PySem.W.clsIn K C_InvalidPage = some cd_InvalidPage) (mr_InvalidPage : cd_InvalidPage.mro = [.ref C_InvalidPage, .ref C_PageError, .type "ValueError", .type "Exception", .type "BaseException", .type "object"])
    (nd_errs : ([C_PageError, C_InvalidRule, C_InvalidLevels, C_InvalidKind, C_InvalidNumber, C_InvalidLevel, C_InvalidPage] : List Addr).Nodup)
    {f0 : Addr} {od0 an0 : Option Addr} {sl0 : Array (Option Value)} {oc0 kV0 dc0 pm0 cd0 ct0 : Value}
    (a0 : PySem.W.nsIn K mainGlobals "is_int" = some (some (.ref f0))) (l0 : K.lookup f0 = some ⟨oc0, od0, .func (PySem.W.fnOf "is_int" "is_int" (defArgs s_is_int) (defBody s_is_int) (defScope s_is_int) .none kV0 dc0 pm0 an0 cd0 ct0), sl0⟩) (c0 : PySem.W.codeIn K cd0 "is_int" = true) (k0 : PySem.W.keepIn K (.ref f0) = true)
    {f1 : Addr} {od1 an1 : Option Addr} {sl1 : Array (Option Value)} {oc1 kV1 dc1 pm1 cd1 ct1 : Value}
    (a1 : PySem.W.nsIn K mainGlobals "is_whole" = some (some (.ref f1))) (l1 : K.lookup f1 = some ⟨oc1, od1, .func (PySem.W.fnOf "is_whole" "is_whole" (defArgs s_is_whole) (defBody s_is_whole) (defScope s_is_whole) .none kV1 dc1 pm1 an1 cd1 ct1), sl1⟩) (c1 : PySem.W.codeIn K cd1 "is_whole" = true) (k1 : PySem.W.keepIn K (.ref f1) = true)
    {f2 : Addr} {od2 an2 : Option Addr} {sl2 : Array (Option Value)} {oc2 kV2 dc2 pm2 cd2 ct2 : Value}
    (a2 : PySem.W.nsIn K mainGlobals "normal_level" = some (some (.ref f2))) (l2 : K.lookup f2 = some ⟨oc2, od2, .func (PySem.W.fnOf "normal_level" "normal_level" (defArgs s_normal_level) (defBody s_normal_level) (defScope s_normal_level) .none kV2 dc2 pm2 an2 cd2 ct2), sl2⟩) (c2 : PySem.W.codeIn K cd2 "normal_level" = true) (k2 : PySem.W.keepIn K (.ref f2) = true)
    {f3 : Addr} {od3 an3 : Option Addr} {sl3 : Array (Option Value)} {oc3 kV3 dc3 pm3 cd3 ct3 : Value}
    (a3 : PySem.W.nsIn K mainGlobals "page_count" = some (some (.ref f3))) (l3 : K.lookup f3 = some ⟨oc3, od3, .func (PySem.W.fnOf "page_count" "page_count" (defArgs s_page_count) (defBody s_page_count) (defScope s_page_count) .none kV3 dc3 pm3 an3 cd3 ct3), sl3⟩) (c3 : PySem.W.codeIn K cd3 "page_count" = true) (k3 : PySem.W.keepIn K (.ref f3) = true)
    {f4 : Addr} {od4 an4 : Option Addr} {sl4 : Array (Option Value)} {oc4 kV4 dc4 pm4 cd4 ct4 : Value}
    (a4 : PySem.W.nsIn K mainGlobals "item_count" = some (some (.ref f4))) (l4 : K.lookup f4 = some ⟨oc4, od4, .func (PySem.W.fnOf "item_count" "item_count" (defArgs s_item_count) (defBody s_item_count) (defScope s_item_count) .none kV4 dc4 pm4 an4 cd4 ct4), sl4⟩) (c4 : PySem.W.codeIn K cd4 "item_count" = true) (k4 : PySem.W.keepIn K (.ref f4) = true)
    {f5 : Addr} {od5 an5 : Option Addr} {sl5 : Array (Option Value)} {oc5 kV5 dc5 pm5 cd5 ct5 : Value}
    (a5 : PySem.W.nsIn K mainGlobals "parted" = some (some (.ref f5))) (l5 : K.lookup f5 = some ⟨oc5, od5, .func (PySem.W.fnOf "parted" "parted" (defArgs s_parted) (defBody s_parted) (defScope s_parted) .none kV5 dc5 pm5 an5 cd5 ct5), sl5⟩) (c5 : PySem.W.codeIn K cd5 "parted" = true) (k5 : PySem.W.keepIn K (.ref f5) = true)
    {f6 : Addr} {od6 an6 : Option Addr} {sl6 : Array (Option Value)} {oc6 kV6 dc6 pm6 cd6 ct6 : Value}
    (a6 : PySem.W.nsIn K mainGlobals "page_with" = some (some (.ref f6))) (l6 : K.lookup f6 = some ⟨oc6, od6, .func (PySem.W.fnOf "page_with" "page_with" (defArgs s_page_with) (defBody s_page_with) (defScope s_page_with) .none kV6 dc6 pm6 an6 cd6 ct6), sl6⟩) (c6 : PySem.W.codeIn K cd6 "page_with" = true) (k6 : PySem.W.keepIn K (.ref f6) = true)
    {f7 : Addr} {od7 an7 : Option Addr} {sl7 : Array (Option Value)} {oc7 kV7 dc7 pm7 cd7 ct7 : Value}
    (a7 : PySem.W.nsIn K mainGlobals "is_part" = some (some (.ref f7))) (l7 : K.lookup f7 = some ⟨oc7, od7, .func (PySem.W.fnOf "is_part" "is_part" (defArgs s_is_part) (defBody s_is_part) (defScope s_is_part) .none kV7 dc7 pm7 an7 cd7 ct7), sl7⟩) (c7 : PySem.W.codeIn K cd7 "is_part" = true) (k7 : PySem.W.keepIn K (.ref f7) = true)
    {f8 : Addr} {od8 an8 : Option Addr} {sl8 : Array (Option Value)} {oc8 kV8 dc8 pm8 cd8 ct8 : Value}
    (a8 : PySem.W.nsIn K mainGlobals "require_rule" = some (some (.ref f8))) (l8 : K.lookup f8 = some ⟨oc8, od8, .func (PySem.W.fnOf "require_rule" "require_rule" (defArgs s_require_rule) (defBody s_require_rule) (defScope s_require_rule) .none kV8 dc8 pm8 an8 cd8 ct8), sl8⟩) (c8 : PySem.W.codeIn K cd8 "require_rule" = true) (k8 : PySem.W.keepIn K (.ref f8) = true)
    {f9 : Addr} {od9 an9 : Option Addr} {sl9 : Array (Option Value)} {oc9 kV9 dc9 pm9 cd9 ct9 : Value}
    (a9 : PySem.W.findIn K (.ref C_Rule) "__init__" = some (some (.ref f9))) (i9 : PySem.W.isFn K (.ref f9) = true) (l9 : K.lookup f9 = some ⟨oc9, od9, .func (PySem.W.fnOf "__init__" "Rule.__init__" (defArgs s_Rule_init) (defBody s_Rule_init) (defScope s_Rule_init) .none kV9 dc9 pm9 an9 cd9 ct9), sl9⟩) (c9 : PySem.W.codeIn K cd9 "Rule.__init__" = true) (k9 : PySem.W.keepIn K (.ref f9) = true)
    {f10 : Addr} {od10 an10 : Option Addr} {sl10 : Array (Option Value)} {oc10 kV10 dc10 pm10 cd10 ct10 : Value}
    {p10 : Addr} {rs10 : List Value} (a10 : PySem.W.findIn K (.ref C_Rule) "leaf" = some (some (.ref p10))) (g10 : PySem.W.specialIn K (.ref p10) "__get__" = some (some (.builtin "property.__get__"))) (t10 : PySem.W.takesIn K (.ref p10) = some true) (r10 : PySem.W.recIn K p10 "property" = some (.ref f10 :: rs10)) (l10 : K.lookup f10 = some ⟨oc10, od10, .func (PySem.W.fnOf "leaf" "Rule.leaf" (defArgs s_Rule_leaf) (defBody s_Rule_leaf) (defScope s_Rule_leaf) .none kV10 dc10 pm10 an10 cd10 ct10), sl10⟩) (c10 : PySem.W.codeIn K cd10 "Rule.leaf" = true) (k10 : PySem.W.keepIn K (.ref f10) = true)
    {f11 : Addr} {od11 an11 : Option Addr} {sl11 : Array (Option Value)} {oc11 kV11 dc11 pm11 cd11 ct11 : Value}
    {p11 : Addr} {rs11 : List Value} (a11 : PySem.W.findIn K (.ref C_Rule) "inner" = some (some (.ref p11))) (g11 : PySem.W.specialIn K (.ref p11) "__get__" = some (some (.builtin "property.__get__"))) (t11 : PySem.W.takesIn K (.ref p11) = some true) (r11 : PySem.W.recIn K p11 "property" = some (.ref f11 :: rs11)) (l11 : K.lookup f11 = some ⟨oc11, od11, .func (PySem.W.fnOf "inner" "Rule.inner" (defArgs s_Rule_inner) (defBody s_Rule_inner) (defScope s_Rule_inner) .none kV11 dc11 pm11 an11 cd11 ct11), sl11⟩) (c11 : PySem.W.codeIn K cd11 "Rule.inner" = true) (k11 : PySem.W.keepIn K (.ref f11) = true)
    {f12 : Addr} {od12 an12 : Option Addr} {sl12 : Array (Option Value)} {oc12 kV12 dc12 pm12 cd12 ct12 : Value}
    (a12 : PySem.W.nsIn K mainGlobals "require_level" = some (some (.ref f12))) (l12 : K.lookup f12 = some ⟨oc12, od12, .func (PySem.W.fnOf "require_level" "require_level" (defArgs s_require_level) (defBody s_require_level) (defScope s_require_level) .none kV12 dc12 pm12 an12 cd12 ct12), sl12⟩) (c12 : PySem.W.codeIn K cd12 "require_level" = true) (k12 : PySem.W.keepIn K (.ref f12) = true)
    {f13 : Addr} {od13 an13 : Option Addr} {sl13 : Array (Option Value)} {oc13 kV13 dc13 pm13 cd13 ct13 : Value}
    (a13 : PySem.W.nsIn K mainGlobals "is_pair" = some (some (.ref f13))) (l13 : K.lookup f13 = some ⟨oc13, od13, .func (PySem.W.fnOf "is_pair" "is_pair" (defArgs s_is_pair) (defBody s_is_pair) (defScope s_is_pair) .none kV13 dc13 pm13 an13 cd13 ct13), sl13⟩) (c13 : PySem.W.codeIn K cd13 "is_pair" = true) (k13 : PySem.W.keepIn K (.ref f13) = true)
    {f14 : Addr} {od14 an14 : Option Addr} {sl14 : Array (Option Value)} {oc14 kV14 dc14 pm14 cd14 ct14 : Value}
    (a14 : PySem.W.nsIn K mainGlobals "is_empty_level" = some (some (.ref f14))) (l14 : K.lookup f14 = some ⟨oc14, od14, .func (PySem.W.fnOf "is_empty_level" "is_empty_level" (defArgs s_is_empty_level) (defBody s_is_empty_level) (defScope s_is_empty_level) .none kV14 dc14 pm14 an14 cd14 ct14), sl14⟩) (c14 : PySem.W.codeIn K cd14 "is_empty_level" = true) (k14 : PySem.W.keepIn K (.ref f14) = true)
    {f15 : Addr} {od15 an15 : Option Addr} {sl15 : Array (Option Value)} {oc15 kV15 dc15 pm15 cd15 ct15 : Value}
    (a15 : PySem.W.nsIn K mainGlobals "is_level" = some (some (.ref f15))) (l15 : K.lookup f15 = some ⟨oc15, od15, .func (PySem.W.fnOf "is_level" "is_level" (defArgs s_is_level) (defBody s_is_level) (defScope s_is_level) .none kV15 dc15 pm15 an15 cd15 ct15), sl15⟩) (c15 : PySem.W.codeIn K cd15 "is_level" = true) (k15 : PySem.W.keepIn K (.ref f15) = true)
    {f16 : Addr} {od16 an16 : Option Addr} {sl16 : Array (Option Value)} {oc16 kV16 dc16 pm16 cd16 ct16 : Value}
    (a16 : PySem.W.nsIn K mainGlobals "require_levels" = some (some (.ref f16))) (l16 : K.lookup f16 = some ⟨oc16, od16, .func (PySem.W.fnOf "require_levels" "require_levels" (defArgs s_require_levels) (defBody s_require_levels) (defScope s_require_levels) .none kV16 dc16 pm16 an16 cd16 ct16), sl16⟩) (c16 : PySem.W.codeIn K cd16 "require_levels" = true) (k16 : PySem.W.keepIn K (.ref f16) = true)
    {f17 : Addr} {od17 an17 : Option Addr} {sl17 : Array (Option Value)} {oc17 kV17 dc17 pm17 cd17 ct17 : Value}
    (a17 : PySem.W.nsIn K mainGlobals "own_form" = some (some (.ref f17))) (l17 : K.lookup f17 = some ⟨oc17, od17, .func (PySem.W.fnOf "own_form" "own_form" (defArgs s_own_form) (defBody s_own_form) (defScope s_own_form) .none kV17 dc17 pm17 an17 cd17 ct17), sl17⟩) (c17 : PySem.W.codeIn K cd17 "own_form" = true) (k17 : PySem.W.keepIn K (.ref f17) = true)
    {f18 : Addr} {od18 an18 : Option Addr} {sl18 : Array (Option Value)} {oc18 kV18 dc18 pm18 cd18 ct18 : Value}
    (a18 : PySem.W.findIn K (.ref C_PageIndex) "__init__" = some (some (.ref f18))) (i18 : PySem.W.isFn K (.ref f18) = true) (l18 : K.lookup f18 = some ⟨oc18, od18, .func (PySem.W.fnOf "__init__" "PageIndex.__init__" (defArgs s_PageIndex_init) (defBody s_PageIndex_init) (defScope s_PageIndex_init) .none kV18 dc18 pm18 an18 cd18 ct18), sl18⟩) (c18 : PySem.W.codeIn K cd18 "PageIndex.__init__" = true) (k18 : PySem.W.keepIn K (.ref f18) = true)
    {f19 : Addr} {od19 an19 : Option Addr} {sl19 : Array (Option Value)} {oc19 kV19 dc19 pm19 cd19 ct19 : Value}
    {p19 : Addr} {rs19 : List Value} (a19 : PySem.W.findIn K (.ref C_PageIndex) "entries" = some (some (.ref p19))) (g19 : PySem.W.specialIn K (.ref p19) "__get__" = some (some (.builtin "property.__get__"))) (t19 : PySem.W.takesIn K (.ref p19) = some true) (r19 : PySem.W.recIn K p19 "property" = some (.ref f19 :: rs19)) (l19 : K.lookup f19 = some ⟨oc19, od19, .func (PySem.W.fnOf "entries" "PageIndex.entries" (defArgs s_PageIndex_entries) (defBody s_PageIndex_entries) (defScope s_PageIndex_entries) .none kV19 dc19 pm19 an19 cd19 ct19), sl19⟩) (c19 : PySem.W.codeIn K cd19 "PageIndex.entries" = true) (k19 : PySem.W.keepIn K (.ref f19) = true)
    {f20 : Addr} {od20 an20 : Option Addr} {sl20 : Array (Option Value)} {oc20 kV20 dc20 pm20 cd20 ct20 : Value}
    {p20 : Addr} {rs20 : List Value} (a20 : PySem.W.findIn K (.ref C_PageIndex) "height" = some (some (.ref p20))) (g20 : PySem.W.specialIn K (.ref p20) "__get__" = some (some (.builtin "property.__get__"))) (t20 : PySem.W.takesIn K (.ref p20) = some true) (r20 : PySem.W.recIn K p20 "property" = some (.ref f20 :: rs20)) (l20 : K.lookup f20 = some ⟨oc20, od20, .func (PySem.W.fnOf "height" "PageIndex.height" (defArgs s_PageIndex_height) (defBody s_PageIndex_height) (defScope s_PageIndex_height) .none kV20 dc20 pm20 an20 cd20 ct20), sl20⟩) (c20 : PySem.W.codeIn K cd20 "PageIndex.height" = true) (k20 : PySem.W.keepIn K (.ref f20) = true)
    {f21 : Addr} {od21 an21 : Option Addr} {sl21 : Array (Option Value)} {oc21 kV21 dc21 pm21 cd21 ct21 : Value}
    (a21 : PySem.W.findIn K (.ref C_PageIndex) "pages" = some (some (.ref f21))) (i21 : PySem.W.isFn K (.ref f21) = true) (l21 : K.lookup f21 = some ⟨oc21, od21, .func (PySem.W.fnOf "pages" "PageIndex.pages" (defArgs s_PageIndex_pages) (defBody s_PageIndex_pages) (defScope s_PageIndex_pages) .none kV21 dc21 pm21 an21 cd21 ct21), sl21⟩) (c21 : PySem.W.codeIn K cd21 "PageIndex.pages" = true) (k21 : PySem.W.keepIn K (.ref f21) = true)
    {f22 : Addr} {od22 an22 : Option Addr} {sl22 : Array (Option Value)} {oc22 kV22 dc22 pm22 cd22 ct22 : Value}
    (a22 : PySem.W.nsIn K mainGlobals "made_index" = some (some (.ref f22))) (l22 : K.lookup f22 = some ⟨oc22, od22, .func (PySem.W.fnOf "made_index" "made_index" (defArgs s_made_index) (defBody s_made_index) (defScope s_made_index) .none kV22 dc22 pm22 an22 cd22 ct22), sl22⟩) (c22 : PySem.W.codeIn K cd22 "made_index" = true) (k22 : PySem.W.keepIn K (.ref f22) = true)
    {f23 : Addr} {od23 an23 : Option Addr} {sl23 : Array (Option Value)} {oc23 kV23 dc23 pm23 cd23 ct23 : Value}
    (a23 : PySem.W.nsIn K mainGlobals "new_index" = some (some (.ref f23))) (l23 : K.lookup f23 = some ⟨oc23, od23, .func (PySem.W.fnOf "new_index" "new_index" (defArgs s_new_index) (defBody s_new_index) (defScope s_new_index) .none kV23 dc23 pm23 an23 cd23 ct23), sl23⟩) (c23 : PySem.W.codeIn K cd23 "new_index" = true) (k23 : PySem.W.keepIn K (.ref f23) = true)
    {f24 : Addr} {od24 an24 : Option Addr} {sl24 : Array (Option Value)} {oc24 kV24 dc24 pm24 cd24 ct24 : Value}
    (a24 : PySem.W.nsIn K mainGlobals "require_kind" = some (some (.ref f24))) (l24 : K.lookup f24 = some ⟨oc24, od24, .func (PySem.W.fnOf "require_kind" "require_kind" (defArgs s_require_kind) (defBody s_require_kind) (defScope s_require_kind) .none kV24 dc24 pm24 an24 cd24 ct24), sl24⟩) (c24 : PySem.W.codeIn K cd24 "require_kind" = true) (k24 : PySem.W.keepIn K (.ref f24) = true)
    {f25 : Addr} {od25 an25 : Option Addr} {sl25 : Array (Option Value)} {oc25 kV25 dc25 pm25 cd25 ct25 : Value}
    (a25 : PySem.W.nsIn K mainGlobals "require_number" = some (some (.ref f25))) (l25 : K.lookup f25 = some ⟨oc25, od25, .func (PySem.W.fnOf "require_number" "require_number" (defArgs s_require_number) (defBody s_require_number) (defScope s_require_number) .none kV25 dc25 pm25 an25 cd25 ct25), sl25⟩) (c25 : PySem.W.codeIn K cd25 "require_number" = true) (k25 : PySem.W.keepIn K (.ref f25) = true)
    {f26 : Addr} {od26 an26 : Option Addr} {sl26 : Array (Option Value)} {oc26 kV26 dc26 pm26 cd26 ct26 : Value}
    (a26 : PySem.W.nsIn K mainGlobals "require_any_level" = some (some (.ref f26))) (l26 : K.lookup f26 = some ⟨oc26, od26, .func (PySem.W.fnOf "require_any_level" "require_any_level" (defArgs s_require_any_level) (defBody s_require_any_level) (defScope s_require_any_level) .none kV26 dc26 pm26 an26 cd26 ct26), sl26⟩) (c26 : PySem.W.codeIn K cd26 "require_any_level" = true) (k26 : PySem.W.keepIn K (.ref f26) = true)
    {f27 : Addr} {od27 an27 : Option Addr} {sl27 : Array (Option Value)} {oc27 kV27 dc27 pm27 cd27 ct27 : Value}
    (a27 : PySem.W.nsIn K mainGlobals "count_within" = some (some (.ref f27))) (l27 : K.lookup f27 = some ⟨oc27, od27, .func (PySem.W.fnOf "count_within" "count_within" (defArgs s_count_within) (defBody s_count_within) (defScope s_count_within) .none kV27 dc27 pm27 an27 cd27 ct27), sl27⟩) (c27 : PySem.W.codeIn K cd27 "count_within" = true) (k27 : PySem.W.keepIn K (.ref f27) = true)
    {f28 : Addr} {od28 an28 : Option Addr} {sl28 : Array (Option Value)} {oc28 kV28 dc28 pm28 cd28 ct28 : Value}
    (a28 : PySem.W.nsIn K mainGlobals "splits_of" = some (some (.ref f28))) (l28 : K.lookup f28 = some ⟨oc28, od28, .func (PySem.W.fnOf "splits_of" "splits_of" (defArgs s_splits_of) (defBody s_splits_of) (defScope s_splits_of) .none kV28 dc28 pm28 an28 cd28 ct28), sl28⟩) (c28 : PySem.W.codeIn K cd28 "splits_of" = true) (k28 : PySem.W.keepIn K (.ref f28) = true)
    {f29 : Addr} {od29 an29 : Option Addr} {sl29 : Array (Option Value)} {oc29 kV29 dc29 pm29 cd29 ct29 : Value}
    (a29 : PySem.W.nsIn K mainGlobals "page_behind" = some (some (.ref f29))) (l29 : K.lookup f29 = some ⟨oc29, od29, .func (PySem.W.fnOf "page_behind" "page_behind" (defArgs s_page_behind) (defBody s_page_behind) (defScope s_page_behind) .none kV29 dc29 pm29 an29 cd29 ct29), sl29⟩) (c29 : PySem.W.codeIn K cd29 "page_behind" = true) (k29 : PySem.W.keepIn K (.ref f29) = true)
    {f30 : Addr} {od30 an30 : Option Addr} {sl30 : Array (Option Value)} {oc30 kV30 dc30 pm30 cd30 ct30 : Value}
    (a30 : PySem.W.nsIn K mainGlobals "rule_of_level" = some (some (.ref f30))) (l30 : K.lookup f30 = some ⟨oc30, od30, .func (PySem.W.fnOf "rule_of_level" "rule_of_level" (defArgs s_rule_of_level) (defBody s_rule_of_level) (defScope s_rule_of_level) .none kV30 dc30 pm30 an30 cd30 ct30), sl30⟩) (c30 : PySem.W.codeIn K cd30 "rule_of_level" = true) (k30 : PySem.W.keepIn K (.ref f30) = true)
    {f31 : Addr} {od31 an31 : Option Addr} {sl31 : Array (Option Value)} {oc31 kV31 dc31 pm31 cd31 ct31 : Value}
    (a31 : PySem.W.nsIn K mainGlobals "pairs_of" = some (some (.ref f31))) (l31 : K.lookup f31 = some ⟨oc31, od31, .func (PySem.W.fnOf "pairs_of" "pairs_of" (defArgs s_pairs_of) (defBody s_pairs_of) (defScope s_pairs_of) .none kV31 dc31 pm31 an31 cd31 ct31), sl31⟩) (c31 : PySem.W.codeIn K cd31 "pairs_of" = true) (k31 : PySem.W.keepIn K (.ref f31) = true)
    {f32 : Addr} {od32 an32 : Option Addr} {sl32 : Array (Option Value)} {oc32 kV32 dc32 pm32 cd32 ct32 : Value}
    (a32 : PySem.W.nsIn K mainGlobals "leaf_place" = some (some (.ref f32))) (l32 : K.lookup f32 = some ⟨oc32, od32, .func (PySem.W.fnOf "leaf_place" "leaf_place" (defArgs s_leaf_place) (defBody s_leaf_place) (defScope s_leaf_place) .none kV32 dc32 pm32 an32 cd32 ct32), sl32⟩) (c32 : PySem.W.codeIn K cd32 "leaf_place" = true) (k32 : PySem.W.keepIn K (.ref f32) = true)
    {f33 : Addr} {od33 an33 : Option Addr} {sl33 : Array (Option Value)} {oc33 kV33 dc33 pm33 cd33 ct33 : Value}
    (a33 : PySem.W.nsIn K mainGlobals "place_above" = some (some (.ref f33))) (l33 : K.lookup f33 = some ⟨oc33, od33, .func (PySem.W.fnOf "place_above" "place_above" (defArgs s_place_above) (defBody s_place_above) (defScope s_place_above) .none kV33 dc33 pm33 an33 cd33 ct33), sl33⟩) (c33 : PySem.W.codeIn K cd33 "place_above" = true) (k33 : PySem.W.keepIn K (.ref f33) = true)
    {f34 : Addr} {od34 an34 : Option Addr} {sl34 : Array (Option Value)} {oc34 kV34 dc34 pm34 cd34 ct34 : Value}
    (a34 : PySem.W.nsIn K mainGlobals "changed_level" = some (some (.ref f34))) (l34 : K.lookup f34 = some ⟨oc34, od34, .func (PySem.W.fnOf "changed_level" "changed_level" (defArgs s_changed_level) (defBody s_changed_level) (defScope s_changed_level) .none kV34 dc34 pm34 an34 cd34 ct34), sl34⟩) (c34 : PySem.W.codeIn K cd34 "changed_level" = true) (k34 : PySem.W.keepIn K (.ref f34) = true)
    {f35 : Addr} {od35 an35 : Option Addr} {sl35 : Array (Option Value)} {oc35 kV35 dc35 pm35 cd35 ct35 : Value}
    (a35 : PySem.W.nsIn K mainGlobals "run_behind" = some (some (.ref f35))) (l35 : K.lookup f35 = some ⟨oc35, od35, .func (PySem.W.fnOf "run_behind" "run_behind" (defArgs s_run_behind) (defBody s_run_behind) (defScope s_run_behind) .none kV35 dc35 pm35 an35 cd35 ct35), sl35⟩) (c35 : PySem.W.codeIn K cd35 "run_behind" = true) (k35 : PySem.W.keepIn K (.ref f35) = true)
    {f36 : Addr} {od36 an36 : Option Addr} {sl36 : Array (Option Value)} {oc36 kV36 dc36 pm36 cd36 ct36 : Value}
    (a36 : PySem.W.nsIn K mainGlobals "first_split" = some (some (.ref f36))) (l36 : K.lookup f36 = some ⟨oc36, od36, .func (PySem.W.fnOf "first_split" "first_split" (defArgs s_first_split) (defBody s_first_split) (defScope s_first_split) .none kV36 dc36 pm36 an36 cd36 ct36), sl36⟩) (c36 : PySem.W.codeIn K cd36 "first_split" = true) (k36 : PySem.W.keepIn K (.ref f36) = true)
    {f37 : Addr} {od37 an37 : Option Addr} {sl37 : Array (Option Value)} {oc37 kV37 dc37 pm37 cd37 ct37 : Value}
    (a37 : PySem.W.nsIn K mainGlobals "loaded" = some (some (.ref f37))) (l37 : K.lookup f37 = some ⟨oc37, od37, .func (PySem.W.fnOf "loaded" "loaded" (defArgs s_loaded) (defBody s_loaded) (defScope s_loaded) .none kV37 dc37 pm37 an37 cd37 ct37), sl37⟩) (c37 : PySem.W.codeIn K cd37 "loaded" = true) (k37 : PySem.W.keepIn K (.ref f37) = true)
    {f38 : Addr} {od38 an38 : Option Addr} {sl38 : Array (Option Value)} {oc38 kV38 dc38 pm38 cd38 ct38 : Value}
    (a38 : PySem.W.nsIn K mainGlobals "load_pages" = some (some (.ref f38))) (l38 : K.lookup f38 = some ⟨oc38, od38, .func (PySem.W.fnOf "load_pages" "load_pages" (defArgs s_load_pages) (defBody s_load_pages) (defScope s_load_pages) .none kV38 dc38 pm38 an38 cd38 ct38), sl38⟩) (c38 : PySem.W.codeIn K cd38 "load_pages" = true) (k38 : PySem.W.keepIn K (.ref f38) = true)
    {f39 : Addr} {od39 an39 : Option Addr} {sl39 : Array (Option Value)} {oc39 kV39 dc39 pm39 cd39 ct39 : Value}
    (a39 : PySem.W.nsIn K mainGlobals "load_height" = some (some (.ref f39))) (l39 : K.lookup f39 = some ⟨oc39, od39, .func (PySem.W.fnOf "load_height" "load_height" (defArgs s_load_height) (defBody s_load_height) (defScope s_load_height) .none kV39 dc39 pm39 an39 cd39 ct39), sl39⟩) (c39 : PySem.W.codeIn K cd39 "load_height" = true) (k39 : PySem.W.keepIn K (.ref f39) = true)
    {f40 : Addr} {od40 an40 : Option Addr} {sl40 : Array (Option Value)} {oc40 kV40 dc40 pm40 cd40 ct40 : Value}
    (a40 : PySem.W.nsIn K mainGlobals "_law_bag" = some (some (.ref f40))) (l40 : K.lookup f40 = some ⟨oc40, od40, .func (PySem.W.fnOf "_law_bag" "_law_bag" (defArgs s_law_bag) (defBody s_law_bag) (defScope s_law_bag) .none kV40 dc40 pm40 an40 cd40 ct40), sl40⟩) (c40 : PySem.W.codeIn K cd40 "_law_bag" = true) (k40 : PySem.W.keepIn K (.ref f40) = true)
    {f41 : Addr} {od41 an41 : Option Addr} {sl41 : Array (Option Value)} {oc41 kV41 dc41 pm41 cd41 ct41 : Value}
    (a41 : PySem.W.nsIn K mainGlobals "_law_pick" = some (some (.ref f41))) (l41 : K.lookup f41 = some ⟨oc41, od41, .func (PySem.W.fnOf "_law_pick" "_law_pick" (defArgs s_law_pick) (defBody s_law_pick) (defScope s_law_pick) .none kV41 dc41 pm41 an41 cd41 ct41), sl41⟩) (c41 : PySem.W.codeIn K cd41 "_law_pick" = true) (k41 : PySem.W.keepIn K (.ref f41) = true)
    {f42 : Addr} {od42 an42 : Option Addr} {sl42 : Array (Option Value)} {oc42 kV42 dc42 pm42 cd42 ct42 : Value}
    (a42 : PySem.W.nsIn K mainGlobals "_law_rule" = some (some (.ref f42))) (l42 : K.lookup f42 = some ⟨oc42, od42, .func (PySem.W.fnOf "_law_rule" "_law_rule" (defArgs s_law_rule) (defBody s_law_rule) (defScope s_law_rule) .none kV42 dc42 pm42 an42 cd42 ct42), sl42⟩) (c42 : PySem.W.codeIn K cd42 "_law_rule" = true) (k42 : PySem.W.keepIn K (.ref f42) = true)
    {f43 : Addr} {od43 an43 : Option Addr} {sl43 : Array (Option Value)} {oc43 kV43 dc43 pm43 cd43 ct43 : Value}
    (a43 : PySem.W.nsIn K mainGlobals "_law_great_rule" = some (some (.ref f43))) (l43 : K.lookup f43 = some ⟨oc43, od43, .func (PySem.W.fnOf "_law_great_rule" "_law_great_rule" (defArgs s_law_great_rule) (defBody s_law_great_rule) (defScope s_law_great_rule) .none kV43 dc43 pm43 an43 cd43 ct43), sl43⟩) (c43 : PySem.W.codeIn K cd43 "_law_great_rule" = true) (k43 : PySem.W.keepIn K (.ref f43) = true)
    {f44 : Addr} {od44 an44 : Option Addr} {sl44 : Array (Option Value)} {oc44 kV44 dc44 pm44 cd44 ct44 : Value}
    (a44 : PySem.W.nsIn K mainGlobals "_law_any_rule" = some (some (.ref f44))) (l44 : K.lookup f44 = some ⟨oc44, od44, .func (PySem.W.fnOf "_law_any_rule" "_law_any_rule" (defArgs s_law_any_rule) (defBody s_law_any_rule) (defScope s_law_any_rule) .none kV44 dc44 pm44 an44 cd44 ct44), sl44⟩) (c44 : PySem.W.codeIn K cd44 "_law_any_rule" = true) (k44 : PySem.W.keepIn K (.ref f44) = true)
    {f45 : Addr} {od45 an45 : Option Addr} {sl45 : Array (Option Value)} {oc45 kV45 dc45 pm45 cd45 ct45 : Value}
    (a45 : PySem.W.nsIn K mainGlobals "_law_firsts" = some (some (.ref f45))) (l45 : K.lookup f45 = some ⟨oc45, od45, .func (PySem.W.fnOf "_law_firsts" "_law_firsts" (defArgs s_law_firsts) (defBody s_law_firsts) (defScope s_law_firsts) .none kV45 dc45 pm45 an45 cd45 ct45), sl45⟩) (c45 : PySem.W.codeIn K cd45 "_law_firsts" = true) (k45 : PySem.W.keepIn K (.ref f45) = true)
    {f46 : Addr} {od46 an46 : Option Addr} {sl46 : Array (Option Value)} {oc46 kV46 dc46 pm46 cd46 ct46 : Value}
    (a46 : PySem.W.nsIn K mainGlobals "_law_due" = some (some (.ref f46))) (l46 : K.lookup f46 = some ⟨oc46, od46, .func (PySem.W.fnOf "_law_due" "_law_due" (defArgs s_law_due) (defBody s_law_due) (defScope s_law_due) .none kV46 dc46 pm46 an46 cd46 ct46), sl46⟩) (c46 : PySem.W.codeIn K cd46 "_law_due" = true) (k46 : PySem.W.keepIn K (.ref f46) = true)
    {f47 : Addr} {od47 an47 : Option Addr} {sl47 : Array (Option Value)} {oc47 kV47 dc47 pm47 cd47 ct47 : Value}
    (a47 : PySem.W.nsIn K mainGlobals "_law_right" = some (some (.ref f47))) (l47 : K.lookup f47 = some ⟨oc47, od47, .func (PySem.W.fnOf "_law_right" "_law_right" (defArgs s_law_right) (defBody s_law_right) (defScope s_law_right) .none kV47 dc47 pm47 an47 cd47 ct47), sl47⟩) (c47 : PySem.W.codeIn K cd47 "_law_right" = true) (k47 : PySem.W.keepIn K (.ref f47) = true)
    {f48 : Addr} {od48 an48 : Option Addr} {sl48 : Array (Option Value)} {oc48 kV48 dc48 pm48 cd48 ct48 : Value}
    (a48 : PySem.W.nsIn K mainGlobals "law" = some (some (.ref f48))) (l48 : K.lookup f48 = some ⟨oc48, od48, .func (PySem.W.fnOf "law" "law" (defArgs s_law) (defBody s_law) (defScope s_law) .none kV48 dc48 pm48 an48 cd48 ct48), sl48⟩) (c48 : PySem.W.codeIn K cd48 "law" = true) (k48 : PySem.W.keepIn K (.ref f48) = true)
    (zb_all : PySem.W.nsIn K mainGlobals "all" = some none)
    (zb_bool : PySem.W.nsIn K mainGlobals "bool" = some none)
    (zb_enumerate : PySem.W.nsIn K mainGlobals "enumerate" = some none)
    (zb_int : PySem.W.nsIn K mainGlobals "int" = some none)
    (zb_isinstance : PySem.W.nsIn K mainGlobals "isinstance" = some none)
    (zb_len : PySem.W.nsIn K mainGlobals "len" = some none)
    (zb_list : PySem.W.nsIn K mainGlobals "list" = some none)
    (zb_max : PySem.W.nsIn K mainGlobals "max" = some none)
    (zb_min : PySem.W.nsIn K mainGlobals "min" = some none)
    (zb_range : PySem.W.nsIn K mainGlobals "range" = some none)
    (zb_repr : PySem.W.nsIn K mainGlobals "repr" = some none)
    (zb_set : PySem.W.nsIn K mainGlobals "set" = some none)
    (zb_sorted : PySem.W.nsIn K mainGlobals "sorted" = some none)
    (zb_str : PySem.W.nsIn K mainGlobals "str" = some none)
    (zb_sum : PySem.W.nsIn K mainGlobals "sum" = some none)
    (zb_tuple : PySem.W.nsIn K mainGlobals "tuple" = some none)
    {tk_LEAST_PAGE : Tok} (zc_LEAST_PAGE : PySem.W.nsIn K mainGlobals "LEAST_PAGE" = some (some (.int 3 tk_LEAST_PAGE)))
    {tk_MOST_LEVEL : Tok} (zc_MOST_LEVEL : PySem.W.nsIn K mainGlobals "MOST_LEVEL" = some (some (.int 200 tk_MOST_LEVEL)))
    {tk_MOST_LEVELS : Tok} (zc_MOST_LEVELS : PySem.W.nsIn K mainGlobals "MOST_LEVELS" = some (some (.int 100 tk_MOST_LEVELS)))
    {tk_MOST_NUMBER : Tok} (zc_MOST_NUMBER : PySem.W.nsIn K mainGlobals "MOST_NUMBER" = some (some (.int 1000000000000000000000000000000 tk_MOST_NUMBER)))
    {tk_MOST_PAGE : Tok} (zc_MOST_PAGE : PySem.W.nsIn K mainGlobals "MOST_PAGE" = some (some (.int 1000000000000000000000000000000 tk_MOST_PAGE)))
    {tk_MOST_PAIRS : Tok} (zc_MOST_PAIRS : PySem.W.nsIn K mainGlobals "MOST_PAIRS" = some (some (.int 12 tk_MOST_PAIRS)))
    {tk_MOST_TIMES : Tok} (zc_MOST_TIMES : PySem.W.nsIn K mainGlobals "MOST_TIMES" = some (some (.int 1000000000000000000000000000000 tk_MOST_TIMES)))
    {ka_KINDS : Addr} {kd_KINDS : Option Addr} {k1_KINDS k2_KINDS : Tok} {kn_KINDS : Nat} {ks_KINDS : Array (Option Value)} (ak_KINDS : PySem.W.nsIn K mainGlobals "KINDS" = some (some (.ref ka_KINDS))) (lk_KINDS : K.lookup ka_KINDS = some ⟨.type "tuple", kd_KINDS, .seq #[.str "up" k1_KINDS, .str "down" k2_KINDS] kn_KINDS, ks_KINDS⟩)
    : ∃ fd : FuncData, (∀ (s : Shared) (v : Value), BindsTo s fd ⟨[v], []⟩ [("script", v)]) ∧ ∀ base : Heap, K.In base → base.Ns mainGlobals mg → Wide PySem.Challenge.pw_leafsplits_k18_great_loads base → FnP PySem.Challenge.pw_leafsplits_k18_great_loads w K mg base 12 fa fd ["script"] (spZ K mg sp_law) := by
  have e := hfa.symm.trans (PySem.W.mg_of X N a48)
  cases e
  have G : Facts mg := ⟨PySem.W.mg_none_of X N zb_all, PySem.W.mg_none_of X N zb_bool, PySem.W.mg_none_of X N zb_enumerate, PySem.W.mg_none_of X N zb_int, PySem.W.mg_none_of X N zb_isinstance, PySem.W.mg_none_of X N zb_len, PySem.W.mg_none_of X N zb_list, PySem.W.mg_none_of X N zb_max, PySem.W.mg_none_of X N zb_min, PySem.W.mg_none_of X N zb_range, PySem.W.mg_none_of X N zb_repr, PySem.W.mg_none_of X N zb_set, PySem.W.mg_none_of X N zb_sorted, PySem.W.mg_none_of X N zb_str, PySem.W.mg_none_of X N zb_sum, PySem.W.mg_none_of X N zb_tuple, ⟨tk_LEAST_PAGE, PySem.W.mg_of X N zc_LEAST_PAGE⟩, ⟨tk_MOST_LEVEL, PySem.W.mg_of X N zc_MOST_LEVEL⟩, ⟨tk_MOST_LEVELS, PySem.W.mg_of X N zc_MOST_LEVELS⟩, ⟨tk_MOST_NUMBER, PySem.W.mg_of X N zc_MOST_NUMBER⟩, ⟨tk_MOST_PAGE, PySem.W.mg_of X N zc_MOST_PAGE⟩, ⟨tk_MOST_PAIRS, PySem.W.mg_of X N zc_MOST_PAIRS⟩, ⟨tk_MOST_TIMES, PySem.W.mg_of X N zc_MOST_TIMES⟩⟩
  have cl_Rule : Cls K C_Rule := ⟨pg_Rule, hd_Rule, po_Rule, sa_Rule⟩
  have hC_Rule : mg "Rule" = some (.ref C_Rule) := PySem.W.mg_of X N aC_Rule
  have ks_Rule := kit_no cl_Rule ty_Rule
  have ns_Rule : ∀ n ∈ ["NoneType", "bool", "int", "str", "list", "tuple", "dict"], PySem.W.notFirst K C_Rule (.type n) = true := fun n hn => by
    simp only [List.mem_cons, List.not_mem_nil, or_false] at hn
    rcases hn with rfl | rfl | rfl | rfl | rfl | rfl | rfl
    all_goals assumption
  have cl_PageIndex : Cls K C_PageIndex := ⟨pg_PageIndex, hd_PageIndex, po_PageIndex, sa_PageIndex⟩
  have hC_PageIndex : mg "PageIndex" = some (.ref C_PageIndex) := PySem.W.mg_of X N aC_PageIndex
  have ks_PageIndex := kit_no cl_PageIndex ty_PageIndex
  have ns_PageIndex : ∀ n ∈ ["NoneType", "bool", "int", "str", "list", "tuple", "dict"], PySem.W.notFirst K C_PageIndex (.type n) = true := fun n hn => by
    simp only [List.mem_cons, List.not_mem_nil, or_false] at hn
    rcases hn with rfl | rfl | rfl | rfl | rfl | rfl | rfl
    all_goals assumption
  have K_PageError : EcK K mg C_PageError "PageError" C_PageError := ⟨PySem.W.mg_of X N aC_PageError, ⟨ga_PageError, gg_PageError, sb_PageError, hd_PageError, ha_PageError, hn0, htk0, hm_PageError⟩, ty_PageError, ⟨cd_PageError, cl_PageError, .inr ⟨rfl, mr_PageError⟩⟩⟩
  have K_InvalidRule : EcK K mg C_PageError "InvalidRule" C_InvalidRule := ⟨PySem.W.mg_of X N aC_InvalidRule, ⟨ga_InvalidRule, gg_InvalidRule, sb_InvalidRule, hd_InvalidRule, ha_InvalidRule, hn0, htk0, hm_InvalidRule⟩, ty_InvalidRule, ⟨cd_InvalidRule, cl_InvalidRule, .inl mr_InvalidRule⟩⟩
  have K_InvalidLevels : EcK K mg C_PageError "InvalidLevels" C_InvalidLevels := ⟨PySem.W.mg_of X N aC_InvalidLevels, ⟨ga_InvalidLevels, gg_InvalidLevels, sb_InvalidLevels, hd_InvalidLevels, ha_InvalidLevels, hn0, htk0, hm_InvalidLevels⟩, ty_InvalidLevels, ⟨cd_InvalidLevels, cl_InvalidLevels, .inl mr_InvalidLevels⟩⟩
  have K_InvalidKind : EcK K mg C_PageError "InvalidKind" C_InvalidKind := ⟨PySem.W.mg_of X N aC_InvalidKind, ⟨ga_InvalidKind, gg_InvalidKind, sb_InvalidKind, hd_InvalidKind, ha_InvalidKind, hn0, htk0, hm_InvalidKind⟩, ty_InvalidKind, ⟨cd_InvalidKind, cl_InvalidKind, .inl mr_InvalidKind⟩⟩
  have K_InvalidNumber : EcK K mg C_PageError "InvalidNumber" C_InvalidNumber := ⟨PySem.W.mg_of X N aC_InvalidNumber, ⟨ga_InvalidNumber, gg_InvalidNumber, sb_InvalidNumber, hd_InvalidNumber, ha_InvalidNumber, hn0, htk0, hm_InvalidNumber⟩, ty_InvalidNumber, ⟨cd_InvalidNumber, cl_InvalidNumber, .inl mr_InvalidNumber⟩⟩
  have K_InvalidLevel : EcK K mg C_PageError "InvalidLevel" C_InvalidLevel := ⟨PySem.W.mg_of X N aC_InvalidLevel, ⟨ga_InvalidLevel, gg_InvalidLevel, sb_InvalidLevel, hd_InvalidLevel, ha_InvalidLevel, hn0, htk0, hm_InvalidLevel⟩, ty_InvalidLevel, ⟨cd_InvalidLevel, cl_InvalidLevel, .inl mr_InvalidLevel⟩⟩
  have K_InvalidPage : EcK K mg C_PageError "InvalidPage" C_InvalidPage := ⟨PySem.W.mg_of X N aC_InvalidPage, ⟨ga_InvalidPage, gg_InvalidPage, sb_InvalidPage, hd_InvalidPage, ha_InvalidPage, hn0, htk0, hm_InvalidPage⟩, ty_InvalidPage, ⟨cd_InvalidPage, cl_InvalidPage, .inl mr_InvalidPage⟩⟩
  have ErrsK : Errs K mg "PageError" errCs := ⟨C_PageError, [("PageError", C_PageError), ("InvalidRule", C_InvalidRule), ("InvalidLevels", C_InvalidLevels), ("InvalidKind", C_InvalidKind), ("InvalidNumber", C_InvalidNumber), ("InvalidLevel", C_InvalidLevel), ("InvalidPage", C_InvalidPage)], PySem.W.mg_of X N aC_PageError, by decide, rfl, List.forall_mem_cons.mpr ⟨K_PageError, List.forall_mem_cons.mpr ⟨K_InvalidRule, List.forall_mem_cons.mpr ⟨K_InvalidLevels, List.forall_mem_cons.mpr ⟨K_InvalidKind, List.forall_mem_cons.mpr ⟨K_InvalidNumber, List.forall_mem_cons.mpr ⟨K_InvalidLevel, List.forall_mem_cons.mpr ⟨K_InvalidPage, fun p hp => nomatch hp⟩⟩⟩⟩⟩⟩⟩, nd_errs⟩
  have O : Objs K mg := ⟨trivial, ⟨C_PageIndex, hC_PageIndex, cl_PageIndex, n_PageIndex_own_levels⟩, ⟨C_PageIndex, hC_PageIndex, cl_PageIndex, n_PageIndex_own_rule⟩, ⟨C_Rule, hC_Rule, cl_Rule, n_Rule_own_numbers⟩, ⟨C_PageIndex, hC_PageIndex, cl_PageIndex, n_PageIndex_own_levels⟩, ⟨C_Rule, hC_Rule, ks_Rule, List.forall_mem_cons.mpr ⟨⟨C_Rule, hC_Rule, cl_Rule, ha_Rule, hm_Rule, if_pos (by simp)⟩, List.forall_mem_cons.mpr ⟨⟨C_PageIndex, hC_PageIndex, cl_PageIndex, ha_PageIndex, hm_PageIndex, kit_two cl_Rule ty_Rule ne_PageIndex_Rule sn_PageIndex_Rule⟩, fun p hp => nomatch hp⟩⟩, hn0, htk0⟩, kt_two (PySem.W.mg_of X N ak_KINDS) lk_KINDS, ErrsK, ⟨C_InvalidKind, PySem.W.mg_of X N aC_InvalidKind, ex_InvalidKind, kc_InvalidKind, sb_InvalidKind, ty_InvalidKind⟩, ⟨C_InvalidLevel, PySem.W.mg_of X N aC_InvalidLevel, ex_InvalidLevel, kc_InvalidLevel, sb_InvalidLevel, ty_InvalidLevel⟩, ⟨C_InvalidNumber, PySem.W.mg_of X N aC_InvalidNumber, ex_InvalidNumber, kc_InvalidNumber, sb_InvalidNumber, ty_InvalidNumber⟩⟩
  refine ⟨PySem.W.fnOf "law" "law" (defArgs s_law) (defBody s_law) (defScope s_law) .none kV48 dc48 pm48 an48 cd48 ct48, fun s v => .of_eq rfl, fun base _ _ W => ?_⟩
  have Fe_InvalidLevels := fun_mk (st := s_InvalidLevels_init) l_InvalidLevels c_InvalidLevels ke_InvalidLevels
  have D_InvalidLevels_init : Ei PySem.Challenge.pw_leafsplits_k18_great_loads w K mg base 1 "InvalidLevels" "level" := ⟨C_InvalidLevels, fe_InvalidLevels, _, ["self", "level"], PySem.W.mg_of X N aC_InvalidLevels, ⟨⟨nm_InvalidLevels, q_InvalidLevels, N_InvalidLevels, bs_InvalidLevels, bm_InvalidLevels, sn_InvalidLevels, su_InvalidLevels, ab_InvalidLevels, co_InvalidLevels, dd_InvalidLevels, m0_InvalidLevels, m1_InvalidLevels, m2_InvalidLevels, m3_InvalidLevels, m5_InvalidLevels, xl_InvalidLevels, rv_InvalidLevels⟩, sa_InvalidLevels, sb_InvalidLevels, ty_InvalidLevels, kc_InvalidLevels⟩, ie_InvalidLevels, te_InvalidLevels, ne_InvalidLevels, Fe_InvalidLevels.binds (ps := ["self", "level"]) (fun _ _ _ _ _ _ us hl => match us, hl with | [_, _], _ => rfl), okEi Fe_InvalidLevels sc_InvalidLevels_init rfl⟩
  have Fe_InvalidRule := fun_mk (st := s_InvalidRule_init) l_InvalidRule c_InvalidRule ke_InvalidRule
  have D_InvalidRule_init : Ei PySem.Challenge.pw_leafsplits_k18_great_loads w K mg base 1 "InvalidRule" "item" := ⟨C_InvalidRule, fe_InvalidRule, _, ["self", "item"], PySem.W.mg_of X N aC_InvalidRule, ⟨⟨nm_InvalidRule, q_InvalidRule, N_InvalidRule, bs_InvalidRule, bm_InvalidRule, sn_InvalidRule, su_InvalidRule, ab_InvalidRule, co_InvalidRule, dd_InvalidRule, m0_InvalidRule, m1_InvalidRule, m2_InvalidRule, m3_InvalidRule, m5_InvalidRule, xl_InvalidRule, rv_InvalidRule⟩, sa_InvalidRule, sb_InvalidRule, ty_InvalidRule, kc_InvalidRule⟩, ie_InvalidRule, te_InvalidRule, ne_InvalidRule, Fe_InvalidRule.binds (ps := ["self", "item"]) (fun _ _ _ _ _ _ us hl => match us, hl with | [_, _], _ => rfl), okEi Fe_InvalidRule sc_InvalidRule_init rfl⟩
  have F0 := fun_mk (st := s_is_int) l0 c0 k0
  have D_is_int : Df PySem.Challenge.pw_leafsplits_k18_great_loads w K mg base 1 "is_int" (spZ K mg sp_is_int) := ⟨f0, _, ["value"], PySem.W.mg_of X N a0, F0.kp, F0.binds (ps := ["value"]) (fun _ _ _ _ _ _ us hl => match us, hl with | [_], _ => rfl), ok_is_int F0 G O⟩
  have F1 := fun_mk (st := s_is_whole) l1 c1 k1
  have D_is_whole : Df PySem.Challenge.pw_leafsplits_k18_great_loads w K mg base 2 "is_whole" (spZ K mg sp_is_whole) := ⟨f1, _, ["value", "low", "high"], PySem.W.mg_of X N a1, F1.kp, F1.binds (ps := ["value", "low", "high"]) (fun _ _ _ _ _ _ us hl => match us, hl with | [_, _, _], _ => rfl), ok_is_whole F1 G O D_is_int⟩
  have F2 := fun_mk (st := s_normal_level) l2 c2 k2
  have D_normal_level : Df PySem.Challenge.pw_leafsplits_k18_great_loads w K mg base 1 "normal_level" (spZ K mg sp_normal_level) := ⟨f2, _, ["pairs"], PySem.W.mg_of X N a2, F2.kp, F2.binds (ps := ["pairs"]) (fun _ _ _ _ _ _ us hl => match us, hl with | [_], _ => rfl), ok_normal_level F2 G O⟩
  have F3 := fun_mk (st := s_page_count) l3 c3 k3
  have D_page_count : Df PySem.Challenge.pw_leafsplits_k18_great_loads w K mg base 1 "page_count" (spZ K mg sp_page_count) := ⟨f3, _, ["level"], PySem.W.mg_of X N a3, F3.kp, F3.binds (ps := ["level"]) (fun _ _ _ _ _ _ us hl => match us, hl with | [_], _ => rfl), ok_page_count F3 G O⟩
  have F4 := fun_mk (st := s_item_count) l4 c4 k4
  have D_item_count : Df PySem.Challenge.pw_leafsplits_k18_great_loads w K mg base 1 "item_count" (spZ K mg sp_item_count) := ⟨f4, _, ["level"], PySem.W.mg_of X N a4, F4.kp, F4.binds (ps := ["level"]) (fun _ _ _ _ _ _ us hl => match us, hl with | [_], _ => rfl), ok_item_count F4 G O⟩
  have F5 := fun_mk (st := s_parted) l5 c5 k5
  have D_parted : Df PySem.Challenge.pw_leafsplits_k18_great_loads w K mg base 2 "parted" (spZ K mg sp_parted) := ⟨f5, _, ["level", "page"], PySem.W.mg_of X N a5, F5.kp, F5.binds (ps := ["level", "page"]) (fun _ _ _ _ _ _ us hl => match us, hl with | [_, _], _ => rfl), ok_parted F5 G O D_normal_level⟩
  have F6 := fun_mk (st := s_page_with) l6 c6 k6
  have D_page_with : Df PySem.Challenge.pw_leafsplits_k18_great_loads w K mg base 1 "page_with" (spZ K mg sp_page_with) := ⟨f6, _, ["level", "item"], PySem.W.mg_of X N a6, F6.kp, F6.binds (ps := ["level", "item"]) (fun _ _ _ _ _ _ us hl => match us, hl with | [_, _], _ => rfl), ok_page_with F6 G O⟩
  have F7 := fun_mk (st := s_is_part) l7 c7 k7
  have D_is_part : Df PySem.Challenge.pw_leafsplits_k18_great_loads w K mg base 3 "is_part" (spZ K mg sp_is_part) := ⟨f7, _, ["whole", "stays"], PySem.W.mg_of X N a7, F7.kp, F7.binds (ps := ["whole", "stays"]) (fun _ _ _ _ _ _ us hl => match us, hl with | [_, _], _ => rfl), ok_is_part F7 G O D_is_whole⟩
  have F8 := fun_mk (st := s_require_rule) l8 c8 k8
  have D_require_rule : Df PySem.Challenge.pw_leafsplits_k18_great_loads w K mg base 3 "require_rule" (spZ K mg sp_require_rule) := ⟨f8, _, ["value"], PySem.W.mg_of X N a8, F8.kp, F8.binds (ps := ["value"]) (fun _ _ _ _ _ _ us hl => match us, hl with | [_], _ => rfl), ok_require_rule F8 G O D_InvalidRule_init⟩
  have F9 := fun_mk (st := s_Rule_init) l9 c9 k9
  have D_Rule___init__ : Kl PySem.Challenge.pw_leafsplits_k18_great_loads w K mg base 4 "Rule" sp_Rule_init := ⟨C_Rule, f9, _, ["self", "leaf", "leaf_stays", "inner", "inner_stays"], hC_Rule, ⟨mk_Rule, a9, i9, kc_Rule⟩, F9.binds (ps := ["self", "leaf", "leaf_stays", "inner", "inner_stays"]) (fun _ _ _ _ _ _ us hl => match us, hl with | [_, _, _, _, _], _ => rfl), ok_Rule_init F9 G O D_InvalidRule_init D_is_whole D_is_part hC_Rule cl_Rule n_Rule_own_numbers⟩
  have F10 := fun_mk (st := s_Rule_leaf) l10 c10 k10
  have D_Rule_leaf : Kp PySem.Challenge.pw_leafsplits_k18_great_loads w K mg base 1 "Rule" "leaf" sp_Rule_leaf := ⟨C_Rule, p10, f10, _, ["self"], hC_Rule, cl_Rule, ⟨a10, g10, t10, rs10, r10⟩, F10.binds (ps := ["self"]) (fun _ _ _ _ _ _ us hl => match us, hl with | [_], _ => rfl), ok_Rule_leaf F10 G O⟩
  have F11 := fun_mk (st := s_Rule_inner) l11 c11 k11
  have D_Rule_inner : Kp PySem.Challenge.pw_leafsplits_k18_great_loads w K mg base 1 "Rule" "inner" sp_Rule_inner := ⟨C_Rule, p11, f11, _, ["self"], hC_Rule, cl_Rule, ⟨a11, g11, t11, rs11, r11⟩, F11.binds (ps := ["self"]) (fun _ _ _ _ _ _ us hl => match us, hl with | [_], _ => rfl), ok_Rule_inner F11 G O⟩
  have F12 := fun_mk (st := s_require_level) l12 c12 k12
  have D_require_level : Df PySem.Challenge.pw_leafsplits_k18_great_loads w K mg base 3 "require_level" (spZ K mg sp_require_level) := ⟨f12, _, ["index", "value"], PySem.W.mg_of X N a12, F12.kp, F12.binds (ps := ["index", "value"]) (fun _ _ _ _ _ _ us hl => match us, hl with | [_, _], _ => rfl), ok_require_level F12 G O D_is_whole⟩
  have F13 := fun_mk (st := s_is_pair) l13 c13 k13
  have D_is_pair : Df PySem.Challenge.pw_leafsplits_k18_great_loads w K mg base 2 "is_pair" (spZ K mg sp_is_pair) := ⟨f13, _, ["value", "most"], PySem.W.mg_of X N a13, F13.kp, F13.binds (ps := ["value", "most"]) (fun _ _ _ _ _ _ us hl => match us, hl with | [_, _], _ => rfl), ok_is_pair F13 G O D_is_int⟩
  have F14 := fun_mk (st := s_is_empty_level) l14 c14 k14
  have D_is_empty_level : Df PySem.Challenge.pw_leafsplits_k18_great_loads w K mg base 3 "is_empty_level" (spZ K mg sp_is_empty_level) := ⟨f14, _, ["level"], PySem.W.mg_of X N a14, F14.kp, F14.binds (ps := ["level"]) (fun _ _ _ _ _ _ us hl => match us, hl with | [_], _ => rfl), ok_is_empty_level F14 G O D_is_whole⟩
  have F15 := fun_mk (st := s_is_level) l15 c15 k15
  have D_is_level : Df PySem.Challenge.pw_leafsplits_k18_great_loads w K mg base 4 "is_level" (spZ K mg sp_is_level) := ⟨f15, _, ["levels", "spot", "most"], PySem.W.mg_of X N a15, F15.kp, F15.binds (ps := ["levels", "spot", "most"]) (fun _ _ _ _ _ _ us hl => match us, hl with | [_, _, _], _ => rfl), ok_is_level F15 G O D_page_count D_item_count D_is_pair D_is_empty_level⟩
  have F16 := fun_mk (st := s_require_levels) l16 c16 k16
  have D_require_levels : Df PySem.Challenge.pw_leafsplits_k18_great_loads w K mg base 5 "require_levels" (spZ K mg sp_require_levels) := ⟨f16, _, ["rule", "value"], PySem.W.mg_of X N a16, F16.kp, F16.binds (ps := ["rule", "value"]) (fun _ _ _ _ _ _ us hl => match us, hl with | [_, _], _ => rfl), ok_require_levels F16 G O D_InvalidLevels_init D_Rule_leaf D_Rule_inner D_is_level⟩
  have F17 := fun_mk (st := s_own_form) l17 c17 k17
  have D_own_form : Df PySem.Challenge.pw_leafsplits_k18_great_loads w K mg base 2 "own_form" (spZ K mg sp_own_form) := ⟨f17, _, ["levels"], PySem.W.mg_of X N a17, F17.kp, F17.binds (ps := ["levels"]) (fun _ _ _ _ _ _ us hl => match us, hl with | [_], _ => rfl), ok_own_form F17 G O D_normal_level⟩
  have F18 := fun_mk (st := s_PageIndex_init) l18 c18 k18
  have D_PageIndex___init__ : Kl PySem.Challenge.pw_leafsplits_k18_great_loads w K mg base 6 "PageIndex" sp_PageIndex_init := ⟨C_PageIndex, f18, _, ["self", "rule", "levels"], hC_PageIndex, ⟨mk_PageIndex, a18, i18, kc_PageIndex⟩, F18.binds (ps := ["self", "rule", "levels"]) (fun _ _ _ _ _ _ us hl => match us, hl with | [_, _, _], _ => rfl), ok_PageIndex_init F18 G O D_require_rule D_require_levels D_own_form hC_PageIndex cl_PageIndex n_PageIndex_own_rule n_PageIndex_own_levels⟩
  have F19 := fun_mk (st := s_PageIndex_entries) l19 c19 k19
  have D_PageIndex_entries : Kp PySem.Challenge.pw_leafsplits_k18_great_loads w K mg base 2 "PageIndex" "entries" sp_PageIndex_entries := ⟨C_PageIndex, p19, f19, _, ["self"], hC_PageIndex, cl_PageIndex, ⟨a19, g19, t19, rs19, r19⟩, F19.binds (ps := ["self"]) (fun _ _ _ _ _ _ us hl => match us, hl with | [_], _ => rfl), ok_PageIndex_entries F19 G O D_item_count⟩
  have F20 := fun_mk (st := s_PageIndex_height) l20 c20 k20
  have D_PageIndex_height : Kp PySem.Challenge.pw_leafsplits_k18_great_loads w K mg base 1 "PageIndex" "height" sp_PageIndex_height := ⟨C_PageIndex, p20, f20, _, ["self"], hC_PageIndex, cl_PageIndex, ⟨a20, g20, t20, rs20, r20⟩, F20.binds (ps := ["self"]) (fun _ _ _ _ _ _ us hl => match us, hl with | [_], _ => rfl), ok_PageIndex_height F20 G O⟩
  have F21 := fun_mk (st := s_PageIndex_pages) l21 c21 k21
  have D_PageIndex_pages : Km PySem.Challenge.pw_leafsplits_k18_great_loads w K mg base 4 "PageIndex" "pages" sp_PageIndex_pages := ⟨C_PageIndex, f21, _, ["self", "level"], hC_PageIndex, cl_PageIndex, ⟨a21, i21, k21⟩, F21.binds (ps := ["self", "level"]) (fun _ _ _ _ _ _ us hl => match us, hl with | [_, _], _ => rfl), ok_PageIndex_pages F21 G O D_page_count D_require_level⟩
  have F22 := fun_mk (st := s_made_index) l22 c22 k22
  have D_made_index : Df PySem.Challenge.pw_leafsplits_k18_great_loads w K mg base 8 "made_index" (spZ K mg sp_made_index) := ⟨f22, _, ["rule", "levels"], PySem.W.mg_of X N a22, F22.kp, F22.binds (ps := ["rule", "levels"]) (fun _ _ _ _ _ _ us hl => match us, hl with | [_, _], _ => rfl), ok_made_index F22 G O D_own_form D_PageIndex___init__⟩
  have F23 := fun_mk (st := s_new_index) l23 c23 k23
  have D_new_index : Df PySem.Challenge.pw_leafsplits_k18_great_loads w K mg base 8 "new_index" (spZ K mg sp_new_index) := ⟨f23, _, ["rule"], PySem.W.mg_of X N a23, F23.kp, F23.binds (ps := ["rule"]) (fun _ _ _ _ _ _ us hl => match us, hl with | [_], _ => rfl), ok_new_index F23 G O D_PageIndex___init__⟩
  have F24 := fun_mk (st := s_require_kind) l24 c24 k24
  have D_require_kind : Df PySem.Challenge.pw_leafsplits_k18_great_loads w K mg base 1 "require_kind" (spZ K mg sp_require_kind) := ⟨f24, _, ["value"], PySem.W.mg_of X N a24, F24.kp, F24.binds (ps := ["value"]) (fun _ _ _ _ _ _ us hl => match us, hl with | [_], _ => rfl), ok_require_kind F24 G O⟩
  have F25 := fun_mk (st := s_require_number) l25 c25 k25
  have D_require_number : Df PySem.Challenge.pw_leafsplits_k18_great_loads w K mg base 3 "require_number" (spZ K mg sp_require_number) := ⟨f25, _, ["value"], PySem.W.mg_of X N a25, F25.kp, F25.binds (ps := ["value"]) (fun _ _ _ _ _ _ us hl => match us, hl with | [_], _ => rfl), ok_require_number F25 G O D_is_whole⟩
  have F26 := fun_mk (st := s_require_any_level) l26 c26 k26
  have D_require_any_level : Df PySem.Challenge.pw_leafsplits_k18_great_loads w K mg base 3 "require_any_level" (spZ K mg sp_require_any_level) := ⟨f26, _, ["value"], PySem.W.mg_of X N a26, F26.kp, F26.binds (ps := ["value"]) (fun _ _ _ _ _ _ us hl => match us, hl with | [_], _ => rfl), ok_require_any_level F26 G O D_is_whole⟩
  have F27 := fun_mk (st := s_count_within) l27 c27 k27
  have D_count_within : Df PySem.Challenge.pw_leafsplits_k18_great_loads w K mg base 1 "count_within" (spZ K mg sp_count_within) := ⟨f27, _, ["number", "begin", "step"], PySem.W.mg_of X N a27, F27.kp, F27.binds (ps := ["number", "begin", "step"]) (fun _ _ _ _ _ _ us hl => match us, hl with | [_, _, _], _ => rfl), ok_count_within F27 G O⟩
  have F28 := fun_mk (st := s_splits_of) l28 c28 k28
  have D_splits_of : Df PySem.Challenge.pw_leafsplits_k18_great_loads w K mg base 2 "splits_of" (spZ K mg sp_splits_of) := ⟨f28, _, ["rule", "place", "segment"], PySem.W.mg_of X N a28, F28.kp, F28.binds (ps := ["rule", "place", "segment"]) (fun _ _ _ _ _ _ us hl => match us, hl with | [_, _, _], _ => rfl), ok_splits_of F28 G O D_count_within⟩
  have F29 := fun_mk (st := s_page_behind) l29 c29 k29
  have D_page_behind : Df PySem.Challenge.pw_leafsplits_k18_great_loads w K mg base 3 "page_behind" (spZ K mg sp_page_behind) := ⟨f29, _, ["rule", "place", "segment"], PySem.W.mg_of X N a29, F29.kp, F29.binds (ps := ["rule", "place", "segment"]) (fun _ _ _ _ _ _ us hl => match us, hl with | [_, _, _], _ => rfl), ok_page_behind F29 G O D_splits_of⟩
  have F30 := fun_mk (st := s_rule_of_level) l30 c30 k30
  have D_rule_of_level : Df PySem.Challenge.pw_leafsplits_k18_great_loads w K mg base 1 "rule_of_level" (spZ K mg sp_rule_of_level) := ⟨f30, _, ["rule", "level"], PySem.W.mg_of X N a30, F30.kp, F30.binds (ps := ["rule", "level"]) (fun _ _ _ _ _ _ us hl => match us, hl with | [_, _], _ => rfl), ok_rule_of_level F30 G O⟩
  have F31 := fun_mk (st := s_pairs_of) l31 c31 k31
  have D_pairs_of : Df PySem.Challenge.pw_leafsplits_k18_great_loads w K mg base 1 "pairs_of" (spZ K mg sp_pairs_of) := ⟨f31, _, ["index", "level"], PySem.W.mg_of X N a31, F31.kp, F31.binds (ps := ["index", "level"]) (fun _ _ _ _ _ _ us hl => match us, hl with | [_, _], _ => rfl), ok_pairs_of F31 G O⟩
  have F32 := fun_mk (st := s_leaf_place) l32 c32 k32
  have D_leaf_place : Df PySem.Challenge.pw_leafsplits_k18_great_loads w K mg base 2 "leaf_place" (spZ K mg sp_leaf_place) := ⟨f32, _, ["index", "gap"], PySem.W.mg_of X N a32, F32.kp, F32.binds (ps := ["index", "gap"]) (fun _ _ _ _ _ _ us hl => match us, hl with | [_, _], _ => rfl), ok_leaf_place F32 G O D_page_with⟩
  have F33 := fun_mk (st := s_place_above) l33 c33 k33
  have D_place_above : Df PySem.Challenge.pw_leafsplits_k18_great_loads w K mg base 2 "place_above" (spZ K mg sp_place_above) := ⟨f33, _, ["index", "level", "page"], PySem.W.mg_of X N a33, F33.kp, F33.binds (ps := ["index", "level", "page"]) (fun _ _ _ _ _ _ us hl => match us, hl with | [_, _, _], _ => rfl), ok_place_above F33 G O D_page_with⟩
  have F34 := fun_mk (st := s_changed_level) l34 c34 k34
  have D_changed_level : Df PySem.Challenge.pw_leafsplits_k18_great_loads w K mg base 4 "changed_level" (spZ K mg sp_changed_level) := ⟨f34, _, ["rule", "pairs", "page", "ahead", "segments"], PySem.W.mg_of X N a34, F34.kp, F34.binds (ps := ["rule", "pairs", "page", "ahead", "segments"]) (fun _ _ _ _ _ _ us hl => match us, hl with | [_, _, _, _, _], _ => rfl), ok_changed_level F34 G O D_parted D_splits_of D_page_behind⟩
  have F35 := fun_mk (st := s_run_behind) l35 c35 k35
  have D_run_behind : Df PySem.Challenge.pw_leafsplits_k18_great_loads w K mg base 9 "run_behind" (spZ K mg sp_run_behind) := ⟨f35, _, ["index", "kind", "gap", "number"], PySem.W.mg_of X N a35, F35.kp, F35.binds (ps := ["index", "kind", "gap", "number"]) (fun _ _ _ _ _ _ us hl => match us, hl with | [_, _, _, _], _ => rfl), ok_run_behind F35 G O D_made_index D_rule_of_level D_pairs_of D_leaf_place D_place_above D_changed_level⟩
  have F36 := fun_mk (st := s_first_split) l36 c36 k36
  have D_first_split : Df PySem.Challenge.pw_leafsplits_k18_great_loads w K mg base 1 "first_split" (spZ K mg sp_first_split) := ⟨f36, _, ["rule", "kind", "level"], PySem.W.mg_of X N a36, F36.kp, F36.binds (ps := ["rule", "kind", "level"]) (fun _ _ _ _ _ _ us hl => match us, hl with | [_, _, _], _ => rfl), ok_first_split F36 G O⟩
  have F37 := fun_mk (st := s_loaded) l37 c37 k37
  have D_loaded : Df PySem.Challenge.pw_leafsplits_k18_great_loads w K mg base 10 "loaded" (spZ K mg sp_loaded) := ⟨f37, _, ["rule", "kind", "number"], PySem.W.mg_of X N a37, F37.kp, F37.binds (ps := ["rule", "kind", "number"]) (fun _ _ _ _ _ _ us hl => match us, hl with | [_, _, _], _ => rfl), ok_loaded F37 G O D_require_rule D_new_index D_require_kind D_require_number D_run_behind⟩
  have F38 := fun_mk (st := s_load_pages) l38 c38 k38
  have D_load_pages : Df PySem.Challenge.pw_leafsplits_k18_great_loads w K mg base 4 "load_pages" (spZ K mg sp_load_pages) := ⟨f38, _, ["rule", "kind", "number", "level"], PySem.W.mg_of X N a38, F38.kp, F38.binds (ps := ["rule", "kind", "number", "level"]) (fun _ _ _ _ _ _ us hl => match us, hl with | [_, _, _, _], _ => rfl), ok_load_pages F38 G O D_require_rule D_require_kind D_require_number D_require_any_level D_count_within D_first_split⟩
  have F39 := fun_mk (st := s_load_height) l39 c39 k39
  have D_load_height : Df PySem.Challenge.pw_leafsplits_k18_great_loads w K mg base 4 "load_height" (spZ K mg sp_load_height) := ⟨f39, _, ["rule", "kind", "number"], PySem.W.mg_of X N a39, F39.kp, F39.binds (ps := ["rule", "kind", "number"]) (fun _ _ _ _ _ _ us hl => match us, hl with | [_, _, _], _ => rfl), ok_load_height F39 G O D_require_rule D_require_kind D_require_number D_first_split⟩
  have F40 := fun_mk (st := s_law_bag) l40 c40 k40
  have D__law_bag : Df PySem.Challenge.pw_leafsplits_k18_great_loads w K mg base 1 "_law_bag" (spZ K mg sp_law_bag) := ⟨f40, _, ["cell"], PySem.W.mg_of X N a40, F40.kp, F40.binds (ps := ["cell"]) (fun _ _ _ _ _ _ us hl => match us, hl with | [_], _ => rfl), ok_law_bag F40 G O⟩
  have F41 := fun_mk (st := s_law_pick) l41 c41 k41
  have D__law_pick : Df PySem.Challenge.pw_leafsplits_k18_great_loads w K mg base 1 "_law_pick" (spB K mg sp_law_pick) := ⟨f41, _, ["bag", "many"], PySem.W.mg_of X N a41, F41.kp, F41.binds (ps := ["bag", "many"]) (fun _ _ _ _ _ _ us hl => match us, hl with | [_, _], _ => rfl), ok_law_pick F41 G O⟩
  have F42 := fun_mk (st := s_law_rule) l42 c42 k42
  have D__law_rule : Df PySem.Challenge.pw_leafsplits_k18_great_loads w K mg base 2 "_law_rule" (spB K mg sp_law_rule) := ⟨f42, _, ["bag"], PySem.W.mg_of X N a42, F42.kp, F42.binds (ps := ["bag"]) (fun _ _ _ _ _ _ us hl => match us, hl with | [_], _ => rfl), ok_law_rule F42 G O D__law_pick⟩
  have F43 := fun_mk (st := s_law_great_rule) l43 c43 k43
  have D__law_great_rule : Df PySem.Challenge.pw_leafsplits_k18_great_loads w K mg base 2 "_law_great_rule" (spB K mg sp_law_great_rule) := ⟨f43, _, ["bag"], PySem.W.mg_of X N a43, F43.kp, F43.binds (ps := ["bag"]) (fun _ _ _ _ _ _ us hl => match us, hl with | [_], _ => rfl), ok_law_great_rule F43 G O D__law_pick⟩
  have F44 := fun_mk (st := s_law_any_rule) l44 c44 k44
  have D__law_any_rule : Df PySem.Challenge.pw_leafsplits_k18_great_loads w K mg base 3 "_law_any_rule" (spB K mg sp_law_any_rule) := ⟨f44, _, ["bag"], PySem.W.mg_of X N a44, F44.kp, F44.binds (ps := ["bag"]) (fun _ _ _ _ _ _ us hl => match us, hl with | [_], _ => rfl), ok_law_any_rule F44 G O D__law_pick D__law_rule D__law_great_rule⟩
  have F45 := fun_mk (st := s_law_firsts) l45 c45 k45
  have D__law_firsts : Df PySem.Challenge.pw_leafsplits_k18_great_loads w K mg base 1 "_law_firsts" (spZ K mg sp_law_firsts) := ⟨f45, _, ["rule", "kind", "level"], PySem.W.mg_of X N a45, F45.kp, F45.binds (ps := ["rule", "kind", "level"]) (fun _ _ _ _ _ _ us hl => match us, hl with | [_, _, _], _ => rfl), ok_law_firsts F45 G O⟩
  have F46 := fun_mk (st := s_law_due) l46 c46 k46
  have D__law_due : Df PySem.Challenge.pw_leafsplits_k18_great_loads w K mg base 2 "_law_due" (spZ K mg sp_law_due) := ⟨f46, _, ["rule", "kind", "number", "level"], PySem.W.mg_of X N a46, F46.kp, F46.binds (ps := ["rule", "kind", "number", "level"]) (fun _ _ _ _ _ _ us hl => match us, hl with | [_, _, _, _], _ => rfl), ok_law_due F46 G O D__law_firsts⟩
  have F47 := fun_mk (st := s_law_right) l47 c47 k47
  have D__law_right : Df PySem.Challenge.pw_leafsplits_k18_great_loads w K mg base 11 "_law_right" (spB K mg sp_law_right) := ⟨f47, _, ["bag", "rule", "kind"], PySem.W.mg_of X N a47, F47.kp, F47.binds (ps := ["bag", "rule", "kind"]) (fun _ _ _ _ _ _ us hl => match us, hl with | [_, _, _], _ => rfl), ok_law_right F47 G O D_Rule___init__ D_PageIndex_entries D_PageIndex_height D_PageIndex_pages D_loaded D_load_pages D_load_height D__law_pick D__law_firsts D__law_due⟩
  exact ok_law (fun_mk (st := s_law) l48 c48 k48) G O D_Rule___init__ D_load_pages D_load_height D__law_bag D__law_any_rule D__law_right
end K18
open PySem PySem.W PyProof.Rows
set_option maxHeartbeats 0 in
theorem PySem.Challenge.cw_leafsplits_k18_great_loads_holds : PySem.Challenge.rw_leafsplits_k18_great_loads.Holds := by
  w_on; o_law; k_head; (case hw => w_witness2)
  k_fill
  refine Zz.walkPS (l := PySem.Challenge.rw_leafsplits_k18_great_loads) (n := 63) (k := 12) (x := "script") (sp := K18.sp_law) rfl (by decide) rfl ⟨rfl, by decide, by decide⟩ (fun w h Y => PySem.W.kIn_of Y) (by decide +kernel) rfl ?F K18.hsp
  case F =>
    intro w mg fa h KX G hmg
    refine' K18.all_mk KX G hmg ?ty_Rule ?aC_Rule ?pg_Rule ?hd_Rule ?po_Rule ?sa_Rule ?mk_Rule ?kc_Rule ?ha_Rule ?hm_Rule ?n_Rule_own_numbers ?nf_Rule_NoneType ?nf_Rule_bool ?nf_Rule_int ?nf_Rule_str ?nf_Rule_list ?nf_Rule_tuple ?nf_Rule_dict ?ty_PageIndex ?aC_PageIndex ?pg_PageIndex ?hd_PageIndex ?po_PageIndex ?sa_PageIndex ?mk_PageIndex ?kc_PageIndex ?ha_PageIndex ?hm_PageIndex ?n_PageIndex_own_rule ?n_PageIndex_own_levels ?nf_PageIndex_NoneType ?nf_PageIndex_bool ?nf_PageIndex_int ?nf_PageIndex_str ?nf_PageIndex_list ?nf_PageIndex_tuple ?nf_PageIndex_dict ?ne_PageIndex_Rule ?sn_PageIndex_Rule ?hn0 ?htk0 ?aC_PageError ?ga_PageError ?gg_PageError ?sb_PageError ?hd_PageError ?ha_PageError ?hm_PageError ?ty_PageError ?cl_PageError ?mr_PageError ?aC_InvalidRule ?ga_InvalidRule ?gg_InvalidRule ?sb_InvalidRule ?hd_InvalidRule ?ha_InvalidRule ?hm_InvalidRule ?ty_InvalidRule ?cl_InvalidRule ?mr_InvalidRule ?xl_InvalidRule ?rv_InvalidRule ?sa_InvalidRule ?kc_InvalidRule ?ie_InvalidRule ?te_InvalidRule ?ne_InvalidRule ?l_InvalidRule ?c_InvalidRule ?ke_InvalidRule ?aC_InvalidLevels ?ga_InvalidLevels ?gg_InvalidLevels ?sb_InvalidLevels ?hd_InvalidLevels ?ha_InvalidLevels ?hm_InvalidLevels ?ty_InvalidLevels ?cl_InvalidLevels ?mr_InvalidLevels ?xl_InvalidLevels ?rv_InvalidLevels ?sa_InvalidLevels ?kc_InvalidLevels ?ie_InvalidLevels ?te_InvalidLevels ?ne_InvalidLevels ?l_InvalidLevels ?c_InvalidLevels ?ke_InvalidLevels ?aC_InvalidKind ?ga_InvalidKind ?gg_InvalidKind ?sb_InvalidKind ?hd_InvalidKind ?ha_InvalidKind ?hm_InvalidKind ?ty_InvalidKind ?cl_InvalidKind ?mr_InvalidKind ?ex_InvalidKind ?kc_InvalidKind ?aC_InvalidNumber ?ga_InvalidNumber ?gg_InvalidNumber ?sb_InvalidNumber ?hd_InvalidNumber ?ha_InvalidNumber ?hm_InvalidNumber ?ty_InvalidNumber ?cl_InvalidNumber ?mr_InvalidNumber ?ex_InvalidNumber ?kc_InvalidNumber ?aC_InvalidLevel ?ga_InvalidLevel ?gg_InvalidLevel ?sb_InvalidLevel ?hd_InvalidLevel ?ha_InvalidLevel ?hm_InvalidLevel ?ty_InvalidLevel ?cl_InvalidLevel ?mr_InvalidLevel ?ex_InvalidLevel ?kc_InvalidLevel ?aC_InvalidPage ?ga_InvalidPage ?gg_InvalidPage ?sb_InvalidPage ?hd_InvalidPage ?ha_InvalidPage ?hm_InvalidPage ?ty_InvalidPage ?cl_InvalidPage ?mr_InvalidPage ?nd_errs ?a0 ?l0 ?c0 ?k0 ?a1 ?l1 ?c1 ?k1 ?a2 ?l2 ?c2 ?k2 ?a3 ?l3 ?c3 ?k3 ?a4 ?l4 ?c4 ?k4 ?a5 ?l5 ?c5 ?k5 ?a6 ?l6 ?c6 ?k6 ?a7 ?l7 ?c7 ?k7 ?a8 ?l8 ?c8 ?k8 ?a9 ?i9 ?l9 ?c9 ?k9 ?a10 ?g10 ?t10 ?r10 ?l10 ?c10 ?k10 ?a11 ?g11 ?t11 ?r11 ?l11 ?c11 ?k11 ?a12 ?l12 ?c12 ?k12 ?a13 ?l13 ?c13 ?k13 ?a14 ?l14 ?c14 ?k14 ?a15 ?l15 ?c15 ?k15 ?a16 ?l16 ?c16 ?k16 ?a17 ?l17 ?c17 ?k17 ?a18 ?i18 ?l18 ?c18 ?k18 ?a19 ?g19 ?t19 ?r19 ?l19 ?c19 ?k19 ?a20 ?g20 ?t20 ?r20 ?l20 ?c20 ?k20 ?a21 ?i21 ?l21 ?c21 ?k21 ?a22 ?l22 ?c22 ?k22 ?a23 ?l23 ?c23 ?k23 ?a24 ?l24 ?c24 ?k24 ?a25 ?l25 ?c25 ?k25 ?a26 ?l26 ?c26 ?k26 ?a27 ?l27 ?c27 ?k27 ?a28 ?l28 ?c28 ?k28 ?a29 ?l29 ?c29 ?k29 ?a30 ?l30 ?c30 ?k30 ?a31 ?l31 ?c31 ?k31 ?a32 ?l32 ?c32 ?k32 ?a33 ?l33 ?c33 ?k33 ?a34 ?l34 ?c34 ?k34 ?a35 ?l35 ?c35 ?k35 ?a36 ?l36 ?c36 ?k36 ?a37 ?l37 ?c37 ?k37 ?a38 ?l38 ?c38 ?k38 ?a39 ?l39 ?c39 ?k39 ?a40 ?l40 ?c40 ?k40 ?a41 ?l41 ?c41 ?k41 ?a42 ?l42 ?c42 ?k42 ?a43 ?l43 ?c43 ?k43 ?a44 ?l44 ?c44 ?k44 ?a45 ?l45 ?c45 ?k45 ?a46 ?l46 ?c46 ?k46 ?a47 ?l47 ?c47 ?k47 ?a48 ?l48 ?c48 ?k48 ?zb_all ?zb_bool ?zb_enumerate ?zb_int ?zb_isinstance ?zb_len ?zb_list ?zb_max ?zb_min ?zb_range ?zb_repr ?zb_set ?zb_sorted ?zb_str ?zb_sum ?zb_tuple ?zc_LEAST_PAGE ?zc_MOST_LEVEL ?zc_MOST_LEVELS ?zc_MOST_NUMBER ?zc_MOST_PAGE ?zc_MOST_PAIRS ?zc_MOST_TIMES ?ak_KINDS ?lk_KINDS
    (case ty_Rule => k_is); (case aC_Rule => k_is); (case pg_Rule => k_is); (case hd_Rule => k_is); (case po_Rule => k_is); (case sa_Rule => k_is); (case mk_Rule => k_is); (case kc_Rule => k_is); (case ha_Rule => k_is); (case hm_Rule => k_is); (case n_Rule_own_numbers => k_is); (case nf_Rule_NoneType => k_is); (case nf_Rule_bool => k_is); (case nf_Rule_int => k_is); (case nf_Rule_str => k_is); (case nf_Rule_list => k_is); (case nf_Rule_tuple => k_is); (case nf_Rule_dict => k_is); (case ty_PageIndex => k_is); (case aC_PageIndex => k_is); (case pg_PageIndex => k_is); (case hd_PageIndex => k_is); (case po_PageIndex => k_is); (case sa_PageIndex => k_is); (case mk_PageIndex => k_is); (case kc_PageIndex => k_is); (case ha_PageIndex => k_is); (case hm_PageIndex => k_is); (case n_PageIndex_own_rule => k_is); (case n_PageIndex_own_levels => k_is); (case nf_PageIndex_NoneType => k_is); (case nf_PageIndex_bool => k_is); (case nf_PageIndex_int => k_is); (case nf_PageIndex_str => k_is); (case nf_PageIndex_list => k_is); (case nf_PageIndex_tuple => k_is); (case nf_PageIndex_dict => k_is); (case ne_PageIndex_Rule => decide); (case sn_PageIndex_Rule => k_is); (case hn0 => k_is); (case htk0 => k_is); (case aC_PageError => k_is); (case ga_PageError => k_is); (case gg_PageError => k_is); (case sb_PageError => k_is); (case hd_PageError => k_is); (case ha_PageError => k_is); (case hm_PageError => k_is); (case ty_PageError => k_is); (case cl_PageError => k_is); (case mr_PageError => exact rfl); (case aC_InvalidRule => k_is); (case ga_InvalidRule => k_is); (case gg_InvalidRule => k_is); (case sb_InvalidRule => k_is); (case hd_InvalidRule => k_is); (case ha_InvalidRule => k_is); (case hm_InvalidRule => k_is); (case ty_InvalidRule => k_is); (case cl_InvalidRule => k_is); (case mr_InvalidRule => exact rfl); (case xl_InvalidRule => k_is); (case rv_InvalidRule => exact rfl); (case sa_InvalidRule => k_is); (case kc_InvalidRule => k_is); (case ie_InvalidRule => k_is); (case te_InvalidRule => k_is); (case ne_InvalidRule => k_is); (case l_InvalidRule => k_is); (case c_InvalidRule => k_is); (case ke_InvalidRule => k_is); (case aC_InvalidLevels => k_is); (case ga_InvalidLevels => k_is); (case gg_InvalidLevels => k_is); (case sb_InvalidLevels => k_is); (case hd_InvalidLevels => k_is); (case ha_InvalidLevels => k_is); (case hm_InvalidLevels => k_is); (case ty_InvalidLevels => k_is); (case cl_InvalidLevels => k_is); (case mr_InvalidLevels => exact rfl); (case xl_InvalidLevels => k_is); (case rv_InvalidLevels => exact rfl); (case sa_InvalidLevels => k_is); (case kc_InvalidLevels => k_is); (case ie_InvalidLevels => k_is); (case te_InvalidLevels => k_is); (case ne_InvalidLevels => k_is); (case l_InvalidLevels => k_is); (case c_InvalidLevels => k_is); (case ke_InvalidLevels => k_is); (case aC_InvalidKind => k_is); (case ga_InvalidKind => k_is); (case gg_InvalidKind => k_is); (case sb_InvalidKind => k_is); (case hd_InvalidKind => k_is); (case ha_InvalidKind => k_is); (case hm_InvalidKind => k_is); (case ty_InvalidKind => k_is); (case cl_InvalidKind => k_is); (case mr_InvalidKind => exact rfl); (case ex_InvalidKind => k_exc); (case kc_InvalidKind => k_is); (case aC_InvalidNumber => k_is); (case ga_InvalidNumber => k_is); (case gg_InvalidNumber => k_is); (case sb_InvalidNumber => k_is); (case hd_InvalidNumber => k_is); (case ha_InvalidNumber => k_is); (case hm_InvalidNumber => k_is); (case ty_InvalidNumber => k_is); (case cl_InvalidNumber => k_is); (case mr_InvalidNumber => exact rfl); (case ex_InvalidNumber => k_exc); (case kc_InvalidNumber => k_is); (case aC_InvalidLevel => k_is); (case ga_InvalidLevel => k_is); (case gg_InvalidLevel => k_is); (case sb_InvalidLevel => k_is); (case hd_InvalidLevel => k_is); (case ha_InvalidLevel => k_is); (case hm_InvalidLevel => k_is); (case ty_InvalidLevel => k_is); (case cl_InvalidLevel => k_is); (case mr_InvalidLevel => exact rfl); (case ex_InvalidLevel => k_exc); (case kc_InvalidLevel => k_is); (case aC_InvalidPage => k_is); (case ga_InvalidPage => k_is); (case gg_InvalidPage => k_is); (case sb_InvalidPage => k_is); (case hd_InvalidPage => k_is); (case ha_InvalidPage => k_is); (case hm_InvalidPage => k_is); (case ty_InvalidPage => k_is); (case cl_InvalidPage => k_is); (case mr_InvalidPage => exact rfl); (case nd_errs => decide); (case a0 => k_is); (case l0 => k_is); (case c0 => k_is); (case k0 => k_is); (case a1 => k_is); (case l1 => k_is); (case c1 => k_is); (case k1 => k_is); (case a2 => k_is); (case l2 => k_is); (case c2 => k_is); (case k2 => k_is); (case a3 => k_is); (case l3 => k_is); (case c3 => k_is); (case k3 => k_is); (case a4 => k_is); (case l4 => k_is); (case c4 => k_is); (case k4 => k_is); (case a5 => k_is); (case l5 => k_is); (case c5 => k_is); (case k5 => k_is); (case a6 => k_is); (case l6 => k_is); (case c6 => k_is); (case k6 => k_is); (case a7 => k_is); (case l7 => k_is); (case c7 => k_is); (case k7 => k_is); (case a8 => k_is); (case l8 => k_is); (case c8 => k_is); (case k8 => k_is); (case a9 => k_is); (case i9 => k_is); (case l9 => k_is); (case c9 => k_is); (case k9 => k_is); (case a10 => k_is); (case g10 => k_is); (case t10 => k_is); (case r10 => k_is); (case l10 => k_is); (case c10 => k_is); (case k10 => k_is); (case a11 => k_is); (case g11 => k_is); (case t11 => k_is); (case r11 => k_is); (case l11 => k_is); (case c11 => k_is); (case k11 => k_is); (case a12 => k_is); (case l12 => k_is); (case c12 => k_is); (case k12 => k_is); (case a13 => k_is); (case l13 => k_is); (case c13 => k_is); (case k13 => k_is); (case a14 => k_is); (case l14 => k_is); (case c14 => k_is); (case k14 => k_is); (case a15 => k_is); (case l15 => k_is); (case c15 => k_is); (case k15 => k_is); (case a16 => k_is); (case l16 => k_is); (case c16 => k_is); (case k16 => k_is); (case a17 => k_is); (case l17 => k_is); (case c17 => k_is); (case k17 => k_is); (case a18 => k_is); (case i18 => k_is); (case l18 => k_is); (case c18 => k_is); (case k18 => k_is); (case a19 => k_is); (case g19 => k_is); (case t19 => k_is); (case r19 => k_is); (case l19 => k_is); (case c19 => k_is); (case k19 => k_is); (case a20 => k_is); (case g20 => k_is); (case t20 => k_is); (case r20 => k_is); (case l20 => k_is); (case c20 => k_is); (case k20 => k_is); (case a21 => k_is); (case i21 => k_is); (case l21 => k_is); (case c21 => k_is); (case k21 => k_is); (case a22 => k_is); (case l22 => k_is); (case c22 => k_is); (case k22 => k_is); (case a23 => k_is); (case l23 => k_is); (case c23 => k_is); (case k23 => k_is); (case a24 => k_is); (case l24 => k_is); (case c24 => k_is); (case k24 => k_is); (case a25 => k_is); (case l25 => k_is); (case c25 => k_is); (case k25 => k_is); (case a26 => k_is); (case l26 => k_is); (case c26 => k_is); (case k26 => k_is); (case a27 => k_is); (case l27 => k_is); (case c27 => k_is); (case k27 => k_is); (case a28 => k_is); (case l28 => k_is); (case c28 => k_is); (case k28 => k_is); (case a29 => k_is); (case l29 => k_is); (case c29 => k_is); (case k29 => k_is); (case a30 => k_is); (case l30 => k_is); (case c30 => k_is); (case k30 => k_is); (case a31 => k_is); (case l31 => k_is); (case c31 => k_is); (case k31 => k_is); (case a32 => k_is); (case l32 => k_is); (case c32 => k_is); (case k32 => k_is); (case a33 => k_is); (case l33 => k_is); (case c33 => k_is); (case k33 => k_is); (case a34 => k_is); (case l34 => k_is); (case c34 => k_is); (case k34 => k_is); (case a35 => k_is); (case l35 => k_is); (case c35 => k_is); (case k35 => k_is); (case a36 => k_is); (case l36 => k_is); (case c36 => k_is); (case k36 => k_is); (case a37 => k_is); (case l37 => k_is); (case c37 => k_is); (case k37 => k_is); (case a38 => k_is); (case l38 => k_is); (case c38 => k_is); (case k38 => k_is); (case a39 => k_is); (case l39 => k_is); (case c39 => k_is); (case k39 => k_is); (case a40 => k_is); (case l40 => k_is); (case c40 => k_is); (case k40 => k_is); (case a41 => k_is); (case l41 => k_is); (case c41 => k_is); (case k41 => k_is); (case a42 => k_is); (case l42 => k_is); (case c42 => k_is); (case k42 => k_is); (case a43 => k_is); (case l43 => k_is); (case c43 => k_is); (case k43 => k_is); (case a44 => k_is); (case l44 => k_is); (case c44 => k_is); (case k44 => k_is); (case a45 => k_is); (case l45 => k_is); (case c45 => k_is); (case k45 => k_is); (case a46 => k_is); (case l46 => k_is); (case c46 => k_is); (case k46 => k_is); (case a47 => k_is); (case l47 => k_is); (case c47 => k_is); (case k47 => k_is); (case a48 => k_is); (case l48 => k_is); (case c48 => k_is); (case k48 => k_is); (case zb_all => k_is); (case zb_bool => k_is); (case zb_enumerate => k_is); (case zb_int => k_is); (case zb_isinstance => k_is); (case zb_len => k_is); (case zb_list => k_is); (case zb_max => k_is); (case zb_min => k_is); (case zb_range => k_is); (case zb_repr => k_is); (case zb_set => k_is); (case zb_sorted => k_is); (case zb_str => k_is); (case zb_sum => k_is); (case zb_tuple => k_is); (case zc_LEAST_PAGE => k_is); (case zc_MOST_LEVEL => k_is); (case zc_MOST_LEVELS => k_is); (case zc_MOST_NUMBER => k_is); (case zc_MOST_PAGE => k_is); (case zc_MOST_PAIRS => k_is); (case zc_MOST_TIMES => k_is); (case ak_KINDS => k_is); (case lk_KINDS => k_is)

