import PyProof.Rows.All
import Wide.All
import OpenK.AllK
import Wide.FinOn
import HandS.ForMost
import HandS.Defaults
import HandS.Deep
import HandS.DictComp
import PyProof.InstNe
import HandS.ForExc
import KE.SortData
import HandS.Property
import HandS.IsInst
import HandS.TupAny
import HandS.Style
import HandS.Zip
import HandS.More
import PyProof.ListStr
import KE.GoesEnum
import HandS.ExcOwn
import HandS.WordsExc
import HandS.ClsMeth
import HandS.Codes
import HandS.Lambda
import HandS.HeadEnd
import HandS.HeadHook2
import KE.KStateDown
import HandS.Head0
import HandS.Head1
import HandS.Head2
import HandS.HeadHook1
import PySem.Challenge.RW_onlydeeper_k61_several_keys_in_one_hand
set_option Elab.async false
set_option linter.all false
set_option maxRecDepth 100000
set_option maxHeartbeats 0
/-! Y18: == and != of dicts with keys ints and texts, their values data. -/
namespace Y
open PySem PyProof.Rows L2
/-- the pairs of a are in b -/
def subKV (ls : List (Key × PyData)) : List (Key × PyData) → Bool
  | [] => true
  | p :: r => match ls.find? fun q => decide (q.1 = p.1) with
    | some q => PyData.eqv p.2 q.2 && subKV ls r
    | none => false
def eqKV (ks ls : List (Key × PyData)) : Bool := (ks.length == ls.length) && subKV ls ks
/-- a dict's pairs read as data -/
inductive KvD (K : PySem.W.Frag) (H : Hp) : List (Key × V) → List (Key × PyData) → Prop where
  | nil : KvD K H [] []
  | cons {k : Key} {v : V} {d : PyData} {r : List (Key × V)} {s : List (Key × PyData)} (h : Dp K H v d) (sh : SeqAt.shaped d = true) (t : KvD K H r s) : KvD K H ((k, v) :: r) ((k, d) :: s)
section
variable {X : Cx} {pins : List (Addr × Obj)} {σ : L2.St} {H : Hp} {s : Shared}
theorem KvD.length {ks : List (Key × V)} {ds : List (Key × PyData)} (h : KvD X.K H ks ds) : ks.length = ds.length := by
  induction h with
  | nil => rfl
  | cons _ _ _ ih => simp [ih]
theorem KvD.at {ls : List (Key × V)} {ds : List (Key × PyData)} (h : KvD X.K H ls ds) (k : Key) : (valV ls k = none ∧ ds.find? (fun q => decide (q.1 = k)) = none) ∨ ∃ v d, valV ls k = some v ∧ ds.find? (fun q => decide (q.1 = k)) = some (k, d) ∧ Dp X.K H v d ∧ SeqAt.shaped d = true := by
  induction h with
  | nil => exact .inl ⟨rfl, rfl⟩
  | @cons k' v d r s hd sh t ih =>
    by_cases e : k' = k
    · subst e
      exact .inr ⟨v, d, valV_pos rfl, by rw [List.find?_cons, decide_eq_true rfl], hd, sh⟩
    · rw [valV_neg e, List.find?_cons, decide_eq_false e]
      exact ih
theorem hitsD (I : Inv X pins σ H s) {A : Around} (hu : A.units + 64 < cLine) {ls : List (Key × V)} {dl : List (Key × PyData)} (hl : KvD X.K H ls dl) {vb : List (Key × Value)} (rb : KV ls vb) : ∀ {ks : List (Key × V)} {dk : List (Key × PyData)} {va : List (Key × Value)}, KvD X.K H ks dk → KV ks va → PySem.W.KeqHits A s vb va (subKV dl dk)
  | [], _, va, h, ra => by
    cases h
    cases ra
    exact .nil
  | _ :: ks, _, va, h, ra => by
    cases h with
    | @cons k v d _ dk hd sh t =>
      cases ra with
      | @cons _ q _ va hq tr =>
        obtain ⟨e1, rv⟩ := hq
        obtain ⟨k2, u⟩ := q
        have e1 : k = k2 := e1
        subst e1
        have rel := rb.val k
        rcases hl.at k with ⟨n1, n2⟩ | ⟨w, dw, n1, n2, hw, shw⟩
        · have : subKV dl ((k, d) :: dk) = false := by
            unfold subKV
            rw [n2]
          rw [this]
          refine .miss ?_
          rw [n1] at rel
          cases q : valueAt vb k with
          | none => rfl
          | some y => rw [q] at rel; exact rel.elim
        · have : subKV dl ((k, d) :: dk) = (PyData.eqv d dw && subKV dl dk) := by
            rw [subKV]
            rw [n2]
          rw [this]
          rw [n1] at rel
          obtain ⟨y, hy, ry⟩ := rel.some_of
          obtain ⟨as, r1⟩ := Dp.reads I d v u hd rv
          obtain ⟨bs, r2⟩ := Dp.reads I dw w y hw ry
          refine .hit hy (SeqAt.eqAt_reads d dw A s u y as bs r1 r2 (SeqAt.canLay_of_shaped sh) (SeqAt.canLay_of_shaped shw) (SeqAt.room_of_shaped sh hu)) (hitsD I hu hl rb t tr)
def rDictQ (K : PySem.W.Frag) (neg : Bool) : R2 := fun x y H Q => ∃ a b ks ls dk dl, x = .ref a ∧ y = .ref b ∧ Rd H a (.dK ks) ∧ Rd H b (.dK ls) ∧ KvD K H ks dk ∧ KvD K H ls dl ∧ Q (.bl (if neg then !eqKV dk dl else eqKV dk dl)) H
theorem op_dictEq (hu : X.A.units + 65 < cLine) : OpR X (compareOp .Eq) (rDictQ X.K false) := by
  intro pins s σ H x y v u Q I rx ry h
  obtain ⟨a, b, ks, ls, dk, dl, rfl, rfl, ea, eb, hk, hl, q⟩ := h
  cases (show v = Value.ref a from rx)
  cases (show u = Value.ref b from ry)
  obtain ⟨_, ya, va, ra, da⟩ := dk_rd I.hok ea
  obtain ⟨_, yb, vb, rb, db⟩ := dk_rd I.hok eb
  refine PySem.W.keq_eq (knd := mixKind X.prog X.w) ya yb da db (by omega) (fun _ => hitsD I (A := X.A.in1) (by show X.A.units + 1 + 64 < cLine; omega) hl rb hk ra) ?_
  refine ⟨.bl (eqKV dk dl), H, I, ?_, q⟩
  show Value.bool _ = Value.bool _
  unfold eqKV
  rw [← ra.length, ← rb.length, hk.length, hl.length]
theorem op_dictNe (hu : X.A.units + 65 < cLine) : OpR X (compareOp .NotEq) (rDictQ X.K true) := by
  intro pins s σ H x y v u Q I rx ry h
  obtain ⟨a, b, ks, ls, dk, dl, rfl, rfl, ea, eb, hk, hl, q⟩ := h
  cases (show v = Value.ref a from rx)
  cases (show u = Value.ref b from ry)
  obtain ⟨_, ya, va, ra, da⟩ := dk_rd I.hok ea
  obtain ⟨_, yb, vb, rb, db⟩ := dk_rd I.hok eb
  refine PySem.W.keq_ne (knd := mixKind X.prog X.w) ya yb da db (by omega) (fun _ => hitsD I (A := X.A.in1) (by show X.A.units + 1 + 64 < cLine; omega) hl rb hk ra) ?_
  refine ⟨.bl (!eqKV dk dl), H, I, ?_, q⟩
  show Value.bool _ = Value.bool _
  unfold eqKV
  rw [← ra.length, ← rb.length, hk.length, hl.length]
end
end Y
/-! Y20: own dunder methods, at the model's level. -/
namespace Y
open PySem PySem.W L2
section
variable {prog : Program} {w : World} {A : Around} {E : Value → Shared → Prop} {s : Shared} {K : Frag} {x C f : Addr} {ox : Obj} {od : Option Obj} {i : Value}
theorem getItem_K {Q : Value → Shared → Prop} (X : K.In s.heap) (I : InstAt s.heap x ox C od) (hs : findIn K (.ref C) "__getitem__" = some (some (.ref f))) (hf : isFn K (.ref f) = true) (hd : subIn K (.ref C) (.type "collections.deque") = some false)
    (h : wpAny (model prog w) A (call (.ref f) [.ref x, i]) Q E s) : wpAny (model prog w) A (getItem (.ref x) i) Q E s := by
  unfold getItem
  refine wpAny_holding ?_
  refine wpAny_bind (m := sequenceKey (.ref x) i "__getitem__") ?_
  unfold sequenceKey
  refine wpAny_bind (I.type.here ?_)
  dsimp only
  refine wpAny_bind (m := seqItemTypes.anyM fun n => isSubtype (.ref C) (.type n)) ?_
  unfold seqItemTypes
  refine wpAny_bind (m := isSubtype (.ref C) (.type "collections.deque")) ((looks_subIn X hd).here ?_)
  refine wpAny_pure ?_
  refine wpAny_pure ?_
  refine wpAny_bind (special_fn X I hs (beq_iff_eq.mp hf) (wpAny_mono h (fun v s' hv => wpAny_pure hv) fun _ _ e => e))
theorem one_bind (self : Value) : bindSpecial (.builtin "object.__ne__") self = pure (.builtin "object.__ne__", [self]) :=
  (Slot.of (T := "object") (name := "__ne__") (owner := "object") (n := "__ne__") (by rw [typeLookup_type, builtinLookup_eq_fast]; kernel_rfl) (by decide +kernel) (by decide +kernel) (by decide +kernel)
    (.inl (by decide +kernel)) (by rw [isSubtype_type]; kernel_rfl)).bind self
theorem one_plain : plainId "object.__ne__" = true := by decide +kernel
theorem one_bound {M : Model} {args : List Value} {Q : Option Value → Shared → Prop} (X : K.In s.heap) (I : InstAt s.heap x ox C od) (hs : findIn K (.ref C) "__ne__" = some (some (.builtin "object.__ne__")))
    (h : wpAny M A (call (.builtin "object.__ne__") (.ref x :: args)) (fun v => Q (some v)) E s) : wpAny M A (callSpecialIfBound? (.ref x) "__ne__" args) Q E s := by
  simp only [callSpecialIfBound?, bindSpecialIfBound?]
  refine wpAny_holding (wpAny_bind (wpAny_bind (wpAny_bind (I.type.here ((looks_findIn X hs).here ?_)))))
  refine wpAny_bind (wpAny_askSetting (wpAny_ite ?_))
  have fin : wpAny M A (call (.builtin "object.__ne__") ([.ref x] ++ args) >>= fun v => pure (some v)) Q E s := wpAny_bind (wpAny_mono h (fun v s' h' => wpAny_pure h') fun _ _ h' => h')
  split
  · exact wpAny_bind ((Looks.of_pure (one_bind _)).here (wpAny_pure (by exact fin)))
  · exact wpAny_tryCatch (wpAny_bind ((Looks.of_pure (one_bind _)).here (wpAny_pure (by exact fin))))
theorem objNe_K {y : Addr} {Q : Fin → Shared → Prop} {h : Heap} {g : Array GenState} {d : Drawn} {t : Nat} {os : OsState} (hu : A.units < cLine) (X : K.In h) (I : InstAt h x ox C od) (hs : findIn K (.ref C) "__eq__" = some (some (.ref f))) (hf : isFn K (.ref f) = true)
    (hcall : wpAny (model prog w) A (call (.ref f) [.ref x, .ref y]) (fun v s' => ∃ b, v = .bool b ∧ Q (.done (.ret (.bool (!b)))) s') E ⟨h, g, d, t, os⟩) :
    wpAny (model prog w) A (Builtin.«object.__ne__» ⟨[.ref x, .ref y], []⟩) Q E ⟨h, g, d, t, os⟩ := by
  unfold Builtin.«object.__ne__»
  repeat (first
    | with_reducible refine wpAny_cRoomFor hu ?_
    | (refine wpAny_bind (m := callSpecialIfBound? (.ref x) (Str.ofString "__eq__") [.ref y])
        (ifBound_K (s := ⟨h, g, d, t, os⟩) X I hs hf (wpAny_mono hcall (fun r s' hr => by
          obtain ⟨b, rfl, hq⟩ := hr
          repeat (first | exact hq | exact wpAny_pure hq | exact wpAny_truthy_bool hq | (refine wpAny_bind (m := truthy (.bool _)) (wpAny_truthy_bool ?_)) | wp_step)) fun _ _ e => e)))
    | wp_step)
/-- x != y by the own ==: both instances of the class -/
theorem ne_K {y : Addr} {oy : Obj} {ody : Option Obj} {Q : Value → Shared → Prop} (hu : A.units + 1 < cLine) (X : K.In s.heap) (I : InstAt s.heap x ox C od) (J : InstAt s.heap y oy C ody) (hn : findIn K (.ref C) "__ne__" = some (some (.builtin "object.__ne__")))
    (hs : findIn K (.ref C) "__eq__" = some (some (.ref f))) (hf : isFn K (.ref f) = true) (ho : subIn K (.ref C) (.type "object") = some true)
    (h : wpAny (model prog w) A.in1 (call (.ref f) [.ref x, .ref y]) (fun v s' => ∃ b, v = .bool b ∧ Q (.bool (!b)) s') E s) : wpAny (model prog w) A (richCompare .NotEq (.ref x) (.ref y)) Q E s := by
  have one : wpAny (model prog w) A (tryCompare (.ref x) "__ne__" (.ref y)) (fun r s' => ∃ v, r = some v ∧ Q v s') E s := by
    unfold tryCompare
    have ht : Looks (model prog w) s.heap (isInstance (.ref x) (.type "object")) true := I.type.andThen (looks_subIn X ho)
    refine wpAny_bind (one_bound X I hn (wpAny_call (codeAny_call_builtin one_plain F.cmpEntry_ne (check_slot F.cmpKind_ne F.cmpSplit_ne ht (F.cmpArgs_ne _ _) ?_))))
    obtain ⟨hh, g, d, t, os⟩ := s
    refine objNe_K (A := A.in1) hu X I hs hf (wpAny_mono h (fun v s' hv => ?_) fun _ _ e => e)
    obtain ⟨b, rfl, hq⟩ := hv
    exact ⟨_, rfl, wpAny_pure ⟨_, rfl, hq⟩⟩
  unfold richCompare
  simp only [oneThing_ref]
  refine wpAny_holding (wpAny_bind (wpAny_cRoomFor (Nat.lt_of_succ_lt hu) ?_))
  refine wpAny_bind (I.type.here (wpAny_bind (J.type.here ?_)))
  rw [show (Value.ref C != Value.ref C) = false from by simp]
  simp only [Bool.false_eq_true, if_false]
  refine wpAny_bind (wpAny_pure ?_)
  simp only [Bool.false_eq_true, if_false]
  refine wpAny_bind (wpAny_mono one (fun r s' hr => ?_) fun _ _ e => e)
  obtain ⟨v, rfl, hq⟩ := hr
  exact wpAny_pure hq
end
end Y
/-! Y1: tree values, stores, the relation with the layer's abstract heap. -/
namespace Y
open PySem L2

/-- a value as a tree; box n: a mutable thing, told in the store; ro: a sequence that is only read; cls, fn: a class, a def of the text -/
inductive D where
  | non | bl (b : Bool) | int (i : Int) | str (s : Str)
  | tup (xs : List D) | lst (xs : List D) | ro (xs : List D)
  | dct (ks vs : List D)
  | dtt (ks vs : List D)
  | set (xs : List D)
  | ins (c : Nat) (ns : List Str) (vs : List D)
  | box (n : Nat)
  | cls (c : Nat)
  | ty (n : String)
  deriving Inhabited

/-- what a slot holds: a value, a container of the def's own (top level), an object under construction -/
inductive EV where
  | val (d : D)
  | own (d : D)

abbrev Env := List (Option EV)
abbrev Store := List D

inductive Res (α : Type) where
  | ok (a : α) (S : Store)
  | exc (c : Nat) (fs : List D) (S : Store)
  | bad

abbrev M (α : Type) := Store → Res α
@[reducible] def ret {α : Type} (a : α) : M α := fun S => .ok a S
@[reducible] def fail {α : Type} : M α := fun _ => .bad
def Res.bnd {α β : Type} (r : Res α) (f : α → M β) : Res β :=
  match r with
  | .ok a S => f a S
  | .exc c fs S => .exc c fs S
  | .bad => .bad
def bnd {α β : Type} (m : M α) (f : α → M β) : M β := fun S => (m S).bnd f
def lift {α : Type} (o : Option α) : M α := fun S => match o with
  | some a => .ok a S
  | none => .bad
/-- exceptions are refused (inside of comprehensions) -/
def Res.hush {α : Type} : Res α → Res α
  | .ok a S => .ok a S
  | _ => .bad
def hush {α : Type} (m : M α) : M α := fun S => (m S).hush

def keyD : Key → D
  | .inl i => .int i
  | .inr s => .str s
def dKey : D → Option Key
  | .int i => some (.inl i)
  | .str s => some (.inr s)
  | _ => none
def dKeys : List D → Option (List Key)
  | [] => some []
  | d :: ds => match dKey d, dKeys ds with
    | some k, some ks => some (k :: ks)
    | _, _ => none

/-- what is fixed for a law: the written part, the classes' addresses -/
structure Zc where
  K : PySem.W.Frag
  ca : Nat → Addr

def isD : HO → Bool
  | .dK _ => true
  | .dT _ => true
  | _ => false
/-- what H tells of what was known as u -/
def Held (H : Hp) (a : Addr) (u : HO) : Prop := H a = some u ∨ (isD u = true ∧ ∃ o, H a = some (.frz o u))

mutual
inductive Rep (Z : Zc) (G : Hp) (io : List Addr) : V → D → Prop where
  | non : Rep Z G io .non .non
  | bl (b : Bool) : Rep Z G io (.bl b) (.bl b)
  | int (i : Int) : Rep Z G io (.int i) (.int i)
  | str (s : Str) : Rep Z G io (.str s) (.str s)
  | ty (n : String) : Rep Z G io (.ty n) (.ty n)
  | cls (c : Nat) : Rep Z G io (.ref (Z.ca c)) (.cls c)
  | box {a : Addr} {n : Nat} (h : io[n]? = some a) : Rep Z G io (.ref a) (.box n)
  | tup {a : Addr} {vs : List V} {ds : List D} (h : G a = some (.tup vs)) (r : Reps Z G io vs ds) : Rep Z G io (.ref a) (.tup ds)
  | lst {a : Addr} {vs : List V} {ds : List D} (h : G a = some (.lst vs)) (r : Reps Z G io vs ds) : Rep Z G io (.ref a) (.lst ds)
  | ro {a : Addr} {vs : List V} {ds : List D} (h : SqL Z.K G a vs ∨ SqT Z.K G a vs) (r : Reps Z G io vs ds) : Rep Z G io (.ref a) (.ro ds)
  | dK {a : Addr} {kvs : List (Key × V)} {ds : List D} (h : G a = some (.dK kvs)) (r : Reps Z G io (kvs.map (·.2)) ds) : Rep Z G io (.ref a) (.dct (kvs.map fun p => keyD p.1) ds)
  | dT {a : Addr} {kvs : List (List Key × V)} {ds : List D} (h : G a = some (.dT kvs)) (r : Reps Z G io (kvs.map (·.2)) ds) : Rep Z G io (.ref a) (.dtt (kvs.map fun p => .tup (p.1.map keyD)) ds)
  | ins {a dx : Addr} {c : Nat} {fs : List (Str × V)} {ds : List D} (h : G a = some (.ins (Z.ca c) dx fs)) (r : Reps Z G io (fs.map (·.2)) ds) : Rep Z G io (.ref a) (.ins c (fs.map (·.1)) ds)
inductive Reps (Z : Zc) (G : Hp) (io : List Addr) : List V → List D → Prop where
  | nil : Reps Z G io [] []
  | cons {v : V} {d : D} {vs : List V} {ds : List D} (h : Rep Z G io v d) (t : Reps Z G io vs ds) : Reps Z G io (v :: vs) (d :: ds)
end

/-- a value whose top is read in H (the rest is known in G) -/
inductive Top (Z : Zc) (H G : Hp) (io : List Addr) : V → D → Prop where
  | non : Top Z H G io .non .non
  | bl (b : Bool) : Top Z H G io (.bl b) (.bl b)
  | int (i : Int) : Top Z H G io (.int i) (.int i)
  | str (s : Str) : Top Z H G io (.str s) (.str s)
  | ty (n : String) : Top Z H G io (.ty n) (.ty n)
  | cls (c : Nat) : Top Z H G io (.ref (Z.ca c)) (.cls c)
  | tup {a : Addr} {vs : List V} {ds : List D} (h : H a = some (.tup vs)) (r : Reps Z G io vs ds) : Top Z H G io (.ref a) (.tup ds)
  | lst {a : Addr} {vs : List V} {ds : List D} (h : H a = some (.lst vs)) (r : Reps Z G io vs ds) : Top Z H G io (.ref a) (.lst ds)
  | ro {a : Addr} {vs : List V} {ds : List D} (h : SqL Z.K H a vs ∨ SqT Z.K H a vs) (r : Reps Z G io vs ds) : Top Z H G io (.ref a) (.ro ds)
  | dK {a : Addr} {kvs : List (Key × V)} {ds : List D} (h : Held H a (.dK kvs)) (r : Reps Z G io (kvs.map (·.2)) ds) : Top Z H G io (.ref a) (.dct (kvs.map fun p => keyD p.1) ds)
  | dT {a : Addr} {kvs : List (List Key × V)} {ds : List D} (h : Held H a (.dT kvs)) (r : Reps Z G io (kvs.map (·.2)) ds) : Top Z H G io (.ref a) (.dtt (kvs.map fun p => .tup (p.1.map keyD)) ds)
  | ins {a dx : Addr} {c : Nat} {fs : List (Str × V)} {ds : List D} (h : H a = some (.ins (Z.ca c) dx fs)) (r : Reps Z G io (fs.map (·.2)) ds) : Top Z H G io (.ref a) (.ins c (fs.map (·.1)) ds)

/-- a container of one's own, written as it is -/
inductive Own (Z : Zc) (H G : Hp) (io : List Addr) : Addr → D → Prop where
  | lst {a : Addr} {vs : List V} {ds : List D} (h : H a = some (.lst vs)) (r : Reps Z G io vs ds) : Own Z H G io a (.lst ds)
  | dK {a : Addr} {kvs : List (Key × V)} {ds : List D} (h : H a = some (.dK kvs)) (r : Reps Z G io (kvs.map (·.2)) ds) : Own Z H G io a (.dct (kvs.map fun p => keyD p.1) ds)
  | dT {a : Addr} {kvs : List (List Key × V)} {ds : List D} (h : H a = some (.dT kvs)) (r : Reps Z G io (kvs.map (·.2)) ds) : Own Z H G io a (.dtt (kvs.map fun p => .tup (p.1.map keyD)) ds)
  | ins {a dx : Addr} {c : Nat} {fs : List (Str × V)} {ds : List D} (h : H a = some (.ins (Z.ca c) dx fs)) (r : Reps Z G io (fs.map (·.2)) ds) : Own Z H G io a (.ins c (fs.map (·.1)) ds)

/-- where a container of one's own hangs -/
inductive Pl where
  | slot (i : Nat) | fld (f : Nat) | box (n : Nat)
  deriving DecidableEq

abbrev Plc := Addr → Option Pl

def EvR (Z : Zc) (H G : Hp) (io : List Addr) (pl : Plc) (i : Nat) (v : V) : EV → Prop
  | .val d => Rep Z G io v d
  | .own d => ∃ a, v = .ref a ∧ pl a = some (.slot i) ∧ Own Z H G io a d

structure Rel (Z : Zc) (H G : Hp) (io : List Addr) (pl : Plc) (S : Store) (de : Env) (σ : L2.St) : Prop where
  gh : ∀ a u, G a = some u → Held H a u
  len : de.length = σ.length
  slots : ∀ i e, de[i]? = some (some e) → ∃ v, σ[i]? = some (some v) ∧ EvR Z H G io pl i v e
  bl : io.length = S.length
  boxes : ∀ n d, S[n]? = some d → ∃ a, io[n]? = some a ∧ pl a = some (.box n) ∧ Own Z H G io a d
  plg : ∀ a, pl a ≠ none → G a = none ∧ H a ≠ none ∧ ∀ xs, H a ≠ some (.tup xs)

/-- what may have changed from one state to a later one: boxes alone; G grows by what is new (or by tuples) -/
structure Step (H G : Hp) (io : List Addr) (H' G' : Hp) (io' : List Addr) : Prop where
  gg : ∀ a u, G a = some u → G' a = some u
  gn : ∀ a, G' a ≠ none → G a ≠ none ∨ H a = none ∨ ∃ xs, H a = some (.tup xs)
  fr : ∀ a o, H a = some o → a ∉ io → (∀ ps, o ≠ .tbl ps) → H' a = some o ∨ (isD o = true ∧ G a = some o ∧ ∃ od, H' a = some (.frz od o))
  ext : ∃ more, io' = io ++ more ∧ ∀ a ∈ more, H a = none
  al : ∀ a, H a ≠ none → H' a ≠ none
  tp : ∀ a xs, H' a = some (.tup xs) → H a = some (.tup xs) ∨ H a = none
end Y
/-! Y2: the small language, and what it means on tree values. -/
namespace Y
open PySem L2

inductive O2 where
  | add | sub | mul | fdiv | mod | pow | eq | ne | lt | le | gt | ge | isN | notN | isin | nin
  deriving DecidableEq
inductive BI where
  | len | all | any | list | tuple | sorted | abs | max2 | min2 | maxl | minl | int | dict | rangel
  deriving DecidableEq
inductive BM where
  | index | get2 | count
  deriving DecidableEq

inductive IR where
  | nil | cons (h t : IR)
  -- expressions
  | var (i : Nat) | own (i : Nat) | kn | kb (b : Bool) | ki (i : Int) | ks (s : Str) | con (n : Nat)
  | o2 (o : O2) (a b : IR) | neg (a : IR) | inot (a : IR) | iand (a b : IR) | ior (a b : IR) | ife (c a b : IR) | ch (o p : O2) (a b c : IR)
  | tup (a : IR) | lst (a : IR) | dct (a : IR)
  | idx (a b : IR) | sli (a lo hi : IR)
  | att (a : IR) (f : Str) | kty (n : String) | kcls (c : Nat)
  | call (f : Nat) (a : IR) | callk (f : Nat) (a kw : IR) (perm : List Nat) (dfl : List D)
  | meth (a : IR) (m : Str) (as : IR)
  | bi (b : BI) (a : IR) | bm (m : BM) (r a : IR)
  | lc (vs : List Nat) (g it c e : IR) | dc (vs : List Nat) (g it c k v : IR)
  | boxed (e : IR) | bpop (a k : IR) | dctT | isi (a t : IR) | rev (a : IR) | idxm (a b : IR)
  -- tests: by a bool, by truth, and, or, not
  | tb (e : IR) | tt (e : IR) | tand (a b : IR) | tor (a b : IR) | tnot (a : IR)
  -- what is walked
  | iv (e : IR) | ir1 (a : IR) | ir2 (a b : IR) | zip (a b : IR) | enum (a : IR) | items (a : IR)
  -- targets
  | gn (i : Nat) | gt (gs : IR)
  -- statements
  | set (g e : IR) | seto (i : Nat) (e : IR) | par (ts : List (Nat × Bool)) (es : IR) | aug (i : Nat) (o : O2) (e : IR)
  | xpr (e : IR) | rt (e : IR) | rtn | cond (c a b : IR) | forl (g it b : IR) | whl (c b : IR) | brk | cnt | pas
  | app (i : Nat) (e : IR) | bset (a k v : IR) | oset (i : Nat) (k v : IR) | free (i : Nat)
  | fset (a : IR) (f : Str) (e : IR) | xtnd (i : Nat) (e : IR) | auga (i : Nat) (e : IR) | augs (i : Nat) (e : IR)
  | never
  deriving Inhabited

/-! ### data -/
mutual
def D.py : D → PyData
  | .non => .none
  | .bl b => .bool b
  | .int i => .int i
  | .str s => .str s
  | .tup xs => .tuple (D.pys xs)
  | .lst xs => .list (D.pys xs)
  | .ro _ | .dct _ _ | .dtt _ _ | .set _ | .ins _ _ _ | .box _ | .cls _ | .ty _ => .none
def D.pys : List D → List PyData
  | [] => []
  | x :: xs => x.py :: D.pys xs
end
mutual
/-- None, bools, ints, texts, tuples and lists of these -/
def D.pure : D → Bool
  | .non | .bl _ | .int _ | .str _ => true
  | .tup xs | .lst xs => D.pures xs
  | .ro _ | .dct _ _ | .dtt _ _ | .set _ | .ins _ _ _ | .box _ | .cls _ | .ty _ => false
def D.pures : List D → Bool
  | [] => true
  | x :: xs => x.pure && D.pures xs
end
def D.shaped (d : D) : Bool := d.pure && SeqAt.shaped d.py
def D.flat : D → Bool
  | .non | .bl _ | .int _ | .str _ => true
  | _ => false
/-- == -/
def eqD (a b : D) : Option Bool := if (a.shaped && b.shaped) = true then some (PyData.eqv a.py b.py) else none
/-- a dict's pairs as data -/
def dKV : List D → List D → Option (List (Key × PyData))
  | [], [] => some []
  | k :: ks, v :: vs => match dKey k with
    | some x => if v.shaped = true then (dKV ks vs).map ((x, v.py) :: ·) else none
    | none => none
  | _, _ => none
/-- ==, of dicts too -/
def eqA (a b : D) : Option Bool := match a, b with
  | .dct ks vs, .dct ls ws => (match dKV ks vs, dKV ls ws with
    | some p, some q => some (eqKV p q)
    | _, _ => none)
  | _, _ => eqD a b
/-- a dict's key -/
inductive Ky where
  | one (k : Key) | tup (ks : List Key)
  deriving DecidableEq
def D.ky : D → Option Ky
  | .int i => some (.one (.inl i))
  | .str s => some (.one (.inr s))
  | .tup ds => (dKeys ds).map .tup
  | _ => none
def dfind (k : Ky) : List D → List D → Option D
  | x :: xs, v :: vs => if x.ky = some k then some v else dfind k xs vs
  | _, _ => none
def dputV (k : Ky) (v : D) : List D → List D → List D
  | x :: xs, y :: ys => if x.ky = some k then v :: dputV k v xs ys else y :: dputV k v xs ys
  | _, _ => []
def sizeOk (n : Nat) : Bool := decide (n ≤ sizeLine)

/-- d[k] = v -/
def dput (q y : D) : D → Option D
  | .dct ks vs => match q.ky with
    | some (.one z) => if ks.length < sizeLine then some (if (dfind (.one z) ks vs).isSome then .dct ks (dputV (.one z) y ks vs) else .dct (ks ++ [q]) (vs ++ [y])) else none
    | _ => none
  | .dtt ks vs => match q.ky with
    | some (.tup z) => if ks.length < sizeLine then some (if (dfind (.tup z) ks vs).isSome then .dtt ks (dputV (.tup z) y ks vs) else .dtt (ks ++ [q]) (vs ++ [y])) else none
    | _ => none
  | _ => none
/-- k in d -/
def dIn (x : D) : D → Option Bool
  | .dct ks vs => match x.ky with
    | some (.one k) => some (dfind (.one k) ks vs).isSome
    | _ => none
  | .dtt ks vs => match x.ky with
    | some (.tup k) => some (dfind (.tup k) ks vs).isSome
    | _ => none
  | _ => none
/-- d[k] -/
def dAt (x : D) : D → Option D
  | .dct ks vs => match x.ky with
    | some (.one k) => dfind (.one k) ks vs
    | _ => none
  | .dtt ks vs => match x.ky with
    | some (.tup k) => dfind (.tup k) ks vs
    | _ => none
  | _ => none
/-- one sign in a text -/
def signIn (s t : Str) : Option Bool := match s.cps.toList with
  | [c] => some (decide (c ∈ t.cps.toList))
  | _ => none
def smallI (i : Int) : Bool := decide (-(2 ^ 64) < i) && decide (i < 2 ^ 64)
def p2 (o : O2) (a b : D) : Option D :=
  match o with
  | .add => match a, b with
    | .int i, .int j => some (.int (i + j))
    | .str s, .str t => if sizeOk (s.length + t.length) then some (.str (s ++ t)) else none
    | .lst xs, .lst ys => if sizeOk (xs.length + ys.length) then some (.lst (xs ++ ys)) else none
    | .tup xs, .tup ys => if sizeOk (xs.length + ys.length) then some (.tup (xs ++ ys)) else none
    | _, _ => none
  | .sub => match a, b with
    | .int i, .int j => some (.int (i - j))
    | _, _ => none
  | .mul => match a, b with
    | .int i, .int j => if smallI i || smallI j then some (.int (i * j)) else none
    | .lst xs, .int k => if decide (k < 2 ^ 62) && decide (-(2 ^ 62) ≤ k) && sizeOk (xs.length * k.toNat) then some (.lst (List.replicate k.toNat xs).flatten) else none
    | _, _ => none
  | .fdiv => match a, b with
    | .int i, .int j => if 0 < j ∧ j < 1073741824 then some (.int (i / j)) else none
    | _, _ => none
  | .mod => match a, b with
    | .int i, .int j => if 0 < j then some (.int (i % j)) else none
    | _, _ => none
  | .pow => match a, b with
    | .int i, .int j => if 0 ≤ j ∧ j ≤ 1000000 ∧ i.natAbs < 2 ^ 64 then some (.int (i ^ j.toNat)) else none
    | _, _ => none
  | .eq => (eqA a b).map .bl
  | .ne => (eqA a b).map fun r => .bl (!r)
  | .lt => match a, b with
    | .int i, .int j => some (.bl (decide (i < j)))
    | _, _ => none
  | .le => match a, b with
    | .int i, .int j => some (.bl (decide (i ≤ j)))
    | _, _ => none
  | .gt => match a, b with
    | .int i, .int j => some (.bl (decide (j < i)))
    | _, _ => none
  | .ge => match a, b with
    | .int i, .int j => some (.bl (decide (j ≤ i)))
    | _, _ => none
  | .isN => match b with
    | .non => match a with
      | .non => some (.bl true)
      | _ => some (.bl false)
    | .bl k => match a with
      | .bl c => some (.bl (decide (c = k)))
      | _ => none
    | _ => none
  | .notN => match b with
    | .non => match a with
      | .non => some (.bl false)
      | _ => some (.bl true)
    | .bl k => match a with
      | .bl c => some (.bl (!decide (c = k)))
      | _ => none
    | _ => none
  | .isin => (pIn a b).map .bl
  | .nin => (pIn a b).map fun r => .bl (!r)
where pIn (x c : D) : Option Bool := match c with
  | .lst ds => if x.shaped && (D.lst ds).shaped then some (ds.any fun z => PyData.eqv z.py x.py) else none
  | .tup ds => if x.flat && ds.all D.flat then some (ds.any fun z => PyData.eqv z.py x.py) else none
  | .ro ds => if x.flat && ds.all D.flat then some (ds.any fun z => PyData.eqv z.py x.py) else none
  | .str t => match x with
    | .str s => signIn s t
    | _ => none
  | c => dIn x c

def D.truth : D → Option Bool
  | .non => some false
  | .bl b => some b
  | .int i => some (i != 0)
  | .lst xs => some (!xs.isEmpty)
  | .tup xs => some (!xs.isEmpty)
  | _ => none

/-- x[i] -/
def pIdx (a b : D) : Option D := match a with
  | .lst xs => match b with
    | .int i => atI xs i
    | _ => none
  | .tup xs => match b with
    | .int i => atI xs i
    | _ => none
  | .ro xs => match b with
    | .int i => atI xs i
    | _ => none
  | .str s => match b with
    | .int i => if sizeOk s.length then (atI s.cps.toList i).map fun c => .str ⟨#[c]⟩ else none
    | _ => none
  | a => dAt b a
def cutD (xs : List D) (lo hi : Option Int) : List D := (xs.drop (HT.sIx xs.length 0 lo)).take (HT.sIx xs.length xs.length hi - HT.sIx xs.length 0 lo)
def pSli (a : D) (lo hi : Option Int) : Option D := match a with
  | .lst xs => some (.lst (cutD xs lo hi))
  | .tup xs => some (.tup (cutD xs lo hi))
  | _ => none
def dInts : List D → Option (List Int)
  | [] => some []
  | .int i :: r => (dInts r).map (i :: ·)
  | _ :: _ => none
def dStrs : List D → Option (List Str)
  | [] => some []
  | .str s :: r => (dStrs r).map (s :: ·)
  | _ :: _ => none
def dBls : List D → Option (List Bool)
  | [] => some []
  | .bl s :: r => (dBls r).map (s :: ·)
  | _ :: _ => none
def maxL : Int → List Int → Int
  | m, [] => m
  | m, x :: r => maxL (if x > m then x else m) r
def minL : Int → List Int → Int
  | m, [] => m
  | m, x :: r => minL (if x < m then x else m) r
/-- key-value pairs, put one behind the other -/
def dfill : List D → List D → List D → Option D
  | ks, vs, [] => some (.dct ks vs)
  | ks, vs, .tup [k, v] :: r => match k.ky with
    | some (.one y) => if (dfind (.one y) ks vs).isSome then dfill ks (dputV (.one y) v ks vs) r else dfill (ks ++ [k]) (vs ++ [v]) r
    | _ => none
  | _, _, _ => none
def pairUp : List D → List D
  | k :: v :: r => .tup [k, v] :: pairUp r
  | _ => []
def D.isStr : D → Bool
  | .str _ => true
  | _ => false
def D.isInt : D → Bool
  | .int _ => true
  | _ => false
/-- the order of sorting (items alike) -/
def leD (a b : D) : Bool := PySem.W.dataLe false D.py a b
def sortable (xs : List D) : Bool := xs.all D.shaped && decide (xs.length ≤ sizeLine) &&
  (xs.all fun x => xs.all fun y => PySem.W.alike x.py y.py) &&
  ((xs.all fun x => match x with | .tup (_ :: _) => true | _ => false) || (xs.all fun x => match x with | .tup _ => false | .non => false | _ => true))
def pBi (b : BI) (as : List D) : Option D := match b, as with
  | .len, [.lst xs] => some (.int xs.length)
  | .len, [.tup xs] => some (.int xs.length)
  | .len, [.ro xs] => some (.int xs.length)
  | .len, [.str s] => if sizeOk s.length then some (.int s.length) else none
  | .all, [.lst xs] => (dBls xs).map fun bs => .bl (bs.all id)
  | .any, [.lst xs] => (dBls xs).map fun bs => .bl (bs.any id)
  | .list, [.lst xs] => some (.lst xs)
  | .list, [.tup xs] => some (.lst xs)
  | .list, [.ro xs] => some (.lst xs)
  | .list, [.dct ks _] => some (.lst ks)
  | .list, [.str x] => if sizeOk x.length then some (.lst (x.cps.toList.map fun c => .str ⟨#[c]⟩)) else none
  | .tuple, [.lst xs] => some (.tup xs)
  | .tuple, [.tup xs] => some (.tup xs)
  | .sorted, [.lst xs] => if sortable xs then some (.lst (xs.mergeSort leD)) else none
  | .sorted, [.dct ks _] => if (decide (ks.length < 64) && (ks.all D.isStr || ks.all D.isInt)) = true then some (.lst (ks.mergeSort leD)) else none
  | .abs, [.int i] => some (.int (if i < 0 then -i else i))
  | .max2, [.int i, .int j] => some (.int (if j > i then j else i))
  | .min2, [.int i, .int j] => some (.int (if j < i then j else i))
  | .maxl, [.lst xs] => match dInts xs with
    | some (x :: r) => some (.int (maxL x r))
    | _ => none
  | .minl, [.lst xs] => match dInts xs with
    | some (x :: r) => some (.int (minL x r))
    | _ => none
  | .int, [.bl k] => some (.int (if k then 1 else 0))
  | .int, [.int k] => some (.int k)
  | .dict, [.lst xs] => dfill [] [] xs
  | .dict, [.dct ks vs] => some (.dct ks vs)
  | .rangel, [.int n] => if 0 ≤ n ∧ n ≤ 16777216 then some (.lst ((List.range n.toNat).map fun i => .int (i : Nat))) else none
  | _, _ => none

/-! ### the machine -/
/-- how a statement ends -/
inductive Out where
  | nx (de : Env) | rtv (d : D) (fresh : Bool) | bk (de : Env) | ct (de : Env)

def isFresh : D → Bool
  | .lst _ | .dct _ _ | .dtt _ _ => true
  | _ => false
abbrev Calls := Nat → List D → M (D × Bool)

def view (S : Store) : D → D
  | .box n => S.getD n .non
  | d => d

/-- the first place of an item -/
def pIndex (ds : List D) (y : D) : Option D := if (y.shaped && (D.lst ds).shaped) = true then (ds.findIdx? fun z => PyData.eqv z.py y.py).map fun j => .int (j : Nat) else none
def evs (f : IR → M D) : IR → M (List D)
  | .nil => ret []
  | .cons h t => bnd (f h) fun d => bnd (evs f t) fun ds => ret (d :: ds)
  | _ => fail

/-- a target's store -/
def asg : IR → D → Env → Option Env
  | .gn i, d, de => if i < de.length then some (de.set i (some (.val d))) else none
  | .gt gs, .tup ds, de => asgs gs ds de
  | _, _, _ => none
where asgs : IR → List D → Env → Option Env
  | .nil, [], de => some de
  | .cons (.gn i) t, d :: ds, de => if i < de.length then asgs t ds (de.set i (some (.val d))) else none
  | _, _, _ => none

def wipeE (de : Env) : List Nat → Env
  | [] => de
  | v :: vs => (wipeE de vs).set v none

/-- a comprehension's turns -/
def comp (items : List D) (step : D → M (Option D)) : M (List D) := match items with
  | [] => ret []
  | x :: r => bnd (step x) fun o => bnd (comp r step) fun ds => ret (match o with
    | some d => d :: ds
    | none => ds)

/-- a key put into a dict with ints and texts -/
def putKV (q y : D) : D → Option D := dput q y
def tryL {α : Type} (o : Option α) (f : α → M β) : M β := match o with
  | some a => f a
  | none => fail

def compD (items : List D) (step : D → M (Option (D × D))) (acc : D) : M D := match items with
  | [] => ret acc
  | x :: r => bnd (step x) fun o => match o with
    | some (k, v) => tryL (putKV k v acc) fun a => compD r step a
    | none => compD r step acc
/-- a def; ini: the __init__ of a class -/
structure Fe where
  arity : Nat
  slots : Nat
  body : IR
  ini : Option Nat := none
  kwo : Bool := false
  deriving Inhabited
structure Ce where
  flds : List Str
  props : List (Str × Nat)
  meths : List (Str × Nat)
  deriving Inhabited
structure Tb where
  fns : List Fe
  cls : List Ce
  con : List D
  deriving Inhabited
def Tb.isFld (T : Tb) (c : Nat) (f : Str) : Bool := match T.cls[c]? with
  | some ce => ce.flds.contains f
  | none => false
def Tb.prop (T : Tb) (c : Nat) (f : Str) : Option Nat := match T.cls[c]? with
  | some ce => ce.props.lookup f
  | none => none
def Tb.meth (T : Tb) (c : Nat) (m : Str) : Option Nat := match T.cls[c]? with
  | some ce => ce.meths.lookup m
  | none => none
def fieldOf : List Str → List D → Str → Option D
  | n :: ns, v :: vs, f => if n = f then some v else fieldOf ns vs f
  | _, _, _ => none

section
variable (T : Tb) (C : Calls)
/-- isinstance -/
def D.tyN : D → Option String
  | .non => some "NoneType"
  | .bl _ => some "bool"
  | .int _ => some "int"
  | .str _ => some "str"
  | .tup _ => some "tuple"
  | .lst _ => some "list"
  | .dct _ _ => some "dict"
  | .dtt _ _ => some "dict"
  | _ => none
def D.isClass : D → Bool
  | .ty _ | .cls _ => true
  | _ => false
def tyKnown : List String := ["int", "bool", "str", "tuple", "list", "dict"]
def isiB (a b : String) : Bool := a == b || (a == "bool" && b == "int")
def isi1 (x : D) : D → Option Bool
  | .ty n => if tyKnown.contains n = true then (match x with
    | .ins c _ _ => if (T.cls[c]?).isSome = true then some false else none
    | x => x.tyN.map (isiB · n)) else none
  | .cls c => if (T.cls[c]?).isSome = true then (match x with
    | .ins c' _ _ => if (T.cls[c']?).isSome = true then some (c' == c) else none
    | x => x.tyN.map fun _ => false) else none
  | _ => none
def isiL (x : D) : List D → Option Bool
  | [] => some false
  | t :: r => match isi1 T x t with
    | some true => if r.all D.isClass = true then some true else none
    | some false => isiL x r
    | none => none
def isiD (x : D) : D → Option Bool
  | .tup (t :: ts) => isiL T x (t :: ts)
  | t => isi1 T x t
/-- o.f -/
def attR (x : D) (f : Str) : M D := fun S => match view S x with
  | .ins c ns vs => if T.isFld c f = true then lift (fieldOf ns vs f) S else
    (match T.prop c f with
    | some i => (C i [x] S).hush.bnd fun r => ret r.1
    | none => .bad)
  | _ => .bad
/-- o.m's def -/
def methF (x : D) (m : Str) : M Nat := fun S => match view S x with
  | .ins c ns _ => if ns.contains m = true then .bad else lift (T.meth c m) S
  | _ => .bad
/-- an own dunder method -/
def dunR (c : Nat) (m : Str) (as : List D) : M D := fun S => match T.meth c m with
  | some i => (C i as S).bnd fun r => ret r.1
  | none => .bad
def notR (r : Res D) : Res D := r.bnd fun d => match d with
  | .bl b => ret (.bl (!b))
  | _ => fail
/-- x op y, by the own methods of an instance -/
def o2I (o : O2) (c : Nat) (x y : D) : M D := fun S => match o with
  | .eq => (match view S y with
    | .ins c' _ _ => if c' = c then (dunR T C c "__eq__" [x, y] S).bnd fun d => (match d with
      | .bl b => ret (.bl b)
      | _ => fail) else .bad
    | _ => .bad)
  | .ne => (match view S y with
    | .ins c' _ _ => if c' = c then notR (dunR T C c "__eq__" [x, y] S).hush else .bad
    | _ => .bad)
  | _ => .bad
def o2R (o : O2) (x y : D) : M D := fun S => match view S x with
  | .ins c _ _ => o2I T C o c x y S
  | v => lift (p2 o v (view S y)) S
def idxR (x y : D) : M D := fun S => match view S x with
  | .ins c _ _ => (dunR T C c "__getitem__" [x, y] S).hush
  | v => lift (pIdx v y) S
/-- a box with a list -/
def isBoxL (x : D) : M Unit := fun S => match x with
  | .box n => match S[n]? with
    | some (.lst _) => .ok () S
    | _ => .bad
  | _ => .bad
def popAt (n : Nat) (xs : List D) (i : Int) : M D := fun S =>
  if -(2 ^ 62) ≤ i ∧ i < 2 ^ 62 then
    (match ixN xs.length i with
    | some q =>
      (match xs[q]? with
      | some y => .ok y (S.set n (.lst (xs.eraseIdx q)))
      | none => .bad)
    | none => .bad)
  else .bad
def popLast (n : Nat) (xs : List D) : M D := fun S =>
  match xs[xs.length - 1]? with
  | some y => .ok y (S.set n (.lst xs.dropLast))
  | none => .bad
def popR (x : D) (j : Option Int) : M D := fun S =>
  match x with
  | .box n =>
    (match S[n]? with
    | some (.lst xs) =>
      (match j with
      | none => popLast n xs S
      | some i => popAt n xs i S)
    | _ => .bad)
  | _ => .bad
def optI : D → Option (Option Int)
  | .int i => some (some i)
  | _ => none

mutual
def ev (de : Env) : IR → M D
  | .var i => match de[i]? with
    | some (some (.val d)) => ret d
    | _ => fail
  | .own i => match de[i]? with
    | some (some (.own d)) => if isFresh d = true then ret d else fail
    | _ => fail
  | .kn => ret .non
  | .kb b => ret (.bl b)
  | .ki i => ret (.int i)
  | .ks s => ret (.str s)
  | .con n => match T.con[n]? with
    | some d => ret d
    | none => fail
  | .o2 o a b => bnd (ev de a) fun x => bnd (ev de b) fun y => o2R T C o x y
  | .neg a => bnd (ev de a) fun x => match x with
    | .int i => ret (.int (-i))
    | _ => fail
  | .inot a => bnd (ev de a) fun x => match x with
    | .bl c => ret (.bl (!c))
    | _ => fail
  | .iand a b => bnd (ev de a) fun x => match x with
    | .bl true => ev de b
    | .bl false => ret (.bl false)
    | _ => fail
  | .ior a b => bnd (ev de a) fun x => match x with
    | .bl true => ret (.bl true)
    | .bl false => ev de b
    | _ => fail
  | .ife c a b => bnd (evt de c) fun k => if k = true then ev de a else ev de b
  | .ch o p a b c => bnd (ev de a) fun x => bnd (ev de b) fun y => bnd (fun S => lift (p2 o (view S x) (view S y)) S) fun z => match z with
    | .bl true => bnd (ev de c) fun u => fun S => lift (p2 p (view S y) (view S u)) S
    | .bl false => ret (.bl false)
    | _ => fail
  | .tup a => bnd (evl de a) fun ds => if sizeOk ds.length then ret (.tup ds) else fail
  | .lst a => bnd (evl de a) fun ds => if sizeOk ds.length then ret (.lst ds) else fail
  | .dct a => bnd (evl de a) fun ds => if ds.length ≤ 30 ∧ ds.length % 2 = 0 then fun S => lift (dfill [] [] (pairUp ds)) S else fail
  | .idx a b => bnd (ev de a) fun x => bnd (ev de b) fun y => idxR T C x y
  | .att a f => bnd (ev de a) fun x => attR T C x f
  | .meth a m as => bnd (ev de a) fun x => bnd (methF T x m) fun i => bnd (evl de as) fun ds => bnd (C i (x :: ds)) fun r => ret r.1
  | .kty n => ret (.ty n)
  | .isi a t => bnd (ev de a) fun x => bnd (ev de t) fun y => fun S => lift ((isiD T (view S x) y).map .bl) S
  | .kcls c => ret (.cls c)
  | .dctT => ret (.dtt [] [])
  | .rev a => bnd (ev de a) fun x => match x with
    | .lst xs => ret (.lst xs.reverse)
    | _ => fail
  | .sli a lo hi => bnd (ev de a) fun x => bnd (evo de lo) fun l => bnd (evo de hi) fun h => fun S => lift (pSli (view S x) l h) S
  | .call f a => bnd (evl de a) fun ds => bnd (C f ds) fun r => ret r.1
  | .callk f a kw perm dfl => bnd (evl de a) fun ds => bnd (evl de kw) fun es => tryL (perm.mapM fun i => (ds ++ (es ++ dfl))[i]?) fun as => bnd (C f as) fun r => ret r.1
  | .bi b a => bnd (evl de a) fun ds => fun S => lift (pBi b (ds.map (view S))) S
  | .lc vs g it c e => bnd (evi de it) fun items => bnd (comp items fun d => tryL (asg g d (wipeE de vs)) fun d1 => bnd (hush (evt d1 c)) fun k => if k = true then bnd (hush (ev d1 e)) fun v => ret (some v) else ret none) fun ds => ret (.lst ds)
  | .dc vs g it c k v => bnd (evi de it) fun items => compD items (fun d => tryL (asg g d (wipeE de vs)) fun d1 => bnd (hush (evt d1 c)) fun b => if b = true then bnd (hush (ev d1 k)) fun x => bnd (hush (ev d1 v)) fun y => ret (some (x, y)) else ret none) (.dct [] [])
  | .boxed e => bnd (ev de e) fun d => fun S => .ok (.box S.length) (S ++ [d])
  | .idxm a b => bnd (ev de a) fun x => match x with
    | .lst ds => bnd (ev de b) fun y => lift (pIndex ds y)
    | _ => fail
  | .bpop a k => bnd (ev de a) fun x => bnd (isBoxL x) fun _ => bnd (evo de k) fun j => popR x j
  | _ => fail
/-- an optional part -/
def evo (de : Env) : IR → M (Option Int)
  | .nil => ret none
  | .cons a _ => bnd (ev de a) fun x => match x with
    | .int i => ret (some i)
    | _ => fail
  | _ => fail
/-- arguments, items -/
def evl (de : Env) : IR → M (List D)
  | .nil => ret []
  | .cons h t => bnd (ev de h) fun d => bnd (evl de t) fun ds => ret (d :: ds)
  | _ => fail
/-- tests -/
def evt (de : Env) : IR → M Bool
  | .tand a b => bnd (evt de a) fun k => if k = true then evt de b else ret false
  | .tor a b => bnd (evt de a) fun k => if k = true then ret true else evt de b
  | .tnot a => bnd (evt de a) fun k => ret (!k)
  | .kb b => ret b
  | .tb e => bnd (ev de e) fun x => match x with
    | .bl k => ret k
    | _ => fail
  | .tt e => bnd (ev de e) fun x => fun S => lift ((view S x).truth) S
  | _ => fail
/-- what is walked -/
def evi (de : Env) : IR → M (List D)
  | .iv e => bnd (ev de e) fun x => match x with
    | .lst xs => ret xs
    | .tup xs => ret xs
    | .ro xs => ret xs
    | .dct ks _ => ret ks
    | .dtt ks _ => ret ks
    | .str s => if sizeOk s.length then ret (s.cps.toList.map fun c => .str ⟨#[c]⟩) else fail
    | _ => fail
  | .ir1 a => bnd (ev de a) fun x => match x with
    | .int n => if n ≤ 16777216 ∧ -(2 ^ 62) ≤ n then ret ((List.range n.toNat).map fun i => .int (i : Nat)) else fail
    | _ => fail
  | .ir2 a b => bnd (ev de a) fun x => bnd (ev de b) fun y => match x, y with
    | .int m, .int n => if n ≤ 8388608 ∧ -8388608 ≤ n ∧ m ≤ 8388608 ∧ -8388608 ≤ m then ret ((List.range (n - m).toNat).map fun i => .int (m + (i : Nat))) else fail
    | _, _ => fail
  | .zip a b => bnd (ev de a) fun x => bnd (ev de b) fun y => match x, y with
    | .lst xs, .lst ys => ret ((xs.zip ys).map fun p => .tup [p.1, p.2])
    | .tup xs, .tup ys => ret ((xs.zip ys).map fun p => .tup [p.1, p.2])
    | _, _ => fail
  | .enum a => bnd (ev de a) fun x => match x with
    | .lst xs => ret (xs.zipIdx.map fun p => .tup [.int (p.2 : Nat), p.1])
    | .tup xs => ret (xs.zipIdx.map fun p => .tup [.int (p.2 : Nat), p.1])
    | _ => fail
  | .items a => bnd (ev de a) fun x => match x with
    | .dct ks vs => ret ((ks.zip vs).map fun p => .tup [p.1, p.2])
    | _ => fail
  | _ => fail
end

/-- a loop's turns -/
def loop (items : List D) (de : Env) (g : IR) (body : Env → M Out) : M Out := match items with
  | [] => ret (.nx de)
  | x :: r => tryL (asg g x de) fun d1 => bnd (body d1) fun o => match o with
    | .nx d2 => loop r d2 g body
    | .ct d2 => loop r d2 g body
    | .bk d2 => ret (.nx d2)
    | .rtv d f => ret (.rtv d f)
def wloop : Nat → (Env → M Bool) → (Env → M Out) → Env → M Out
  | 0, _, _, _ => fail
  | n + 1, c, b, de => bnd (c de) fun k => if k = true then bnd (b de) fun o => match o with
      | .nx d2 => wloop n c b d2
      | .ct d2 => wloop n c b d2
      | .bk d2 => ret (.nx d2)
      | .rtv d f => ret (.rtv d f)
    else ret (.nx de)


/-- a value's place: as it is, or as a container of one's own -/
def slotV (f : Bool) (d : D) : EV := if f then .own d else .val d
def pset : List (Nat × Bool) → List D → Env → Option Env
  | [], [], de => some de
  | (i, f) :: ts, d :: ds, de => if ((!f || isFresh d) && decide (i < de.length)) = true then pset ts ds (de.set i (some (slotV f d))) else none
  | _, _, _ => none
def bputR (de : Env) (x q y : D) : M Out := fun S =>
  match x with
  | .box n =>
    (match S[n]? with
    | some c => tryL (dput q y c) (fun d => fun S => .ok (.nx de) (S.set n d)) S
    | _ => .bad)
  | _ => .bad
/-- o.f = d -/
def putNs (f : Str) : List Str → List Str
  | [] => [f]
  | g :: r => if g = f then g :: r else g :: putNs f r
def putVs (f : Str) (d : D) : List Str → List D → List D
  | g :: r, v :: vs => if g = f then d :: vs else v :: putVs f d r vs
  | _, _ => [d]
def fputR (de : Env) (x : D) (f : Str) (d : D) : M Out := fun S =>
  match x with
  | .box n =>
    (match S[n]? with
    | some (.ins c ns vs) => if (T.isFld c f && decide (ns.length < 1000)) = true then .ok (.nx de) (S.set n (.ins c (putNs f ns) (putVs f d ns vs))) else .bad
    | _ => .bad)
  | _ => .bad
variable (W : Nat)
mutual
def st (de : Env) : IR → M Out
  | .set g e => bnd (ev T C de e) fun d => tryL (asg g d de) fun d1 => ret (.nx d1)
  | .seto i e => bnd (ev T C de e) fun d => if (isFresh d && decide (i < de.length)) = true then ret (.nx (de.set i (some (.own d)))) else fail
  | .par ts es => bnd (evl T C de es) fun ds => tryL (pset ts ds de) fun d1 => ret (.nx d1)
  | .aug i o e => match de[i]? with
    | some (some (.val x)) => bnd (ev T C de e) fun y => fun S => (lift (p2 o (view S x) (view S y)) S).bnd fun z => ret (.nx (de.set i (some (.val z))))
    | _ => fail
  | .xpr e => bnd (ev T C de e) fun _ => ret (.nx de)
  | .rt e => bnd (ev T C de e) fun d => ret (.rtv d false)
  | .rtn => ret (.rtv .non false)
  | .cond c a b => bnd (evt T C de c) fun k => if k = true then sts de a else sts de b
  | .forl g it b => bnd (evi T C de it) fun items => loop items de g fun d1 => sts d1 b
  | .whl c b => wloop W (fun d1 => evt T C d1 c) (fun d1 => sts d1 b) de
  | .brk => ret (.bk de)
  | .cnt => ret (.ct de)
  | .pas => ret (.nx de)
  | .app i e => match de[i]? with
    | some (some (.own (.lst xs))) => bnd (ev T C de e) fun d => if decide (xs.length < sizeLine) then ret (.nx (de.set i (some (.own (.lst (xs ++ [d])))))) else fail
    | _ => fail
  | .bset a k v => bnd (ev T C de v) fun y => bnd (ev T C de a) fun x => bnd (ev T C de k) fun q => bputR de x q y
  | .oset i k v => match de[i]? with
    | some (some (.own c)) => bnd (ev T C de v) fun y => bnd (ev T C de k) fun q => tryL (dput q y c) fun d => ret (.nx (de.set i (some (.own d))))
    | _ => fail
  | .xtnd i e => match de[i]? with
    | some (some (.own (.lst xs))) => bnd (ev T C de e) fun d => (match d with
      | .lst ys => if decide (xs.length + ys.length ≤ sizeLine) then ret (.nx (de.set i (some (.own (.lst (xs ++ ys)))))) else fail
      | _ => fail)
    | _ => fail
  | .auga i e => match de[i]? with
    | some (some (.val (.int x))) => bnd (ev T C de e) fun d => (match d with
      | .int y => ret (.nx (de.set i (some (.val (.int (x + y))))))
      | _ => fail)
    | _ => fail
  | .augs i e => match de[i]? with
    | some (some (.val (.int x))) => bnd (ev T C de e) fun d => (match d with
      | .int y => ret (.nx (de.set i (some (.val (.int (x - y))))))
      | _ => fail)
    | _ => fail
  | .fset a f e => bnd (ev T C de e) fun d => bnd (ev T C de a) fun x => fputR T de x f d
  | .free i => match de[i]? with
    | some (some (.own d)) => if isFresh d = true then ret (.nx (de.set i (some (.val d)))) else fail
    | _ => fail
  | _ => fail
def sts (de : Env) : IR → M Out
  | .nil => ret (.nx de)
  | .cons h t => bnd (st de h) fun o => match o with
    | .nx d1 => sts d1 t
    | o => ret o
  | _ => fail
end
end

def run1 (T : Tb) (W : Nat) (C : Calls) (fe : Fe) (as : List D) : M (D × Bool) :=
  if as.length = fe.arity then
    bnd (sts T C W (as.map (fun d => some (.val d)) ++ List.replicate (fe.slots - as.length) none) fe.body) fun o => match o with
      | .nx _ => ret (.non, false)
      | .rtv d f => ret (d, f)
      | _ => fail
  else fail
mutual
/-- no mutable thing within -/
def D.noBox : D → Bool
  | .box _ => false
  | .tup xs | .lst xs | .ro xs | .set xs => D.noBoxes xs
  | .dct ks vs | .dtt ks vs => D.noBoxes ks && D.noBoxes vs
  | .ins _ _ vs => D.noBoxes vs
  | .non | .bl _ | .int _ | .str _ | .cls _ | .ty _ => true
def D.noBoxes : List D → Bool
  | [] => true
  | x :: xs => x.noBox && D.noBoxes xs
end
/-- a field's container is taken out of its box -/
def unbox1 (S : Store) : D → Option D
  | .box n => (match S[n]? with
    | some d => if (isFresh d && d.noBox) = true then some d else none
    | none => none)
  | d => if d.noBox = true then some d else none
def unboxes (S : Store) : List D → Option (List D)
  | [] => some []
  | d :: ds => match unbox1 S d, unboxes S ds with
    | some x, some xs => some (x :: xs)
    | _, _ => none
/-- the instance that an __init__ has made, in a store of its own -/
def madeI : Store → Option D
  | .ins c ns vs :: S => (unboxes (.ins c ns vs :: S) vs).map fun ds => .ins c ns ds
  | _ => none
/-- an __init__'s run: the new instance -/
def runI (T : Tb) (W : Nat) (C : Calls) (fe : Fe) (c : Nat) (as : List D) : M (D × Bool) := fun S =>
  if as.length + 1 = fe.arity ∧ D.noBoxes as = true then
    (match sts T C W (some (.val (.box 0)) :: (as.map (fun d => some (.val d)) ++ List.replicate (fe.slots - (as.length + 1)) none)) fe.body [.ins c [] []] with
    | .ok (.nx _) S' => (match madeI S' with
      | some d => .ok (d, true) S
      | none => .bad)
    | .exc e fs _ => if D.noBoxes fs = true then .exc e fs S else .bad
    | _ => .bad)
  else .bad
def runF (T : Tb) (W : Nat) (C : Calls) (fe : Fe) (as : List D) : M (D × Bool) := match fe.ini with
  | none => run1 T W C fe as
  | some c => runI T W C fe c as
/-- calls, so many deep -/
def callF (T : Tb) (W : Nat) : Nat → Calls
  | 0, _, _ => fail
  | k + 1, f, as => match T.fns[f]? with
    | some fe => runF T W (callF T W k) fe as
    | none => fail
end Y
/-! Y3: steps, the relation carried along, the readings by meanings. -/
namespace Y
open PySem L2

section
variable {Z : Zc} {H G H' G' H1 G1 H2 G2 : Hp} {io io' io1 io2 : List Addr} {pl pl' : Plc} {S S' : Store} {de : Env} {σ : L2.St}

theorem Held.same {a : Addr} {u : HO} (h : Held H a u) (n : isD u = false) : H a = some u := by
  rcases h with h | ⟨h, _⟩
  · exact h
  · rw [n] at h
    cases h
theorem Held.rd {a : Addr} {u : HO} (h : Held H a u) : Rd H a u := by
  rcases h with h | ⟨_, h⟩
  · exact .inl h
  · exact .inr h
theorem Held.of {a : Addr} {u : HO} (h : H a = some u) : Held H a u := .inl h
theorem Held.ne {a : Addr} {u : HO} (h : Held H a u) : H a ≠ none := by
  rcases h with h | ⟨_, o, h⟩ <;> (rw [h]; exact Option.some_ne_none _)
theorem Step.refl : Step H G io H G io := ⟨fun _ _ h => h, fun a h => .inl h, fun _ _ h _ _ => .inl h, ⟨[], by simp, by simp⟩, fun _ h => h, fun _ _ h => .inl h⟩
theorem Step.none (a : Step H G io H1 G1 io1) {x : Addr} (h : H1 x = none) : H x = none := by
  cases q : H x with
  | none => rfl
  | some o => exact absurd h (a.al x (by rw [q]; exact Option.some_ne_none o))
theorem Step.trans (a : Step H G io H1 G1 io1) (b : Step H1 G1 io1 H2 G2 io2) : Step H G io H2 G2 io2 := by
  obtain ⟨m1, e1, n1⟩ := a.ext
  obtain ⟨m2, e2, n2⟩ := b.ext
  subst e1
  subst e2
  refine ⟨fun x u h => b.gg _ _ (a.gg _ _ h), fun x h => ?_, fun x o h hi ht => ?_, ⟨m1 ++ m2, by simp, fun x hx => ?_⟩, fun x h => b.al x (a.al x h), fun x xs h => ?_⟩
  · rcases b.gn x h with q | q | ⟨xs, q⟩
    · exact a.gn x q
    · exact .inr (.inl (a.none q))
    · rcases a.tp x xs q with r | r
      · exact .inr (.inr ⟨xs, r⟩)
      · exact .inr (.inl r)
  · have nx : x ∉ io ++ m1 := fun hm => by
      rcases List.mem_append.mp hm with z | z
      · exact hi z
      · rw [n1 x z] at h
        cases h
    rcases a.fr x o h hi ht with q | ⟨i, g, od, q⟩
    · rcases b.fr x o q nx ht with q | ⟨i, g, q⟩
      · exact .inl q
      · refine .inr ⟨i, ?_, q⟩
        rcases a.gn x (by rw [g]; exact Option.some_ne_none o) with z | z | ⟨xs, z⟩
        · cases e : G x with
          | none => exact absurd e z
          | some u =>
            have := a.gg x u e
            rw [g] at this
            cases this
            rfl
        · rw [h] at z; cases z
        · rw [h] at z; cases z; cases i
    · rcases b.fr x _ q nx (fun ps e => by cases e) with q | ⟨i', _⟩
      · exact .inr ⟨i, g, od, q⟩
      · cases i'
  · rcases List.mem_append.mp hx with z | z
    · exact n1 x z
    · exact a.none (n2 x z)
  · rcases b.tp x xs h with q | q
    · exact a.tp x xs q
    · exact .inr (a.none q)

theorem ext_get {n : Nat} {a : Addr} (s : Step H G io H' G' io') (h : io[n]? = some a) : io'[n]? = some a := by
  obtain ⟨m, e, _⟩ := s.ext
  subst e
  obtain ⟨hl, e⟩ := List.getElem?_eq_some_iff.mp h
  rw [List.getElem?_append_left hl]
  exact h
theorem sq_l {K : PySem.W.Frag} {a : Addr} {vs : List V} (g : ∀ a u, G a = some u → G' a = some u) (h : SqL K G a vs) : SqL K G' a vs := by
  rcases h with (h | ⟨o, h⟩) | h
  · exact .inl (.inl (g _ _ h))
  · exact .inl (.inr ⟨o, g _ _ h⟩)
  · exact .inr h
theorem sq_t {K : PySem.W.Frag} {a : Addr} {vs : List V} (g : ∀ a u, G a = some u → G' a = some u) (h : SqT K G a vs) : SqT K G' a vs := by
  rcases h with (h | ⟨o, h⟩) | h
  · exact .inl (.inl (g _ _ h))
  · exact .inl (.inr ⟨o, g _ _ h⟩)
  · exact .inr h
mutual
theorem Rep.mono (g : ∀ a u, G a = some u → G' a = some u) (i : ∀ (n : Nat) (a : Addr), io[n]? = some a → io'[n]? = some a) {v : V} {d : D} (r : Rep Z G io v d) : Rep Z G' io' v d := by
  cases r with
  | non => exact .non
  | bl b => exact .bl b
  | int i => exact .int i
  | str s => exact .str s
  | ty n => exact .ty n
  | cls c => exact .cls c
  | box h => exact .box (i _ _ h)
  | tup h r => exact .tup (g _ _ h) (Reps.mono g i r)
  | lst h r => exact .lst (g _ _ h) (Reps.mono g i r)
  | ro h r => exact .ro (h.elim (fun z => .inl (sq_l g z)) fun z => .inr (sq_t g z)) (Reps.mono g i r)
  | dK h r => exact .dK (g _ _ h) (Reps.mono g i r)
  | dT h r => exact .dT (g _ _ h) (Reps.mono g i r)
  | ins h r => exact .ins (g _ _ h) (Reps.mono g i r)
theorem Reps.mono (g : ∀ a u, G a = some u → G' a = some u) (i : ∀ (n : Nat) (a : Addr), io[n]? = some a → io'[n]? = some a) {v : List V} {d : List D} (r : Reps Z G io v d) : Reps Z G' io' v d := by
  cases r with
  | nil => exact .nil
  | cons h t => exact .cons (Rep.mono g i h) (Reps.mono g i t)
end
theorem Rep.step (s : Step H G io H' G' io') {v : V} {d : D} (r : Rep Z G io v d) : Rep Z G' io' v d := r.mono s.gg fun _ _ h => ext_get s h
theorem Reps.step (s : Step H G io H' G' io') {v : List V} {d : List D} (r : Reps Z G io v d) : Reps Z G' io' v d := r.mono s.gg fun _ _ h => ext_get s h
theorem Reps.length {vs : List V} {ds : List D} (r : Reps Z G io vs ds) : vs.length = ds.length := by
  induction ds generalizing vs with
  | nil => cases r; rfl
  | cons d ds ih =>
    cases r with
    | cons h t => simp [ih t]
theorem Reps.get {vs : List V} {ds : List D} (r : Reps Z G io vs ds) {i : Nat} {d : D} (h : ds[i]? = some d) : ∃ v, vs[i]? = some v ∧ Rep Z G io v d := by
  induction ds generalizing vs i with
  | nil => simp at h
  | cons e ds ih =>
    cases r with
    | cons q t =>
      cases i with
      | zero =>
        simp at h
        subst h
        exact ⟨_, rfl, q⟩
      | succ i =>
        obtain ⟨v, hv, r⟩ := ih t (by simpa using h)
        exact ⟨v, by simpa using hv, r⟩
theorem Reps.getV {vs : List V} {ds : List D} (r : Reps Z G io vs ds) {i : Nat} {v : V} (h : vs[i]? = some v) : ∃ d, ds[i]? = some d ∧ Rep Z G io v d := by
  induction ds generalizing vs i with
  | nil => cases r; simp at h
  | cons e ds ih =>
    cases r with
    | cons q t =>
      cases i with
      | zero =>
        simp at h
        subst h
        exact ⟨_, rfl, q⟩
      | succ i =>
        obtain ⟨d, hd, r⟩ := ih t (by simpa using h)
        exact ⟨d, by simpa using hd, r⟩
theorem Reps.append {vs ws : List V} {ds es : List D} (r : Reps Z G io vs ds) (q : Reps Z G io ws es) : Reps Z G io (vs ++ ws) (ds ++ es) := by
  induction ds generalizing vs with
  | nil => cases r; exact q
  | cons d ds ih =>
    cases r with
    | cons h t => exact .cons h (ih t)
theorem Reps.of_get {vs : List V} {ds : List D} (hl : vs.length = ds.length) (h : ∀ (i : Nat) (v : V) (d : D), vs[i]? = some v → ds[i]? = some d → Rep Z G io v d) : Reps Z G io vs ds := by
  induction ds generalizing vs with
  | nil =>
    cases vs with
    | nil => exact .nil
    | cons v vs => simp at hl
  | cons d ds ih =>
    cases vs with
    | nil => simp at hl
    | cons v vs => exact .cons (h 0 v d rfl rfl) (ih (by simpa using hl) fun i v d a b => h (i + 1) v d (by simpa using a) (by simpa using b))

/-- the known is held -/
theorem Rel.top (R : Rel Z H G io pl S de σ) {v : V} {d : D} (r : Rep Z G io v d) (n : ∀ k, d ≠ .box k) : Top Z H G io v d := by
  cases r with
  | non => exact .non
  | bl b => exact .bl b
  | int i => exact .int i
  | str s => exact .str s
  | ty m => exact .ty m
  | cls c => exact .cls c
  | box h => exact absurd rfl (n _)
  | tup h r => exact .tup ((R.gh _ _ h).same rfl) r
  | lst h r => exact .lst ((R.gh _ _ h).same rfl) r
  | ro h r =>
    refine .ro ?_ r
    rcases h with ((h | ⟨o, h⟩) | h) | ((h | ⟨o, h⟩) | h)
    · exact .inl (.inl (.inl ((R.gh _ _ h).same rfl)))
    · exact .inl (.inl (.inr ⟨o, (R.gh _ _ h).same rfl⟩))
    · exact .inl (.inr h)
    · exact .inr (.inl (.inl ((R.gh _ _ h).same rfl)))
    · exact .inr (.inl (.inr ⟨o, (R.gh _ _ h).same rfl⟩))
    · exact .inr (.inr h)
  | dK h r => exact .dK (R.gh _ _ h) r
  | dT h r => exact .dT (R.gh _ _ h) r
  | ins h r => exact .ins ((R.gh _ _ h).same rfl) r
theorem Own.top {a : Addr} {d : D} (o : Own Z H G io a d) : Top Z H G io (.ref a) d := by
  cases o with
  | lst h r => exact .lst h r
  | dK h r => exact .dK (.inl h) r
  | dT h r => exact .dT (.inl h) r
  | ins h r => exact .ins h r
/-- what a box holds -/
theorem Rel.view (R : Rel Z H G io pl S de σ) {v : V} {d : D} (r : Rep Z G io v d) : ∃ d', Y.view S d = d' ∧ ((∀ k, d ≠ .box k) → d' = d) ∧ (Top Z H G io v d' ∨ ∃ k, d = .box k ∧ S[k]? = none) := by
  refine ⟨_, rfl, fun n => ?_, ?_⟩
  · cases d <;> first | rfl | exact absurd rfl (n _)
  · by_cases hb : ∃ k, d = .box k
    · obtain ⟨k, rfl⟩ := hb
      cases q : S[k]? with
      | none => exact .inr ⟨k, rfl, q⟩
      | some e =>
        obtain ⟨a, ha, _, o⟩ := R.boxes k e q
        cases r with
        | box h =>
          rw [ha] at h
          cases h
          have : Y.view S (D.box k) = e := by
            show S.getD k .non = e
            rw [List.getD_eq_getElem?_getD, q]
            rfl
          rw [this]
          exact .inl o.top
    · have n : ∀ k, d ≠ .box k := fun k e => hb ⟨k, e⟩
      have : Y.view S d = d := by cases d <;> first | rfl | exact absurd rfl (n _)
      rw [this]
      exact .inl (R.top r n)

/-- a new thing becomes known -/
theorem upd_some {a b : Addr} {o : HO} (hn : H a = none) {u : HO} (h : H b = some u) : upd H a o b = some u := by
  rw [upd_ne]
  · exact h
  · rintro rfl
    rw [hn] at h
    cases h
theorem Own.mono (g : ∀ a u, G a = some u → G' a = some u) (i : ∀ (n : Nat) (a : Addr), io[n]? = some a → io'[n]? = some a) {a : Addr} {d : D} (hh : ∀ o, H a = some o → H' a = some o) (hd : ∀ c dx fs, H a = some (.ins c dx fs) → H dx = some (.own a) → H' dx = some (.own a) ∧ (G dx = none → G' dx = none)) (o : Own Z H G io a d) : Own Z H' G' io' a d := by
  cases o with
  | lst h r => exact .lst (hh _ h) (r.mono g i)
  | dK h r => exact .dK (hh _ h) (r.mono g i)
  | dT h r => exact .dT (hh _ h) (r.mono g i)
  | ins h r => exact .ins (hh _ h) (r.mono g i)
theorem EvR.mono (g : ∀ a u, G a = some u → G' a = some u) (i : ∀ (n : Nat) (a : Addr), io[n]? = some a → io'[n]? = some a) (hp : ∀ a p, (∀ n, p ≠ Pl.box n) → pl a = some p → pl' a = some p) (hh : ∀ a p o, pl a = some p → (∀ n, p ≠ Pl.box n) → H a = some o → H' a = some o)
    (hd : ∀ a dx, H dx = some (.own a) → H' dx = some (.own a) ∧ (G dx = none → G' dx = none)) {k : Nat} {v : V} {e : EV} (r : EvR Z H G io pl k v e) : EvR Z H' G' io' pl' k v e := by
  cases e with
  | val d => exact Rep.mono g i (show Rep Z G io v d from r)
  | own d =>
    obtain ⟨a, e, p, o⟩ := r
    exact ⟨a, e, hp _ _ (fun n => by simp) p, o.mono g i (fun u hu => hh a _ u p (fun n => by simp) hu) fun c dx fs _ h2 => hd _ _ h2⟩
theorem Own.keep (s : Step H G io H' G' io') {a : Addr} {d : D} (hk : ∀ u, H a = some u → (∀ ps, u ≠ .tbl ps) → H' a = some u) (ownK : ∀ a dx, H dx = some (.own a) → H' dx = some (.own a) ∧ (G dx = none → G' dx = none)) (o : Own Z H G io a d) : Own Z H' G' io' a d := by
  cases o with
  | lst h r => exact .lst (hk _ h (by simp)) (r.step s)
  | dK h r => exact .dK (hk _ h (by simp)) (r.step s)
  | dT h r => exact .dT (hk _ h (by simp)) (r.step s)
  | ins h r => exact .ins (hk _ h (by simp)) (r.step s)
theorem Own.notOwn {a x : Addr} {d : D} (o : Own Z H G io a d) (h : H a = some (.own x)) : False := by
  cases o with
  | lst h' _ => rw [h] at h'; cases h'
  | dK h' _ => rw [h] at h'; cases h'
  | dT h' _ => rw [h] at h'; cases h'
  | ins h' _ => rw [h] at h'; cases h'
/-- behind a step of a callee, of a comprehension: the slots are as they were -/
theorem Rel.back (R : Rel Z H G io pl S de σ) (s : Step H G io H' G' io') {de' : Env} {σ' : L2.St} (R' : Rel Z H' G' io' pl' S' de' σ') : ∃ pl2, Rel Z H' G' io' pl2 S' de σ ∧ ∀ a p, (∀ n, p ≠ Pl.box n) → (pl2 a = some p ↔ pl a = some p) := by
  have nio : ∀ a p, pl a = some p → (∀ n, p ≠ Pl.box n) → a ∉ io := fun a p h hn hm => by
    obtain ⟨n, hl, e⟩ := List.mem_iff_getElem.mp hm
    have h2 : io[n]? = some a := by rw [List.getElem?_eq_getElem hl, e]
    obtain ⟨b, hb, hpb, _⟩ := R.boxes n (S[n]'(by rw [← R.bl]; exact hl)) (List.getElem?_eq_getElem _)
    rw [h2] at hb
    cases hb
    rw [h] at hpb
    cases hpb
    exact hn n rfl
  have kp : ∀ a p o, pl a = some p → (∀ n, p ≠ Pl.box n) → H a = some o → (∀ ps, o ≠ .tbl ps) → H' a = some o := fun a p o h hn ho ht => by
    rcases s.fr a o ho (nio a p h hn) ht with q | ⟨_, g, _⟩
    · exact q
    · rw [(R.plg a (by rw [h]; exact Option.some_ne_none _)).1] at g
      cases g
  have gno : ∀ a p, pl a = some p → (∀ n, p ≠ Pl.box n) → G' a = none := fun a p h hn => by
    obtain ⟨h1, h2, h3⟩ := R.plg a (by rw [h]; exact Option.some_ne_none _)
    cases q : G' a with
    | none => rfl
    | some o =>
      rcases s.gn a (by rw [q]; exact Option.some_ne_none o) with z | z | ⟨xs, z⟩
      · exact absurd h1 z
      · exact absurd z h2
      · exact absurd z (h3 xs)
  have own : ∀ a dx, H dx = some (.own a) → dx ∉ io := fun a dx h hm => by
    obtain ⟨n, hl, e⟩ := List.mem_iff_getElem.mp hm
    have h2 : io[n]? = some dx := by rw [List.getElem?_eq_getElem hl, e]
    obtain ⟨b, hb, _, o⟩ := R.boxes n (S[n]'(by rw [← R.bl]; exact hl)) (List.getElem?_eq_getElem _)
    rw [h2] at hb
    cases hb
    exact o.notOwn h
  have ownK : ∀ a dx, H dx = some (.own a) → H' dx = some (.own a) ∧ (G dx = none → G' dx = none) := fun a dx h => by
    refine ⟨(s.fr dx _ h (own a dx h) (fun ps e => by cases e)).elim id fun q => absurd q.1 (by simp [isD]), fun hg => ?_⟩
    cases q : G' dx with
    | none => rfl
    | some o =>
      rcases s.gn dx (by rw [q]; exact Option.some_ne_none o) with z | z | ⟨xs, z⟩
      · exact absurd hg z
      · rw [h] at z; cases z
      · rw [h] at z; cases z
  let p2 : Plc := fun a => match pl a with
    | some (.slot i) => some (.slot i)
    | some (.fld i) => some (.fld i)
    | _ => match pl' a with
      | some (.box n) => some (.box n)
      | _ => none
  have p2s : ∀ a p, (∀ n, p ≠ Pl.box n) → pl a = some p → p2 a = some p := fun a p hn h => by
    show (match pl a with | some (.slot i) => some (Pl.slot i) | some (.fld i) => some (.fld i) | _ => _) = _
    rw [h]
    cases p with
    | slot i => rfl
    | fld i => rfl
    | box n => exact absurd rfl (hn n)
  have notbl : ∀ a p o, pl a = some p → (∀ n, p ≠ Pl.box n) → H a = some o → H' a = some o ∨ ∃ ps, o = .tbl ps := fun a p o h hn ho => by
    by_cases ht : ∃ ps, o = .tbl ps
    · exact .inr ht
    · exact .inl (kp a p o h hn ho fun ps e => ht ⟨ps, e⟩)
  have p2i : ∀ a p, (∀ n, p ≠ Pl.box n) → (p2 a = some p ↔ pl a = some p) := fun a p hn => by
    refine ⟨fun h => ?_, p2s a p hn⟩
    have h : (match pl a with | some (.slot i) => some (Pl.slot i) | some (.fld i) => some (.fld i) | _ => match pl' a with | some (.box n) => some (.box n) | _ => none) = some p := h
    split at h
    · rename_i q; rw [q]; exact h
    · rename_i q; rw [q]; exact h
    · split at h
      · cases h; exact absurd rfl (hn _)
      · cases h
  refine ⟨p2, ⟨R'.gh, R.len, fun k e he => ?_, R'.bl, fun n d hd => ?_, fun a ha => ?_⟩, p2i⟩
  · obtain ⟨v, hv, r⟩ := R.slots k e he
    refine ⟨v, hv, ?_⟩
    cases e with
    | val d => exact Rep.step s (show Rep Z G io v d from r)
    | own d =>
      obtain ⟨a, e, p, o⟩ := r
      refine ⟨a, e, p2s _ _ (fun n => by simp) p, ?_⟩
      have hk : ∀ u, H a = some u → (∀ ps, u ≠ .tbl ps) → H' a = some u := fun u hu ht => kp a _ u p (fun n => by simp) hu ht
      exact o.keep s hk ownK
  · obtain ⟨a, ha, hp, o⟩ := R'.boxes n d hd
    refine ⟨a, ha, ?_, o⟩
    have hnot : ∀ p, pl a = some p → ∃ m, p = .box m := fun p h => by
      cases p with
      | box m => exact ⟨m, rfl⟩
      | slot i =>
        exfalso
        have hne : a ∉ io := nio a _ h fun n => by simp
        obtain ⟨m, e, hm⟩ := s.ext
        have : a ∈ io' := List.mem_of_getElem? ha
        rw [e] at this
        rcases List.mem_append.mp this with z | z
        · exact hne z
        · exact (R.plg a (by rw [h]; exact Option.some_ne_none _)).2.1 (hm a z)
      | fld i =>
        exfalso
        have hne : a ∉ io := nio a _ h fun n => by simp
        obtain ⟨m, e, hm⟩ := s.ext
        have : a ∈ io' := List.mem_of_getElem? ha
        rw [e] at this
        rcases List.mem_append.mp this with z | z
        · exact hne z
        · exact (R.plg a (by rw [h]; exact Option.some_ne_none _)).2.1 (hm a z)
    show (match pl a with | some (.slot i) => some (Pl.slot i) | some (.fld i) => some (.fld i) | _ => match pl' a with | some (.box n) => some (.box n) | _ => none) = _
    rw [hp]
    cases q : pl a with
    | none => rfl
    | some p =>
      obtain ⟨m, rfl⟩ := hnot p q
      rfl
  · have ha : (match pl a with | some (.slot i) => some (Pl.slot i) | some (.fld i) => some (.fld i) | _ => match pl' a with | some (.box n) => some (.box n) | _ => none) ≠ none := ha
    have old : ∀ p, pl a = some p → (∀ n, p ≠ Pl.box n) → G' a = none ∧ H' a ≠ none ∧ ∀ xs, H' a ≠ some (.tup xs) := fun p h hn => by
      obtain ⟨h1, h2, h3⟩ := R.plg a (by rw [h]; exact Option.some_ne_none _)
      refine ⟨gno a p h hn, s.al a h2, fun xs e => ?_⟩
      rcases s.tp a xs e with z | z
      · exact h3 xs z
      · exact h2 z
    have new : pl' a ≠ none → G' a = none ∧ H' a ≠ none ∧ ∀ xs, H' a ≠ some (.tup xs) := fun h => R'.plg a h
    cases q : pl a with
    | none =>
      rw [q] at ha
      refine new fun e => ?_
      rw [e] at ha
      exact ha rfl
    | some p =>
      cases p with
      | slot i => exact old _ q fun n => by simp
      | fld i => exact old _ q fun n => by simp
      | box n =>
        rw [q] at ha
        refine new fun e => ?_
        rw [e] at ha
        exact ha rfl
end
end Y
/-! Y4: readings by meanings; names, constants, numbers. -/
namespace Y
open PySem L2

/-- an exception's object, by its class and fields -/
def ExcR (Z : Zc) (H G : Hp) (io : List Addr) (cls : Value) (dd : Option Addr) (c : Nat) (fs : List D) : Prop :=
  cls = .ref (Z.ca c) ∧ ((fs = [] ∧ dd = none) ∨ ∃ d fvs, dd = some d ∧ H d = some (.xd fvs) ∧ Reps Z G io (fvs.map (·.2)) fs)

def Fin {α : Type} (Z : Zc) (H G : Hp) (io : List Addr) (de : Env) (σ : L2.St) (W : WX) (r : Res α) (K : α → Store → Prop) : Prop := match r with
  | .ok a S => K a S
  | .exc c fs S => ∀ H' G' io' pl' cls dd, Step H G io H' G' io' → Rel Z H' G' io' pl' S de σ → ExcR Z H' G' io' cls dd c fs → W cls dd σ H'
  | .bad => False

section
variable {α β : Type} {Z : Zc} {H G H' G' H1 G1 : Hp} {io io' io1 : List Addr} {pl pl' pl1 : Plc} {S S' S1 : Store} {de : Env} {σ : L2.St} {W : WX}
theorem Fin.bnd {r : Res α} {f : α → M β} {K : β → Store → Prop} (h : Fin Z H G io de σ W (r.bnd f) K) : Fin Z H G io de σ W r fun a S => Fin Z H G io de σ W (f a S) K := by
  cases r with
  | ok a S => exact h
  | exc c fs S => exact h
  | bad => exact h
theorem Fin.at {r : Res α} {K K' : α → Store → Prop} (h : Fin Z H G io de σ W r K) (s : Step H G io H1 G1 io1) (k : ∀ a S, K a S → K' a S) : Fin Z H1 G1 io1 de σ W r K' := by
  cases r with
  | ok a S => exact k _ _ h
  | exc c fs S => exact fun H' G' io' pl' cls dd s2 R e => h H' G' io' pl' cls dd (s.trans s2) R e
  | bad => exact h
theorem Fin.imp {r : Res α} {K K' : α → Store → Prop} (h : Fin Z H G io de σ W r K) (k : ∀ a S, K a S → K' a S) : Fin Z H G io de σ W r K' := h.at Step.refl k
theorem Fin.lift {o : Option α} {K : α → Store → Prop} (h : Fin Z H G io de σ W (Y.lift o S) K) : ∃ a, o = some a ∧ K a S := by
  cases o with
  | none => exact h.elim
  | some a => exact ⟨a, rfl, h⟩
theorem Fin.tryL {o : Option α} {f : α → M β} {K : β → Store → Prop} (h : Fin Z H G io de σ W (Y.tryL o f S) K) : ∃ a, o = some a ∧ Fin Z H G io de σ W (f a S) K := by
  cases o with
  | none => exact h.elim
  | some a => exact ⟨a, rfl, h⟩
end

/-- what is wanted of a value -/
abbrev KQ (Z : Zc) (H G : Hp) (io : List Addr) (de : Env) (σ : L2.St) (Q : VK) : D → Store → Prop := fun d S' => ∀ H' G' io' pl' v, Step H G io H' G' io' → Rel Z H' G' io' pl' S' de σ → Rep Z G' io' v d → Q v H'
section
variable (Z : Zc) (T : Tb) (C : Calls) (W : WX)
/-- an expression's reading -/
def tE (ir : IR) : TE := fun σ H Q => ∃ G io pl S de, Rel Z H G io pl S de σ ∧ Fin Z H G io de σ W (ev T C de ir S) fun d S' => ∀ H' G' io' pl' v, Step H G io H' G' io' → Rel Z H' G' io' pl' S' de σ → Rep Z G' io' v d → Q v H'
/-- an operand: a value, or a container of one's own -/
def Opd (G : Hp) (io : List Addr) (de : Env) (σ : L2.St) (v : V) (d : D) : Prop := Rep Z G io v d ∨ ∃ i : Nat, de[i]? = some (some (EV.own d)) ∧ σ[i]? = some (some v) ∧ isFresh d = true
def tO (ir : IR) : TE := fun σ H Q => ∃ G io pl S de, Rel Z H G io pl S de σ ∧ Fin Z H G io de σ W (ev T C de ir S) fun d S' => ∀ H' G' io' pl' v, Step H G io H' G' io' → Rel Z H' G' io' pl' S' de σ → Opd Z G' io' de σ v d → Q v H'
def tT (ir : IR) : TT := fun σ H Q => ∃ G io pl S de, Rel Z H G io pl S de σ ∧ Fin Z H G io de σ W (evt T C de ir S) fun k S' => ∀ H' G' io' pl', Step H G io H' G' io' → Rel Z H' G' io' pl' S' de σ → Q k H'
/-- an argument list's -/
def tL (ir : IR) : TA := fun σ H Q => ∃ G io pl S de, Rel Z H G io pl S de σ ∧ Fin Z H G io de σ W (evl T C de ir S) fun ds S' => ∀ H' G' io' pl' vs, Step H G io H' G' io' → Rel Z H' G' io' pl' S' de σ → Reps Z G' io' vs ds → Q vs H'
inductive Opds (G : Hp) (io : List Addr) (de : Env) (σ : L2.St) : List V → List D → Prop where
  | nil : Opds G io de σ [] []
  | cons {v : V} {d : D} {vs : List V} {ds : List D} (h : Opd Z G io de σ v d) (t : Opds G io de σ vs ds) : Opds G io de σ (v :: vs) (d :: ds)
def tLO (ir : IR) : TA := fun σ H Q => ∃ G io pl S de, Rel Z H G io pl S de σ ∧ Fin Z H G io de σ W (evl T C de ir S) fun ds S' => ∀ H' G' io' pl' vs, Step H G io H' G' io' → Rel Z H' G' io' pl' S' de σ → Opds Z G' io' de σ vs ds → Q vs H'
/-- an optional int (a slice's part, pop's) -/
def tP (ir : IR) : TO := fun σ H Q => ∃ G io pl S de, Rel Z H G io pl S de σ ∧ Fin Z H G io de σ W (evo T C de ir S) fun d S' => ∀ H' G' io' pl', Step H G io H' G' io' → Rel Z H' G' io' pl' S' de σ → Q d H'
end

section
variable {Z : Zc} {T : Tb} {C : Calls} {W : WX} {X : Cx} {H G H' G' : Hp} {io io' : List Addr} {pl pl' : Plc} {S S' : Store} {de : Env} {σ : L2.St}
theorem Opd.step (s : Step H G io H' G' io') {v : V} {d : D} (o : Opd Z G io de σ v d) : Opd Z G' io' de σ v d := o.elim (fun r => .inl (r.step s)) .inr
theorem Opds.step (s : Step H G io H' G' io') {vs : List V} {ds : List D} (o : Opds Z G io de σ vs ds) : Opds Z G' io' de σ vs ds := by
  induction o with
  | nil => exact .nil
  | cons h t ih => exact .cons (h.step s) ih
theorem _root_.L2.PE.wk {X : Cx} {e : Expr} {t t' : TE} (h : PE X e t) (w : ∀ σ H Q, t' σ H Q → t σ H Q) : PE X e t' := ⟨fun pn s σ H Q J q => h.run pn s σ H Q J (w σ H Q q)⟩
theorem _root_.L2.PT.wk {X : Cx} {e : Expr} {t t' : TT} (h : PT X e t) (w : ∀ σ H Q, t' σ H Q → t σ H Q) : PT X e t' := ⟨fun pn s σ H Q J q => h.run pn s σ H Q J (w σ H Q q)⟩
theorem _root_.L2.PW.wk {X : Cx} {e : Expr} {t t' : TT} (h : PW X e t) (w : ∀ σ H Q, t' σ H Q → t σ H Q) : PW X e t' := ⟨fun wh pn s σ H Q J q => h.run wh pn s σ H Q J (w σ H Q q)⟩
theorem _root_.L2.PA.wk {X : Cx} {es : List Expr} {t t' : TA} (h : PA X es t) (w : ∀ σ H Q, t' σ H Q → t σ H Q) : PA X es t' := ⟨fun po pn s σ H Q J q => h.run po pn s σ H Q J (w σ H Q q)⟩
theorem tO_tE {ir : IR} {σ : L2.St} {H : Hp} {Q : VK} (h : tO Z T C W ir σ H Q) : tE Z T C W ir σ H Q := by
  obtain ⟨G, io, pl, S, de, R, h⟩ := h
  exact ⟨G, io, pl, S, de, R, h.imp fun d S k H' G' io' pl' v s R' r => k H' G' io' pl' v s R' (.inl r)⟩
/-- an operand's top as it stands -/
theorem Opd.top (R : Rel Z H G io pl S de σ) {v : V} {d : D} (o : Opd Z G io de σ v d) : Top Z H G io v (view S d) ∨ ∃ k, d = .box k ∧ S[k]? = none := by
  rcases o with r | ⟨i, hd, hv, _⟩
  · obtain ⟨d', e, _, h⟩ := R.view r
    rw [e]
    exact h
  · obtain ⟨v', hv', a, e, _, o⟩ := R.slots i _ hd
    rw [hv] at hv'
    cases hv'
    subst e
    refine .inl ?_
    cases o with
    | lst h r => exact .lst h r
    | dK h r => exact .dK (.inl h) r
    | dT h r => exact .dT (.inl h) r
    | ins h r => exact .ins h r
theorem view_gone {k : Nat} (h : S[k]? = none) : view S (.box k) = .non := by
  show S.getD k .non = .non
  rw [List.getD_eq_getElem?_getD, h]
  rfl

/-! ### names, constants -/
theorem s_var {i : Nat} {e : Expr} (h : PE X e (tVar i)) : PE X e (tE Z T C W (.var i)) := h.wk fun σ H Q q => by
  obtain ⟨G, io, pl, S, de, R, h⟩ := q
  have h' : Fin Z H G io de σ W ((match de[i]? with | some (some (.val d)) => ret d | _ => fail : M D) S) _ := h
  cases hd : de[i]? with
  | none => rw [hd] at h'; exact h'.elim
  | some o =>
    rw [hd] at h'
    cases o with
    | none => exact h'.elim
    | some e =>
      cases e with
      | val d =>
        obtain ⟨v, hv, r⟩ := R.slots i _ hd
        exact ⟨v, hv, h' H G io pl v Step.refl R r⟩
      | own d => exact h'.elim
theorem s_own {i : Nat} {e : Expr} (h : PE X e (tVar i)) : PE X e (tO Z T C W (.own i)) := h.wk fun σ H Q q => by
  obtain ⟨G, io, pl, S, de, R, h⟩ := q
  have h' : Fin Z H G io de σ W ((match de[i]? with | some (some (.own d)) => if isFresh d = true then ret d else fail | _ => fail : M D) S) _ := h
  cases hd : de[i]? with
  | none => rw [hd] at h'; exact h'.elim
  | some o =>
    rw [hd] at h'
    cases o with
    | none => exact h'.elim
    | some e =>
      cases e with
      | own d =>
        obtain ⟨v, hv, r⟩ := R.slots i _ hd
        have h' : Fin Z H G io de σ W ((if isFresh d = true then ret d else fail : M D) S) _ := h'
        split at h'
        · rename_i hf
          exact ⟨v, hv, h' H G io pl v Step.refl R (.inr ⟨i, hd, hv, hf⟩)⟩
        · exact h'.elim
      | val d => exact h'.elim
theorem s_const {ir : IR} {d : D} {v : V} {e : Expr} (h : PE X e (tC v)) (he : ∀ de, ev T C de ir = ret d) (r : ∀ G io, Rep Z G io v d) : PE X e (tE Z T C W ir) := h.wk fun σ H Q q => by
  obtain ⟨G, io, pl, S, de, R, h⟩ := q
  rw [he] at h
  exact h H G io pl v Step.refl R (r G io)

/-! ### one operand -/
theorem s_neg {a : IR} {e : Expr} {pos : Pos} (ha : PE X e (tE Z T C W a)) : PE X (.UnaryOp .USub e pos) (tE Z T C W (.neg a)) := (pe_un un_neg ha).wk fun σ H Q q => by
  obtain ⟨G, io, pl, S, de, R, h⟩ := q
  refine ⟨G, io, pl, S, de, R, (Fin.bnd (show Fin Z H G io de σ W ((ev T C de a S).bnd _) _ from h)).imp fun x S1 k H1 G1 io1 pl1 v s1 R1 r => ?_⟩
  cases r <;> first | exact (k : False).elim | skip
  exact ⟨_, rfl, k H1 G1 io1 pl1 _ s1 R1 (.int _)⟩
theorem s_not {a : IR} {e : Expr} {pos : Pos} (ha : PE X e (tE Z T C W a)) : PE X (.UnaryOp .Not e pos) (tE Z T C W (.inot a)) := (pe_not ha).wk fun σ H Q q => by
  obtain ⟨G, io, pl, S, de, R, h⟩ := q
  refine ⟨G, io, pl, S, de, R, (Fin.bnd (show Fin Z H G io de σ W ((ev T C de a S).bnd _) _ from h)).imp fun x S1 k H1 G1 io1 pl1 v s1 R1 r => ?_⟩
  cases r <;> first | exact (k : False).elim | skip
  exact ⟨_, rfl, k H1 G1 io1 pl1 _ s1 R1 (.bl _)⟩
theorem s_and {a b : IR} {e f : Expr} {rest : List Expr} {pos : Pos} (ha : PE X e (tE Z T C W a)) (hb : PE X (.BoolOp .And (f :: rest) pos) (tE Z T C W b)) : PE X (.BoolOp .And (e :: f :: rest) pos) (tE Z T C W (.iand a b)) := (pe_and ha hb).wk fun σ H Q q => by
  obtain ⟨G, io, pl, S, de, R, h⟩ := q
  refine ⟨G, io, pl, S, de, R, (Fin.bnd (show Fin Z H G io de σ W ((ev T C de a S).bnd _) _ from h)).imp fun x S1 k H1 G1 io1 pl1 v s1 R1 r => ?_⟩
  cases r <;> first | exact (k : False).elim | skip
  rename_i b'
  refine ⟨b', rfl, ?_⟩
  cases b' with
  | true => exact ⟨G1, io1, pl1, S1, de, R1, Fin.at k s1 fun d S2 k2 H2 G2 io2 pl2 v2 s2 R2 r2 => k2 H2 G2 io2 pl2 v2 (s1.trans s2) R2 r2⟩
  | false => exact k H1 G1 io1 pl1 _ s1 R1 (.bl _)
theorem s_or {a b : IR} {e f : Expr} {rest : List Expr} {pos : Pos} (ha : PE X e (tE Z T C W a)) (hb : PE X (.BoolOp .Or (f :: rest) pos) (tE Z T C W b)) : PE X (.BoolOp .Or (e :: f :: rest) pos) (tE Z T C W (.ior a b)) := (pe_or ha hb).wk fun σ H Q q => by
  obtain ⟨G, io, pl, S, de, R, h⟩ := q
  refine ⟨G, io, pl, S, de, R, (Fin.bnd (show Fin Z H G io de σ W ((ev T C de a S).bnd _) _ from h)).imp fun x S1 k H1 G1 io1 pl1 v s1 R1 r => ?_⟩
  cases r <;> first | exact (k : False).elim | skip
  rename_i b'
  refine ⟨b', rfl, ?_⟩
  cases b' with
  | false => exact ⟨G1, io1, pl1, S1, de, R1, Fin.at k s1 fun d S2 k2 H2 G2 io2 pl2 v2 s2 R2 r2 => k2 H2 G2 io2 pl2 v2 (s1.trans s2) R2 r2⟩
  | true => exact k H1 G1 io1 pl1 _ s1 R1 (.bl _)
theorem s_ife {c a b : IR} {e f g : Expr} {pos : Pos} (hc : PT X e (tT Z T C W c)) (ha : PE X f (tE Z T C W a)) (hb : PE X g (tE Z T C W b)) : PE X (.IfExp e f g pos) (tE Z T C W (.ife c a b)) := (pe_ifExp hc ha hb).wk fun σ H Q q => by
  obtain ⟨G, io, pl, S, de, R, h⟩ := q
  refine ⟨G, io, pl, S, de, R, (Fin.bnd (show Fin Z H G io de σ W ((evt T C de c S).bnd _) _ from h)).imp fun x S1 k H1 G1 io1 pl1 s1 R1 => ?_⟩
  cases x with
  | true => exact ⟨G1, io1, pl1, S1, de, R1, Fin.at k s1 fun d S2 k2 H2 G2 io2 pl2 v2 s2 R2 r2 => k2 H2 G2 io2 pl2 v2 (s1.trans s2) R2 r2⟩
  | false => exact ⟨G1, io1, pl1, S1, de, R1, Fin.at k s1 fun d S2 k2 H2 G2 io2 pl2 v2 s2 R2 r2 => k2 H2 G2 io2 pl2 v2 (s1.trans s2) R2 r2⟩

/-! ### tests -/
theorem s_tand {a b : IR} {e f : Expr} {rest : List Expr} {pos : Pos} (ha : PT X e (tT Z T C W a)) (hb : PW X (.BoolOp .And (f :: rest) pos) (tT Z T C W b)) : PW X (.BoolOp .And (e :: f :: rest) pos) (tT Z T C W (.tand a b)) := (pw_and ha hb).wk fun σ H Q q => by
  obtain ⟨G, io, pl, S, de, R, h⟩ := q
  refine ⟨G, io, pl, S, de, R, (Fin.bnd (show Fin Z H G io de σ W ((evt T C de a S).bnd _) _ from h)).imp fun x S1 k H1 G1 io1 pl1 s1 R1 => ?_⟩
  cases x with
  | true => exact ⟨G1, io1, pl1, S1, de, R1, Fin.at k s1 fun d S2 k2 H2 G2 io2 pl2 s2 R2 => k2 H2 G2 io2 pl2 (s1.trans s2) R2⟩
  | false => exact k H1 G1 io1 pl1 s1 R1
theorem s_tor {a b : IR} {e f : Expr} {rest : List Expr} {pos : Pos} (ha : PT X e (tT Z T C W a)) (hb : PW X (.BoolOp .Or (f :: rest) pos) (tT Z T C W b)) : PW X (.BoolOp .Or (e :: f :: rest) pos) (tT Z T C W (.tor a b)) := (pw_or ha hb).wk fun σ H Q q => by
  obtain ⟨G, io, pl, S, de, R, h⟩ := q
  refine ⟨G, io, pl, S, de, R, (Fin.bnd (show Fin Z H G io de σ W ((evt T C de a S).bnd _) _ from h)).imp fun x S1 k H1 G1 io1 pl1 s1 R1 => ?_⟩
  cases x with
  | false => exact ⟨G1, io1, pl1, S1, de, R1, Fin.at k s1 fun d S2 k2 H2 G2 io2 pl2 s2 R2 => k2 H2 G2 io2 pl2 (s1.trans s2) R2⟩
  | true => exact k H1 G1 io1 pl1 s1 R1
theorem s_tnot {a : IR} {e : Expr} {pos : Pos} (ha : PT X e (tT Z T C W a)) : PT X (.UnaryOp .Not e pos) (tT Z T C W (.tnot a)) := (pt_not ha).wk fun σ H Q q => by
  obtain ⟨G, io, pl, S, de, R, h⟩ := q
  exact ⟨G, io, pl, S, de, R, (Fin.bnd (show Fin Z H G io de σ W ((evt T C de a S).bnd _) _ from h)).imp fun x S1 k H1 G1 io1 pl1 s1 R1 => k H1 G1 io1 pl1 s1 R1⟩
/-- by a value that is a bool; hv: the layer's rule -/
theorem s_tb {a : IR} {e : Expr} (hv : PT X e (tB (tE Z T C W a))) : PT X e (tT Z T C W (.tb a)) := hv.wk fun σ H Q q => by
  obtain ⟨G, io, pl, S, de, R, h⟩ := q
  refine ⟨G, io, pl, S, de, R, (Fin.bnd (show Fin Z H G io de σ W ((ev T C de a S).bnd _) _ from h)).imp fun x S1 k H1 G1 io1 pl1 v s1 R1 r => ?_⟩
  cases r <;> first | exact (k : False).elim | skip
  exact ⟨_, rfl, k H1 G1 io1 pl1 s1 R1⟩

/-! ### calls, objects -/
theorem Opd.rep (R : Rel Z H G io pl S de σ) {v : V} {d : D} (o : Opd Z G io de σ v d) {c : Nat} {ns : List Str} {vs : List D} (h : view S d = .ins c ns vs) : Rep Z G io v d := by
  rcases o with r | ⟨i, hd, hv, hf⟩
  · exact r
  · cases d <;> first | (cases hf; done) | (cases h; done)
/-- a call of what has the index i, at values -/
def tCD (Z : Zc) (C : Calls) (W : WX) (i : Nat) (vs : List V) (σ : L2.St) (H : Hp) (Q : VK) : Prop := ∃ G io pl S de ds, Rel Z H G io pl S de σ ∧ Reps Z G io vs ds ∧ Fin Z H G io de σ W (C i ds S) fun r S' => ∀ H' G' io' pl' v, Step H G io H' G' io' → Rel Z H' G' io' pl' S' de σ → Rep Z G' io' v r.1 → Q v H'
def CallOk (X : Cx) (Z : Zc) (C : Calls) (W : WX) (i : Nat) (g : Addr) : Prop := ∀ (pins : List (Addr × Obj)) (s : Shared) (σ : L2.St) (H : Hp) (us : List Value) (vs : List V) (Q : VK), L2.Inv X pins σ H s → Vals vs us → tCD Z C W i vs σ H Q → wpAny (model X.prog X.w) X.A (call (.ref g) us) (EP X pins σ Q) X.xe s
/-- the same, one level within, nothing raised -/
def W0 : WX := fun _ _ _ _ => False
def CallOk1 (X : Cx) (Z : Zc) (C : Calls) (i : Nat) (g : Addr) : Prop := ∀ (pins : List (Addr × Obj)) (s : Shared) (σ : L2.St) (H : Hp) (us : List Value) (vs : List V) (Q : VK) (E' : Value → Shared → Prop), L2.Inv X pins σ H s → Vals vs us → tCD Z C W0 i vs σ H Q → wpAny (model X.prog X.w) X.A.in1 (call (.ref g) us) (EP X pins σ Q) E' s
/-- what an expression's rules need of the classes -/
structure Disp (X : Cx) (Z : Zc) (T : Tb) (C : Calls) (W : WX) : Prop where
  cls : ∀ c ce, T.cls[c]? = some ce → Cls X.K (Z.ca c)
  fld : ∀ c f, T.isFld c f = true → NoAttr X.K (Z.ca c) f
  prop : ∀ c f i, T.prop c f = some i → ∀ (pins : List (Addr × Obj)) (s : Shared) (σ : L2.St) (H : Hp) (a dx : Addr) (fs : List (Str × V)) (Q : VK) (b : Bool), L2.Inv X pins σ H s → H a = some (.ins (Z.ca c) dx fs) → tCD Z C W0 i [.ref a] σ H Q → wpAny (model X.prog X.w) X.A (getAttr (.ref a) f b) (EP X pins σ Q) X.xe s
  meth : ∀ c m i, T.meth c m = some i → ∃ g, (Meth X.K (Z.ca c) m g ∧ PySem.W.fnIn X.K g = true) ∧ CallOk X Z C W i g ∧ CallOk1 X Z C i g
  isc : ∀ c ce, T.cls[c]? = some ce → (PySem.W.findIn X.K (.ref (Z.ca c)) "__class__" = some (some (.builtin "object.__class__")) ∧ PySem.W.specialIn X.K (.builtin "object.__class__") "__get__" = some (some (.builtin "getset_descriptor.__get__")) ∧ PySem.W.takesIn X.K (.builtin "object.__class__") = some true ∧ PySem.W.mroIn X.K (Z.ca c) (.type "object") = some true) ∧ (∀ n ∈ tyKnown, PySem.W.kitOne X.K (.ref (Z.ca c)) (.type n) = some false) ∧ (∀ n ∈ "NoneType" :: tyKnown, PySem.W.kitOne X.K (.type n) (.ref (Z.ca c)) = some false) ∧ ∀ c' ce', T.cls[c']? = some ce' → PySem.W.kitOne X.K (.ref (Z.ca c)) (.ref (Z.ca c')) = some (c == c')
  oob : ∀ c ce, T.cls[c]? = some ce → PySem.W.subIn X.K (.ref (Z.ca c)) (.type "object") = some true ∧ PySem.W.subIn X.K (.ref (Z.ca c)) (.type "collections.deque") = some false ∧ PySem.W.findIn X.K (.ref (Z.ca c)) "__ne__" = some (some (.builtin "object.__ne__"))
theorem isFld_cls {c : Nat} {f : Str} (h : T.isFld c f = true) : ∃ ce, T.cls[c]? = some ce := by
  unfold Tb.isFld at h
  cases e : T.cls[c]? with
  | none => rw [e] at h; cases h
  | some ce => exact ⟨ce, rfl⟩
theorem prop_cls {c i : Nat} {f : Str} (h : T.prop c f = some i) : ∃ ce, T.cls[c]? = some ce := by
  unfold Tb.prop at h
  cases e : T.cls[c]? with
  | none => rw [e] at h; cases h
  | some ce => exact ⟨ce, rfl⟩
theorem meth_cls {c i : Nat} {f : Str} (h : T.meth c f = some i) : ∃ ce, T.cls[c]? = some ce := by
  unfold Tb.meth at h
  cases e : T.cls[c]? with
  | none => rw [e] at h; cases h
  | some ce => exact ⟨ce, rfl⟩
theorem fieldOf_ok {f : Str} {d : D} : ∀ {fs : List (Str × V)} {ds : List D}, Reps Z G io (fs.map (·.2)) ds → fieldOf (fs.map (·.1)) ds f = some d → ∃ v, fs.lookup f = some v ∧ Rep Z G io v d
  | [], ds, r, h => by cases h
  | p :: fs, ds, r, h => by
    rw [List.map_cons] at r
    cases r with
    | cons q t =>
      rename_i d0 ds
      have h : (if p.1 = f then some d0 else fieldOf (fs.map (·.1)) ds f) = some d := h
      obtain ⟨n, v⟩ := p
      by_cases e : n = f
      · rw [if_pos e] at h
        cases h
        exact ⟨v, by rw [List.lookup_cons, e]; simp, q⟩
      · rw [if_neg e] at h
        obtain ⟨w, h1, h2⟩ := fieldOf_ok t h
        refine ⟨w, ?_, h2⟩
        rw [List.lookup_cons]
        rw [show (f == n) = false from beq_false_of_ne fun z => e z.symm]
        exact h1
theorem ins_top (R : Rel Z H G io pl S de σ) {v : V} {d : D} (r : Rep Z G io v d) {c : Nat} {ns : List Str} {vs : List D} (h : view S d = .ins c ns vs) : ∃ a dx fs, v = .ref a ∧ H a = some (.ins (Z.ca c) dx fs) ∧ ns = fs.map (·.1) ∧ Reps Z G io (fs.map (·.2)) vs := by
  obtain ⟨d', e, _, t⟩ := R.view r
  rw [h] at e
  subst e
  rcases t with t | ⟨k, rfl, hk⟩
  · cases t with
    | ins hh rr => exact ⟨_, _, _, rfl, hh, rfl, rr⟩
  · rw [view_gone hk] at h
    cases h
theorem lookup_none {f : Str} : ∀ {fs : List (Str × V)}, (fs.map (·.1)).contains f = false → fs.lookup f = none
  | [], _ => rfl
  | p :: fs, h => by
    rw [List.map_cons, List.contains_cons, Bool.or_eq_false_iff] at h
    rw [List.lookup_cons, h.1]
    exact lookup_none h.2
/-- a dunder method's run -/
theorem dun_go {c : Nat} {m : Str} {as : List D} {vs : List V} {K : D → Store → Prop} {Q : VK} (dp : Disp X Z T C W) (R : Rel Z H G io pl S de σ) (rs : Reps Z G io vs as) (h : Fin Z H G io de σ W (dunR T C c m as S) K)
    (k : ∀ d S' H' G' io' pl' v, K d S' → Step H G io H' G' io' → Rel Z H' G' io' pl' S' de σ → Rep Z G' io' v d → Q v H') : ∃ g, Meth X.K (Z.ca c) m g ∧ (∃ ce, T.cls[c]? = some ce) ∧ ∀ (pins : List (Addr × Obj)) (s : Shared) (us : List Value), L2.Inv X pins σ H s → Vals vs us → wpAny (model X.prog X.w) X.A (call (.ref g) us) (EP X pins σ Q) X.xe s := by
  unfold dunR at h
  cases hm : T.meth c m with
  | none => rw [hm] at h; exact h.elim
  | some i =>
    rw [hm] at h
    obtain ⟨g, ⟨hg, _⟩, ok, _⟩ := dp.meth c m i hm
    refine ⟨g, hg, meth_cls hm, fun pins s us I r => ok pins s σ H us vs Q I r ⟨G, io, pl, S, de, as, R, rs, (Fin.bnd h).imp fun x S1 k1 H1 G1 io1 pl1 v s1 R1 rv => k _ _ _ _ _ _ _ k1 s1 R1 rv⟩⟩
theorem hush_go {α : Type} {r : Res α} {K K' : α → Store → Prop} (h : Fin Z H G io de σ W r.hush K) (k : ∀ a S, K a S → K' a S) : Fin Z H G io de σ W0 r K' := by
  cases r with
  | ok a S => exact k _ _ h
  | exc c fs S => exact (h : False).elim
  | bad => exact h.elim
theorem dun_go1 {c : Nat} {m : Str} {as : List D} {vs : List V} {K : D → Store → Prop} {Q : VK} (dp : Disp X Z T C W) (R : Rel Z H G io pl S de σ) (rs : Reps Z G io vs as) (h : Fin Z H G io de σ W0 (dunR T C c m as S) K)
    (k : ∀ d S' H' G' io' pl' v, K d S' → Step H G io H' G' io' → Rel Z H' G' io' pl' S' de σ → Rep Z G' io' v d → Q v H') : ∃ g, (Meth X.K (Z.ca c) m g ∧ PySem.W.fnIn X.K g = true) ∧ (∃ ce, T.cls[c]? = some ce) ∧ ∀ (pins : List (Addr × Obj)) (s : Shared) (us : List Value) (E' : Value → Shared → Prop), L2.Inv X pins σ H s → Vals vs us → wpAny (model X.prog X.w) X.A.in1 (call (.ref g) us) (EP X pins σ Q) E' s := by
  unfold dunR at h
  cases hm : T.meth c m with
  | none => rw [hm] at h; exact h.elim
  | some i =>
    rw [hm] at h
    obtain ⟨g, hg, _, ok⟩ := dp.meth c m i hm
    refine ⟨g, hg, meth_cls hm, fun pins s us E' I r => ok pins s σ H us vs Q E' I r ⟨G, io, pl, S, de, as, R, rs, (Fin.bnd h).imp fun x S1 k1 H1 G1 io1 pl1 v s1 R1 rv => k _ _ _ _ _ _ _ k1 s1 R1 rv⟩⟩
end
end Y
/-! Y5: operators. -/
namespace Y
open PySem L2

section
variable {Z : Zc} {H G H' G' : Hp} {io io' : List Addr} {pl pl' : Plc} {S S' : Store} {de : Env} {σ : L2.St}

/-- a new object is laid, and known -/
theorem Rel.new (R : Rel Z H G io pl S de σ) {p : Addr} (hp : H p = none) (o : HO) : Rel Z (upd H p o) (upd G p o) io pl S de σ ∧ Step H G io (upd H p o) (upd G p o) io := by
  have gp : G p = none := by
    cases q : G p with
    | none => rfl
    | some u => exact absurd hp (R.gh p u q).ne
  have plp : pl p = none := by
    cases q : pl p with
    | none => rfl
    | some u => exact absurd hp (R.plg p (by rw [q]; exact Option.some_ne_none _)).2.1
  have gg : ∀ a u, G a = some u → upd G p o a = some u := fun a u h => upd_some gp h
  have hh : ∀ a u, H a = some u → upd H p o a = some u := fun a u h => upd_some hp h
  have ne : ∀ a, pl a ≠ none → a ≠ p := fun a h e => h (by rw [e]; exact plp)
  have hne : ∀ a u, H a = some u → a ≠ p := fun a u h e => by
    rw [e, hp] at h
    cases h
  refine ⟨⟨fun a u h => ?_, R.len, fun k e he => ?_, R.bl, fun n d hd => ?_, fun a ha => ?_⟩, ⟨gg, fun a h => ?_, fun a u h _ _ => .inl (hh a u h), ⟨[], by simp, by simp⟩, fun a h => ?_, fun a xs h => ?_⟩⟩
  · by_cases e : a = p
    · subst e
      rw [upd_same] at h
      cases h
      exact .inl upd_same
    · rw [upd_ne e] at h
      rcases R.gh a u h with q | ⟨i, o', q⟩
      · exact .inl (hh _ _ q)
      · exact .inr ⟨i, o', hh _ _ q⟩
  · obtain ⟨v, hv, r⟩ := R.slots k e he
    refine ⟨v, hv, r.mono gg (fun _ _ h => h) (fun _ _ _ h => h) (fun a _ u _ _ h => hh a u h) fun a dx h => ⟨hh _ _ h, fun g => ?_⟩⟩
    rw [upd_ne (hne _ _ h)]
    exact g
  · obtain ⟨a, ha, hpa, ow⟩ := R.boxes n d hd
    refine ⟨a, ha, hpa, ow.mono gg (fun _ _ h => h) (fun u h => hh a u h) fun c dx fs _ h => ⟨hh _ _ h, fun g => ?_⟩⟩
    rw [upd_ne (hne _ _ h)]
    exact g
  · obtain ⟨h1, h2, h3⟩ := R.plg a ha
    rw [upd_ne (ne a ha), upd_ne (ne a ha)]
    exact ⟨h1, h2, h3⟩
  · by_cases e : a = p
    · subst e
      exact .inr (.inl hp)
    · rw [upd_ne e] at h
      exact .inl h
  · by_cases e : a = p
    · subst e
      rw [upd_same]
      exact Option.some_ne_none _
    · rw [upd_ne e]
      exact h
  · by_cases e : a = p
    · subst e
      exact .inr hp
    · rw [upd_ne e] at h
      exact .inl h

/-- what is wanted behind an operation on known things: nothing but new things -/
def Go (Z : Zc) (H G : Hp) (io : List Addr) (S : Store) (de : Env) (σ : L2.St) (d : D) (Q : VK) : Prop := ∀ H' G' io' pl' v, Step H G io H' G' io' → Rel Z H' G' io' pl' S de σ → Rep Z G' io' v d → Q v H'
theorem Go.here {d : D} {Q : VK} {v : V} (g : Go Z H G io S de σ d Q) (R : Rel Z H G io pl S de σ) (r : Rep Z G io v d) : Q v H := g H G io pl v .refl R r
theorem Go.lst {ds : List D} {vs : List V} {Q : VK} (g : Go Z H G io S de σ (.lst ds) Q) (R : Rel Z H G io pl S de σ) (r : Reps Z G io vs ds) {p : Addr} (hp : H p = none) : Q (.ref p) (upd H p (.lst vs)) := by
  obtain ⟨R', s⟩ := R.new hp (.lst vs)
  exact g _ _ _ _ _ s R' (.lst upd_same (r.step s))
theorem Go.tup {ds : List D} {vs : List V} {Q : VK} (g : Go Z H G io S de σ (.tup ds) Q) (R : Rel Z H G io pl S de σ) (r : Reps Z G io vs ds) {p : Addr} (hp : H p = none) : Q (.ref p) (upd H p (.tup vs)) := by
  obtain ⟨R', s⟩ := R.new hp (.tup vs)
  exact g _ _ _ _ _ s R' (.tup upd_same (r.step s))

/-- a tuple that is read at its top is known, or becomes so -/
theorem Rel.seen (R : Rel Z H G io pl S de σ) {a : Addr} {vs : List V} (h : H a = some (.tup vs)) : ∃ G', Rel Z H G' io pl S de σ ∧ Step H G io H G' io ∧ G' a = some (.tup vs) := by
  have pn : pl a = none := by
    cases q : pl a with
    | none => rfl
    | some u => exact absurd h ((R.plg a (by rw [q]; exact Option.some_ne_none _)).2.2 vs)
  have ne : ∀ b, pl b ≠ none → b ≠ a := fun b hb e => hb (by rw [e]; exact pn)
  have gg : ∀ b u, G b = some u → upd G a (.tup vs) b = some u := fun b u hb => by
    by_cases e : b = a
    · subst e
      have := R.gh b u hb
      rcases this with q | ⟨i, o, q⟩
      · rw [h] at q
        cases q
        exact upd_same
      · rw [h] at q
        cases q
    · rw [upd_ne e]
      exact hb
  have hne : ∀ b x, H b = some (.own x) → b ≠ a := fun b x hb e => by
    rw [e, h] at hb
    cases hb
  refine ⟨upd G a (.tup vs), ⟨fun b u hb => ?_, R.len, fun k e he => ?_, R.bl, fun n d hd => ?_, fun b hb => ?_⟩, ⟨gg, fun b hb => ?_, fun _ _ hb _ _ => .inl hb, ⟨[], by simp, by simp⟩, fun _ hb => hb, fun _ _ hb => .inl hb⟩, upd_same⟩
  · by_cases e : b = a
    · subst e
      rw [upd_same] at hb
      cases hb
      exact .inl h
    · rw [upd_ne e] at hb
      exact R.gh b u hb
  · obtain ⟨v, hv, r⟩ := R.slots k e he
    refine ⟨v, hv, r.mono gg (fun _ _ h => h) (fun _ _ _ h => h) (fun _ _ _ _ _ h => h) fun b dx hb => ⟨hb, fun g => ?_⟩⟩
    rw [upd_ne (hne _ _ hb)]
    exact g
  · obtain ⟨b, hb, hpa, ow⟩ := R.boxes n d hd
    refine ⟨b, hb, hpa, ow.mono gg (fun _ _ h => h) (fun _ h => h) fun c dx fs _ hb => ⟨hb, fun g => ?_⟩⟩
    rw [upd_ne (hne _ _ hb)]
    exact g
  · obtain ⟨h1, h2, h3⟩ := R.plg b hb
    rw [upd_ne (ne b hb)]
    exact ⟨h1, h2, h3⟩
  · by_cases e : b = a
    · subst e
      exact .inr (.inr ⟨vs, h⟩)
    · rw [upd_ne e] at hb
      exact .inl hb

/-! ### data -/
mutual
theorem Rel.dp (R : Rel Z H G io pl S de σ) {d : D} {v : V} (r : Rep Z G io v d) (p : d.pure = true) : Dp Z.K H v d.py := by
  cases r with
  | non => exact .non
  | bl b => exact .bl b
  | int i => exact .int i
  | str s => exact .str s
  | tup h r => exact .tup (SqT.of ((R.gh _ _ h).same rfl)) (Rel.dps R r p)
  | lst h r => exact .lst (SqL.of ((R.gh _ _ h).same rfl)) (Rel.dps R r p)
  | ty n => cases p
  | cls c => cases p
  | box h => cases p
  | ro h r => cases p
  | dK h r => cases p
  | dT h r => cases p
  | ins h r => cases p
theorem Rel.dps (R : Rel Z H G io pl S de σ) {ds : List D} {vs : List V} (r : Reps Z G io vs ds) (p : D.pures ds = true) : DpAll Z.K H vs (D.pys ds) := by
  cases r with
  | nil => exact .nil
  | cons h t => exact .cons (Rel.dp R h (Bool.and_eq_true_iff.mp p).1) (Rel.dps R t (Bool.and_eq_true_iff.mp p).2)
end
theorem Rel.dpT (R : Rel Z H G io pl S de σ) {d : D} {v : V} (t : Top Z H G io v d) (p : d.pure = true) : Dp Z.K H v d.py := by
  cases t with
  | non => exact .non
  | bl b => exact .bl b
  | int i => exact .int i
  | str s => exact .str s
  | tup h r => exact .tup (SqT.of h) (R.dps r p)
  | lst h r => exact .lst (SqL.of h) (R.dps r p)
  | ty n => cases p
  | cls c => cases p
  | ro h r => cases p
  | dK h r => cases p
  | dT h r => cases p
  | ins h r => cases p

theorem pys_map : ∀ ds : List D, D.pys ds = ds.map D.py
  | [] => rfl
  | d :: ds => by
    show d.py :: D.pys ds = _
    rw [pys_map ds]
    rfl
theorem any_py (x : D) : ∀ ds : List D, ((D.pys ds).any fun z => PyData.eqv z x.py) = ds.any fun z => PyData.eqv z.py x.py := fun ds => by
  rw [pys_map, List.any_map]
  rfl
/-- flat values -/
theorem flat_v {d : D} {v : V} (r : Rep Z G io v d) (f : d.flat = true) : flatV v = true := by
  cases r <;> first | rfl | cases f
theorem flat_vs {ds : List D} {vs : List V} (r : Reps Z G io vs ds) (f : ds.all D.flat = true) : vs.all flatV = true := by
  induction ds generalizing vs with
  | nil => cases r; rfl
  | cons d ds ih =>
    cases r with
    | cons h t =>
      rw [List.all_cons, Bool.and_eq_true] at f
      rw [List.all_cons, flat_v h f.1, ih t f.2]
      rfl
theorem flat_eq {d e : D} {v w : V} (r : Rep Z G io v d) (q : Rep Z G io w e) (f : d.flat = true) (g : e.flat = true) : eqV v w = PyData.eqv d.py e.py := by
  cases r <;> first | (cases f; done) | (cases q <;> first | (cases g; done) | (simp [eqV, D.py, PyData.eqv]; done) | rfl)
theorem flat_in {x : D} {ds : List D} {v : V} {vs : List V} (r : Rep Z G io v x) (rs : Reps Z G io vs ds) (f : x.flat = true) (fs : ds.all D.flat = true) : inV v vs = ds.any fun z => PyData.eqv z.py x.py := by
  unfold inV
  induction ds generalizing vs with
  | nil => cases rs; rfl
  | cons d ds ih =>
    cases rs with
    | cons h t =>
      rw [List.all_cons, Bool.and_eq_true] at fs
      rw [List.any_cons, List.any_cons, flat_eq h r fs.1 f, ih t fs.2]
theorem Top.flat {d : D} {v : V} (t : Top Z H G io v d) (f : d.flat = true) : Rep Z G io v d := by
  cases t <;> first | (cases f; done) | constructor

/-! ### what an operator's rule is to give -/
def P2ok (Z : Zc) (o : O2) (r : R2) : Prop := ∀ {H G : Hp} {io : List Addr} {pl : Plc} {S : Store} {de : Env} {σ : L2.St} {v1 v2 : V} {d1 d2 d : D} {Q : VK}, Rel Z H G io pl S de σ → Top Z H G io v1 d1 → Top Z H G io v2 d2 → p2 o d1 d2 = some d → Go Z H G io S de σ d Q → r v1 v2 H Q

theorem ok_int {o : O2} {g : Int → Int → V} {gD : Int → Int → D} (he : ∀ a b, p2 o a b = match a, b with
    | .int i, .int j => some (gD i j)
    | _, _ => none) (hr : ∀ (G : Hp) (io : List Addr) (i j : Int), Rep Z G io (g i j) (gD i j)) : P2ok Z o (rI0 g) := by
  intro H G io pl S de σ v1 v2 d1 d2 d Q R t1 t2 e k
  rw [he] at e
  cases t1 <;> first | (cases e; done) | skip
  cases t2 <;> first | (cases e; done) | skip
  cases e
  exact ⟨_, _, rfl, rfl, k.here R (hr _ _ _ _)⟩
theorem ok_sub : P2ok Z .sub (rI0 fun i j => .int (i - j)) := ok_int (gD := fun i j => .int (i - j)) (fun a b => rfl) fun _ _ _ _ => .int _
theorem ok_lt : P2ok Z .lt (rI0 fun i j => .bl (decide (i < j))) := ok_int (gD := fun i j => .bl (decide (i < j))) (fun a b => rfl) fun _ _ _ _ => .bl _
theorem ok_le : P2ok Z .le (rI0 fun i j => .bl (decide (i ≤ j))) := ok_int (gD := fun i j => .bl (decide (i ≤ j))) (fun a b => rfl) fun _ _ _ _ => .bl _
theorem ok_gt : P2ok Z .gt (rI0 fun i j => .bl (decide (j < i))) := ok_int (gD := fun i j => .bl (decide (j < i))) (fun a b => rfl) fun _ _ _ _ => .bl _
theorem ok_ge : P2ok Z .ge (rI0 fun i j => .bl (decide (j ≤ i))) := ok_int (gD := fun i j => .bl (decide (j ≤ i))) (fun a b => rfl) fun _ _ _ _ => .bl _
def rAddA (K : PySem.W.Frag) : R2 := fun x y H Q => (rI0 (fun i j => .int (i + j)) x y H Q) ∨ ((∃ i j, x = .str i ∧ y = .str j ∧ i.length + j.length ≤ sizeLine ∧ Q (.str (i ++ j)) H) ∨ (rCat x y H Q ∨ rCatA K x y H Q))
theorem op_addA {X : Cx} : OpR X (binaryOp .Add) (rAddA X.K) := op_add.or (op_add_str.or (op_cat.or op_catA))
theorem ok_add : P2ok Z .add (rAddA Z.K) := by
  intro H G io pl S de σ v1 v2 d1 d2 d Q R t1 t2 e k
  cases t1 <;> first | (cases e; done) | skip
  · cases t2 <;> first | (cases e; done) | skip
    cases e
    exact .inl ⟨_, _, rfl, rfl, k.here R (.int _)⟩
  · cases t2 <;> first | (cases e; done) | skip
    rename_i s t
    have e : (if sizeOk (s.length + t.length) = true then some (D.str (s ++ t)) else none) = some d := e
    split at e <;> cases e
    rename_i hz
    exact .inr (.inl ⟨_, _, rfl, rfl, of_decide_eq_true hz, k.here R (.str _)⟩)
  · rename_i h r
    cases t2 <;> first | (cases e; done) | skip
    rename_i a xs ds b ys es h2 r2
    have e : (if sizeOk (ds.length + es.length) = true then some (D.tup (ds ++ es)) else none) = some d := e
    split at e <;> cases e
    rename_i hz
    have hz := of_decide_eq_true hz
    have l1 := r.length
    have l2 := r2.length
    refine .inr (.inr (.inr ⟨_, _, _, _, rfl, rfl, SqT.of h, SqT.of h2, by omega, fun z => ?_, fun _ z => ?_, fun _ _ p hp => k.tup R (r.append r2) hp⟩))
    · subst z
      cases r
      obtain ⟨G', R', s, hg⟩ := R.seen h2
      exact k _ _ _ _ _ s R' (.tup hg (r2.step s))
    · subst z
      cases r2
      rw [List.append_nil] at k
      obtain ⟨G', R', s, hg⟩ := R.seen h
      exact k _ _ _ _ _ s R' (.tup hg (r.step s))
  · rename_i h r
    cases t2 <;> first | (cases e; done) | skip
    rename_i a xs ds b ys es h2 r2
    have e : (if sizeOk (ds.length + es.length) = true then some (D.lst (ds ++ es)) else none) = some d := e
    split at e <;> cases e
    rename_i hz
    have hz := of_decide_eq_true hz
    have l1 := r.length
    have l2 := r2.length
    exact .inr (.inr (.inl ⟨_, _, _, _, rfl, rfl, h, h2, by omega, fun p hp => k.lst R (r.append r2) hp⟩))
theorem reps_rep {vs : List V} {ds : List D} (r : Reps Z G io vs ds) : ∀ n : Nat, Reps Z G io (List.replicate n vs).flatten (List.replicate n ds).flatten
  | 0 => .nil
  | n + 1 => by
    rw [List.replicate_succ, List.replicate_succ, List.flatten_cons, List.flatten_cons]
    exact r.append (reps_rep r n)
def rMulA : R2 := fun x y H Q => (rI CMul (fun i j => .int (i * j)) x y H Q) ∨ rRep x y H Q
theorem op_mulA {X : Cx} : OpR X (binaryOp .Mult) rMulA := op_mul.or op_rep
theorem smallI_ok {i : Int} (h : smallI i = true) : -(2 ^ 64) < i ∧ i < 2 ^ 64 := ⟨of_decide_eq_true (Bool.and_eq_true_iff.mp h).1, of_decide_eq_true (Bool.and_eq_true_iff.mp h).2⟩
theorem ok_mul : P2ok Z .mul rMulA := by
  intro H G io pl S de σ v1 v2 d1 d2 d Q R t1 t2 e k
  cases t1 <;> first | (cases e; done) | skip
  · cases t2 <;> first | (cases e; done) | skip
    rename_i i j
    have e : (if (smallI i || smallI j) = true then some (D.int (i * j)) else none) = some d := e
    split at e <;> cases e
    rename_i hz
    refine .inl ⟨_, _, rfl, rfl, ?_, k.here R (.int _)⟩
    rcases Bool.or_eq_true_iff.mp hz with q | q
    · exact .inl (smallI_ok q)
    · exact .inr (smallI_ok q)
  · rename_i h r
    cases t2 <;> first | (cases e; done) | skip
    rename_i a vs ds j
    have e : (if (decide (j < 2 ^ 62) && decide (-(2 ^ 62) ≤ j) && sizeOk (ds.length * j.toNat)) = true then some (D.lst (List.replicate j.toNat ds).flatten) else none) = some d := e
    split at e <;> cases e
    rename_i hz
    simp only [Bool.and_eq_true, decide_eq_true_eq] at hz
    obtain ⟨⟨h1, h2⟩, h3⟩ := hz
    have h3 := of_decide_eq_true h3
    refine .inr ⟨_, _, _, rfl, rfl, h, by omega, by omega, by rw [r.length]; exact h3, fun p hp => k.lst R (reps_rep r _) hp⟩
theorem ok_fdiv : P2ok Z .fdiv (rI CDiv fun i j => .int (i / j)) := by
  intro H G io pl S de σ v1 v2 d1 d2 d Q R t1 t2 e k
  cases t1 <;> first | (cases e; done) | skip
  cases t2 <;> first | (cases e; done) | skip
  rename_i i j
  have e : (if 0 < j ∧ j < 1073741824 then some (D.int (i / j)) else none) = some d := e
  split at e <;> cases e
  rename_i hz
  exact ⟨_, _, rfl, rfl, hz, k.here R (.int _)⟩
theorem ok_mod : P2ok Z .mod (rI (fun _ j => 0 < j) fun i j => .int (i % j)) := by
  intro H G io pl S de σ v1 v2 d1 d2 d Q R t1 t2 e k
  cases t1 <;> first | (cases e; done) | skip
  cases t2 <;> first | (cases e; done) | skip
  rename_i i j
  have e : (if 0 < j then some (D.int (i % j)) else none) = some d := e
  split at e <;> cases e
  rename_i hz
  exact ⟨_, _, rfl, rfl, hz, k.here R (.int _)⟩
theorem ok_pow : P2ok Z .pow (rI CPow fun i j => .int (i ^ j.toNat)) := by
  intro H G io pl S de σ v1 v2 d1 d2 d Q R t1 t2 e k
  cases t1 <;> first | (cases e; done) | skip
  cases t2 <;> first | (cases e; done) | skip
  rename_i i j
  have e : (if 0 ≤ j ∧ j ≤ 1000000 ∧ i.natAbs < 2 ^ 64 then some (D.int (i ^ j.toNat)) else none) = some d := e
  split at e <;> cases e
  rename_i hz
  exact ⟨_, _, rfl, rfl, hz, k.here R (.int _)⟩
theorem shaped_ok {d : D} (h : d.shaped = true) : d.pure = true ∧ SeqAt.shaped d.py = true := Bool.and_eq_true_iff.mp h
theorem eqA_data {a b : D} (h : ¬ ∃ ks vs ls ws, a = D.dct ks vs ∧ b = D.dct ls ws) : eqA a b = eqD a b := by
  unfold eqA
  split
  · exact absurd ⟨_, _, _, _, rfl, rfl⟩ h
  · rfl
theorem kvd_of (R : Rel Z H G io pl S de σ) : ∀ {kvs : List (Key × V)} {ds : List D} {p : List (Key × PyData)}, Reps Z G io (kvs.map (·.2)) ds → dKV (kvs.map fun q => keyD q.1) ds = some p → KvD Z.K H kvs p
  | [], ds, p, r, e => by
    cases r
    cases e
    exact .nil
  | q :: kvs, ds, p, r, e => by
    rw [List.map_cons] at r
    cases r with
    | @cons _ d _ ds h t =>
      have e : (match dKey (keyD q.1) with | some x => if d.shaped = true then (dKV (kvs.map fun q => keyD q.1) ds).map ((x, d.py) :: ·) else none | none => none) = some p := e
      have ek : dKey (keyD q.1) = some q.1 := by cases q.1 <;> rfl
      rw [ek] at e
      have e : (if d.shaped = true then (dKV (kvs.map fun q => keyD q.1) ds).map ((q.1, d.py) :: ·) else none) = some p := e
      split at e <;> first | (cases e; done) | skip
      rename_i hs
      obtain ⟨l, hl, e⟩ := Option.map_eq_some_iff.mp e
      subst e
      exact .cons (R.dp h (shaped_ok hs).1) (shaped_ok hs).2 (kvd_of R t hl)
theorem kvd_top (R : Rel Z H G io pl S de σ) {v : V} {ks vs : List D} {p : List (Key × PyData)} (t : Top Z H G io v (.dct ks vs)) (e : dKV ks vs = some p) : ∃ a kvs, v = .ref a ∧ Rd H a (.dK kvs) ∧ KvD Z.K H kvs p := by
  generalize em : D.dct ks vs = m at t
  cases t with
  | @dK a kvs ds h r =>
    cases em
    exact ⟨a, kvs, rfl, h.rd, kvd_of R r e⟩
  | _ => cases em
def rEqA (K : PySem.W.Frag) : R2 := fun x y H Q => rEqD K x y H Q ∨ rDictQ K false x y H Q
def rNeA (K : PySem.W.Frag) : R2 := fun x y H Q => rNeD K x y H Q ∨ rDictQ K true x y H Q
theorem ok_eq : P2ok Z .eq (rEqA Z.K) := by
  intro H G io pl S de σ v1 v2 d1 d2 d Q R t1 t2 e k
  have e : (eqA d1 d2).map D.bl = some d := e
  by_cases hd : ∃ ks vs ls ws, d1 = D.dct ks vs ∧ d2 = D.dct ls ws
  · obtain ⟨ks, vs, ls, ws, rfl, rfl⟩ := hd
    have e : (match dKV ks vs, dKV ls ws with | some p, some q => some (eqKV p q) | _, _ => none).map D.bl = some d := e
    cases q1 : dKV ks vs with
    | none => rw [q1] at e; cases e
    | some p =>
      cases q2 : dKV ls ws with
      | none => rw [q1, q2] at e; cases e
      | some q =>
        rw [q1, q2] at e
        cases e
        obtain ⟨a, ka, rfl, ha, da⟩ := kvd_top R t1 q1
        obtain ⟨b, kb, rfl, hb, db⟩ := kvd_top R t2 q2
        exact .inr ⟨a, b, ka, kb, p, q, rfl, rfl, ha, hb, da, db, k.here R (.bl _)⟩
  · rw [eqA_data hd] at e
    unfold eqD at e
    split at e <;> cases e
    rename_i hz
    obtain ⟨a, b⟩ := Bool.and_eq_true_iff.mp hz
    exact .inl ⟨_, _, R.dpT t1 (shaped_ok a).1, R.dpT t2 (shaped_ok b).1, (shaped_ok a).2, (shaped_ok b).2, k.here R (.bl _)⟩
theorem ok_ne : P2ok Z .ne (rNeA Z.K) := by
  intro H G io pl S de σ v1 v2 d1 d2 d Q R t1 t2 e k
  have e : ((eqA d1 d2).map fun r => D.bl (!r)) = some d := e
  by_cases hd : ∃ ks vs ls ws, d1 = D.dct ks vs ∧ d2 = D.dct ls ws
  · obtain ⟨ks, vs, ls, ws, rfl, rfl⟩ := hd
    have e : ((match dKV ks vs, dKV ls ws with | some p, some q => some (eqKV p q) | _, _ => none).map fun r => D.bl (!r)) = some d := e
    cases q1 : dKV ks vs with
    | none => rw [q1] at e; cases e
    | some p =>
      cases q2 : dKV ls ws with
      | none => rw [q1, q2] at e; cases e
      | some q =>
        rw [q1, q2] at e
        cases e
        obtain ⟨a, ka, rfl, ha, da⟩ := kvd_top R t1 q1
        obtain ⟨b, kb, rfl, hb, db⟩ := kvd_top R t2 q2
        exact .inr ⟨a, b, ka, kb, p, q, rfl, rfl, ha, hb, da, db, k.here R (.bl _)⟩
  · rw [eqA_data hd] at e
    unfold eqD at e
    split at e <;> cases e
    rename_i hz
    obtain ⟨a, b⟩ := Bool.and_eq_true_iff.mp hz
    exact .inl ⟨_, _, R.dpT t1 (shaped_ok a).1, R.dpT t2 (shaped_ok b).1, (shaped_ok a).2, (shaped_ok b).2, k.here R (.bl _)⟩
theorem ok_isN : P2ok Z .isN (fun x y H Q => (y = .non ∧ Q (.bl (decide (x = .non))) H) ∨ rIsB x y H Q) := by
  intro H G io pl S de σ v1 v2 d1 d2 d Q R t1 t2 e k
  cases t2 <;> first | (cases e; done) | skip
  · exact .inl ⟨rfl, by cases t1 <;> (cases e; exact k.here R (.bl _))⟩
  · cases t1 <;> first | (cases e; done) | skip
    cases e
    exact .inr ⟨_, _, rfl, rfl, k.here R (.bl _)⟩
theorem ok_notN : P2ok Z .notN (fun x y H Q => (y = .non ∧ Q (.bl (!decide (x = .non))) H) ∨ rNotB x y H Q) := by
  intro H G io pl S de σ v1 v2 d1 d2 d Q R t1 t2 e k
  cases t2 <;> first | (cases e; done) | skip
  · exact .inl ⟨rfl, by cases t1 <;> (cases e; exact k.here R (.bl _))⟩
  · cases t1 <;> first | (cases e; done) | skip
    cases e
    exact .inr ⟨_, _, rfl, rfl, k.here R (.bl _)⟩

/-! ### in -/
section
variable {X : Cx}
def rDin : R2 := fun y x H Q => ∃ a o, x = .ref a ∧ DGet H a y o ∧ Q (.bl o.isSome) H
def rDnin : R2 := fun y x H Q => ∃ a o, x = .ref a ∧ DGet H a y o ∧ Q (.bl (!o.isSome)) H
theorem op_din (hu : X.A.units + 65 < cLine) : OpR X (compareOp .In) rDin := by
  intro pn s σ H y x u v Q J ry rx h
  obtain ⟨a, o, rfl, g, q⟩ := h
  cases rx
  exact d_in (by omega) J g ry fun s' J' => ⟨.bl _, H, J', rfl, q⟩
theorem op_dnin (hu : X.A.units + 65 < cLine) : OpR X (compareOp .NotIn) rDnin := by
  intro pn s σ H y x u v Q J ry rx h
  obtain ⟨a, o, rfl, g, q⟩ := h
  cases rx
  exact d_notIn (by omega) J g ry fun s' J' => ⟨.bl _, H, J', rfl, q⟩
end
def rSgn : R2 := fun x y H Q => ∃ (c : Nat) (z : Str), x = .str ⟨#[c]⟩ ∧ y = .str z ∧ Q (.bl (decide (c ∈ z.cps.toList))) H
def rNsgn : R2 := fun x y H Q => ∃ (c : Nat) (z : Str), x = .str ⟨#[c]⟩ ∧ y = .str z ∧ Q (.bl (!decide (c ∈ z.cps.toList))) H
def rInA (K : PySem.W.Frag) : R2 := fun x y H Q => (rInD K x y H Q) ∨ (rIn K false x y H Q ∨ (rDin x y H Q ∨ rSgn x y H Q))
def rNinA (K : PySem.W.Frag) : R2 := fun x y H Q => (rNotInD K x y H Q) ∨ (rIn K true x y H Q ∨ (rDnin x y H Q ∨ rNsgn x y H Q))
theorem op_inA {X : Cx} (hu : X.A.units + 65 < cLine) : OpR X (compareOp .In) (rInA X.K) := (op_inD hu).or (op_in_seq.or ((op_din hu).or op_in_sign))
theorem op_ninA {X : Cx} (hu : X.A.units + 65 < cLine) : OpR X (compareOp .NotIn) (rNinA X.K) := (op_notInD hu).or (op_notIn_seq.or ((op_dnin hu).or op_notIn_sign))

theorem keyD_inj {a b : Key} (h : keyD a = keyD b) : a = b := by
  cases a <;> cases b <;> cases h <;> rfl
theorem dKey_keyD (k : Key) : dKey (keyD k) = some k := by cases k <;> rfl
theorem dKeys_map : ∀ ks : List Key, dKeys (ks.map keyD) = some ks
  | [] => rfl
  | k :: ks => by
    rw [List.map_cons]
    show (match dKey (keyD k), dKeys (ks.map keyD) with | some k, some ks => some (k :: ks) | _, _ => none) = _
    rw [dKey_keyD, dKeys_map ks]
theorem ky_keyD (k : Key) : (keyD k).ky = some (.one k) := by cases k <;> rfl
theorem ky_tup (ks : List Key) : (D.tup (ks.map keyD)).ky = some (.tup ks) := by
  show (dKeys (ks.map keyD)).map Ky.tup = _
  rw [dKeys_map]
  rfl
theorem rep_key {k : Key} {v : V} {d : D} (r : Rep Z G io v d) (h : d.ky = some (.one k)) : v = kV k ∧ d = keyD k := by
  cases r <;> first | (cases h; done) | skip
  · cases h; exact ⟨rfl, rfl⟩
  · cases h; exact ⟨rfl, rfl⟩
  · rename_i ds _ _
    have h : (dKeys ds).map Ky.tup = some (.one k) := h
    cases q : dKeys ds <;> rw [q] at h <;> cases h
theorem dKeys_of : ∀ {ds : List D} {ks : List Key}, dKeys ds = some ks → ds = ks.map keyD
  | [], ks, h => by cases h; rfl
  | d :: ds, ks, h => by
    have h : (match dKey d, dKeys ds with | some k, some ks => some (k :: ks) | _, _ => none) = some ks := h
    cases q : dKey d with
    | none => rw [q] at h; cases h
    | some k =>
      cases q2 : dKeys ds with
      | none => rw [q, q2] at h; cases h
      | some l =>
        rw [q, q2] at h
        cases h
        rw [List.map_cons, ← dKeys_of q2]
        cases d <;> cases q <;> rfl
theorem reps_keys {ks : List Key} {vs : List V} (r : Reps Z G io vs (ks.map keyD)) : vs = ks.map kV := by
  induction ks generalizing vs with
  | nil => cases r; rfl
  | cons k ks ih =>
    rw [List.map_cons] at r
    cases r with
    | cons h t =>
      rw [List.map_cons, (rep_key h (ky_keyD k)).1, ih t]
theorem rep_keyT {ks : List Key} {v : V} {d : D} (r : Rep Z G io v d) (h : d.ky = some (.tup ks)) : ∃ a, v = .ref a ∧ G a = some (.tup (ks.map kV)) ∧ d = .tup (ks.map keyD) := by
  cases r <;> first | (cases h; done) | skip
  rename_i a vs ds h1 r
  have h : (dKeys ds).map Ky.tup = some (.tup ks) := h
  cases q : dKeys ds with
  | none => rw [q] at h; cases h
  | some l =>
    rw [q] at h
    cases h
    have e := dKeys_of q
    subst e
    rw [reps_keys r] at h1
    exact ⟨a, rfl, h1, rfl⟩
theorem dfind_K {kvs : List (Key × V)} {ds : List D} (k : Key) (r : Reps Z G io (kvs.map (·.2)) ds) : (∃ v d, valV kvs k = some v ∧ dfind (.one k) (kvs.map fun p => keyD p.1) ds = some d ∧ Rep Z G io v d) ∨ (valV kvs k = none ∧ dfind (.one k) (kvs.map fun p => keyD p.1) ds = none) := by
  induction kvs generalizing ds with
  | nil => cases r; exact .inr ⟨rfl, rfl⟩
  | cons p kvs ih =>
    rw [List.map_cons] at r
    cases r with
    | cons h t =>
      rename_i d ds
      rw [List.map_cons]
      by_cases e : p.1 = k
      · refine .inl ⟨_, d, valV_pos e, ?_, h⟩
        show (if (keyD p.1).ky = some (.one k) then some d else _) = _
        rw [if_pos (by rw [ky_keyD, e])]
      · rw [valV_neg e]
        have : dfind (.one k) (keyD p.1 :: kvs.map fun p => keyD p.1) (d :: ds) = dfind (.one k) (kvs.map fun p => keyD p.1) ds := by
          show (if (keyD p.1).ky = some (.one k) then some d else _) = _
          rw [if_neg (by rw [ky_keyD]; intro z; cases z; exact e rfl)]
        rw [this]
        exact ih t
theorem dfind_T {kvs : List (List Key × V)} {ds : List D} (k : List Key) (r : Reps Z G io (kvs.map (·.2)) ds) : (∃ v d, valV kvs k = some v ∧ dfind (.tup k) (kvs.map fun p => .tup (p.1.map keyD)) ds = some d ∧ Rep Z G io v d) ∨ (valV kvs k = none ∧ dfind (.tup k) (kvs.map fun p => .tup (p.1.map keyD)) ds = none) := by
  induction kvs generalizing ds with
  | nil => cases r; exact .inr ⟨rfl, rfl⟩
  | cons p kvs ih =>
    rw [List.map_cons] at r
    cases r with
    | cons h t =>
      rename_i d ds
      rw [List.map_cons]
      by_cases e : p.1 = k
      · refine .inl ⟨_, d, valV_pos e, ?_, h⟩
        show (if (D.tup (p.1.map keyD)).ky = some (.tup k) then some d else _) = _
        rw [if_pos (by rw [ky_tup, e])]
      · rw [valV_neg e]
        have : dfind (.tup k) (D.tup (p.1.map keyD) :: kvs.map fun p => .tup (p.1.map keyD)) (d :: ds) = dfind (.tup k) (kvs.map fun p => .tup (p.1.map keyD)) ds := by
          show (if (D.tup (p.1.map keyD)).ky = some (.tup k) then some d else _) = _
          rw [if_neg (by rw [ky_tup]; intro z; cases z; exact e rfl)]
        rw [this]
        exact ih t
end
end Y
/-! Y6: operators applied; displays, items, slices, calls of built-ins. -/
namespace Y
open PySem L2

section
variable {Z : Zc} {T : Tb} {C : Calls} {W : WX} {X : Cx} {H G H' G' : Hp} {io io' : List Addr} {pl pl' : Plc} {S S' : Store} {de : Env} {σ : L2.St}
theorem Opd.topd (R : Rel Z H G io pl S de σ) {v : V} {d : D} (o : Opd Z G io de σ v d) : Top Z H G io v (view S d) := by
  rcases o.top R with t | ⟨k, rfl, hk⟩
  · exact t
  · rcases o with r | ⟨i, hd, hv, _⟩
    · cases r with
      | box h =>
        have h1 := (List.getElem?_eq_some_iff.mp h).1
        rw [R.bl] at h1
        rw [List.getElem?_eq_getElem h1] at hk
        cases hk
    · obtain ⟨v', _, a, _, _, o⟩ := R.slots i _ hd
      cases o
theorem tE_tO {ir : IR} {e : Expr} (h : PE X e (tE Z T C W ir)) : PE X e (tO Z T C W ir) := h.wk fun σ H Q q => tO_tE q

/-- two operands evaluated -/
theorem two_go {a b : IR} {K : D → D → Store → Prop} {R2 : V → V → Hp → Prop} {G : Hp} {io : List Addr} {pl : Plc} {S : Store} {de : Env} {H : Hp} {σ : L2.St} (R : Rel Z H G io pl S de σ)
    (h : Fin Z H G io de σ W (ev T C de a S) fun x S1 => Fin Z H G io de σ W (ev T C de b S1) fun y S2 => K x y S2)
    (k : ∀ H2 G2 io2 pl2 S2 x y v u, Step H G io H2 G2 io2 → Rel Z H2 G2 io2 pl2 S2 de σ → Opd Z G2 io2 de σ v x → Opd Z G2 io2 de σ u y → K x y S2 → R2 v u H2) :
    tO Z T C W a σ H fun v H1 => tO Z T C W b σ H1 fun u H2 => R2 v u H2 := by
  refine ⟨G, io, pl, S, de, R, h.imp fun x S1 k1 H1 G1 io1 pl1 v s1 R1 o1 => ?_⟩
  refine ⟨G1, io1, pl1, S1, de, R1, k1.at s1 fun y S2 k2 H2 G2 io2 pl2 u s2 R2' o2 => ?_⟩
  exact k H2 G2 io2 pl2 S2 x y v u (s1.trans s2) R2' (o1.step s2) o2 k2
theorem Go.of {d : D} {S : Store} {K : D → Store → Prop} {Q : VK} (s : Step H G io H' G' io') (k : K d S) (hk : K = fun d S' => ∀ H' G' io' pl' v, Step H G io H' G' io' → Rel Z H' G' io' pl' S' de σ → Rep Z G' io' v d → Q v H') : Go Z H' G' io' S de σ d Q := by
  subst hk
  exact fun H2 G2 io2 pl2 v s2 R2 r => k H2 G2 io2 pl2 v (s.trans s2) R2 r
/-- an operator by an instance's own method -/
def tOwn (Z : Zc) (T : Tb) (C : Calls) (W : WX) (o : O2) (x y : V) (σ : L2.St) (H : Hp) (Q : VK) : Prop := ∃ G io pl S de dx dy c ns vs, Rel Z H G io pl S de σ ∧ Opd Z G io de σ x dx ∧ Opd Z G io de σ y dy ∧ view S dx = .ins c ns vs ∧ Fin Z H G io de σ W (o2I T C o c dx dy S) fun d S' => ∀ H' G' io' pl' v, Step H G io H' G' io' → Rel Z H' G' io' pl' S' de σ → Rep Z G' io' v d → Q v H'
def OwnR (X : Cx) (Z : Zc) (T : Tb) (C : Calls) (W : WX) (o : O2) (f : Value → Value → Sem Value) : Prop := ∀ (pins : List (Addr × Obj)) (s : Shared) (σ : L2.St) (H : Hp) (x y : V) (v u : Value) (Q : VK), L2.Inv X pins σ H s → RelV x v → RelV y u → tOwn Z T C W o x y σ H Q → wpAny (model X.prog X.w) X.A (f v u) (EP X pins σ Q) X.xe s
theorem own_no {o : O2} {f : Value → Value → Sem Value} (h1 : o ≠ .eq) (h2 : o ≠ .ne) : OwnR X Z T C W o f := fun pins s σ H x y v u Q I rx ry ⟨G, io, pl, S, de, dx, dy, c, ns, vs, R, o1, o2, hv, h⟩ => by
  exfalso
  cases o <;> first | exact h1 rfl | exact h2 rfl | exact h
theorem own_eq (dp : Disp X Z T C W) (hu : X.A.units < cLine) : OwnR X Z T C W .eq (compareOp .Eq) := fun pins s σ H x y v u Q I rx ry ⟨G, io, pl, S, de, dx, dy, c, ns, vs, R, o1, o2, hv, h⟩ => by
  have r1 := o1.rep R hv
  have h : Fin Z H G io de σ W (match view S dy with | .ins c' _ _ => if c' = c then (dunR T C c "__eq__" [dx, dy] S).bnd (fun d => (match d with | .bl b => ret (.bl b) | _ => fail : M D)) else .bad | _ => .bad) _ := h
  cases hy : view S dy <;> rw [hy] at h <;> first | exact (h : False).elim | skip
  rename_i c' ns' vs'
  have h : Fin Z H G io de σ W (if c' = c then (dunR T C c "__eq__" [dx, dy] S).bnd (fun d => (match d with | .bl b => ret (.bl b) | _ => fail : M D)) else .bad) _ := h
  split at h
  · rename_i e
    subst e
    have r2 := o2.rep R hy
    obtain ⟨a, dxa, fs, rfl, ha, _, _⟩ := ins_top R r1 hv
    obtain ⟨b, dxb, gs, rfl, hb, _, _⟩ := ins_top R r2 hy
    cases rx
    cases ry
    obtain ⟨g, hg, hc, run⟩ := dun_go (Q := fun v H' => ∃ k, v = .bl k ∧ Q (.bl k) H') dp R (.cons r1 (.cons r2 .nil)) (Fin.bnd h) (fun d S' H' G' io' pl' v k s R' rv => by
      cases d <;> first | exact (k : False).elim | skip
      cases rv
      exact ⟨_, rfl, k H' G' io' pl' _ s R' (.bl _)⟩)
    obtain ⟨_, J, _⟩ := ins_get I.hok ha
    obtain ⟨_, J', _⟩ := ins_get I.hok hb
    obtain ⟨od, J, _⟩ := J.look
    obtain ⟨od', J', _⟩ := J'.look
    obtain ⟨m, hF⟩ := I.fr
    show wpAny (model X.prog X.w) X.A (richCompare .Eq (.ref a) (.ref b)) (EP X pins σ Q) X.xe s
    refine PySem.W.cmp_K (op := .Eq) (tb := .ref (Z.ca c')) hu hF I.ok.mod.kin J J'.type (by simp [PySem.W.notFirst]) hg.at_ hg.fn ?_
    refine wpAny_mono (run pins s [.ref a, .ref b] I (.cons rfl (.cons rfl .nil))) (fun w s' hw => ?_) fun _ _ e => e
    obtain ⟨z, H', I', rz, k, rfl, q⟩ := hw
    cases rz
    exact ⟨.bl k, H', I', rfl, q⟩
  · exact h.elim
theorem own_ne (dp : Disp X Z T C W) (hu : X.A.units + 1 < cLine) : OwnR X Z T C W .ne (compareOp .NotEq) := fun pins s σ H x y v u Q I rx ry ⟨G, io, pl, S, de, dx, dy, c, ns, vs, R, o1, o2, hv, h⟩ => by
  have r1 := o1.rep R hv
  have h : Fin Z H G io de σ W (match view S dy with | .ins c' _ _ => if c' = c then notR (dunR T C c "__eq__" [dx, dy] S).hush else .bad | _ => .bad) _ := h
  cases hy : view S dy <;> rw [hy] at h <;> first | exact (h : False).elim | skip
  rename_i c' ns' vs'
  have h : Fin Z H G io de σ W (if c' = c then notR (dunR T C c "__eq__" [dx, dy] S).hush else .bad) _ := h
  split at h
  · rename_i e
    subst e
    have r2 := o2.rep R hy
    obtain ⟨a, dxa, fs, rfl, ha, _, _⟩ := ins_top R r1 hv
    obtain ⟨b, dxb, gs, rfl, hb, _, _⟩ := ins_top R r2 hy
    cases rx
    cases ry
    have h : Fin Z H G io de σ W (((dunR T C c' "__eq__" [dx, dy] S).hush).bnd fun d => (match d with | .bl b => ret (.bl (!b)) | _ => fail : M D)) _ := h
    obtain ⟨g, ⟨hg, _⟩, ⟨ce, hc⟩, run⟩ := dun_go1 (Q := fun v H' => ∃ k, v = .bl k ∧ Q (.bl (!k)) H') dp R (.cons r1 (.cons r2 .nil)) (hush_go (Fin.bnd h) fun _ _ z => z) (fun d S' H' G' io' pl' v k s R' rv => by
      cases d <;> first | exact (k : False).elim | skip
      cases rv
      exact ⟨_, rfl, k H' G' io' pl' _ s R' (.bl _)⟩)
    obtain ⟨_, J, _⟩ := ins_get I.hok ha
    obtain ⟨_, J', _⟩ := ins_get I.hok hb
    obtain ⟨od, J, _⟩ := J.look
    obtain ⟨od', J', _⟩ := J'.look
    obtain ⟨z1, _, z3⟩ := dp.oob _ _ hc
    show wpAny (model X.prog X.w) X.A (richCompare .NotEq (.ref a) (.ref b)) (EP X pins σ Q) X.xe s
    refine ne_K hu I.kIn J J' z3 hg.at_ hg.fn z1 ?_
    refine wpAny_mono (run pins s [.ref a, .ref b] X.xe I (.cons rfl (.cons rfl .nil))) (fun w s' hw => ?_) fun _ _ e => e
    obtain ⟨z, H', I', rz, k, rfl, q⟩ := hw
    cases rz
    exact ⟨_, rfl, .bl (!k), H', I', rfl, q⟩
  · exact h.elim
/-- an operator applied, by values or by the own method -/
theorem o2R_go {o : O2} {f : Value → Value → Sem Value} {r : R2} {dx dy : D} {x y : V} {v u : Value} {Q : VK} {pins : List (Addr × Obj)} {s : Shared} (ho : OpR X f r) (hok : P2ok Z o r) (hw : OwnR X Z T C W o f) (I : L2.Inv X pins σ H s) (rx : RelV x v) (ry : RelV y u) (R : Rel Z H G io pl S de σ) (o1 : Opd Z G io de σ x dx) (o2 : Opd Z G io de σ y dy)
    (h : Fin Z H G io de σ W (o2R T C o dx dy S) fun d S' => ∀ H' G' io' pl' v, Step H G io H' G' io' → Rel Z H' G' io' pl' S' de σ → Rep Z G' io' v d → Q v H') : wpAny (model X.prog X.w) X.A (f v u) (EP X pins σ Q) X.xe s := by
  by_cases e : ∃ c ns vs, view S dx = .ins c ns vs
  · obtain ⟨c, ns, vs, e⟩ := e
    refine hw pins s σ H x y v u Q I rx ry ⟨G, io, pl, S, de, dx, dy, c, ns, vs, R, o1, o2, e, ?_⟩
    have h : Fin Z H G io de σ W (match view S dx with | .ins c _ _ => o2I T C o c dx dy S | v => lift (p2 o v (view S dy)) S) _ := h
    rw [e] at h
    exact h
  · have h : Fin Z H G io de σ W (match view S dx with | .ins c _ _ => o2I T C o c dx dy S | v => lift (p2 o v (view S dy)) S) _ := h
    have h : Fin Z H G io de σ W (lift (p2 o (view S dx) (view S dy)) S) (KQ Z H G io de σ Q) := by
      cases q : view S dx <;> rw [q] at h <;> first | exact h | exact absurd ⟨_, _, _, q⟩ e
    obtain ⟨d, e2, k⟩ := h.lift
    exact ho pins s σ H x y v u Q I rx ry (hok R (o1.topd R) (o2.topd R) e2 fun H3 G3 io3 pl3 v3 s3 R3 r3 => k H3 G3 io3 pl3 v3 s3 R3 r3)
theorem s_bin {o : O2} {op : Operator} {r : R2} {a b : IR} {e f : Expr} {pos : Pos} (ho : OpR X (binaryOp op) r) (hok : P2ok Z o r) (hw : OwnR X Z T C W o (binaryOp op)) (ha : PE X e (tO Z T C W a)) (hb : PE X f (tO Z T C W b)) : PE X (.BinOp e op f pos) (tE Z T C W (.o2 o a b)) := ⟨fun pins s σ H Q I q => by
  obtain ⟨G, io, pl, S, de, R, h⟩ := q
  refine wpAny_BinOp (binT ha hb I (two_go (K := fun x y S2 => Fin Z H G io de σ W (o2R T C o x y S2) _) (R2 := fun v u H2 => ∃ G2 io2 pl2 S2 dx dy, Step H G io H2 G2 io2 ∧ Rel Z H2 G2 io2 pl2 S2 de σ ∧ Opd Z G2 io2 de σ v dx ∧ Opd Z G2 io2 de σ u dy ∧ Fin Z H G io de σ W (o2R T C o dx dy S2) _) R ((Fin.bnd (show Fin Z H G io de σ W ((ev T C de a S).bnd _) _ from h)).imp fun x S1 k => Fin.bnd (show Fin Z H G io de σ W ((ev T C de b S1).bnd _) _ from k)) fun H2 G2 io2 pl2 S2 x y v u s2 R2 o1 o2 k => ⟨G2, io2, pl2, S2, x, y, s2, R2, o1, o2, k⟩) fun v u s2 x y H2 I2 rx ry q => ?_)
  obtain ⟨G2, io2, pl2, S2, dx, dy, s2, R2, o1, o2, k⟩ := q
  exact o2R_go ho hok hw I2 rx ry R2 o1 o2 (k.at s2 fun d S' k H' G' io' pl' v s R' rv => k H' G' io' pl' v (s2.trans s) R' rv)⟩
theorem s_cmp {o : O2} {op : CmpOp} {r : R2} {a b : IR} {e f : Expr} {pos : Pos} (ho : OpR X (compareOp op) r) (hok : P2ok Z o r) (hw : OwnR X Z T C W o (compareOp op)) (ha : PE X e (tO Z T C W a)) (hb : PE X f (tO Z T C W b)) (hm : behindInMarks op f = false) : PE X (.Compare e [op] [f] pos) (tE Z T C W (.o2 o a b)) := ⟨fun pins s σ H Q I q => by
  obtain ⟨G, io, pl, S, de, R, h⟩ := q
  refine wpAny_Compare1 (binT ha hb I (two_go (K := fun x y S2 => Fin Z H G io de σ W (o2R T C o x y S2) _) (R2 := fun v u H2 => ∃ G2 io2 pl2 S2 dx dy, Step H G io H2 G2 io2 ∧ Rel Z H2 G2 io2 pl2 S2 de σ ∧ Opd Z G2 io2 de σ v dx ∧ Opd Z G2 io2 de σ u dy ∧ Fin Z H G io de σ W (o2R T C o dx dy S2) _) R ((Fin.bnd (show Fin Z H G io de σ W ((ev T C de a S).bnd _) _ from h)).imp fun x S1 k => Fin.bnd (show Fin Z H G io de σ W ((ev T C de b S1).bnd _) _ from k)) fun H2 G2 io2 pl2 S2 x y v u s2 R2 o1 o2 k => ⟨G2, io2, pl2, S2, x, y, s2, R2, o1, o2, k⟩) fun v u s2 x y H2 I2 rx ry q => ?_) hm
  obtain ⟨G2, io2, pl2, S2, dx, dy, s2, R2, o1, o2, k⟩ := q
  exact o2R_go ho hok hw I2 rx ry R2 o1 o2 (k.at s2 fun d S' k H' G' io' pl' v s R' rv => k H' G' io' pl' v (s2.trans s) R' rv)⟩
/-- the same as a test -/
theorem s_cmpT {o : O2} {op : CmpOp} {r : R2} {a b : IR} {e f : Expr} {pos : Pos} (ho : OpR X (compareOp op) r) (hok : P2ok Z o r) (hw : OwnR X Z T C W o (compareOp op)) (ha : PE X e (tO Z T C W a)) (hb : PE X f (tO Z T C W b)) (hm : behindInMarks op f = false) : PT X (.Compare e [op] [f] pos) (tT Z T C W (.tb (.o2 o a b))) := ⟨fun pins s σ H Q I q => by
  obtain ⟨G, io, pl, S, de, R, h⟩ := q
  have h := Fin.bnd (show Fin Z H G io de σ W ((ev T C de (.o2 o a b) S).bnd _) _ from h)
  have hh := two_go (K := fun x y S2 => Fin Z H G io de σ W (o2R T C o x y S2) _) (R2 := fun v u H2 => ∃ G2 io2 pl2 S2 dx dy, Step H G io H2 G2 io2 ∧ Rel Z H2 G2 io2 pl2 S2 de σ ∧ Opd Z G2 io2 de σ v dx ∧ Opd Z G2 io2 de σ u dy ∧ Fin Z H G io de σ W (o2R T C o dx dy S2) _) R ((Fin.bnd (show Fin Z H G io de σ W ((ev T C de a S).bnd _) _ from h)).imp fun x S1 k => Fin.bnd (show Fin Z H G io de σ W ((ev T C de b S1).bnd _) _ from k)) fun H2 G2 io2 pl2 S2 x y v u s2 R2 o1 o2 k => ⟨G2, io2, pl2, S2, x, y, s2, R2, o1, o2, k⟩
  refine wpAny_isTrue_Compare1 (thn (ha.run pins s σ H _ I hh) fun v s1 ⟨x, H1, I1, r1, q1⟩ => thn (hb.run pins s1 σ H1 _ I1 q1) fun u s2 ⟨y, H2, I2, r2, q2⟩ => ?_) hm
  obtain ⟨G2, io2, pl2, S2, dx, dy, s2, R2, o1, o2, k⟩ := q2
  refine thn (o2R_go (Q := fun v H' => ∃ k, v = .bl k ∧ Q k H') ho hok hw I2 r1 r2 R2 o1 o2 (k.at s2 fun d S' k H' G' io' pl' v s R' rv => ?_)) fun c s3 ⟨z, H3, I3, r3, k, e, q3⟩ => ?_
  · cases rv <;> first | exact (k : False).elim | skip
    exact ⟨_, rfl, k H' G' io' pl' (s2.trans s) R'⟩
  · subst e
    cases r3
    exact wpAny_truthy_bool ⟨H3, I3, q3⟩⟩
theorem chain_go {o p : O2} {r r' : R2} {a b c : IR} {Q : VK} {K : D → Store → Prop} (hok : P2ok Z o r) (hok' : P2ok Z p r') {G : Hp} {io : List Addr} {pl : Plc} {S : Store} {de : Env} {H : Hp} {σ : L2.St} (R : Rel Z H G io pl S de σ)
    (h : Fin Z H G io de σ W (ev T C de (.ch o p a b c) S) K) (hk : ∀ b S' H' G' io' pl', K (.bl b) S' → Step H G io H' G' io' → Rel Z H' G' io' pl' S' de σ → Q (.bl b) H')
    (hb : ∀ d S' H' G' io' pl' v, K d S' → Step H G io H' G' io' → Rel Z H' G' io' pl' S' de σ → Rep Z G' io' v d → Q v H') : tChain r r' (tO Z T C W a) (tO Z T C W b) (tO Z T C W c) σ H Q := by
  have h := (Fin.bnd (show Fin Z H G io de σ W ((ev T C de a S).bnd _) _ from h)).imp fun x S1 k => Fin.bnd (show Fin Z H G io de σ W ((ev T C de b S1).bnd _) _ from k)
  refine two_go (K := fun x y S2 => _) R h ?_
  intro H2 G2 io2 pl2 S2 x y v u s2 R2 o1 o2 k
  have k : Fin Z H G io de σ W ((lift (p2 o (view S2 x) (view S2 y)) S2).bnd _) _ := k
  obtain ⟨d, e, k⟩ := k.bnd.lift
  refine hok R2 (o1.topd R2) (o2.topd R2) e fun H3 G3 io3 pl3 v3 s3 R3 r3 => ?_
  cases r3 <;> first | exact (k : False).elim | skip
  rename_i b3
  refine ⟨b3, rfl, ?_⟩
  cases b3 with
  | false => exact hk _ _ _ _ _ _ k (s2.trans s3) R3
  | true =>
    rw [if_pos rfl]
    refine ⟨G3, io3, pl3, S2, de, R3, (Fin.bnd (show Fin Z H G io de σ W ((ev T C de c S2).bnd _) _ from k)).at (s2.trans s3) fun z S4 k4 H4 G4 io4 pl4 w s4 R4 o4 => ?_⟩
    obtain ⟨d4, e4, k4⟩ := k4.lift
    exact hok' R4 ((o2.step (s3.trans s4)).topd R4) (o4.topd R4) e4 fun H5 G5 io5 pl5 v5 s5 R5 r5 => hb _ _ _ _ _ _ _ k4 ((s2.trans s3).trans (s4.trans s5)) R5 r5
theorem s_ch {o p : O2} {op op' : CmpOp} {r r' : R2} {a b c : IR} {e f g : Expr} {pos : Pos} (ho : OpR X (compareOp op) r) (hok : P2ok Z o r) (ho' : OpR X (compareOp op') r') (hok' : P2ok Z p r') (ha : PE X e (tO Z T C W a)) (hb : PE X f (tO Z T C W b)) (hc : PE X g (tO Z T C W c))
    (hm : behindInMarks op f = false) (hm' : behindInMarks op' g = false) (h : PE X (.Compare e [op, op'] [f, g] pos) (tChain r r' (tO Z T C W a) (tO Z T C W b) (tO Z T C W c))) : PE X (.Compare e [op, op'] [f, g] pos) (tE Z T C W (.ch o p a b c)) := h.wk fun σ H Q q => by
  obtain ⟨G, io, pl, S, de, R, h⟩ := q
  exact chain_go hok hok' R h (fun b S' H' G' io' pl' k s R' => k H' G' io' pl' _ s R' (.bl b)) fun d S' H' G' io' pl' v k s R' r => k H' G' io' pl' v s R' r
theorem s_chT {o p : O2} {op op' : CmpOp} {r r' : R2} {a b c : IR} {e f g : Expr} {pos : Pos} (hok : P2ok Z o r) (hok' : P2ok Z p r')
    (h : PT X (.Compare e [op, op'] [f, g] pos) (tTest (tChain r r' (tO Z T C W a) (tO Z T C W b) (tO Z T C W c)))) : PT X (.Compare e [op, op'] [f, g] pos) (tT Z T C W (.tb (.ch o p a b c))) := h.wk fun σ H Q q => by
  obtain ⟨G, io, pl, S, de, R, h⟩ := q
  have h := Fin.bnd (show Fin Z H G io de σ W ((ev T C de (.ch o p a b c) S).bnd _) _ from h)
  refine chain_go hok hok' R h (fun b S' H' G' io' pl' k s R' => ⟨_, rfl, k H' G' io' pl' s R'⟩) fun d S' H' G' io' pl' v k s R' r => ?_
  cases r <;> first | exact (k : False).elim | skip
  exact ⟨_, rfl, k H' G' io' pl' s R'⟩
/-- by truth -/
theorem truth_ok {v : V} {d : D} {k : Bool} (t : Top Z H G io v d) (e : d.truth = some k) : TruV Z.K v H k := by
  cases t with
  | non => cases e; rfl
  | bl b => cases e; rfl
  | int i => cases e; rfl
  | tup h r =>
    cases e
    refine .inr (.inl ⟨_, SqT.of h, ?_⟩)
    cases r <;> rfl
  | lst h r =>
    cases e
    refine .inl ⟨_, SqL.of h, ?_⟩
    cases r <;> rfl
  | _ => cases e
theorem s_tt {a : IR} {e : Expr} (h : PT X e (fun σ H Q => tO Z T C W a σ H fun x H1 => ∃ k, TruV X.K x H1 k ∧ Q k H1)) (hK : X.K = Z.K) : PT X e (tT Z T C W (.tt a)) := h.wk fun σ H Q q => by
  obtain ⟨G, io, pl, S, de, R, h⟩ := q
  refine ⟨G, io, pl, S, de, R, (Fin.bnd (show Fin Z H G io de σ W ((ev T C de a S).bnd _) _ from h)).imp fun x S1 k H1 G1 io1 pl1 v s1 R1 o => ?_⟩
  obtain ⟨b, eb, k⟩ := k.lift
  exact ⟨b, by rw [hK]; exact truth_ok (o.topd R1) eb, k H1 G1 io1 pl1 s1 R1⟩

/-! ### lists of expressions -/
theorem s_lnil : PA X [] (tL Z T C W .nil) := (pa_nil (X := X)).wk fun σ H Q q => by
  obtain ⟨G, io, pl, S, de, R, h⟩ := q
  exact h H G io pl [] .refl R .nil
theorem s_lcons {a t : IR} {e : Expr} {es : List Expr} (ha : PE X e (tE Z T C W a)) (hr : PA X es (tL Z T C W t)) (hs : starEach (e :: es) X.env = (false, eval e X.env) :: starEach es X.env) : PA X (e :: es) (tL Z T C W (.cons a t)) := (pa_cons ha hr hs).wk fun σ H Q q => by
  obtain ⟨G, io, pl, S, de, R, h⟩ := q
  refine ⟨G, io, pl, S, de, R, (Fin.bnd (show Fin Z H G io de σ W ((ev T C de a S).bnd _) _ from h)).imp fun x S1 k H1 G1 io1 pl1 v s1 R1 r => ?_⟩
  refine ⟨G1, io1, pl1, S1, de, R1, (Fin.bnd (show Fin Z H G io de σ W ((evl T C de t S1).bnd _) _ from k)).at s1 fun xs S2 k2 H2 G2 io2 pl2 vs s2 R2 rs => ?_⟩
  exact k2 H2 G2 io2 pl2 (v :: vs) (s1.trans s2) R2 (.cons (r.step s2) rs)
theorem s_onil : PA X [] (tLO Z T C W .nil) := (pa_nil (X := X)).wk fun σ H Q q => by
  obtain ⟨G, io, pl, S, de, R, h⟩ := q
  exact h H G io pl [] .refl R .nil
theorem s_ocons {a t : IR} {e : Expr} {es : List Expr} (ha : PE X e (tO Z T C W a)) (hr : PA X es (tLO Z T C W t)) (hs : starEach (e :: es) X.env = (false, eval e X.env) :: starEach es X.env) : PA X (e :: es) (tLO Z T C W (.cons a t)) := (pa_cons ha hr hs).wk fun σ H Q q => by
  obtain ⟨G, io, pl, S, de, R, h⟩ := q
  refine ⟨G, io, pl, S, de, R, (Fin.bnd (show Fin Z H G io de σ W ((ev T C de a S).bnd _) _ from h)).imp fun x S1 k H1 G1 io1 pl1 v s1 R1 r => ?_⟩
  refine ⟨G1, io1, pl1, S1, de, R1, (Fin.bnd (show Fin Z H G io de σ W ((evl T C de t S1).bnd _) _ from k)).at s1 fun xs S2 k2 H2 G2 io2 pl2 vs s2 R2 rs => ?_⟩
  exact k2 H2 G2 io2 pl2 (v :: vs) (s1.trans s2) R2 (.cons (r.step s2) rs)

/-! ### new containers: kept as one's own, or known from then on -/
def tN (Z : Zc) (T : Tb) (C : Calls) (W : WX) (ir : IR) : TE := fun σ H Q => ∃ G io pl S de, Rel Z H G io pl S de σ ∧ Fin Z H G io de σ W (ev T C de ir S) fun d S' => ∀ H' G' io' pl' p, Step H G io H' G' io' → Rel Z H' G' io' pl' S' de σ → Own Z H' G' io' p d → pl' p = none → G' p = none → H p = none → isFresh d = true → Q (.ref p) H'
theorem Rel.freeze (R : Rel Z H G io pl S de σ) {p : Addr} {o : HO} (hp : H p = some o) (hi : ∀ x, o ≠ .own x) (g : G p = none) (n : pl p = none) : Rel Z H (upd G p o) io pl S de σ := by
  have gg : ∀ a u, G a = some u → upd G p o a = some u := fun a u h => upd_some g h
  have ne : ∀ b, pl b ≠ none → b ≠ p := fun b hb e => hb (by rw [e]; exact n)
  have hne : ∀ b x, H b = some (.own x) → b ≠ p := fun b x hb e => by
    rw [e, hp] at hb
    cases hb
    exact hi x rfl
  refine ⟨fun a u h => ?_, R.len, fun k e he => ?_, R.bl, fun k d hd => ?_, fun a ha => ?_⟩
  · by_cases e : a = p
    · subst e
      rw [upd_same] at h
      cases h
      exact .inl hp
    · rw [upd_ne e] at h
      exact R.gh a u h
  · obtain ⟨v, hv, r⟩ := R.slots k e he
    refine ⟨v, hv, r.mono gg (fun _ _ h => h) (fun _ _ _ h => h) (fun _ _ _ _ _ h => h) fun a dx h => ⟨h, fun gd => ?_⟩⟩
    rw [upd_ne (hne _ _ h)]
    exact gd
  · obtain ⟨a, ha, hpa, ow⟩ := R.boxes k d hd
    refine ⟨a, ha, hpa, ow.mono gg (fun _ _ h => h) (fun u h => h) fun c dx fs _ h => ⟨h, fun gd => ?_⟩⟩
    rw [upd_ne (hne _ _ h)]
    exact gd
  · obtain ⟨h1, h2, h3⟩ := R.plg a ha
    rw [upd_ne (ne a ha)]
    exact ⟨h1, h2, h3⟩
/-- a new container of one's own becomes known -/
theorem Own.known (R : Rel Z H' G' io' pl' S' de σ) (s : Step H G io H' G' io') {p : Addr} {d : D} (ow : Own Z H' G' io' p d) (n : pl' p = none) (g : G' p = none) (h0 : H p = none) (f : isFresh d = true) : ∃ G2, Rel Z H' G2 io' pl' S' de σ ∧ Step H G io H' G2 io' ∧ Rep Z G2 io' (.ref p) d ∧ ∀ a u, G' a = some u → G2 a = some u := by
  have mk : ∀ o : HO, H' p = some o → (∀ x, o ≠ .own x) → Rel Z H' (upd G' p o) io' pl' S' de σ ∧ Step H G io H' (upd G' p o) io' ∧ ∀ a u, G' a = some u → upd G' p o a = some u := fun o hp hi => by
    have gg : ∀ a u, G' a = some u → upd G' p o a = some u := fun a u h => upd_some g h
    refine ⟨R.freeze hp hi g n, ⟨fun a u h => gg _ _ (s.gg _ _ h), fun a h => ?_, s.fr, s.ext, s.al, s.tp⟩, gg⟩
    by_cases e : a = p
    · subst e
      exact .inr (.inl h0)
    · rw [upd_ne e] at h
      exact s.gn a h
  cases ow with
  | lst h r =>
    obtain ⟨R2, s2, gg⟩ := mk _ h (fun x => by simp)
    exact ⟨_, R2, s2, .lst upd_same (r.mono gg fun _ _ h => h), gg⟩
  | dK h r =>
    obtain ⟨R2, s2, gg⟩ := mk _ h (fun x => by simp)
    exact ⟨_, R2, s2, .dK upd_same (r.mono gg fun _ _ h => h), gg⟩
  | dT h r =>
    obtain ⟨R2, s2, gg⟩ := mk _ h (fun x => by simp)
    exact ⟨_, R2, s2, .dT upd_same (r.mono gg fun _ _ h => h), gg⟩
  | ins h r => cases f
theorem tN_tE {ir : IR} {e : Expr} (h : PE X e (tN Z T C W ir)) : PE X e (tE Z T C W ir) := h.wk fun σ H Q q => by
  obtain ⟨G, io, pl, S, de, R, h⟩ := q
  refine ⟨G, io, pl, S, de, R, h.imp fun d S1 k H1 G1 io1 pl1 p s1 R1 ow n g h0 f => ?_⟩
  obtain ⟨G2, R2, s2, r, _⟩ := ow.known R1 s1 n g h0 f
  exact k H1 G2 io1 pl1 _ s2 R2 r
/-- a new object is laid, one's own -/
theorem Rel.laid (R : Rel Z H G io pl S de σ) {p : Addr} (hp : H p = none) (o : HO) : Rel Z (upd H p o) G io pl S de σ ∧ Step H G io (upd H p o) G io ∧ pl p = none ∧ G p = none := by
  have gp : G p = none := by
    cases q : G p with
    | none => rfl
    | some u => exact absurd hp (R.gh p u q).ne
  have plp : pl p = none := by
    cases q : pl p with
    | none => rfl
    | some u => exact absurd hp (R.plg p (by rw [q]; exact Option.some_ne_none _)).2.1
  have hh : ∀ a u, H a = some u → upd H p o a = some u := fun a u h => upd_some hp h
  have ne : ∀ a, pl a ≠ none → a ≠ p := fun a h e => h (by rw [e]; exact plp)
  refine ⟨⟨fun a u h => ?_, R.len, fun k e he => ?_, R.bl, fun n d hd => ?_, fun a ha => ?_⟩, ⟨fun _ _ h => h, fun a h => .inl h, fun a u h _ _ => .inl (hh a u h), ⟨[], by simp, by simp⟩, fun a h => ?_, fun a xs h => ?_⟩, plp, gp⟩
  · rcases R.gh a u h with q | ⟨i, o', q⟩
    · exact .inl (hh _ _ q)
    · exact .inr ⟨i, o', hh _ _ q⟩
  · obtain ⟨v, hv, r⟩ := R.slots k e he
    exact ⟨v, hv, r.mono (fun _ _ h => h) (fun _ _ h => h) (fun _ _ _ h => h) (fun a _ u _ _ h => hh a u h) fun a dx h => ⟨hh _ _ h, fun g => g⟩⟩
  · obtain ⟨a, ha, hpa, ow⟩ := R.boxes n d hd
    exact ⟨a, ha, hpa, ow.mono (fun _ _ h => h) (fun _ _ h => h) (fun u h => hh a u h) fun c dx fs _ h => ⟨hh _ _ h, fun g => g⟩⟩
  · obtain ⟨h1, h2, h3⟩ := R.plg a ha
    rw [upd_ne (ne a ha)]
    exact ⟨h1, h2, h3⟩
  · by_cases e : a = p
    · subst e
      rw [upd_same]
      exact Option.some_ne_none _
    · rw [upd_ne e]
      exact h
  · by_cases e : a = p
    · subst e
      exact .inr hp
    · rw [upd_ne e] at h
      exact .inl h
/-- behind the making of a list at p -/
theorem new_lst {ds : List D} {vs : List V} {Q : VK} {H0 : Hp} {G0 : Hp} {io0 : List Addr} (k : ∀ H' G' io' pl' p, Step H0 G0 io0 H' G' io' → Rel Z H' G' io' pl' S de σ → Own Z H' G' io' p (.lst ds) → pl' p = none → G' p = none → H0 p = none → isFresh (.lst ds) = true → Q (.ref p) H')
    (s : Step H0 G0 io0 H G io) (R : Rel Z H G io pl S de σ) (r : Reps Z G io vs ds) {p : Addr} (hp : H p = none) : Q (.ref p) (upd H p (.lst vs)) := by
  obtain ⟨R', s', n, g⟩ := R.laid hp (.lst vs)
  exact k _ _ _ _ _ (s.trans s') R' (.lst upd_same r) n g (s.none hp) rfl

theorem s_tup {a : IR} {es : List Expr} {x1 : Nat} {pos : Pos} (h : PA X es (tL Z T C W a)) : PE X (.Tuple es x1 pos) (tE Z T C W (.tup a)) := (pe_tup h).wk fun σ H Q q => by
  obtain ⟨G, io, pl, S, de, R, h⟩ := q
  refine ⟨G, io, pl, S, de, R, (Fin.bnd (show Fin Z H G io de σ W ((evl T C de a S).bnd _) _ from h)).imp fun ds S1 k H1 G1 io1 pl1 vs s1 R1 r => ?_⟩
  have k : Fin Z H G io de σ W ((if sizeOk ds.length = true then ret (.tup ds) else fail : M D) S1) _ := k
  split at k
  · rename_i hz
    refine ⟨by rw [r.length]; exact of_decide_eq_true hz, fun p hp => ?_⟩
    obtain ⟨R', s'⟩ := R1.new hp (.tup vs)
    exact k _ _ _ _ _ (s1.trans s') R' (.tup upd_same (r.step s'))
  · exact k.elim
theorem n_lst {a : IR} {es : List Expr} {pos : Pos} (h : PA X es (tL Z T C W a)) : PE X (.List es pos) (tN Z T C W (.lst a)) := (pe_lst h).wk fun σ H Q q => by
  obtain ⟨G, io, pl, S, de, R, h⟩ := q
  refine ⟨G, io, pl, S, de, R, (Fin.bnd (show Fin Z H G io de σ W ((evl T C de a S).bnd _) _ from h)).imp fun ds S1 k H1 G1 io1 pl1 vs s1 R1 r => ?_⟩
  have k : Fin Z H G io de σ W ((if sizeOk ds.length = true then ret (.lst ds) else fail : M D) S1) _ := k
  split at k
  · rename_i hz
    exact ⟨by rw [r.length]; exact of_decide_eq_true hz, fun p hp => new_lst k s1 R1 r hp⟩
  · exact k.elim

/-! ### items -/
theorem atI_rep {vs : List V} {ds : List D} (r : Reps Z G io vs ds) {i : Int} {d : D} (h : atI ds i = some d) : ∃ v, atI vs i = some v ∧ Rep Z G io v d := by
  have h : (ixN ds.length i).bind (fun j => ds[j]?) = some d := h
  obtain ⟨j, h1, h2⟩ := Option.bind_eq_some_iff.mp h
  obtain ⟨v, hv, q⟩ := r.get h2
  refine ⟨v, ?_, q⟩
  show (ixN vs.length i).bind (fun j => vs[j]?) = some v
  rw [r.length, h1]
  exact hv
def rDix : R2 := fun x y H Q => ∃ a v, x = .ref a ∧ DGet H a y (some v) ∧ Q v H
theorem ix_dict (hu : X.A.units + 65 < cLine) : IxR X rDix := by
  intro value slice pn s σ H x y v u Q J rx ry h hs
  obtain ⟨a, w, rfl, g, q⟩ := h
  obtain rfl : v = Value.ref a := rx
  have hT := dict_typeIs J g
  unfold PyProof.Rows.subscriptTail
  refine wpAny_bind ?_
  rw [getitemInPython_of_ne hT.not_modules]
  refine wpAny_bind (wpAny_specialOf hT PySem.F.slot_dict_getitem.lookup ?_)
  have last : wpAny (model X.prog X.w) X.A (subscripted slice false (.ref a) u) (fun r s3 => wpAny (model X.prog X.w) X.A (letTemporaryGo value (.ref a) r >>= fun _ => pure r) (EP X pn σ Q) X.xe s3) X.xe s := by
    rw [hs]
    refine PySem.wpAny_operating (thn (d_getItem (E := X.xe) (Q := EP X pn σ Q) (by omega) J g ry fun w' s3 J3 rw' => ⟨w, H, J3, rw', q⟩) fun r s3 h3 => ?_)
    exact wpAny_bind (wpAny_letTemporaryGo (wpAny_pure h3))
  first
    | exact wpAny_pure (wpAny_bind last)
    | exact wpAny_bind (wpAny_pure (wpAny_bind last))
    | exact wpAny_bind last
def rIxA (K : PySem.W.Frag) : R2 := fun x y H Q => rIx K x y H Q ∨ rDix x y H Q
theorem ix_any (hu : X.A.units + 65 < cLine) : IxR X (rIxA X.K) := ix_seq.or (ix_dict hu)
theorem dget_one {c x d : D} {v y : V} (t : Top Z H G io v c) (gh : ∀ a u, G a = some u → Held H a u) (r : Rep Z G io y x) (h : dAt x c = some d) : ∃ a w, v = .ref a ∧ DGet H a y (some w) ∧ Rep Z G io w d := by
  cases t <;> first | (cases h; done) | skip
  · rename_i a kvs ds hH rs
    have hm : (match x.ky with | some (.one k) => dfind (.one k) (kvs.map fun p => keyD p.1) ds | _ => none) = some d := h
    cases hk : x.ky with
    | none => rw [hk] at hm; cases hm
    | some k =>
      rw [hk] at hm
      cases k with
      | tup k => cases hm
      | one k =>
        have hm : dfind (.one k) (kvs.map fun p => keyD p.1) ds = some d := hm
        clear h
        obtain ⟨rfl, rfl⟩ := rep_key r hk
        rcases dfind_K k rs with ⟨w, d', h1, h2, h3⟩ | ⟨_, h2⟩
        · rw [hm] at h2
          cases h2
          exact ⟨a, w, rfl, .inl ⟨kvs, k, hH.rd, rfl, h1.symm⟩, h3⟩
        · rw [hm] at h2
          cases h2
  · rename_i a kvs ds hH rs
    have hm : (match x.ky with | some (.tup k) => dfind (.tup k) (kvs.map fun p => D.tup (p.1.map keyD)) ds | _ => none) = some d := h
    cases hk : x.ky with
    | none => rw [hk] at hm; cases hm
    | some k =>
      rw [hk] at hm
      cases k with
      | one k => cases hm
      | tup k =>
        have hm : dfind (.tup k) (kvs.map fun p => D.tup (p.1.map keyD)) ds = some d := hm
        clear h
        obtain ⟨b, rfl, hb, rfl⟩ := rep_keyT r hk
        rcases dfind_T k rs with ⟨w, d', h1, h2, h3⟩ | ⟨_, h2⟩
        · rw [hm] at h2
          cases h2
          exact ⟨a, w, rfl, .inr ⟨kvs, k, b, hH.rd, rfl, (gh _ _ hb).same rfl, h1.symm⟩, h3⟩
        · rw [hm] at h2
          cases h2
theorem idx_val {vx y d : D} {v u : V} {Q : VK} (R2 : Rel Z H G io pl S de σ) (t : Top Z H G io v vx) (r2 : Rep Z G io u y) (e2 : pIdx vx y = some d) (g : Go Z H G io S de σ d Q) : rIxA Z.K v u H Q := by
  cases vx <;> first | (cases e2; done) | skip
  · rename_i s
    cases t
    cases r2 <;> first | (cases e2; done) | skip
    rename_i i
    have e2 : (if sizeOk s.length = true then (atI s.cps.toList i).map (fun c => D.str ⟨#[c]⟩) else none) = some d := e2
    split at e2 <;> first | (cases e2; done) | skip
    rename_i hz
    obtain ⟨c, hc, e2⟩ := Option.map_eq_some_iff.mp e2
    subst e2
    exact .inl (.inr (.inr ⟨_, _, c, rfl, rfl, of_decide_eq_true hz, hc, g.here R2 (.str _)⟩))
  · cases t with
    | tup h r =>
      cases r2 <;> first | (cases e2; done) | skip
      obtain ⟨w, hw, rw'⟩ := atI_rep r e2
      exact .inl (.inr (.inl ⟨_, _, _, w, rfl, rfl, SqT.of h, hw, g.here R2 rw'⟩))
  · cases t with
    | lst h r =>
      cases r2 <;> first | (cases e2; done) | skip
      obtain ⟨w, hw, rw'⟩ := atI_rep r e2
      exact .inl (.inl ⟨_, _, _, w, rfl, rfl, SqL.of h, hw, g.here R2 rw'⟩)
  · cases t with
    | ro h r =>
      cases r2 <;> first | (cases e2; done) | skip
      obtain ⟨w, hw, rw'⟩ := atI_rep r e2
      rcases h with h | h
      · exact .inl (.inl ⟨_, _, _, w, rfl, rfl, h, hw, g.here R2 rw'⟩)
      · exact .inl (.inr (.inl ⟨_, _, _, w, rfl, rfl, h, hw, g.here R2 rw'⟩))
  all_goals
    obtain ⟨a, w, ev, dg, rw'⟩ := dget_one t R2.gh r2 e2
    exact .inr ⟨a, w, ev, dg, g.here R2 rw'⟩

theorem s_idx {a b : IR} {e f : Expr} {pos : Pos} (dp : Disp X Z T C W) (hu : X.A.units + 65 < cLine) (hK : X.K = Z.K) (ha : PE X e (tO Z T C W a)) (hb : PE X f (tE Z T C W b)) (hs : PlainIx f) (hs2 : ∀ o i, subscripted f true o i = runValue (.builtin "lifetime.subscript" ⟨[o, i], []⟩)) : PE X (.Subscript e f pos) (tE Z T C W (.idx a b)) := ⟨fun pins s σ H Q I q => by
  obtain ⟨G, io, pl, S, de, R, h⟩ := q
  refine PyProof.Rows.Subscript_ (binT (R := fun v u H2 => ∃ G2 io2 pl2 S2 dx dy, Step H G io H2 G2 io2 ∧ Rel Z H2 G2 io2 pl2 S2 de σ ∧ Opd Z G2 io2 de σ v dx ∧ Rep Z G2 io2 u dy ∧ Fin Z H G io de σ W (idxR T C dx dy S2) (KQ Z H G io de σ Q)) ha hb I ⟨G, io, pl, S, de, R, (Fin.bnd (show Fin Z H G io de σ W ((ev T C de a S).bnd _) _ from h)).imp fun x S1 k H1 G1 io1 pl1 v s1 R1 o1 => ⟨G1, io1, pl1, S1, de, R1, (Fin.bnd (show Fin Z H G io de σ W ((ev T C de b S1).bnd _) _ from k)).at s1 fun y S2 k2 H2 G2 io2 pl2 u s2 R2 r2 => ⟨G2, io2, pl2, S2, x, y, s1.trans s2, R2, o1.step s2, r2, k2⟩⟩⟩ fun v u s2 x y H2 I2 rx ry q => ?_)
  obtain ⟨G2, io2, pl2, S2, dx, dy, s2, R2, o1, r2, k⟩ := q
  by_cases e : ∃ c ns vs, view S2 dx = .ins c ns vs
  · obtain ⟨c, ns, vs, e⟩ := e
    have r1 := o1.rep R2 e
    have k : Fin Z H G io de σ W (match view S2 dx with | .ins c _ _ => (dunR T C c "__getitem__" [dx, dy] S2).hush | v => lift (pIdx v dy) S2) (KQ Z H G io de σ Q) := k
    rw [e] at k
    have k : Fin Z H G io de σ W (dunR T C c "__getitem__" [dx, dy] S2).hush (KQ Z H G io de σ Q) := k
    obtain ⟨p, dxp, fs, rfl, ha, _, _⟩ := ins_top R2 r1 e
    cases rx
    obtain ⟨g, ⟨hg, hfn⟩, ⟨ce, hc⟩, run⟩ := dun_go1 dp R2 (.cons r1 (.cons r2 .nil)) (hush_go (k.at s2 fun _ _ z => z) fun _ _ z => z) fun d S' H' G' io' pl' v k s R' rv => k H' G' io' pl' v (s2.trans s) R' rv
    obtain ⟨_, J, _⟩ := ins_get I2.hok ha
    obtain ⟨od, J, _⟩ := J.look
    obtain ⟨m, hF⟩ := I2.fr
    exact PySem.W.sub_K hF I2.ok.mod.kin J hg.at_ hfn hg.fn (run _ _ _ _ I2 (.cons rfl (.cons ry .nil))) (hs2 _ _)
  · have k : Fin Z H G io de σ W (match view S2 dx with | .ins c _ _ => (dunR T C c "__getitem__" [dx, dy] S2).hush | v => lift (pIdx v dy) S2) (KQ Z H G io de σ Q) := k
    have k : Fin Z H G io de σ W (lift (pIdx (view S2 dx) dy) S2) (KQ Z H G io de σ Q) := by
      cases q : view S2 dx <;> rw [q] at k <;> first | exact k | exact absurd ⟨_, _, _, q⟩ e
    obtain ⟨d, e2, k⟩ := k.lift
    refine ix_any hu _ _ pins _ σ H2 x y v u Q I2 rx ry ?_ (hs _ _)
    rw [hK]
    exact idx_val R2 (o1.topd R2) r2 e2 fun H3 G3 io3 pl3 v3 s3 R3 r3 => k H3 G3 io3 pl3 v3 (s2.trans s3) R3 r3⟩

/-! ### slices -/
theorem s_pnil : PO X none (tP Z T C W .nil) := ⟨fun pn s σ H Q J q => (po_none (X := X)).run pn s σ H Q J (by
  obtain ⟨G, io, pl, S, de, R, h⟩ := q
  exact h H G io pl .refl R)⟩
theorem s_pone {a t : IR} {e : Expr} (ha : PE X e (tE Z T C W a)) : PO X (some e) (tP Z T C W (.cons a t)) := ⟨fun pn s σ H Q J q => (po_some ha).run pn s σ H Q J (by
  obtain ⟨G, io, pl, S, de, R, h⟩ := q
  refine ⟨G, io, pl, S, de, R, (Fin.bnd (show Fin Z H G io de σ W ((ev T C de a S).bnd _) _ from h)).imp fun x S1 k H1 G1 io1 pl1 v s1 R1 r => ?_⟩
  cases r <;> first | exact (k : False).elim | skip
  exact ⟨_, rfl, k H1 G1 io1 pl1 s1 R1⟩)⟩
theorem cut_rep {vs : List V} {ds : List D} (r : Reps Z G io vs ds) (lo hi : Option Int) : Reps Z G io (cutV vs lo hi) (cutD ds lo hi) := by
  have hl := r.length
  unfold cutV cutD
  rw [hl]
  generalize HT.sIx ds.length 0 lo = i
  generalize HT.sIx ds.length ds.length hi - i = j
  clear hl
  induction i generalizing vs ds with
  | zero =>
    rw [List.drop_zero, List.drop_zero]
    induction j generalizing vs ds with
    | zero => rw [List.take_zero, List.take_zero]; exact .nil
    | succ j ih =>
      cases r with
      | nil => exact .nil
      | cons h t => exact .cons h (ih t)
  | succ i ih =>
    cases r with
    | nil => rw [List.drop_nil, List.take_nil, List.drop_nil, List.take_nil]; exact .nil
    | cons h t => exact ih t
def rSlB (K : PySem.W.Frag) : V → Option Int → Option Int → Hp → VK → Prop := fun x lo hi H Q => rSlL K x lo hi H Q ∨ rSlA K x lo hi H Q
theorem cut_whole {ds : List D} {lo hi : Option Int} (h : HT.sIx ds.length 0 lo = 0 ∧ HT.sIx ds.length ds.length hi = ds.length) : cutD ds lo hi = ds := by
  unfold cutD
  rw [h.1, h.2, List.drop_zero, Nat.sub_zero, List.take_length]
theorem s_sli {a lo hi : IR} {e : Expr} {l u : Option Expr} {pos p2 : Pos} (hK : X.K = Z.K) (ha : PE X e (tO Z T C W a)) (hl : PO X l (tP Z T C W lo)) (hh : PO X u (tP Z T C W hi)) : PE X (.Subscript e (.Slice l u none p2) pos) (tE Z T C W (.sli a lo hi)) := (pe_slice (sl_list.or sl_tupA) ha hl hh).wk fun σ H Q q => by
  obtain ⟨G, io, pl, S, de, R, h⟩ := q
  refine ⟨G, io, pl, S, de, R, (Fin.bnd (show Fin Z H G io de σ W ((ev T C de a S).bnd _) _ from h)).imp fun x S1 k H1 G1 io1 pl1 v s1 R1 o1 => ?_⟩
  refine ⟨G1, io1, pl1, S1, de, R1, (Fin.bnd (show Fin Z H G io de σ W ((evo T C de lo S1).bnd _) _ from k)).at s1 fun lo' S2 k2 H2 G2 io2 pl2 s2 R2 => ?_⟩
  refine ⟨G2, io2, pl2, S2, de, R2, (Fin.bnd (show Fin Z H G io de σ W ((evo T C de hi S2).bnd _) _ from k2)).at (s1.trans s2) fun hi' S3 k3 H3 G3 io3 pl3 s3 R3 => ?_⟩
  obtain ⟨d, e3, k3⟩ := k3.lift
  have g : Go Z H3 G3 io3 S3 de σ d Q := Go.of (S := S3) ((s1.trans s2).trans s3) k3 rfl
  have t := ((o1.step s2).step s3).topd R3
  rw [hK]
  generalize view S3 x = vx at e3 t
  cases vx <;> first | (cases e3; done) | skip
  · cases t with
    | tup h r =>
      cases e3
      refine .inr ⟨_, _, rfl, SqT.of h, fun w => ?_, fun w p hp => g.tup R3 (cut_rep r lo' hi') hp⟩
      rw [r.length] at w
      obtain ⟨G', R', s', hg⟩ := R3.seen h
      rw [cut_whole w] at g
      exact g _ _ _ _ _ s' R' (.tup hg (r.step s'))
  · cases t with
    | lst h r =>
      cases e3
      exact .inl ⟨_, _, rfl, SqL.of h, fun p hp => g.lst R3 (cut_rep r lo' hi') hp⟩
end
end Y
/-! Y21: attributes, methods. -/
namespace Y
open PySem L2

section
variable {Z : Zc} {T : Tb} {C : Calls} {W : WX} {X : Cx} {H G H' G' : Hp} {io io' : List Addr} {pl pl' : Plc} {S S' : Store} {de : Env} {σ : L2.St}
theorem s_att {a : IR} {f : Str} {e : Expr} {pos : Pos} (dp : Disp X Z T C W) (ha : PE X e (tE Z T C W a)) (hb : attributeBase e f X.env (eval e X.env) = eval e X.env) : PE X (.Attribute e f pos) (tE Z T C W (.att a f)) := ⟨fun pins s σ H Q I q => by
  obtain ⟨G, io, pl, S, de, R, h⟩ := q
  have hh : tE Z T C W a σ H (fun v H1 => ∃ G1 io1 pl1 S1 d, Step H G io H1 G1 io1 ∧ Rel Z H1 G1 io1 pl1 S1 de σ ∧ Rep Z G1 io1 v d ∧ Fin Z H G io de σ W (attR T C d f S1) (KQ Z H G io de σ Q)) :=
    ⟨G, io, pl, S, de, R, (Fin.bnd (show Fin Z H G io de σ W ((ev T C de a S).bnd _) _ from h)).imp fun x S1 k H1 G1 io1 pl1 v s1 R1 r1 => ⟨G1, io1, pl1, S1, x, s1, R1, r1, k⟩⟩
  refine attr_of hb (thn (ha.run pins s σ H _ I hh) fun u s1 ⟨v, H1, I1, rv, G1, io1, pl1, S1, d, st, R1, r1, k⟩ => ?_)
  unfold attR at k
  cases hv : view S1 d <;> rw [hv] at k <;> first | exact (k : False).elim | skip
  rename_i c ns vs
  obtain ⟨p, dx, fs, rfl, hp, rfl, rs⟩ := ins_top R1 r1 hv
  cases rv
  have k : Fin Z H G io de σ W (if T.isFld c f = true then lift (fieldOf (fs.map (·.1)) vs f) S1 else (match T.prop c f with | some i => (C i [d] S1).hush.bnd fun r => ret r.1 | none => .bad)) (KQ Z H G io de σ Q) := k
  split at k
  · rename_i hf
    obtain ⟨ce, hc⟩ := isFld_cls hf
    obtain ⟨d2, e2, k⟩ := k.lift
    obtain ⟨w, hl, rw'⟩ := fieldOf_ok rs e2
    exact getattr_ok I1 hp (dp.cls _ _ hc) (dp.fld _ _ hf) hl fun u' s2 I2 ru => ⟨w, H1, I2, ru, k H1 G1 io1 pl1 w st R1 rw'⟩
  · cases hpr : T.prop c f with
    | none => rw [hpr] at k; exact k.elim
    | some i =>
      rw [hpr] at k
      exact dp.prop c f i hpr pins _ σ H1 p dx fs Q _ I1 hp ⟨G1, io1, pl1, S1, de, [d], R1, .cons r1 .nil, hush_go (Fin.bnd (k.at st fun _ _ z => z)) fun x S2 k2 H2 G2 io2 pl2 v2 s2 R2 rv => k2 H2 G2 io2 pl2 v2 (st.trans s2) R2 rv⟩⟩
theorem s_kty {n : String} {e : Expr} (h : PE X e (tC (.ty n))) : PE X e (tE Z T C W (.kty n)) := s_const h (fun _ => rfl) fun _ _ => .ty n
theorem s_kcls {c : Nat} {e : Expr} (h : PE X e (tC (.ref (Z.ca c)))) : PE X e (tE Z T C W (.kcls c)) := s_const h (fun _ => rfl) fun _ _ => .cls c
/-- a method's receiver -/
def MRc (Z : Zc) (T : Tb) (C : Calls) (W : WX) (H G : Hp) (io : List Addr) (de : Env) (σ : L2.St) (m : Str) (as : IR) (Q : VK) (v : V) (H1 : Hp) : Prop := ∃ G1 io1 pl1 S1 d, Step H G io H1 G1 io1 ∧ Rel Z H1 G1 io1 pl1 S1 de σ ∧ Rep Z G1 io1 v d ∧ Fin Z H G io de σ W (methF T d m S1) fun i S2 => Fin Z H G io de σ W (evl T C de as S2) fun ds S3 => Fin Z H G io de σ W ((C i (d :: ds) S3).bnd fun r => ret r.1) (KQ Z H G io de σ Q)
theorem meth_rc {a as : IR} {m : Str} {Q : VK} (R : Rel Z H G io pl S de σ) (h : Fin Z H G io de σ W (ev T C de (.meth a m as) S) (KQ Z H G io de σ Q)) : tE Z T C W a σ H (MRc Z T C W H G io de σ m as Q) :=
  ⟨G, io, pl, S, de, R, (Fin.bnd (show Fin Z H G io de σ W ((ev T C de a S).bnd _) _ from h)).imp fun x S1 k H1 G1 io1 pl1 v s1 R1 r1 => ⟨G1, io1, pl1, S1, x, s1, R1, r1, (Fin.bnd (show Fin Z H G io de σ W ((methF T x m S1).bnd _) _ from k)).imp fun i S2 k2 => (Fin.bnd (show Fin Z H G io de σ W ((evl T C de as S2).bnd _) _ from k2)).imp fun ds S3 k3 => k3⟩⟩
theorem meth_at {m : Str} {as : IR} {Q : VK} {v : V} {u : Value} {H1 : Hp} (dp : Disp X Z T C W) (q : MRc Z T C W H G io de σ m as Q v H1) (rv : RelV v u) : ∃ a dx fs c g i, v = .ref a ∧ u = .ref a ∧ H1 a = some (.ins (Z.ca c) dx fs) ∧ fs.lookup m = none ∧ Cls X.K (Z.ca c) ∧ Meth X.K (Z.ca c) m g ∧ CallOk X Z C W i g ∧
    tL Z T C W as σ H1 fun vs H2 => tCD Z C W i (.ref a :: vs) σ H2 Q := by
  obtain ⟨G1, io1, pl1, S1, d, st, R1, r1, k⟩ := q
  unfold methF at k
  cases hv : view S1 d <;> rw [hv] at k <;> first | exact (k : False).elim | skip
  rename_i c ns vs
  obtain ⟨p, dx, fs, rfl, hp, rfl, rs⟩ := ins_top R1 r1 hv
  cases rv
  have k : Fin Z H G io de σ W (if (fs.map (·.1)).contains m = true then .bad else lift (T.meth c m) S1) _ := k
  split at k
  · exact k.elim
  · rename_i hc
    obtain ⟨i, e, k⟩ := k.lift
    obtain ⟨g, ⟨hg, _⟩, ok, _⟩ := dp.meth c m i e
    obtain ⟨ce, hce⟩ := meth_cls e
    refine ⟨p, dx, fs, c, g, i, rfl, rfl, hp, lookup_none (Bool.eq_false_iff.mpr hc), dp.cls _ _ hce, hg, ok, G1, io1, pl1, S1, de, R1, k.at st fun ds S2 k2 H2 G2 io2 pl2 vs s2 R2 r2 => ?_⟩
    exact ⟨G2, io2, pl2, S2, de, _, R2, .cons (r1.step s2) r2, (Fin.bnd k2).at (st.trans s2) fun x S3 k3 H3 G3 io3 pl3 v3 s3 R3 rv => k3 H3 G3 io3 pl3 v3 ((st.trans s2).trans s3) R3 rv⟩
theorem s_meth {a as : IR} {o e : Expr} {es : List Expr} {m : Str} {apos pos : Pos} {pl0 : Sem Bool} (dp : Disp X Z T C W) (ha : PE X o (tE Z T C W a)) (hes : PA X (e :: es) (tL Z T C W as))
    (hst : starEach (e :: es) X.env = (false, eval e X.env) :: starEach es X.env := by rfl) (hpl : (backTo pos (starEach es X.env)).any (·.1) = false := by rfl)
    (ht : eval (.Call (.Attribute o m apos) (e :: es) [] pos) X.env = (do
      let ov ← eval o X.env
      standAt apos.atName
      let (f, first) ← holding [ov] (getMethod ov m pl0)
      callWith pos f first (backTo pos (starEach (e :: es) X.env)) (backToKw pos (keywordEach [] X.env))) := by rfl) : PE X (.Call (.Attribute o m apos) (e :: es) [] pos) (tE Z T C W (.meth a m as)) := ⟨fun pins s σ H Q I q => by
  obtain ⟨G, io, pl, S, de, R, h⟩ := q
  refine PySem.W.methodCall_KW (pl := pl0) (thn (ha.run pins s σ H _ I (meth_rc R h)) fun u s1 ⟨x, H1, I1, rx, q1⟩ => ?_) ht
  obtain ⟨a, dx, fs, c, g, i, rfl, rfl, ea, l, cl, hm, ok, q⟩ := meth_at dp q1 rx
  refine getmeth_ok I1 ea cl hm l ?_
  refine PySem.W.callWith_K (first := [.ref a]) (h₀ := X.base) I.ok.mod.kin hm.kp (thn (hes.run pos pins s1 σ H1 _ I1 q) fun us s2 ⟨vs, H2, I2, r, q2⟩ => ⟨I2.kIn, ?_⟩) hst hpl
  exact ok pins s2 σ H2 (.ref a :: us) (.ref a :: vs) Q I2 (.cons rfl r) q2⟩
theorem s_meth0 {a : IR} {o : Expr} {m : Str} {apos pos : Pos} {pl0 : Sem Bool} (dp : Disp X Z T C W) (ha : PE X o (tE Z T C W a))
    (ht : eval (.Call (.Attribute o m apos) [] [] pos) X.env = (do
      let ov ← eval o X.env
      standAt apos.atName
      let (f, first) ← holding [ov] (getMethod ov m pl0)
      callWith pos f first (backTo pos (starEach [] X.env)) (backToKw pos (keywordEach [] X.env))) := by rfl) : PE X (.Call (.Attribute o m apos) [] [] pos) (tE Z T C W (.meth a m .nil)) := ⟨fun pins s σ H Q I q => by
  obtain ⟨G, io, pl, S, de, R, h⟩ := q
  refine PySem.W.methodCall_KW (pl := pl0) (thn (ha.run pins s σ H _ I (meth_rc R h)) fun u s1 ⟨x, H1, I1, rx, q1⟩ => ?_) ht
  obtain ⟨a, dx, fs, c, g, i, rfl, rfl, ea, l, cl, hm, ok, q⟩ := meth_at dp q1 rx
  refine getmeth_ok I1 ea cl hm l ?_
  obtain ⟨G1, io1, pl1, S1, de1, R1, q⟩ := q
  exact PySem.W.callWith_K0 (first := [.ref a]) I1.kIn hm.kp (ok pins s1 σ H1 [.ref a] [.ref a] Q I1 (.cons rfl .nil) (q H1 G1 io1 pl1 [] .refl R1 .nil))⟩
end
end Y
/-! Y24: isinstance. -/
namespace Y
open PySem L2

section
variable {Z : Zc} {T : Tb} {C : Calls} {W : WX} {X : Cx} {H G H' G' : Hp} {io io' : List Addr} {pl pl' : Plc} {S S' : Store} {de : Env} {σ : L2.St}
/-- a value's class -/
inductive TyY (K : PySem.W.Frag) (H : Hp) : V → Value → Prop where
  | base {x : V} {t : Value} (h : TyX K H x t) : TyY K H x t
  | fDT {a : Addr} {o : Obj} {kvs : List (List Key × V)} (e : H a = some (.frz o (.dT kvs))) : TyY K H (.ref a) (.type "dict")
theorem kit_ofY {pins : List (Addr × Obj)} {s : Shared} {x : V} {u t : Value} (I : L2.Inv X pins σ H s) (rx : RelV x u) (ty : TyY X.K H x t) : ∃ P : Heap → Prop, PySem.W.KitX X.K u t P ∧ P s.heap ∧ u ≠ .builtin "__main__.__loader__#opaque" := by
  cases ty with
  | base h => exact kit_of I rx h
  | @fDT a ob kvs ea =>
    cases (show u = Value.ref a from rx)
    obtain ⟨_, _, _, xs, _, o, es, ep, h1, h2, _⟩ := (show ObjOk X.prog X.w H s.heap a (.frz ob (.dT kvs)) from I.hok a _ ea)
    exact ⟨_, PySem.W.kitx_dict, ⟨o, h1, h2.1⟩, fun z => nomatch z⟩
def rIsY (K : PySem.W.Frag) : List V → Hp → VK → Prop := fun xs H Q => ∃ (x c : V) (t : Value) (b : Bool), xs = [x, c] ∧ TyY K H x t ∧ Q (.bl b) H ∧ ((∃ u, ClsV c u ∧ PySem.W.kitOne K t u = some b) ∨ ∃ tp cs us, c = .ref tp ∧ H tp = some (.tup cs) ∧ Paired ClsV cs us ∧ PySem.W.kitAny K t us = some b)
theorem call_isY : CallR X (.builtin "isinstance") (rIsY X.K) := by
  intro pins s σ H xs us Q I r h
  obtain ⟨x, c, t, b, rfl, ty, q, h⟩ := h
  obtain ⟨u1, u2, rfl, r1, r2⟩ := vals2 r
  obtain ⟨P, Z, p, hx⟩ := kit_ofY I r1 ty
  rcases h with ⟨u, k, e⟩ | ⟨tp, cs, ws, rfl, hT, k, e⟩
  · have e2 := k.eq r2
    subst e2
    exact PySem.W.kia_one Z I.kIn p e hx fun tk => ⟨.bl b, H, I.tok tk, rfl, q⟩
  · cases (show u2 = Value.ref tp from r2)
    obtain ⟨_, its, rv, o, h1, h2, n, h3⟩ := (show ObjOk X.prog X.w H s.heap tp (.tup cs) from I.hok tp _ hT)
    have e3 := ClsV.all k rv
    subst e3
    obtain ⟨oc, od, dt, sl⟩ := o
    simp only at h2 h3
    subst h2 h3
    exact PySem.W.kia_tup Z I.kIn p h1 e hx fun tk => ⟨.bl b, H, I.tok tk, rfl, q⟩
theorem isiB_kit : ∀ a ∈ "NoneType" :: tyKnown, ∀ b ∈ tyKnown, kitB a b = some (isiB a b) := by decide +kernel
theorem tyN_known {x : D} {n : String} (h : x.tyN = some n) : n ∈ "NoneType" :: tyKnown := by
  cases x <;> first | (cases h; done) | (cases h; decide)
/-- the class of a value as Python's -/
def clsT (Z : Zc) (x : D) : Option Value := match x with
  | .ins c _ _ => some (.ref (Z.ca c))
  | x => x.tyN.map .type
theorem ty_of (dp : Disp X Z T C W) {v : V} {x : D} {t : Value} (h : Top Z H G io v x) (e : clsT Z x = some t) (hc : ∀ c ns vs, x = .ins c ns vs → (T.cls[c]?).isSome = true) : TyY X.K H v t := by
  cases h with
  | non => cases e; exact .base (.base .non)
  | bl b => cases e; exact .base (.base (.bl b))
  | int i => cases e; exact .base (.base (.int i))
  | str s => cases e; exact .base (.base (.str s))
  | ty n => cases e
  | cls c => cases e
  | tup h r => cases e; exact .base (.base (.tup h))
  | lst h r => cases e; exact .base (.base (.lst h))
  | ro h r => cases e
  | dK h r =>
    cases e
    rcases h with h | ⟨_, o, h⟩
    · exact .base (.base (.dK h))
    · exact .base (.fDict h)
  | dT h r =>
    cases e
    rcases h with h | ⟨_, o, h⟩
    · exact .base (.base (.dT h))
    · exact .fDT h
  | ins h r =>
    cases e
    have := hc _ _ _ rfl
    obtain ⟨ce, hce⟩ := Option.isSome_iff_exists.mp this
    obtain ⟨⟨h1, h2, h3, h4⟩, _⟩ := dp.isc _ _ hce
    exact .base (.base (.ins h (dp.cls _ _ hce) h1 h2 h3 h4))
theorem isi1_ok (dp : Disp X Z T C W) {x y : D} {b : Bool} {v c : V} (hv : Top Z H G io v x) (hy : Rep Z G io c y) (e : isi1 T x y = some b) : ∃ t u, TyY X.K H v t ∧ clsT Z x = some t ∧ ClsV c u ∧ PySem.W.kitOne X.K t u = some b := by
  cases hy with
  | ty n =>
    have e : (if tyKnown.contains n = true then (match x with | .ins c _ _ => if (T.cls[c]?).isSome = true then some false else none | x => x.tyN.map (isiB · n)) else none) = some b := e
    split at e <;> first | (cases e; done) | skip
    rename_i hn
    have hn : n ∈ tyKnown := List.contains_iff_mem.mp hn
    by_cases hx : ∃ c ns vs, x = .ins c ns vs
    · obtain ⟨c, ns, vs, rfl⟩ := hx
      have e : (if (T.cls[c]?).isSome = true then some false else none) = some b := e
      by_cases hc : (T.cls[c]?).isSome = true
      rotate_left
      · rw [if_neg hc] at e; cases e
      rw [if_pos hc] at e
      cases e
      obtain ⟨ce, hce⟩ := Option.isSome_iff_exists.mp hc
      exact ⟨_, _, ty_of dp hv rfl (fun c' _ _ z => by cases z; exact hc), rfl, .ty n, (dp.isc _ _ hce).2.1 n hn⟩
    · have e : x.tyN.map (isiB · n) = some b := by
        cases x <;> first | exact e | exact absurd ⟨_, _, _, rfl⟩ hx
      obtain ⟨m, hm, rfl⟩ := Option.map_eq_some_iff.mp e
      have hc : clsT Z x = some (.type m) := by
        cases x <;> first | (cases hm; done) | (cases hm; rfl)
      exact ⟨_, _, ty_of dp hv hc (fun c ns vs z => absurd ⟨c, ns, vs, z⟩ hx), hc, .ty n, kit_ty (isiB_kit m (tyN_known hm) n hn)⟩
  | cls cc =>
    have e : (if (T.cls[cc]?).isSome = true then (match x with | .ins c' _ _ => if (T.cls[c']?).isSome = true then some (c' == cc) else none | x => x.tyN.map fun _ => false) else none) = some b := e
    split at e <;> first | (cases e; done) | skip
    rename_i hcc
    obtain ⟨ce, hce⟩ := Option.isSome_iff_exists.mp hcc
    by_cases hx : ∃ c ns vs, x = .ins c ns vs
    · obtain ⟨c, ns, vs, rfl⟩ := hx
      have e : (if (T.cls[c]?).isSome = true then some (c == cc) else none) = some b := e
      by_cases hc : (T.cls[c]?).isSome = true
      rotate_left
      · rw [if_neg hc] at e; cases e
      rw [if_pos hc] at e
      cases e
      obtain ⟨ce', hce'⟩ := Option.isSome_iff_exists.mp hc
      exact ⟨_, _, ty_of dp hv rfl (fun c' _ _ z => by cases z; exact hc), rfl, .own _, (dp.isc _ _ hce').2.2.2 cc ce hce⟩
    · have e : (x.tyN.map fun _ => false) = some b := by
        cases x <;> first | exact e | exact absurd ⟨_, _, _, rfl⟩ hx
      obtain ⟨m, hm, rfl⟩ := Option.map_eq_some_iff.mp e
      have hc : clsT Z x = some (.type m) := by
        cases x <;> first | (cases hm; done) | (cases hm; rfl)
      exact ⟨_, _, ty_of dp hv hc (fun c ns vs z => absurd ⟨c, ns, vs, z⟩ hx), hc, .own _, (dp.isc _ _ hce).2.2.1 m (tyN_known hm)⟩
  | _ => cases e
theorem isCls_of {y : D} {c : V} (r : Rep Z G io c y) (h : y.isClass = true) : ∃ u, ClsV c u := by
  cases r <;> first | (cases h; done) | exact ⟨_, .ty _⟩ | exact ⟨_, .own _⟩
theorem isCls_all : ∀ {ys : List D} {cs : List V}, Reps Z G io cs ys → ys.all D.isClass = true → ∃ us, Paired ClsV cs us
  | [], cs, r, h => by cases r; exact ⟨[], .nil⟩
  | y :: ys, cs, r, h => by
    cases r with
    | cons q t =>
      rw [List.all_cons, Bool.and_eq_true] at h
      obtain ⟨u, hu⟩ := isCls_of q h.1
      obtain ⟨us, hus⟩ := isCls_all t h.2
      exact ⟨u :: us, .cons hu hus⟩
theorem isiL_ok (dp : Disp X Z T C W) {x : D} {v : V} {t : Value} (hv : Top Z H G io v x) (ht : clsT Z x = some t) : ∀ {ys : List D} {cs : List V} {b : Bool}, Reps Z G io cs ys → isiL T x ys = some b → ∃ us, Paired ClsV cs us ∧ PySem.W.kitAny X.K t us = some b
  | [], cs, b, r, e => by
    cases r
    cases e
    exact ⟨[], .nil, rfl⟩
  | y :: ys, cs, b, r, e => by
    cases r with
    | cons q tl =>
      have e : (match isi1 T x y with | some true => if ys.all D.isClass = true then some true else none | some false => isiL T x ys | none => none) = some b := e
      cases h1 : isi1 T x y with
      | none => rw [h1] at e; cases e
      | some b1 =>
        rw [h1] at e
        obtain ⟨t', u, _, ht', k, hk⟩ := isi1_ok dp hv q h1
        rw [ht] at ht'
        cases ht'
        cases b1 with
        | true =>
          have e : (if ys.all D.isClass = true then some true else none) = some b := e
          by_cases hz : ys.all D.isClass = true
          rotate_left
          · rw [if_neg hz] at e; cases e
          rw [if_pos hz] at e
          cases e
          obtain ⟨us, hus⟩ := isCls_all tl hz
          exact ⟨u :: us, .cons k hus, by unfold PySem.W.kitAny; rw [hk]⟩
        | false =>
          obtain ⟨us, hus, hk2⟩ := isiL_ok dp hv ht tl e
          exact ⟨u :: us, .cons k hus, by unfold PySem.W.kitAny; rw [hk]; exact hk2⟩
theorem s_isi {a t : IR} {e f : Expr} {p pos : Pos} (dp : Disp X Z T C W) (hK : X.K = Z.K) (hg : Gl X "isinstance") (hm : X.mg "isinstance" = none) (ha : PE X e (tO Z T C W a)) (hb : PE X f (tE Z T C W t)) (hs : starEach [e, f] X.env = (false, eval e X.env) :: starEach [f] X.env := by rfl) (hs2 : starEach [f] X.env = (false, eval f X.env) :: starEach [] X.env := by rfl)
    (hpl : (backTo pos (starEach [f] X.env)).any (·.1) = false := by rfl) : PE X (.Call (.Name "isinstance" p) [e, f] [] pos) (tE Z T C W (.isi a t)) := (pe_callB call_isY hg hm (by decide +kernel) (pa_cons ha (pa_cons hb pa_nil hs2) hs) (by decide) (by decide) hs hpl).wk fun σ H Q q => by
  obtain ⟨G, io, pl, S, de, R, h⟩ := q
  refine ⟨G, io, pl, S, de, R, (Fin.bnd (show Fin Z H G io de σ W ((ev T C de a S).bnd _) _ from h)).imp fun x S1 k H1 G1 io1 pl1 v s1 R1 o1 => ?_⟩
  refine ⟨G1, io1, pl1, S1, de, R1, (Fin.bnd (show Fin Z H G io de σ W ((ev T C de t S1).bnd _) _ from k)).at s1 fun y S2 k2 H2 G2 io2 pl2 u s2 R2 r2 => ?_⟩
  obtain ⟨d, e2, k2⟩ := k2.lift
  obtain ⟨b, hb2, rfl⟩ := Option.map_eq_some_iff.mp e2
  have tv := (o1.step s2).topd R2
  have q : Q (.bl b) H2 := k2 H2 G2 io2 pl2 _ (s1.trans s2) R2 (.bl b)
  generalize view S2 x = vx at hb2 tv
  cases y
  case tup ts =>
    cases r2 with
    | tup g r =>
      have hb3 : isiL T vx ts = some b := by
        cases ts with
        | nil => cases hb2
        | cons y ys => exact hb2
      have hcls : ∃ t, clsT Z vx = some t ∧ TyY X.K H2 v t := by
        cases ts with
        | nil => cases hb2
        | cons y ys =>
          cases r with
          | cons q tl =>
            have e : (match isi1 T vx y with | some true => if ys.all D.isClass = true then some true else none | some false => isiL T vx ys | none => none) = some b := hb3
            cases h1 : isi1 T vx y with
            | none => rw [h1] at e; cases e
            | some b1 =>
              obtain ⟨t', u', ty, ht', _⟩ := isi1_ok dp tv q h1
              exact ⟨t', ht', ty⟩
      obtain ⟨t', ht', ty⟩ := hcls
      obtain ⟨us, hus, hk⟩ := isiL_ok dp tv ht' r hb3
      exact ⟨v, _, t', b, rfl, ty, q, .inr ⟨_, _, us, rfl, (R2.gh _ _ g).same rfl, hus, hk⟩⟩
  all_goals
    obtain ⟨t', u', ty, _, k, hk⟩ := isi1_ok dp tv r2 hb2
    exact ⟨v, _, t', b, rfl, ty, q, .inl ⟨u', k, hk⟩⟩
end
end Y
/-! Y7: calls of built-ins. -/
namespace Y
open PySem L2
open PySem.W (EachIs)

/-! ### sorted, at the layer -/
section
variable {X : Cx}
def rSortD (K : PySem.W.Frag) : List V → Hp → VK → Prop := fun vs H Q => ∃ (a : Addr) (bs : List (V × PyData)), vs = [.ref a] ∧ SqL K H a (bs.map (·.1)) ∧ (∀ b ∈ bs, Dp K H b.1 b.2) ∧ PySem.W.AllAlike (bs.map (·.2)) ∧ PySem.W.Sortable (bs.map (·.2)) ∧ bs.length ≤ sizeLine ∧ (∀ b ∈ bs, b.2.depth ≤ 64) ∧
  ∀ p, H p = none → Q (.ref p) (upd H p (.lst ((bs.mergeSort (PySem.W.dataLe false fun b => b.2)).map (·.1))))
theorem each_of {R : Value → V × PyData → Prop} : ∀ {bs : List (V × PyData)} {us : List Value}, Vals (bs.map (·.1)) us → (∀ b ∈ bs, ∀ u, RelV b.1 u → R u b) → EachIs R us bs
  | [], us, r, _ => by cases r; exact .nil
  | b :: bs, us, r, h => by
    cases r with
    | cons q t => exact .cons (h b List.mem_cons_self _ q) (each_of t fun b hb => h b (List.mem_cons_of_mem _ hb))
theorem each_vals : ∀ {bs : List (V × PyData)} {us : List Value}, EachIs (fun u (b : V × PyData) => RelV b.1 u) us bs → Vals (bs.map (·.1)) us
  | _, _, .nil => .nil
  | _, _, .cons h t => .cons h (each_vals t)
theorem cr_sortedD (hu : X.A.units + 80 < cLine) : CallR X (.builtin "sorted") (rSortD X.K) := by
  intro pn s σ H vs us Q J r h
  obtain ⟨a, bs, rfl, hs, hd, hal, hk, hz, hdp, q⟩ := h
  obtain ⟨its, rv, hl, _⟩ := J.list hs
  rw [Vals.ref1 r]
  refine PySem.W.sorted_data (enc := fun b : V × PyData => b.2) (R := fun u b => RelV b.1 u) hl.isList (each_of rv fun b _ u q => q) (each_of rv fun b hb u q => Dp.reads J _ _ _ (hd b hb) q) hal hk hz (fun b hb => ?_) fun out hl2 he => ?_
  · have := hdp b hb
    show X.A.units + 2 + b.2.depth < cLine
    omega
  · obtain ⟨ep, he'⟩ := PyProof.Rows.sortedAll_at s.heap its out.toArray
    have rv2 := each_vals he
    have hlen : ((bs.mergeSort (PySem.W.dataLe false fun b => b.2)).map (·.1)).length ≤ sizeLine := by rw [List.length_map, List.length_mergeSort]; exact hz
    exact ⟨.ref _, upd H (s.heap.objs.size + 1) (.lst _), J.laid (t' := s.toks) (fun _ _ => PyProof.Rows.sortedAll_old) (Nat.le_succ _) ⟨hlen, out, ep, rv2, he'⟩, rfl, q _ (J.hok.fresh (Nat.le_succ _))⟩
end

section
variable {Z : Zc} {T : Tb} {C : Calls} {W : WX} {X : Cx} {H G H' G' : Hp} {io io' : List Addr} {pl pl' : Plc} {S S' : Store} {de : Env} {σ : L2.St}
inductive Tops (Z : Zc) (H G : Hp) (io : List Addr) : List V → List D → Prop where
  | nil : Tops Z H G io [] []
  | cons {v : V} {d : D} {vs : List V} {ds : List D} (h : Top Z H G io v d) (t : Tops Z H G io vs ds) : Tops Z H G io (v :: vs) (d :: ds)
theorem Opds.tops (R : Rel Z H G io pl S de σ) {vs : List V} {ds : List D} (o : Opds Z G io de σ vs ds) : Tops Z H G io vs (ds.map (view S)) := by
  induction o with
  | nil => exact .nil
  | cons h t ih => exact .cons (h.topd R) ih
theorem Tops.one {v : List V} {ds : List D} (t : Tops Z H G io v ds) {d : D} (e : ds = [d]) : ∃ u, v = [u] ∧ Top Z H G io u d := by
  subst e
  cases t with
  | cons h t =>
    cases t
    exact ⟨_, rfl, h⟩
theorem Tops.two {v : List V} {ds : List D} (t : Tops Z H G io v ds) {d e : D} (q : ds = [d, e]) : ∃ u w, v = [u, w] ∧ Top Z H G io u d ∧ Top Z H G io w e := by
  subst q
  cases t with
  | cons h t =>
    cases t with
    | cons h2 t =>
      cases t
      exact ⟨_, _, rfl, h, h2⟩
def NGo (Z : Zc) (H G : Hp) (io : List Addr) (S : Store) (de : Env) (σ : L2.St) (d : D) (Q : VK) : Prop := ∀ H' G' io' pl' p, Step H G io H' G' io' → Rel Z H' G' io' pl' S de σ → Own Z H' G' io' p d → pl' p = none → G' p = none → H p = none → isFresh d = true → Q (.ref p) H'
def PBok (Z : Zc) (b : BI) (r : List V → Hp → VK → Prop) : Prop := ∀ {H G : Hp} {io : List Addr} {pl : Plc} {S : Store} {de : Env} {σ : L2.St} {vs : List V} {ds : List D} {d : D} {Q : VK}, Rel Z H G io pl S de σ → Tops Z H G io vs ds → pBi b ds = some d → Go Z H G io S de σ d Q → r vs H Q
def PNok (Z : Zc) (b : BI) (r : List V → Hp → VK → Prop) : Prop := ∀ {H G : Hp} {io : List Addr} {pl : Plc} {S : Store} {de : Env} {σ : L2.St} {vs : List V} {ds : List D} {d : D} {Q : VK}, Rel Z H G io pl S de σ → Tops Z H G io vs ds → pBi b ds = some d → NGo Z H G io S de σ d Q → r vs H Q
theorem s_bi {b : BI} {a : IR} {e : Expr} {r : List V → Hp → VK → Prop} (hok : PBok Z b r) (h : PE X e (tCB r (tLO Z T C W a))) : PE X e (tE Z T C W (.bi b a)) := h.wk fun σ H Q q => by
  obtain ⟨G, io, pl, S, de, R, h⟩ := q
  refine ⟨G, io, pl, S, de, R, (Fin.bnd (show Fin Z H G io de σ W ((evl T C de a S).bnd _) _ from h)).imp fun ds S1 k H1 G1 io1 pl1 vs s1 R1 o => ?_⟩
  obtain ⟨d, e, k⟩ := k.lift
  exact hok R1 (o.tops R1) e (Go.of (S := S1) s1 k rfl)
theorem n_bi {b : BI} {a : IR} {e : Expr} {r : List V → Hp → VK → Prop} (hok : PNok Z b r) (h : PE X e (tCB r (tLO Z T C W a))) : PE X e (tN Z T C W (.bi b a)) := h.wk fun σ H Q q => by
  obtain ⟨G, io, pl, S, de, R, h⟩ := q
  refine ⟨G, io, pl, S, de, R, (Fin.bnd (show Fin Z H G io de σ W ((evl T C de a S).bnd _) _ from h)).imp fun ds S1 k H1 G1 io1 pl1 vs s1 R1 o => ?_⟩
  obtain ⟨d, e, k⟩ := k.lift
  exact hok R1 (o.tops R1) e fun H2 G2 io2 pl2 p s2 R2 ow n g h0 f => k H2 G2 io2 pl2 p (s1.trans s2) R2 ow n g (s1.none h0) f
theorem NGo.lst {ds : List D} {vs : List V} {Q : VK} (k : NGo Z H G io S de σ (.lst ds) Q) (R : Rel Z H G io pl S de σ) (r : Reps Z G io vs ds) {p : Addr} (hp : H p = none) : Q (.ref p) (upd H p (.lst vs)) := new_lst k .refl R r hp

/-- lists of ints, of bools -/
theorem reps_ints : ∀ {ds : List D} {ns : List Int} {vs : List V}, dInts ds = some ns → Reps Z G io vs ds → vs = ns.map V.int ∧ ds = ns.map D.int
  | [], ns, vs, e, r => by
    cases e
    cases r
    exact ⟨rfl, rfl⟩
  | d :: ds, ns, vs, e, r => by
    cases r with
    | cons h t =>
      cases h <;> first | (cases e; done) | skip
      rename_i i
      have e : (dInts ds).map (i :: ·) = some ns := e
      obtain ⟨l, hl, e⟩ := Option.map_eq_some_iff.mp e
      subst e
      obtain ⟨h1, h2⟩ := reps_ints hl t
      rw [h1, h2]
      exact ⟨rfl, rfl⟩
theorem reps_bls : ∀ {ds : List D} {ns : List Bool} {vs : List V}, dBls ds = some ns → Reps Z G io vs ds → vs = ns.map V.bl
  | [], ns, vs, e, r => by
    cases e
    cases r
    rfl
  | d :: ds, ns, vs, e, r => by
    cases r with
    | cons h t =>
      cases h <;> first | (cases e; done) | skip
      rename_i i
      have e : (dBls ds).map (i :: ·) = some ns := e
      obtain ⟨l, hl, e⟩ := Option.map_eq_some_iff.mp e
      subst e
      rw [reps_bls hl t]
      rfl

/-! ### each built-in -/
def rLenA (K : PySem.W.Frag) : List V → Hp → VK → Prop := fun xs H Q => (∃ x n, xs = [x] ∧ LenV K x H n ∧ Q (.int n) H) ∨ ∃ a kvs, xs = [V.ref a] ∧ H a = some (.dK kvs) ∧ Q (.int kvs.length) H
theorem call_lenA : CallR X (.builtin "len") (rLenA X.K) := call_len.or call_lenD
theorem ok_len : PBok Z .len (rLenA Z.K) := by
  intro H G io pl S de σ vs ds d Q R t e k
  match ds, t, e with
  | [.lst xs], t, e =>
    obtain ⟨v, rfl, tt⟩ := t.one rfl
    cases e
    cases tt with
    | lst h r => exact .inl ⟨_, _, rfl, .inl ⟨_, SqL.of h, r.length.symm⟩, k.here R (.int _)⟩
  | [.tup xs], t, e =>
    obtain ⟨v, rfl, tt⟩ := t.one rfl
    cases e
    cases tt with
    | tup h r => exact .inl ⟨_, _, rfl, .inr ⟨_, SqT.of h, r.length.symm⟩, k.here R (.int _)⟩
  | [.ro xs], t, e =>
    obtain ⟨v, rfl, tt⟩ := t.one rfl
    cases e
    cases tt with
    | ro h r =>
      rcases h with h | h
      · exact .inl ⟨_, _, rfl, .inl ⟨_, h, r.length.symm⟩, k.here R (.int _)⟩
      · exact .inl ⟨_, _, rfl, .inr ⟨_, h, r.length.symm⟩, k.here R (.int _)⟩
  | [.str s], t, e =>
    obtain ⟨v, rfl, tt⟩ := t.one rfl
    have e' : (if sizeOk s.length = true then some (D.int s.length) else none) = some d := e
    clear e
    split at e' <;> cases e'
    rename_i hz
    cases tt
    exact .inl ⟨_, _, rfl, ⟨of_decide_eq_true hz, rfl⟩, k.here R (.int _)⟩
theorem ok_all : PBok Z .all (rAll Z.K) := by
  intro H G io pl S de σ vs ds d Q R t e k
  match ds, t, e with
  | [.lst xs], t, e =>
    obtain ⟨v, rfl, tt⟩ := t.one rfl
    obtain ⟨bs, hb, e⟩ := Option.map_eq_some_iff.mp (show (dBls xs).map (fun bs => D.bl (bs.all id)) = some d from e)
    subst e
    cases tt with
    | lst h r =>
      rw [reps_bls hb r] at h
      exact ⟨_, bs, rfl, SqL.of h, k.here R (.bl _)⟩
theorem ok_any : PBok Z .any (rAny Z.K) := by
  intro H G io pl S de σ vs ds d Q R t e k
  match ds, t, e with
  | [.lst xs], t, e =>
    obtain ⟨v, rfl, tt⟩ := t.one rfl
    obtain ⟨bs, hb, e⟩ := Option.map_eq_some_iff.mp (show (dBls xs).map (fun bs => D.bl (bs.any id)) = some d from e)
    subst e
    cases tt with
    | lst h r =>
      rw [reps_bls hb r] at h
      exact ⟨_, bs, rfl, SqL.of h, k.here R (.bl _)⟩
def rListS : List V → Hp → VK → Prop := fun xs H Q => ∃ x : Str, xs = [.str x] ∧ x.length ≤ sizeLine ∧ ∀ l, H l = none → Q (.ref l) (upd H l (.lst (x.cps.toList.map fun c => .str ⟨#[c]⟩)))
theorem call_listS {X : Cx} (hc : X.calm = true) : CallR X (.type "list") rListS := by
  intro pins s σ H xs us Q I r h
  obtain ⟨x, rfl, hz, q⟩ := h
  obtain ⟨u, rfl, rx⟩ := vals1 r
  obtain ⟨t, rfl⟩ := (show ∃ t, u = Value.str x t from rx)
  refine call_list_str (I.ok.hd hc) x t (fun h' tk acc' c' kp e it => ?_) hz
  have rv : Vals (x.cps.toList.map fun c => V.str ⟨#[c]⟩) acc'.toList := by
    have hl : acc'.toList.length = x.cps.toList.length := by rw [Array.length_toList, it.1]; rfl
    have key : ∀ (cs : List Nat) (vs : List Value), vs.length = cs.length → (∀ (j : Nat) (v : Value), vs[j]? = some v → ∃ c u, cs[j]? = some c ∧ v = .str ⟨#[c]⟩ u) → Vals (cs.map fun c => V.str ⟨#[c]⟩) vs := by
      intro cs
      induction cs with
      | nil =>
        intro vs hl _
        cases vs with
        | nil => exact .nil
        | cons v vs => cases hl
      | cons c cs ih =>
        intro vs hl h
        cases vs with
        | nil => cases hl
        | cons v vs =>
          obtain ⟨c', u, hc', hv⟩ := h 0 v rfl
          cases hc'
          subst hv
          exact .cons ⟨u, rfl⟩ (ih vs (by simpa using hl) fun j w hw => h (j + 1) w (by simpa using hw))
    refine key _ _ hl fun j v hj => ?_
    obtain ⟨c, u, hc, hv⟩ := it.2 j v (by rw [← Array.getElem?_toList]; exact hj)
    exact ⟨c, u, by rw [Array.getElem?_toList]; exact hc, hv⟩
  have hz2 : (x.cps.toList.map fun c => V.str ⟨#[c]⟩).length ≤ sizeLine := by rw [List.length_map]; exact hz
  refine ⟨.ref s.heap.objs.size, _, I.laid (t' := tk) (o := .lst (x.cps.toList.map fun c => V.str ⟨#[c]⟩)) kp (Nat.le_refl _) ?_, rfl, q _ (I.hok.fresh (Nat.le_refl _))⟩
  exact ⟨hz2, acc'.toList, c', rv, by rw [Array.toArray_toList]; exact e⟩
def rListA (K : PySem.W.Frag) : List V → Hp → VK → Prop := fun xs H Q => (∃ p ys, xs = [.ref p] ∧ (SqL K H p ys ∨ SqT K H p ys) ∧ ∀ l, H l = none → Q (.ref l) (upd H l (.lst ys))) ∨ ((∃ (a : Addr) (kvs : List (Key × V)), xs = [.ref a] ∧ Rd H a (.dK kvs) ∧ ∀ p, H p = none → Q (.ref p) (upd H p (.lst (kvs.map fun kv => kV kv.1)))) ∨ rListS xs H Q)
theorem call_listA (hc : X.calm = true) : CallR X (.type "list") (rListA X.K) := call_list_of.or ((call_listD hc).or (call_listS hc))
theorem reps_keys' : ∀ kvs : List (Key × V), Reps Z G io (kvs.map fun kv => kV kv.1) (kvs.map fun p => keyD p.1)
  | [] => .nil
  | p :: kvs => .cons (by show Rep Z G io (kV p.1) (keyD p.1); cases p.1; exact .int _; exact .str _) (reps_keys' kvs)
theorem ok_list : PNok Z .list (rListA Z.K) := by
  intro H G io pl S de σ vs ds d Q R t e k
  match ds, t, e with
  | [.lst xs], t, e =>
    obtain ⟨v, rfl, tt⟩ := t.one rfl
    cases e
    cases tt with
    | lst h r => exact .inl ⟨_, _, rfl, .inl (SqL.of h), fun p hp => k.lst R r hp⟩
  | [.tup xs], t, e =>
    obtain ⟨v, rfl, tt⟩ := t.one rfl
    cases e
    cases tt with
    | tup h r => exact .inl ⟨_, _, rfl, .inr (SqT.of h), fun p hp => k.lst R r hp⟩
  | [.ro xs], t, e =>
    obtain ⟨v, rfl, tt⟩ := t.one rfl
    cases e
    cases tt with
    | ro h r => exact .inl ⟨_, _, rfl, h, fun p hp => k.lst R r hp⟩
  | [.dct ks ws], t, e =>
    obtain ⟨v, rfl, tt⟩ := t.one rfl
    have e : some (D.lst ks) = some d := e
    generalize em : D.dct ks ws = m at tt
    cases tt with
    | @dK a kvs ds h r =>
      cases em
      cases e
      exact .inr (.inl ⟨a, kvs, rfl, h.rd, fun p hp => k.lst R (reps_keys' kvs) hp⟩)
    | _ => cases em
  | [.str x], t, e =>
    obtain ⟨v, rfl, tt⟩ := t.one rfl
    have e : (if sizeOk x.length = true then some (D.lst (x.cps.toList.map fun c => .str ⟨#[c]⟩)) else none) = some d := e
    by_cases hz : sizeOk x.length = true
    rotate_left
    · rw [if_neg hz] at e; cases e
    rw [if_pos hz] at e
    cases e
    cases tt
    refine .inr (.inr ⟨x, rfl, of_decide_eq_true hz, fun p hp => k.lst R ?_ hp⟩)
    induction x.cps.toList with
    | nil => exact .nil
    | cons c cs ih => exact .cons (.str _) ih
def rTupA (K : PySem.W.Frag) : List V → Hp → VK → Prop := fun xs H Q => ∃ p ys, xs = [.ref p] ∧ ((SqL K H p ys ∧ ∀ l, H l = none → Q (.ref l) (upd H l (.tup ys))) ∨ (SqT K H p ys ∧ Q (.ref p) H))
theorem ok_tuple : PBok Z .tuple (rTupA Z.K) := by
  intro H G io pl S de σ vs ds d Q R t e k
  match ds, t, e with
  | [.lst xs], t, e =>
    obtain ⟨v, rfl, tt⟩ := t.one rfl
    cases e
    cases tt with
    | lst h r => exact ⟨_, _, rfl, .inl ⟨SqL.of h, fun p hp => k.tup R r hp⟩⟩
  | [.tup xs], t, e =>
    obtain ⟨v, rfl, tt⟩ := t.one rfl
    cases e
    cases tt with
    | tup h r =>
      obtain ⟨G', R', s', hg⟩ := R.seen h
      exact ⟨_, _, rfl, .inr ⟨SqT.of h, k _ _ _ _ _ s' R' (.tup hg (r.step s'))⟩⟩
theorem ok_abs : PBok Z .abs (fun xs H Q => ∃ i, xs = [.int i] ∧ Q (.int (if i < 0 then -i else i)) H) := by
  intro H G io pl S de σ vs ds d Q R t e k
  match ds, t, e with
  | [.int i], t, e =>
    obtain ⟨v, rfl, tt⟩ := t.one rfl
    cases e
    cases tt
    exact ⟨_, rfl, k.here R (.int _)⟩
theorem ok_int1 : PBok Z .int (fun xs H Q => (∃ i, xs = [.int i] ∧ Q (.int i) H) ∨ ∃ k, xs = [.bl k] ∧ Q (.int (if k then 1 else 0)) H) := by
  intro H G io pl S de σ vs ds d Q R t e k
  match ds, t, e with
  | [.int i], t, e =>
    obtain ⟨v, rfl, tt⟩ := t.one rfl
    cases e
    cases tt
    exact .inl ⟨_, rfl, k.here R (.int _)⟩
  | [.bl b], t, e =>
    obtain ⟨v, rfl, tt⟩ := t.one rfl
    cases e
    cases tt
    exact .inr ⟨_, rfl, k.here R (.int _)⟩
theorem ok_max2 : PBok Z .max2 (fun xs H Q => ∃ i j, xs = [.int i, .int j] ∧ Q (.int (if j > i then j else i)) H) := by
  intro H G io pl S de σ vs ds d Q R t e k
  match ds, t, e with
  | [.int i, .int j], t, e =>
    obtain ⟨v, w, rfl, tt, t2⟩ := t.two rfl
    cases e
    cases tt
    cases t2
    exact ⟨_, _, rfl, k.here R (.int _)⟩
theorem ok_min2 : PBok Z .min2 (fun xs H Q => ∃ i j, xs = [.int i, .int j] ∧ Q (.int (if j < i then j else i)) H) := by
  intro H G io pl S de σ vs ds d Q R t e k
  match ds, t, e with
  | [.int i, .int j], t, e =>
    obtain ⟨v, w, rfl, tt, t2⟩ := t.two rfl
    cases e
    cases tt
    cases t2
    exact ⟨_, _, rfl, k.here R (.int _)⟩
theorem maxL_ge : ∀ (r : List Int) (m : Int), m ≤ maxL m r ∧ (∀ y ∈ r, y ≤ maxL m r) ∧ (maxL m r = m ∨ maxL m r ∈ r)
  | [], m => ⟨Int.le_refl _, by simp, .inl rfl⟩
  | x :: r, m => by
    obtain ⟨h1, h2, h3⟩ := maxL_ge r (if x > m then x else m)
    have e : maxL m (x :: r) = maxL (if x > m then x else m) r := rfl
    rw [e]
    refine ⟨?_, fun y hy => ?_, ?_⟩
    · split at h1 <;> rename_i c <;> simp only [c, if_true, if_false] <;> omega
    · rcases List.mem_cons.mp hy with rfl | hy
      · split at h1 <;> rename_i c <;> simp only [c, if_true, if_false] <;> omega
      · exact h2 y hy
    · rcases h3 with h3 | h3
      · by_cases c : x > m
        · rw [if_pos c] at h3 ⊢
          exact .inr (by rw [h3]; exact List.mem_cons_self)
        · rw [if_neg c] at h3 ⊢
          exact .inl h3
      · exact .inr (List.mem_cons_of_mem _ h3)
theorem minL_le : ∀ (r : List Int) (m : Int), minL m r ≤ m ∧ (∀ y ∈ r, minL m r ≤ y) ∧ (minL m r = m ∨ minL m r ∈ r)
  | [], m => ⟨Int.le_refl _, by simp, .inl rfl⟩
  | x :: r, m => by
    obtain ⟨h1, h2, h3⟩ := minL_le r (if x < m then x else m)
    have e : minL m (x :: r) = minL (if x < m then x else m) r := rfl
    rw [e]
    refine ⟨?_, fun y hy => ?_, ?_⟩
    · split at h1 <;> rename_i c <;> simp only [c, if_true, if_false] <;> omega
    · rcases List.mem_cons.mp hy with rfl | hy
      · split at h1 <;> rename_i c <;> simp only [c, if_true, if_false] <;> omega
      · exact h2 y hy
    · rcases h3 with h3 | h3
      · by_cases c : x < m
        · rw [if_pos c] at h3 ⊢
          exact .inr (by rw [h3]; exact List.mem_cons_self)
        · rw [if_neg c] at h3 ⊢
          exact .inl h3
      · exact .inr (List.mem_cons_of_mem _ h3)
theorem ok_maxl : PBok Z .maxl (rMax Z.K) := by
  intro H G io pl S de σ vs ds d Q R t e k
  match ds, t, e with
  | [.lst xs], t, e =>
    obtain ⟨v, rfl, tt⟩ := t.one rfl
    have e : (match dInts xs with | some (x :: r) => some (D.int (maxL x r)) | _ => none) = some d := e
    cases hx : dInts xs with
    | none => rw [hx] at e; cases e
    | some ns =>
      rw [hx] at e
      cases ns with
      | nil => cases e
      | cons x r =>
        cases e
        cases tt with
        | lst h rr =>
          rw [(reps_ints hx rr).1] at h
          refine ⟨_, x :: r, rfl, SqL.of h, by simp, fun m hm hy => ?_⟩
          obtain ⟨h1, h2, h3⟩ := maxL_ge r x
          have : m = maxL x r := by
            have a : m ≤ maxL x r := (List.mem_cons.mp hm).elim (fun z => by rw [z]; exact h1) fun z => h2 m z
            have b : maxL x r ≤ m := hy _ (h3.elim (fun z => by rw [z]; exact List.mem_cons_self) fun z => List.mem_cons_of_mem _ z)
            omega
          rw [this]
          exact k.here R (.int _)
theorem ok_minl : PBok Z .minl (rMin Z.K) := by
  intro H G io pl S de σ vs ds d Q R t e k
  match ds, t, e with
  | [.lst xs], t, e =>
    obtain ⟨v, rfl, tt⟩ := t.one rfl
    have e : (match dInts xs with | some (x :: r) => some (D.int (minL x r)) | _ => none) = some d := e
    cases hx : dInts xs with
    | none => rw [hx] at e; cases e
    | some ns =>
      rw [hx] at e
      cases ns with
      | nil => cases e
      | cons x r =>
        cases e
        cases tt with
        | lst h rr =>
          rw [(reps_ints hx rr).1] at h
          refine ⟨_, x :: r, rfl, SqL.of h, by simp, fun m hm hy => ?_⟩
          obtain ⟨h1, h2, h3⟩ := minL_le r x
          have : m = minL x r := by
            have a : minL x r ≤ m := (List.mem_cons.mp hm).elim (fun z => by rw [z]; exact h1) fun z => h2 m z
            have b : m ≤ minL x r := hy _ (h3.elim (fun z => by rw [z]; exact List.mem_cons_self) fun z => List.mem_cons_of_mem _ z)
            omega
          rw [this]
          exact k.here R (.int _)

/-- sorted -/
theorem reps_zip {vs : List V} {ds : List D} (r : Reps Z G io vs ds) : (vs.zip (ds.map D.py)).map (·.1) = vs ∧ (vs.zip (ds.map D.py)).map (·.2) = ds.map D.py := by
  have hl := r.length
  exact ⟨List.map_fst_zip (by rw [List.length_map]; omega), List.map_snd_zip (by rw [List.length_map]; omega)⟩
theorem sort_reps {vs : List V} {ds : List D} (r : Reps Z G io vs ds) : Reps Z G io (((vs.zip (ds.map D.py)).mergeSort (PySem.W.dataLe false fun b => b.2)).map (·.1)) (ds.mergeSort leD) := by
  have hl := r.length
  -- one list of pairs below both
  let ps : List (V × D) := vs.zip ds
  have e1 : vs.zip (ds.map D.py) = ps.map fun p => (p.1, p.2.py) := by
    show _ = (vs.zip ds).map _
    rw [List.zip_map_right]
    rfl
  have e2 : ds = ps.map (·.2) := (List.map_snd_zip (by omega)).symm
  have hall : ∀ p ∈ ps, Rep Z G io p.1 p.2 := fun p hp => by
    obtain ⟨i, hi, e⟩ := List.mem_iff_getElem.mp hp
    have h1 : ps[i]? = some p := by rw [List.getElem?_eq_getElem hi, e]
    have h1 : (vs.zip ds)[i]? = some p := h1
    rw [List.getElem?_zip_eq_some] at h1
    obtain ⟨v, hv, q⟩ := r.get h1.2
    rw [h1.1] at hv
    cases hv
    exact q
  have s1 : (ps.map fun p => (p.1, p.2.py)).mergeSort (PySem.W.dataLe false fun b : V × PyData => b.2) = (ps.mergeSort fun a b => leD a.2 b.2).map fun p => (p.1, p.2.py) :=
    (List.map_mergeSort (f := fun p : V × D => (p.1, p.2.py)) (r := fun a b => leD a.2 b.2) (fun a _ b _ => rfl)).symm
  have s2 : (ps.map (·.2)).mergeSort leD = (ps.mergeSort fun a b => leD a.2 b.2).map (·.2) := (List.map_mergeSort (f := fun p : V × D => p.2) (r := fun a b => leD a.2 b.2) (fun a _ b _ => rfl)).symm
  rw [e1, s1]
  have s3 : ds.mergeSort leD = (ps.mergeSort fun a b => leD a.2 b.2).map (·.2) := by
    rw [← s2, ← e2]
  rw [s3, List.map_map]
  have hm : ∀ p ∈ ps.mergeSort (fun a b => leD a.2 b.2), Rep Z G io p.1 p.2 := fun p hp => hall p (List.mem_mergeSort.mp hp)
  generalize ps.mergeSort (fun a b => leD a.2 b.2) = qs at hm
  clear s1 s2 s3 hall
  induction qs with
  | nil => exact .nil
  | cons q qs ih => exact .cons (hm q List.mem_cons_self) (ih fun p hp => hm p (List.mem_cons_of_mem _ hp))
theorem leD_trans {a b c : D} (h1 : leD a b = true) (h2 : leD b c = true) : leD a c = true := (PySem.W.sortLe_total (PyProof.Rows.listOrd PyProof.Rows.itemOrd) false fun b : D => PySem.W.keyToks b.py).trans a b c h1 h2
theorem leD_total (a b : D) : (leD a b || leD b a) = true := by
  rw [Bool.or_eq_true]
  exact (PySem.W.sortLe_total (PyProof.Rows.listOrd PyProof.Rows.itemOrd) false fun b : D => PySem.W.keyToks b.py).total a b
theorem leD_str (a b : Str) : leD (.str a) (.str b) = !decide (b.cps.toList < a.cps.toList) := by
  show (!PyProof.Rows.lexLt PyProof.Rows.itemOrd [.inr b.cps.toList] [.inr a.cps.toList]) = _
  unfold PyProof.Rows.lexLt
  show (!(decide (b.cps.toList < a.cps.toList) || (!decide (a.cps.toList < b.cps.toList) && false))) = _
  rw [Bool.and_false, Bool.or_false]
theorem leD_int (a b : Int) : leD (.int a) (.int b) = decide (a ≤ b) := by
  show (!PyProof.Rows.lexLt PyProof.Rows.itemOrd [.inl b] [.inl a]) = _
  unfold PyProof.Rows.lexLt
  show (!(decide (b < a) || (!decide (a < b) && false))) = _
  rw [Bool.and_false, Bool.or_false, Bool.eq_iff_iff, Bool.not_eq_true', decide_eq_false_iff_not, decide_eq_true_eq]
  omega
theorem leD_str_anti {a b : Str} (h1 : leD (.str a) (.str b) = true) (h2 : leD (.str b) (.str a) = true) : a = b := by
  rw [leD_str, Bool.not_eq_true', decide_eq_false_iff_not] at h1 h2
  have : a.cps.toList = b.cps.toList := List.le_antisymm h1 h2
  cases a; cases b
  simpa [Array.ext_iff] using this
theorem sorted_str : ∀ {ys : List Str}, PyProof.Rows.sortedS ys = true → (ys.map D.str).Pairwise (fun a b => leD a b = true)
  | [], _ => List.Pairwise.nil
  | x :: r, h => by
    have key : ∀ (r : List Str) (p : Str), PyProof.Rows.risingS p r = true → (∀ y ∈ r, leD (.str p) (.str y) = true) ∧ (r.map D.str).Pairwise (fun a b => leD a b = true) := by
      intro r
      induction r with
      | nil => exact fun p _ => ⟨(fun _ h => by cases h), List.Pairwise.nil⟩
      | cons x r ih =>
        intro p h
        have h : (!PySem.Spec.ltCps x.cps.toList p.cps.toList && PyProof.Rows.risingS x r) = true := h
        rw [Bool.and_eq_true] at h
        have h1 : leD (.str p) (.str x) = true := by
          rw [leD_str, ← PyProof.Rows.ltCps_eq]
          exact h.1
        obtain ⟨i1, i2⟩ := ih x h.2
        refine ⟨fun y hy => ?_, ?_⟩
        · rcases List.mem_cons.mp hy with rfl | hy
          · exact h1
          · exact leD_trans h1 (i1 y hy)
        · rw [List.map_cons]
          refine List.Pairwise.cons (fun d hd => ?_) i2
          obtain ⟨y, hy, rfl⟩ := List.mem_map.mp hd
          exact i1 y hy
    obtain ⟨i1, i2⟩ := key r x h
    rw [List.map_cons]
    refine List.Pairwise.cons (fun d hd => ?_) i2
    obtain ⟨y, hy, rfl⟩ := List.mem_map.mp hd
    exact i1 y hy
theorem merge_str {ys ks : List Str} (h : ys.Perm ks) (hs : PyProof.Rows.sortedS ys = true) : (ks.map D.str).mergeSort leD = ys.map D.str := by
  refine List.Perm.eq_of_pairwise (le := fun a b => leD a b = true) (fun a b ha hb h1 h2 => ?_) (List.pairwise_mergeSort (le := leD) (fun a b c => leD_trans) leD_total _) (sorted_str hs) ((List.mergeSort_perm _ _).trans (h.symm.map _))
  obtain ⟨x, _, rfl⟩ := List.mem_map.mp (List.mem_mergeSort.mp ha)
  obtain ⟨y, _, rfl⟩ := List.mem_map.mp hb
  exact congrArg D.str (leD_str_anti h1 h2)
theorem merge_int {ys ks : List Int} (h : ys.Perm ks) (hs : ys.Pairwise (· ≤ ·)) : (ks.map D.int).mergeSort leD = ys.map D.int := by
  refine List.Perm.eq_of_pairwise (le := fun a b => leD a b = true) (fun a b ha hb h1 h2 => ?_) (List.pairwise_mergeSort (le := leD) (fun a b c => leD_trans) leD_total _) ?_ ((List.mergeSort_perm _ _).trans (h.symm.map _))
  · obtain ⟨x, _, rfl⟩ := List.mem_map.mp (List.mem_mergeSort.mp ha)
    obtain ⟨y, _, rfl⟩ := List.mem_map.mp hb
    rw [leD_int, decide_eq_true_eq] at h1 h2
    exact congrArg D.int (by omega)
  · rw [List.pairwise_map]
    exact hs.imp fun h => by rw [leD_int]; exact decide_eq_true h
/-- sorted(d) -/
def rSortK (K : PySem.W.Frag) : List V → Hp → VK → Prop := fun xs H Q => rSortD K xs H Q ∨ (∃ (a : Addr) (kvs : List (Key × V)) (ks : List Str), xs = [.ref a] ∧ Rd H a (.dK kvs) ∧ kvs.map (·.1) = ks.map Sum.inr ∧ ks.length < 64 ∧
    ∀ ys p, ys.Perm ks → PyProof.Rows.sortedS ys = true → H p = none → Q (.ref p) (upd H p (.lst (ys.map V.str)))) ∨ (∃ (a : Addr) (kvs : List (Key × V)) (ks : List Int), xs = [.ref a] ∧ Rd H a (.dK kvs) ∧ kvs.map (·.1) = ks.map Sum.inl ∧ ks.length < 64 ∧
    ∀ (ys : List Int) (p : Addr), ys.Perm ks → ys.Pairwise (· ≤ ·) → H p = none → Q (.ref p) (upd H p (.lst (ys.map V.int))))
theorem cr_sortK (hu : X.A.units + 80 < cLine) (hc : X.calm = true) : CallR X (.builtin "sorted") (rSortK X.K) := fun pn s σ H vs us Q J r h => by
  rcases h with h | h | h
  · exact cr_sortedD hu pn s σ H vs us Q J r h
  · exact call_sortedD hc pn s σ H vs us Q J r h
  · exact call_sortedDI hc pn s σ H vs us Q J r h
theorem strs_of : ∀ {kvs : List (Key × V)}, ((kvs.map fun p => keyD p.1).all D.isStr) = true → ∃ ks : List Str, kvs.map (·.1) = ks.map Sum.inr ∧ (kvs.map fun p => keyD p.1) = ks.map D.str
  | [], _ => ⟨[], rfl, rfl⟩
  | (k, v) :: r, h => by
    rw [List.map_cons, List.all_cons, Bool.and_eq_true] at h
    obtain ⟨ks, h1, h2⟩ := strs_of h.2
    cases k with
    | inl i => cases h.1
    | inr s => exact ⟨s :: ks, by rw [List.map_cons, List.map_cons, h1], by rw [List.map_cons, List.map_cons, h2]; rfl⟩
theorem ints_of : ∀ {kvs : List (Key × V)}, ((kvs.map fun p => keyD p.1).all D.isInt) = true → ∃ ks : List Int, kvs.map (·.1) = ks.map Sum.inl ∧ (kvs.map fun p => keyD p.1) = ks.map D.int
  | [], _ => ⟨[], rfl, rfl⟩
  | (k, v) :: r, h => by
    rw [List.map_cons, List.all_cons, Bool.and_eq_true] at h
    obtain ⟨ks, h1, h2⟩ := ints_of h.2
    cases k with
    | inr i => cases h.1
    | inl s => exact ⟨s :: ks, by rw [List.map_cons, List.map_cons, h1], by rw [List.map_cons, List.map_cons, h2]; rfl⟩
theorem reps_intsZ : ∀ ys : List Int, Reps Z G io (ys.map V.int) (ys.map D.int)
  | [] => .nil
  | y :: ys => .cons (.int y) (reps_intsZ ys)
theorem reps_strs : ∀ ys : List Str, Reps Z G io (ys.map V.str) (ys.map D.str)
  | [] => .nil
  | y :: ys => .cons (.str y) (reps_strs ys)
theorem ok_sorted : PNok Z .sorted (rSortK Z.K) := by
  intro H G io pl S de σ vs ds d Q R t e k
  match ds, t, e with
  | [.dct ks ws], t, e =>
    obtain ⟨v, rfl, tt⟩ := t.one rfl
    have e : (if (decide (ks.length < 64) && (ks.all D.isStr || ks.all D.isInt)) = true then some (D.lst (ks.mergeSort leD)) else none) = some d := e
    by_cases hz : (decide (ks.length < 64) && (ks.all D.isStr || ks.all D.isInt)) = true
    case neg => rw [if_neg hz] at e; cases e
    rw [if_pos hz] at e
    cases e
    rw [Bool.and_eq_true, decide_eq_true_eq, Bool.or_eq_true] at hz
    generalize em : D.dct ks ws = m at tt
    cases tt with
    | @dK a kvs ds h r =>
      cases em
      rcases hz.2 with h2 | h2
      · obtain ⟨ss, h3, h4⟩ := strs_of h2
        refine .inr (.inl ⟨a, kvs, ss, rfl, h.rd, h3, ?_, fun ys p hp hs hn => ?_⟩)
        · have := hz.1
          rw [h4, List.length_map] at this
          exact this
        · refine k.lst R ?_ hn
          rw [h4, merge_str hp hs]
          exact reps_strs ys
      · obtain ⟨ss, h3, h4⟩ := ints_of h2
        refine .inr (.inr ⟨a, kvs, ss, rfl, h.rd, h3, ?_, fun ys p hp hs hn => ?_⟩)
        · have := hz.1
          rw [h4, List.length_map] at this
          exact this
        · refine k.lst R ?_ hn
          rw [h4, merge_int hp hs]
          exact reps_intsZ ys
    | _ => cases em
  | [.lst xs], t, e =>
    obtain ⟨v, rfl, tt⟩ := t.one rfl
    have e' : (if sortable xs = true then some (D.lst (xs.mergeSort leD)) else none) = some d := e
    clear e
    split at e' <;> cases e'
    rename_i hz
    unfold sortable at hz
    simp only [Bool.and_eq_true, decide_eq_true_eq, List.all_eq_true] at hz
    obtain ⟨⟨⟨hsh, hlen⟩, hal⟩, hso⟩ := hz
    cases tt with
    | @lst a vs _ h r =>
      have hl := r.length
      obtain ⟨z1, z2⟩ := reps_zip r
      have hmem : ∀ b ∈ vs.zip (xs.map D.py), ∃ x, x ∈ xs ∧ b.2 = x.py ∧ Rep Z G io b.1 x := fun b hb => by
        obtain ⟨i, hi, e⟩ := List.mem_iff_getElem.mp hb
        have h1 : (vs.zip (xs.map D.py))[i]? = some b := by rw [List.getElem?_eq_getElem hi, e]
        rw [List.getElem?_zip_eq_some] at h1
        obtain ⟨h1, h2⟩ := h1
        rw [List.getElem?_map] at h2
        obtain ⟨x, hx, e2⟩ := Option.map_eq_some_iff.mp h2
        obtain ⟨v, hv, q⟩ := r.get hx
        rw [h1] at hv
        cases hv
        exact ⟨x, List.mem_of_getElem? hx, e2.symm, q⟩
      refine .inl ⟨_, vs.zip (xs.map D.py), rfl, by rw [z1]; exact SqL.of h, fun b hb => ?_, ?_, ?_, ?_, fun b hb => ?_, fun p hp => k.lst R (sort_reps r) hp⟩
      · obtain ⟨x, hx, e, q⟩ := hmem b hb
        rw [e]
        exact R.dp q (shaped_ok (hsh x hx)).1
      · rw [z2]
        intro x hx y hy
        obtain ⟨x', hx', rfl⟩ := List.mem_map.mp hx
        obtain ⟨y', hy', rfl⟩ := List.mem_map.mp hy
        exact hal x' hx' y' hy'
      · rw [z2]
        rcases Bool.or_eq_true_iff.mp hso with q | q
        · refine .inl fun x hx => ?_
          obtain ⟨x', hx', rfl⟩ := List.mem_map.mp hx
          have := List.all_eq_true.mp q x' hx'
          split at this
          · rename_i y l
            exact ⟨y.py, D.pys l, rfl⟩
          · cases this
        · refine .inr fun x hx => ?_
          obtain ⟨x', hx', rfl⟩ := List.mem_map.mp hx
          have h1 := List.all_eq_true.mp q x' hx'
          have h2 := (shaped_ok (hsh x' hx')).1
          cases x' <;> first | (cases h1; done) | (cases h2; done) | exact ⟨by simp [D.py], fun l => by simp [D.py]⟩
      · rw [List.length_zip, List.length_map]
        omega
      · obtain ⟨x, hx, e, q⟩ := hmem b hb
        rw [e]
        exact SeqAt.depth_of_shaped (shaped_ok (hsh x hx)).2
end
end Y
/-! Y8: what is walked; list comprehensions. -/
namespace Y
open PySem L2

def lenOk : HO → Prop
  | .lst xs => xs.length ≤ sizeLine
  | .tup xs => xs.length ≤ sizeLine
  | .dK kvs => kvs.length ≤ sizeLine
  | .dT kvs => kvs.length ≤ sizeLine
  | .frz _ u => lenOk u
  | _ => True
def Lens (H : Hp) : Prop := ∀ a u, H a = some u → lenOk u
theorem len_of {P : Program} {w : World} {H : Hp} {h : Heap} {a : Addr} : ∀ {u : HO}, ObjOk P w H h a u → lenOk u
  | .lst xs, x => x.1
  | .tup xs, x => x.1
  | .dK kvs, x => x.1
  | .dT kvs, x => x.1
  | .frz o u, x => len_of (u := u) x.2
  | .set _ _, _ => trivial
  | .ins _ _ _, _ => trivial
  | .own _, _ => trivial
  | .xd _, _ => trivial
  | .met _ _, _ => trivial
  | .rng _ _, _ => trivial
  | .tbl _, _ => trivial
  | .ext _, _ => trivial
theorem lens_of {X : Cx} {pn : List (Addr × Obj)} {σ : L2.St} {H : Hp} {s : Shared} (J : Inv X pn σ H s) : Lens H := fun a u h => len_of (J.hok a u h)

section
variable {Z : Zc} {T : Tb} {C : Calls} {W : WX} {X : Cx} {H G H' G' : Hp} {io io' : List Addr} {pl pl' : Plc} {S S' : Store} {de : Env} {σ : L2.St}
theorem _root_.L2.PE.len {e : Expr} {t : TE} (h : PE X e t) : PE X e fun σ H Q => t σ H fun v H1 => Lens H1 → Q v H1 := ⟨fun pn s σ H Q J q => thn (h.run pn s σ H _ J q) fun u s1 ⟨v, H1, J1, r, q1⟩ => ⟨v, H1, J1, r, q1 (lens_of J1)⟩⟩
theorem _root_.L2.PI.len {tg e : Expr} {t : TI} (h : PI X tg e t) : PI X tg e fun σ H R => t σ H fun J H1 => Lens H1 → R J H1 := ⟨fun pn s σ H R J q => thn (h.run pn s σ H _ J q) fun v s1 h1 => thn h1 fun itv s2 ⟨it, fp, tn, Jt, H1, e, J1, Tn, t0, f, q1⟩ => ⟨it, fp, tn, Jt, H1, e, J1, Tn, t0, f, q1 (lens_of J1)⟩⟩
/-- a dict that is only read from now on is locked -/
theorem _root_.L2.PE.lock {e : Expr} {t : TE} (h : PE X e t) : PE X e fun σ H Q => t σ H fun x H1 => Q x H1 ∨ ∃ d u, x = .ref d ∧ H1 d = some u ∧ Mut (some u) ∧ ∀ od, Q x (upd H1 d (.frz od u)) := ⟨fun pn s σ H Q J q => thn (h.run pn s σ H _ J q) fun u s1 ⟨v, H1, J1, r, q1⟩ => by
  rcases q1 with q1 | ⟨d, o, e, hd, mu, q1⟩
  · exact ⟨v, H1, J1, r, q1⟩
  · obtain ⟨od, J2⟩ := J1.lock hd mu
    exact ⟨v, _, J2, r, q1 od⟩⟩

inductive Yl (Z : Zc) (H G : Hp) (io : List Addr) (v : V) (H' : Hp) : D → Prop where
  | same {d : D} (e : H' = H) (r : Rep Z G io v d) : Yl Z H G io v H' d
  | new {p : Addr} {vs : List V} {ds : List D} (hv : v = .ref p) (hp : H p = none) (e : H' = upd H p (.tup vs)) (r : Reps Z G io vs ds) : Yl Z H G io v H' (.tup ds)
  | seen {q : Addr} {vs : List V} {ds : List D} (hv : v = .ref q) (hq : H q = some (.tup vs)) (e : H' = H) (r : Reps Z G io vs ds) : Yl Z H G io v H' (.tup ds)
def GH (G H : Hp) : Prop := ∀ a u, G a = some u → Held H a u
/-- what a walk needs of what was: the known stays, the locked stays -/
structure Kp (H G : Hp) (io : List Addr) (H' G' : Hp) (io' : List Addr) : Prop where
  gg : ∀ a u, G a = some u → G' a = some u
  kf : ∀ a o u, G a ≠ none → H a = some (.frz o u) → H' a = some (.frz o u)
  ex : ∀ (n : Nat) (a : Addr), io[n]? = some a → io'[n]? = some a
theorem Kp.refl : Kp H G io H G io := ⟨fun _ _ h => h, fun _ _ _ _ h => h, fun _ _ h => h⟩
theorem Rep.kp (s : Kp H G io H' G' io') {v : V} {d : D} (r : Rep Z G io v d) : Rep Z G' io' v d := r.mono s.gg s.ex
theorem Reps.kp (s : Kp H G io H' G' io') {v : List V} {d : List D} (r : Reps Z G io v d) : Reps Z G' io' v d := r.mono s.gg s.ex
structure Wkd (Z : Zc) (H0 G io) (J : It) (items : List D) : Prop where
  len : items.length ≤ sizeLine
  go : ∀ i H G1 io1, Kp H0 G io H G1 io1 → GH G1 H → i < items.length → J.go i H
  yld : ∀ i H G1 io1 v H' d, Kp H0 G io H G1 io1 → GH G1 H → items[i]? = some d → J.yld i H v H' → Yl Z H G1 io1 v H' d
  stop : ∀ H G1 io1, Kp H0 G io H G1 io1 → GH G1 H → J.stop items.length H
theorem Yl.rel (R : Rel Z H G io pl S de σ) {v : V} {d : D} (y : Yl Z H G io v H' d) : ∃ G', Rel Z H' G' io pl S de σ ∧ Step H G io H' G' io ∧ Rep Z G' io v d := by
  cases y with
  | same e r =>
    subst e
    exact ⟨G, R, .refl, r⟩
  | new hv hp e r =>
    subst hv e
    obtain ⟨R', s⟩ := R.new hp (.tup _)
    exact ⟨_, R', s, .tup upd_same (r.step s)⟩
  | seen hv hq e r =>
    subst hv e
    obtain ⟨G', R', s, hg⟩ := R.seen hq
    exact ⟨G', R', s, .tup hg (r.step s)⟩

def tI (Z : Zc) (T : Tb) (C : Calls) (W : WX) (ir : IR) : TI := fun σ H R => ∃ G io pl S de, Rel Z H G io pl S de σ ∧ Fin Z H G io de σ W (evi T C de ir S) fun items S' => ∀ H' G' io' pl' J, Step H G io H' G' io' → Rel Z H' G' io' pl' S' de σ → Wkd Z H' G' io' J items → R J H'

/-! ### lists, tuples, texts, ranges -/
theorem held_l {K : PySem.W.Frag} {a : Addr} {vs : List V} {H1 G1 : Hp} {io1 : List Addr} (g : SqL K G a vs) (s : Kp H G io H1 G1 io1) (gh : GH G1 H1) : SqL K H1 a vs := by
  rcases g with (g | ⟨o, g⟩) | g
  · exact .inl (.inl ((gh a _ (s.gg _ _ g)).same rfl))
  · exact .inl (.inr ⟨o, (gh a _ (s.gg _ _ g)).same rfl⟩)
  · exact .inr g
theorem held_t {K : PySem.W.Frag} {a : Addr} {vs : List V} {H1 G1 : Hp} {io1 : List Addr} (g : SqT K G a vs) (s : Kp H G io H1 G1 io1) (gh : GH G1 H1) : SqT K H1 a vs := by
  rcases g with (g | ⟨o, g⟩) | g
  · exact .inl (.inl ((gh a _ (s.gg _ _ g)).same rfl))
  · exact .inl (.inr ⟨o, (gh a _ (s.gg _ _ g)).same rfl⟩)
  · exact .inr g
theorem len_l {K : PySem.W.Frag} {a : Addr} {vs : List V} (hl : Lens H) (h : SqL K H a vs) : vs.length ≤ sizeLine := by
  rcases h with (h | ⟨o, h⟩) | ⟨o, its, n, _, _, _, _, hz, r⟩
  · exact hl _ _ h
  · exact hl _ _ h
  · rw [r.length, Array.length_toList]
    exact hz
theorem len_t {K : PySem.W.Frag} {a : Addr} {vs : List V} (hl : Lens H) (h : SqT K H a vs) : vs.length ≤ sizeLine := by
  rcases h with (h | ⟨o, h⟩) | ⟨o, its, n, _, _, _, hz, r⟩
  · exact hl _ _ h
  · exact hl _ _ h
  · rw [r.length, Array.length_toList]
    exact hz
theorem wk_l {K : PySem.W.Frag} (hl : Lens H) (gh : GH G H) {a : Addr} {vs : List V} {ds : List D} (g : SqL K G a vs) (r : Reps Z G io vs ds) : Wkd Z H G io (Itl K a) ds := by
  refine ⟨by rw [← r.length]; exact len_l hl (held_l g (Kp.refl (io := io)) gh), fun i H1 G1 io1 s gh hi => ?_, fun i H1 G1 io1 v H' d s gh hd y => ?_, fun H1 G1 io1 s gh => ?_⟩
  · rw [← r.length] at hi
    exact ⟨vs, vs[i], held_l g s gh, List.getElem?_eq_getElem hi⟩
  · obtain ⟨e, y⟩ := y
    obtain ⟨w, hw, q⟩ := r.get hd
    rw [y vs (held_l g s gh)] at hw
    cases hw
    exact .same e (q.kp s)
  · exact ⟨vs, held_l g s gh, by rw [r.length]; exact Nat.le_refl _⟩
theorem wk_t {K : PySem.W.Frag} (hl : Lens H) (gh : GH G H) {a : Addr} {vs : List V} {ds : List D} (g : SqT K G a vs) (r : Reps Z G io vs ds) : Wkd Z H G io (Itt K a) ds := by
  refine ⟨by rw [← r.length]; exact len_t hl (held_t g (Kp.refl (io := io)) gh), fun i H1 G1 io1 s gh hi => ?_, fun i H1 G1 io1 v H' d s gh hd y => ?_, fun H1 G1 io1 s gh => ?_⟩
  · rw [← r.length] at hi
    exact ⟨vs, vs[i], held_t g s gh, List.getElem?_eq_getElem hi⟩
  · obtain ⟨e, y⟩ := y
    obtain ⟨w, hw, q⟩ := r.get hd
    rw [y vs (held_t g s gh)] at hw
    cases hw
    exact .same e (q.kp s)
  · exact ⟨vs, held_t g s gh, by rw [r.length]; exact Nat.le_refl _⟩
theorem wk_r {lo : Int} {n : Nat} (hn : n ≤ sizeLine) : Wkd Z H G io (Itr lo n) ((List.range n).map fun i => .int (lo + (i : Nat))) := by
  refine ⟨by rw [List.length_map, List.length_range]; exact hn, fun i H1 G1 io1 s gh hi => ?_, fun i H1 G1 io1 v H' d s gh hd y => ?_, fun H1 G1 io1 s gh => ?_⟩
  · rw [List.length_map, List.length_range] at hi
    exact hi
  · obtain ⟨e, y⟩ := y
    rw [List.getElem?_map] at hd
    obtain ⟨j, hj, hd⟩ := Option.map_eq_some_iff.mp hd
    obtain ⟨hl, hj⟩ := List.getElem?_eq_some_iff.mp hj
    rw [List.getElem_range] at hj
    subst hj hd y
    exact .same e (.int _)
  · show n ≤ _
    rw [List.length_map, List.length_range]
    exact Nat.le_refl _
theorem wk_s {x : Str} (hz : x.length ≤ sizeLine) : Wkd Z H G io (Its x) (x.cps.toList.map fun c => .str ⟨#[c]⟩) := by
  have hz' : x.cps.size ≤ sizeLine := hz
  refine ⟨by rw [List.length_map, Array.length_toList]; exact hz', fun i H1 G1 io1 s gh hi => ?_, fun i H1 G1 io1 v H' d s gh hd y => ?_, fun H1 G1 io1 s gh => ?_⟩
  · rw [List.length_map, Array.length_toList] at hi
    exact hi
  · obtain ⟨e, c, hc, y⟩ := y
    rw [List.getElem?_map, Array.getElem?_toList, hc] at hd
    cases hd
    subst y
    exact .same e (.str _)
  · show x.cps.size ≤ _
    rw [List.length_map, Array.length_toList]
    exact Nat.le_refl _
/-- a dict that is locked: its keys, its pairs -/
theorem locked {a : Addr} {o : Obj} {u : HO} (h : H a = some (.frz o u)) (g : G a ≠ none) {H1 G1 : Hp} {io1 : List Addr} (s : Kp H G io H1 G1 io1) : H1 a = some (.frz o u) := s.kf a o u g h
theorem wk_K {a : Addr} {o : Obj} {kvs : List (Key × V)} (hl : Lens H) (h : H a = some (.frz o (.dK kvs))) (n : G a ≠ none) : Wkd Z H G io (Itk a o kvs) (kvs.map fun p => keyD p.1) := by
  refine ⟨by rw [List.length_map]; exact hl _ _ h, fun i H1 G1 io1 s gh hi => ?_, fun i H1 G1 io1 v H' d s gh hd y => ?_, fun H1 G1 io1 s gh => ?_⟩
  · rw [List.length_map] at hi
    exact ⟨locked h n s, hi⟩
  · obtain ⟨e, k, w, hk, y⟩ := y
    rw [List.getElem?_map, hk] at hd
    cases hd
    subst y
    refine .same e ?_
    show Rep Z G1 io1 (kV k) (keyD k)
    cases k
    · exact .int _
    · exact .str _
  · exact ⟨locked h n s, by rw [List.length_map]; exact Nat.le_refl _⟩
theorem rep_kV (Z : Zc) (G : Hp) (io : List Addr) (k : Key) : Rep Z G io (kV k) (keyD k) := by
  cases k
  · exact .int _
  · exact .str _
theorem reps_kV (Z : Zc) (G : Hp) (io : List Addr) : ∀ k : List Key, Reps Z G io (k.map kV) (k.map keyD)
  | [] => .nil
  | k :: ks => .cons (rep_kV Z G io k) (reps_kV Z G io ks)
theorem wk_T {a : Addr} {o : Obj} {kvs : List (List Key × V)} (hl : Lens H) (h : H a = some (.frz o (.dT kvs))) (n : G a ≠ none) : Wkd Z H G io (Itkt a o kvs) (kvs.map fun p => .tup (p.1.map keyD)) := by
  refine ⟨by rw [List.length_map]; exact hl _ _ h, fun i H1 G1 io1 s gh hi => ?_, fun i H1 G1 io1 v H' d s gh hd y => ?_, fun H1 G1 io1 s gh => ?_⟩
  · rw [List.length_map] at hi
    exact ⟨locked h n s, hi⟩
  · obtain ⟨e, k, w, q, hk, y, hq⟩ := y
    rw [List.getElem?_map, hk] at hd
    cases hd
    exact .seen y hq e (reps_kV Z _ _ k)
  · exact ⟨locked h n s, by rw [List.length_map]; exact Nat.le_refl _⟩
theorem wk_I {a : Addr} {o : Obj} {kvs : List (Key × V)} {ds : List D} (hl : Lens H) (h : H a = some (.frz o (.dK kvs))) (n : G a ≠ none) (r : Reps Z G io (kvs.map (·.2)) ds) : Wkd Z H G io (Iti a o kvs) (((kvs.map fun p => keyD p.1).zip ds).map fun p => .tup [p.1, p.2]) := by
  have hlen : (((kvs.map fun p => keyD p.1).zip ds).map fun p => D.tup [p.1, p.2]).length = kvs.length := by
    have := r.length
    rw [List.length_map] at this
    rw [List.length_map, List.length_zip, List.length_map]
    omega
  refine ⟨by rw [hlen]; exact hl _ _ h, fun i H1 G1 io1 s gh hi => ?_, fun i H1 G1 io1 v H' d s gh hd y => ?_, fun H1 G1 io1 s gh => ?_⟩
  · rw [hlen] at hi
    exact ⟨locked h n s, hi⟩
  · obtain ⟨p, k, w, hk, y, hp, e⟩ := y
    rw [List.getElem?_map] at hd
    obtain ⟨q, hq, hd⟩ := Option.map_eq_some_iff.mp hd
    rw [List.getElem?_zip_eq_some, List.getElem?_map, hk] at hq
    obtain ⟨h1, h2⟩ := hq
    obtain ⟨q1, q2⟩ := q
    have h1 : keyD k = q1 := Option.some.inj h1
    obtain ⟨w', hw, r'⟩ := r.get h2
    rw [List.getElem?_map, hk] at hw
    cases hw
    subst hd h1
    exact .new y hp e (.cons (rep_kV Z _ _ k) (.cons (r'.kp s) .nil))
  · exact ⟨locked h n s, by rw [hlen]; exact Nat.le_refl _⟩

theorem lens_lock (hl : Lens H) {a : Addr} {u : HO} (h : H a = some u) (od : Obj) : Lens (upd H a (.frz od u)) := fun b o hb => by
  by_cases e : b = a
  · rw [e, upd_same] at hb
    cases hb
    exact hl a u h
  · rw [upd_ne e] at hb
    exact hl b o hb
/-- a known dict is no box -/
theorem Rel.nbox (R : Rel Z H G io pl S de σ) {a : Addr} {u : HO} (g : G a = some u) : a ∉ io := fun hm => by
  obtain ⟨n, hl, e⟩ := List.mem_iff_getElem.mp hm
  have h2 : io[n]? = some a := by rw [List.getElem?_eq_getElem hl, e]
  obtain ⟨b, hb, hp, _⟩ := R.boxes n (S[n]'(by rw [← R.bl]; exact hl)) (List.getElem?_eq_getElem _)
  rw [h2] at hb
  cases hb
  rw [(R.plg a (by rw [hp]; exact Option.some_ne_none _)).1] at g
  cases g
theorem ne_some {α : Type} {o : Option α} {u : α} (h : o = some u) : o ≠ none := by rw [h]; exact Option.some_ne_none _
theorem Kp.of (R : Rel Z H G io pl S de σ) (s : Step H G io H' G' io') : Kp H G io H' G' io' := by
  refine ⟨s.gg, fun a o u g h => ?_, fun n a h => ext_get s h⟩
  obtain ⟨w, hw⟩ := Option.ne_none_iff_exists'.mp g
  rcases s.fr a _ h (R.nbox hw) (fun ps e => by cases e) with q | ⟨i, _⟩
  · exact q
  · cases i
theorem Kp.trans (a : Kp H G io H' G' io') {H2 G2 : Hp} {io2 : List Addr} (b : Kp H' G' io' H2 G2 io2) : Kp H G io H2 G2 io2 := ⟨fun x u h => b.gg _ _ (a.gg _ _ h), fun x o u g h => b.kf x o u (by
  obtain ⟨w, hw⟩ := Option.ne_none_iff_exists'.mp g
  rw [a.gg _ _ hw]
  exact Option.some_ne_none _) (a.kf x o u g h), fun n x h => b.ex n x (a.ex n x h)⟩
/-- a known dict is locked -/
theorem Rel.lock (R : Rel Z H G io pl S de σ) {a : Addr} {u : HO} (g : G a = some u) (h : H a = some u) (i : isD u = true) (od : Obj) : Rel Z (upd H a (.frz od u)) G io pl S de σ ∧ Step H G io (upd H a (.frz od u)) G io := by
  have pn : pl a = none := by
    cases q : pl a with
    | none => rfl
    | some p => rw [(R.plg a (by rw [q]; exact Option.some_ne_none _)).1] at g; cases g
  have hk : ∀ b o, b ≠ a → H b = some o → upd H a (.frz od u) b = some o := fun b o n hb => by rw [upd_ne n]; exact hb
  have ne : ∀ b p, pl b = some p → b ≠ a := fun b p hb e => by rw [e, pn] at hb; cases hb
  have no : ∀ b x, H b = some (.own x) → b ≠ a := fun b x hb e => by
    rw [e, h] at hb
    cases hb
    cases i
  refine ⟨⟨fun b o hb => ?_, R.len, fun k e he => ?_, R.bl, fun n d hd => ?_, fun b hb => ?_⟩, ⟨fun _ _ h => h, fun b h => .inl h, fun b o hb _ _ => ?_, ⟨[], by simp, by simp⟩, fun b hb => ?_, fun b xs hb => ?_⟩⟩
  · by_cases e : b = a
    · subst e
      rw [g] at hb
      cases hb
      exact .inr ⟨i, od, upd_same⟩
    · rcases R.gh b o hb with q | ⟨j, o', q⟩
      · exact .inl (hk _ _ e q)
      · exact .inr ⟨j, o', hk _ _ e q⟩
  · obtain ⟨v, hv, r⟩ := R.slots k e he
    exact ⟨v, hv, r.mono (fun _ _ h => h) (fun _ _ h => h) (fun _ _ _ h => h) (fun b p o hp _ hb => hk b o (ne b p hp) hb) fun b dx hb => ⟨hk _ _ (no _ _ hb) hb, fun g => g⟩⟩
  · obtain ⟨b, hb, hp, ow⟩ := R.boxes n d hd
    exact ⟨b, hb, hp, ow.mono (fun _ _ h => h) (fun _ _ h => h) (fun o ho => hk b o (ne b _ hp) ho) fun c dx fs _ hb => ⟨hk _ _ (no _ _ hb) hb, fun g => g⟩⟩
  · obtain ⟨p, hp⟩ := Option.ne_none_iff_exists'.mp hb
    obtain ⟨h1, h2, h3⟩ := R.plg b hb
    rw [upd_ne (ne b p hp)]
    exact ⟨h1, h2, h3⟩
  · by_cases e : b = a
    · subst e
      rw [h] at hb
      cases hb
      exact .inr ⟨i, g, od, upd_same⟩
    · exact .inl (hk _ _ e hb)
  · by_cases e : b = a
    · subst e
      rw [upd_same]
      exact Option.some_ne_none _
    · rw [upd_ne e]
      exact hb
  · by_cases e : b = a
    · subst e
      rw [upd_same] at hb
      cases hb
    · rw [upd_ne e] at hb
      exact .inl hb

section
variable {tg e : Expr} {a : IR}
def iSeq (K : PySem.W.Frag) (tl : TE) : TI := fun σ H R => tl σ H fun x H1 => ∃ a, x = .ref a ∧ (((∃ xs, SqL K H1 a xs) ∧ R (Itl K a) H1) ∨ ((∃ xs, SqT K H1 a xs) ∧ R (Itt K a) H1))
theorem pi_seq {tl : TE} (he : PE X e tl) : PI X tg e (iSeq X.K tl) := by
  refine ⟨fun pn s σ H Rk J q => ?_⟩
  refine thn (he.run pn s σ H _ J q) fun u s1 ⟨x, H1, J1, rx, d, ex, q1⟩ => ?_
  subst ex
  obtain rfl : u = Value.ref d := rx
  have fp : ∀ b ∈ [s1.heap.objs.size], FpOk X pn H1 b := fun b hb => by
    obtain rfl : b = s1.heap.objs.size := by simpa using hb
    exact J1.fpOk (Nat.le_refl _) (J1.hok.fresh (Nat.le_refl _))
  rcases q1 with ⟨⟨xs, hq⟩, q1⟩ | ⟨⟨xs, hq⟩, q1⟩
  · obtain ⟨its, rv, p, hz⟩ := J1.list hq
    exact wpAny_pyIter_list p.isList ⟨s1.heap.objs.size, [s1.heap.objs.size], _, _, H1, rfl, J1.kept (t' := s1.toks) fun b o e => Heap.get?_push_of_some _ e, turn_list d _, ⟨_, Heap.get?_push_size _ rfl, rfl, rfl⟩, fp, q1⟩
  · obtain ⟨its, rv, p, hz⟩ := J1.tuple hq
    exact wpAny_pyIter_tuple (show s1.heap.IsTuple d its.toArray from p) ⟨s1.heap.objs.size, [s1.heap.objs.size], _, _, H1, rfl, J1.kept (t' := s1.toks) fun b o e => Heap.get?_push_of_some _ e, turn_tuple d _, ⟨_, Heap.get?_push_size _ rfl, rfl, rfl⟩, fp, q1⟩
theorem s_iv (hK : X.K = Z.K) (he : PE X e (tE Z T C W a)) : PI X tg e (tI Z T C W (.iv a)) := ⟨fun pn s σ H Rk J q => by
  obtain ⟨G, io, pl, S, de, R, h⟩ := q
  have h := Fin.bnd (show Fin Z H G io de σ W ((ev T C de a S).bnd _) _ from h)
  generalize hr : ev T C de a S = r at h
  have go : ∀ {Q : VK}, Fin Z H G io de σ W r (fun d S' => ∀ H' G' io' pl' v, Step H G io H' G' io' → Rel Z H' G' io' pl' S' de σ → Rep Z G' io' v d → Q v H') → tE Z T C W a σ H Q := fun k => ⟨G, io, pl, S, de, R, by rw [hr]; exact k⟩
  cases r with
  | bad => exact h.elim
  | exc c fs S1 => exact (pi_list he).run pn s σ H Rk J (go (Q := fun _ _ => _) h)
  | ok x S1 =>
    cases x <;> first | exact (h : False).elim | skip
    · rename_i z
      refine (pi_str he).run pn s σ H Rk J (go fun H1 G1 io1 pl1 v s1 R1 r1 => ?_)
      have h : Fin Z H G io de σ W ((if sizeOk z.length = true then ret (z.cps.toList.map fun c => D.str ⟨#[c]⟩) else fail : M (List D)) S1) _ := h
      split at h
      · rename_i hz
        cases r1
        exact ⟨_, rfl, h H1 G1 io1 pl1 _ s1 R1 (wk_s (of_decide_eq_true hz))⟩
      · exact h.elim
    · refine (pi_seq he.len).run pn s σ H Rk J (go fun H1 G1 io1 pl1 v s1 R1 r1 hl => ?_)
      cases r1 with
      | tup g r => exact ⟨_, rfl, .inr ⟨⟨_, SqT.of ((R1.gh _ _ g).same rfl)⟩, h H1 G1 io1 pl1 _ s1 R1 (wk_t hl R1.gh (SqT.of g) r)⟩⟩
    · refine (pi_seq he.len).run pn s σ H Rk J (go fun H1 G1 io1 pl1 v s1 R1 r1 hl => ?_)
      cases r1 with
      | lst g r => exact ⟨_, rfl, .inl ⟨⟨_, SqL.of ((R1.gh _ _ g).same rfl)⟩, h H1 G1 io1 pl1 _ s1 R1 (wk_l hl R1.gh (SqL.of g) r)⟩⟩
    · refine (pi_seq he.len).run pn s σ H Rk J (go fun H1 G1 io1 pl1 v s1 R1 r1 hl => ?_)
      cases r1 with
      | ro g r =>
        rw [← hK] at g
        rcases g with g | g
        · exact ⟨_, rfl, .inl ⟨⟨_, held_l g (Kp.refl (io := io1)) R1.gh⟩, h H1 G1 io1 pl1 _ s1 R1 (wk_l hl R1.gh g r)⟩⟩
        · exact ⟨_, rfl, .inr ⟨⟨_, held_t g (Kp.refl (io := io1)) R1.gh⟩, h H1 G1 io1 pl1 _ s1 R1 (wk_t hl R1.gh g r)⟩⟩
    · refine (pi_keys he.len.lock).run pn s σ H Rk J (go fun H1 G1 io1 pl1 v s1 R1 r1 hl => ?_)
      cases r1 with
      | dK g r =>
        have nb := ne_some g
        rcases R1.gh _ _ g with q | ⟨_, o, q⟩
        · refine .inr ⟨_, _, rfl, q, trivial, fun od => ?_⟩
          obtain ⟨R2, s2⟩ := R1.lock g q rfl od
          exact ⟨_, od, rfl, .inl ⟨_, upd_same, h _ G1 io1 pl1 _ (s1.trans s2) R2 (wk_K (lens_lock hl q od) upd_same nb)⟩⟩
        · exact .inl ⟨_, o, rfl, .inl ⟨_, q, h H1 G1 io1 pl1 _ s1 R1 (wk_K hl q nb)⟩⟩
    · refine (pi_keys he.len.lock).run pn s σ H Rk J (go fun H1 G1 io1 pl1 v s1 R1 r1 hl => ?_)
      cases r1 with
      | dT g r =>
        have nb := ne_some g
        rcases R1.gh _ _ g with q | ⟨_, o, q⟩
        · refine .inr ⟨_, _, rfl, q, trivial, fun od => ?_⟩
          obtain ⟨R2, s2⟩ := R1.lock g q rfl od
          exact ⟨_, od, rfl, .inr ⟨_, upd_same, h _ G1 io1 pl1 _ (s1.trans s2) R2 (wk_T (lens_lock hl q od) upd_same nb)⟩⟩
        · exact .inl ⟨_, o, rfl, .inr ⟨_, q, h H1 G1 io1 pl1 _ s1 R1 (wk_T hl q nb)⟩⟩⟩
theorem s_ir1 {p pos : Pos} (hg : Gl X "range") (hm : X.mg "range" = none) (ha : PE X e (tE Z T C W a)) (hs : starEach [e] X.env = [(false, eval e X.env)]) : PI X tg (.Call (.Name "range" p) [e] [] pos) (tI Z T C W (.ir1 a)) := ⟨fun pn s σ H Rk J q => (pi_range1 hg hm (pa_cons ha pa_nil hs) hs).run pn s σ H Rk J (by
  obtain ⟨G, io, pl, S, de, R, h⟩ := q
  refine ⟨G, io, pl, S, de, R, (Fin.bnd (show Fin Z H G io de σ W ((ev T C de a S).bnd _) _ from h)).imp fun x S1 k H1 G1 io1 pl1 v s1 R1 r => ?_⟩
  cases r <;> first | exact (k : False).elim | skip
  rename_i n
  have k : Fin Z H G io de σ W ((if n ≤ 16777216 ∧ -(2 ^ 62) ≤ n then ret ((List.range n.toNat).map fun i => D.int (i : Nat)) else fail : M (List D)) S1) _ := k
  split at k
  · rename_i hz
    have e : ((List.range n.toNat).map fun i => D.int (i : Nat)) = (List.range n.toNat).map fun i => D.int (0 + (i : Nat)) := by simp
    rw [e] at k
    exact ⟨n, rfl, hz.2, by omega, k H1 G1 io1 pl1 _ s1 R1 (wk_r (by rw [PySem.sizeLine_eq]; omega))⟩
  · exact k.elim)⟩
theorem s_ir2 {b : IR} {f : Expr} {p pos : Pos} (hg : Gl X "range") (hm : X.mg "range" = none) (ha : PE X e (tE Z T C W a)) (hb : PE X f (tE Z T C W b)) (hs : starEach [e, f] X.env = [(false, eval e X.env), (false, eval f X.env)]) (hs2 : starEach [f] X.env = [(false, eval f X.env)]) : PI X tg (.Call (.Name "range" p) [e, f] [] pos) (tI Z T C W (.ir2 a b)) := ⟨fun pn s σ H Rk J q => (pi_range2 hg hm (pa_cons ha (pa_cons hb pa_nil hs2) (by rw [hs, hs2])) hs hs2).run pn s σ H Rk J (by
  obtain ⟨G, io, pl, S, de, R, h⟩ := q
  refine ⟨G, io, pl, S, de, R, (Fin.bnd (show Fin Z H G io de σ W ((ev T C de a S).bnd _) _ from h)).imp fun x S1 k H1 G1 io1 pl1 v s1 R1 r => ?_⟩
  refine ⟨G1, io1, pl1, S1, de, R1, (Fin.bnd (show Fin Z H G io de σ W ((ev T C de b S1).bnd _) _ from k)).at s1 fun y S2 k2 H2 G2 io2 pl2 u s2 R2 r2 => ?_⟩
  cases r <;> first | exact (k2 : False).elim | skip
  cases r2 <;> first | exact (k2 : False).elim | skip
  rename_i m n
  have k2 : Fin Z H G io de σ W ((if n ≤ 8388608 ∧ -8388608 ≤ n ∧ m ≤ 8388608 ∧ -8388608 ≤ m then ret ((List.range (n - m).toNat).map fun i => D.int (m + (i : Nat))) else fail : M (List D)) S2) _ := k2
  split at k2
  · rename_i hz
    exact ⟨m, n, rfl, ⟨by omega, by omega, by omega, by omega⟩, k2 H2 G2 io2 pl2 _ (s1.trans s2) R2 (wk_r (by rw [PySem.sizeLine_eq]; omega))⟩
  · exact k2.elim)⟩
theorem s_items {elts : List Expr} {kk : Nat} {tpos apos cpos : Pos} (he : PE X e (tE Z T C W a)) (hbase : attributeBase e "items" X.env (eval e X.env) = eval e X.env) (hline : (apos.endLine == cpos.line) = true) : PI X (.Tuple elts kk tpos) (.Call (.Attribute e "items" apos) [] [] cpos) (tI Z T C W (.items a)) := ⟨fun pn s σ H Rk J q => (pi_items he.len.lock hbase hline).run pn s σ H Rk J (by
  obtain ⟨G, io, pl, S, de, R, h⟩ := q
  refine ⟨G, io, pl, S, de, R, (Fin.bnd (show Fin Z H G io de σ W ((ev T C de a S).bnd _) _ from h)).imp fun x S1 k H1 G1 io1 pl1 v s1 R1 r hl => ?_⟩
  cases r <;> first | exact (k : False).elim | skip
  · rename_i kvs ws g r
    have k : Fin Z H G io de σ W ((ret (((kvs.map fun p => keyD p.1).zip ws).map fun p => D.tup [p.1, p.2]) : M (List D)) S1) _ := k
    have nb := ne_some g
    rcases R1.gh _ _ g with q | ⟨_, o, q⟩
    · refine .inr ⟨_, _, rfl, q, trivial, fun od => ?_⟩
      obtain ⟨R2, s2⟩ := R1.lock g q rfl od
      exact ⟨_, od, _, rfl, upd_same, k _ G1 io1 pl1 _ (s1.trans s2) R2 (wk_I (lens_lock hl q od) upd_same nb r)⟩
    · exact .inl ⟨_, o, _, rfl, q, k H1 G1 io1 pl1 _ s1 R1 (wk_I hl q nb r)⟩)⟩
end
end
end Y
/-! Y17: enumerate over a tuple. -/
namespace Y
open PySem PyProof.Rows L2
section
variable {prog : Program} {w : World} {A : Around} {E : Value → Shared → Prop} {s : Shared}
set_option maxHeartbeats 2000000 in
theorem meets_en1 {v : Value} {o : Obj} {P : Heap → Prop} (bg : Begins v o P) :
    Meets (Builtin.«enumerate.__new__» ⟨[.type "enumerate", v], []⟩) (fun _ R s => P s.heap ∧
      R (.ok (.ret (.ref (s.heap.push o).objs.size))) { s with heap := (s.heap.push o).push { cls := .type "enumerate", data := .fields #[.none, .bool false, .ref s.heap.objs.size, rawInt 0, .none, .none] } }) :=
  .of_wp fun prog w A R s hyp => by
    obtain ⟨hp, g, d, tk, os⟩ := s
    obtain ⟨hP, hR⟩ := hyp
    have sb := sub_enumerate
    have walk1 : ∀ {A' : Around} {E : Value → Shared → Prop} {Q : Value → Shared → Prop}, Q (.ref hp.objs.size) ⟨hp.push o, g, d, tk, os⟩ → wpAny (model prog w) A' (pyIter v) Q E ⟨hp, g, d, tk, os⟩ := fun q =>
      bg.iter prog w _ _ ⟨hp, g, d, tk, os⟩ _ hP q
    wp_walk using walk1
    refine wpAny_stack_any fun stk => wpAny_pure ?_
    split
    · rename_i c1 _ _ _ _ _
      cases (c1 == Value.type "enumerate")
      · wp_walk using walk1
        exact ⟨_, rfl, hR⟩
      · wp_walk using walk1
        exact ⟨_, rfl, hR⟩
    · wp_walk using walk1
      exact ⟨_, rfl, hR⟩
theorem call_en1 {v : Value} {o : Obj} {P : Heap → Prop} {Q : Value → Shared → Prop} (bg : Begins v o P) (hP : P s.heap)
    (k : ∀ h', IsEnum h' (s.heap.objs.size + 1) s.heap.objs.size 0 .none → h'.get? s.heap.objs.size = some o → (∀ b u, s.heap.get? b = some u → h'.get? b = some u) → Q (.ref (s.heap.objs.size + 1)) { s with heap := h' }) :
    wpAny (model prog w) A (call (.type "enumerate") [v]) Q E s := by
  refine callType_new F.called_enumerate (by decide) (F.typeCall_enumerate_1 _) (F.newCall_enumerate_1 _) (fun obj => F.args_object_init_2 obj _) F.entry_enumerate_new (meets_en1 bg) ⟨hP, ?_⟩
  have size1 : (s.heap.push o).objs.size = s.heap.objs.size + 1 := Heap.size_push ..
  show _ ∧ _
  rw [size1]
  have en : IsEnum ((s.heap.push o).push { cls := .type "enumerate", data := .fields #[.none, .bool false, .ref s.heap.objs.size, rawInt 0, .none, .none] }) (s.heap.objs.size + 1) s.heap.objs.size 0 .none := by
    have z := Heap.get?_push_size (s.heap.push o) (o := { cls := .type "enumerate", data := .fields #[.none, .bool false, .ref s.heap.objs.size, rawInt 0, .none, .none] }) rfl
    rw [size1] at z
    exact z
  exact ⟨⟨_, en, rfl⟩, k _ en (Heap.get?_push_of_some _ (Heap.get?_push_size _ bg.free)) fun b u x => Heap.get?_push_of_some _ (Heap.get?_push_of_some _ x)⟩
end
def IteT (K : PySem.W.Frag) (a : Addr) : It :=
  ⟨fun i H => ∃ (xs : List V) (x : V), SqT K H a xs ∧ xs[i]? = some x, fun i H v H' => ∃ T x, v = .ref T ∧ H T = none ∧ H' = upd H T (.tup [.int (i : Nat), x]) ∧ ∀ xs, SqT K H a xs → xs[i]? = some x, fun i H => ∃ xs : List V, SqT K H a xs ∧ xs.length ≤ i⟩
theorem apart_en {h : Heap} {a e it : Addr} {c : Int} {i : Nat} {old : Value} {its : Array Value} (he : IsEnum h e it c old) (hi : h.IsTupleIter it a i) (ht : h.IsTuple a its) : a ≠ it ∧ e ≠ a := by
  obtain ⟨o, ho, hc, hd⟩ := hi
  obtain ⟨u, hu, hcu, n, hdu⟩ := ht
  refine ⟨fun z => ?_, fun z => ?_⟩
  · rw [z, ho] at hu
    cases hu
    rw [hd] at hdu
    cases hdu
  · have he : h.get? e = some _ := he
    rw [z, hu] at he
    cases he
    cases hdu
theorem end_enT {prog : Program} {w : World} {A : Around} {E : Value → Shared → Prop} {s : Shared} {e it a : Addr} {i : Nat} {c : Int} {old : Value} {items : Array Value} {Q : Option Value → Shared → Prop} (hh : A.in1.handled = none) (he : IsEnum s.heap e it c old) (hit : s.heap.IsTupleIter it a i) (ht : s.heap.IsTuple a items) (hx : items[i]? = none)
    (k : ∀ h', Heap.ExtBut it s.heap h' → Q none { s with heap := h' }) : wpAny (model prog w) A (pyNext (.ref e)) Q E s := by
  have ty : s.TypeIs (.ref e) "enumerate" := ⟨_, he, rfl⟩
  unfold pyNext
  have body : wpAny (model prog w) A.in1 (Builtin.«enumerate.__next__» ⟨[.ref e], []⟩) (fun _ _ => False) (fun x s' => (∃ o, s'.heap.get? (match x with | .ref b => b | _ => 0) = some o ∧ o.cls = .type "StopIteration" ∧ ∃ b, x = .ref b) ∧ ∃ h', Heap.ExtBut it s.heap h' ∧ s' = { s with heap := h' }) s := by
    show wpAny _ _ (field (.ref e) 2 >>= _) _ _ _
    refine wpAny_bind (wpAny_field he rfl (x := .ref it) rfl ?_)
    refine wpAny_bind (wpAny_nextOf_tuple_end hh hit ht hx fun h' x he' hx' => ?_)
    obtain ⟨o, ho, hc⟩ := hx'
    exact ⟨⟨o, ho, hc, _, rfl⟩, h', he', rfl⟩
  refine wpAny_bind (wpAny_attempt (wpAny_callSpecial?_slot (name := Str.ofString "__next__") ty F.slot_enumerate_next
    (wpAny_call_entry F.slot_enumerate_next ty F.entry_enumerate_next (wpAny_mono body (fun _ _ z => z.elim) fun x s' z => ?_) (F.args_enumerate_next_1 _))))
  obtain ⟨⟨o, ho, hc, b, rfl⟩, h', he', rfl⟩ := z
  refine wpAny_bind (wpAny_isInstance (T := "StopIteration") (b := true) ⟨o, ho, hc⟩ isSubtype_stop ?_)
  exact wpAny_pure (k _ he')
theorem turn_enT {P : Program} {w : World} {K : PySem.W.Frag} {elts : List Expr} {kk : Nat} {tpos : Pos} (a e it : Addr) :
    Turn P w K (.Tuple elts kk tpos) (IteT K a) [e, it] e (fun i h => (∃ old, IsEnum h e it ((i : Nat) : Int) old) ∧ h.IsTupleIter it a i ∧ e ≠ it) where
  mem := by simp
  obj := fun i h st b hb => by
    obtain ⟨⟨old, he⟩, ⟨o, ho, hc, hd⟩, _⟩ := st
    have e' : b = e ∨ b = it := by simpa using hb
    rcases e' with z | z
    · rw [z]
      exact ⟨_, he, fun v q => nomatch q⟩
    · rw [z]
      exact ⟨o, ho, fun v q => by rw [hd] at q; cases q⟩
  keep := fun i h h' st k => by
    obtain ⟨⟨old, he⟩, hi, hne⟩ := st
    exact ⟨⟨old, k e (by simp) _ he⟩, hi.at fun o q => k it (by simp) o q, hne⟩
  item := by
    intro X hP hw hK hc i pins s σ H E I hf st hg
    subst hP hw hK
    obtain ⟨⟨old, he⟩, hit, hne⟩ := st
    obtain ⟨xs, x, hq, hx⟩ := hg
    obtain ⟨its, rv, p, hz⟩ := I.tuple hq
    have p : s.heap.IsTuple a its.toArray := p
    obtain ⟨u, hu, ru⟩ := rv.get hx
    obtain ⟨n1, n2⟩ := apart_en he hit p
    have hil : it < s.heap.objs.size := by
      obtain ⟨_, q, _⟩ := hit
      exact Heap.lt_size q
    have hel : e < s.heap.objs.size := Heap.lt_size he
    have hlt : i < its.toArray.size := by
      have := (List.getElem?_eq_some_iff.mp hu).1
      simpa using this
    refine wpAny_pyNext_enum_itemD (Draws.tuple (A := X.A.in1) (show X.A.in1.handled = none from I.ok.hd hc) it a n1 its.toArray) he ⟨hit, p⟩ hlt hne (by simp; exact ⟨hne, n2⟩) fun y h' tk hy ho hst hT hsz hk => ?_
    have hy : y = u := by
      have hy : its.toArray[i]? = some y := hy
      rw [List.getElem?_toArray, hu] at hy
      exact (Option.some.inj hy).symm
    subst hy
    refine ⟨_, rfl, wpAny_letOwnedTupleGo_enum (s := { s with heap := h', toks := tk + 1 }) ho fun h'' he' sb => ?_⟩
    have hT2 : h''.get? s.heap.objs.size = some { cls := .type "tuple", data := .seq #[.int i tk, y] } := (sb.2 _ (Nat.ne_of_gt hel)).trans hT
    have new : ObjOk X.prog X.w (upd H s.heap.objs.size (.tup [.int (i : Nat), x])) h'' s.heap.objs.size (.tup [.int (i : Nat), x]) :=
      ⟨by show 2 ≤ sizeLine; decide, [.int i tk, y], .cons ⟨_, rfl⟩ (.cons ru .nil), ⟨_, hT2, rfl, _, rfl⟩⟩
    have I1 : Inv X pins σ (upd H s.heap.objs.size (.tup [.int (i : Nat), x])) { s with heap := h'', toks := tk + 1 } :=
      I.turnedNew (ch := [e, it]) (fun b ob hb q => (sb.2 b (fun z => hb (by simp [z]))).trans (hk b ob (fun z => hb (by simp [z])) (fun z => hb (by simp [z])) q)) hf (Nat.le_refl _) new
    refine ⟨.ref s.heap.objs.size, _, I1, rfl, ⟨_, x, rfl, I.hok.fresh (Nat.le_refl _), rfl, fun ys hy => by rw [I.tuple_inj hy hq]; exact hx⟩, ⟨⟨y, ?_⟩, hst.1.at fun o q => (sb.2 it (Ne.symm hne)).trans q, hne⟩, fun b hb => ?_⟩
    · have e1 : ((i + 1 : Nat) : Int) = (i : Int) + 1 := by omega
      rw [e1]
      exact he'
    · have hb' : b < s.heap.objs.size := by
        have e' : b = e ∨ b = it := by simpa using hb
        rcases e' with z | z
        · rw [z]; exact hel
        · rw [z]; exact hil
      rw [upd_ne (Nat.ne_of_lt hb')]
      exact (hf b hb).1
  done := by
    intro X hP hw hK hc i pins s σ H E I hf st hg
    subst hP hw hK
    obtain ⟨⟨old, he⟩, hit, hne⟩ := st
    obtain ⟨xs, hq, hx⟩ := hg
    obtain ⟨its, rv, p, hz⟩ := I.tuple hq
    have p : s.heap.IsTuple a its.toArray := p
    obtain ⟨n1, n2⟩ := apart_en he hit p
    obtain ⟨f0, f1, f2, f3, f4, f5⟩ := hf it (by simp)
    have hl := rv.length
    have hnone : its.toArray[i]? = none := by
      rw [List.getElem?_toArray]
      exact List.getElem?_eq_none (by omega)
    exact end_enT (show X.A.in1.handled = none from I.ok.hd hc) he hit p hnone fun h' eb => ⟨rfl, I.turned (t' := s.toks) (fun b o hb q => eb b o hb q) f0 f1 f3 f4 f5⟩
  self := fun A i s Q E st h => let ⟨⟨_, he⟩, _⟩ := st; wpAny_pyIter_enum he h

def iEnT (K : PySem.W.Frag) (ta : TA) : TI := fun σ H R => ta σ H fun vs H1 => ∃ a xs, vs = [.ref a] ∧ SqT K H1 a xs ∧ R (IteT K a) H1
def iEnA (K : PySem.W.Frag) (ta : TA) : TI := fun σ H R => ta σ H fun vs H1 => ∃ a xs, vs = [.ref a] ∧ ((SqL K H1 a xs ∧ R (Ite K a) H1) ∨ (SqT K H1 a xs ∧ R (IteT K a) H1))
theorem pi_enA {X : Cx} {e : Expr} {ta : TA} {p pos tpos : Pos} {elts : List Expr} {kk : Nat} (hg : Gl X "enumerate") (hm : X.mg "enumerate" = none) (ha : PA X [e] ta) (hs : starEach [e] X.env = [(false, eval e X.env)] := by rfl) :
    PI X (.Tuple elts kk tpos) (.Call (.Name "enumerate" p) [e] [] pos) (iEnA X.K ta) := by
  refine ⟨fun pins s σ H R I h => ?_⟩
  refine Call_ (ld_blt I hg hm boot_enumerate (PyProof.Rows.callWith_type1 (thn (ha.run pos pins s σ H _ I h) fun us s1 ⟨vs, H1, I1, r1, q1⟩ => ?_) hs rfl))
  obtain ⟨a, xs, ex, q⟩ := q1
  subst ex
  cases r1 with
  | cons r rr =>
    cases rr
    cases r
    have fp : ∀ b ∈ [s1.heap.objs.size + 1, s1.heap.objs.size], FpOk X pins H1 b := fun b hb => by
      have hle : s1.heap.objs.size ≤ b := by
        rcases List.mem_cons.mp hb with z | z
        · rw [z]; exact Nat.le_add_right _ _
        · rw [List.mem_singleton.mp z]; exact Nat.le_refl _
      exact I1.fpOk hle (I1.hok.fresh hle)
    rcases q with ⟨hq, q⟩ | ⟨hq, q⟩
    · obtain ⟨its, rv, p', hz⟩ := I1.list hq
      refine call_enumerate_list p'.isList fun h' he hit hsz hk => wpAny_pyIter_enum he ?_
      exact ⟨s1.heap.objs.size + 1, [s1.heap.objs.size + 1, s1.heap.objs.size], _, _, H1, rfl, I1.kept (t' := s1.toks) hk, turn_enum a (s1.heap.objs.size + 1) s1.heap.objs.size, ⟨⟨.none, he⟩, hit, Nat.succ_ne_self _⟩, fp, q⟩
    · obtain ⟨its, rv, p', hz⟩ := I1.tuple hq
      have p' : s1.heap.IsTuple a its.toArray := p'
      refine call_en1 (begins_tuple a its.toArray) p' fun h' he hit hk => wpAny_pyIter_enum he ?_
      exact ⟨s1.heap.objs.size + 1, [s1.heap.objs.size + 1, s1.heap.objs.size], _, _, H1, rfl, I1.kept (t' := s1.toks) hk, turn_enT a (s1.heap.objs.size + 1) s1.heap.objs.size, ⟨⟨.none, he⟩, ⟨_, hit, rfl, rfl⟩, Nat.succ_ne_self _⟩, fp, q⟩
end Y
/-! Y9: zip, enumerate; targets; list comprehensions. -/
namespace Y
open PySem L2

section
variable {Z : Zc} {T : Tb} {C : Calls} {W : WX} {X : Cx} {H G H' G' : Hp} {io io' : List Addr} {pl pl' : Plc} {S S' : Store} {de : Env} {σ : L2.St}
theorem wk_z {K : PySem.W.Frag} (hl : Lens H) {a b : Addr} {vs ws : List V} {ds es : List D} (gh : GH G H) (g : G a = some (.lst vs)) (g2 : G b = some (.lst ws)) (r : Reps Z G io vs ds) (r2 : Reps Z G io ws es) : Wkd Z H G io (Itz K a b) ((ds.zip es).map fun p => .tup [p.1, p.2]) := by
  have held : ∀ {a : Addr} {vs : List V} {H1 G1 io1}, G a = some (.lst vs) → Kp H G io H1 G1 io1 → GH G1 H1 → SqL K H1 a vs := fun g s gh => SqL.of ((gh _ _ (s.gg _ _ g)).same rfl)
  have hlen : ((ds.zip es).map fun p => D.tup [p.1, p.2]).length = min vs.length ws.length := by
    rw [List.length_map, List.length_zip, r.length, r2.length]
  refine ⟨?_, fun i H1 G1 io1 s gh hi => ?_, fun i H1 G1 io1 v H' d s gh hd y => ?_, fun H1 G1 io1 s gh => ?_⟩
  · rw [hlen]
    exact Nat.le_trans (Nat.min_le_left _ _) (hl a _ ((gh _ _ g).same rfl))
  · rw [hlen] at hi
    have h1 : i < vs.length := by omega
    have h2 : i < ws.length := by omega
    exact ⟨vs, ws, vs[i], ws[i], held g s gh, held g2 s gh, List.getElem?_eq_getElem h1, List.getElem?_eq_getElem h2⟩
  · obtain ⟨p, x, y', hv, hp, e, hx, hy⟩ := y
    rw [List.getElem?_map] at hd
    obtain ⟨⟨q1, q2⟩, hq, hd⟩ := Option.map_eq_some_iff.mp hd
    rw [List.getElem?_zip_eq_some] at hq
    obtain ⟨w1, e1, r1⟩ := r.get hq.1
    obtain ⟨w2, e2, r2⟩ := r2.get hq.2
    rw [hx _ (held g s gh)] at e1
    rw [hy _ (held g2 s gh)] at e2
    cases e1
    cases e2
    subst hd
    exact .new hv hp e (.cons (r1.kp s) (.cons (r2.kp s) .nil))
  · exact ⟨vs, ws, held g s gh, held g2 s gh, by rw [hlen]; omega⟩
theorem wk_zt {K : PySem.W.Frag} (hl : Lens H) {a b : Addr} {vs ws : List V} {ds es : List D} (gh : GH G H) (g : G a = some (.tup vs)) (g2 : G b = some (.tup ws)) (r : Reps Z G io vs ds) (r2 : Reps Z G io ws es) : Wkd Z H G io (RZ.ItzT K a b) ((ds.zip es).map fun p => .tup [p.1, p.2]) := by
  have held : ∀ {a : Addr} {vs : List V} {H1 G1 io1}, G a = some (.tup vs) → Kp H G io H1 G1 io1 → GH G1 H1 → SqT K H1 a vs := fun g s gh => SqT.of ((gh _ _ (s.gg _ _ g)).same rfl)
  have hlen : ((ds.zip es).map fun p => D.tup [p.1, p.2]).length = min vs.length ws.length := by
    rw [List.length_map, List.length_zip, r.length, r2.length]
  refine ⟨?_, fun i H1 G1 io1 s gh hi => ?_, fun i H1 G1 io1 v H' d s gh hd y => ?_, fun H1 G1 io1 s gh => ?_⟩
  · rw [hlen]
    exact Nat.le_trans (Nat.min_le_left _ _) (hl a _ ((gh _ _ g).same rfl))
  · rw [hlen] at hi
    have h1 : i < vs.length := by omega
    have h2 : i < ws.length := by omega
    exact ⟨vs, ws, vs[i], ws[i], held g s gh, held g2 s gh, List.getElem?_eq_getElem h1, List.getElem?_eq_getElem h2⟩
  · obtain ⟨p, x, y', hv, hp, e, hx, hy⟩ := y
    rw [List.getElem?_map] at hd
    obtain ⟨⟨q1, q2⟩, hq, hd⟩ := Option.map_eq_some_iff.mp hd
    rw [List.getElem?_zip_eq_some] at hq
    obtain ⟨w1, e1, r1⟩ := r.get hq.1
    obtain ⟨w2, e2, r2⟩ := r2.get hq.2
    rw [hx _ (held g s gh)] at e1
    rw [hy _ (held g2 s gh)] at e2
    cases e1
    cases e2
    subst hd
    exact .new hv hp e (.cons (r1.kp s) (.cons (r2.kp s) .nil))
  · exact ⟨vs, ws, held g s gh, held g2 s gh, by rw [hlen]; omega⟩
theorem wk_e {K : PySem.W.Frag} (hl : Lens H) {a : Addr} {vs : List V} {ds : List D} (gh : GH G H) (g : G a = some (.lst vs)) (r : Reps Z G io vs ds) : Wkd Z H G io (Ite K a) (ds.zipIdx.map fun p => .tup [.int (p.2 : Nat), p.1]) := by
  have held : ∀ {H1 G1 io1}, Kp H G io H1 G1 io1 → GH G1 H1 → SqL K H1 a vs := fun s gh => SqL.of ((gh _ _ (s.gg _ _ g)).same rfl)
  have hlen : (ds.zipIdx.map fun p => D.tup [.int (p.2 : Nat), p.1]).length = vs.length := by
    rw [List.length_map, List.length_zipIdx, r.length]
  refine ⟨?_, fun i H1 G1 io1 s gh hi => ?_, fun i H1 G1 io1 v H' d s gh hd y => ?_, fun H1 G1 io1 s gh => ?_⟩
  · rw [hlen]
    exact hl a _ ((gh _ _ g).same rfl)
  · rw [hlen] at hi
    exact ⟨vs, vs[i], held s gh, List.getElem?_eq_getElem hi⟩
  · obtain ⟨p, x, hv, hp, e, hx⟩ := y
    rw [List.getElem?_map, List.getElem?_zipIdx] at hd
    obtain ⟨⟨q1, q2⟩, hq, hd⟩ := Option.map_eq_some_iff.mp hd
    obtain ⟨d', hd', hq⟩ := Option.map_eq_some_iff.mp hq
    cases hq
    obtain ⟨w1, e1, r1⟩ := r.get hd'
    rw [hx _ (held s gh)] at e1
    cases e1
    subst hd
    rw [Nat.zero_add]
    exact .new hv hp e (.cons (.int _) (.cons (r1.kp s) .nil))
  · exact ⟨vs, held s gh, by rw [hlen]; exact Nat.le_refl _⟩
theorem _root_.L2.PA.len {es : List Expr} {t : TA} (h : PA X es t) : PA X es fun σ H Q => t σ H fun vs H1 => Lens H1 → Q vs H1 := ⟨fun po pn s σ H Q J q => thn (h.run po pn s σ H _ J q) fun us s1 ⟨vs, H1, J1, r, q1⟩ => ⟨vs, H1, J1, r, q1 (lens_of J1)⟩⟩
theorem s_zip {a b : IR} {e f : Expr} {elts : List Expr} {kk : Nat} {p pos tpos : Pos} (hg : Gl X "zip") (hm : X.mg "zip" = none) (ha : PE X e (tE Z T C W a)) (hb : PE X f (tE Z T C W b))
    (hs : starEach [e, f] X.env = (false, eval e X.env) :: starEach [f] X.env) (hs2 : starEach [f] X.env = (false, eval f X.env) :: starEach [] X.env) (hpl : (backTo pos (starEach [f] X.env)).any (·.1) = false) : PI X (.Tuple elts kk tpos) (.Call (.Name "zip" p) [e, f] [] pos) (tI Z T C W (.zip a b)) := ⟨fun pn s σ H Rk J q => (RZ.pi_zipA hg hm (pa_cons ha (pa_cons hb pa_nil hs2) hs).len hs hpl).run pn s σ H Rk J (by
  obtain ⟨G, io, pl, S, de, R, h⟩ := q
  refine ⟨G, io, pl, S, de, R, (Fin.bnd (show Fin Z H G io de σ W ((ev T C de a S).bnd _) _ from h)).imp fun x S1 k H1 G1 io1 pl1 v s1 R1 r => ?_⟩
  refine ⟨G1, io1, pl1, S1, de, R1, (Fin.bnd (show Fin Z H G io de σ W ((ev T C de b S1).bnd _) _ from k)).at s1 fun y S2 k2 H2 G2 io2 pl2 u s2 R2 r2 hl => ?_⟩
  have q := r.step s2
  clear r
  cases q with
  | tup g r =>
    cases r2 with
    | tup g2 r2 => exact ⟨_, _, _, _, rfl, .inr ⟨SqT.of ((R2.gh _ _ g).same rfl), SqT.of ((R2.gh _ _ g2).same rfl), k2 H2 G2 io2 pl2 _ (s1.trans s2) R2 (wk_zt hl R2.gh g g2 r r2)⟩⟩
    | _ => exact (k2 : False).elim
  | lst g r =>
    cases r2 with
    | lst g2 r2 => exact ⟨_, _, _, _, rfl, .inl ⟨SqL.of ((R2.gh _ _ g).same rfl), SqL.of ((R2.gh _ _ g2).same rfl), k2 H2 G2 io2 pl2 _ (s1.trans s2) R2 (wk_z hl R2.gh g g2 r r2)⟩⟩
    | _ => exact (k2 : False).elim
  | _ => exact (k2 : False).elim)⟩
theorem wk_eT {K : PySem.W.Frag} (hl : Lens H) {a : Addr} {vs : List V} {ds : List D} (gh : GH G H) (g : G a = some (.tup vs)) (r : Reps Z G io vs ds) : Wkd Z H G io (IteT K a) (ds.zipIdx.map fun p => .tup [.int (p.2 : Nat), p.1]) := by
  have held : ∀ {H1 G1 io1}, Kp H G io H1 G1 io1 → GH G1 H1 → SqT K H1 a vs := fun s gh => SqT.of ((gh _ _ (s.gg _ _ g)).same rfl)
  have hlen : (ds.zipIdx.map fun p => D.tup [.int (p.2 : Nat), p.1]).length = vs.length := by
    rw [List.length_map, List.length_zipIdx, r.length]
  refine ⟨?_, fun i H1 G1 io1 s gh hi => ?_, fun i H1 G1 io1 v H' d s gh hd y => ?_, fun H1 G1 io1 s gh => ?_⟩
  · rw [hlen]
    exact hl a _ ((gh _ _ g).same rfl)
  · rw [hlen] at hi
    exact ⟨vs, vs[i], held s gh, List.getElem?_eq_getElem hi⟩
  · obtain ⟨p, x, hv, hp, e, hx⟩ := y
    rw [List.getElem?_map, List.getElem?_zipIdx] at hd
    obtain ⟨⟨q1, q2⟩, hq, hd⟩ := Option.map_eq_some_iff.mp hd
    obtain ⟨d', hd', hq⟩ := Option.map_eq_some_iff.mp hq
    cases hq
    obtain ⟨w1, e1, r1⟩ := r.get hd'
    rw [hx _ (held s gh)] at e1
    cases e1
    subst hd
    rw [Nat.zero_add]
    exact .new hv hp e (.cons (.int _) (.cons (r1.kp s) .nil))
  · exact ⟨vs, held s gh, by rw [hlen]; exact Nat.le_refl _⟩
theorem s_enum {a : IR} {e : Expr} {elts : List Expr} {kk : Nat} {p pos tpos : Pos} (hg : Gl X "enumerate") (hm : X.mg "enumerate" = none) (ha : PE X e (tE Z T C W a)) (hs : starEach [e] X.env = [(false, eval e X.env)]) : PI X (.Tuple elts kk tpos) (.Call (.Name "enumerate" p) [e] [] pos) (tI Z T C W (.enum a)) := ⟨fun pn s σ H Rk J q => (pi_enA hg hm (pa_cons ha pa_nil hs).len hs).run pn s σ H Rk J (by
  obtain ⟨G, io, pl, S, de, R, h⟩ := q
  refine ⟨G, io, pl, S, de, R, (Fin.bnd (show Fin Z H G io de σ W ((ev T C de a S).bnd _) _ from h)).imp fun x S1 k H1 G1 io1 pl1 v s1 R1 r hl => ?_⟩
  cases r <;> first | exact (k : False).elim | skip
  · rename_i g r
    exact ⟨_, _, rfl, .inr ⟨SqT.of ((R1.gh _ _ g).same rfl), k H1 G1 io1 pl1 _ s1 R1 (wk_eT hl R1.gh g r)⟩⟩
  · rename_i g r
    exact ⟨_, _, rfl, .inl ⟨SqL.of ((R1.gh _ _ g).same rfl), k H1 G1 io1 pl1 _ s1 R1 (wk_e hl R1.gh g r)⟩⟩)⟩

/-! ### targets -/
def gsl : IR → List Nat
  | .gn i => [i]
  | .gt gs => gsl gs
  | .cons h t => gsl h ++ gsl t
  | _ => []
theorem Rel.set (R : Rel Z H G io pl S de σ) {i : Nat} {v : V} {d : D} (r : Rep Z G io v d) (hi : i < σ.length) : Rel Z H G io pl S (de.set i (some (.val d))) (σ.set i (some v)) := by
  refine ⟨R.gh, by simp [R.len], fun k e he => ?_, R.bl, R.boxes, R.plg⟩
  by_cases q : i = k
  · subst q
    rw [List.getElem?_set_self (by rw [R.len]; exact hi)] at he
    cases he
    exact ⟨v, by rw [List.getElem?_set_self hi], r⟩
  · rw [List.getElem?_set_ne q] at he
    obtain ⟨w, hw, r'⟩ := R.slots k e he
    exact ⟨w, by rw [List.getElem?_set_ne q]; exact hw, r'⟩
/-- a target's reading: what is stored is known as d -/
def tG (Z : Zc) (ir : IR) : TG := fun v σ H Q => ∃ G io pl S de d de', Rel Z H G io pl S de σ ∧ Rep Z G io v d ∧ asg ir d de = some de' ∧ ∀ σ', Rel Z H G io pl S de' σ' → σ'.length = σ.length → (∀ j : Nat, j ∉ gsl ir → σ'[j]? = σ[j]?) → Q σ' H
def tGs (Z : Zc) (ir : IR) : TGs := fun vs σ H Q => ∃ G io pl S de ds de', Rel Z H G io pl S de σ ∧ Reps Z G io vs ds ∧ asg.asgs ir ds de = some de' ∧ ∀ σ', Rel Z H G io pl S de' σ' → σ'.length = σ.length → (∀ j : Nat, j ∉ gsl ir → σ'[j]? = σ[j]?) → Q σ' H
theorem _root_.L2.PG.wk {tg : Expr} {t t' : TG} (h : PG X tg t) (w : ∀ v σ H Q, t' v σ H Q → t v σ H Q) : PG X tg t' := ⟨fun pn s σ H v u Q J r q => h.run pn s σ H v u Q J r (w v σ H Q q)⟩
theorem _root_.L2.PGs.wk {tg : List Expr} {t t' : TGs} (h : PGs X tg t) (w : ∀ v σ H Q, t' v σ H Q → t v σ H Q) : PGs X tg t' := ⟨fun pn s σ H v u Q J r q => h.run pn s σ H v u Q J r (w v σ H Q q)⟩
theorem tG_gn {i : Nat} {v : V} {Q : L2.St → Hp → Prop} (q : tG Z (.gn i) v σ H Q) : gName i v σ H Q := by
  obtain ⟨G, io, pl, S, de, d, de', R, r, e, k⟩ := q
  have e : (if i < de.length then some (de.set i (some (.val d))) else none) = some de' := e
  split at e <;> cases e
  rename_i hi
  exact k _ (R.set r (by rw [← R.len]; exact hi)) (by simp) fun j hj => by rw [List.getElem?_set_ne]; intro e; exact hj (by simp [gsl, e])
theorem s_gn {i : Nat} {e : Expr} (h : PG X e (gName i)) : PG X e (tG Z (.gn i)) := h.wk fun v σ H Q q => tG_gn q
theorem s_gnil : PGs X [] (tGs Z .nil) := (pgs_nil (X := X)).wk fun vs σ H Q q => by
  obtain ⟨G, io, pl, S, de, ds, de', R, r, e, k⟩ := q
  cases ds with
  | nil =>
    cases e
    cases r
    exact ⟨rfl, k σ R rfl fun _ _ => rfl⟩
  | cons d ds => cases e
theorem s_gcons {i : Nat} {t : IR} {e : Expr} {es : List Expr} (h1 : PG X e (gName i)) (h2 : PGs X es (tGs Z t)) (hs : (assignEach (e :: es) X.env).map (·.2) = assign e X.env :: (assignEach es X.env).map (·.2) := by rfl) : PGs X (e :: es) (tGs Z (.cons (.gn i) t)) := (pgs_cons h1 h2 hs).wk fun vs σ H Q q => by
  obtain ⟨G, io, pl, S, de, ds, de', R, r, e, k⟩ := q
  cases ds with
  | nil => cases e
  | cons d ds =>
    have e : (if i < de.length then asg.asgs t ds (de.set i (some (.val d))) else none) = some de' := e
    split at e <;> first | (cases e; done) | skip
    rename_i hi
    cases r with
    | cons r rs =>
      refine ⟨_, _, rfl, G, io, pl, S, de.set i (some (.val d)), ds, de', R.set r (by rw [← R.len]; exact hi), rs, e, fun σ' R' hl hs' => k σ' R' (by rw [hl, List.length_set]) fun j hj => ?_⟩
      simp only [gsl, List.mem_append, List.mem_singleton, not_or] at hj
      rw [hs' j hj.2, List.getElem?_set_ne (fun e => hj.1 e.symm)]
theorem s_gt {gs : IR} {es : List Expr} {k : Nat} {n : Nat} {pos : Pos} (hc : X.calm = true) (h : PGs X es (tGs Z gs)) (hK : X.K = Z.K) (hlen : ∀ {ds de de'}, asg.asgs gs ds de = some de' → ds.length = n) (hn : (assignEach es X.env).length = n := by rfl) (hst : (assignEach es X.env).findIdx? (·.1) = none := by rfl) : PG X (.Tuple es k pos) (tG Z (.gt gs)) := (pg_tup hc h hn hst).wk fun v σ H Q q => by
  obtain ⟨G, io, pl, S, de, d, de', R, r, e, k⟩ := q
  cases r <;> first | (cases e; done) | skip
  rename_i g r
  exact ⟨_, _, rfl, SqT.of ((R.gh _ _ g).same rfl), by rw [r.length]; exact hlen e, G, io, pl, S, de, _, de', R, r, e, k⟩
theorem asgs_len : ∀ {gs : IR} {ds : List D} {de de' : Env}, asg.asgs gs ds de = some de' → ds.length = (gsl gs).length
  | .nil, [], _, _, _ => rfl
  | .cons (.gn i) t, d :: ds, de, de', e => by
    have e : (if i < de.length then asg.asgs t ds (de.set i (some (.val d))) else none) = some de' := e
    split at e <;> first | (cases e; done) | skip
    have := asgs_len e
    simp only [gsl, List.length_append, List.length_cons, List.length_nil]
    omega
end
end Y
/-! Y10: list comprehensions. -/
namespace Y
open PySem L2

section
variable {Z : Zc} {T : Tb} {C : Calls} {W : WX} {X : Cx} {H G H' G' H1 G1 : Hp} {io io' io1 : List Addr} {pl pl' : Plc} {S S' : Store} {de : Env} {σ : L2.St}
theorem wipe_get (σ : L2.St) : ∀ (vs : List Nat) (j : Nat), (wipe σ vs)[j]? = if j ∈ vs ∧ j < σ.length then some none else σ[j]?
  | [], j => by simp [wipe]
  | v :: vs, j => by
    unfold wipe
    by_cases e : v = j
    · subst e
      by_cases l : v < σ.length
      · rw [List.getElem?_set_self (by rw [wipe_length]; exact l), if_pos ⟨List.mem_cons_self, l⟩]
      · rw [if_neg (fun z => l z.2), List.getElem?_eq_none (by rw [List.length_set, wipe_length]; omega), List.getElem?_eq_none (by omega)]
    · rw [List.getElem?_set_ne e, wipe_get σ vs j]
      have : (j ∈ v :: vs ∧ j < σ.length) ↔ (j ∈ vs ∧ j < σ.length) := by
        rw [List.mem_cons]
        exact ⟨fun ⟨a, b⟩ => ⟨a.resolve_left fun z => e z.symm, b⟩, fun ⟨a, b⟩ => ⟨.inr a, b⟩⟩
      by_cases c : j ∈ vs ∧ j < σ.length
      · rw [if_pos c, if_pos (this.mpr c)]
      · rw [if_neg c, if_neg fun z => c (this.mp z)]
theorem wipeE_get (de : Env) : ∀ (vs : List Nat) (j : Nat), (wipeE de vs)[j]? = if j ∈ vs ∧ j < de.length then some none else de[j]?
  | [], j => by simp [wipeE]
  | v :: vs, j => by
    have ln : ∀ vs : List Nat, (wipeE de vs).length = de.length := fun vs => by
      induction vs with
      | nil => rfl
      | cons v vs ih => show ((wipeE de vs).set v none).length = _; rw [List.length_set, ih]
    unfold wipeE
    by_cases e : v = j
    · subst e
      by_cases l : v < de.length
      · rw [List.getElem?_set_self (by rw [ln]; exact l), if_pos ⟨List.mem_cons_self, l⟩]
      · rw [if_neg (fun z => l z.2), List.getElem?_eq_none (by rw [List.length_set, ln]; omega), List.getElem?_eq_none (by omega)]
    · rw [List.getElem?_set_ne e, wipeE_get de vs j]
      have : (j ∈ v :: vs ∧ j < de.length) ↔ (j ∈ vs ∧ j < de.length) := by
        rw [List.mem_cons]
        exact ⟨fun ⟨a, b⟩ => ⟨a.resolve_left fun z => e z.symm, b⟩, fun ⟨a, b⟩ => ⟨.inr a, b⟩⟩
      by_cases c : j ∈ vs ∧ j < de.length
      · rw [if_pos c, if_pos (this.mpr c)]
      · rw [if_neg c, if_neg fun z => c (this.mp z)]
theorem wipeE_len (de : Env) : ∀ vs : List Nat, (wipeE de vs).length = de.length
  | [] => rfl
  | v :: vs => by show ((wipeE de vs).set v none).length = _; rw [List.length_set, wipeE_len de vs]
theorem wipe_eq {σ σ2 : L2.St} {vs : List Nat} {gs : List Nat} (hv : ∀ j ∈ gs, j ∈ vs) (hl : σ2.length = (wipe σ vs).length) (h : ∀ j : Nat, j ∉ gs → σ2[j]? = (wipe σ vs)[j]?) : wipe σ2 vs = wipe σ vs := by
  refine List.ext_getElem? fun j => ?_
  rw [wipe_length] at hl
  rw [wipe_get, wipe_get, hl]
  by_cases c : j ∈ vs ∧ j < σ.length
  · rw [if_pos c, if_pos c]
  · rw [if_neg c, if_neg c]
    by_cases g : j ∈ gs
    · have l : ¬ j < σ.length := fun z => c ⟨hv j g, z⟩
      rw [List.getElem?_eq_none (by omega), List.getElem?_eq_none (by omega)]
    · rw [h j g, wipe_get, if_neg c]
theorem Rel.wiped (R : Rel Z H G io pl S de σ) (vs : List Nat) : Rel Z H G io pl S (wipeE de vs) (wipe σ vs) := by
  refine ⟨R.gh, by rw [wipeE_len, wipe_length, R.len], fun k e he => ?_, R.bl, R.boxes, R.plg⟩
  rw [wipeE_get] at he
  by_cases c : k ∈ vs ∧ k < de.length
  · rw [if_pos c] at he
    cases he
  · rw [if_neg c] at he
    obtain ⟨v, hv, r⟩ := R.slots k e he
    refine ⟨v, ?_, r⟩
    rw [wipe_get, if_neg fun z => c ⟨z.1, by rw [R.len]; exact z.2⟩]
    exact hv

/-- the place map without p, that no slot and no box owns -/
theorem Rel.clean (R : Rel Z H G io pl S de σ) {p : Addr} (h1 : ∀ q, pl p = some q → ∃ n, q = Pl.box n) (h2 : p ∉ io) : Rel Z H G io (fun a => if a = p then none else pl a) S de σ := by
  have hs : ∀ a q, (∀ n, q ≠ Pl.box n) → pl a = some q → a ≠ p := fun a q hn h e => by
    rw [e] at h
    obtain ⟨n, hq⟩ := h1 q h
    exact hn n hq
  refine ⟨R.gh, R.len, fun k e he => ?_, R.bl, fun n d hd => ?_, fun a ha => ?_⟩
  · obtain ⟨v, hv, r⟩ := R.slots k e he
    refine ⟨v, hv, r.mono (fun _ _ h => h) (fun _ _ h => h) (fun a q hn h => ?_) (fun _ _ _ _ _ h => h) fun a dx h => ⟨h, fun g => g⟩⟩
    show (if a = p then none else pl a) = some q
    rw [if_neg (hs a q hn h)]
    exact h
  · obtain ⟨a, ha, hp, ow⟩ := R.boxes n d hd
    refine ⟨a, ha, ?_, ow⟩
    show (if a = p then none else pl a) = _
    rw [if_neg fun e => h2 (by rw [← e]; exact List.mem_of_getElem? ha)]
    exact hp
  · have ha : (if a = p then none else pl a) ≠ none := ha
    by_cases e : a = p
    · rw [if_pos e] at ha
      exact absurd rfl ha
    · rw [if_neg e] at ha
      exact R.plg a ha
theorem Own.off {a b : Addr} {d : D} {o : HO} {u : HO} (hb : H b = some u) (hu : ∀ x, u ≠ .own x) (n : a ≠ b) (ow : Own Z H G io a d) : Own Z (upd H b o) G io a d := by
  have hne : ∀ dx x, H dx = some (.own x) → dx ≠ b := fun dx x h e => by
    rw [e, hb] at h
    cases h
    exact hu x rfl
  cases ow with
  | lst h r => exact .lst (by rw [upd_ne n]; exact h) r
  | dK h r => exact .dK (by rw [upd_ne n]; exact h) r
  | dT h r => exact .dT (by rw [upd_ne n]; exact h) r
  | ins h r => exact .ins (by rw [upd_ne n]; exact h) r
/-- a container that nothing owns is written -/
theorem Rel.write (R : Rel Z H G io pl S de σ) {p : Addr} {u o : HO} (hp : H p = some u) (hu : ∀ x, u ≠ .own x) (ho : ∀ xs, o ≠ .tup xs) (hpl : pl p = none) (hg : G p = none) : Rel Z (upd H p o) G io pl S de σ := by
  have ne : ∀ a q, pl a = some q → a ≠ p := fun a q h e => by
    rw [e, hpl] at h
    cases h
  have hne : ∀ dx x, H dx = some (.own x) → dx ≠ p := fun dx x h e => by
    rw [e, hp] at h
    cases h
    exact hu x rfl
  refine ⟨fun a w h => ?_, R.len, fun k e he => ?_, R.bl, fun n d hd => ?_, fun a ha => ?_⟩
  · have e : a ≠ p := fun e => by
      rw [e, hg] at h
      cases h
    rcases R.gh a w h with q | ⟨i, o', q⟩
    · exact .inl (by rw [upd_ne e]; exact q)
    · exact .inr ⟨i, o', by rw [upd_ne e]; exact q⟩
  · obtain ⟨v, hv, r⟩ := R.slots k e he
    exact ⟨v, hv, r.mono (fun _ _ h => h) (fun _ _ h => h) (fun _ _ _ h => h) (fun a q w hq _ h => by rw [upd_ne (ne a q hq)]; exact h) fun a dx h => ⟨by rw [upd_ne (hne _ _ h)]; exact h, fun g => g⟩⟩
  · obtain ⟨a, ha, hpa, ow⟩ := R.boxes n d hd
    exact ⟨a, ha, hpa, ow.off hp hu (ne a _ hpa)⟩
  · obtain ⟨q, hq⟩ := Option.ne_none_iff_exists'.mp ha
    rw [upd_ne (ne a q hq)]
    exact R.plg a ha
/-- .. a thing that is new since H -/
theorem Step.write (s : Step H G io H' G' io') {p : Addr} {o : HO} (h0 : H p = Option.none) (ho : ∀ xs, o ≠ .tup xs) : Step H G io (upd H' p o) G' io' := by
  refine ⟨s.gg, s.gn, fun a u h hi ht => ?_, s.ext, fun a h => ?_, fun a xs h => ?_⟩
  · have e : a ≠ p := fun e => by
      rw [e, h0] at h
      cases h
    rw [upd_ne e]
    exact s.fr a u h hi ht
  · have e : a ≠ p := fun e => h (by rw [e]; exact h0)
    rw [upd_ne e]
    exact s.al a h
  · by_cases e : a = p
    · rw [e, upd_same] at h
      cases h
      exact absurd rfl (ho xs)
    · rw [upd_ne e] at h
      exact s.tp a xs h
/-- a list that nothing owns stays as it is -/
theorem Step.keepL (s : Step H G io H' G' io') {p : Addr} {xs : List V} (h : H p = some (.lst xs)) (g : G p = Option.none) (n : p ∉ io) : H' p = some (.lst xs) ∧ G' p = Option.none ∧ p ∉ io' := by
  refine ⟨?_, ?_, fun hm => ?_⟩
  · rcases s.fr p _ h n (by simp) with q | ⟨i, _⟩
    · exact q
    · cases i
  · cases q : G' p with
    | none => rfl
    | some o =>
      rcases s.gn p (by rw [q]; exact Option.some_ne_none o) with z | z | ⟨ys, z⟩
      · exact absurd g z
      · rw [h] at z; cases z
      · rw [h] at z; cases z
  · obtain ⟨m, e, hn⟩ := s.ext
    rw [e] at hm
    rcases List.mem_append.mp hm with z | z
    · exact n z
    · rw [hn p z] at h
      cases h
theorem Rel.nio (R : Rel Z H G io pl S de σ) {p : Addr} (h : pl p = none) : p ∉ io := fun hm => by
  obtain ⟨n, hl, e⟩ := List.mem_iff_getElem.mp hm
  have h2 : io[n]? = some p := by rw [List.getElem?_eq_getElem hl, e]
  obtain ⟨b, hb, hp, _⟩ := R.boxes n (S[n]'(by rw [← R.bl]; exact hl)) (List.getElem?_eq_getElem _)
  rw [h2] at hb
  cases hb
  rw [h] at hp
  cases hp
/-- back in an earlier state's slots, p (that nothing owned) still of nobody -/
theorem Rel.backN (R : Rel Z H G io pl S de σ) (s : Step H G io H' G' io') {de' : Env} {σ' : L2.St} (R' : Rel Z H' G' io' pl' S' de' σ') {p : Addr} (hp : pl p = none) (hn : p ∉ io') : ∃ pl2, Rel Z H' G' io' pl2 S' de σ ∧ pl2 p = none := by
  obtain ⟨pl2, R2, iff⟩ := R.back s R'
  refine ⟨_, R2.clean (p := p) (fun q hq => ?_) hn, if_pos rfl⟩
  cases q with
  | box n => exact ⟨n, rfl⟩
  | slot i => exact absurd ((iff p _ fun n => by simp).mp hq) (by rw [hp]; simp)
  | fld i => exact absurd ((iff p _ fun n => by simp).mp hq) (by rw [hp]; simp)
theorem Fin.hush {α : Type} {r : Res α} {K : α → Store → Prop} (h : Fin Z H G io de σ W r.hush K) : ∃ a S', r = .ok a S' ∧ K a S' := by
  cases r with
  | ok a S' => exact ⟨a, S', rfl, h⟩
  | exc c fs S' => exact h.elim
  | bad => exact h.elim

/-- one turn -/
def stepE (T : Tb) (C : Calls) (de : Env) (vs : List Nat) (g c e : IR) (d : D) : M (Option D) := tryL (asg g d (wipeE de vs)) fun d1 => bnd (hush (evt T C d1 c)) fun k => if k = true then bnd (hush (ev T C d1 e)) fun v => ret (some v) else ret none
theorem tN_lc {W' : WX} {vs : List Nat} {g it c e : IR} {wi : TI} {gg : TG} {tt : TT} {te : TE} {Q : VK} (hwi : ∀ σ H R, tI Z T C W it σ H R → wi σ H R) (hg : ∀ v σ H Q, tG Z g v σ H Q → gg v σ H Q) (ht : ∀ σ H Q, tT Z T C W' c σ H Q → tt σ H Q) (he : ∀ σ H Q, tE Z T C W' e σ H Q → te σ H Q)
    (hv : ∀ j ∈ gsl g, j ∈ vs) (q : tN Z T C W (.lc vs g it c e) σ H Q) : tLc wi gg tt te vs σ H Q := by
  obtain ⟨G, io, pl, S, de, R, h⟩ := q
  refine hwi σ H _ ⟨G, io, pl, S, de, R, (Fin.bnd (show Fin Z H G io de σ W ((evi T C de it S).bnd _) _ from h)).imp fun items S1 k H1 G1 io1 pl1 J s1 R1 wk D hD => ?_⟩
  have k : Fin Z H G io de σ W ((comp items (stepE T C de vs g c e) S1).bnd _) _ := k
  have k := k.bnd
  have gD1 : G1 D = none := by
    cases q : G1 D with
    | none => rfl
    | some u => exact absurd hD (R1.gh D u q).ne
  have h0 := s1.none hD
  refine ⟨fun i m H2 => m = items.length - i ∧ i ≤ items.length ∧ ∃ G2 io2 pl2 S2 acc dacc, Step H1 G1 io1 H2 G2 io2 ∧ Rel Z H2 G2 io2 pl2 S2 de σ ∧ H2 D = some (.lst acc) ∧ Reps Z G2 io2 acc dacc ∧ pl2 D = none ∧ G2 D = none ∧ acc.length ≤ i ∧
    Fin Z H G io de σ W (comp (items.drop i) (stepE T C de vs g c e) S2) (fun ds S' => ∀ H' G' io' pl' p, Step H G io H' G' io' → Rel Z H' G' io' pl' S' de σ → Own Z H' G' io' p (.lst (dacc ++ ds)) → pl' p = none → G' p = none → H p = none → isFresh (.lst (dacc ++ ds)) = true → Q (.ref p) H'),
    ⟨items.length, by simp, Nat.zero_le _, G1, io1, pl1, S1, [], [], ?_⟩, ?_⟩
  · obtain ⟨R', s', n, gn⟩ := R1.laid hD (.lst [])
    exact ⟨s', R', upd_same, .nil, n, gn, Nat.le_refl _, by rw [List.drop_zero]; exact k⟩
  rintro i m H2 ⟨rfl, hi, G2, io2, pl2, S2, acc, dacc, s2, R2, hH, ra, hpl, hg2, hl, k2⟩
  by_cases hlt : i < items.length
  · refine .inr ⟨wk.go i H2 G2 io2 (.of R1 s2) R2.gh hlt, fun H3 => ∃ G2 io2 pl2 S2 acc dacc, Step H1 G1 io1 H3 G2 io2 ∧ Rel Z H3 G2 io2 pl2 S2 de σ ∧ H3 D = some (.lst acc) ∧ Reps Z G2 io2 acc dacc ∧ pl2 D = none ∧ G2 D = none ∧ acc.length ≤ i + 1 ∧
        Fin Z H G io de σ W (comp (items.drop (i + 1)) (stepE T C de vs g c e) S2) (fun ds S' => ∀ H' G' io' pl' p, Step H G io H' G' io' → Rel Z H' G' io' pl' S' de σ → Own Z H' G' io' p (.lst (dacc ++ ds)) → pl' p = none → G' p = none → H p = none → isFresh (.lst (dacc ++ ds)) = true → Q (.ref p) H'),
      fun H3 hx => ⟨_, by omega, rfl, hlt, hx⟩, fun x H3 y => ?_⟩
    obtain ⟨d, hd⟩ : ∃ d, items[i]? = some d := ⟨_, List.getElem?_eq_getElem hlt⟩
    obtain ⟨G3, R3, s3, r3⟩ := (wk.yld i H2 G2 io2 x H3 d (.of R1 s2) R2.gh hd y).rel R2
    have eq : items.drop i = d :: items.drop (i + 1) := by
      rw [List.drop_eq_getElem_cons hlt]
      congr 1
      exact Option.some.inj ((List.getElem?_eq_getElem hlt).symm.trans hd)
    rw [eq] at k2
    have k2 := Fin.bnd (show Fin Z H G io de σ W ((stepE T C de vs g c e d S2).bnd _) _ from k2)
    obtain ⟨d1, ha, k2⟩ := (show Fin Z H G io de σ W (tryL (asg g d (wipeE de vs)) _ S2) _ from k2).tryL
    have k2 := Fin.bnd (show Fin Z H G io de σ W ((evt T C d1 c S2).hush.bnd _) _ from k2)
    obtain ⟨b, S4, hb, k4⟩ := k2.hush
    refine hg x _ H3 _ ⟨G3, io2, pl2, S2, wipeE de vs, d, d1, R3.wiped vs, r3, ha, fun σ2 Rg hsl hsa => ⟨wipe_eq hv hsl hsa, ?_⟩⟩
    refine ht σ2 H3 _ ⟨G3, io2, pl2, S2, d1, Rg, ?_⟩
    rw [hb]
    show ∀ H' G' io' pl', Step H3 G3 io2 H' G' io' → Rel Z H' G' io' pl' S4 d1 σ2 → _
    intro H4 G4 io4 pl4 s4 R4
    have s24 := s3.trans s4
    have nD := R2.nio hpl
    obtain ⟨hH4, hg4, nD4⟩ := s24.keepL hH hg2 nD
    cases b with
    | false =>
      rw [if_neg (by simp)]
      obtain ⟨pl5, R5, hp5⟩ := R2.backN s24 R4 hpl nD4
      refine ⟨G4, io4, pl5, S4, acc, dacc, s2.trans s24, R5, hH4, ra.step s24, hp5, hg4, by omega, ?_⟩
      have k4 := Fin.bnd (show Fin Z H G io de σ W ((comp (items.drop (i + 1)) (stepE T C de vs g c e) S4).bnd _) _ from k4)
      exact k4
    | true =>
      rw [if_pos rfl]
      have k4 := Fin.bnd (show Fin Z H G io de σ W ((ev T C d1 e S4).hush.bnd _) _ from k4)
      obtain ⟨v, S5, hv5, k5⟩ := k4.hush
      refine he σ2 H4 _ ⟨G4, io4, pl4, S4, d1, R4, ?_⟩
      rw [hv5]
      show ∀ H' G' io' pl' v', Step H4 G4 io4 H' G' io' → Rel Z H' G' io' pl' S5 d1 σ2 → Rep Z G' io' v' v → _
      intro H5 G5 io5 pl5 y5 s5 R5 r5
      obtain ⟨hH5, hg5, nD5⟩ := s5.keepL hH4 hg4 nD4
      obtain ⟨pl6, R6, hp6⟩ := R2.backN (s24.trans s5) R5 hpl nD5
      have hz := wk.len
      refine ⟨acc, hH5, by omega, G5, io5, pl6, S5, acc ++ [y5], dacc ++ [v], ((s2.trans s24).trans s5).write hD (by simp), R6.write hH5 (by simp) (by simp) hp6 hg5, upd_same, (ra.step (s24.trans s5)).append (.cons r5 .nil), hp6, hg5, by rw [List.length_append]; simp; omega, ?_⟩
      have k5 := Fin.bnd (show Fin Z H G io de σ W ((comp (items.drop (i + 1)) (stepE T C de vs g c e) S5).bnd _) _ from k5)
      refine k5.imp fun ds S6 k6 => ?_
      have k6 : ∀ H' G' io' pl' p, Step H G io H' G' io' → Rel Z H' G' io' pl' S6 de σ → Own Z H' G' io' p (.lst (dacc ++ v :: ds)) → pl' p = none → G' p = none → H p = none → isFresh (.lst (dacc ++ v :: ds)) = true → Q (.ref p) H' := k6
      rw [List.append_assoc]
      exact k6
  · have e : i = items.length := by omega
    subst e
    refine .inl ⟨wk.stop H2 G2 io2 (.of R1 s2) R2.gh, ?_⟩
    rw [List.drop_length] at k2
    have k2 : ∀ H' G' io' pl' p, Step H G io H' G' io' → Rel Z H' G' io' pl' S2 de σ → Own Z H' G' io' p (.lst (dacc ++ [])) → pl' p = none → G' p = none → H p = none → isFresh (.lst (dacc ++ [])) = true → Q (.ref p) H' := k2
    rw [List.append_nil] at k2
    exact k2 H2 G2 io2 pl2 D (s1.trans s2) R2 (.lst hH ra) hpl hg2 h0 rfl
end
end Y
/-! Y11: in, dicts, boxes, calls. -/
namespace Y
open PySem L2

section
variable {Z : Zc} {T : Tb} {C : Calls} {W : WX} {X : Cx} {H G H' G' H1 G1 : Hp} {io io' io1 : List Addr} {pl pl' : Plc} {S S' : Store} {de : Env} {σ : L2.St}
/-! ### in -/
/-- a dict's look-up, the kinds alike -/
theorem dget_same {c x : D} {v y : V} {b : Bool} (t : Top Z H G io v c) (gh : ∀ a u, G a = some u → Held H a u) (r : Rep Z G io y x) (hs : dIn x c = some b) : ∃ a o, v = .ref a ∧ DGet H a y o ∧ o.isSome = b := by
  cases t <;> first | (cases hs; done) | skip
  · rename_i a kvs ds hH rs
    have hm : (match x.ky with | some (.one k) => some (dfind (.one k) (kvs.map fun p => keyD p.1) ds).isSome | _ => none) = some b := hs
    cases hk : x.ky with
    | none => rw [hk] at hm; cases hm
    | some k =>
      rw [hk] at hm
      cases k with
      | tup k => cases hm
      | one k =>
        cases hm
        clear hs
        obtain ⟨rfl, rfl⟩ := rep_key r hk
        refine ⟨a, _, rfl, .inl ⟨kvs, k, hH.rd, rfl, rfl⟩, ?_⟩
        rcases dfind_K k rs with ⟨w, d', h1, h2, h3⟩ | ⟨h1, h2⟩ <;> (rw [h1, h2]; rfl)
  · rename_i a kvs ds hH rs
    have hm : (match x.ky with | some (.tup k) => some (dfind (.tup k) (kvs.map fun p => D.tup (p.1.map keyD)) ds).isSome | _ => none) = some b := hs
    cases hk : x.ky with
    | none => rw [hk] at hm; cases hm
    | some k =>
      rw [hk] at hm
      cases k with
      | one k => cases hm
      | tup k =>
        cases hm
        clear hs
        obtain ⟨b, rfl, hb, rfl⟩ := rep_keyT r hk
        refine ⟨a, _, rfl, .inr ⟨kvs, k, b, hH.rd, rfl, (gh _ _ hb).same rfl, rfl⟩, ?_⟩
        rcases dfind_T k rs with ⟨w, d', h1, h2, h3⟩ | ⟨h1, h2⟩ <;> (rw [h1, h2]; rfl)
theorem dIn_ky {x c : D} {b : Bool} (h : dIn x c = some b) : ∃ k, x.ky = some k := by
  cases hk : x.ky with
  | some k => exact ⟨k, rfl⟩
  | none =>
    exfalso
    cases c <;> first | (cases h; done) | skip
    · rename_i ks vs
      have h : (match x.ky with | some (.one k) => some (dfind (.one k) ks vs).isSome | _ => none) = some b := h
      rw [hk] at h
      cases h
    · rename_i ks vs
      have h : (match x.ky with | some (.tup k) => some (dfind (.tup k) ks vs).isSome | _ => none) = some b := h
      rw [hk] at h
      cases h
theorem Top.rep_tup (R : Rel Z H G io pl S de σ) {v : V} {d : D} (t : Top Z H G io v d) (k : Ky) (hk : d.ky = some k) : ∃ G', Rel Z H G' io pl S de σ ∧ Step H G io H G' io ∧ Rep Z G' io v d := by
  cases t <;> first | (cases hk; done) | skip
  · exact ⟨G, R, .refl, .int _⟩
  · exact ⟨G, R, .refl, .str _⟩
  · rename_i h r
    obtain ⟨G', R', s, hg⟩ := R.seen h
    exact ⟨G', R', s, .tup hg (r.step s)⟩
theorem Top.step_same {v : V} {d : D} (t : Top Z H G io v d) (s : Step H G io H G' io) : Top Z H G' io v d := by
  cases t with
  | non => exact .non
  | bl b => exact .bl b
  | int i => exact .int i
  | str s => exact .str s
  | ty n => exact .ty n
  | cls c => exact .cls c
  | tup h r => exact .tup h (r.step s)
  | lst h r => exact .lst h (r.step s)
  | ro h r => exact .ro h (r.step s)
  | dK h r => exact .dK h (r.step s)
  | dT h r => exact .dT h (r.step s)
  | ins h r => exact .ins h (r.step s)
theorem isin_core {neg : Bool} {o : O2} (ho : ∀ x c, p2 o x c = (p2.pIn x c).map fun r => .bl (if neg = true then !r else r)) {rD rL rT rS : R2} (hD : ∀ x y H Q, (∃ d ds, Dp Z.K H x d ∧ Dp Z.K H y (.list ds) ∧ SeqAt.shaped d = true ∧ SeqAt.shaped (.list ds) = true ∧ Q (.bl (if neg = true then !(ds.any fun z => PyData.eqv z d) else ds.any fun z => PyData.eqv z d)) H) → rD x y H Q)
    (hL : ∀ x y H Q, rIn Z.K neg x y H Q → rL x y H Q) (hT : ∀ x y H Q, (∃ a o, y = .ref a ∧ DGet H a x o ∧ Q (.bl (if neg = true then !o.isSome else o.isSome)) H) → rT x y H Q) (hS : ∀ x y H Q, (∃ (c : Nat) (z : Str), x = V.str ⟨#[c]⟩ ∧ y = V.str z ∧ Q (.bl (if neg = true then !decide (c ∈ z.cps.toList) else decide (c ∈ z.cps.toList))) H) → rS x y H Q) : P2ok Z o (fun x y H Q => rD x y H Q ∨ (rL x y H Q ∨ (rT x y H Q ∨ rS x y H Q))) := by
  intro H G io pl S de σ v1 v2 d1 d2 d Q R t1 t2 e k
  rw [ho] at e
  obtain ⟨b, e1, e2⟩ := Option.map_eq_some_iff.mp e
  subst e2
  cases d2 <;> first | (cases e1; done) | skip
  · rename_i z
    cases d1 <;> first | (cases e1; done) | skip
    rename_i s
    cases t1
    cases t2
    clear e
    have e1 : signIn s z = some b := e1
    unfold signIn at e1
    split at e1 <;> first | (cases e1; done) | skip
    rename_i c hc
    have e1 := Option.some.inj e1
    subst e1
    refine .inr (.inr (.inr (hS _ _ _ _ ⟨c, z, ?_, rfl, k.here R (.bl _)⟩)))
    obtain ⟨a⟩ := s
    have hc : a.toList = [c] := hc
    have : a = #[c] := by rw [← Array.toList_inj]; exact hc
    rw [this]
  · rename_i ds
    have e1 : (if (d1.flat && ds.all D.flat) = true then some (ds.any fun z => PyData.eqv z.py d1.py) else none) = some b := e1
    split at e1 <;> cases e1
    rename_i hz
    obtain ⟨f1, f2⟩ := Bool.and_eq_true_iff.mp hz
    cases t2 with
    | tup h r =>
      have r1 := t1.flat f1
      refine .inr (.inl (hL _ _ _ _ ⟨_, _, rfl, .inr (SqT.of h), flat_v r1 f1, flat_vs r f2, ?_⟩))
      rw [flat_in r1 r f1 f2]
      exact k.here R (.bl _)
  · rename_i ds
    have e1 : (if (d1.shaped && (D.lst ds).shaped) = true then some (ds.any fun z => PyData.eqv z.py d1.py) else none) = some b := e1
    split at e1 <;> cases e1
    rename_i hz
    obtain ⟨f1, f2⟩ := Bool.and_eq_true_iff.mp hz
    refine .inl (hD _ _ _ _ ⟨d1.py, D.pys ds, R.dpT t1 (shaped_ok f1).1, R.dpT t2 (shaped_ok f2).1, (shaped_ok f1).2, (shaped_ok f2).2, ?_⟩)
    rw [any_py]
    exact k.here R (.bl _)
  · rename_i ds
    have e1 : (if (d1.flat && ds.all D.flat) = true then some (ds.any fun z => PyData.eqv z.py d1.py) else none) = some b := e1
    split at e1 <;> cases e1
    rename_i hz
    obtain ⟨f1, f2⟩ := Bool.and_eq_true_iff.mp hz
    cases t2 with
    | ro h r =>
      have r1 := t1.flat f1
      refine .inr (.inl (hL _ _ _ _ ⟨_, _, rfl, h, flat_v r1 f1, flat_vs r f2, ?_⟩))
      rw [flat_in r1 r f1 f2]
      exact k.here R (.bl _)
  · rename_i ks vs
    have e1 : dIn d1 (.dct ks vs) = some b := e1
    obtain ⟨kk, hk⟩ := dIn_ky e1
    obtain ⟨G', R', s, r1⟩ := t1.rep_tup R kk hk
    obtain ⟨a, o, ev, dg, ho⟩ := dget_same (t2.step_same s) R'.gh r1 e1
    refine .inr (.inr (.inl (hT _ _ _ _ ⟨a, o, ev, dg, ?_⟩)))
    rw [ho]
    exact k _ _ _ _ _ s R' (.bl _)
  · rename_i ks vs
    have e1 : dIn d1 (.dtt ks vs) = some b := e1
    obtain ⟨kk, hk⟩ := dIn_ky e1
    obtain ⟨G', R', s, r1⟩ := t1.rep_tup R kk hk
    obtain ⟨a, o, ev, dg, ho⟩ := dget_same (t2.step_same s) R'.gh r1 e1
    refine .inr (.inr (.inl (hT _ _ _ _ ⟨a, o, ev, dg, ?_⟩)))
    rw [ho]
    exact k _ _ _ _ _ s R' (.bl _)
theorem ok_isin : P2ok Z .isin (rInA Z.K) := isin_core (neg := false) (fun x c => rfl) (fun x y H Q q => q) (fun x y H Q q => q) (fun x y H Q q => q) fun x y H Q q => q
theorem ok_nin : P2ok Z .nin (rNinA Z.K) := isin_core (neg := true) (fun x c => rfl) (fun x y H Q q => q) (fun x y H Q q => q) (fun x y H Q q => q) fun x y H Q q => q

/-! ### a key is put -/
section
variable {κ : Type} [DecidableEq κ] {rd : κ → D} {kyc : κ → Ky}
theorem dfind_g (h : ∀ k, (rd k).ky = some (kyc k)) (inj : ∀ a b, kyc a = kyc b → a = b) {kvs : List (κ × V)} {ds : List D} (k : κ) (r : Reps Z G io (kvs.map (·.2)) ds) : (dfind (kyc k) (kvs.map fun p => rd p.1) ds).isSome = (kvs.any fun p => decide (p.1 = k)) := by
  induction kvs generalizing ds with
  | nil => cases r; rfl
  | cons p kvs ih =>
    rw [List.map_cons] at r
    cases r with
    | cons hq t =>
      rename_i d ds
      rw [List.any_cons]
      show (if (rd p.1).ky = some (kyc k) then some d else dfind (kyc k) (kvs.map fun p => rd p.1) ds).isSome = _
      by_cases e : p.1 = k
      · rw [if_pos (by rw [h, e]), decide_eq_true e]
        rfl
      · rw [if_neg (by rw [h]; intro z; exact e (inj _ _ (Option.some.inj z))), decide_eq_false e, Bool.false_or]
        exact ih t
theorem put_m (mk : List D → List D → D) (h : ∀ k, (rd k).ky = some (kyc k)) (inj : ∀ a b, kyc a = kyc b → a = b) {kvs : List (κ × V)} {ds : List D} {k : κ} {v : V} {d : D} (r : Reps Z G io (kvs.map (·.2)) ds) (rv : Rep Z G io v d) :
    ∃ ds', (if (dfind (kyc k) (kvs.map fun p => rd p.1) ds).isSome = true then mk (kvs.map fun p => rd p.1) (dputV (kyc k) d (kvs.map fun p => rd p.1) ds) else mk ((kvs.map fun p => rd p.1) ++ [rd k]) (ds ++ [d])) = mk ((putK kvs k v).map fun p => rd p.1) ds' ∧ Reps Z G io ((putK kvs k v).map (·.2)) ds' := by
  rw [dfind_g h inj k r]
  unfold putK
  by_cases c : (kvs.any fun kv => decide (kv.1 = k)) = true
  · rw [if_pos c, if_pos c]
    refine ⟨dputV (kyc k) d (kvs.map fun p => rd p.1) ds, ?_, ?_⟩
    · have e : (kvs.map fun p => rd p.1) = ((kvs.map fun kv => if kv.1 = k then (kv.1, v) else kv).map fun p => rd p.1) := ?_
      · exact congrArg (fun z => mk z _) e
      rw [List.map_map]
      refine List.map_congr_left fun p _ => ?_
      show rd p.1 = rd (if p.1 = k then (p.1, v) else p).1
      split <;> rfl
    · clear c
      induction kvs generalizing ds with
      | nil => cases r; exact .nil
      | cons p kvs ih =>
        rw [List.map_cons] at r
        cases r with
        | cons hq t =>
          rename_i d0 ds
          show Reps Z G io (((if p.1 = k then (p.1, v) else p) :: kvs.map fun kv => if kv.1 = k then (kv.1, v) else kv).map (·.2)) (if (rd p.1).ky = some (kyc k) then d :: dputV (kyc k) d (kvs.map fun p => rd p.1) ds else d0 :: dputV (kyc k) d (kvs.map fun p => rd p.1) ds)
          by_cases e : p.1 = k
          · rw [if_pos e, if_pos (by rw [h, e])]
            exact .cons rv (ih t)
          · rw [if_neg e, if_neg (by rw [h]; intro z; exact e (inj _ _ (Option.some.inj z)))]
            exact .cons hq (ih t)
  · rw [if_neg c, if_neg c]
    refine ⟨ds ++ [d], ?_, ?_⟩
    · rw [List.map_append]
      rfl
    · rw [List.map_append]
      exact r.append (.cons rv .nil)
theorem put_g (h : ∀ k, (rd k).ky = some (kyc k)) (inj : ∀ a b, kyc a = kyc b → a = b) {kvs : List (κ × V)} {ds : List D} {k : κ} {v : V} {d : D} (r : Reps Z G io (kvs.map (·.2)) ds) (rv : Rep Z G io v d) :
    ∃ ds', (if (dfind (kyc k) (kvs.map fun p => rd p.1) ds).isSome = true then D.dct (kvs.map fun p => rd p.1) (dputV (kyc k) d (kvs.map fun p => rd p.1) ds) else .dct ((kvs.map fun p => rd p.1) ++ [rd k]) (ds ++ [d])) = .dct ((putK kvs k v).map fun p => rd p.1) ds' ∧ Reps Z G io ((putK kvs k v).map (·.2)) ds' := put_m .dct h inj r rv
theorem put_g' (h : ∀ k, (rd k).ky = some (kyc k)) (inj : ∀ a b, kyc a = kyc b → a = b) {kvs : List (κ × V)} {ds : List D} {k : κ} {v : V} {d : D} (r : Reps Z G io (kvs.map (·.2)) ds) (rv : Rep Z G io v d) :
    ∃ ds', (if (dfind (kyc k) (kvs.map fun p => rd p.1) ds).isSome = true then D.dtt (kvs.map fun p => rd p.1) (dputV (kyc k) d (kvs.map fun p => rd p.1) ds) else .dtt ((kvs.map fun p => rd p.1) ++ [rd k]) (ds ++ [d])) = .dtt ((putK kvs k v).map fun p => rd p.1) ds' ∧ Reps Z G io ((putK kvs k v).map (·.2)) ds' := put_m .dtt h inj r rv
end
theorem one_inj (a b : Key) (h : Ky.one a = .one b) : a = b := by cases h; rfl
theorem tup_inj (a b : List Key) (h : Ky.tup a = .tup b) : a = b := by cases h; rfl

theorem fill_K : ∀ {more : List (Key × V)} {es : List D} {kvs : List (Key × V)} {ds : List D} {d : D}, Reps Z G io (kvs.map (·.2)) ds → Reps Z G io (more.map (·.2)) es → dfill (kvs.map fun p => keyD p.1) ds ((more.zip es).map fun p => .tup [keyD p.1.1, p.2]) = some d → ∃ ds', d = .dct ((mergeK kvs more).map fun p => keyD p.1) ds' ∧ Reps Z G io ((mergeK kvs more).map (·.2)) ds'
  | [], es, kvs, ds, d, r, q, e => by
    cases e
    exact ⟨ds, rfl, r⟩
  | p :: more, es, kvs, ds, d, r, q, e => by
    rw [List.map_cons] at q
    cases q with
    | cons h t =>
      rename_i x es
      have e : (match (keyD p.1).ky with | some (.one y) => if (dfind (.one y) (kvs.map fun p => keyD p.1) ds).isSome then dfill (kvs.map fun p => keyD p.1) (dputV (.one y) x (kvs.map fun p => keyD p.1) ds) ((more.zip es).map fun p => .tup [keyD p.1.1, p.2]) else dfill ((kvs.map fun p => keyD p.1) ++ [keyD p.1]) (ds ++ [x]) ((more.zip es).map fun p => .tup [keyD p.1.1, p.2]) | _ => none) = some d := e
      rw [ky_keyD] at e
      obtain ⟨ds', e1, r1⟩ := put_g (rd := keyD) (kyc := Ky.one) (k := p.1) (v := p.2) ky_keyD one_inj r h
      have e2 : dfill ((putK kvs p.1 p.2).map fun p => keyD p.1) ds' ((more.zip es).map fun p => .tup [keyD p.1.1, p.2]) = some d := by
        by_cases c : (dfind (.one p.1) (kvs.map fun p => keyD p.1) ds).isSome = true
        · rw [if_pos c] at e1
          have e : (if (dfind (.one p.1) (kvs.map fun p => keyD p.1) ds).isSome = true then dfill (kvs.map fun p => keyD p.1) (dputV (.one p.1) x (kvs.map fun p => keyD p.1) ds) ((more.zip es).map fun p => .tup [keyD p.1.1, p.2]) else dfill ((kvs.map fun p => keyD p.1) ++ [keyD p.1]) (ds ++ [x]) ((more.zip es).map fun p => .tup [keyD p.1.1, p.2])) = some d := e
          rw [if_pos c] at e
          have z1 : (kvs.map fun p => keyD p.1) = (putK kvs p.1 p.2).map fun p => keyD p.1 := D.dct.inj e1 |>.1
          have z2 := D.dct.inj e1 |>.2
          rw [← z2, ← z1]
          exact e
        · rw [if_neg c] at e1
          have e : (if (dfind (.one p.1) (kvs.map fun p => keyD p.1) ds).isSome = true then dfill (kvs.map fun p => keyD p.1) (dputV (.one p.1) x (kvs.map fun p => keyD p.1) ds) ((more.zip es).map fun p => .tup [keyD p.1.1, p.2]) else dfill ((kvs.map fun p => keyD p.1) ++ [keyD p.1]) (ds ++ [x]) ((more.zip es).map fun p => .tup [keyD p.1.1, p.2])) = some d := e
          rw [if_neg c] at e
          have z1 : (kvs.map fun p => keyD p.1) ++ [keyD p.1] = (putK kvs p.1 p.2).map fun p => keyD p.1 := D.dct.inj e1 |>.1
          have z2 := D.dct.inj e1 |>.2
          rw [← z2, ← z1]
          exact e
      exact fill_K (more := more) r1 t e2
theorem ky_one {k : D} {y : Key} (q : k.ky = some (.one y)) : k = keyD y := by
  cases k <;> first | (cases q; done) | skip
  · cases q; rfl
  · cases q; rfl
  · rename_i l
    have q : (dKeys l).map Ky.tup = some (.one y) := q
    cases q2 : dKeys l <;> rw [q2] at q <;> cases q
/-- what dfill takes: pairs with one key each -/
theorem fill_pairs : ∀ {ds ks vs : List D} {d : D}, dfill ks vs ds = some d → ∃ (ls : List Key) (es : List D), ls.length = es.length ∧ ds = (ls.zip es).map fun p => D.tup [keyD p.1, p.2]
  | [], ks, vs, d, e => ⟨[], [], rfl, rfl⟩
  | x :: r, ks, vs, d, e => by
    have : ∃ k v, x = .tup [k, v] := by
      unfold dfill at e
      split at e <;> first | (cases e; done) | skip
      · rename_i h; cases h
      · rename_i k v r' h
        cases h
        exact ⟨k, v, rfl⟩
    obtain ⟨k, v, rfl⟩ := this
    have e : (match k.ky with | some (.one y) => if (dfind (.one y) ks vs).isSome then dfill ks (dputV (.one y) v ks vs) r else dfill (ks ++ [k]) (vs ++ [v]) r | _ => none) = some d := e
    have : ∃ y, k.ky = some (.one y) := by
      cases q : k.ky with
      | none => rw [q] at e; cases e
      | some z =>
        cases z with
        | one y => exact ⟨y, rfl⟩
        | tup y => rw [q] at e; cases e
    obtain ⟨y, q⟩ := this
    rw [q] at e
    have e : (if (dfind (.one y) ks vs).isSome = true then dfill ks (dputV (.one y) v ks vs) r else dfill (ks ++ [k]) (vs ++ [v]) r) = some d := e
    have ek : k = keyD y := ky_one q
    subst ek
    have : ∃ (ls : List Key) (es : List D), ls.length = es.length ∧ r = (ls.zip es).map fun p => D.tup [keyD p.1, p.2] := by
      split at e
      · exact fill_pairs e
      · exact fill_pairs e
    obtain ⟨ls, es, hl, rfl⟩ := this
    exact ⟨y :: ls, v :: es, by simp [hl], rfl⟩
theorem NGo.dK {ks vs : List D} {kvs : List (Key × V)} {Q : VK} (k : NGo Z H G io S de σ (.dct (kvs.map fun p => keyD p.1) vs) Q) (R : Rel Z H G io pl S de σ) (r : Reps Z G io (kvs.map (·.2)) vs) {p : Addr} (hp : H p = none) : Q (.ref p) (upd H p (.dK kvs)) := by
  obtain ⟨R', s', n, g⟩ := R.laid hp (.dK kvs)
  exact k _ _ _ _ _ s' R' (.dK upd_same r) n g hp rfl

/-! ### dicts made -/
theorem Step.keepO (s : Step H G io H' G' io') {p : Addr} {o : HO} (h : H p = some o) (ho : ∀ ps, o ≠ .tbl ps) (ho2 : ∀ xs, o ≠ .tup xs) (g : G p = Option.none) (n : p ∉ io) : H' p = some o ∧ G' p = Option.none ∧ p ∉ io' := by
  refine ⟨?_, ?_, fun hm => ?_⟩
  · rcases s.fr p _ h n ho with q | ⟨_, q, _⟩
    · exact q
    · rw [g] at q; cases q
  · cases q : G' p with
    | none => rfl
    | some u =>
      rcases s.gn p (by rw [q]; exact Option.some_ne_none u) with z | z | ⟨ys, z⟩
      · exact absurd g z
      · rw [h] at z; cases z
      · rw [h] at z
        exact absurd (Option.some.inj z) (ho2 ys)
  · obtain ⟨m, e, hn⟩ := s.ext
    rw [e] at hm
    rcases List.mem_append.mp hm with z | z
    · exact n z
    · rw [hn p z] at h
      cases h
def tPs (Z : Zc) (T : Tb) (C : Calls) (W : WX) : IR → List (TE × TE)
  | .cons k (.cons v r) => (tE Z T C W k, tE Z T C W v) :: tPs Z T C W r
  | _ => []
def evenI : IR → Bool
  | .cons _ (.cons _ r) => evenI r
  | .nil => true
  | _ => false
def flat2 (ps : List (V × V)) : List V := ps.flatMap fun p => [p.1, p.2]
theorem pairs_go : ∀ (a : IR), evenI a = true → ∀ {H G : Hp} {io : List Addr} {pl : Plc} {S : Store} {K : List D → Store → Prop} {Q : List (V × V) → Hp → Prop}, Rel Z H G io pl S de σ → Fin Z H G io de σ W (evl T C de a S) K → (∀ H' G' io' pl' ps ds S', Step H G io H' G' io' → Rel Z H' G' io' pl' S' de σ → Reps Z G' io' (flat2 ps) ds → K ds S' → Q ps H') → tPairs (tPs Z T C W a) σ H Q
  | .nil, _, H, G, io, pl, S, K, Q, R, h, k => k H G io pl [] [] S .refl R .nil h
  | .cons a (.cons b r), ev, H, G, io, pl, S, K, Q, R, h, k => by
    refine ⟨G, io, pl, S, de, R, (Fin.bnd (show Fin Z H G io de σ W ((Y.ev T C de a S).bnd _) _ from h)).imp fun x S1 k1 H1 G1 io1 pl1 v s1 R1 r1 => ?_⟩
    have k1 := Fin.bnd (show Fin Z H G io de σ W ((evl T C de (.cons b r) S1).bnd _) _ from k1)
    refine ⟨G1, io1, pl1, S1, de, R1, (Fin.bnd (show Fin Z H G io de σ W ((Y.ev T C de b S1).bnd _) _ from k1)).at s1 fun y S2 k2 H2 G2 io2 pl2 w s2 R2 r2 => ?_⟩
    have k2 := Fin.bnd (show Fin Z H G io de σ W ((evl T C de r S2).bnd _) _ from k2)
    refine pairs_go r ev R2 (k2.at (s1.trans s2) fun _ _ z => z) fun H3 G3 io3 pl3 ps ds S3 s3 R3 rs k3 => ?_
    exact k H3 G3 io3 pl3 ((v, w) :: ps) (x :: y :: ds) S3 ((s1.trans s2).trans s3) R3 (.cons (r1.step (s2.trans s3)) (.cons (r2.step s3) rs)) k3
theorem pairs_split : ∀ {ls : List Key} {es ds : List D} {ps : List (V × V)}, ls.length = es.length → Reps Z G io (flat2 ps) ds → pairUp ds = (ls.zip es).map (fun p => D.tup [keyD p.1, p.2]) → ∃ kvs : List (Key × V), ps = kvs.map (fun kv => (kV kv.1, kv.2)) ∧ kvs.map (·.1) = ls ∧ Reps Z G io (kvs.map (·.2)) es
  | ls, es, ds, [], hl, r, e => by
    cases r
    cases ls with
    | cons l ls =>
      cases es with
      | nil => simp at hl
      | cons x es => cases e
    | nil =>
      cases es with
      | nil => exact ⟨[], rfl, rfl, .nil⟩
      | cons x es => simp at hl
  | ls, es, ds, p :: ps, hl, r, e => by
    have r : Reps Z G io (p.1 :: p.2 :: flat2 ps) ds := r
    cases r with
    | @cons _ d1 _ _ h1 t =>
      cases t with
      | @cons _ d2 _ ds h2 t =>
        cases ls with
        | nil => cases e
        | cons l ls =>
          cases es with
          | nil => simp at hl
          | cons x es =>
            have e : D.tup [d1, d2] :: pairUp ds = .tup [keyD l, x] :: (ls.zip es).map (fun p => D.tup [keyD p.1, p.2]) := e
            obtain ⟨e1, e2⟩ := List.cons.inj e
            have e3 := D.tup.inj e1
            cases e3
            obtain ⟨kvs, q1, q2, q3⟩ := pairs_split (by simpa using hl) t e2
            refine ⟨(l, p.2) :: kvs, ?_, by rw [List.map_cons, q2], .cons h2 q3⟩
            rw [List.map_cons, ← q1]
            have h3 := (rep_key h1 (ky_keyD l)).1
            obtain ⟨p1, p2⟩ := p
            have h3 : p1 = kV l := h3
            subst h3
            rfl
theorem zip_keys {kvs : List (Key × V)} {ls : List Key} {es : List D} (h : kvs.map (·.1) = ls) : (kvs.zip es).map (fun p => D.tup [keyD p.1.1, p.2]) = (ls.zip es).map (fun p => D.tup [keyD p.1, p.2]) := by
  subst h
  rw [List.zip_map_left, List.map_map]
  rfl
theorem n_dct {a : IR} {keys : List (Option Expr)} {values : List Expr} {pos : Pos} (h : PPs X pos keys values (tPs Z T C W a)) (he : evenI a = true) (h0 : keys ≠ []) (hall : keys.all (·.isSome) = true := by rfl) (hl : keys.length = values.length := by rfl) (h15 : keys.length ≤ 15 := by decide) : PE X (.Dict keys values pos) (tN Z T C W (.dct a)) := (pe_disp h hall hl h0 h15).wk fun σ H Q q => by
  obtain ⟨G, io, pl, S, de, R, h⟩ := q
  intro p hp
  obtain ⟨R1, s1, pn, gn⟩ := R.laid hp (.dK [])
  have h := Fin.bnd (show Fin Z H G io de σ W ((evl T C de a S).bnd _) _ from h)
  refine pairs_go a he R1 (h.at s1 fun _ _ z => z) fun H2 G2 io2 pl2 ps ds S2 s2 R2 rs k => ?_
  have k : Fin Z H G io de σ W ((if ds.length ≤ 30 ∧ ds.length % 2 = 0 then fun S => lift (dfill [] [] (pairUp ds)) S else fail : M D) S2) _ := k
  split at k
  · rename_i hz
    obtain ⟨d, e, k⟩ := k.lift
    obtain ⟨ls, es, hl, ep⟩ := fill_pairs e
    obtain ⟨kvs, rfl, q2, q3⟩ := pairs_split hl rs ep
    rw [ep, ← zip_keys q2] at e
    obtain ⟨ds', rfl, rr⟩ := fill_K (kvs := []) (ds := []) .nil q3 e
    obtain ⟨z1, z2, z3⟩ := s2.keepO (p := p) upd_same (by simp) (by simp) gn (R1.nio pn)
    have lz : kvs.length ≤ 15 := by
      have l1 := rs.length
      have l2 : ∀ kvs : List (Key × V), (flat2 (kvs.map fun kv => (kV kv.1, kv.2))).length = 2 * kvs.length := fun kvs => by
        induction kvs with
        | nil => rfl
        | cons q kvs ih =>
          show _ = 2 * (kvs.length + 1)
          have : (flat2 ((q :: kvs).map fun kv => (kV kv.1, kv.2))).length = (flat2 (kvs.map fun kv => (kV kv.1, kv.2))).length + 2 := rfl
          rw [this, ih]
          omega
      rw [l2] at l1
      omega
    refine ⟨z1, kvs, rfl, lz, ?_⟩
    obtain ⟨pl3, R3, hp3⟩ := R1.backN s2 R2 pn z3
    exact k _ G2 io2 pl3 p ((s1.trans s2).write hp (by simp)) (R3.write z1 (by simp) (by simp) hp3 z2) (.dK upd_same rr) hp3 z2 hp rfl
  · exact k.elim
theorem n_dct0 {pos : Pos} : PE X (.Dict [] [] pos) (tN Z T C W (.dct .nil)) := (pe_dnewK (X := X)).wk fun σ H Q q => by
  obtain ⟨G, io, pl, S, de, R, h⟩ := q
  intro p hp
  obtain ⟨R1, s1, pn, gn⟩ := R.laid hp (.dK [])
  exact h _ G io pl p s1 R1 (.dK (kvs := []) upd_same .nil) pn gn hp rfl
def rDictA (K : PySem.W.Frag) : List V → Hp → VK → Prop := fun xs H Q => (∃ (a : Addr) (ps : List Addr) (kvs : List (Key × V)), xs = [.ref a] ∧ SqL K H a (ps.map V.ref) ∧ Paired (fun p kv => SqT K H p [kV kv.1, kv.2]) ps kvs ∧
    ∀ p, H p = none → Q (.ref p) (upd H p (.dK (mergeK [] kvs)))) ∨ (∃ (a : Addr) (kvs : List (Key × V)), xs = [.ref a] ∧ Rd H a (.dK kvs) ∧ ∀ p, H p = none → Q (.ref p) (upd H p (.dK kvs)))
theorem call_dictA (hcalm : X.calm = true) : CallR X (.type "dict") (rDictA X.K) := (call_dictP hcalm).or call_dictD
theorem tups_of (gh : GH G H) {K : PySem.W.Frag} : ∀ {ls : List Key} {es : List D} {vs : List V}, ls.length = es.length → Reps Z G io vs ((ls.zip es).map fun p => D.tup [keyD p.1, p.2]) → ∃ (ps : List Addr) (kvs : List (Key × V)), vs = ps.map V.ref ∧ Paired (fun p kv => SqT K H p [kV kv.1, kv.2]) ps kvs ∧ kvs.map (·.1) = ls ∧ Reps Z G io (kvs.map (·.2)) es
  | [], [], vs, _, r => by
    cases r
    exact ⟨[], [], rfl, .nil, rfl, .nil⟩
  | [], _ :: _, _, h, _ => by simp at h
  | _ :: _, [], _, h, _ => by simp at h
  | l :: ls, e :: es, vs, h, r => by
    have r : Reps Z G io vs (D.tup [keyD l, e] :: (ls.zip es).map fun p => D.tup [keyD p.1, p.2]) := r
    cases r with
    | cons q t =>
      obtain ⟨ps, kvs, rfl, h2, h3, h4⟩ := tups_of gh (by simpa using h) t
      cases q with
      | tup g rr =>
        cases rr with
        | cons a1 b =>
          cases b with
          | cons a2 b =>
            cases b
            have e1 := (rep_key a1 (ky_keyD l)).1
            subst e1
            exact ⟨_ :: ps, (l, _) :: kvs, rfl, .cons (SqT.of ((gh _ _ g).same rfl)) h2, by rw [List.map_cons, h3], .cons a2 h4⟩
theorem ok_dict : PNok Z .dict (rDictA Z.K) := by
  intro H G io pl S de σ vs ds d Q R t e k
  match ds, t, e with
  | [.lst xs], t, e =>
    obtain ⟨v, rfl, tt⟩ := t.one rfl
    have e : dfill [] [] xs = some d := e
    obtain ⟨ls, es, hl, ep⟩ := fill_pairs e
    subst ep
    cases tt with
    | lst h r =>
      obtain ⟨ps, kvs, rfl, hp, h3, h4⟩ := tups_of (K := Z.K) R.gh hl r
      rw [← zip_keys h3] at e
      obtain ⟨ds', rfl, rr⟩ := fill_K (kvs := []) (ds := []) .nil h4 e
      exact .inl ⟨_, ps, kvs, rfl, SqL.of h, hp, fun p hp => k.dK (ks := []) R rr hp⟩
  | [.dct ks ws], t, e =>
    obtain ⟨v, rfl, tt⟩ := t.one rfl
    have e : some (D.dct ks ws) = some d := e
    generalize em : D.dct ks ws = m at tt
    cases tt with
    | @dK a kvs ds h r =>
      cases em
      cases e
      exact .inr ⟨_, _, rfl, h.rd, fun p hp => k.dK (ks := []) R r hp⟩
    | _ => cases em

/-! ### boxes -/
/-- a new container of one's own goes into the store -/
theorem Own.boxed (R : Rel Z H' G' io' pl' S' de σ) (s : Step H G io H' G' io') {p : Addr} {d : D} (ow : Own Z H' G' io' p d) (n : pl' p = none) (g : G' p = none) (h0 : H p = none) (f : isFresh d = true) : ∃ pl2, Rel Z H' G' (io' ++ [p]) pl2 (S' ++ [d]) de σ ∧ Step H G io H' G' (io' ++ [p]) ∧ (io' ++ [p])[S'.length]? = some p := by
  have hi : ∀ (k : Nat) (a : Addr), io'[k]? = some a → (io' ++ [p])[k]? = some a := fun k a h => by
    rw [List.getElem?_append_left (List.getElem?_eq_some_iff.mp h).1]
    exact h
  have ip : (io' ++ [p])[S'.length]? = some p := by
    rw [← R.bl, List.getElem?_append_right (Nat.le_refl _), Nat.sub_self]
    rfl
  let q : Plc := fun a => if a = p then some (.box S'.length) else pl' a
  have qn : ∀ a x, pl' a = some x → q a = some x := fun a x h => by
    show (if a = p then some (Pl.box S'.length) else pl' a) = some x
    rw [if_neg fun e => by rw [e, n] at h; cases h]
    exact h
  have ht : H' p ≠ none ∧ ∀ xs, H' p ≠ some (.tup xs) := by
    cases ow with
    | lst h r => rw [h]; simp
    | dK h r => rw [h]; simp
    | dT h r => rw [h]; simp
    | ins h r => cases f
  refine ⟨q, ⟨R.gh, R.len, fun k e he => ?_, by rw [List.length_append, List.length_append, R.bl]; rfl, fun k d' hd => ?_, fun a ha => ?_⟩, ⟨s.gg, s.gn, s.fr, ?_, s.al, s.tp⟩, ip⟩
  · obtain ⟨v, hv, r⟩ := R.slots k e he
    exact ⟨v, hv, r.mono (fun _ _ h => h) hi (fun a x _ h => qn a x h) (fun _ _ _ _ _ h => h) fun a dx h => ⟨h, fun g => g⟩⟩
  · by_cases c : k < S'.length
    · rw [List.getElem?_append_left c] at hd
      obtain ⟨a, ha, hpa, o⟩ := R.boxes k d' hd
      exact ⟨a, hi _ _ ha, qn _ _ hpa, o.mono (fun _ _ h => h) hi (fun _ h => h) fun c dx fs _ h => ⟨h, fun g => g⟩⟩
    · rw [List.getElem?_append_right (by omega)] at hd
      have : k = S'.length := by
        have := (List.getElem?_eq_some_iff.mp hd).1
        simp at this
        omega
      subst this
      rw [Nat.sub_self] at hd
      cases hd
      exact ⟨p, ip, if_pos rfl, ow.mono (fun _ _ h => h) hi (fun _ h => h) fun c dx fs _ h => ⟨h, fun g => g⟩⟩
  · by_cases e : a = p
    · subst e
      exact ⟨g, ht⟩
    · have : pl' a ≠ none := fun z => ha (show (if a = p then some (Pl.box S'.length) else pl' a) = none by rw [if_neg e]; exact z)
      exact R.plg a this
  · obtain ⟨m, e, hm⟩ := s.ext
    refine ⟨m ++ [p], by rw [e, List.append_assoc], fun a ha => ?_⟩
    rcases List.mem_append.mp ha with z | z
    · exact hm a z
    · rw [List.mem_singleton.mp z]
      exact h0
theorem s_boxed {a : IR} {e : Expr} (h : PE X e (tN Z T C W a)) : PE X e (tE Z T C W (.boxed a)) := h.wk fun σ H Q q => by
  obtain ⟨G, io, pl, S, de, R, h⟩ := q
  refine ⟨G, io, pl, S, de, R, (Fin.bnd (show Fin Z H G io de σ W ((ev T C de a S).bnd _) _ from h)).imp fun d S1 k H1 G1 io1 pl1 p s1 R1 ow n g h0 f => ?_⟩
  obtain ⟨pl2, R2, s2, ip⟩ := ow.boxed R1 s1 n g h0 f
  have k : ∀ H' G' io' pl' v, Step H G io H' G' io' → Rel Z H' G' io' pl' (S1 ++ [d]) de σ → Rep Z G' io' v (.box S1.length) → Q v H' := k
  exact k H1 G1 _ pl2 _ s2 R2 (.box ip)
/-- what is owned is written: everything else stays -/
theorem Rel.setBox (R : Rel Z H G io pl S de σ) {n : Nat} {a : Addr} {d d' : D} {u o : HO} (hS : S[n]? = some d) (ha : io[n]? = some a) (hp : pl a = some (.box n)) (hu : H a = some u) (hu1 : ∀ x, u ≠ .own x) (hu2 : ∀ xs, o ≠ .tup xs) (ow : Own Z (upd H a o) G io a d') : Rel Z (upd H a o) G io pl (S.set n d') de σ ∧ Step H G io (upd H a o) G io := by
  have ga := (R.plg a (by rw [hp]; exact Option.some_ne_none _)).1
  have ne : ∀ b q, pl b = some q → q ≠ .box n → b ≠ a := fun b q h hq e => by
    rw [e, hp] at h
    cases h
    exact hq rfl
  have hne : ∀ dx x, H dx = some (.own x) → dx ≠ a := fun dx x h e => by
    rw [e, hu] at h
    cases h
    exact hu1 x rfl
  have mem : a ∈ io := List.mem_of_getElem? ha
  refine ⟨⟨fun b w h => ?_, R.len, fun k e he => ?_, by rw [List.length_set]; exact R.bl, fun k dk hd => ?_, fun b hb => ?_⟩, ⟨fun _ _ h => h, fun b h => .inl h, fun b w h hi _ => .inl (by rw [upd_ne fun e => hi (by rw [e]; exact mem)]; exact h), ⟨[], by simp, by simp⟩, fun b h => ?_, fun b xs h => ?_⟩⟩
  · have e : b ≠ a := fun e => by
      rw [e, ga] at h
      cases h
    rcases R.gh b w h with q | ⟨i, o', q⟩
    · exact .inl (by rw [upd_ne e]; exact q)
    · exact .inr ⟨i, o', by rw [upd_ne e]; exact q⟩
  · obtain ⟨v, hv, r⟩ := R.slots k e he
    exact ⟨v, hv, r.mono (fun _ _ h => h) (fun _ _ h => h) (fun _ _ _ h => h) (fun b q w hq hn h => by rw [upd_ne (ne b q hq (hn n))]; exact h) fun b dx h => ⟨by rw [upd_ne (hne _ _ h)]; exact h, fun g => g⟩⟩
  · by_cases e : n = k
    · subst e
      rw [List.getElem?_set_self (List.getElem?_eq_some_iff.mp hS).1] at hd
      cases hd
      exact ⟨a, ha, hp, ow⟩
    · rw [List.getElem?_set_ne e] at hd
      obtain ⟨b, hb, hpb, o'⟩ := R.boxes k dk hd
      exact ⟨b, hb, hpb, o'.off hu hu1 (ne b _ hpb fun z => e (by cases z; rfl))⟩
  · by_cases e : b = a
    · subst e
      exact ⟨ga, by rw [upd_same]; exact Option.some_ne_none _, fun xs h => hu2 xs (by rw [upd_same] at h; exact Option.some.inj h)⟩
    · rw [upd_ne e]
      exact R.plg b hb
  · by_cases e : b = a
    · rw [e, upd_same]
      exact Option.some_ne_none _
    · rw [upd_ne e]
      exact h
  · by_cases e : b = a
    · rw [e, upd_same] at h
      exact absurd (Option.some.inj h) (hu2 xs)
    · rw [upd_ne e] at h
      exact .inl h
theorem Reps.erase {vs : List V} {ds : List D} (r : Reps Z G io vs ds) (k : Nat) : Reps Z G io (vs.eraseIdx k) (ds.eraseIdx k) := by
  induction k generalizing vs ds with
  | zero =>
    cases r with
    | nil => exact .nil
    | cons h t => exact t
  | succ k ih =>
    cases r with
    | nil => exact .nil
    | cons h t => exact .cons h (ih t)
theorem Reps.dropLast {vs : List V} {ds : List D} (r : Reps Z G io vs ds) : Reps Z G io vs.dropLast ds.dropLast := by
  induction ds generalizing vs with
  | nil => cases r; exact .nil
  | cons d ds ih =>
    cases r with
    | cons h t =>
      cases t with
      | nil => exact .nil
      | cons h2 t2 => exact .cons h (ih (.cons h2 t2))
theorem s_bpop0 {a : IR} {e : Expr} {apos cpos : Pos} (hK : X.K = Z.K) (ha : PE X e (tE Z T C W a)) (hbase : attributeBase e "pop" X.env (eval e X.env) = eval e X.env := by rfl) (hline : (apos.endLine == cpos.line) = true := by rfl) : PE X (.Call (.Attribute e "pop" apos) [] [] cpos) (tE Z T C W (.bpop a .nil)) := (pe_bm0 PySem.F.plainAttrs_list PySem.F.slot_list_pop PySem.F.type_list_pop mt_pop ha hbase hline).wk fun σ H Q q => by
  obtain ⟨G, io, pl, S, de, R, h⟩ := q
  refine ⟨G, io, pl, S, de, R, (Fin.bnd (show Fin Z H G io de σ W ((ev T C de a S).bnd _) _ from h)).imp fun x S1 k H1 G1 io1 pl1 v s1 R1 r => ?_⟩
  cases r <;> first | exact (k : False).elim | skip
  rename_i p n hp
  have k := Fin.bnd (show Fin Z H G io de σ W ((isBoxL (.box n) S1).bnd _) _ from k)
  have k : Fin Z H G io de σ W ((match S1[n]? with | some (.lst _) => .ok () S1 | _ => .bad : Res Unit)) _ := k
  cases hS : S1[n]? with
  | none => rw [hS] at k; exact k.elim
  | some d =>
    rw [hS] at k
    cases d <;> first | exact (k : False).elim | skip
    rename_i xs
    have k : Fin Z H G io de σ W (popR (.box n) none S1) _ := k
    unfold popR at k
    dsimp only at k
    rw [hS] at k
    have k : Fin Z H G io de σ W (popLast n xs S1) _ := k
    unfold popLast at k
    cases hy : xs[xs.length - 1]? with
    | none => rw [hy] at k; exact k.elim
    | some y =>
      rw [hy] at k
      obtain ⟨p', hp', hpl, ow⟩ := R1.boxes n _ hS
      rw [hp] at hp'
      cases hp'
      cases ow with
      | lst h r =>
        obtain ⟨w, hw, rw'⟩ := r.get hy
        rw [← r.length] at hw
        obtain ⟨R2, s2⟩ := R1.setBox hS hp hpl h (by simp) (by simp) (.lst upd_same r.dropLast)
        exact ⟨.inl ⟨rfl, _, SqL.of h⟩, _, _, w, rfl, rfl, h, hw, k _ _ _ _ _ (s1.trans s2) R2 (rw'.step s2)⟩
theorem s_bpop1 {a i : IR} {e f : Expr} {apos cpos : Pos} (hK : X.K = Z.K) (ha : PE X e (tE Z T C W a)) (hi : PE X f (tE Z T C W i)) (hbase : attributeBase e "pop" X.env (eval e X.env) = eval e X.env := by rfl)
    (hfew : ((backTo cpos (starEach [f] X.env)).all (fun x => !x.1) && (backToKw cpos (keywordEach [] X.env)).all (fun x => x.1.isSome)
      && decide ([f].length + ([] : List Keyword).length + (if ([] : List Keyword).isEmpty then 0 else 1) < 30)) = true := by rfl)
    (hline : (apos.endLine == cpos.line) = true := by rfl) (hs : starEach [f] X.env = (false, eval f X.env) :: starEach [] X.env := by rfl) (hplain : (backTo cpos (starEach [] X.env)).any (·.1) = false := by rfl) : PE X (.Call (.Attribute e "pop" apos) [f] [] cpos) (tE Z T C W (.bpop a (.cons i .nil))) := (pe_bm PySem.F.plainAttrs_list PySem.F.slot_list_pop PySem.F.type_list_pop mt_popAt ha (pa_cons hi pa_nil hs) hbase hfew hline hs hplain).wk fun σ H Q q => by
  obtain ⟨G, io, pl, S, de, R, h⟩ := q
  refine ⟨G, io, pl, S, de, R, (Fin.bnd (show Fin Z H G io de σ W ((ev T C de a S).bnd _) _ from h)).imp fun x S1 k H1 G1 io1 pl1 v s1 R1 r => ?_⟩
  cases r <;> first | exact (k : False).elim | skip
  rename_i p n hp
  have k := Fin.bnd (show Fin Z H G io de σ W ((isBoxL (.box n) S1).bnd _) _ from k)
  have k : Fin Z H G io de σ W ((match S1[n]? with | some (.lst _) => .ok () S1 | _ => .bad : Res Unit)) _ := k
  cases hS : S1[n]? with
  | none => rw [hS] at k; exact k.elim
  | some d =>
    rw [hS] at k
    cases d <;> first | exact (k : False).elim | skip
    rename_i xs
    have k := Fin.bnd (show Fin Z H G io de σ W ((evo T C de (.cons i .nil) S1).bnd _) _ from k)
    have k := Fin.bnd (show Fin Z H G io de σ W ((ev T C de i S1).bnd _) _ from k)
    obtain ⟨p', hp', hpl, ow⟩ := R1.boxes n _ hS
    rw [hp] at hp'
    cases hp'
    cases ow with
    | lst h r =>
      refine ⟨.inl ⟨rfl, _, SqL.of h⟩, G1, io1, pl1, S1, de, R1, k.at s1 fun y S2 k2 H2 G2 io2 pl2 u s2 R2 r2 => ?_⟩
      cases r2 <;> first | exact (k2 : False).elim | skip
      rename_i j
      have k2 : Fin Z H G io de σ W (popR (.box n) (some j) S2) _ := k2
      unfold popR at k2
      dsimp only at k2
      have hp2 := ext_get s2 hp
      cases hS2 : S2[n]? with
      | none => rw [hS2] at k2; exact k2.elim
      | some d2 =>
        rw [hS2] at k2
        cases d2 <;> first | exact (k2 : False).elim | skip
        rename_i ys
        have k2 : Fin Z H G io de σ W (popAt n ys j S2) _ := k2
        unfold popAt at k2
        split at k2
        · rename_i hz
          cases hq : ixN ys.length j with
          | none => rw [hq] at k2; exact k2.elim
          | some q =>
            rw [hq] at k2
            dsimp only at k2
            cases hy : ys[q]? with
            | none => rw [hy] at k2; exact k2.elim
            | some y =>
              rw [hy] at k2
              obtain ⟨p3, hp3, hpl3, ow3⟩ := R2.boxes n _ hS2
              rw [hp2] at hp3
              cases hp3
              cases ow3 with
              | lst h3 r3 =>
                obtain ⟨w, hw, rw'⟩ := r3.get hy
                obtain ⟨R3, s3⟩ := R2.setBox hS2 hp2 hpl3 h3 (by simp) (by simp) (.lst upd_same (r3.erase q))
                have hq' := (ixN_seq hq).1
                rw [← r3.length] at hq'
                exact ⟨_, _, j, q, w, rfl, rfl, h3, by omega, by omega, hq', hw, k2 _ _ _ _ _ ((s1.trans s2).trans s3) R3 (rw'.step s3)⟩
        · exact k2.elim

/-! ### calls -/
/-- what a def promises -/
def spD (Z : Zc) (C : Calls) (f : Nat) (n : Nat) : Sp := fun vs H Q E => vs.length = n ∧ ∃ G io pl S ds, Rel Z H G io pl S [] [] ∧ Reps Z G io vs ds ∧ Fin Z H G io [] [] (fun cls dd _ H' => E cls dd H') (C f ds S) fun r S' => ∀ H' G' io' pl' v, Step H G io H' G' io' → Rel Z H' G' io' pl' S' [] [] → Rep Z G' io' v r.1 → Q v H'
theorem Rel.bare (R : Rel Z H G io pl S de σ) : Rel Z H G io pl S [] [] := ⟨R.gh, rfl, fun i e h => by simp at h, R.bl, R.boxes, R.plg⟩
theorem call_go {n f : Nat} {E : XK} {Q : VK} {vs : List V} {ds : List D} {K : D × Bool → Store → Prop} (hE : ∀ cls d σ H, W cls d σ H → E cls d H) (R : Rel Z H G io pl S de σ) (r : Reps Z G io vs ds) (hn : vs.length = n) (h : Fin Z H G io de σ W (C f ds S) K)
    (k : ∀ x S', K x S' → ∀ H' G' io' pl' v, Step H G io H' G' io' → Rel Z H' G' io' pl' S' de σ → Rep Z G' io' v x.1 → Q v H') : spD Z C f n vs H Q E := by
  refine ⟨hn, G, io, pl, S, ds, R.bare, r, ?_⟩
  generalize C f ds S = rr at h
  cases rr with
  | bad => exact h.elim
  | exc c fs S' =>
    intro H' G' io' pl' cls dd s R' x
    obtain ⟨pl2, R2, _⟩ := R.back s R'
    exact hE _ _ σ _ (h H' G' io' pl2 cls dd s R2 x)
  | ok x S' =>
    intro H' G' io' pl' v s R' rv
    obtain ⟨pl2, R2, _⟩ := R.back s R'
    exact k x S' h H' G' io' pl2 v s R2 rv
theorem tE_call {f n : Nat} {a : IR} {E : XK} {Q : VK} (hE : ∀ cls d σ H, W cls d σ H → E cls d H) (hn : ∀ {ds S r S'}, C f ds S = .ok r S' → ds.length = n) (hx : ∀ {ds S}, ds.length ≠ n → C f ds S = .bad) (q : tE Z T C W (.call f a) σ H Q) : tCall (spD Z C f n) [] E (tL Z T C W a) σ H Q := by
  obtain ⟨G, io, pl, S, de, R, h⟩ := q
  refine ⟨G, io, pl, S, de, R, (Fin.bnd (show Fin Z H G io de σ W ((evl T C de a S).bnd _) _ from h)).imp fun ds S1 k H1 G1 io1 pl1 vs s1 R1 r => ?_⟩
  show spD Z C f n (vs ++ []) H1 Q E
  rw [List.append_nil]
  have k := Fin.bnd (show Fin Z H G io de σ W ((C f ds S1).bnd _) _ from k)
  have hl : ds.length = n := by
    refine Decidable.byContradiction fun z => ?_
    rw [hx z] at k
    exact k
  exact call_go hE R1 r (by rw [r.length]; exact hl) (k.at s1 fun _ _ z => z) fun x S2 k2 H2 G2 io2 pl2 v s2 R2 rv => k2 H2 G2 io2 pl2 v (s1.trans s2) R2 rv
end
end Y
/-! Y12: statements. -/
namespace Y
open PySem L2

section
variable {bs : List (Hp × Hp × List Addr)} {Z : Zc} {T : Tb} {C : Calls} {W : WX} {X : Cx} {N : Nat} {H G H' G' H1 G1 H0 G0 : Hp} {io io' io1 io0 : List Addr} {pl pl' : Plc} {S S' : Store} {de : Env} {σ : L2.St}
/-- since the entry: one's own containers are new -/
structure Bs (bs : List (Hp × Hp × List Addr)) (H0 G0 : Hp) (io0 : List Addr) (H G : Hp) (io : List Addr) (pl : Plc) : Prop where
  st : Step H0 G0 io0 H G io
  kp : ∀ b ∈ bs, Kp b.1 b.2.1 b.2.2 H G io
  nw : ∀ a p, (∀ n, p ≠ Pl.box n) → pl a = some p → H0 a = none
theorem Bs.next (B : Bs bs H0 G0 io0 H G io pl) (R : Rel Z H G io pl S de σ) (s : Step H G io H' G' io') {de' : Env} {σ' : L2.St} (R' : Rel Z H' G' io' pl' S' de' σ') : ∃ pl2, Rel Z H' G' io' pl2 S' de σ ∧ Bs bs H0 G0 io0 H' G' io' pl2 ∧ ∀ a p, (∀ n, p ≠ Pl.box n) → (pl2 a = some p ↔ pl a = some p) := by
  obtain ⟨pl2, R2, iff⟩ := R.back s R'
  exact ⟨pl2, R2, ⟨B.st.trans s, fun b hb => (B.kp b hb).trans (.of R s), fun a p hn h => B.nw a p hn ((iff a p hn).mp h)⟩, iff⟩
def FinS (bs : List (Hp × Hp × List Addr)) (Z : Zc) (H0 G0 : Hp) (io0 : List Addr) (W : WX) (r : Res Out) (D : Ends) : Prop := match r with
  | .ok (.nx de') S' => ∀ H' G' io' pl' σ', Rel Z H' G' io' pl' S' de' σ' → Bs bs H0 G0 io0 H' G' io' pl' → D.nx σ' H'
  | .ok (.bk de') S' => ∀ H' G' io' pl' σ', Rel Z H' G' io' pl' S' de' σ' → Bs bs H0 G0 io0 H' G' io' pl' → D.bk σ' H'
  | .ok (.ct de') S' => ∀ H' G' io' pl' σ', Rel Z H' G' io' pl' S' de' σ' → Bs bs H0 G0 io0 H' G' io' pl' → D.ct σ' H'
  | .ok (.rtv d _) S' => ∀ H' G' io' pl' de' σ' v, Rel Z H' G' io' pl' S' de' σ' → Bs bs H0 G0 io0 H' G' io' pl' → Rep Z G' io' v d → D.rt v H'
  | .exc c fs S' => ∀ H' G' io' pl' de' σ' cls dd, Rel Z H' G' io' pl' S' de' σ' → Bs bs H0 G0 io0 H' G' io' pl' → ExcR Z H' G' io' cls dd c fs → W cls dd σ' H'
  | .bad => False
def tS (Z : Zc) (T : Tb) (C : Calls) (W : WX) (N : Nat) (ir : IR) : TS := fun D σ H => ∃ bs H0 G0 io0 G io pl S de, Rel Z H G io pl S de σ ∧ Bs bs H0 G0 io0 H G io pl ∧ FinS bs Z H0 G0 io0 W (st T C N de ir S) D
def tSs (Z : Zc) (T : Tb) (C : Calls) (W : WX) (N : Nat) (ir : IR) : TS := fun D σ H => ∃ bs H0 G0 io0 G io pl S de, Rel Z H G io pl S de σ ∧ Bs bs H0 G0 io0 H G io pl ∧ FinS bs Z H0 G0 io0 W (sts T C N de ir S) D
theorem _root_.L2.PS.wk {st : Stmt} {t t' : TS} (h : PS X st t) (w : ∀ D σ H, t' D σ H → t D σ H) : PS X st t' := ⟨fun pn s σ H D J q => h.run pn s σ H D J (w D σ H q)⟩
theorem _root_.L2.PSs.wk {st : List Stmt} {t t' : TS} (h : PSs X st t) (w : ∀ D σ H, t' D σ H → t D σ H) : PSs X st t' := ⟨fun pn s σ H D J q => h.run pn s σ H D J (w D σ H q)⟩
/-- an expression, a test, .. in front -/
theorem FinS.bnd {α : Type} {r : Res α} {f : α → M Out} {D : Ends} (R : Rel Z H G io pl S de σ) (B : Bs bs H0 G0 io0 H G io pl) (h : FinS bs Z H0 G0 io0 W (r.bnd f) D) : Fin Z H G io de σ W r fun a S1 => FinS bs Z H0 G0 io0 W (f a S1) D := by
  cases r with
  | ok a S1 => exact h
  | exc c fs S1 =>
    intro H' G' io' pl' cls dd s R' x
    obtain ⟨pl2, R2, B2, _⟩ := B.next R s R'
    exact h H' G' io' pl2 de σ cls dd R2 B2 x
  | bad => exact h
theorem FinS.tryL {α : Type} {o : Option α} {f : α → M Out} {D : Ends} (h : FinS bs Z H0 G0 io0 W (Y.tryL o f S) D) : ∃ a, o = some a ∧ FinS bs Z H0 G0 io0 W (f a S) D := by
  cases o with
  | none => exact h.elim
  | some a => exact ⟨a, rfl, h⟩

/-! ### values and containers of one's own -/
theorem Rel.claim (R : Rel Z H G io pl S de σ) {p : Addr} {d : D} (ow : Own Z H G io p d) (n : pl p = none) (g : G p = none) (f : isFresh d = true) (q : Pl) : Rel Z H G io (fun a => if a = p then some q else pl a) S de σ := by
  have qn : ∀ a x, pl a = some x → (if a = p then some q else pl a) = some x := fun a x h => by
    rw [if_neg fun e => by rw [e, n] at h; cases h]
    exact h
  have ht : H p ≠ none ∧ ∀ xs, H p ≠ some (.tup xs) := by
    cases ow with
    | lst h r => rw [h]; simp
    | dK h r => rw [h]; simp
    | dT h r => rw [h]; simp
    | ins h r => cases f
  refine ⟨R.gh, R.len, fun k e he => ?_, R.bl, fun k d' hd => ?_, fun a ha => ?_⟩
  · obtain ⟨v, hv, r⟩ := R.slots k e he
    exact ⟨v, hv, r.mono (fun _ _ h => h) (fun _ _ h => h) (fun a x _ h => qn a x h) (fun _ _ _ _ _ h => h) fun a dx h => ⟨h, fun g => g⟩⟩
  · obtain ⟨a, ha, hpa, o⟩ := R.boxes k d' hd
    exact ⟨a, ha, qn _ _ hpa, o⟩
  · by_cases e : a = p
    · subst e
      exact ⟨g, ht⟩
    · have ha : (if a = p then some q else pl a) ≠ none := ha
      rw [if_neg e] at ha
      exact R.plg a ha
theorem Own.later (ow : Own Z H G io a d) (s : Step H G io H' G' io') (f : isFresh d = true) (g : G a = none) (n : a ∉ io) : Own Z H' G' io' a d := by
  cases ow with
  | lst h r => exact .lst (s.keepO h (by simp) (by simp) g n).1 (r.step s)
  | dK h r => exact .dK (s.keepO h (by simp) (by simp) g n).1 (r.step s)
  | dT h r => exact .dT (s.keepO h (by simp) (by simp) g n).1 (r.step s)
  | ins h r => cases f
/-- a value, or a container of one's own that will stand in slot i -/
def PV (Z : Zc) (f : Bool) (i : Nat) (H G : Hp) (io : List Addr) (pl : Plc) (v : V) (d : D) : Prop := (f = false ∧ Rep Z G io v d) ∨ (f = true ∧ ∃ p, v = .ref p ∧ pl p = some (.slot i) ∧ Own Z H G io p d ∧ isFresh d = true)
theorem PV.keep {f : Bool} {i : Nat} {v : V} {d : D} (x : PV Z f i H G io pl v d) (R : Rel Z H G io pl S de σ) (s : Step H G io H' G' io') (k : ∀ a p, (∀ n, p ≠ Pl.box n) → pl a = some p → pl' a = some p) : PV Z f i H' G' io' pl' v d := by
  rcases x with ⟨e, r⟩ | ⟨e, p, ev, hp, ow, fr⟩
  · exact .inl ⟨e, r.step s⟩
  · have g := (R.plg p (by rw [hp]; exact Option.some_ne_none _)).1
    have n : p ∉ io := fun hm => by
      obtain ⟨n, hl, e⟩ := List.mem_iff_getElem.mp hm
      have h2 : io[n]? = some p := by rw [List.getElem?_eq_getElem hl, e]
      obtain ⟨b, hb, hpb, _⟩ := R.boxes n (S[n]'(by rw [← R.bl]; exact hl)) (List.getElem?_eq_getElem _)
      rw [h2] at hb
      cases hb
      rw [hp] at hpb
      cases hpb
    exact .inr ⟨e, p, ev, k _ _ (fun n => by simp) hp, ow.later s fr g n, fr⟩
theorem Rel.setPV (R : Rel Z H G io pl S de σ) {f : Bool} {i : Nat} {v : V} {d : D} (x : PV Z f i H G io pl v d) : Rel Z H G io pl S (de.set i (some (slotV f d))) (σ.set i (some v)) := by
  refine ⟨R.gh, by simp [R.len], fun k e he => ?_, R.bl, R.boxes, R.plg⟩
  by_cases q : i = k
  · subst q
    have hi : i < (de.set i (some (slotV f d))).length := (List.getElem?_eq_some_iff.mp he).1
    rw [List.length_set] at hi
    rw [List.getElem?_set_self hi] at he
    cases he
    refine ⟨v, by rw [List.getElem?_set_self (by rw [← R.len]; exact hi)], ?_⟩
    rcases x with ⟨rfl, r⟩ | ⟨rfl, p, ev, hp, ow, fr⟩
    · exact r
    · exact ⟨p, ev, hp, ow⟩
  · rw [List.getElem?_set_ne q] at he
    obtain ⟨w, hw, r'⟩ := R.slots k e he
    exact ⟨w, by rw [List.getElem?_set_ne q]; exact hw, r'⟩
def tF (Z : Zc) (T : Tb) (C : Calls) (W : WX) (f : Bool) (ir : IR) : TE := match f with
  | true => tN Z T C W ir
  | false => tE Z T C W ir
theorem tF_go {f : Bool} {i : Nat} {ir : IR} {Q : VK} (R : Rel Z H G io pl S de σ) (B : Bs bs H0 G0 io0 H G io pl) (h : Fin Z H G io de σ W (ev T C de ir S) fun d S' => ∀ H' G' io' pl' v, Step H G io H' G' io' → Rel Z H' G' io' pl' S' de σ → Bs bs H0 G0 io0 H' G' io' pl' → (∀ a p, (∀ n, p ≠ Pl.box n) → pl a = some p → pl' a = some p) → PV Z f i H' G' io' pl' v d → Q v H') : tF Z T C W f ir σ H Q := by
  cases f with
  | false =>
    refine ⟨G, io, pl, S, de, R, h.imp fun d S1 k H1 G1 io1 pl1 v s1 R1 r => ?_⟩
    obtain ⟨pl2, R2, B2, iff⟩ := B.next R s1 R1
    exact k H1 G1 io1 pl2 v s1 R2 B2 (fun a p hn h => (iff a p hn).mpr h) (.inl ⟨rfl, r⟩)
  | true =>
    refine ⟨G, io, pl, S, de, R, h.imp fun d S1 k H1 G1 io1 pl1 p s1 R1 ow n g h0 fr => ?_⟩
    obtain ⟨pl2, R2, B2, iff⟩ := B.next R s1 R1
    have np : p ∉ io1 := R1.nio n
    have hp : pl p = none := by
      cases q : pl p with
      | none => rfl
      | some u => exact absurd h0 (R.plg p (by rw [q]; exact Option.some_ne_none _)).2.1
    have R3 := R2.clean (p := p) (fun q hq => by
      cases q with
      | box n => exact ⟨n, rfl⟩
      | slot i => exact absurd ((iff p _ fun n => by simp).mp hq) (by rw [hp]; simp)
      | fld i => exact absurd ((iff p _ fun n => by simp).mp hq) (by rw [hp]; simp)) np
    have R4 := R3.claim ow (if_pos rfl) g fr (.slot i)
    refine k H1 G1 io1 _ (.ref p) s1 R4 ⟨B2.st, B2.kp, fun a q hn hq => ?_⟩ (fun a q hn hq => ?_) (.inr ⟨rfl, p, rfl, if_pos rfl, ow, fr⟩)
    · by_cases e : a = p
      · subst e
        exact B.st.none h0
      · have hq : (if a = p then some (Pl.slot i) else if a = p then none else pl2 a) = some q := hq
        rw [if_neg e, if_neg e] at hq
        exact B2.nw a q hn hq
    · have e : a ≠ p := fun e => by
        rw [e, hp] at hq
        cases hq
      show (if a = p then some (Pl.slot i) else if a = p then none else pl2 a) = some q
      rw [if_neg e, if_neg e]
      exact (iff a q hn).mpr hq

/-! ### assignments -/
/-- target = value, known -/
theorem s_asg {stm : Stmt} {e g : IR} {te : TE} {tg : TG} (h : PS X stm (tAsg te tg)) (he : ∀ σ H Q, tE Z T C W e σ H Q → te σ H Q) (hg : ∀ v σ H Q, tG Z g v σ H Q → tg v σ H Q) : PS X stm (tS Z T C W N (.set g e)) := h.wk fun D σ H q => by
  obtain ⟨bs, H0, G0, io0, G, io, pl, S, de, R, B, h⟩ := q
  refine he σ H _ ⟨G, io, pl, S, de, R, (FinS.bnd R B (show FinS bs Z H0 G0 io0 W ((ev T C de e S).bnd _) D from h)).imp fun d S1 k H1 G1 io1 pl1 v s1 R1 r => ?_⟩
  obtain ⟨d1, ha, k⟩ := k.tryL
  obtain ⟨pl2, R2, B2, _⟩ := B.next R s1 R1
  exact hg v σ H1 _ ⟨G1, io1, pl2, S1, de, d, d1, R2, r, ha, fun σ' R' _ _ => k H1 G1 io1 pl2 σ' R' B2⟩
/-- name = a new container -/
theorem s_seto {stm : Stmt} {e : IR} {i : Nat} {te : TE} (h : PS X stm (tAsg te (gName i))) (he : ∀ σ H Q, tN Z T C W e σ H Q → te σ H Q) : PS X stm (tS Z T C W N (.seto i e)) := h.wk fun D σ H q => by
  obtain ⟨bs, H0, G0, io0, G, io, pl, S, de, R, B, h⟩ := q
  have x : tF Z T C W true e σ H fun x H1 => gName i x σ H1 D.nx := tF_go (i := i) R B ((FinS.bnd R B (show FinS bs Z H0 G0 io0 W ((ev T C de e S).bnd _) D from h)).imp fun d S1 k => by
    have k : FinS bs Z H0 G0 io0 W ((if (isFresh d && decide (i < de.length)) = true then ret (.nx (de.set i (some (.own d)))) else fail : M Out) S1) D := k
    split at k
    · exact fun H1 G1 io1 pl1 v s1 R1 B1 _ x => k H1 G1 io1 pl1 _ (R1.setPV x) B1
    · exact k.elim)
  exact he σ H _ x
/-- several names at once -/
def tFs (Z : Zc) (T : Tb) (C : Calls) (W : WX) : List (Nat × Bool) → IR → TA
  | (_, f) :: ts, .cons a t => tCons (tF Z T C W f a) (tFs Z T C W ts t)
  | _, _ => tNil
inductive PVs (Z : Zc) (H G : Hp) (io : List Addr) (pl : Plc) : List (Nat × Bool) → List V → List D → Prop where
  | nil : PVs Z H G io pl [] [] []
  | cons {i : Nat} {f : Bool} {v : V} {d : D} {ts : List (Nat × Bool)} {vs : List V} {ds : List D} (h : PV Z f i H G io pl v d) (t : PVs Z H G io pl ts vs ds) : PVs Z H G io pl ((i, f) :: ts) (v :: vs) (d :: ds)
def parOk : List (Nat × Bool) → IR → Bool
  | [], .nil => true
  | _ :: ts, .cons _ t => parOk ts t
  | _, _ => false
theorem par_go : ∀ (ts : List (Nat × Bool)) (es : IR), parOk ts es = true → ∀ {H G : Hp} {io : List Addr} {pl : Plc} {S : Store} {Q : List V → Hp → Prop}, Rel Z H G io pl S de σ → Bs bs H0 G0 io0 H G io pl →
    Fin Z H G io de σ W (evl T C de es S) (fun ds S' => ∀ H' G' io' pl' vs, Step H G io H' G' io' → Rel Z H' G' io' pl' S' de σ → Bs bs H0 G0 io0 H' G' io' pl' → (∀ a p, (∀ n, p ≠ Pl.box n) → pl a = some p → pl' a = some p) → PVs Z H' G' io' pl' ts vs ds → Q vs H') → tFs Z T C W ts es σ H Q
  | [], .nil, _, H, G, io, pl, S, Q, R, B, h => h H G io pl [] .refl R B (fun _ _ _ h => h) .nil
  | (i, f) :: ts, .cons a t, ok, H, G, io, pl, S, Q, R, B, h => by
    have h := Fin.bnd (show Fin Z H G io de σ W ((ev T C de a S).bnd _) _ from h)
    refine tF_go (i := i) R B (h.imp fun d S1 k H1 G1 io1 pl1 v s1 R1 B1 kp x => ?_)
    have k := Fin.bnd (show Fin Z H G io de σ W ((evl T C de t S1).bnd _) _ from k)
    refine par_go ts t ok R1 B1 (k.at s1 fun ds S2 k2 H2 G2 io2 pl2 vs s2 R2 B2 kp2 xs => ?_)
    exact k2 H2 G2 io2 pl2 (v :: vs) (s1.trans s2) R2 B2 (fun a p hn h => kp2 a p hn (kp a p hn h)) (.cons (x.keep R1 s2 kp2) xs)
theorem s_par2 {stm : Stmt} {i j : Nat} {fi fj : Bool} {es : IR} (h : PS X stm (tPar i j (tFs Z T C W [(i, fi), (j, fj)] es))) (ok : parOk [(i, fi), (j, fj)] es = true := by rfl) : PS X stm (tS Z T C W N (.par [(i, fi), (j, fj)] es)) := h.wk fun D σ H q => by
  obtain ⟨bs, H0, G0, io0, G, io, pl, S, de, R, B, h⟩ := q
  refine par_go _ es ok R B ((FinS.bnd R B (show FinS bs Z H0 G0 io0 W ((evl T C de es S).bnd _) D from h)).imp fun ds S1 k H1 G1 io1 pl1 vs s1 R1 B1 _ xs => ?_)
  obtain ⟨d1, hp, k⟩ := k.tryL
  cases xs with
  | @cons _ _ v d _ _ _ x xs =>
    cases xs with
    | @cons _ _ w e _ _ _ y xs =>
      cases xs
      refine ⟨v, w, rfl, ?_⟩
      have hp : (if ((!fi || isFresh d) && decide (i < de.length)) = true then (if ((!fj || isFresh e) && decide (j < (de.set i (some (slotV fi d))).length)) = true then some ((de.set i (some (slotV fi d))).set j (some (slotV fj e))) else none) else none) = some d1 := hp
      split at hp <;> first | (cases hp; done) | skip
      split at hp <;> cases hp
      exact k H1 G1 io1 pl1 _ ((R1.setPV x).setPV y) B1
theorem s_par3 {stm : Stmt} {i j l : Nat} {fi fj fl : Bool} {es : IR} (h : PS X stm (tPar3 i j l (tFs Z T C W [(i, fi), (j, fj), (l, fl)] es))) (ok : parOk [(i, fi), (j, fj), (l, fl)] es = true := by rfl) : PS X stm (tS Z T C W N (.par [(i, fi), (j, fj), (l, fl)] es)) := h.wk fun D σ H q => by
  obtain ⟨bs, H0, G0, io0, G, io, pl, S, de, R, B, h⟩ := q
  refine par_go _ es ok R B ((FinS.bnd R B (show FinS bs Z H0 G0 io0 W ((evl T C de es S).bnd _) D from h)).imp fun ds S1 k H1 G1 io1 pl1 vs s1 R1 B1 _ xs => ?_)
  obtain ⟨d1, hp, k⟩ := k.tryL
  cases xs with
  | @cons _ _ v d _ _ _ x xs =>
    cases xs with
    | @cons _ _ w e _ _ _ y xs =>
      cases xs with
      | @cons _ _ u c _ _ _ z xs =>
        cases xs
        refine ⟨v, w, u, rfl, ?_⟩
        have hp : (if ((!fi || isFresh d) && decide (i < de.length)) = true then (if ((!fj || isFresh e) && decide (j < (de.set i (some (slotV fi d))).length)) = true then (if ((!fl || isFresh c) && decide (l < ((de.set i (some (slotV fi d))).set j (some (slotV fj e))).length)) = true then some (((de.set i (some (slotV fi d))).set j (some (slotV fj e))).set l (some (slotV fl c))) else none) else none) else none) = some d1 := hp
        split at hp <;> first | (cases hp; done) | skip
        split at hp <;> first | (cases hp; done) | skip
        split at hp <;> cases hp
        exact k H1 G1 io1 pl1 _ (((R1.setPV x).setPV y).setPV z) B1

/-! ### small statements -/
theorem s_xpr {stm : Stmt} {e : IR} {te : TE} (h : PS X stm (tDrop te)) (he : ∀ σ H Q, tE Z T C W e σ H Q → te σ H Q) : PS X stm (tS Z T C W N (.xpr e)) := h.wk fun D σ H q => by
  obtain ⟨bs, H0, G0, io0, G, io, pl, S, de, R, B, h⟩ := q
  refine he σ H _ ⟨G, io, pl, S, de, R, (FinS.bnd R B (show FinS bs Z H0 G0 io0 W ((ev T C de e S).bnd _) D from h)).imp fun d S1 k H1 G1 io1 pl1 v s1 R1 r => ?_⟩
  obtain ⟨pl2, R2, B2, _⟩ := B.next R s1 R1
  exact k H1 G1 io1 pl2 σ R2 B2
theorem s_rt {stm : Stmt} {e : IR} {te : TE} (h : PS X stm (tRet te)) (he : ∀ σ H Q, tE Z T C W e σ H Q → te σ H Q) : PS X stm (tS Z T C W N (.rt e)) := h.wk fun D σ H q => by
  obtain ⟨bs, H0, G0, io0, G, io, pl, S, de, R, B, h⟩ := q
  refine he σ H _ ⟨G, io, pl, S, de, R, (FinS.bnd R B (show FinS bs Z H0 G0 io0 W ((ev T C de e S).bnd _) D from h)).imp fun d S1 k H1 G1 io1 pl1 v s1 R1 r => ?_⟩
  obtain ⟨pl2, R2, B2, _⟩ := B.next R s1 R1
  exact k H1 G1 io1 pl2 de σ v R2 B2 r
theorem s_rtn {stm : Stmt} (h : PS X stm tRetN) : PS X stm (tS Z T C W N .rtn) := h.wk fun D σ H q => by
  obtain ⟨bs, H0, G0, io0, G, io, pl, S, de, R, B, h⟩ := q
  exact h H G io pl de σ .non R B .non
theorem s_pas {stm : Stmt} (h : PS X stm tNext) : PS X stm (tS Z T C W N .pas) := h.wk fun D σ H q => by
  obtain ⟨bs, H0, G0, io0, G, io, pl, S, de, R, B, h⟩ := q
  exact h H G io pl σ R B
theorem s_brk {stm : Stmt} (h : PS X stm tBreak) : PS X stm (tS Z T C W N .brk) := h.wk fun D σ H q => by
  obtain ⟨bs, H0, G0, io0, G, io, pl, S, de, R, B, h⟩ := q
  exact h H G io pl σ R B
theorem s_cnt {stm : Stmt} (h : PS X stm tCont) : PS X stm (tS Z T C W N .cnt) := h.wk fun D σ H q => by
  obtain ⟨bs, H0, G0, io0, G, io, pl, S, de, R, B, h⟩ := q
  exact h H G io pl σ R B
theorem s_never {stm : Stmt} : PS X stm (tS Z T C W N .never) := (ps_never (X := X)).wk fun D σ H q => by
  obtain ⟨bs, H0, G0, io0, G, io, pl, S, de, R, B, h⟩ := q
  exact h.elim
theorem s_cond {stm : Stmt} {c a b : IR} {tc : TT} {t u : TS} (h : PS X stm (tIfS tc t u)) (hc : ∀ σ H Q, tT Z T C W c σ H Q → tc σ H Q) (ha : ∀ D σ H, tSs Z T C W N a D σ H → t D σ H) (hb : ∀ D σ H, tSs Z T C W N b D σ H → u D σ H) : PS X stm (tS Z T C W N (.cond c a b)) := h.wk fun D σ H q => by
  obtain ⟨bs, H0, G0, io0, G, io, pl, S, de, R, B, h⟩ := q
  refine hc σ H _ ⟨G, io, pl, S, de, R, (FinS.bnd R B (show FinS bs Z H0 G0 io0 W ((evt T C de c S).bnd _) D from h)).imp fun k S1 kk H1 G1 io1 pl1 s1 R1 => ?_⟩
  obtain ⟨pl2, R2, B2, _⟩ := B.next R s1 R1
  cases k with
  | true => exact ha D σ H1 ⟨bs, H0, G0, io0, G1, io1, pl2, S1, de, R2, B2, kk⟩
  | false => exact hb D σ H1 ⟨bs, H0, G0, io0, G1, io1, pl2, S1, de, R2, B2, kk⟩

/-! ### blocks -/
theorem FinS.mono {r : Res Out} {D D' : Ends} (h : FinS bs Z H0 G0 io0 W r D) (k1 : ∀ σ H, D.nx σ H → D'.nx σ H) (k2 : ∀ σ H, D.bk σ H → D'.bk σ H) (k3 : ∀ σ H, D.ct σ H → D'.ct σ H) (k4 : ∀ v H, D.rt v H → D'.rt v H) : FinS bs Z H0 G0 io0 W r D' := by
  cases r with
  | bad => exact h
  | exc c fs S1 => exact h
  | ok o S1 =>
    cases o with
    | nx de => exact fun H' G' io' pl' σ' R' B' => k1 _ _ (h H' G' io' pl' σ' R' B')
    | bk de => exact fun H' G' io' pl' σ' R' B' => k2 _ _ (h H' G' io' pl' σ' R' B')
    | ct de => exact fun H' G' io' pl' σ' R' B' => k3 _ _ (h H' G' io' pl' σ' R' B')
    | rtv d f => exact fun H' G' io' pl' de' σ' v R' B' r => k4 _ _ (h H' G' io' pl' de' σ' v R' B' r)
theorem ss_nil : PSs X [] (tSs Z T C W N .nil) := (pss_nil (X := X)).wk fun D σ H q => by
  obtain ⟨bs, H0, G0, io0, G, io, pl, S, de, R, B, h⟩ := q
  exact h H G io pl σ R B
/-- a statement, then the rest -/
theorem seq_go {h t : IR} {r : Res Out} {D : Ends} (q : FinS bs Z H0 G0 io0 W (r.bnd fun o => match o with | .nx d1 => sts T C N d1 t | o => ret o) D) : FinS bs Z H0 G0 io0 W r { D with nx := tSs Z T C W N t D } := by
  cases r with
  | bad => exact q
  | exc c fs S1 => exact q
  | ok o S1 =>
    cases o with
    | nx de => exact fun H' G' io' pl' σ' R' B' => ⟨bs, H0, G0, io0, G', io', pl', S1, de, R', B', q⟩
    | bk de => exact q
    | ct de => exact q
    | rtv d f => exact q
theorem ss_cons {stm : Stmt} {rest : List Stmt} {h t : IR} (h1 : PS X stm (tS Z T C W N h)) (h2 : PSs X rest (tSs Z T C W N t)) : PSs X (stm :: rest) (tSs Z T C W N (.cons h t)) := (pss_cons h1 h2).wk fun D σ H q => by
  obtain ⟨bs, H0, G0, io0, G, io, pl, S, de, R, B, q⟩ := q
  exact ⟨bs, H0, G0, io0, G, io, pl, S, de, R, B, seq_go (h := h) q⟩
/-- slot i's container, of nobody -/
theorem Rel.unslot (R : Rel Z H G io pl S de σ) {i : Nat} {d : D} (hi : de[i]? = some (some (.own d))) : ∃ p, σ[i]? = some (some (.ref p)) ∧ Own Z H G io p d ∧ pl p = some (.slot i) ∧ G p = none ∧ Rel Z H G io (fun a => if a = p then none else pl a) S (de.set i none) σ := by
  obtain ⟨v, hv, p, rfl, hp, ow⟩ := R.slots i _ hi
  have g := (R.plg p (by rw [hp]; exact Option.some_ne_none _)).1
  refine ⟨p, hv, ow, hp, g, R.gh, by rw [List.length_set]; exact R.len, fun k e he => ?_, R.bl, fun n d' hd => ?_, fun a ha => ?_⟩
  · by_cases q : i = k
    · subst q
      rw [List.getElem?_set_self (List.getElem?_eq_some_iff.mp hi).1] at he
      cases he
    · rw [List.getElem?_set_ne q] at he
      obtain ⟨w, hw, r⟩ := R.slots k e he
      refine ⟨w, hw, ?_⟩
      have keep : ∀ a x, pl a = some x → x ≠ .slot i → (if a = p then none else pl a) = some x := fun a x h hx => by
        rw [if_neg fun e => hx (by rw [e, hp] at h; exact (Option.some.inj h).symm)]
        exact h
      cases e with
      | val d => exact r
      | own d =>
        obtain ⟨a, e, h, o⟩ := r
        exact ⟨a, e, keep _ _ h fun z => q (by cases z; rfl), o⟩
  · obtain ⟨a, ha, hpa, o⟩ := R.boxes n d' hd
    refine ⟨a, ha, ?_, o⟩
    show (if a = p then none else pl a) = _
    rw [if_neg fun e => by rw [e, hp] at hpa; cases hpa]
    exact hpa
  · have ha : (if a = p then none else pl a) ≠ none := ha
    by_cases e : a = p
    · rw [if_pos e] at ha
      exact absurd rfl ha
    · rw [if_neg e] at ha
      exact R.plg a ha
theorem Rel.rePV {i : Nat} (R : Rel Z H G io pl S (de.set i none) σ) {f : Bool} {v : V} {d : D} (hv : σ[i]? = some (some v)) (x : PV Z f i H G io pl v d) : Rel Z H G io pl S (de.set i (some (slotV f d))) σ := by
  refine ⟨R.gh, by have := R.len; rw [List.length_set] at this ⊢; exact this, fun k e he => ?_, R.bl, R.boxes, R.plg⟩
  by_cases q : i = k
  · subst q
    have hi : i < (de.set i (some (slotV f d))).length := (List.getElem?_eq_some_iff.mp he).1
    rw [List.length_set] at hi
    rw [List.getElem?_set_self hi] at he
    cases he
    refine ⟨v, hv, ?_⟩
    rcases x with ⟨rfl, r⟩ | ⟨rfl, p, ev, hp, ow, fr⟩
    · exact r
    · exact ⟨p, ev, hp, ow⟩
  · rw [List.getElem?_set_ne q] at he
    exact R.slots k e (by rw [List.getElem?_set_ne q]; exact he)
theorem Kp.write (k : Kp H1 G1 io1 H G io) {p : Addr} {o : HO} (g : G p = none) : Kp H1 G1 io1 (upd H p o) G io := ⟨k.gg, fun a o' u h1 h2 => by
  have e : a ≠ p := fun e => by
    obtain ⟨w, hw⟩ := Option.ne_none_iff_exists'.mp h1
    have := k.gg a w hw
    rw [e, g] at this
    cases this
  rw [upd_ne e]
  exact k.kf a o' u h1 h2, k.ex⟩
theorem Kp.more (k : Kp H1 G1 io1 H G io) (gg : ∀ a u, G a = some u → G' a = some u) : Kp H1 G1 io1 H G' io := ⟨fun a u h => gg a u (k.gg a u h), k.kf, k.ex⟩
/-- slot i's container is written -/
theorem Rel.setSlot (R : Rel Z H G io pl S de σ) (B : Bs bs H0 G0 io0 H G io pl) {i : Nat} {d d' : D} (hi : de[i]? = some (some (.own d))) {p : Addr} (hv : σ[i]? = some (some (.ref p))) {u o : HO} (hu : H p = some u) (hu1 : ∀ x, u ≠ .own x) (hu2 : ∀ xs, o ≠ .tup xs) (ow : Own Z (upd H p o) G io p d') (f : isFresh d' = true) :
    ∃ pl2, Rel Z (upd H p o) G io pl2 S (de.set i (some (.own d'))) σ ∧ Bs bs H0 G0 io0 (upd H p o) G io pl2 := by
  obtain ⟨p', hv', ow', hp, g, R1⟩ := R.unslot hi
  rw [hv] at hv'
  cases hv'
  have R2 := R1.write hu hu1 hu2 (if_pos rfl) g
  have R3 := R2.claim ow (if_pos rfl) g f (.slot i)
  have h0 : H0 p = none := B.nw p _ (fun n => by simp) hp
  refine ⟨_, R3.rePV (f := true) hv (.inr ⟨rfl, p, rfl, if_pos rfl, ow, f⟩), B.st.write h0 hu2, fun b hb => (B.kp b hb).write g, fun a q hn hq => ?_⟩
  by_cases e : a = p
  · rw [e]; exact h0
  · have hq : (if a = p then some (Pl.slot i) else if a = p then none else pl a) = some q := hq
    rw [if_neg e, if_neg e] at hq
    exact B.nw a q hn hq
/-- a container of one's own becomes a value -/
theorem ss_free {sts' : List Stmt} {i : Nat} {t : IR} (h2 : PSs X sts' (tSs Z T C W N t)) : PSs X sts' (tSs Z T C W N (.cons (.free i) t)) := h2.wk fun D σ H q => by
  obtain ⟨bs, H0, G0, io0, G, io, pl, S, de, R, B, q⟩ := q
  have q : FinS bs Z H0 G0 io0 W (((match de[i]? with | some (some (.own d)) => if isFresh d = true then ret (.nx (de.set i (some (.val d)))) else fail | _ => fail : M Out) S).bnd fun o => match o with | .nx d1 => sts T C N d1 t | o => ret o) D := q
  cases hd : de[i]? with
  | none => rw [hd] at q; exact q.elim
  | some o =>
    rw [hd] at q
    cases o with
    | none => exact q.elim
    | some e =>
      cases e with
      | val d => exact q.elim
      | own d =>
        have q : FinS bs Z H0 G0 io0 W (((if isFresh d = true then ret (.nx (de.set i (some (.val d)))) else fail : M Out) S).bnd fun o => match o with | .nx d1 => sts T C N d1 t | o => ret o) D := q
        split at q
        · rename_i f
          obtain ⟨p, hv, ow, hp, g, R1⟩ := R.unslot hd
          have h0 : H0 p = none := B.nw p _ (fun n => by simp) hp
          obtain ⟨G2, R2, s2, r2, gg⟩ := ow.known R1 (H := H0) (G := G0) (io := io0) B.st (if_pos rfl) g h0 f
          refine ⟨bs, H0, G0, io0, G2, io, _, S, de.set i (some (.val d)), R2.rePV (f := false) hv (.inl ⟨rfl, r2⟩), ⟨s2, fun b hb => (B.kp b hb).more gg, fun a q hn hq => ?_⟩, q⟩
          by_cases e : a = p
          · rw [e]; exact h0
          · have hq : (if a = p then none else pl a) = some q := hq
            rw [if_neg e] at hq
            exact B.nw a q hn hq
        · exact q.elim

/-! ### writes -/
theorem own_at {o : Option (Option EV)} {α : Type} {f : D → Res Out} {D0 : Ends} (q : FinS bs Z H0 G0 io0 W (match o with | some (some (.own d)) => f d | _ => .bad) D0) : ∃ d, o = some (some (.own d)) ∧ FinS bs Z H0 G0 io0 W (f d) D0 := by
  cases o with
  | none => exact q.elim
  | some o =>
    cases o with
    | none => exact q.elim
    | some e =>
      cases e with
      | val d => exact q.elim
      | own d => exact ⟨d, rfl, q⟩
theorem s_app {stm : Stmt} {e : IR} {i : Nat} (h : PS X stm (tDrop (tBM X.K "list" rAppend (tVar i) (tCons (tE Z T C W e) tNil)))) : PS X stm (tS Z T C W N (.app i e)) := h.wk fun D σ H q => by
  obtain ⟨bs, H0, G0, io0, G, io, pl, S, de, R, B, q⟩ := q
  have q : FinS bs Z H0 G0 io0 W ((match de[i]? with | some (some (.own (.lst xs))) => bnd (ev T C de e) fun d => if decide (xs.length < sizeLine) then ret (.nx (de.set i (some (.own (.lst (xs ++ [d])))))) else fail | _ => fail : M Out) S) D := q
  cases hd : de[i]? with
  | none => rw [hd] at q; exact q.elim
  | some o =>
    rw [hd] at q
    cases o with
    | none => exact q.elim
    | some ee =>
      cases ee with
      | val d => exact q.elim
      | own d =>
        cases d <;> first | exact (q : False).elim | skip
        rename_i xs
        have q := FinS.bnd R B (show FinS bs Z H0 G0 io0 W ((ev T C de e S).bnd _) D from q)
        obtain ⟨v, hv, p, rfl, hp, ow⟩ := R.slots i _ hd
        cases ow with
        | lst hH r =>
          refine ⟨.ref p, hv, .inl ⟨rfl, _, SqL.of hH⟩, G, io, pl, S, de, R, q.imp fun d S1 k H1 G1 io1 pl1 w s1 R1 r1 => ?_⟩
          have k : FinS bs Z H0 G0 io0 W ((if decide (xs.length < sizeLine) = true then ret (.nx (de.set i (some (.own (.lst (xs ++ [d])))))) else fail : M Out) S1) D := k
          split at k
          · rename_i hz
            obtain ⟨pl2, R2, B2, _⟩ := B.next R s1 R1
            obtain ⟨v2, hv2, p2, e2, hp2, ow2⟩ := R2.slots i _ hd
            rw [hv] at hv2
            cases hv2
            cases e2
            cases ow2 with
            | lst hH2 r2 =>
              obtain ⟨pl3, R3, B3⟩ := R2.setSlot B2 hd hv hH2 (by simp) (by simp) (.lst upd_same (r2.append (.cons r1 .nil))) rfl
              exact ⟨p, _, w, rfl, rfl, hH2, by rw [r2.length]; exact of_decide_eq_true hz, k _ _ _ _ _ R3 B3⟩
          · exact k.elim
theorem dput_ok (gh : GH G H) {a : Addr} {y v : V} {c q x d' : D} (ow : Own Z H G io a c) (rq : Rep Z G io y q) (rv : Rep Z G io v x) (e : dput q x c = some d') :
    ∃ u o, H a = some u ∧ (∀ z, u ≠ .own z) ∧ (∀ xs, o ≠ .tup xs) ∧ DPut H a y v (upd H a o) ∧ Own Z (upd H a o) G io a d' ∧ isFresh d' = true := by
  cases ow with
  | lst h r => cases e
  | ins h r => cases e
  | @dK kvs ds h r =>
    have em : (match q.ky with | some (.one z) => if (kvs.map fun p => keyD p.1).length < sizeLine then some (if (dfind (.one z) (kvs.map fun p => keyD p.1) ds).isSome = true then D.dct (kvs.map fun p => keyD p.1) (dputV (.one z) x (kvs.map fun p => keyD p.1) ds) else .dct ((kvs.map fun p => keyD p.1) ++ [q]) (ds ++ [x])) else none | _ => none) = some d' := e
    cases hk : q.ky with
    | none => rw [hk] at em; cases em
    | some z =>
      rw [hk] at em
      cases z with
      | tup k => cases em
      | one k =>
        clear e
        have e : (if (kvs.map fun p => keyD p.1).length < sizeLine then some (if (dfind (.one k) (kvs.map fun p => keyD p.1) ds).isSome = true then D.dct (kvs.map fun p => keyD p.1) (dputV (.one k) x (kvs.map fun p => keyD p.1) ds) else .dct ((kvs.map fun p => keyD p.1) ++ [q]) (ds ++ [x])) else none) = some d' := em
        split at e <;> first | (cases e; done) | skip
        rename_i hl
        have e := Option.some.inj e
        obtain ⟨rfl, rfl⟩ := rep_key rq hk
        obtain ⟨ds', e1, r1⟩ := put_g (rd := keyD) (kyc := Ky.one) (k := k) (v := v) ky_keyD one_inj r rv
        rw [e1] at e
        subst e
        rw [List.length_map] at hl
        exact ⟨_, _, h, by simp, by simp, DPut.k h hl, .dK upd_same r1, rfl⟩
  | @dT kvs ds h r =>
    have em : (match q.ky with | some (.tup z) => if (kvs.map fun p => D.tup (p.1.map keyD)).length < sizeLine then some (if (dfind (.tup z) (kvs.map fun p => D.tup (p.1.map keyD)) ds).isSome = true then D.dtt (kvs.map fun p => D.tup (p.1.map keyD)) (dputV (.tup z) x (kvs.map fun p => D.tup (p.1.map keyD)) ds) else .dtt ((kvs.map fun p => D.tup (p.1.map keyD)) ++ [q]) (ds ++ [x])) else none | _ => none) = some d' := e
    cases hk : q.ky with
    | none => rw [hk] at em; cases em
    | some z =>
      rw [hk] at em
      cases z with
      | one k => cases em
      | tup k =>
        clear e
        have e : (if (kvs.map fun p => D.tup (p.1.map keyD)).length < sizeLine then some (if (dfind (.tup k) (kvs.map fun p => D.tup (p.1.map keyD)) ds).isSome = true then D.dtt (kvs.map fun p => D.tup (p.1.map keyD)) (dputV (.tup k) x (kvs.map fun p => D.tup (p.1.map keyD)) ds) else .dtt ((kvs.map fun p => D.tup (p.1.map keyD)) ++ [q]) (ds ++ [x])) else none) = some d' := em
        split at e <;> first | (cases e; done) | skip
        rename_i hl
        have e := Option.some.inj e
        obtain ⟨b, rfl, hb, rfl⟩ := rep_keyT rq hk
        obtain ⟨ds', e1, r1⟩ := put_g' (rd := fun l : List Key => D.tup (l.map keyD)) (kyc := Ky.tup) (k := k) (v := v) ky_tup tup_inj r rv
        rw [e1] at e
        subst e
        rw [List.length_map] at hl
        exact ⟨_, _, h, by simp, by simp, DPut.t h ((gh _ _ hb).same rfl) hl, .dT upd_same r1, rfl⟩
theorem s_bset {stm : Stmt} {a k v : IR} (h : PS X stm (sDPut (tE Z T C W a) (tE Z T C W k) (tE Z T C W v))) : PS X stm (tS Z T C W N (.bset a k v)) := h.wk fun D σ H q => by
  obtain ⟨bs, H0, G0, io0, G, io, pl, S, de, R, B, q⟩ := q
  refine ⟨G, io, pl, S, de, R, (FinS.bnd R B (show FinS bs Z H0 G0 io0 W ((ev T C de v S).bnd _) D from q)).imp fun y S1 k1 H1 G1 io1 pl1 vy s1 R1 r1 => ?_⟩
  obtain ⟨pl1', R1', B1, _⟩ := B.next R s1 R1
  refine ⟨G1, io1, pl1', S1, de, R1', (FinS.bnd R1' B1 (show FinS bs Z H0 G0 io0 W ((ev T C de a S1).bnd _) D from k1)).imp fun x S2 k2 H2 G2 io2 pl2 vx s2 R2 r2 => ?_⟩
  obtain ⟨pl2', R2', B2, _⟩ := B1.next R1' s2 R2
  refine ⟨G2, io2, pl2', S2, de, R2', (FinS.bnd R2' B2 (show FinS bs Z H0 G0 io0 W ((ev T C de k S2).bnd _) D from k2)).imp fun q S3 k3 H3 G3 io3 pl3 vq s3 R3 r3 => ?_⟩
  obtain ⟨pl3', R3', B3, _⟩ := B2.next R2' s3 R3
  cases r2 <;> first | exact (k3 : False).elim | skip
  rename_i p n hp
  have k3 : FinS bs Z H0 G0 io0 W (match S3[n]? with | some c => tryL (dput q y c) (fun d => fun S => .ok (.nx de) (S.set n d)) S3 | _ => .bad) D := k3
  have hp3 := ext_get s3 hp
  cases hS : S3[n]? with
  | none => rw [hS] at k3; exact k3.elim
  | some d =>
    rw [hS] at k3
    obtain ⟨d', e, k3⟩ := FinS.tryL k3
    obtain ⟨p', hp', hpl, ow⟩ := R3'.boxes n _ hS
    rw [hp3] at hp'
    cases hp'
    obtain ⟨u, o, hu, hu1, hu2, dp, ow', fr⟩ := dput_ok R3'.gh ow r3 (r1.step (s2.trans s3)) e
    obtain ⟨R4, s4⟩ := R3'.setBox hS hp3 hpl hu hu1 hu2 ow'
    obtain ⟨pl5, R5, B5, _⟩ := B3.next R3' s4 R4.bare
    exact ⟨p, _, rfl, dp, k3 _ _ _ _ _ R4 ⟨B5.st, B5.kp, B3.nw⟩⟩
theorem s_oset {stm : Stmt} {i : Nat} {k v : IR} (h : PS X stm (sDPut (tVar i) (tE Z T C W k) (tE Z T C W v))) : PS X stm (tS Z T C W N (.oset i k v)) := h.wk fun D σ H q => by
  obtain ⟨bs, H0, G0, io0, G, io, pl, S, de, R, B, q⟩ := q
  have q : FinS bs Z H0 G0 io0 W ((match de[i]? with | some (some (.own c)) => bnd (ev T C de v) fun y => bnd (ev T C de k) fun q => tryL (dput q y c) fun d => ret (.nx (de.set i (some (.own d)))) | _ => fail : M Out) S) D := q
  cases hd : de[i]? with
  | none => rw [hd] at q; exact q.elim
  | some o =>
    rw [hd] at q
    cases o with
    | none => exact q.elim
    | some ee =>
      cases ee with
      | val d => exact q.elim
      | own d =>
        refine ⟨G, io, pl, S, de, R, (FinS.bnd R B (show FinS bs Z H0 G0 io0 W ((ev T C de v S).bnd _) D from q)).imp fun y S1 k1 H1 G1 io1 pl1 vy s1 R1 r1 => ?_⟩
        obtain ⟨pl1', R1', B1, _⟩ := B.next R s1 R1
        obtain ⟨vv, hv, p, rfl, _, _⟩ := R1'.slots i _ hd
        refine ⟨_, hv, G1, io1, pl1', S1, de, R1', (FinS.bnd R1' B1 (show FinS bs Z H0 G0 io0 W ((ev T C de k S1).bnd _) D from k1)).imp fun q S2 k2 H2 G2 io2 pl2 vq s2 R2 r2 => ?_⟩
        obtain ⟨pl2', R2', B2, _⟩ := B1.next R1' s2 R2
        obtain ⟨d', e, k2⟩ := FinS.tryL k2
        obtain ⟨vv, hv2, p2, e2, _, ow⟩ := R2'.slots i _ hd
        rw [hv] at hv2
        cases hv2
        cases e2
        obtain ⟨u, o, hu, hu1, hu2, dp, ow', fr⟩ := dput_ok R2'.gh ow r2 (r1.step s2) e
        obtain ⟨pl3, R3, B3⟩ := R2'.setSlot B2 hd hv hu hu1 hu2 ow' fr
        exact ⟨p, _, rfl, dp, k2 _ _ _ _ _ R3 B3⟩

/-! ### loops -/
theorem s_forl {stm : Stmt} {g it b : IR} {wi : TI} {gg : TG} {tb : TS} (h : PS X stm (tFor wi gg tb)) (hwi : ∀ σ H R, tI Z T C W it σ H R → wi σ H R) (hg : ∀ v σ H Q, tG Z g v σ H Q → gg v σ H Q) (hb : ∀ D σ H, tSs Z T C W N b D σ H → tb D σ H) : PS X stm (tS Z T C W N (.forl g it b)) := h.wk fun D σ H q => by
  obtain ⟨bs, H0, G0, io0, G, io, pl, S, de, R, B, q⟩ := q
  refine hwi σ H _ ⟨G, io, pl, S, de, R, (FinS.bnd R B (show FinS bs Z H0 G0 io0 W ((evi T C de it S).bnd _) D from q)).imp fun items S1 k H1 G1 io1 pl1 J s1 R1 wk => ?_⟩
  obtain ⟨pl1', R1', B1, _⟩ := B.next R s1 R1
  refine ⟨fun i m σ2 H2 => m = items.length - i ∧ i ≤ items.length ∧ ∃ G2 io2 pl2 S2 de2, Rel Z H2 G2 io2 pl2 S2 de2 σ2 ∧ Bs ((H1, G1, io1) :: bs) H0 G0 io0 H2 G2 io2 pl2 ∧
    FinS bs Z H0 G0 io0 W (loop (items.drop i) de2 g (fun d1 => sts T C N d1 b) S2) D, ⟨items.length, by simp, Nat.zero_le _, G1, io1, pl1', S1, de, R1', ⟨B1.st, fun b hb => ?_, B1.nw⟩, by rw [List.drop_zero]; exact k⟩, ?_⟩
  · rcases List.mem_cons.mp hb with e | hb
    · rw [e]
      exact .refl
    · exact B1.kp b hb
  rintro i m σ2 H2 ⟨rfl, hi, G2, io2, pl2, S2, de2, R2, B2, k2⟩
  have kp := B2.kp (H1, G1, io1) List.mem_cons_self
  by_cases hlt : i < items.length
  · refine .inr ⟨wk.go i H2 G2 io2 kp R2.gh hlt, fun σ3 H3 => ∃ G2 io2 pl2 S2 de2, Rel Z H3 G2 io2 pl2 S2 de2 σ3 ∧ Bs ((H1, G1, io1) :: bs) H0 G0 io0 H3 G2 io2 pl2 ∧
      FinS bs Z H0 G0 io0 W (loop (items.drop (i + 1)) de2 g (fun d1 => sts T C N d1 b) S2) D, fun σ3 H3 hx => ⟨_, by omega, rfl, hlt, hx⟩, fun x H3 y => ?_⟩
    obtain ⟨d, hd⟩ : ∃ d, items[i]? = some d := ⟨_, List.getElem?_eq_getElem hlt⟩
    obtain ⟨G3, R3, s3, r3⟩ := (wk.yld i H2 G2 io2 x H3 d kp R2.gh hd y).rel R2
    have eq : items.drop i = d :: items.drop (i + 1) := by
      rw [List.drop_eq_getElem_cons hlt]
      congr 1
      exact Option.some.inj ((List.getElem?_eq_getElem hlt).symm.trans hd)
    rw [eq] at k2
    obtain ⟨d1, ha, k2⟩ := FinS.tryL (show FinS bs Z H0 G0 io0 W (tryL (asg g d de2) _ S2) D from k2)
    obtain ⟨pl3, R3', B3, _⟩ := B2.next R2 s3 R3
    refine hg x σ2 H3 _ ⟨G3, io2, pl3, S2, de2, d, d1, R3', r3, ha, fun σ' R' _ _ => hb _ σ' H3 ⟨(H1, G1, io1) :: bs, H0, G0, io0, G3, io2, pl3, S2, d1, R', B3, ?_⟩⟩
    have k3 : FinS bs Z H0 G0 io0 W ((sts T C N d1 b S2).bnd fun o => match o with
      | .nx d2 => loop (items.drop (i + 1)) d2 g (fun d1 => sts T C N d1 b)
      | .ct d2 => loop (items.drop (i + 1)) d2 g (fun d1 => sts T C N d1 b)
      | .bk d2 => ret (.nx d2)
      | .rtv d f => ret (.rtv d f)) D := k2
    have tail : ∀ {H G : Hp} {io : List Addr} {pl : Plc}, Bs ((H1, G1, io1) :: bs) H0 G0 io0 H G io pl → Bs bs H0 G0 io0 H G io pl := fun B => ⟨B.st, fun b hb => B.kp b (List.mem_cons_of_mem _ hb), B.nw⟩
    generalize sts T C N d1 b S2 = r at k3
    cases r with
    | bad => exact k3.elim
    | exc c fs S4 => exact fun H' G' io' pl' de' σ' cls dd R' B' x => k3 H' G' io' pl' de' σ' cls dd R' (tail B') x
    | ok o S4 =>
      cases o with
      | nx d2 => exact fun H' G' io' pl' σ' R' B' => ⟨G', io', pl', S4, d2, R', B', k3⟩
      | ct d2 => exact fun H' G' io' pl' σ' R' B' => ⟨G', io', pl', S4, d2, R', B', k3⟩
      | bk d2 => exact fun H' G' io' pl' σ' R' B' => k3 H' G' io' pl' σ' R' (tail B')
      | rtv d f => exact fun H' G' io' pl' de' σ' v R' B' rv => k3 H' G' io' pl' de' σ' v R' (tail B') rv
  · have e : i = items.length := by omega
    subst e
    rw [List.drop_length] at k2
    exact .inl ⟨wk.stop H2 G2 io2 kp R2.gh, k2 H2 G2 io2 pl2 σ2 R2 ⟨B2.st, fun b hb => B2.kp b (List.mem_cons_of_mem _ hb), B2.nw⟩⟩
theorem s_whl {stm : Stmt} {c b : IR} {tc : TT} {tb : TS} (h : PS X stm (tWhile tc tb)) (hc : ∀ σ H Q, tT Z T C W c σ H Q → tc σ H Q) (hb : ∀ D σ H, tSs Z T C W N b D σ H → tb D σ H) : PS X stm (tS Z T C W N (.whl c b)) := h.wk fun D σ H q => by
  obtain ⟨bs, H0, G0, io0, G, io, pl, S, de, R, B, q⟩ := q
  refine ⟨fun m σ2 H2 => ∃ G2 io2 pl2 S2 de2, Rel Z H2 G2 io2 pl2 S2 de2 σ2 ∧ Bs bs H0 G0 io0 H2 G2 io2 pl2 ∧ FinS bs Z H0 G0 io0 W (wloop m (fun d1 => evt T C d1 c) (fun d1 => sts T C N d1 b) de2 S2) D, ⟨N, G, io, pl, S, de, R, B, q⟩, ?_⟩
  rintro m σ2 H2 ⟨G2, io2, pl2, S2, de2, R2, B2, k2⟩
  cases m with
  | zero => exact k2.elim
  | succ m =>
    refine hc σ2 H2 _ ⟨G2, io2, pl2, S2, de2, R2, (FinS.bnd R2 B2 (show FinS bs Z H0 G0 io0 W ((evt T C de2 c S2).bnd _) D from k2)).imp fun k S3 k3 H3 G3 io3 pl3 s3 R3 => ?_⟩
    obtain ⟨pl3', R3', B3, _⟩ := B2.next R2 s3 R3
    cases k with
    | false => exact k3 H3 G3 io3 pl3' σ2 R3' B3
    | true =>
      rw [if_pos rfl]
      refine ⟨fun σ2 H2 => ∃ G2 io2 pl2 S2 de2, Rel Z H2 G2 io2 pl2 S2 de2 σ2 ∧ Bs bs H0 G0 io0 H2 G2 io2 pl2 ∧ FinS bs Z H0 G0 io0 W (wloop m (fun d1 => evt T C d1 c) (fun d1 => sts T C N d1 b) de2 S2) D, fun σ' H' hx => ⟨m, Nat.lt_succ_self m, hx⟩, hb _ σ2 H3 ⟨bs, H0, G0, io0, G3, io3, pl3', S3, de2, R3', B3, ?_⟩⟩
      have k3 : FinS bs Z H0 G0 io0 W ((sts T C N de2 b S3).bnd fun o => match o with
        | .nx d2 => wloop m (fun d1 => evt T C d1 c) (fun d1 => sts T C N d1 b) d2
        | .ct d2 => wloop m (fun d1 => evt T C d1 c) (fun d1 => sts T C N d1 b) d2
        | .bk d2 => ret (.nx d2)
        | .rtv d f => ret (.rtv d f)) D := k3
      generalize sts T C N de2 b S3 = r at k3
      cases r with
      | bad => exact k3.elim
      | exc c fs S4 => exact k3
      | ok o S4 =>
        cases o with
        | nx d2 => exact fun H' G' io' pl' σ' R' B' => ⟨G', io', pl', S4, d2, R', B', k3⟩
        | ct d2 => exact fun H' G' io' pl' σ' R' B' => ⟨G', io', pl', S4, d2, R', B', k3⟩
        | bk d2 => exact k3
        | rtv d f => exact k3

/-! ### a def's body -/
theorem Rel.boxOnly (R : Rel Z H G io pl S [] []) : Rel Z H G io (fun a => match pl a with | some (.box n) => some (.box n) | _ => none) S [] [] := by
  refine ⟨R.gh, rfl, fun i e h => by simp at h, R.bl, fun n d hd => ?_, fun a ha => ?_⟩
  · obtain ⟨a, h1, h2, h3⟩ := R.boxes n d hd
    exact ⟨a, h1, by show (match pl a with | some (.box n) => some (Pl.box n) | _ => none) = _; rw [h2], h3⟩
  · refine R.plg a fun e => ha ?_
    show (match pl a with | some (.box n) => some (Pl.box n) | _ => none) = none
    rw [e]
theorem start_rel {vs : List V} {ds : List D} {Nn : List Str} (R : Rel Z H G io pl S [] []) (r : Reps Z G io vs ds) : Rel Z H G io pl S (ds.map (fun d => some (.val d)) ++ List.replicate (Nn.length - ds.length) none) (start Nn vs) := by
  have hl := r.length
  refine ⟨R.gh, by unfold L2.start; simp [hl], fun k e he => ?_, R.bl, R.boxes, R.plg⟩
  by_cases c : k < ds.length
  · rw [List.getElem?_append_left (by rw [List.length_map]; exact c), List.getElem?_map] at he
    obtain ⟨d, hd, ee⟩ := Option.map_eq_some_iff.mp he
    cases ee
    obtain ⟨v, hv, rv⟩ := r.get hd
    refine ⟨v, ?_, rv⟩
    unfold L2.start
    rw [List.getElem?_append_left (by rw [List.length_map]; omega), List.getElem?_map, hv]
    rfl
  · rw [List.getElem?_append_right (by rw [List.length_map]; omega), List.getElem?_replicate] at he
    split at he <;> cases he
/-- the body's run at the parameters -/
theorem body_go {f n : Nat} {fe : Fe} {body : List Stmt} {Nn : List Str} {vs : List V} {Q : VK} {E : XK} {C' : Calls} (hE : ∀ cls d σ H, E cls d H → W cls d σ H) (hE2 : ∀ cls d σ H, W cls d σ H → E cls d H) (hC : ∀ ds, C' f ds = run1 T N C fe ds) (hs : fe.slots = Nn.length) (ha : fe.arity = n) (q : spD Z C' f n vs H Q E) : tSs Z T C W N fe.body { nx := fun _ H' => Q .non H', rt := Q } (start Nn vs) H := by
  obtain ⟨hl, G, io, pl, S, ds, R, r, h⟩ := q
  rw [hC] at h
  have h : Fin Z H G io [] [] (fun cls dd _ H' => E cls dd H') ((if ds.length = fe.arity then
    bnd (sts T C N (ds.map (fun d => some (.val d)) ++ List.replicate (fe.slots - ds.length) none) fe.body) fun o => match o with
      | .nx _ => ret (.non, false)
      | .rtv d f => ret (d, f)
      | _ => fail
    else fail : M (D × Bool)) S) _ := h
  split at h
  · refine ⟨[], H, G, io, G, io, _, S, _, start_rel R.boxOnly r, ⟨.refl, fun b hb => by simp at hb, fun a p hn hp => ?_⟩, ?_⟩
    · exfalso
      have hp : (match pl a with | some (.box n) => some (Pl.box n) | _ => none) = some p := hp
      split at hp
      · cases hp
        exact hn _ rfl
      · cases hp
    · rw [← hs]
      have h : Fin Z H G io [] [] (fun cls dd _ H' => E cls dd H') ((sts T C N (ds.map (fun d => some (.val d)) ++ List.replicate (fe.slots - ds.length) none) fe.body S).bnd fun o => match o with
        | .nx _ => ret (.non, false)
        | .rtv d f => ret (d, f)
        | _ => fail) _ := h
      generalize sts T C N (ds.map (fun d => some (.val d)) ++ List.replicate (fe.slots - ds.length) none) fe.body S = rr at h
      cases rr with
      | bad => exact h.elim
      | exc c fs S1 => exact fun H' G' io' pl' de' σ' cls dd R' B' x => hE _ _ _ _ (h H' G' io' pl' cls dd B'.st R'.bare x)
      | ok o S1 =>
        cases o with
        | nx d2 => exact fun H' G' io' pl' σ' R' B' => h H' G' io' pl' .non B'.st R'.bare .non
        | ct d2 => exact h.elim
        | bk d2 => exact h.elim
        | rtv d f => exact fun H' G' io' pl' de' σ' v R' B' rv => h H' G' io' pl' v B'.st R'.bare rv
  · exact h.elim
end
end Y
/-! Y22: fields stored; instances made. -/
namespace Y
open PySem L2

section
variable {bs : List (Hp × Hp × List Addr)} {Z : Zc} {T : Tb} {C : Calls} {W : WX} {X : Cx} {N : Nat} {H G H' G' H1 G1 H0 G0 : Hp} {io io' io1 io0 : List Addr} {pl pl' : Plc} {S S' : Store} {de : Env} {σ : L2.St}
theorem putNs_ok (f : Str) (v : V) : ∀ fs : List (Str × V), (putF f v fs).map (·.1) = putNs f (fs.map (·.1))
  | [] => rfl
  | p :: fs => by
    obtain ⟨n, w⟩ := p
    show ((if n = f then (n, v) :: fs else (n, w) :: putF f v fs).map (·.1)) = (if n = f then n :: fs.map (·.1) else n :: putNs f (fs.map (·.1)))
    split
    · rfl
    · rw [List.map_cons, putNs_ok f v fs]
theorem putVs_ok {f : Str} {v : V} {d : D} (rv : Rep Z G io v d) : ∀ {fs : List (Str × V)} {ds : List D}, Reps Z G io (fs.map (·.2)) ds → Reps Z G io ((putF f v fs).map (·.2)) (putVs f d (fs.map (·.1)) ds)
  | [], ds, r => by
    cases r
    exact .cons rv .nil
  | p :: fs, ds, r => by
    obtain ⟨n, w⟩ := p
    rw [List.map_cons] at r
    cases r with
    | cons q t =>
      rename_i d0 ds
      show Reps Z G io ((if n = f then (n, v) :: fs else (n, w) :: putF f v fs).map (·.2)) (if n = f then d :: ds else d0 :: putVs f d (fs.map (·.1)) ds)
      split
      · exact .cons rv t
      · exact .cons q (putVs_ok rv t)
theorem s_fset {o value : Expr} {f : Str} {pos pos' : Pos} {a e : IR} (dp : Disp X Z T C W) (ha : PE X o (tE Z T C W a)) (hv : PE X value (tE Z T C W e)) (hs : swapsWith value (some (.Attribute o f pos')) pos.line X.env = pure false) : PS X (.Assign [.Attribute o f pos'] value pos) (tS Z T C W N (.fset a f e)) := (ps_fld ha hv hs).wk fun D σ H q => by
  obtain ⟨bs, H0, G0, io0, G, io, pl, S, de, R, B, q⟩ := q
  refine ⟨G, io, pl, S, de, R, (FinS.bnd R B (show FinS bs Z H0 G0 io0 W ((ev T C de e S).bnd _) D from q)).imp fun y S1 k1 H1 G1 io1 pl1 vy s1 R1 r1 => ?_⟩
  obtain ⟨pl1', R1', B1, _⟩ := B.next R s1 R1
  refine ⟨G1, io1, pl1', S1, de, R1', (FinS.bnd R1' B1 (show FinS bs Z H0 G0 io0 W ((ev T C de a S1).bnd _) D from k1)).imp fun x S2 k2 H2 G2 io2 pl2 vx s2 R2 r2 => ?_⟩
  obtain ⟨pl2', R2', B2, _⟩ := B1.next R1' s2 R2
  cases r2 <;> first | exact (k2 : False).elim | skip
  rename_i p n hp
  have k2 : FinS bs Z H0 G0 io0 W (match S2[n]? with | some (.ins c ns vs) => if (T.isFld c f && decide (ns.length < 1000)) = true then .ok (.nx de) (S2.set n (.ins c (putNs f ns) (putVs f y ns vs))) else .bad | _ => .bad) D := k2
  cases hS : S2[n]? with
  | none => rw [hS] at k2; exact k2.elim
  | some d =>
    rw [hS] at k2
    cases d <;> first | exact (k2 : False).elim | skip
    rename_i c ns vs
    have k2 : FinS bs Z H0 G0 io0 W (if (T.isFld c f && decide (ns.length < 1000)) = true then .ok (.nx de) (S2.set n (.ins c (putNs f ns) (putVs f y ns vs))) else .bad) D := k2
    split at k2
    · rename_i hz
      obtain ⟨hf, hl⟩ := Bool.and_eq_true_iff.mp hz
      obtain ⟨ce, hc⟩ := isFld_cls hf
      obtain ⟨p', hp', hpl, ow⟩ := R2'.boxes n _ hS
      rw [hp] at hp'
      cases hp'
      cases ow with
      | @ins dx _ fs ds hh rr =>
        have hl := of_decide_eq_true hl
        rw [List.length_map] at hl
        have ow' : Own Z (upd H2 p (.ins (Z.ca c) dx (putF f vy fs))) G2 io2 p (.ins c (putNs f (fs.map (·.1))) (putVs f y (fs.map (·.1)) vs)) := by
          rw [← putNs_ok f vy]
          exact .ins upd_same (putVs_ok (r1.step s2) rr)
        obtain ⟨R4, s4⟩ := R2'.setBox hS hp hpl hh (by simp) (by simp) ow'
        obtain ⟨pl5, R5, B5, _⟩ := B2.next R2' s4 R4.bare
        exact ⟨p, _, dx, fs, rfl, hh, dp.cls _ _ hc, dp.fld _ _ hf, hl, k2 _ _ _ _ _ R4 ⟨B5.st, B5.kp, B2.nw⟩⟩
    · exact k2.elim

/-! ### instances made -/
mutual
theorem Rep.nb {v : V} {d : D} (r : Rep Z G io v d) (h : d.noBox = true) : Rep Z G io' v d := by
  cases r with
  | non => exact .non
  | bl b => exact .bl b
  | int i => exact .int i
  | str s => exact .str s
  | ty n => exact .ty n
  | cls c => exact .cls c
  | box h' => cases h
  | tup g r => exact .tup g (Reps.nb r h)
  | lst g r => exact .lst g (Reps.nb r h)
  | ro g r => exact .ro g (Reps.nb r h)
  | dK g r => exact .dK g (Reps.nb r (Bool.and_eq_true_iff.mp h).2)
  | dT g r => exact .dT g (Reps.nb r (Bool.and_eq_true_iff.mp h).2)
  | ins g r => exact .ins g (Reps.nb r h)
theorem Reps.nb {vs : List V} {ds : List D} (r : Reps Z G io vs ds) (h : D.noBoxes ds = true) : Reps Z G io' vs ds := by
  cases r with
  | nil => exact .nil
  | cons q t => exact .cons (Rep.nb q (Bool.and_eq_true_iff.mp h).1) (Reps.nb t (Bool.and_eq_true_iff.mp h).2)
end
/-- what an __init__ promises -/
def spI (Z : Zc) (C : Calls) (f n c : Nat) : Sp := fun vs H Q E => vs.length = n ∧ ∃ x dx H0 ws G io pl S ds, vs = .ref x :: ws ∧ H0 x = none ∧ H0 dx = none ∧ dx ≠ x ∧ H = upd (upd H0 dx (.own x)) x (.ins (Z.ca c) dx []) ∧ Rel Z H0 G io pl S [] [] ∧ Reps Z G io ws ds ∧
  Fin Z H0 G io [] [] (fun cls dd _ H' => E cls dd H') (C f ds S) (fun r S' => ∀ H' G' io' pl', Step H0 G io H' G' io' → Rel Z H' G' io' pl' S' [] [] → Rep Z G' io' (.ref x) r.1 → Q .non H')
/-- what is known behind the run of an __init__: the instance and its containers, too -/
def knowI (H' G' : Hp) (io' : List Addr) : Hp := fun a => match G' a with
  | some u => some u
  | none => if a ∈ io' then H' a else none
theorem knowI_mono {a : Addr} {u : HO} (h : G' a = some u) : knowI H' G' io' a = some u := by
  unfold knowI
  rw [h]
theorem knowI_at {a : Addr} (hg : G' a = none) (hm : a ∈ io') : knowI H' G' io' a = H' a := by
  unfold knowI
  rw [hg, if_pos hm]
theorem unbox1_val {S : Store} {e : D} (h : ∀ n, e ≠ .box n) : unbox1 S e = if e.noBox = true then some e else none := by
  cases e <;> first | rfl | exact absurd rfl (h _)
theorem init_back {x dx : Addr} {c : Nat} (R : Rel Z H0 G io pl S [] []) (hx : H0 x = none) (hdx : H0 dx = none) (hne : dx ≠ x) {de' : Env} {σ' : L2.St} (s : Step (upd (upd H0 dx (.own x)) x (.ins (Z.ca c) dx [])) G [x] H' G' io') (R' : Rel Z H' G' io' pl' S' de' σ') :
    ∃ G2 pl2, Rel Z H' G2 io pl2 S [] [] ∧ Step H0 G io H' G2 io ∧ (∀ a u, G' a = some u → G2 a = some u) ∧ ∀ d, madeI S' = some d → Rep Z G2 io (.ref x) d := by
  have up : ∀ a o, H0 a = some o → upd (upd H0 dx (.own x)) x (.ins (Z.ca c) dx []) a = some o := fun a o h => by
    have e1 : a ≠ x := fun e => by rw [e, hx] at h; cases h
    have e2 : a ≠ dx := fun e => by rw [e, hdx] at h; cases h
    rw [upd_ne e1, upd_ne e2]
    exact h
  have ax : ∀ a o, H0 a = some o → a ≠ x := fun a o h e => by rw [e, hx] at h; cases h
  obtain ⟨more, eio, hmore⟩ := s.ext
  have nio : ∀ a o, H0 a = some o → a ∉ io' := fun a o h hm => by
    rw [eio] at hm
    rcases List.mem_append.mp hm with z | z
    · rw [List.mem_singleton] at z
      exact ax a o h z
    · have := hmore a z
      rw [up a o h] at this
      cases this
  -- an old object that is not known before is as it was
  have old : ∀ a o, H0 a = some o → G a = none → (∀ ps, o ≠ .tbl ps) → H' a = some o := fun a o h hg ht => by
    rcases s.fr a o (up a o h) (fun hm => ax a o h (List.mem_singleton.mp hm)) ht with q | ⟨_, g, _⟩
    · exact q
    · rw [hg] at g; cases g
  have gold : ∀ a o, H0 a = some o → G a = none → (∀ xs, o ≠ .tup xs) → G' a = none := fun a o h hg ht => by
    cases q : G' a with
    | none => rfl
    | some u =>
      rcases s.gn a (by rw [q]; exact Option.some_ne_none u) with z | z | ⟨xs, z⟩
      · exact absurd hg z
      · rw [up a o h] at z; cases z
      · rw [up a o h] at z
        cases z
        exact absurd rfl (ht xs)
  have gmono : ∀ a u, G a = some u → knowI H' G' io' a = some u := fun a u h => knowI_mono (s.gg a u h)
  refine ⟨knowI H' G' io', fun a => if a ∈ io then pl a else none, ⟨fun a u h => ?_, rfl, fun i e h => by simp at h, R.bl, fun n d' hn => ?_, fun a ha => ?_⟩, ⟨gmono, fun a h => ?_, fun a o h hi ht => ?_, ⟨[], by simp, by simp⟩, fun a h => ?_, fun a xs h => ?_⟩, fun a u h => knowI_mono h, fun d hd => ?_⟩
  · unfold knowI at h
    cases q : G' a with
    | some u' =>
      rw [q] at h
      cases h
      exact R'.gh a u q
    | none =>
      rw [q] at h
      have h : (if a ∈ io' then H' a else none) = some u := h
      split at h
      · exact .inl h
      · cases h
  · obtain ⟨a, ha, hp, ow⟩ := R.boxes n d' hn
    have hm : a ∈ io := List.mem_of_getElem? ha
    refine ⟨a, ha, by rw [if_pos hm]; exact hp, ?_⟩
    have hg := (R.plg a (by rw [hp]; simp)).1
    have keep : ∀ o, H0 a = some o → (∀ ps, o ≠ .tbl ps) → H' a = some o := fun o h ht => old a o h hg ht
    cases ow with
    | lst h r => exact .lst (keep _ h (by simp)) (r.mono gmono fun _ _ h => h)
    | dK h r => exact .dK (keep _ h (by simp)) (r.mono gmono fun _ _ h => h)
    | dT h r => exact .dT (keep _ h (by simp)) (r.mono gmono fun _ _ h => h)
    | ins h r => exact .ins (keep _ h (by simp)) (r.mono gmono fun _ _ h => h)
  · by_cases hm : a ∈ io
    · rw [if_pos hm] at ha
      obtain ⟨n, hl, e⟩ := List.mem_iff_getElem.mp hm
      have h2 : io[n]? = some a := by rw [List.getElem?_eq_getElem hl, e]
      obtain ⟨b, hb, hpb, ow⟩ := R.boxes n (S[n]'(by rw [← R.bl]; exact hl)) (List.getElem?_eq_getElem _)
      rw [h2] at hb
      cases hb
      obtain ⟨h1, h3, h4⟩ := R.plg a ha
      generalize S[n]'(by rw [← R.bl]; exact hl) = dd at ow
      obtain ⟨o, ho, ht, htb⟩ : ∃ o, H0 a = some o ∧ (∀ xs, o ≠ .tup xs) ∧ ∀ ps, o ≠ .tbl ps := by
        cases ow with
        | lst h r => exact ⟨_, h, by simp, by simp⟩
        | dK h r => exact ⟨_, h, by simp, by simp⟩
        | dT h r => exact ⟨_, h, by simp, by simp⟩
        | ins h r => exact ⟨_, h, by simp, by simp⟩
      have h' := old a o ho h1 htb
      refine ⟨?_, by rw [h']; simp, fun xs z => by rw [h'] at z; exact ht xs (Option.some.inj z)⟩
      unfold knowI
      rw [gold a o ho h1 ht, if_neg (nio a o ho)]
    · rw [if_neg hm] at ha
      exact absurd rfl ha
  · cases q : H0 a with
    | none => exact .inr (.inl rfl)
    | some o =>
      unfold knowI at h
      cases q2 : G' a with
      | some u =>
        rcases s.gn a (by rw [q2]; exact Option.some_ne_none u) with z | z | ⟨xs, z⟩
        · exact .inl z
        · rw [up a o q] at z; cases z
        · rw [up a o q] at z
          cases z
          exact .inr (.inr ⟨xs, rfl⟩)
      | none =>
        rw [q2] at h
        have h : (if a ∈ io' then H' a else none) ≠ none := h
        rw [if_neg (nio a o q)] at h
        exact absurd rfl h
  · exact s.fr a o (up a o h) (fun hm => ax a o h (List.mem_singleton.mp hm)) ht
  · cases q : H0 a with
    | none => exact absurd q h
    | some o => exact s.al a (by rw [up a o q]; simp)
  · rcases s.tp a xs h with z | z
    · by_cases e1 : a = x
      · rw [e1, upd_same] at z; cases z
      · rw [upd_ne e1] at z
        by_cases e2 : a = dx
        · rw [e2, upd_same] at z; cases z
        · rw [upd_ne e2] at z
          exact .inl z
    · by_cases e1 : a = x
      · rw [e1]; exact .inr hx
      · rw [upd_ne e1] at z
        by_cases e2 : a = dx
        · rw [e2, upd_same] at z; cases z
        · rw [upd_ne e2] at z
          exact .inr z
  · -- the instance
    have bmem : ∀ n a, io'[n]? = some a → a ∈ io' := fun n a h => List.mem_of_getElem? h
    cases S' with
    | nil => cases hd
    | cons d0 ext =>
      cases d0 <;> first | (cases hd; done) | skip
      rename_i c0 ns vs
      obtain ⟨ds, hds, rfl⟩ := Option.map_eq_some_iff.mp (show (unboxes (.ins c0 ns vs :: ext) vs).map (fun ds => D.ins c0 ns ds) = some d from hd)
      obtain ⟨a, ha, hp, ow⟩ := R'.boxes 0 _ rfl
      have hx0 : io'[0]? = some x := by rw [eio]; rfl
      rw [hx0] at ha
      cases ha
      have hgx := (R'.plg x (by rw [hp]; simp)).1
      have one : ∀ {v : V} {e e' : D} (S2 : Store), Rel Z H' G' io' pl' S2 de' σ' → Rep Z G' io' v e → unbox1 S2 e = some e' → Rep Z (knowI H' G' io') io v e' := fun {v e e'} S2 R2 r h => by
        have mono : ∀ a u, G' a = some u → knowI H' G' io' a = some u := fun a u h => knowI_mono h
        cases e
        case box n =>
          cases r with
          | box hn =>
            rename_i p
            have h : (match S2[n]? with | some d => if (isFresh d && d.noBox) = true then some d else none | none => none) = some e' := h
            cases hS : S2[n]? with
            | none => rw [hS] at h; cases h
            | some d1 =>
              rw [hS] at h
              have h : (if (isFresh d1 && d1.noBox) = true then some d1 else none) = some e' := h
              split at h <;> cases h
              rename_i hz
              obtain ⟨hf, hb⟩ := Bool.and_eq_true_iff.mp hz
              obtain ⟨p', hp', hpl, ow1⟩ := R2.boxes n _ hS
              rw [hn] at hp'
              cases hp'
              have hg := (R2.plg p (by rw [hpl]; simp)).1
              have at_ := knowI_at (H' := H') hg (bmem n p hn)
              cases ow1 with
              | lst h' r' => exact .lst (by rw [at_]; exact h') ((r'.mono mono fun _ _ h => h).nb hb)
              | dK h' r' => exact .dK (by rw [at_]; exact h') ((r'.mono mono fun _ _ h => h).nb (Bool.and_eq_true_iff.mp hb).2)
              | dT h' r' => exact .dT (by rw [at_]; exact h') ((r'.mono mono fun _ _ h => h).nb (Bool.and_eq_true_iff.mp hb).2)
              | ins h' r' => cases hf
        all_goals
          rw [unbox1_val fun n => by simp] at h
          split at h <;> cases h
          rename_i hb
          exact (r.mono mono fun _ _ h => h).nb hb
      have all : ∀ (S2 : Store), Rel Z H' G' io' pl' S2 de' σ' → ∀ {fs : List V} {vs ds : List D}, Reps Z G' io' fs vs → unboxes S2 vs = some ds → Reps Z (knowI H' G' io') io fs ds := fun S2 R2 => by
        intro fs
        induction fs with
        | nil => intro vs ds r h; cases r; cases h; exact .nil
        | cons v fs ih =>
          intro vs ds r h
          cases r with
          | cons q t =>
            rename_i e es
            have h : (match unbox1 S2 e, unboxes S2 es with | some x, some xs => some (x :: xs) | _, _ => none) = some ds := h
            cases h1 : unbox1 S2 e with
            | none => rw [h1] at h; cases h
            | some e' =>
              cases h2 : unboxes S2 es with
              | none => rw [h1, h2] at h; cases h
              | some es' =>
                rw [h1, h2] at h
                cases h
                exact .cons (one S2 R2 q h1) (ih t h2)
      cases ow with
      | ins hh rr => exact .ins (by rw [knowI_at hgx (bmem 0 x hx0)]; exact hh) (all _ R' rr hds)
theorem noBox_get : ∀ {ds : List D} {i : Nat} {d : D}, D.noBoxes ds = true → ds[i]? = some d → d.noBox = true
  | [], i, d, _, h => by simp at h
  | x :: xs, 0, d, hb, h => by
    cases h
    exact (Bool.and_eq_true_iff.mp hb).1
  | x :: xs, i + 1, d, hb, h => noBox_get (Bool.and_eq_true_iff.mp hb).2 (by rwa [List.getElem?_cons_succ] at h)
theorem init_go {f n c : Nat} {fe : Fe} {body : List Stmt} {Nn : List Str} {vs : List V} {Q : VK} {E : XK} {C' : Calls} (hE : ∀ cls d σ H, E cls d H → W cls d σ H) (hC : ∀ ds, C' f ds = runI T N C fe c ds) (hs : fe.slots = Nn.length) (q : spI Z C' f n c vs H Q E) : tSs Z T C W N fe.body { nx := fun _ H' => Q .non H', rt := Q } (start Nn vs) H := by
  obtain ⟨hl, x, dx, H0, ws, G, io, pl, S, ds, rfl, hx, hdx, hne, rfl, R, r, h⟩ := q
  rw [hC] at h
  unfold runI at h
  split at h
  · rename_i hz
    obtain ⟨hz, hb⟩ := hz
    have hr := r.length
    have up : ∀ a o, H0 a = some o → upd (upd H0 dx (.own x)) x (.ins (Z.ca c) dx []) a = some o := fun a o h => by
      have e1 : a ≠ x := fun e => by rw [e, hx] at h; cases h
      have e2 : a ≠ dx := fun e => by rw [e, hdx] at h; cases h
      rw [upd_ne e1, upd_ne e2]
      exact h
    have gx : G x = none := by
      cases q : G x with
      | none => rfl
      | some u => exact absurd hx (R.gh x u q).ne
    have hnum : Nn.length - (ds.length + 1) = Nn.length - (V.ref x :: ws).length := by rw [List.length_cons, hr]
    have R1 : Rel Z (upd (upd H0 dx (.own x)) x (.ins (Z.ca c) dx [])) G [x] (fun a => if a = x then some (.box 0) else none) [.ins c [] []] (some (.val (.box 0)) :: (ds.map (fun d => some (.val d)) ++ List.replicate (fe.slots - (ds.length + 1)) none)) (start Nn (.ref x :: ws)) := by
      refine ⟨fun a u h => ?_, ?_, fun k e he => ?_, rfl, fun k d' hd => ?_, fun a ha => ?_⟩
      · rcases R.gh a u h with q | ⟨i, o, q⟩
        · exact .inl (up _ _ q)
        · exact .inr ⟨i, o, up _ _ q⟩
      · unfold L2.start
        simp [hr, hs]
      · unfold L2.start
        cases k with
        | zero =>
          cases he
          exact ⟨.ref x, rfl, .box rfl⟩
        | succ k =>
          rw [List.getElem?_cons_succ] at he
          rw [List.map_cons, List.cons_append, List.getElem?_cons_succ]
          by_cases cc : k < ds.length
          · rw [List.getElem?_append_left (by rw [List.length_map]; exact cc), List.getElem?_map] at he
            obtain ⟨d, hd, ee⟩ := Option.map_eq_some_iff.mp he
            cases ee
            obtain ⟨v, hv, rv⟩ := r.get hd
            refine ⟨v, ?_, rv.nb (noBox_get hb hd)⟩
            rw [List.getElem?_append_left (by rw [List.length_map]; omega), List.getElem?_map, hv]
            rfl
          · rw [List.getElem?_append_right (by rw [List.length_map]; omega), List.getElem?_replicate] at he
            split at he <;> cases he
      · cases k with
        | succ k => simp at hd
        | zero =>
          cases hd
          exact ⟨x, rfl, if_pos rfl, .ins (fs := []) upd_same .nil⟩
      · by_cases e : a = x
        · subst e
          exact ⟨gx, by rw [upd_same]; simp, fun xs z => by rw [upd_same] at z; cases z⟩
        · have ha : (if a = x then some (Pl.box 0) else none) ≠ none := ha
          rw [if_neg e] at ha
          exact absurd rfl ha
    refine ⟨[], _, G, [x], G, [x], _, _, _, R1, ⟨.refl, fun b hb => by simp at hb, fun a p hn hp => ?_⟩, ?_⟩
    · exfalso
      by_cases e : a = x
      · have hp : (if a = x then some (Pl.box 0) else none) = some p := hp
        rw [if_pos e] at hp
        cases hp
        exact hn _ rfl
      · have hp : (if a = x then some (Pl.box 0) else none) = some p := hp
        rw [if_neg e] at hp
        cases hp
    · generalize sts T C N (some (.val (.box 0)) :: (ds.map (fun d => some (.val d)) ++ List.replicate (fe.slots - (ds.length + 1)) none)) fe.body [.ins c [] []] = rr at h
      cases rr with
      | bad => exact h.elim
      | exc e fs S1 =>
        have h : Fin Z H0 G io [] [] (fun cls dd _ H' => E cls dd H') (if D.noBoxes fs = true then .exc e fs S else .bad) _ := h
        split at h
        · rename_i hfb
          intro H' G' io' pl' de' σ' cls dd R' B' xx
          obtain ⟨G2, pl2, R2, s2, gm, _⟩ := init_back R hx hdx hne B'.st R'
          refine hE _ _ _ _ (h H' G2 io pl2 cls dd s2 R2 ?_)
          obtain ⟨e1, e2⟩ := xx
          refine ⟨e1, e2.imp id fun ⟨d, fvs, e3, e4, e5⟩ => ⟨d, fvs, e3, e4, (e5.mono gm fun _ _ h => h).nb hfb⟩⟩
        · exact h.elim
      | ok o S1 =>
        cases o with
        | nx d2 =>
          have h : Fin Z H0 G io [] [] (fun cls dd _ H' => E cls dd H') (match madeI S1 with | some d => Res.ok (d, true) S | none => .bad) _ := h
          cases hm : madeI S1 with
          | none => rw [hm] at h; exact h.elim
          | some d =>
            rw [hm] at h
            intro H' G' io' pl' σ' R' B'
            obtain ⟨G2, pl2, R2, s2, gm, rd⟩ := init_back R hx hdx hne B'.st R'
            exact h H' G2 io pl2 s2 R2 (rd d hm)
        | ct d2 => exact h.elim
        | bk d2 => exact h.elim
        | rtv d f => exact h.elim
  · exact h.elim
end
end Y
/-! Y26: lists extended, names with an operator, lists reversed. -/
namespace Y
open PySem L2

section
variable {bs : List (Hp × Hp × List Addr)} {Z : Zc} {T : Tb} {C : Calls} {W : WX} {X : Cx} {N : Nat} {H G H' G' H1 G1 H0 G0 : Hp} {io io' io1 io0 : List Addr} {pl pl' : Plc} {S S' : Store} {de : Env} {σ : L2.St}
theorem xtnd_go {e : IR} {i : Nat} {D : Ends} (R : Rel Z H G io pl S de σ) (B : Bs bs H0 G0 io0 H G io pl) (q : FinS bs Z H0 G0 io0 W (st T C N de (.xtnd i e) S) D) : ∃ p vs, σ[i]? = some (some (.ref p)) ∧ H p = some (.lst vs) ∧
    tE Z T C W e σ H fun w H1 => ∃ b xs zs, w = .ref b ∧ H1 p = some (.lst xs) ∧ H1 b = some (.lst zs) ∧ xs.length + zs.length ≤ sizeLine ∧ D.nx σ (upd H1 p (.lst (xs ++ zs))) := by
  have q : FinS bs Z H0 G0 io0 W ((match de[i]? with | some (some (.own (.lst xs))) => bnd (ev T C de e) fun d => (match d with | .lst ys => if decide (xs.length + ys.length ≤ sizeLine) then ret (.nx (de.set i (some (.own (.lst (xs ++ ys)))))) else fail | _ => fail) | _ => fail : M Out) S) D := q
  cases hd : de[i]? with
  | none => rw [hd] at q; exact q.elim
  | some o =>
    rw [hd] at q
    cases o with
    | none => exact q.elim
    | some ee =>
      cases ee with
      | val d => exact q.elim
      | own d =>
        cases d <;> first | exact (q : False).elim | skip
        rename_i xs
        have q := FinS.bnd R B (show FinS bs Z H0 G0 io0 W ((ev T C de e S).bnd _) D from q)
        obtain ⟨v, hv, p, rfl, hp, ow⟩ := R.slots i _ hd
        cases ow with
        | lst hH r =>
          refine ⟨p, _, hv, hH, G, io, pl, S, de, R, q.imp fun d S1 k H1 G1 io1 pl1 w s1 R1 r1 => ?_⟩
          cases r1 <;> first | exact (k : False).elim | skip
          rename_i b ws ys hb rb
          have k : FinS bs Z H0 G0 io0 W ((if decide (xs.length + ys.length ≤ sizeLine) = true then ret (.nx (de.set i (some (.own (.lst (xs ++ ys)))))) else fail : M Out) S1) D := k
          split at k
          · rename_i hz
            obtain ⟨pl2, R2, B2, _⟩ := B.next R s1 R1
            obtain ⟨v2, hv2, p2, e2, hp2, ow2⟩ := R2.slots i _ hd
            rw [hv] at hv2
            cases hv2
            cases e2
            cases ow2 with
            | lst hH2 r2 =>
              obtain ⟨pl3, R3, B3⟩ := R2.setSlot B2 hd hv hH2 (by simp) (by simp) (.lst upd_same (r2.append rb)) rfl
              exact ⟨b, _, _, rfl, hH2, (R2.gh _ _ hb).same rfl, by rw [r2.length, rb.length]; exact of_decide_eq_true hz, k _ _ _ _ _ R3 B3⟩
          · exact k.elim
theorem s_xtndM {stm : Stmt} {e : IR} {i : Nat} (h : PS X stm (tDrop (tBM X.K "list" rExtend (tVar i) (tCons (tE Z T C W e) tNil)))) : PS X stm (tS Z T C W N (.xtnd i e)) := h.wk fun D σ H q => by
  obtain ⟨bs, H0, G0, io0, G, io, pl, S, de, R, B, q⟩ := q
  obtain ⟨p, vs, hv, hH, G1, io1, pl1, S1, de1, R1, k⟩ := xtnd_go R B q
  refine ⟨.ref p, hv, .inl ⟨rfl, _, SqL.of hH⟩, G1, io1, pl1, S1, de1, R1, k.imp fun d S2 k2 H1 G2 io2 pl2 w s1 R2 r2 => ?_⟩
  obtain ⟨b, xs, zs, rfl, h1, h2, h3, h4⟩ := k2 H1 G2 io2 pl2 w s1 R2 r2
  exact ⟨p, b, xs, zs, rfl, rfl, h1, h2, h3, h4⟩
theorem ip_ext : PIp X .Add rExt2 := fun pins s σ H x y v u Q I rx ry h => iop_ext pins s σ H x y v u Q I rx ry h
theorem set_same {i : Nat} {σ : L2.St} {v : Option V} (h : σ[i]? = some v) : σ.set i v = σ := by
  refine List.ext_getElem? fun j => ?_
  by_cases e : i = j
  · subst e
    rw [List.getElem?_set_self (List.getElem?_eq_some_iff.mp h).1, h]
  · rw [List.getElem?_set_ne e]
theorem s_xtndA {stm : Stmt} {e : IR} {i : Nat} (h : PS X stm (tAug i (tE Z T C W e) rExt2)) : PS X stm (tS Z T C W N (.xtnd i e)) := h.wk fun D σ H q => by
  obtain ⟨bs, H0, G0, io0, G, io, pl, S, de, R, B, q⟩ := q
  obtain ⟨p, vs, hv, hH, G1, io1, pl1, S1, de1, R1, k⟩ := xtnd_go R B q
  refine ⟨.ref p, hv, G1, io1, pl1, S1, de1, R1, k.imp fun d S2 k2 H1 G2 io2 pl2 w s1 R2 r2 => ?_⟩
  obtain ⟨b, xs, zs, rfl, h1, h2, h3, h4⟩ := k2 H1 G2 io2 pl2 w s1 R2 r2
  refine ⟨p, b, xs, zs, rfl, rfl, h1, h2, h3, ?_⟩
  show D.nx (σ.set i (some (.ref p))) _
  rw [set_same hv]
  exact h4
/-- x += n, x -= n -/
theorem aug_go {ir e : IR} {i : Nat} {f : Int → Int → Int} {D : Ends} (hst : ∀ de, st T C N de ir = match de[i]? with | some (some (.val (.int x))) => bnd (ev T C de e) fun d => (match d with | .int y => ret (.nx (de.set i (some (.val (.int (f x y)))))) | _ => fail) | _ => fail)
    (R : Rel Z H G io pl S de σ) (B : Bs bs H0 G0 io0 H G io pl) (q : FinS bs Z H0 G0 io0 W (st T C N de ir S) D) : tAug i (tE Z T C W e) (ipI f) D σ H := by
  rw [hst] at q
  cases hd : de[i]? with
  | none => rw [hd] at q; exact q.elim
  | some o =>
    rw [hd] at q
    cases o with
    | none => exact q.elim
    | some ee =>
      cases ee with
      | own d => exact q.elim
      | val d =>
        cases d <;> first | exact (q : False).elim | skip
        rename_i n
        have q := FinS.bnd R B (show FinS bs Z H0 G0 io0 W ((ev T C de e S).bnd _) D from q)
        obtain ⟨v, hv, r⟩ := R.slots i _ hd
        cases r
        refine ⟨_, hv, G, io, pl, S, de, R, q.imp fun d S1 k H1 G1 io1 pl1 w s1 R1 r1 => ?_⟩
        cases r1 <;> first | exact (k : False).elim | skip
        rename_i m
        obtain ⟨pl2, R2, B2, _⟩ := B.next R s1 R1
        refine ⟨n, m, rfl, rfl, ?_⟩
        exact k _ _ _ _ _ (R2.setPV (.inl ⟨rfl, .int _⟩)) B2
theorem s_auga {stm : Stmt} {e : IR} {i : Nat} (h : PS X stm (tAug i (tE Z T C W e) (ipI fun i j => i + j))) : PS X stm (tS Z T C W N (.auga i e)) := h.wk fun D σ H q => by
  obtain ⟨bs, H0, G0, io0, G, io, pl, S, de, R, B, q⟩ := q
  exact aug_go (ir := .auga i e) (fun de => rfl) R B q
theorem s_augs {stm : Stmt} {e : IR} {i : Nat} (h : PS X stm (tAug i (tE Z T C W e) (ipI fun i j => i - j))) : PS X stm (tS Z T C W N (.augs i e)) := h.wk fun D σ H q => by
  obtain ⟨bs, H0, G0, io0, G, io, pl, S, de, R, B, q⟩ := q
  exact aug_go (ir := .augs i e) (fun de => rfl) R B q
theorem n_rev {a : IR} {e : Expr} (h : PE X e (tRevL X.K (tE Z T C W a))) : PE X e (tN Z T C W (.rev a)) := h.wk fun σ H Q q => by
  obtain ⟨G, io, pl, S, de, R, h⟩ := q
  refine ⟨G, io, pl, S, de, R, (Fin.bnd (show Fin Z H G io de σ W ((ev T C de a S).bnd _) _ from h)).imp fun x S1 k H1 G1 io1 pl1 v s1 R1 r1 => ?_⟩
  cases r1 <;> first | exact (k : False).elim | skip
  rename_i b ws ys hb rb
  refine ⟨b, ws, rfl, SqL.of ((R1.gh _ _ hb).same rfl), fun p hp => ?_⟩
  obtain ⟨R2, s2, pn, gn⟩ := R1.laid hp (.lst ws.reverse)
  refine k _ G1 io1 pl1 p (s1.trans s2) R2 (.lst upd_same ?_) pn gn (s1.none hp) rfl
  refine Reps.of_get (by rw [List.length_reverse, List.length_reverse, rb.length]) fun j v d h1 h2 => ?_
  have l1 := (List.getElem?_eq_some_iff.mp h1).1
  rw [List.length_reverse] at l1
  have l2 := rb.length
  rw [List.getElem?_reverse l1] at h1
  rw [List.getElem?_reverse (by omega), ← l2] at h2
  obtain ⟨d', h3, h4⟩ := rb.getV h1
  rw [h3] at h2
  cases h2
  exact h4
end
end Y
/-! Y16: dict comprehensions. -/
namespace Y
open PySem L2
section
variable {Z : Zc} {T : Tb} {C : Calls} {W : WX} {X : Cx} {H G H' G' H1 G1 : Hp} {io io' io1 : List Addr} {pl pl' : Plc} {S S' : Store} {de : Env} {σ : L2.St}
def stepD (T : Tb) (C : Calls) (de : Env) (vs : List Nat) (g c k v : IR) (d : D) : M (Option (D × D)) := tryL (asg g d (wipeE de vs)) fun d1 => bnd (hush (evt T C d1 c)) fun b => if b = true then bnd (hush (ev T C d1 k)) fun x => bnd (hush (ev T C d1 v)) fun y => ret (some (x, y)) else ret none
theorem putKV_K {kvs : List (Key × V)} {ds : List D} {q y a : D} {vq vy : V} (r : Reps Z G io (kvs.map (·.2)) ds) (rq : Rep Z G io vq q) (ry : Rep Z G io vy y) (e : putKV q y (.dct (kvs.map fun p => keyD p.1) ds) = some a) :
    ∃ k ds', vq = kV k ∧ kvs.length < sizeLine ∧ a = .dct ((putK kvs k vy).map fun p => keyD p.1) ds' ∧ Reps Z G io ((putK kvs k vy).map (·.2)) ds' := by
  have em : (match q.ky with | some (.one z) => if (kvs.map fun p => keyD p.1).length < sizeLine then some (if (dfind (.one z) (kvs.map fun p => keyD p.1) ds).isSome = true then D.dct (kvs.map fun p => keyD p.1) (dputV (.one z) y (kvs.map fun p => keyD p.1) ds) else .dct ((kvs.map fun p => keyD p.1) ++ [q]) (ds ++ [y])) else none | _ => none) = some a := e
  clear e
  cases hk : q.ky with
  | none => rw [hk] at em; cases em
  | some z =>
    cases z with
    | tup k => rw [hk] at em; cases em
    | one k =>
      rw [hk] at em
      have e : (if (kvs.map fun p => keyD p.1).length < sizeLine then some (if (dfind (.one k) (kvs.map fun p => keyD p.1) ds).isSome = true then D.dct (kvs.map fun p => keyD p.1) (dputV (.one k) y (kvs.map fun p => keyD p.1) ds) else .dct ((kvs.map fun p => keyD p.1) ++ [q]) (ds ++ [y])) else none) = some a := em
      split at e <;> first | (cases e; done) | skip
      rename_i hl
      rw [List.length_map] at hl
      obtain ⟨rfl, rfl⟩ := rep_key rq hk
      obtain ⟨ds', e1, r1⟩ := put_g (rd := keyD) (kyc := Ky.one) (k := k) (v := vy) ky_keyD one_inj r ry
      have e := Option.some.inj e
      rw [e1] at e
      exact ⟨k, ds', rfl, hl, e.symm, r1⟩
theorem tN_dc {W' : WX} {vs : List Nat} {g it c k v : IR} {wi : TI} {gg : TG} {tt : TT} {tk tv : TE} {Q : VK} (hwi : ∀ σ H R, tI Z T C W it σ H R → wi σ H R) (hg : ∀ v σ H Q, tG Z g v σ H Q → gg v σ H Q) (ht : ∀ σ H Q, tT Z T C W' c σ H Q → tt σ H Q) (hk : ∀ σ H Q, tE Z T C W' k σ H Q → tk σ H Q) (he : ∀ σ H Q, tE Z T C W' v σ H Q → tv σ H Q)
    (hv : ∀ j ∈ gsl g, j ∈ vs) (q : tN Z T C W (.dc vs g it c k v) σ H Q) : tDc wi gg tt tk tv vs σ H Q := by
  obtain ⟨G, io, pl, S, de, R, h⟩ := q
  refine hwi σ H _ ⟨G, io, pl, S, de, R, (Fin.bnd (show Fin Z H G io de σ W ((evi T C de it S).bnd _) _ from h)).imp fun items S1 kk H1 G1 io1 pl1 J s1 R1 wk D hD => ?_⟩
  have kk : Fin Z H G io de σ W (compD items (stepD T C de vs g c k v) (.dct [] []) S1) _ := kk
  have gD1 : G1 D = none := by
    cases q : G1 D with
    | none => rfl
    | some u => exact absurd hD (R1.gh D u q).ne
  have h0 := s1.none hD
  refine ⟨fun i m H2 => m = items.length - i ∧ i ≤ items.length ∧ ∃ G2 io2 pl2 S2 kvs ds, Step H1 G1 io1 H2 G2 io2 ∧ Rel Z H2 G2 io2 pl2 S2 de σ ∧ H2 D = some (.dK kvs) ∧ Reps Z G2 io2 (kvs.map (·.2)) ds ∧ pl2 D = none ∧ G2 D = none ∧
    Fin Z H G io de σ W (compD (items.drop i) (stepD T C de vs g c k v) (.dct (kvs.map fun p => keyD p.1) ds) S2) (fun d S' => ∀ H' G' io' pl' p, Step H G io H' G' io' → Rel Z H' G' io' pl' S' de σ → Own Z H' G' io' p d → pl' p = none → G' p = none → H p = none → isFresh d = true → Q (.ref p) H'),
    ⟨items.length, by simp, Nat.zero_le _, G1, io1, pl1, S1, [], [], ?_⟩, ?_⟩
  · obtain ⟨R', s', n, gn⟩ := R1.laid hD (.dK [])
    exact ⟨s', R', upd_same, .nil, n, gn, by rw [List.drop_zero]; exact kk⟩
  rintro i m H2 ⟨rfl, hi, G2, io2, pl2, S2, kvs, ds, s2, R2, hH, ra, hpl, hg2, k2⟩
  by_cases hlt : i < items.length
  · refine .inr ⟨wk.go i H2 G2 io2 (.of R1 s2) R2.gh hlt, fun H3 => ∃ G2 io2 pl2 S2 kvs ds, Step H1 G1 io1 H3 G2 io2 ∧ Rel Z H3 G2 io2 pl2 S2 de σ ∧ H3 D = some (.dK kvs) ∧ Reps Z G2 io2 (kvs.map (·.2)) ds ∧ pl2 D = none ∧ G2 D = none ∧
        Fin Z H G io de σ W (compD (items.drop (i + 1)) (stepD T C de vs g c k v) (.dct (kvs.map fun p => keyD p.1) ds) S2) (fun d S' => ∀ H' G' io' pl' p, Step H G io H' G' io' → Rel Z H' G' io' pl' S' de σ → Own Z H' G' io' p d → pl' p = none → G' p = none → H p = none → isFresh d = true → Q (.ref p) H'),
      fun H3 hx => ⟨_, by omega, rfl, hlt, hx⟩, fun x H3 y => ?_⟩
    obtain ⟨d, hd⟩ : ∃ d, items[i]? = some d := ⟨_, List.getElem?_eq_getElem hlt⟩
    obtain ⟨G3, R3, s3, r3⟩ := (wk.yld i H2 G2 io2 x H3 d (.of R1 s2) R2.gh hd y).rel R2
    have eq : items.drop i = d :: items.drop (i + 1) := by
      rw [List.drop_eq_getElem_cons hlt]
      congr 1
      exact Option.some.inj ((List.getElem?_eq_getElem hlt).symm.trans hd)
    rw [eq] at k2
    have k2 := Fin.bnd (show Fin Z H G io de σ W ((stepD T C de vs g c k v d S2).bnd _) _ from k2)
    obtain ⟨d1, ha, k2⟩ := (show Fin Z H G io de σ W (tryL (asg g d (wipeE de vs)) _ S2) _ from k2).tryL
    have k2 := Fin.bnd (show Fin Z H G io de σ W ((evt T C d1 c S2).hush.bnd _) _ from k2)
    obtain ⟨b, S4, hb, k4⟩ := k2.hush
    refine hg x _ H3 _ ⟨G3, io2, pl2, S2, wipeE de vs, d, d1, R3.wiped vs, r3, ha, fun σ2 Rg hsl hsa => ⟨wipe_eq hv hsl hsa, ?_⟩⟩
    refine ht σ2 H3 _ ⟨G3, io2, pl2, S2, d1, Rg, ?_⟩
    rw [hb]
    show ∀ H' G' io' pl', Step H3 G3 io2 H' G' io' → Rel Z H' G' io' pl' S4 d1 σ2 → _
    intro H4 G4 io4 pl4 s4 R4
    have s24 := s3.trans s4
    have nD := R2.nio hpl
    obtain ⟨hH4, hg4, nD4⟩ := s24.keepO hH (by simp) (by simp) hg2 nD
    cases b with
    | false =>
      rw [if_neg (by simp)]
      obtain ⟨pl5, R5, hp5⟩ := R2.backN s24 R4 hpl nD4
      exact ⟨G4, io4, pl5, S4, kvs, ds, s2.trans s24, R5, hH4, ra.step s24, hp5, hg4, k4⟩
    | true =>
      rw [if_pos rfl]
      have k4 := Fin.bnd (show Fin Z H G io de σ W ((ev T C d1 k S4).hush.bnd _) _ from k4)
      obtain ⟨x5, S5, hx5, k5⟩ := k4.hush
      refine hk σ2 H4 _ ⟨G4, io4, pl4, S4, d1, R4, ?_⟩
      rw [hx5]
      show ∀ H' G' io' pl' v', Step H4 G4 io4 H' G' io' → Rel Z H' G' io' pl' S5 d1 σ2 → Rep Z G' io' v' x5 → _
      intro H5 G5 io5 pl5 y5 s5 R5 r5
      obtain ⟨hH5, hg5, nD5⟩ := s5.keepO hH4 (by simp) (by simp) hg4 nD4
      have k5 := Fin.bnd (show Fin Z H G io de σ W ((ev T C d1 v S5).hush.bnd _) _ from k5)
      obtain ⟨x6, S6, hx6, k6⟩ := k5.hush
      refine he σ2 H5 _ ⟨G5, io5, pl5, S5, d1, R5, ?_⟩
      rw [hx6]
      show ∀ H' G' io' pl' v', Step H5 G5 io5 H' G' io' → Rel Z H' G' io' pl' S6 d1 σ2 → Rep Z G' io' v' x6 → _
      intro H6 G6 io6 pl6 y6 s6 R6 r6
      obtain ⟨hH6, hg6, nD6⟩ := s6.keepO hH5 (by simp) (by simp) hg5 nD5
      have s26 := (s24.trans s5).trans s6
      obtain ⟨pl7, R7, hp7⟩ := R2.backN s26 R6 hpl nD6
      obtain ⟨a, hput, k6⟩ := (show Fin Z H G io de σ W (tryL (putKV x5 x6 (.dct (kvs.map fun p => keyD p.1) ds)) _ S6) _ from k6).tryL
      obtain ⟨key, ds', ek, hz, rfl, r'⟩ := putKV_K (ra.step s26) (r5.step s6) r6 hput
      exact ⟨kvs, key, ek, hH6, hz, G6, io6, pl7, S6, putK kvs key y6, ds', (s2.trans s26).write hD (by simp), R7.write hH6 (by simp) (by simp) hp7 hg6, upd_same, r', hp7, hg6, k6⟩
  · have e : i = items.length := by omega
    subst e
    refine .inl ⟨wk.stop H2 G2 io2 (.of R1 s2) R2.gh, ?_⟩
    rw [List.drop_length] at k2
    exact k2 H2 G2 io2 pl2 D (s1.trans s2) R2 (.dK hH ra) hpl hg2 h0 rfl
/-- name = {..} on one line, the name a local -/
theorem ps_setDc {i : Nat} {y : Str} {py : Pos} {kx vx tg iter : Expr} {ifs : List Expr} {scope : Scope} {own : List (Str × Nat)} {pos spos : Pos} {wi : TI} {g : TG} {tt : TT} {tk tv : TE} (hc : X.calm = true) (hN : X.N.Nodup) (hy : X.N[i]? = some y) (hyl : X.env.scope.names.lookup y = some .local)
    (hsw : swapsWith (.DictComp kx vx [⟨tg, iter, ifs, 0⟩] scope pos) (some (.Name y py)) spos.line X.env = pure true) (hi : PI X tg iter wi) (ok : BlkOk X.N X.env.scope scope own)
    (hg : ∀ (s : Shared) (H : Hp) (C : Addr) (cl : List (Str × Addr)) (fp : List Addr), PG (X.blk s H scope (compEnvC scope cl C X.env) fp) tg g) (ht : ∀ (s : Shared) (H : Hp) (C : Addr) (cl : List (Str × Addr)) (fp : List Addr), PTs (X.blk s H scope (compEnvC scope cl C X.env) fp) ifs tt)
    (hk : ∀ (s : Shared) (H : Hp) (C : Addr) (cl : List (Str × Addr)) (fp : List Addr), PE (X.blk s H scope (compEnvC scope cl C X.env) fp) kx tk)
    (he : ∀ (s : Shared) (H : Hp) (C : Addr) (cl : List (Str × Addr)) (fp : List Addr), PE (X.blk s H scope (compEnvC scope cl C X.env) fp) vx tv) (hs : ∀ x, foldedSetIterable iter X.env x = pure x := by intro _; rfl) :
    PS X (.Assign [.Name y py] (.DictComp kx vx [⟨tg, iter, ifs, 0⟩] scope pos) spos) (tAsg (tDc wi g tt tk tv (own.map (·.2))) (gName i)) := by
  refine ⟨fun pins s σ H D I h => ?_⟩
  rw [exec_Assign_Name_used _ _ _ _ hsw]
  refine wpAny_bind (wpAny_standAt (wpAny_bind ?_))
  show wpAny _ X.A (do let _ ← comprehension (.DictComp kx vx [⟨tg, iter, ifs, 0⟩] scope pos) scope X.env (firstIterPos [⟨tg, iter, ifs, 0⟩] pos) newDict false (eval iter X.env) (some (assign (.Name y py) X.env))) _ _ s
  have h : tDc wi g tt tk tv (own.map (·.2)) σ H (fun x H1 => gName i x σ H1 D.nx) := h
  refine wpAny_bind (thn (dc_core (Qf := fun _ s' => SP X pins D .next s') hc hN I hi ok hg ht hk he hs h fun L C s' m H' I' q hn f => ?_) fun _ s' hq => wpAny_pure (wpAny_pure hq))
  show wpAny _ _ (assign (.Name y py) X.env (.ref L)) _ _ _
  refine wpAny_assign_Name (store_ok2 (v := V.ref L) I' hN hy (.inl hyl) rfl (fun s2 I2 ⟨a, sb, ha⟩ => ?_) (.inr hyl))
  obtain ⟨f0, f1, f2, f3, f4, f5⟩ := f
  have haC : C ≠ a := by
    rcases ha with z | z
    · rw [z]; exact f1
    · exact fun e => f4 y a z e.symm
  refine ⟨m, hn.sameBut sb haC, fun h3 sb3 => ?_⟩
  exact ⟨_, H', I2.turned (t' := s2.toks) (fun b o hb e => (sb3.2 b hb).trans e) f0 f1 f3 f4 f5, q⟩
end
end Y
/-! Y13: contexts, the rules in the form the printed proofs use. -/
namespace Y
open PySem L2

/-- what is fixed for a law; cad: what is called (a def, a class) -/
structure Wd where
  Z : Zc
  P : Program
  w : World
  mg : Str → Option Value
  base : Heap
  names : List Str
  pars : List (List Str)
  frees : List Str
  fad : Nat → Addr
  fdd : Nat → FuncData
  cad : Nat → Addr
  clsn : List Str
  gcon : List (Str × V)
  ccon : List (Nat × Str × V)
/-- a name that no text has -/
def hashB (x : Str) : Bool := decide (x.cps[0]? = some 35)
structure WdOk (A : Wd) (T : Tb) : Prop where
  gl : ∀ (i : Nat) (x : Str), hashB x = false → A.names[i]? = some x → A.mg x = some (.ref (A.cad i)) ∧ PySem.W.keepIn A.Z.K (.ref (A.cad i)) = true
  fr : ∀ (i : Nat) (x : Str), A.frees[i]? = some x → A.mg x = none
  bn : ∀ (i : Nat) (fe : Fe) (ps : List Str), T.fns[i]? = some fe → fe.kwo = false → A.pars[i]? = some ps → Binds A.Z.K (A.fdd i) ps []
  fe : ∀ (i : Nat) (fe : Fe), T.fns[i]? = some fe → ∃ ps, A.pars[i]? = some ps ∧ fe.arity = ps.length
  df : ∀ (i : Nat) (fe : Fe), T.fns[i]? = some fe → fe.ini = none → A.cad i = A.fad i
  ini : ∀ (i : Nat) (fe : Fe) (c : Nat), T.fns[i]? = some fe → fe.ini = some c → A.cad i = A.Z.ca c ∧ Mk A.Z.K (A.Z.ca c) (A.fad i)
  cls : ∀ c ce, T.cls[c]? = some ce → Cls A.Z.K (A.Z.ca c) ∧ PySem.W.subIn A.Z.K (.ref (A.Z.ca c)) (.type "object") = some true ∧ PySem.W.subIn A.Z.K (.ref (A.Z.ca c)) (.type "collections.deque") = some false ∧ PySem.W.findIn A.Z.K (.ref (A.Z.ca c)) "__ne__" = some (some (.builtin "object.__ne__"))
  isc : ∀ c ce, T.cls[c]? = some ce → (PySem.W.findIn A.Z.K (.ref (A.Z.ca c)) "__class__" = some (some (.builtin "object.__class__")) ∧ PySem.W.specialIn A.Z.K (.builtin "object.__class__") "__get__" = some (some (.builtin "getset_descriptor.__get__")) ∧ PySem.W.takesIn A.Z.K (.builtin "object.__class__") = some true ∧ PySem.W.mroIn A.Z.K (A.Z.ca c) (.type "object") = some true) ∧ (∀ n ∈ tyKnown, PySem.W.kitOne A.Z.K (.ref (A.Z.ca c)) (.type n) = some false) ∧ (∀ n ∈ "NoneType" :: tyKnown, PySem.W.kitOne A.Z.K (.type n) (.ref (A.Z.ca c)) = some false) ∧ ∀ c' ce', T.cls[c']? = some ce' → PySem.W.kitOne A.Z.K (.ref (A.Z.ca c)) (.ref (A.Z.ca c')) = some (c == c')
  fld : ∀ c f, T.isFld c f = true → NoAttr A.Z.K (A.Z.ca c) f
  prop : ∀ c f i, T.prop c f = some i → (∃ p, PropOf A.Z.K (A.Z.ca c) f p (A.fad i)) ∧ ∃ fe, T.fns[i]? = some fe ∧ fe.ini = none ∧ fe.kwo = false
  meth : ∀ c m i, T.meth c m = some i → Meth A.Z.K (A.Z.ca c) m (A.fad i) ∧ PySem.W.fnIn A.Z.K (A.fad i) = true ∧ ∃ fe, T.fns[i]? = some fe ∧ fe.ini = none ∧ fe.kwo = false
  cn : ∀ (c : Nat) (x : Str), A.clsn[c]? = some x → A.mg x = some (.ref (A.Z.ca c))
  gc : ∀ (i : Nat) (x : Str) (v : V) (d : D), A.gcon[i]? = some (x, v) → T.con[i]? = some d → (∃ u, A.mg x = some u ∧ RelV v u) ∧ ∀ G io, Rep A.Z G io v d
  cc : ∀ (j c : Nat) (f : Str) (v : V) (d : D), A.ccon[j]? = some (c, f, v) → T.con[A.gcon.length + j]? = some d → (∃ mc u, ClX.CRead A.Z.K (A.Z.ca c) mc ∧ ClX.CVal A.Z.K (A.Z.ca c) mc f v u) ∧ ∀ G io, Rep A.Z G io v d
def WE (E : XK) : WX := fun cls d _ H => E cls d H
/-- what the def with the index i promises -/
def spF (Z : Zc) (T : Tb) (C : Calls) (i n : Nat) : Sp := match T.fns[i]? with
  | some fe => (match fe.ini with
    | none => spD Z C i n
    | some c => spI Z C i n c)
  | none => spD Z C i n
def lvl (A : Wd) (T : Tb) (N k : Nat) : Prop := ∀ (i : Nat) (ps : List Str), A.pars[i]? = some ps → FnOk A.P A.w A.Z.K A.mg A.base (L2.CX A.P A.w) (2 * k) (A.fad i) (A.fdd i) ps (spF A.Z T (callF T N k) i ps.length)
/-- a def's or a block's context -/
structure Cxo (A : Wd) (k : Nat) (Nn : List Str) (sc : Scope) (fc : Str → Bool) (W : WX) (X : Cx) : Prop where
  cN : X.N = Nn
  nd : Nn.Nodup
  csc : X.env.scope = sc
  ckind : sc.kind = .function
  cK : X.K = A.Z.K
  cP : X.prog = A.P
  cw : X.w = A.w
  cmg : X.mg = A.mg
  cbase : X.base = A.base
  calm : X.calm = true
  cfn : ∀ x, fc x = true → X.fn x = true
  room : Room (2 * k + 1) X.A
  own : PassesOwn (model X.prog X.w) X.A X.env X.xe
  tk : Takes X W
def lkB (k : NameKind) (sc : Scope) (x : Str) : Bool := decide (sc.names.lookup x = some k)
def visB (Nn : List Str) (sc : Scope) (i : Nat) (x : Str) : Bool := decide (Nn[i]? = some x) && (lkB .local sc x || lkB .cell sc x || lkB .free sc x) && (!(x == ("__debug__" : Str))) && (!(x == ("__classdict__" : Str)))
def locB (Nn : List Str) (sc : Scope) (fc : Str → Bool) (i : Nat) (x : Str) : Bool := decide (Nn[i]? = some x) && (lkB .local sc x || (lkB .cell sc x && fc x))
def gloB (sc : Scope) (l : List Str) (i : Nat) (x : Str) : Bool := lkB .globalImplicit sc x && decide (l[i]? = some x) && (!(x == ("__debug__" : Str))) && (!(x == ("__name__" : Str))) && !hashB x

section
variable {A : Wd} {T : Tb} {N k : Nat} {Nn : List Str} {sc : Scope} {fc : Str → Bool} {X : Cx} {E : XK} {W : WX} {C : Calls}
theorem lkB_ok {k : NameKind} {x : Str} (h : lkB k sc x = true) : sc.names.lookup x = some k := of_decide_eq_true h
theorem Cxo.var (c : Cxo A k Nn sc fc W X) {i : Nat} {x : Str} {pos : Pos} (h : visB Nn sc i x = true) : PE X (.Name x pos) (tVar i) := by
  unfold visB at h
  simp only [Bool.and_eq_true, Bool.or_eq_true, Bool.not_eq_true', decide_eq_true_eq] at h
  obtain ⟨⟨⟨h1, h2⟩, h3⟩, h4⟩ := h
  refine pe_var (by rw [c.cN]; exact h1) ?_ h3 h4
  rw [c.csc]
  rcases h2 with (h2 | h2) | h2
  · exact .inl (lkB_ok h2)
  · exact .inr (.inl (lkB_ok h2))
  · exact .inr (.inr (lkB_ok h2))
theorem Cxo.loc (c : Cxo A k Nn sc fc W X) {i : Nat} {x : Str} (h : locB Nn sc fc i x = true) : X.N[i]? = some x ∧ Loc X.env.scope x ∧ (X.fn x = true ∨ X.env.scope.names.lookup x = some .local) := by
  unfold locB at h
  simp only [Bool.and_eq_true, Bool.or_eq_true, decide_eq_true_eq] at h
  obtain ⟨h1, h2⟩ := h
  refine ⟨by rw [c.cN]; exact h1, ?_, ?_⟩
  · rw [c.csc]
    rcases h2 with h2 | h2
    · exact .inl (lkB_ok h2)
    · exact .inr (lkB_ok h2.1)
  · rw [c.csc]
    rcases h2 with h2 | h2
    · exact .inr (lkB_ok h2)
    · exact .inl (c.cfn x h2.2)
theorem Cxo.ndx (c : Cxo A k Nn sc fc W X) : X.N.Nodup := by rw [c.cN]; exact c.nd
theorem Cxo.gn (c : Cxo A k Nn sc fc W X) {i : Nat} {x : Str} {pos : Pos} (h : locB Nn sc fc i x = true) : PG X (.Name x pos) (gName i) := pg_name c.ndx (c.loc h).1 (c.loc h).2.1 (c.loc h).2.2
theorem Cxo.u80 (c : Cxo A k Nn sc fc W X) : X.A.units + 80 < cLine := by have := c.room.un; omega
theorem Cxo.u65 (c : Cxo A k Nn sc fc W X) : X.A.units + 65 < cLine := by have := c.room.un; omega
theorem Cxo.u64 (c : Cxo A k Nn sc fc W X) : X.A.units + 64 < cLine := by have := c.room.un; omega
theorem Cxo.u1 (c : Cxo A k Nn sc fc W X) : X.A.units + 1 < cLine := by have := c.room.un; omega
theorem Cxo.gl (c : Cxo A k Nn sc fc W X) {x : Str} (h : lkB .globalImplicit sc x = true) : Gl X x := by
  show X.env.scope.names.lookup x = _
  rw [c.csc]
  exact lkB_ok h
structure GloR (X : Cx) (x : Str) : Prop where
  gl : Gl X x
  db : (x == ("__debug__" : Str)) = false
  nm : x ≠ "__name__"
  hs : hashB x = false
theorem Cxo.glo (c : Cxo A k Nn sc fc W X) {l : List Str} {i : Nat} {x : Str} (h : gloB sc l i x = true) : GloR X x ∧ l[i]? = some x := by
  unfold gloB at h
  simp only [Bool.and_eq_true, Bool.not_eq_true', decide_eq_true_eq] at h
  obtain ⟨⟨⟨⟨h1, h2⟩, h3⟩, h4⟩, h5⟩ := h
  exact ⟨⟨c.gl h1, h3, fun e => by rw [e] at h4; simp at h4, h5⟩, h2⟩

/-- the block of a comprehension -/
theorem Cxo.blk (c : Cxo A k Nn sc fc W X) {scope : Scope} (hk : scope.kind = .function) (s : Shared) (H : Hp) (Ca : Addr) (cl : List (Str × Addr)) (fp : List Addr) : Cxo A k Nn (relS scope sc) (fun x => scope.names.lookup x == some .cell) W0 (X.blk s H scope (compEnvC scope cl Ca X.env) fp) := by
  refine ⟨c.cN, c.nd, ?_, hk, c.cK, c.cP, c.cw, c.cmg, c.cbase, c.calm, fun x h => h, c.room, ?_, takes0⟩
  · show (compEnvC scope cl Ca X.env).scope = relS scope sc
    rw [← c.csc]
    rfl
  · exact PassesOwn.never

/-! ### calls of defs -/
theorem callF_len (T : Tb) (N : Nat) {i : Nat} {fe : Fe} (h : T.fns[i]? = some fe) : ∀ (k : Nat) {ds : List D} {S : Store}, (fe.ini = none → ds.length ≠ fe.arity) → (∀ c, fe.ini = some c → ds.length + 1 ≠ fe.arity) → callF T N k i ds S = .bad
  | 0, _, _, _, _ => rfl
  | k + 1, ds, S, h1, h2 => by
    show (match T.fns[i]? with | some fe => runF T N (callF T N k) fe ds | none => fail : M (D × Bool)) S = .bad
    rw [h]
    show runF T N (callF T N k) fe ds S = .bad
    unfold runF
    cases q : fe.ini with
    | none =>
      show run1 T N (callF T N k) fe ds S = .bad
      unfold run1
      rw [if_neg (h1 q)]
    | some c =>
      show runI T N (callF T N k) fe c ds S = .bad
      unfold runI
      rw [if_neg fun z => h2 c q z.1]
theorem FnOk.at {P P' : Program} {w w' : World} {K K' : PySem.W.Frag} {mg mg' : Str → Option Value} {base base' : Heap} {f : Addr} {fd : FuncData} {ps : List Str} {sp : Sp} {k : Nat} (h : FnOk P w K mg base (L2.CX P w) k f fd ps sp) (e1 : P' = P) (e2 : w' = w) (e3 : K' = K) (e4 : mg' = mg) (e5 : base' = base) : FnOk P' w' K' mg' base' (L2.CX P' w') k f fd ps sp := by
  subst e1 e2 e3 e4 e5
  exact h
/-- from values under slots to values alone -/
theorem tCD_sp {Z : Zc} {C : Calls} {W : WX} {i n : Nat} {vs : List V} {σ : L2.St} {H : Hp} {Q : VK} (hx : ∀ {ds S}, ds.length ≠ n → C i ds S = .bad) (q : tCD Z C W i vs σ H Q) : spD Z C i n vs H Q (L2.WE W σ) := by
  obtain ⟨G, io, pl, S, de, ds, R, r, h⟩ := q
  have hl : ds.length = n := by
    refine Decidable.byContradiction fun z => ?_
    rw [hx z] at h
    exact h
  refine ⟨by rw [r.length, hl], G, io, pl, S, ds, R.bare, r, ?_⟩
  generalize C i ds S = rr at h
  cases rr with
  | bad => exact h.elim
  | exc c fs S' =>
    intro H' G' io' pl' cls dd s R' x
    obtain ⟨pl2, R2, _⟩ := R.back s R'
    exact h H' G' io' pl2 cls dd s R2 x
  | ok x S' =>
    intro H' G' io' pl' v s R' rv
    obtain ⟨pl2, R2, _⟩ := R.back s R'
    exact h H' G' io' pl2 v s R2 rv
theorem no_cx {P : Program} {w : World} {outer : List PySem.Env} {H : Hp} {s : Shared} {E : XK} {u : Value} {s' : Shared} (hE : ∀ cls d H, ¬ E cls d H) (h : L2.CX P w outer H s E u s') : False := by
  obtain ⟨_, _, H', cls, d, _, _, _, _, _, _, _, z⟩ := h
  exact hE cls d H' z
theorem make_go {Z : Zc} {C' f : Addr} {C : Calls} {k c i n : Nat} {fd : FuncData} {ps : List Str} {pins : List (Addr × Obj)} {σ : L2.St} {H : Hp} {s : Shared} {Q : VK} {us : List Value} {vs : List V} (e : C' = Z.ca c) (M : Mk X.K C' f) (F : FnOk X.prog X.w X.K X.mg X.base (L2.CX X.prog X.w) k f fd ps (spI Z C i n c)) (hr : Room (k + 1) X.A) (hb : Binds X.K fd ps [])
    (tk : Takes X W) (I : L2.Inv X pins σ H s) (r : Vals vs us) (hx : ∀ {ds S}, ds.length + 1 ≠ n → C i ds S = .bad) (q : tCD Z C W i vs σ H Q) : wpAny (model X.prog X.w) X.A (call (.ref C') us) (EP X pins σ Q) X.xe s := by
  subst e
  have hq : spI Z C i n c (.ref (s.heap.objs.size + 1) :: vs) (upd (upd H s.heap.objs.size (.own (s.heap.objs.size + 1))) (s.heap.objs.size + 1) (.ins (Z.ca c) s.heap.objs.size [])) (fun v H2 => v = .non ∧ Q (.ref (s.heap.objs.size + 1)) H2) (L2.WE W σ) := by
    obtain ⟨G, io, pl, S, de, ds, R, rs, h⟩ := q
    have hl : ds.length + 1 = n := by
      refine Decidable.byContradiction fun z => ?_
      rw [hx z] at h
      exact h
    refine ⟨by rw [List.length_cons, rs.length, hl], _, _, H, vs, G, io, pl, S, ds, rfl, I.hok.fresh (Nat.le_succ _), I.hok.fresh (Nat.le_refl _), Nat.ne_of_lt (Nat.lt_succ_self _), rfl, R.bare, rs, ?_⟩
    generalize C i ds S = rr at h
    cases rr with
    | bad => exact h.elim
    | exc c fs S' =>
      intro H' G' io' pl' cls dd st R' x
      obtain ⟨pl2, R2, _⟩ := R.back st R'
      exact h H' G' io' pl2 cls dd st R2 x
    | ok x S' =>
      intro H' G' io' pl' st R' rv
      obtain ⟨pl2, R2, _⟩ := R.back st R'
      exact ⟨rfl, h H' G' io' pl2 _ st R2 rv⟩
  have I2 := Inv.made (C := Z.ca c) I
  have r2 : Vals (V.ref (s.heap.objs.size + 1) :: vs) (Value.ref (s.heap.objs.size + 1) :: us) := .cons rfl r
  have hl : (Value.ref (s.heap.objs.size + 1) :: us).length = ps.length := by
    have e := r2.length
    rw [F.len _ _ _ _ hq] at e
    exact e.symm
  have b := hb _ (Value.ref (s.heap.objs.size + 1) :: us) I2.kIn (by rw [List.append_nil]; exact hl)
  rw [List.append_nil] at b
  refine wpAny_call (make_map (f := f) I.kIn M.makes M.init (beq_iff_eq.mp M.fn) (codeAny_mono (F.run _ X.stack _ _ ⟨Value.ref (s.heap.objs.size + 1) :: us, []⟩ (Value.ref (s.heap.objs.size + 1) :: us) _ _ (L2.WE W σ) (hr.make (Z.ca c) us [])
    (I2.env0.make (Z.ca c) us []) b r2 hq) fun r s' hq' => ?_))
  cases r with
  | error e => exact passAt tk σ pins _ _ e s' I2 hq'
  | ok fl =>
    cases fl with
    | ret u =>
      obtain ⟨v, H', I3, rv, ev, q3⟩ := I2.after hq'
      subst ev
      exact ⟨rv, ⟨V.ref (s.heap.objs.size + 1), H', I3, rfl, q3⟩⟩
    | next => exact False.elim hq'
    | brk => exact False.elim hq'
    | cont => exact False.elim hq'
theorem Cxo.callok (c : Cxo A k Nn sc fc W X) (ok : WdOk A T) (L : lvl A T N k) (i : Nat) {fe : Fe} (hT : T.fns[i]? = some fe) (hk : fe.kwo = false) : CallOk X A.Z (callF T N k) W i (A.cad i) := fun pins s σ H us vs Q I r q => by
  obtain ⟨ps, hp, ha⟩ := ok.fe i fe hT
  have F := FnOk.at (L i ps hp) c.cP c.cw c.cK c.cmg c.cbase
  have b : Binds X.K (A.fdd i) ps [] := by rw [c.cK]; exact ok.bn i fe ps hT hk hp
  unfold spF at F
  rw [hT] at F
  cases hi : fe.ini with
  | none =>
    have F : FnOk X.prog X.w X.K X.mg X.base (L2.CX X.prog X.w) (2 * k) (A.fad i) (A.fdd i) ps (match fe.ini with | none => spD A.Z (callF T N k) i ps.length | some c => spI A.Z (callF T N k) i ps.length c) := F
    rw [hi] at F
    rw [ok.df i fe hT hi]
    exact run_fnS (E := L2.WE W) F (c.room.mono (Nat.le_succ _)) b (passAt c.tk σ) I r (tCD_sp (fun z => callF_len T N hT k (fun _ => by rw [ha]; exact z) (fun c' e => by rw [hi] at e; cases e)) q)
  | some cc =>
    have F : FnOk X.prog X.w X.K X.mg X.base (L2.CX X.prog X.w) (2 * k) (A.fad i) (A.fdd i) ps (match fe.ini with | none => spD A.Z (callF T N k) i ps.length | some c => spI A.Z (callF T N k) i ps.length c) := F
    rw [hi] at F
    obtain ⟨e1, e2⟩ := ok.ini i fe cc hT hi
    rw [e1]
    exact make_go (f := A.fad i) rfl (by rw [c.cK]; exact e2) F c.room b c.tk I r (fun z => callF_len T N hT k (fun e => by rw [hi] at e; cases e) (fun c' _ => by rw [ha]; exact z)) q
theorem Cxo.callok1 (c : Cxo A k Nn sc fc W X) (ok : WdOk A T) (L : lvl A T N k) (i : Nat) {fe : Fe} (hT : T.fns[i]? = some fe) (hi : fe.ini = none) (hk : fe.kwo = false) : CallOk1 X A.Z (callF T N k) i (A.fad i) := fun pins s σ H us vs Q E' I r q => by
  obtain ⟨ps, hp, ha⟩ := ok.fe i fe hT
  have F := FnOk.at (L i ps hp) c.cP c.cw c.cK c.cmg c.cbase
  have b : Binds X.K (A.fdd i) ps [] := by rw [c.cK]; exact ok.bn i fe ps hT hk hp
  unfold spF at F
  rw [hT] at F
  have F : FnOk X.prog X.w X.K X.mg X.base (L2.CX X.prog X.w) (2 * k) (A.fad i) (A.fdd i) ps (match fe.ini with | none => spD A.Z (callF T N k) i ps.length | some c => spI A.Z (callF T N k) i ps.length c) := F
  rw [hi] at F
  have h := tCD_sp (n := ps.length) (fun z => callF_len T N hT k (fun _ => by rw [ha]; exact z) (fun c' e => by rw [hi] at e; cases e)) q
  have hl : us.length = ps.length := by rw [← r.length]; exact F.len _ _ _ _ h
  have b := b s us I.kIn (by rw [List.append_nil]; exact hl)
  rw [List.append_nil] at b
  refine wpAny_call (codeAny_mono (F.run X.A.in1 X.stack s H ⟨us, []⟩ us vs Q (L2.WE W0 σ) c.room.in1 I.env0.in1 b r h) fun r s' hq => ?_)
  cases r with
  | error e => exact (no_cx (fun _ _ _ z => z) hq).elim
  | ok fl =>
    cases fl with
    | ret u => exact I.after hq
    | next => exact False.elim hq
    | brk => exact False.elim hq
    | cont => exact False.elim hq
theorem Cxo.disp (c : Cxo A k Nn sc fc W X) (ok : WdOk A T) (L : lvl A T N k) : Disp X A.Z T (callF T N k) W := by
  refine ⟨fun cc ce h => by rw [c.cK]; exact (ok.cls cc ce h).1, fun cc f h => by rw [c.cK]; exact ok.fld cc f h, fun cc f i h pins s σ H a dx fs Q b I ha q => ?_, fun cc m i h => ?_, fun cc ce h => by rw [c.cK]; exact ok.isc cc ce h, fun cc ce h => by rw [c.cK]; exact (ok.cls cc ce h).2⟩
  · obtain ⟨⟨p, hp⟩, fe, hT, hi, hk⟩ := ok.prop cc f i h
    obtain ⟨ce, hce⟩ := prop_cls h
    obtain ⟨ps, hps, har⟩ := ok.fe i fe hT
    have F := FnOk.at (L i ps hps) c.cP c.cw c.cK c.cmg c.cbase
    have bb : Binds X.K (A.fdd i) ps [] := by rw [c.cK]; exact ok.bn i fe ps hT hk hps
    unfold spF at F
    rw [hT] at F
    have F : FnOk X.prog X.w X.K X.mg X.base (L2.CX X.prog X.w) (2 * k) (A.fad i) (A.fdd i) ps (match fe.ini with | none => spD A.Z (callF T N k) i ps.length | some c => spI A.Z (callF T N k) i ps.length c) := F
    rw [hi] at F
    have h2 := tCD_sp (n := ps.length) (fun z => callF_len T N hT k (fun _ => by rw [har]; exact z) (fun c' e => by rw [hi] at e; cases e)) q
    exact getprop_ok (E := L2.WE W0 σ) (dvs := []) I ha (by rw [c.cK]; exact (ok.cls cc ce hce).1) (by rw [c.cK]; exact hp) F c.room bb .nil (fun _ _ _ _ _ _ _ z => (no_cx (fun _ _ _ z => z) z).elim) h2
  · obtain ⟨h1, h2, fe, hT, hi, hk⟩ := ok.meth cc m i h
    refine ⟨A.fad i, ⟨by rw [c.cK]; exact h1, by rw [c.cK]; exact h2⟩, ?_, c.callok1 ok L i hT hi hk⟩
    have := c.callok ok L i hT hk
    rw [ok.df i fe hT hi] at this
    exact this
theorem pe_callG {Z : Zc} {C : Calls} {g : Addr} {i : Nat} {a : IR} {x : Str} {e : Expr} {es : List Expr} {p pos : Pos} (ok : CallOk X Z C W i g) (hg : Gl X x) (hm : X.mg x = some (.ref g)) (hk : PySem.W.keepIn X.K (.ref g) = true) (ha : PA X (e :: es) (tL Z T C W a)) (hdb : (x == ("__debug__" : Str)) = false)
    (he : starEach (e :: es) X.env = (false, eval e X.env) :: starEach es X.env := by rfl) (hpl : (backTo pos (starEach es X.env)).any (·.1) = false := by rfl) : PE X (.Call (.Name x p) (e :: es) [] pos) (tE Z T C W (.call i a)) := ⟨fun pins s σ H Q I q => by
  obtain ⟨G, io, pl, S, de, R, h⟩ := q
  have hh : tL Z T C W a σ H fun vs H1 => tCD Z C W i vs σ H1 Q := ⟨G, io, pl, S, de, R, (Fin.bnd (show Fin Z H G io de σ W ((evl T C de a S).bnd _) _ from h)).imp fun ds S1 k H1 G1 io1 pl1 vs s1 R1 r => ⟨G1, io1, pl1, S1, de, ds, R1, r, (Fin.bnd (show Fin Z H G io de σ W ((C i ds S1).bnd _) _ from k)).at s1 fun x S2 k2 H2 G2 io2 pl2 v s2 R2 rv => k2 H2 G2 io2 pl2 v (s1.trans s2) R2 rv⟩⟩
  refine wpAny_Call_Name_kw (ld_glob I hg hm ?_ hdb)
  exact PySem.W.callWith_K (h₀ := X.base) I.ok.mod.kin hk (thn (ha.run pos pins s σ H _ I hh) fun us s1 ⟨vs, H1, I1, r, q⟩ => ⟨I1.kIn, ok pins s1 σ H1 us vs Q I1 r q⟩) he hpl⟩
theorem pe_callG0 {Z : Zc} {C : Calls} {g : Addr} {i : Nat} {x : Str} {p pos : Pos} (ok : CallOk X Z C W i g) (hg : Gl X x) (hm : X.mg x = some (.ref g)) (hk : PySem.W.keepIn X.K (.ref g) = true) (hdb : (x == ("__debug__" : Str)) = false) : PE X (.Call (.Name x p) [] [] pos) (tE Z T C W (.call i .nil)) := ⟨fun pins s σ H Q I q => by
  obtain ⟨G, io, pl, S, de, R, h⟩ := q
  refine wpAny_Call_Name_kw (ld_glob I hg hm ?_ hdb)
  exact PySem.W.callWith_K0 I.kIn hk (ok pins s σ H [] [] Q I .nil ⟨G, io, pl, S, de, [], R, .nil, Fin.bnd (show Fin Z H G io de σ W ((C i [] S).bnd _) _ from h)⟩)⟩
theorem Cxo.call (c : Cxo A k Nn sc fc W X) (ok : WdOk A T) (L : lvl A T N k) {i : Nat} {fe : Fe} {x : Str} {a : IR} {e : Expr} {es : List Expr} {p pos : Pos} (h : gloB sc A.names i x = true) (hT : T.fns[i]? = some fe) (hk : fe.kwo = false) (ha : PA X (e :: es) (tL A.Z T (callF T N k) W a))
    (he : starEach (e :: es) X.env = (false, eval e X.env) :: starEach es X.env := by rfl) (hpl : (backTo pos (starEach es X.env)).any (·.1) = false := by rfl) : PE X (.Call (.Name x p) (e :: es) [] pos) (tE A.Z T (callF T N k) W (.call i a)) := by
  obtain ⟨g, hn⟩ := c.glo h
  exact pe_callG (c.callok ok L i hT hk) g.gl (by rw [c.cmg]; exact (ok.gl i x g.hs hn).1) (by rw [c.cK]; exact (ok.gl i x g.hs hn).2) ha g.db he hpl
theorem Cxo.call0 (c : Cxo A k Nn sc fc W X) (ok : WdOk A T) (L : lvl A T N k) {i : Nat} {fe : Fe} {x : Str} {p pos : Pos} (h : gloB sc A.names i x = true) (hT : T.fns[i]? = some fe) (hk : fe.kwo = false) : PE X (.Call (.Name x p) [] [] pos) (tE A.Z T (callF T N k) W (.call i .nil)) := by
  obtain ⟨g, hn⟩ := c.glo h
  exact pe_callG0 (c.callok ok L i hT hk) g.gl (by rw [c.cmg]; exact (ok.gl i x g.hs hn).1) (by rw [c.cK]; exact (ok.gl i x g.hs hn).2) g.db

/-! ### keywords -/
def permL {α : Type} (perm : List Nat) (us ws : List α) : List α := perm.filterMap fun i => (us ++ ws)[i]?
theorem vals_get {vs : List V} {us : List Value} (r : Vals vs us) (i : Nat) : (vs[i]? = none ∧ us[i]? = none) ∨ ∃ v u, vs[i]? = some v ∧ us[i]? = some u ∧ RelV v u := by
  cases h : vs[i]? with
  | none =>
    have := List.getElem?_eq_none_iff.mp h
    exact .inl ⟨rfl, List.getElem?_eq_none_iff.mpr (by rw [← r.length]; exact this)⟩
  | some v =>
    obtain ⟨u, hu, rv⟩ := r.get h
    exact .inr ⟨v, u, rfl, hu, rv⟩
theorem permL_vals {vs zs : List V} {us ws : List Value} (r1 : Vals vs us) (r2 : Vals zs ws) : ∀ perm : List Nat, Vals (permL perm vs zs) (permL perm us ws)
  | [] => .nil
  | i :: perm => by
    have ih := permL_vals r1 r2 perm
    unfold permL at ih ⊢
    rw [List.filterMap_cons, List.filterMap_cons]
    rcases vals_get (r1.append r2) i with ⟨h1, h2⟩ | ⟨v, u, h1, h2, rv⟩
    · rw [h1, h2]; exact ih
    · rw [h1, h2]; exact .cons rv ih
theorem permL_reps {Z : Zc} {G : Hp} {io : List Addr} {vs zs : List V} {ds es : List D} (r1 : Reps Z G io vs ds) (r2 : Reps Z G io zs es) : ∀ {perm : List Nat} {as : List D}, perm.mapM (fun i => (ds ++ es)[i]?) = some as → Reps Z G io (permL perm vs zs) as
  | [], as, h => by
    cases h
    exact .nil
  | i :: perm, as, h => by
    rw [List.mapM_cons] at h
    cases hd : (ds ++ es)[i]? with
    | none => rw [hd] at h; cases h
    | some d =>
      rw [hd] at h
      cases hr : perm.mapM (fun i => (ds ++ es)[i]?) with
      | none => rw [hr] at h; cases h
      | some l =>
        rw [hr] at h
        cases h
        obtain ⟨v, hv, rv⟩ := (r1.append r2).get hd
        unfold permL
        rw [List.filterMap_cons, hv]
        exact .cons rv (permL_reps r1 r2 hr)
theorem kbN {K : PySem.W.Frag} {x qual : Str} {params : Arguments} {body : List Stmt} {scope : Scope} {kws : List (Str × V)} {f : Addr} {fd : FuncData} {ps ks : List Str} (F : FunD K x qual params body scope [] kws f fd) (n : Nat) (perm : List Nat)
    (h : ∀ (kV doc pm : Value) (an : Option Addr) (cdv ct : Value) (us ws : List Value), us.length = n → ws.length = ks.length → bindArgs (PySem.W.fnOf x qual params body scope .none kV doc pm an cdv ct) ⟨us, ks.zip ws⟩ = pure (ps.zip (permL perm us (ws ++ [])))) : ∃ du : List Value, KBn K fd ps n ks (fun us ws => permL perm us (ws ++ du)) (fun vs zs => permL perm vs (zs ++ [])) := by
  obtain ⟨oc, od, dV, kV, doc, pm, an, cdv, ct, osl, rfl, lk, hcd, hD, hK⟩ := F.ex
  rcases hD with ⟨_, rfl⟩ | ⟨e, _⟩
  · exact ⟨[], ⟨fun s us ws _ l1 l2 => .of_eq (h kV doc pm an cdv ct us ws l1 l2), fun r1 r2 => permL_vals r1 (r2.append .nil) perm⟩⟩
  · exact absurd rfl e
/-- keyword-only parameters, some of them left out -/
theorem kbK {K : PySem.W.Frag} {x qual : Str} {params : Arguments} {body : List Stmt} {scope : Scope} {kws ms : List (Str × V)} {f : Addr} {fd : FuncData} {ps ks : List Str} (F : FunD K x qual params body scope [] kws f fd) (n : Nat) (perm : List Nat) (hk : kws ≠ []) (hms : ∀ q ∈ ms, q ∈ kws)
    (h : ∀ (D : Addr) (doc pm : Value) (an : Option Addr) (cdv ct : Value) (us ws mv : List Value), us.length = n → ws.length = ks.length → mv.length = ms.length → KwChain D ((ms.map (·.1)).zip mv) (bindArgs (PySem.W.fnOf x qual params body scope .none (.ref D) doc pm an cdv ct) ⟨us, ks.zip ws⟩) (ps.zip (permL perm us (ws ++ mv)))) : ∃ du : List Value, KBn K fd ps n ks (fun us ws => permL perm us (ws ++ du)) (fun vs zs => permL perm vs (zs ++ ms.map (·.2))) := by
  obtain ⟨oc, od, dV, kV, doc, pm, an, cdv, ct, osl, rfl, lk, hcd, hD, hK⟩ := F.ex
  rcases hD with ⟨_, rfl⟩ | ⟨e, _⟩
  · rcases hK with e | ⟨D, rfl, hq⟩
    · exact absurd e hk
    · obtain ⟨mv, hl, rk, hks⟩ := kwd_vals (ms := ms) fun q hm => hq q (hms q hm)
      exact ⟨mv, ⟨fun s us ws X l1 l2 => BindsTo.of_looks fun M => KwChain.looks X hks (h D doc pm an cdv ct us ws mv l1 l2 hl), fun r1 r2 => permL_vals r1 (r2.append rk) perm⟩⟩
  · exact absurd rfl e
def lenI : IR → Nat
  | .cons _ t => lenI t + 1
  | _ => 0
theorem evl_len {Z : Zc} {H G : Hp} {io : List Addr} {de : Env} {σ : L2.St} : ∀ (a : IR) {S : Store} {K : List D → Store → Prop}, Fin Z H G io de σ W (evl T C de a S) K → Fin Z H G io de σ W (evl T C de a S) fun ds S' => ds.length = lenI a ∧ K ds S' := by
  intro a
  induction a with
  | nil => exact fun {S K} h => ⟨rfl, h⟩
  | cons a t _ ih =>
    intro S K h
    have h := Fin.bnd (show Fin Z H G io de σ W ((ev T C de a S).bnd _) _ from h)
    show Fin Z H G io de σ W ((ev T C de a S).bnd fun d => bnd (evl T C de t) fun ds => ret (d :: ds)) _
    cases hr : ev T C de a S with
    | bad => rw [hr] at h; exact h.elim
    | exc c fs S' => rw [hr] at h; exact h
    | ok d S1 =>
      rw [hr] at h
      have h := ih (Fin.bnd (show Fin Z H G io de σ W ((evl T C de t S1).bnd _) _ from h))
      show Fin Z H G io de σ W ((evl T C de t S1).bnd fun ds => ret (d :: ds)) _
      cases hr2 : evl T C de t S1 with
      | bad => rw [hr2] at h; exact h.elim
      | exc c fs S' => rw [hr2] at h; exact h
      | ok ds S2 =>
        rw [hr2] at h
        exact ⟨congrArg Nat.succ h.1, h.2⟩
  | _ => exact fun {S K} h => h.elim
theorem _root_.L2.PK.wk {kws : List Keyword} {t t' : TA} (h : PK X kws t) (w : ∀ σ H Q, t' σ H Q → t σ H Q) : PK X kws t' := ⟨fun po pn s σ H Q J q => h.run po pn s σ H Q J (w σ H Q q)⟩
theorem s_knil {Z : Zc} : PK X [] (tL Z T C W .nil) := (pk_nil (X := X)).wk fun σ H Q q => by
  obtain ⟨G, io, pl, S, de, R, h⟩ := q
  exact h H G io pl [] .refl R .nil
theorem s_kcons {Z : Zc} {a t : IR} {e : Expr} {nm : Option Str} {kpos : Pos} {kws : List Keyword} (ha : PE X e (tE Z T C W a)) (hr : PK X kws (tL Z T C W t)) : PK X (⟨nm, e, kpos⟩ :: kws) (tL Z T C W (.cons a t)) := (pk_cons ha hr).wk fun σ H Q q => by
  obtain ⟨G, io, pl, S, de, R, h⟩ := q
  refine ⟨G, io, pl, S, de, R, (Fin.bnd (show Fin Z H G io de σ W ((ev T C de a S).bnd _) _ from h)).imp fun x S1 k H1 G1 io1 pl1 v s1 R1 r => ?_⟩
  refine ⟨G1, io1, pl1, S1, de, R1, (Fin.bnd (show Fin Z H G io de σ W ((evl T C de t S1).bnd _) _ from k)).at s1 fun xs S2 k2 H2 G2 io2 pl2 vs s2 R2 rs => ?_⟩
  exact k2 H2 G2 io2 pl2 (v :: vs) (s1.trans s2) R2 (.cons (r.step s2) rs)
/-- a call with keywords, and with defaults -/
def CallKOk (X : Cx) (Z : Zc) (C : Calls) (W : WX) (i : Nat) (g : Addr) (n : Nat) (ks : List Str) (perm : List Nat) (dfl : List D) : Prop := ∀ (pins : List (Addr × Obj)) (s : Shared) (σ : L2.St) (H : Hp) (us ws : List Value) (vs zs : List V) (Q : VK), L2.Inv X pins σ H s → Vals vs us → Vals zs ws → vs.length = n → zs.length = ks.length →
  (∃ G io pl S de ds es as, Rel Z H G io pl S de σ ∧ Reps Z G io vs ds ∧ Reps Z G io zs es ∧ perm.mapM (fun i => (ds ++ (es ++ dfl))[i]?) = some as ∧ Fin Z H G io de σ W (C i as S) fun r S' => ∀ H' G' io' pl' v, Step H G io H' G' io' → Rel Z H' G' io' pl' S' de σ → Rep Z G' io' v r.1 → Q v H') →
  wpAny (model X.prog X.w) X.A (call (.ref g) us (ks.zip ws)) (EP X pins σ Q) X.xe s
def DflR (Z : Zc) (dvs : List V) (dfl : List D) : Prop := ∀ G io, Reps Z G io dvs dfl
theorem tCK_sp {Z : Zc} {C : Calls} {i n : Nat} {perm : List Nat} {dfl : List D} {dvs : List V} {vs zs : List V} {σ : L2.St} {H : Hp} {Q : VK} (hd : DflR Z dvs dfl) (hx : ∀ {ds S}, ds.length ≠ n → C i ds S = .bad)
    (q : ∃ G io pl S de ds es as, Rel Z H G io pl S de σ ∧ Reps Z G io vs ds ∧ Reps Z G io zs es ∧ perm.mapM (fun i => (ds ++ (es ++ dfl))[i]?) = some as ∧ Fin Z H G io de σ W (C i as S) fun r S' => ∀ H' G' io' pl' v, Step H G io H' G' io' → Rel Z H' G' io' pl' S' de σ → Rep Z G' io' v r.1 → Q v H') : tCD Z C W i (permL perm vs (zs ++ dvs)) σ H Q := by
  obtain ⟨G, io, pl, S, de, ds, es, as, R, r1, r2, hp, h⟩ := q
  exact ⟨G, io, pl, S, de, as, R, permL_reps r1 (r2.append (hd G io)) hp, h⟩
theorem Cxo.callkok (c : Cxo A k Nn sc fc W X) (ok : WdOk A T) (L : lvl A T N k) (i : Nat) {fe : Fe} {n : Nat} {ps ks : List Str} {perm : List Nat} {dfl : List D} {dvs : List V} {dus : List Value} (hT : T.fns[i]? = some fe) (hi : fe.ini = none) (hp : A.pars[i]? = some ps) (hb : KBn A.Z.K (A.fdd i) ps n ks (fun us ws => permL perm us (ws ++ dus)) (fun vs zs => permL perm vs (zs ++ dvs))) (hd : DflR A.Z dvs dfl) : CallKOk X A.Z (callF T N k) W i (A.cad i) n ks perm dfl := fun pins s σ H us ws vs zs Q I r rz l1 l2 q => by
  obtain ⟨ps', hp', ha⟩ := ok.fe i fe hT
  rw [hp] at hp'
  cases hp'
  have F := FnOk.at (L i ps hp) c.cP c.cw c.cK c.cmg c.cbase
  unfold spF at F
  rw [hT] at F
  have F : FnOk X.prog X.w X.K X.mg X.base (L2.CX X.prog X.w) (2 * k) (A.fad i) (A.fdd i) ps (match fe.ini with | none => spD A.Z (callF T N k) i ps.length | some c => spI A.Z (callF T N k) i ps.length c) := F
  rw [hi] at F
  rw [ok.df i fe hT hi]
  have hb : KBn X.K (A.fdd i) ps n ks (fun us ws => permL perm us (ws ++ dus)) (fun vs zs => permL perm vs (zs ++ dvs)) := by rw [c.cK]; exact hb
  have r2 := hb.rel r rz
  have hx : ∀ {ds : List D} {S : Store}, ds.length ≠ ps.length → callF T N k i ds S = .bad := fun z => callF_len T N hT k (fun _ => by rw [ha]; exact z) (fun c' e => by rw [hi] at e; cases e)
  refine wpAny_call (codeAny_mono (F.run X.A X.stack s H ⟨us, ks.zip ws⟩ _ _ Q (L2.WE W σ) (c.room.mono (Nat.le_succ _)) I.env0 (hb.to s us ws I.kIn (r.length.symm.trans l1) (rz.length.symm.trans l2)) r2 (tCD_sp hx (tCK_sp hd hx q))) fun r s' hq => ?_)
  cases r with
  | error e => exact passAt c.tk σ pins _ _ e s' I hq
  | ok fl =>
    cases fl with
    | ret u => exact I.after hq
    | next => exact False.elim hq
    | brk => exact False.elim hq
    | cont => exact False.elim hq
theorem callk_rd {Z : Zc} {C : Calls} {i n m : Nat} {a kw : IR} {perm : List Nat} {dfl : List D} {σ : L2.St} {H : Hp} {Q : VK} (h1 : lenI a = n) (h2 : lenI kw = m) (q : tE Z T C W (.callk i a kw perm dfl) σ H Q) : tL Z T C W a σ H fun vs H1 => tL Z T C W kw σ H1 fun zs H2 => vs.length = n ∧ zs.length = m ∧
    ∃ G io pl S de ds es as, Rel Z H2 G io pl S de σ ∧ Reps Z G io vs ds ∧ Reps Z G io zs es ∧ perm.mapM (fun i => (ds ++ (es ++ dfl))[i]?) = some as ∧ Fin Z H2 G io de σ W (C i as S) fun r S' => ∀ H' G' io' pl' v, Step H2 G io H' G' io' → Rel Z H' G' io' pl' S' de σ → Rep Z G' io' v r.1 → Q v H' := by
  obtain ⟨G, io, pl, S, de, R, h⟩ := q
  refine ⟨G, io, pl, S, de, R, (evl_len a (Fin.bnd (show Fin Z H G io de σ W ((evl T C de a S).bnd _) _ from h))).imp fun ds S1 ⟨l1, k⟩ H1 G1 io1 pl1 vs s1 R1 r => ?_⟩
  refine ⟨G1, io1, pl1, S1, de, R1, (evl_len kw (Fin.bnd (show Fin Z H G io de σ W ((evl T C de kw S1).bnd _) _ from k))).at s1 fun es S2 ⟨l2, k2⟩ H2 G2 io2 pl2 zs s2 R2 r2 => ?_⟩
  obtain ⟨as, hp, k2⟩ := k2.tryL
  exact ⟨by rw [r.length, l1, h1], by rw [r2.length, l2, h2], G2, io2, pl2, S2, de, ds, es, as, R2, r.step s2, r2, hp, (Fin.bnd (show Fin Z H G io de σ W ((C i as S2).bnd _) _ from k2)).at (s1.trans s2) fun x S3 k3 H3 G3 io3 pl3 v s3 R3 rv => k3 H3 G3 io3 pl3 v ((s1.trans s2).trans s3) R3 rv⟩
theorem Cxo.callk (c : Cxo A k Nn sc fc W X) (ok : WdOk A T) (L : lvl A T N k) {i n : Nat} {fe : Fe} {perm : List Nat} {dfl : List D} {dvs : List V} {dus : List Value} {x : Str} {ps ks : List Str} {a kw : IR} {e : Expr} {es : List Expr} {kws : List Keyword} {p pos : Pos} (hb : KBn A.Z.K (A.fdd i) ps n ks (fun us ws => permL perm us (ws ++ dus)) (fun vs zs => permL perm vs (zs ++ dvs))) (hd : DflR A.Z dvs dfl) (h : gloB sc A.names i x = true) (hT : T.fns[i]? = some fe) (hi : fe.ini = none) (hp : A.pars[i]? = some ps) (ha : PA X (e :: es) (tL A.Z T (callF T N k) W a)) (hkw : PK X kws (tL A.Z T (callF T N k) W kw)) (h1 : lenI a = n := by rfl) (h2 : lenI kw = ks.length := by rfl)
    (hall : (backToKw pos (keywordEach kws X.env)).all (·.1.isSome) = true := by rfl) (hks : (backToKw pos (keywordEach kws X.env)).filterMap (·.1) = ks := by rfl)
    (he : starEach (e :: es) X.env = (false, eval e X.env) :: starEach es X.env := by rfl)
    (hpl : ((backTo pos (starEach (e :: es) X.env)).any (·.1) || (backToKw pos (keywordEach kws X.env)).any (·.1.isNone)) = false := by rfl) : PE X (.Call (.Name x p) (e :: es) kws pos) (tE A.Z T (callF T N k) W (.callk i a kw perm dfl)) := ⟨fun pins s σ H Q I q => by
  obtain ⟨g, hn⟩ := c.glo h
  refine wpAny_Call_Name_kw (ld_glob I g.gl (by rw [c.cmg]; exact (ok.gl i x g.hs hn).1) ?_ g.db)
  refine PySem.W.callWith_KW (h₀ := X.base) I.ok.mod.kin (by rw [c.cK]; exact (ok.gl i x g.hs hn).2) hall (thn (ha.run pos pins s σ H _ I (callk_rd h1 h2 q)) fun us s1 ⟨vs, H1, I1, r, q⟩ => ?_) hpl he
  refine thn (hkw.run pos pins s1 σ H1 _ I1 q) fun ws s2 ⟨zs, H2, I2, rz, l1, l2, q2⟩ => ⟨I2.kIn, ?_⟩
  rw [hks]
  exact c.callkok ok L i hT hi hp hb hd pins s2 σ H2 us ws vs zs Q I2 r rz l1 l2 q2⟩
theorem Cxo.callk0 (c : Cxo A k Nn sc fc W X) (ok : WdOk A T) (L : lvl A T N k) {i : Nat} {fe : Fe} {perm : List Nat} {dfl : List D} {dvs : List V} {dus : List Value} {x : Str} {ps ks : List Str} {kw : IR} {kws : List Keyword} {p pos : Pos} (hb : KBn A.Z.K (A.fdd i) ps 0 ks (fun us ws => permL perm us (ws ++ dus)) (fun vs zs => permL perm vs (zs ++ dvs))) (hd : DflR A.Z dvs dfl) (h : gloB sc A.names i x = true) (hT : T.fns[i]? = some fe) (hi : fe.ini = none) (hp : A.pars[i]? = some ps) (hkw : PK X kws (tL A.Z T (callF T N k) W kw)) (h2 : lenI kw = ks.length := by rfl)
    (hall : (backToKw pos (keywordEach kws X.env)).all (·.1.isSome) = true := by rfl) (hks : (backToKw pos (keywordEach kws X.env)).filterMap (·.1) = ks := by rfl)
    (hpl : ((backTo pos (starEach [] X.env)).any (·.1) || (backToKw pos (keywordEach kws X.env)).any (·.1.isNone)) = false := by rfl) : PE X (.Call (.Name x p) [] kws pos) (tE A.Z T (callF T N k) W (.callk i .nil kw perm dfl)) := ⟨fun pins s σ H Q I q => by
  obtain ⟨g, hn⟩ := c.glo h
  refine wpAny_Call_Name_kw (ld_glob I g.gl (by rw [c.cmg]; exact (ok.gl i x g.hs hn).1) ?_ g.db)
  obtain ⟨G, io, pl, S, de, R, q⟩ := callk_rd (n := 0) rfl h2 q
  have q := q H G io pl [] .refl R .nil
  refine PySem.W.callWith_KW0 (h₀ := X.base) I.ok.mod.kin (by rw [c.cK]; exact (ok.gl i x g.hs hn).2) hall ?_ hpl
  refine thn (hkw.run pos pins s σ H _ I q) fun ws s2 ⟨zs, H2, I2, rz, l1, l2, q2⟩ => ⟨I2.kIn, ?_⟩
  rw [hks]
  exact c.callkok ok L i hT hi hp hb hd pins s2 σ H2 [] ws [] zs Q I2 .nil rz l1 l2 q2⟩
end
end Y
/-! Y14: the rules by contexts. -/
namespace Y
open PySem L2

section
variable {A : Wd} {T : Tb} {N k : Nat} {Nn : List Str} {sc : Scope} {fc : Str → Bool} {X : Cx} {E : XK} {W : WX} {C : Calls}
/-! ### built-ins -/
theorem Cxo.bfn (c : Cxo A k Nn sc fc W X) (ok : WdOk A T) {x : Str} {id : String} {r : List V → Hp → VK → Prop} (hr : CallR X (.builtin id) r) (hv : bootBuiltins x = some (.builtin id)) {i : Nat} (h : gloB sc A.frees i x = true) {e : Expr} {es : List Expr} {p pos : Pos} {t : TA} (ha : PA X (e :: es) t)
    (he : starEach (e :: es) X.env = (false, eval e X.env) :: starEach es X.env := by rfl) (hpl : (backTo pos (starEach es X.env)).any (·.1) = false := by rfl) : PE X (.Call (.Name x p) (e :: es) [] pos) (tCB r t) := by
  obtain ⟨g, hn⟩ := c.glo h
  exact pe_callB hr g.gl (by rw [c.cmg]; exact ok.fr i x hn) hv ha g.nm g.db he hpl
theorem Cxo.bty (c : Cxo A k Nn sc fc W X) (ok : WdOk A T) {x : Str} {id : String} {r : List V → Hp → VK → Prop} (hr : CallR X (.type id) r) (hv : bootBuiltins x = some (.type id)) {i : Nat} (h : gloB sc A.frees i x = true) {e : Expr} {es : List Expr} {p pos : Pos} {t : TA} (ha : PA X (e :: es) t)
    (he : starEach (e :: es) X.env = (false, eval e X.env) :: starEach es X.env := by rfl) (hpl : (backTo pos (starEach es X.env)).any (·.1) = false := by rfl) : PE X (.Call (.Name x p) (e :: es) [] pos) (tCB r t) := by
  obtain ⟨g, hn⟩ := c.glo h
  exact pe_callTy hr g.gl (by rw [c.cmg]; exact ok.fr i x hn) hv ha g.nm g.db he hpl
theorem bo_len : bootBuiltins "len" = some (.builtin "len") := by decide +kernel
theorem bo_all : bootBuiltins "all" = some (.builtin "all") := by decide +kernel
theorem bo_any : bootBuiltins "any" = some (.builtin "any") := by decide +kernel
theorem bo_sorted : bootBuiltins "sorted" = some (.builtin "sorted") := by decide +kernel
theorem bo_abs : bootBuiltins "abs" = some (.builtin "abs") := by decide +kernel
theorem bo_max : bootBuiltins "max" = some (.builtin "max") := by decide +kernel
theorem bo_min : bootBuiltins "min" = some (.builtin "min") := by decide +kernel
theorem bo_list : bootBuiltins "list" = some (.type "list") := by decide +kernel
theorem bo_tuple : bootBuiltins "tuple" = some (.type "tuple") := by decide +kernel
theorem bo_dict : bootBuiltins "dict" = some (.type "dict") := by decide +kernel
theorem bo_int : bootBuiltins "int" = some (.type "int") := by decide +kernel
section
variable {i : Nat} {e : Expr} {es : List Expr} {p pos : Pos} {a : IR}
theorem Cxo.len (c : Cxo A k Nn sc fc W X) (ok : WdOk A T) (h : gloB sc A.frees i "len" = true) (ha : PA X (e :: es) (tLO A.Z T C W a)) (he : starEach (e :: es) X.env = (false, eval e X.env) :: starEach es X.env := by rfl) (hpl : (backTo pos (starEach es X.env)).any (·.1) = false := by rfl) : PE X (.Call (.Name "len" p) (e :: es) [] pos) (tE A.Z T C W (.bi .len a)) := s_bi ok_len (c.bfn ok (by have := call_lenA (X := X); rw [c.cK] at this; exact this) bo_len h ha he hpl)
theorem Cxo.all (c : Cxo A k Nn sc fc W X) (ok : WdOk A T) (h : gloB sc A.frees i "all" = true) (ha : PA X (e :: es) (tLO A.Z T C W a)) (he : starEach (e :: es) X.env = (false, eval e X.env) :: starEach es X.env := by rfl) (hpl : (backTo pos (starEach es X.env)).any (·.1) = false := by rfl) : PE X (.Call (.Name "all" p) (e :: es) [] pos) (tE A.Z T C W (.bi .all a)) := s_bi ok_all (c.bfn ok (by have := cr_all c.calm; rw [c.cK] at this; exact this) bo_all h ha he hpl)
theorem Cxo.any (c : Cxo A k Nn sc fc W X) (ok : WdOk A T) (h : gloB sc A.frees i "any" = true) (ha : PA X (e :: es) (tLO A.Z T C W a)) (he : starEach (e :: es) X.env = (false, eval e X.env) :: starEach es X.env := by rfl) (hpl : (backTo pos (starEach es X.env)).any (·.1) = false := by rfl) : PE X (.Call (.Name "any" p) (e :: es) [] pos) (tE A.Z T C W (.bi .any a)) := s_bi ok_any (c.bfn ok (by have := cr_any c.calm; rw [c.cK] at this; exact this) bo_any h ha he hpl)
theorem Cxo.abs (c : Cxo A k Nn sc fc W X) (ok : WdOk A T) (h : gloB sc A.frees i "abs" = true) (ha : PA X (e :: es) (tLO A.Z T C W a)) (he : starEach (e :: es) X.env = (false, eval e X.env) :: starEach es X.env := by rfl) (hpl : (backTo pos (starEach es X.env)).any (·.1) = false := by rfl) : PE X (.Call (.Name "abs" p) (e :: es) [] pos) (tE A.Z T C W (.bi .abs a)) := s_bi ok_abs (c.bfn ok call_abs bo_abs h ha he hpl)
theorem Cxo.max2 (c : Cxo A k Nn sc fc W X) (ok : WdOk A T) (h : gloB sc A.frees i "max" = true) (ha : PA X (e :: es) (tLO A.Z T C W a)) (he : starEach (e :: es) X.env = (false, eval e X.env) :: starEach es X.env := by rfl) (hpl : (backTo pos (starEach es X.env)).any (·.1) = false := by rfl) : PE X (.Call (.Name "max" p) (e :: es) [] pos) (tE A.Z T C W (.bi .max2 a)) := s_bi ok_max2 (c.bfn ok (call_max2 c.calm) bo_max h ha he hpl)
theorem Cxo.min2 (c : Cxo A k Nn sc fc W X) (ok : WdOk A T) (h : gloB sc A.frees i "min" = true) (ha : PA X (e :: es) (tLO A.Z T C W a)) (he : starEach (e :: es) X.env = (false, eval e X.env) :: starEach es X.env := by rfl) (hpl : (backTo pos (starEach es X.env)).any (·.1) = false := by rfl) : PE X (.Call (.Name "min" p) (e :: es) [] pos) (tE A.Z T C W (.bi .min2 a)) := s_bi ok_min2 (c.bfn ok (call_min2 c.calm) bo_min h ha he hpl)
theorem Cxo.maxl (c : Cxo A k Nn sc fc W X) (ok : WdOk A T) (h : gloB sc A.frees i "max" = true) (ha : PA X (e :: es) (tLO A.Z T C W a)) (he : starEach (e :: es) X.env = (false, eval e X.env) :: starEach es X.env := by rfl) (hpl : (backTo pos (starEach es X.env)).any (·.1) = false := by rfl) : PE X (.Call (.Name "max" p) (e :: es) [] pos) (tE A.Z T C W (.bi .maxl a)) := s_bi ok_maxl (c.bfn ok (by have := cr_max c.calm; rw [c.cK] at this; exact this) bo_max h ha he hpl)
theorem Cxo.minl (c : Cxo A k Nn sc fc W X) (ok : WdOk A T) (h : gloB sc A.frees i "min" = true) (ha : PA X (e :: es) (tLO A.Z T C W a)) (he : starEach (e :: es) X.env = (false, eval e X.env) :: starEach es X.env := by rfl) (hpl : (backTo pos (starEach es X.env)).any (·.1) = false := by rfl) : PE X (.Call (.Name "min" p) (e :: es) [] pos) (tE A.Z T C W (.bi .minl a)) := s_bi ok_minl (c.bfn ok (by have := cr_min c.calm; rw [c.cK] at this; exact this) bo_min h ha he hpl)
theorem Cxo.sorted (c : Cxo A k Nn sc fc W X) (ok : WdOk A T) (h : gloB sc A.frees i "sorted" = true) (ha : PA X (e :: es) (tLO A.Z T C W a)) (he : starEach (e :: es) X.env = (false, eval e X.env) :: starEach es X.env := by rfl) (hpl : (backTo pos (starEach es X.env)).any (·.1) = false := by rfl) : PE X (.Call (.Name "sorted" p) (e :: es) [] pos) (tN A.Z T C W (.bi .sorted a)) := n_bi ok_sorted (c.bfn ok (by have := cr_sortK c.u80 c.calm; rw [c.cK] at this; exact this) bo_sorted h ha he hpl)
theorem Cxo.list (c : Cxo A k Nn sc fc W X) (ok : WdOk A T) (h : gloB sc A.frees i "list" = true) (ha : PA X (e :: es) (tLO A.Z T C W a)) (he : starEach (e :: es) X.env = (false, eval e X.env) :: starEach es X.env := by rfl) (hpl : (backTo pos (starEach es X.env)).any (·.1) = false := by rfl) : PE X (.Call (.Name "list" p) (e :: es) [] pos) (tN A.Z T C W (.bi .list a)) := n_bi ok_list (c.bty ok (by have := call_listA c.calm; rw [c.cK] at this; exact this) bo_list h ha he hpl)
theorem Cxo.tuple (c : Cxo A k Nn sc fc W X) (ok : WdOk A T) (h : gloB sc A.frees i "tuple" = true) (ha : PA X (e :: es) (tLO A.Z T C W a)) (he : starEach (e :: es) X.env = (false, eval e X.env) :: starEach es X.env := by rfl) (hpl : (backTo pos (starEach es X.env)).any (·.1) = false := by rfl) : PE X (.Call (.Name "tuple" p) (e :: es) [] pos) (tE A.Z T C W (.bi .tuple a)) := s_bi ok_tuple (c.bty ok (by have := call_tuple_of (X := X); rw [c.cK] at this; exact this) bo_tuple h ha he hpl)
theorem Cxo.dict (c : Cxo A k Nn sc fc W X) (ok : WdOk A T) (h : gloB sc A.frees i "dict" = true) (ha : PA X (e :: es) (tLO A.Z T C W a)) (he : starEach (e :: es) X.env = (false, eval e X.env) :: starEach es X.env := by rfl) (hpl : (backTo pos (starEach es X.env)).any (·.1) = false := by rfl) : PE X (.Call (.Name "dict" p) (e :: es) [] pos) (tN A.Z T C W (.bi .dict a)) := n_bi ok_dict (c.bty ok (by have := call_dictA c.calm; rw [c.cK] at this; exact this) bo_dict h ha he hpl)
theorem Cxo.int (c : Cxo A k Nn sc fc W X) (ok : WdOk A T) (h : gloB sc A.frees i "int" = true) (ha : PA X (e :: es) (tLO A.Z T C W a)) (he : starEach (e :: es) X.env = (false, eval e X.env) :: starEach es X.env := by rfl) (hpl : (backTo pos (starEach es X.env)).any (·.1) = false := by rfl) : PE X (.Call (.Name "int" p) (e :: es) [] pos) (tE A.Z T C W (.bi .int a)) := s_bi ok_int1 (c.bty ok call_int1 bo_int h ha he hpl)
end

/-! ### operators -/
section
variable {a b : IR} {e f : Expr} {pos : Pos}
def BinR (A : Wd) (X : Cx) (o : O2) (op : Operator) : Prop := (∃ r, OpR X (binaryOp op) r ∧ P2ok A.Z o r) ∧ o ≠ .eq ∧ o ≠ .ne
def CmpV (A : Wd) (X : Cx) (o : O2) (op : CmpOp) : Prop := ∃ r, OpR X (compareOp op) r ∧ P2ok A.Z o r
def CmpR (A : Wd) (T : Tb) (C : Calls) (W : WX) (X : Cx) (o : O2) (op : CmpOp) : Prop := CmpV A X o op ∧ OwnR X A.Z T C W o (compareOp op)
theorem Cxo.add (c : Cxo A k Nn sc fc W X) : BinR A X .add .Add := ⟨⟨_, op_addA, by rw [c.cK]; exact ok_add⟩, by simp, by simp⟩
theorem Cxo.sub (c : Cxo A k Nn sc fc W X) : BinR A X .sub .Sub := ⟨⟨_, op_sub, ok_sub⟩, by simp, by simp⟩
theorem Cxo.mul (c : Cxo A k Nn sc fc W X) : BinR A X .mul .Mult := ⟨⟨_, op_mulA, ok_mul⟩, by simp, by simp⟩
theorem Cxo.fdiv (c : Cxo A k Nn sc fc W X) : BinR A X .fdiv .FloorDiv := ⟨⟨_, op_fdiv, ok_fdiv⟩, by simp, by simp⟩
theorem Cxo.mod (c : Cxo A k Nn sc fc W X) : BinR A X .mod .Mod := ⟨⟨_, op_mod, ok_mod⟩, by simp, by simp⟩
theorem Cxo.pow (c : Cxo A k Nn sc fc W X) : BinR A X .pow .Pow := ⟨⟨_, op_pow, ok_pow⟩, by simp, by simp⟩
theorem Cxo.lt (c : Cxo A k Nn sc fc W X) {C : Calls} : CmpR A T C W X .lt .Lt := ⟨⟨_, op_lt, ok_lt⟩, own_no (by simp) (by simp)⟩
theorem Cxo.le (c : Cxo A k Nn sc fc W X) {C : Calls} : CmpR A T C W X .le .LtE := ⟨⟨_, op_le, ok_le⟩, own_no (by simp) (by simp)⟩
theorem Cxo.gt (c : Cxo A k Nn sc fc W X) {C : Calls} : CmpR A T C W X .gt .Gt := ⟨⟨_, op_gt, ok_gt⟩, own_no (by simp) (by simp)⟩
theorem Cxo.ge (c : Cxo A k Nn sc fc W X) {C : Calls} : CmpR A T C W X .ge .GtE := ⟨⟨_, op_ge, ok_ge⟩, own_no (by simp) (by simp)⟩
theorem Cxo.eq (c : Cxo A k Nn sc fc W X) (ok : WdOk A T) (L : lvl A T N k) : CmpR A T (callF T N k) W X .eq .Eq := ⟨⟨_, (op_eqD c.u64).or (op_dictEq c.u65), by rw [c.cK]; exact ok_eq⟩, own_eq (c.disp ok L) (by have := c.room.un; omega)⟩
theorem Cxo.ne (c : Cxo A k Nn sc fc W X) (ok : WdOk A T) (L : lvl A T N k) : CmpR A T (callF T N k) W X .ne .NotEq := ⟨⟨_, (op_neD c.u64).or (op_dictNe c.u65), by rw [c.cK]; exact ok_ne⟩, own_ne (c.disp ok L) (by have := c.room.un; omega)⟩
theorem Cxo.isN (c : Cxo A k Nn sc fc W X) {C : Calls} : CmpR A T C W X .isN .Is := ⟨⟨_, op_isN.or op_isBl, ok_isN⟩, own_no (by simp) (by simp)⟩
theorem Cxo.notN (c : Cxo A k Nn sc fc W X) {C : Calls} : CmpR A T C W X .notN .IsNot := ⟨⟨_, op_notN.or op_notBl, ok_notN⟩, own_no (by simp) (by simp)⟩
theorem Cxo.isin (c : Cxo A k Nn sc fc W X) {C : Calls} : CmpR A T C W X .isin .In := ⟨⟨_, op_inA c.u65, by rw [c.cK]; exact ok_isin⟩, own_no (by simp) (by simp)⟩
theorem Cxo.nin (c : Cxo A k Nn sc fc W X) {C : Calls} : CmpR A T C W X .nin .NotIn := ⟨⟨_, op_ninA c.u65, by rw [c.cK]; exact ok_nin⟩, own_no (by simp) (by simp)⟩
theorem e_bin {o : O2} {op : Operator} (h : BinR A X o op) (ha : PE X e (tO A.Z T C W a)) (hb : PE X f (tO A.Z T C W b)) : PE X (.BinOp e op f pos) (tE A.Z T C W (.o2 o a b)) := by
  obtain ⟨⟨r, h1, h2⟩, h3, h4⟩ := h
  exact s_bin h1 h2 (own_no h3 h4) ha hb
theorem e_cmp {o : O2} {op : CmpOp} (h : CmpR A T C W X o op) (ha : PE X e (tO A.Z T C W a)) (hb : PE X f (tO A.Z T C W b)) (hm : behindInMarks op f = false := by rfl) : PE X (.Compare e [op] [f] pos) (tE A.Z T C W (.o2 o a b)) := by
  obtain ⟨⟨r, h1, h2⟩, h3⟩ := h
  exact s_cmp h1 h2 h3 ha hb hm
theorem e_cmpT {o : O2} {op : CmpOp} (h : CmpR A T C W X o op) (ha : PE X e (tO A.Z T C W a)) (hb : PE X f (tO A.Z T C W b)) (hm : behindInMarks op f = false := by rfl) : PT X (.Compare e [op] [f] pos) (tT A.Z T C W (.tb (.o2 o a b))) := by
  obtain ⟨⟨r, h1, h2⟩, h3⟩ := h
  exact s_cmpT h1 h2 h3 ha hb hm
theorem e_ch {o o' : O2} {op op' : CmpOp} {d : IR} {g : Expr} (h : CmpR A T C W X o op) (h' : CmpR A T C W X o' op') (ha : PE X e (tO A.Z T C W a)) (hb : PE X f (tO A.Z T C W b)) (hc : PE X g (tO A.Z T C W d)) (hm : lastMarks [op, op'] [f, g] = false := by rfl) : PE X (.Compare e [op, op'] [f, g] pos) (tE A.Z T C W (.ch o o' a b d)) := by
  obtain ⟨⟨r, h1, h2⟩, _⟩ := h
  obtain ⟨⟨r', h1', h2'⟩, _⟩ := h'
  refine (pe_chain h1 h1' ha hb hc hm).wk fun σ H Q q => ?_
  obtain ⟨G, io, pl, S, de, R, h⟩ := q
  exact chain_go h2 h2' R h (fun b S' H' G' io' pl' k s R' => k H' G' io' pl' _ s R' (.bl b)) fun d S' H' G' io' pl' v k s R' r => k H' G' io' pl' v s R' r
theorem e_chT {o o' : O2} {op op' : CmpOp} {d : IR} {g : Expr} (h : CmpR A T C W X o op) (h' : CmpR A T C W X o' op') (ha : PE X e (tO A.Z T C W a)) (hb : PE X f (tO A.Z T C W b)) (hc : PE X g (tO A.Z T C W d)) (hm : lastMarks [op, op'] [f, g] = false := by rfl) : PT X (.Compare e [op, op'] [f, g] pos) (tT A.Z T C W (.tb (.ch o o' a b d))) := by
  obtain ⟨⟨r, h1, h2⟩, _⟩ := h
  obtain ⟨⟨r', h1', h2'⟩, _⟩ := h'
  exact s_chT h2 h2' (pt_chain h1 h1' ha hb hc hm)
theorem t_val (ha : PE X e (tE A.Z T C W a)) (he : ∀ whole, isTrue e X.env whole = (do let v ← whole; standAt e.pos; holding [v] (truthy v)) := by intro _; rfl) : PT X e (tT A.Z T C W (.tb a)) := s_tb (pt_val ha he)
theorem t_tru (c : Cxo A k Nn sc fc W X) (ha : PE X e (tO A.Z T C W a)) (he : ∀ whole, isTrue e X.env whole = (do let v ← whole; standAt e.pos; holding [v] (truthy v)) := by intro _; rfl) : PT X e (tT A.Z T C W (.tt a)) := s_tt (pt_truth ha he) c.cK
theorem e_none {j : Option Str} {x1 : Nat} {pos : Pos} : PE X (.Constant .none x1 pos) (tE A.Z T C W .kn) := s_const pe_non (fun _ => rfl) fun _ _ => .non
theorem e_bool {b : Bool} {x1 : Nat} {pos : Pos} : PE X (.Constant (.bool b) x1 pos) (tE A.Z T C W (.kb b)) := s_const pe_bl (fun _ => rfl) fun _ _ => .bl b
theorem e_int {i : Int} {x1 : Nat} {pos : Pos} : PE X (.Constant (.int i) x1 pos) (tE A.Z T C W (.ki i)) := s_const pe_int (fun _ => rfl) fun _ _ => .int i
theorem e_str {s : Str} {x1 : Nat} {pos : Pos} : PE X (.Constant (.str s) x1 pos) (tE A.Z T C W (.ks s)) := s_const pe_str (fun _ => rfl) fun _ _ => .str s
theorem Cxo.idx (c : Cxo A k Nn sc fc W X) (ok : WdOk A T) (L : lvl A T N k) (ha : PE X e (tO A.Z T (callF T N k) W a)) (hb : PE X f (tE A.Z T (callF T N k) W b)) (hs : PlainIx f := by exact fun _ _ => rfl) (hs2 : ∀ o i, subscripted f true o i = runValue (.builtin "lifetime.subscript" ⟨[o, i], []⟩) := by exact fun _ _ => rfl) : PE X (.Subscript e f pos) (tE A.Z T (callF T N k) W (.idx a b)) := s_idx (c.disp ok L) c.u65 c.cK ha hb hs hs2
theorem Cxo.att (c : Cxo A k Nn sc fc W X) (ok : WdOk A T) (L : lvl A T N k) {f : Str} (ha : PE X e (tE A.Z T (callF T N k) W a)) (hb : attributeBase e f X.env (eval e X.env) = eval e X.env := by rfl) : PE X (.Attribute e f pos) (tE A.Z T (callF T N k) W (.att a f)) := s_att (c.disp ok L) ha hb
theorem Cxo.sli (c : Cxo A k Nn sc fc W X) {lo hi : IR} {l u : Option Expr} {p2 : Pos} (ha : PE X e (tO A.Z T C W a)) (hl : PO X l (tP A.Z T C W lo)) (hh : PO X u (tP A.Z T C W hi)) : PE X (.Subscript e (.Slice l u none p2) pos) (tE A.Z T C W (.sli a lo hi)) := s_sli c.cK ha hl hh
end

/-! ### what is walked -/
section
variable {a b : IR} {e f : Expr} {p pos : Pos} {i : Nat} {tg : Expr}
theorem Cxo.iv (c : Cxo A k Nn sc fc W X) (ha : PE X e (tE A.Z T C W a)) : PI X tg e (tI A.Z T C W (.iv a)) := s_iv c.cK ha
theorem Cxo.ir1 (c : Cxo A k Nn sc fc W X) (ok : WdOk A T) (h : gloB sc A.frees i "range" = true) (ha : PE X e (tE A.Z T C W a)) (hs : starEach [e] X.env = [(false, eval e X.env)] := by rfl) : PI X tg (.Call (.Name "range" p) [e] [] pos) (tI A.Z T C W (.ir1 a)) := by
  obtain ⟨g, hn⟩ := c.glo h
  exact s_ir1 g.gl (by rw [c.cmg]; exact ok.fr i _ hn) ha hs
theorem Cxo.ir2 (c : Cxo A k Nn sc fc W X) (ok : WdOk A T) (h : gloB sc A.frees i "range" = true) (ha : PE X e (tE A.Z T C W a)) (hb : PE X f (tE A.Z T C W b)) (hs : starEach [e, f] X.env = [(false, eval e X.env), (false, eval f X.env)] := by rfl) (hs2 : starEach [f] X.env = [(false, eval f X.env)] := by rfl) : PI X tg (.Call (.Name "range" p) [e, f] [] pos) (tI A.Z T C W (.ir2 a b)) := by
  obtain ⟨g, hn⟩ := c.glo h
  exact s_ir2 g.gl (by rw [c.cmg]; exact ok.fr i _ hn) ha hb hs hs2
theorem Cxo.zip (c : Cxo A k Nn sc fc W X) (ok : WdOk A T) {elts : List Expr} {kk : Nat} {tpos : Pos} (h : gloB sc A.frees i "zip" = true) (ha : PE X e (tE A.Z T C W a)) (hb : PE X f (tE A.Z T C W b)) (hs : starEach [e, f] X.env = (false, eval e X.env) :: starEach [f] X.env := by rfl) (hs2 : starEach [f] X.env = (false, eval f X.env) :: starEach [] X.env := by rfl) (hpl : (backTo pos (starEach [f] X.env)).any (·.1) = false := by rfl) : PI X (.Tuple elts kk tpos) (.Call (.Name "zip" p) [e, f] [] pos) (tI A.Z T C W (.zip a b)) := by
  obtain ⟨g, hn⟩ := c.glo h
  exact s_zip g.gl (by rw [c.cmg]; exact ok.fr i _ hn) ha hb hs hs2 hpl
theorem Cxo.enum (c : Cxo A k Nn sc fc W X) (ok : WdOk A T) {elts : List Expr} {kk : Nat} {tpos : Pos} (h : gloB sc A.frees i "enumerate" = true) (ha : PE X e (tE A.Z T C W a)) (hs : starEach [e] X.env = [(false, eval e X.env)] := by rfl) : PI X (.Tuple elts kk tpos) (.Call (.Name "enumerate" p) [e] [] pos) (tI A.Z T C W (.enum a)) := by
  obtain ⟨g, hn⟩ := c.glo h
  exact s_enum g.gl (by rw [c.cmg]; exact ok.fr i _ hn) ha hs
theorem Cxo.gtt (c : Cxo A k Nn sc fc W X) {gs : IR} {es : List Expr} {kk : Nat} (h : PGs X es (tGs A.Z gs)) (hn : (assignEach es X.env).length = (gsl gs).length := by rfl) (hst : (assignEach es X.env).findIdx? (·.1) = none := by rfl) : PG X (.Tuple es kk pos) (tG A.Z (.gt gs)) := s_gt c.calm h c.cK (fun e => asgs_len e) hn hst
end

/-! ### comprehensions -/
section
variable {elt tg iter : Expr} {ifs : List Expr} {scope : Scope} {own : List (Str × Nat)} {pos spos py : Pos} {g it c' e : IR} {tt : TT} {y : Str} {i : Nat}
theorem blk_ok (c : Cxo A k Nn sc fc W X) (h : blkC Nn sc scope own = true) : BlkOk X.N X.env.scope scope own ∧ scope.kind = .function := by
  rw [c.cN, c.csc]
  have := blkOk_by h
  exact ⟨this, this.kind⟩
theorem Cxo.lc (c : Cxo A k Nn sc fc W X) (hi : PI X tg iter (tI A.Z T C W it)) (hb : blkC Nn sc scope own = true) (hv : ∀ j ∈ gsl g, j ∈ own.map (·.2))
    (hg : ∀ X', Cxo A k Nn (relS scope sc) (fun x => scope.names.lookup x == some .cell) W0 X' → PG X' tg (tG A.Z g)) (ht : ∀ X', Cxo A k Nn (relS scope sc) (fun x => scope.names.lookup x == some .cell) W0 X' → PTs X' ifs tt) (htc : ∀ σ H Q, tT A.Z T C W0 c' σ H Q → tt σ H Q)
    (he : ∀ X', Cxo A k Nn (relS scope sc) (fun x => scope.names.lookup x == some .cell) W0 X' → PE X' elt (tE A.Z T C W0 e)) (hs : ∀ x, foldedSetIterable iter X.env x = pure x := by intro _; rfl) : PE X (.ListComp elt [⟨tg, iter, ifs, 0⟩] scope pos) (tN A.Z T C W (.lc (own.map (·.2)) g it c' e)) := by
  obtain ⟨ok, hk⟩ := blk_ok c hb
  exact (pe_lc c.calm c.ndx hi ok (fun s H Ca cl fp => hg _ (c.blk hk s H Ca cl fp)) (fun s H Ca cl fp => ht _ (c.blk hk s H Ca cl fp)) (fun s H Ca cl fp => he _ (c.blk hk s H Ca cl fp)) hs).wk fun σ H Q q => tN_lc (fun _ _ _ z => z) (fun _ _ _ _ z => z) htc (fun _ _ _ z => z) hv q
theorem Cxo.setLc (c : Cxo A k Nn sc fc W X) (hi : PI X tg iter (tI A.Z T C W it)) (hb : blkC Nn sc scope own = true) (hv : ∀ j ∈ gsl g, j ∈ own.map (·.2))
    (hg : ∀ X', Cxo A k Nn (relS scope sc) (fun x => scope.names.lookup x == some .cell) W0 X' → PG X' tg (tG A.Z g)) (ht : ∀ X', Cxo A k Nn (relS scope sc) (fun x => scope.names.lookup x == some .cell) W0 X' → PTs X' ifs tt) (htc : ∀ σ H Q, tT A.Z T C W0 c' σ H Q → tt σ H Q)
    (he : ∀ X', Cxo A k Nn (relS scope sc) (fun x => scope.names.lookup x == some .cell) W0 X' → PE X' elt (tE A.Z T C W0 e)) (hy : locB Nn sc (fun _ => false) i y = true) (hl : (py.line == pos.line) = true) (ha : (scope.names.any fun (n, k) => n == y && (k == .local || k == .cell)) = false) (hs : ∀ x, foldedSetIterable iter X.env x = pure x := by intro _; rfl) :
    PS X (.Assign [.Name y py] (.ListComp elt [⟨tg, iter, ifs, 0⟩] scope pos) spos) (tAsg (tN A.Z T C W (.lc (own.map (·.2)) g it c' e)) (gName i)) := by
  obtain ⟨ok, hk⟩ := blk_ok c hb
  have hyl : X.env.scope.names.lookup y = some .local := by
    rw [c.csc]
    unfold locB at hy
    simp only [Bool.and_eq_true, Bool.or_eq_true, decide_eq_true_eq, Bool.false_eq_true, and_false, or_false] at hy
    exact lkB_ok hy.2
  have hsc : X.env.scope.kind = .function := by rw [c.csc]; exact c.ckind
  exact (ps_setLc c.calm c.ndx (c.loc (fc := fc) (by unfold locB at hy ⊢; simp only [Bool.and_eq_true, Bool.or_eq_true, decide_eq_true_eq, Bool.false_eq_true, and_false, or_false] at hy ⊢; exact ⟨hy.1, .inl hy.2⟩)).1 hyl (sw_true hsc hyl hl ha) hi ok (fun s H Ca cl fp => hg _ (c.blk hk s H Ca cl fp)) (fun s H Ca cl fp => ht _ (c.blk hk s H Ca cl fp)) (fun s H Ca cl fp => he _ (c.blk hk s H Ca cl fp)) hs).wk fun D σ H q => tN_lc (fun _ _ _ z => z) (fun _ _ _ _ z => z) htc (fun _ _ _ z => z) hv q
section
variable {kx vx : Expr} {kk vv : IR}
theorem Cxo.dc (c : Cxo A k Nn sc fc W X) (hi : PI X tg iter (tI A.Z T C W it)) (hb : blkC Nn sc scope own = true) (hv : ∀ j ∈ gsl g, j ∈ own.map (·.2))
    (hg : ∀ X', Cxo A k Nn (relS scope sc) (fun x => scope.names.lookup x == some .cell) W0 X' → PG X' tg (tG A.Z g)) (ht : ∀ X', Cxo A k Nn (relS scope sc) (fun x => scope.names.lookup x == some .cell) W0 X' → PTs X' ifs tt) (htc : ∀ σ H Q, tT A.Z T C W0 c' σ H Q → tt σ H Q)
    (hk : ∀ X', Cxo A k Nn (relS scope sc) (fun x => scope.names.lookup x == some .cell) W0 X' → PE X' kx (tE A.Z T C W0 kk)) (he : ∀ X', Cxo A k Nn (relS scope sc) (fun x => scope.names.lookup x == some .cell) W0 X' → PE X' vx (tE A.Z T C W0 vv)) (hs : ∀ x, foldedSetIterable iter X.env x = pure x := by intro _; rfl) : PE X (.DictComp kx vx [⟨tg, iter, ifs, 0⟩] scope pos) (tN A.Z T C W (.dc (own.map (·.2)) g it c' kk vv)) := by
  obtain ⟨ok, hkf⟩ := blk_ok c hb
  exact (pe_dc c.calm c.ndx hi ok (fun s H Ca cl fp => hg _ (c.blk hkf s H Ca cl fp)) (fun s H Ca cl fp => ht _ (c.blk hkf s H Ca cl fp)) (fun s H Ca cl fp => hk _ (c.blk hkf s H Ca cl fp)) (fun s H Ca cl fp => he _ (c.blk hkf s H Ca cl fp)) hs).wk fun σ H Q q => tN_dc (fun _ _ _ z => z) (fun _ _ _ _ z => z) htc (fun _ _ _ z => z) (fun _ _ _ z => z) hv q
theorem Cxo.setDc (c : Cxo A k Nn sc fc W X) (hi : PI X tg iter (tI A.Z T C W it)) (hb : blkC Nn sc scope own = true) (hv : ∀ j ∈ gsl g, j ∈ own.map (·.2))
    (hg : ∀ X', Cxo A k Nn (relS scope sc) (fun x => scope.names.lookup x == some .cell) W0 X' → PG X' tg (tG A.Z g)) (ht : ∀ X', Cxo A k Nn (relS scope sc) (fun x => scope.names.lookup x == some .cell) W0 X' → PTs X' ifs tt) (htc : ∀ σ H Q, tT A.Z T C W0 c' σ H Q → tt σ H Q)
    (hk : ∀ X', Cxo A k Nn (relS scope sc) (fun x => scope.names.lookup x == some .cell) W0 X' → PE X' kx (tE A.Z T C W0 kk)) (he : ∀ X', Cxo A k Nn (relS scope sc) (fun x => scope.names.lookup x == some .cell) W0 X' → PE X' vx (tE A.Z T C W0 vv)) (hy : locB Nn sc (fun _ => false) i y = true) (hsw : swapsWith (.DictComp kx vx [⟨tg, iter, ifs, 0⟩] scope pos) (some (.Name y py)) spos.line (PyProof.Rows.envOfC "" sc 0 0 .none) = pure true) (hs : ∀ x, foldedSetIterable iter X.env x = pure x := by intro _; rfl) :
    PS X (.Assign [.Name y py] (.DictComp kx vx [⟨tg, iter, ifs, 0⟩] scope pos) spos) (tAsg (tN A.Z T C W (.dc (own.map (·.2)) g it c' kk vv)) (gName i)) := by
  obtain ⟨ok, hkf⟩ := blk_ok c hb
  have hyl : X.env.scope.names.lookup y = some .local := by
    rw [c.csc]
    unfold locB at hy
    simp only [Bool.and_eq_true, Bool.or_eq_true, decide_eq_true_eq, Bool.false_eq_true, and_false, or_false] at hy
    exact lkB_ok hy.2
  have hsw' : swapsWith (.DictComp kx vx [⟨tg, iter, ifs, 0⟩] scope pos) (some (.Name y py)) spos.line X.env = pure true := by
    rw [← hsw]
    unfold swapsWith Env.kindOf Env.blockKind
    rw [c.csc]
    rfl
  exact (ps_setDc c.calm c.ndx (c.loc (fc := fc) (by unfold locB at hy ⊢; simp only [Bool.and_eq_true, Bool.or_eq_true, decide_eq_true_eq, Bool.false_eq_true, and_false, or_false] at hy ⊢; exact ⟨hy.1, .inl hy.2⟩)).1 hyl hsw' hi ok (fun s H Ca cl fp => hg _ (c.blk hkf s H Ca cl fp)) (fun s H Ca cl fp => ht _ (c.blk hkf s H Ca cl fp)) (fun s H Ca cl fp => hk _ (c.blk hkf s H Ca cl fp)) (fun s H Ca cl fp => he _ (c.blk hkf s H Ca cl fp)) hs).wk fun D σ H q => tN_dc (fun _ _ _ z => z) (fun _ _ _ _ z => z) htc (fun _ _ _ z => z) (fun _ _ _ z => z) hv q
end
theorem tt_none : ∀ (σ : L2.St) (H : Hp) (Q : Bool → Hp → Prop), tT A.Z T C W (.kb true) σ H Q → tYes σ H Q := fun σ H Q q => by
  obtain ⟨G, io, pl, S, de, R, h⟩ := q
  exact h H G io pl .refl R
theorem tE_tN {ir : IR} {σ : L2.St} {H : Hp} {Q : VK} {Z : Zc} (q : tE Z T C W ir σ H Q) : tN Z T C W ir σ H Q := by
  obtain ⟨G, io, pl, S, de, R, h⟩ := q
  refine ⟨G, io, pl, S, de, R, h.imp fun d S1 k H1 G1 io1 pl1 p s1 R1 ow n g h0 f => ?_⟩
  obtain ⟨G2, R2, s2, r, _⟩ := ow.known R1 s1 n g h0 f
  exact k H1 G2 io1 pl1 _ s2 R2 r
end

/-! ### assignments -/
section
variable {e : Expr} {x : Str} {i : Nat} {p pos : Pos} {ir g : IR}
def dumE (sc : Scope) : PySem.Env := PyProof.Rows.envOfC "" sc 0 0 .none
theorem swaps_scope {e : Expr} {t : Option Expr} {l : Nat} {e1 e2 : PySem.Env} (h : e1.scope = e2.scope) : swapsWith e t l e1 = swapsWith e t l e2 := by
  unfold swapsWith Env.kindOf Env.blockKind
  rw [h]
theorem swapped_scope {ts : List Expr} {e : Expr} {e1 e2 : PySem.Env} (h : e1.scope = e2.scope) : swappedStores ts e e1 = swappedStores ts e e2 := by
  unfold swappedStores Env.kindOf Env.blockKind
  rw [h]
theorem Cxo.sw (c : Cxo A k Nn sc fc W X) {t : Option Expr} {l : Nat} {b : Bool} (h : swapsWith e t l (dumE sc) = pure b) : swapsWith e t l X.env = pure b := (swaps_scope (e2 := dumE sc) c.csc).trans h
theorem Cxo.sws (c : Cxo A k Nn sc fc W X) {ts : List Expr} {l : Nat} {b : Bool} (h : swapsWithSole ts e l (dumE sc) = pure b) : swapsWithSole ts e l X.env = pure b := by
  refine Eq.trans ?_ h
  unfold swapsWithSole
  split
  · exact swaps_scope c.csc
  · rfl
theorem Cxo.swd (c : Cxo A k Nn sc fc W X) {ts : List Expr} {b : Option (List Str)} (h : swappedStores ts e (dumE sc) = pure b) : swappedStores ts e X.env = pure b := (swapped_scope (e2 := dumE sc) c.csc).trans h
theorem Cxo.set (c : Cxo A k Nn sc fc W X) (h : locB Nn sc fc i x = true) (he : PE X e (tE A.Z T C W ir)) (hs : swapsWith e (some (.Name x p)) pos.line (dumE sc) = pure false) : PS X (.Assign [.Name x p] e pos) (tS A.Z T C W N (.set (.gn i) ir)) := s_asg (ps_set c.ndx (c.loc h).1 (c.loc h).2.1 he (c.sw hs) (c.loc h).2.2) (fun _ _ _ z => z) fun _ _ _ _ z => tG_gn z
theorem Cxo.seto (c : Cxo A k Nn sc fc W X) (h : locB Nn sc fc i x = true) (he : PE X e (tN A.Z T C W ir)) (hs : swapsWith e (some (.Name x p)) pos.line (dumE sc) = pure false) : PS X (.Assign [.Name x p] e pos) (tS A.Z T C W N (.seto i ir)) := s_seto (ps_set c.ndx (c.loc h).1 (c.loc h).2.1 he (c.sw hs) (c.loc h).2.2) fun _ _ _ z => z
theorem Cxo.asg (c : Cxo A k Nn sc fc W X) {t : Expr} (he : PE X e (tE A.Z T C W ir)) (hg : PG X t (tG A.Z g)) (hs : swapsWithSole [t] e pos.line (dumE sc) = pure false) (hw : swappedStores [t] e (dumE sc) = pure none) (h1 : (assignEach [t] X.env).map (·.2) = [assign t X.env] := by rfl) : PS X (.Assign [t] e pos) (tS A.Z T C W N (.set g ir)) := s_asg (ps_asg he hg (c.sws hs) (c.swd hw) h1) (fun _ _ _ z => z) fun _ _ _ _ z => z
theorem s_lcv {stm : Stmt} {te : TE} (h : PS X stm (tAsg (tN A.Z T C W ir) (gName i))) : PS X stm (tS A.Z T C W N (.set (.gn i) ir)) := s_asg h (fun _ _ _ z => tE_tN z) fun _ _ _ _ z => tG_gn z
theorem s_lco {stm : Stmt} {te : TE} (h : PS X stm (tAsg (tN A.Z T C W ir) (gName i))) : PS X stm (tS A.Z T C W N (.seto i ir)) := s_seto h fun _ _ _ z => z
theorem tEb_tN {σ : L2.St} {H : Hp} {Q : VK} {Z : Zc} (q : tE Z T C W (.boxed ir) σ H Q) : tN Z T C W ir σ H Q := by
  obtain ⟨G, io, pl, S, de, R, h⟩ := q
  refine ⟨G, io, pl, S, de, R, (Fin.bnd (show Fin Z H G io de σ W ((ev T C de ir S).bnd _) _ from h)).imp fun d S1 k H1 G1 io1 pl1 p s1 R1 ow n g h0 f => ?_⟩
  obtain ⟨pl2, R2, s2, ip⟩ := ow.boxed R1 s1 n g h0 f
  have k : ∀ H' G' io' pl' v, Step H G io H' G' io' → Rel Z H' G' io' pl' (S1 ++ [d]) de σ → Rep Z G' io' v (.box S1.length) → Q v H' := k
  exact k H1 G1 _ pl2 _ s2 R2 (.box ip)
theorem s_lcb {stm : Stmt} {te : TE} (h : PS X stm (tAsg (tN A.Z T C W ir) (gName i))) : PS X stm (tS A.Z T C W N (.set (.gn i) (.boxed ir))) := s_asg h (fun _ _ _ z => tEb_tN z) fun _ _ _ _ z => tG_gn z
theorem tF_v {e : Expr} (h : PE X e (tE A.Z T C W ir)) : PE X e (tF A.Z T C W false ir) := h
theorem tF_o {e : Expr} (h : PE X e (tN A.Z T C W ir)) : PE X e (tF A.Z T C W true ir) := h
theorem lc1 {j : Nat} (h : locB Nn sc (fun _ => false) i x = true) (c : Cxo A k Nn sc fc W X) : X.N[i]? = some x ∧ X.env.scope.names.lookup x = some .local := by
  unfold locB at h
  simp only [Bool.and_eq_true, Bool.or_eq_true, decide_eq_true_eq, Bool.false_eq_true, and_false, or_false] at h
  rw [c.cN, c.csc]
  exact ⟨h.1, lkB_ok h.2⟩
theorem Cxo.par2 (c : Cxo A k Nn sc fc W X) {j : Nat} {y : Str} {fi fj : Bool} {a b : Expr} {es : IR} {px py pt : Pos} {kt k2 : Nat} {pt2 : Pos} (hi : locB Nn sc (fun _ => false) i x = true) (hj : locB Nn sc (fun _ => false) j y = true) (hij : i ≠ j) (ha : PA X [a, b] (tFs A.Z T C W [(i, fi), (j, fj)] es)) (ok : parOk [(i, fi), (j, fj)] es = true)
    (hw : swappedStores [.Tuple [.Name x px, .Name y py] kt pt] (.Tuple [a, b] k2 pt2) (dumE sc) = pure (some [x, y])) (hs : swapsWithSole [.Tuple [.Name x px, .Name y py] kt pt] (.Tuple [a, b] k2 pt2) pos.line (dumE sc) = pure false) : PS X (.Assign [.Tuple [.Name x px, .Name y py] kt pt] (.Tuple [a, b] k2 pt2) pos) (tS A.Z T C W N (.par [(i, fi), (j, fj)] es)) := s_par2 (ps_par c.calm c.ndx (lc1 (j := j) hi c).1 (lc1 (j := j) hj c).1 hij (lc1 (j := j) hi c).2 (lc1 (j := j) hj c).2 ha (c.swd hw) (c.sws hs)) ok
theorem Cxo.par3 (c : Cxo A k Nn sc fc W X) {j l : Nat} {y z : Str} {fi fj fl : Bool} {a b d : Expr} {es : IR} {px py pz pt : Pos} {kt k2 : Nat} {pt2 : Pos} (hi : locB Nn sc (fun _ => false) i x = true) (hj : locB Nn sc (fun _ => false) j y = true) (hl : locB Nn sc (fun _ => false) l z = true) (hij : i ≠ j) (hil : i ≠ l) (hjl : j ≠ l) (ha : PA X [a, b, d] (tFs A.Z T C W [(i, fi), (j, fj), (l, fl)] es)) (ok : parOk [(i, fi), (j, fj), (l, fl)] es = true)
    (hw : swappedStores [.Tuple [.Name x px, .Name y py, .Name z pz] kt pt] (.Tuple [a, b, d] k2 pt2) (dumE sc) = pure (some [x, y, z])) (hs : swapsWithSole [.Tuple [.Name x px, .Name y py, .Name z pz] kt pt] (.Tuple [a, b, d] k2 pt2) pos.line (dumE sc) = pure false) : PS X (.Assign [.Tuple [.Name x px, .Name y py, .Name z pz] kt pt] (.Tuple [a, b, d] k2 pt2) pos) (tS A.Z T C W N (.par [(i, fi), (j, fj), (l, fl)] es)) := s_par3 (ps_par3 c.calm c.ndx (lc1 (j := j) hi c).1 (lc1 (j := j) hj c).1 (lc1 (j := j) hl c).1 hij hil hjl (lc1 (j := j) hi c).2 (lc1 (j := j) hj c).2 (lc1 (j := j) hl c).2 ha (c.swd hw) (c.sws hs)) ok
theorem Cxo.bset (c : Cxo A k Nn sc fc W X) {o f v : Expr} {a kk vv : IR} {pos' : Pos} (ha : PE X o (tE A.Z T C W a)) (hk : PE X f (tE A.Z T C W kk)) (hv : PE X v (tE A.Z T C W vv)) (hs : swapsWith v (some (.Subscript o f pos')) pos.line (dumE sc) = pure false) : PS X (.Assign [.Subscript o f pos'] v pos) (tS A.Z T C W N (.bset a kk vv)) := s_bset (ps_dput c.u1 ha hk hv (c.sw hs))
theorem Cxo.oset (c : Cxo A k Nn sc fc W X) {f v : Expr} {kk vv : IR} {pos' : Pos} (h : visB Nn sc i x = true) (hk : PE X f (tE A.Z T C W kk)) (hv : PE X v (tE A.Z T C W vv)) (hs : swapsWith v (some (.Subscript (.Name x p) f pos')) pos.line (dumE sc) = pure false) : PS X (.Assign [.Subscript (.Name x p) f pos'] v pos) (tS A.Z T C W N (.oset i kk vv)) := s_oset (ps_dput c.u1 (c.var h) hk hv (c.sw hs))
theorem Cxo.xpr (c : Cxo A k Nn sc fc W X) (he : PE X e (tE A.Z T C W ir)) (hs : swapsWith e none pos.line X.env = pure false := by rfl) : PS X (.Expr e pos) (tS A.Z T C W N (.xpr ir)) := s_xpr (ps_expr he hs) fun _ _ _ z => z
theorem Cxo.ret (c : Cxo A k Nn sc fc W X) (he : PE X e (tE A.Z T C W ir)) : PS X (.Return (some e) pos) (tS A.Z T C W N (.rt ir)) := s_rt (ps_ret he) fun _ _ _ z => z
theorem Cxo.cond (c : Cxo A k Nn sc fc W X) {a b : List Stmt} {t u v : IR} (hc : PT X e (tT A.Z T C W t)) (ha : PSs X a (tSs A.Z T C W N u)) (hb : PSs X b (tSs A.Z T C W N v)) : PS X (.If e a b pos) (tS A.Z T C W N (.cond t u v)) := s_cond (ps_if hc ha hb) (fun _ _ _ z => z) (fun _ _ _ z => z) fun _ _ _ z => z
theorem Cxo.forl (c : Cxo A k Nn sc fc W X) {tg : Expr} {body : List Stmt} {it b : IR} (hi : PI X tg e (tI A.Z T C W it)) (hg : PG X tg (tG A.Z g)) (hb : PSs X body (tSs A.Z T C W N b)) (hs : ∀ x, foldedSetIterable e X.env x = pure x := by intro _; rfl) : PS X (.For tg e body [] pos) (tS A.Z T C W N (.forl g it b)) := s_forl (ps_for c.own c.calm hi hg hb hs) (fun _ _ _ z => z) (fun _ _ _ _ z => z) fun _ _ _ z => z
theorem Cxo.whl (c : Cxo A k Nn sc fc W X) {body : List Stmt} {t b : IR} (hc : PT X e (tT A.Z T C W t)) (hb : PSs X body (tSs A.Z T C W N b)) : PS X (.While e body [] pos) (tS A.Z T C W N (.whl t b)) := s_whl (ps_while c.own hc hb) (fun _ _ _ z => z) fun _ _ _ z => z
theorem Cxo.app (c : Cxo A k Nn sc fc W X) {pp apos cpos : Pos} (h : visB Nn sc i x = true) (he : PE X e (tE A.Z T C W ir)) (hbase : attributeBase (.Name x pp) "append" X.env (eval (.Name x pp) X.env) = eval (.Name x pp) X.env := by rfl)
    (hfew : ((backTo cpos (starEach [e] X.env)).all (fun x => !x.1) && (backToKw cpos (keywordEach [] X.env)).all (fun x => x.1.isSome)
      && decide ([e].length + ([] : List Keyword).length + (if ([] : List Keyword).isEmpty then 0 else 1) < 30)) = true := by rfl)
    (hline : (apos.endLine == cpos.line) = true := by rfl) (hs : starEach [e] X.env = (false, eval e X.env) :: starEach [] X.env := by rfl) (hplain : (backTo cpos (starEach [] X.env)).any (·.1) = false := by rfl) (hsw : swapsWith (.Call (.Attribute (.Name x pp) "append" apos) [e] [] cpos) none pos.line X.env = pure false := by rfl) : PS X (.Expr (.Call (.Attribute (.Name x pp) "append" apos) [e] [] cpos) pos) (tS A.Z T C W N (.app i ir)) :=
  s_app (ps_expr (pe_bm PySem.F.plainAttrs_list PySem.F.slot_list_append PySem.F.type_list_append mt_append (c.var h) (pa_cons he pa_nil hs) hbase hfew hline hs hplain) hsw)
end

/-! ### a def -/
theorem ok_fn {i : Nat} {x qual : Str} {params : Arguments} {body : List Stmt} {scope : Scope} {dvs : List V} {kws : List (Str × V)} {ps : List Str} {fe : Fe} (F : FunD A.Z.K x qual params body scope dvs kws (A.fad i) (A.fdd i)) (S : FnScope Nn ps scope) (hT : T.fns[i]? = some fe) (hi : fe.ini = none) (hs : fe.slots = Nn.length) (ha : fe.arity = ps.length)
    (hb : ∀ (X : Cx) (E : XK), Cxo A k Nn scope (fun _ => true) (WE E) X → PSs X body (tSs A.Z T (callF T N k) (WE E) N fe.body)) : FnOk A.P A.w A.Z.K A.mg A.base (L2.CX A.P A.w) (2 * (k + 1)) (A.fad i) (A.fdd i) ps (spF A.Z T (callF T N (k + 1)) i ps.length) := by
  unfold spF
  rw [hT]
  show FnOk A.P A.w A.Z.K A.mg A.base (L2.CX A.P A.w) (2 * (k + 1)) (A.fad i) (A.fdd i) ps (match fe.ini with | none => spD A.Z (callF T N (k + 1)) i ps.length | some c => spI A.Z (callF T N (k + 1)) i ps.length c)
  rw [hi]
  refine F.ok S (fun vs H Q E h => h.1) fun cdv Ar outer s H vs Q E hr h => ⟨_, hb _ E ⟨rfl, S.nd, rfl, S.kind, rfl, rfl, rfl, rfl, rfl, rfl, fun _ _ => rfl, hr, passes_of rfl, takes_of rfl rfl rfl rfl⟩, ?_⟩
  refine body_go (body := body) (fun _ _ _ _ z => z) (fun _ _ _ _ z => z) (C' := callF T N (k + 1)) (fun ds => ?_) hs ha h
  show (match T.fns[i]? with | some fe => runF T N (callF T N k) fe ds | none => fail) = _
  rw [hT]
  show runF T N (callF T N k) fe ds = _
  unfold runF
  rw [hi]
theorem ok_ini {i c : Nat} {x qual : Str} {params : Arguments} {body : List Stmt} {scope : Scope} {dvs : List V} {kws : List (Str × V)} {ps : List Str} {fe : Fe} (F : FunD A.Z.K x qual params body scope dvs kws (A.fad i) (A.fdd i)) (S : FnScope Nn ps scope) (hT : T.fns[i]? = some fe) (hi : fe.ini = some c) (hs : fe.slots = Nn.length) (ha : fe.arity = ps.length)
    (hb : ∀ (X : Cx) (E : XK), Cxo A k Nn scope (fun _ => true) (WE E) X → PSs X body (tSs A.Z T (callF T N k) (WE E) N fe.body)) : FnOk A.P A.w A.Z.K A.mg A.base (L2.CX A.P A.w) (2 * (k + 1)) (A.fad i) (A.fdd i) ps (spF A.Z T (callF T N (k + 1)) i ps.length) := by
  unfold spF
  rw [hT]
  show FnOk A.P A.w A.Z.K A.mg A.base (L2.CX A.P A.w) (2 * (k + 1)) (A.fad i) (A.fdd i) ps (match fe.ini with | none => spD A.Z (callF T N (k + 1)) i ps.length | some c => spI A.Z (callF T N (k + 1)) i ps.length c)
  rw [hi]
  refine F.ok S (fun vs H Q E h => h.1) fun cdv Ar outer s H vs Q E hr h => ⟨_, hb _ E ⟨rfl, S.nd, rfl, S.kind, rfl, rfl, rfl, rfl, rfl, rfl, fun _ _ => rfl, hr, passes_of rfl, takes_of rfl rfl rfl rfl⟩, ?_⟩
  refine init_go (body := body) (fun _ _ _ _ z => z) (C' := callF T N (k + 1)) (fun ds => ?_) hs h
  show (match T.fns[i]? with | some fe => runF T N (callF T N k) fe ds | none => fail) = _
  rw [hT]
  show runF T N (callF T N k) fe ds = _
  unfold runF
  rw [hi]
end
end Y
/-! Y25: the rules by contexts: constants, classes, methods. -/
namespace Y
open PySem L2

theorem bo_str : bootBuiltins "str" = some (.type "str") := by decide +kernel
theorem bo_bool : bootBuiltins "bool" = some (.type "bool") := by decide +kernel
section
variable {A : Wd} {T : Tb} {N k : Nat} {Nn : List Str} {sc : Scope} {fc : Str → Bool} {X : Cx} {E : XK} {W : WX} {C : Calls}
theorem Cxo.con (c : Cxo A k Nn sc fc W X) (ok : WdOk A T) {i : Nat} {x : Str} {v : V} {d : D} {pos : Pos} (h : gloB sc (A.gcon.map (·.1)) i x = true) (hv : A.gcon[i]? = some (x, v)) (hd : T.con[i]? = some d) : PE X (.Name x pos) (tE A.Z T C W (.con i)) := by
  obtain ⟨g, _⟩ := c.glo h
  obtain ⟨⟨u, hu, r⟩, rep⟩ := ok.gc i x v d hv hd
  refine s_const (d := d) (pe_glob g.gl (by rw [c.cmg]; exact hu) r g.db) (fun de => ?_) rep
  show (match T.con[i]? with | some d => Y.ret d | none => Y.fail) = _
  rw [hd]
theorem Cxo.kcls (c : Cxo A k Nn sc fc W X) (ok : WdOk A T) {i : Nat} {x : Str} {pos : Pos} (h : gloB sc A.clsn i x = true) : PE X (.Name x pos) (tE A.Z T C W (.kcls i)) := by
  obtain ⟨g, hn⟩ := c.glo h
  exact s_kcls (pe_glob g.gl (by rw [c.cmg]; exact ok.cn i x hn) rfl g.db)
theorem Cxo.kty (c : Cxo A k Nn sc fc W X) (ok : WdOk A T) {i : Nat} {x : Str} {n : String} {pos : Pos} (h : gloB sc A.frees i x = true) (hv : bootBuiltins x = some (.type n)) : PE X (.Name x pos) (tE A.Z T C W (.kty n)) := by
  obtain ⟨g, hn⟩ := c.glo h
  exact s_kty (pe_bltn g.gl (by rw [c.cmg]; exact ok.fr i x hn) hv rfl g.nm g.db)
theorem Cxo.ccon (c : Cxo A k Nn sc fc W X) (ok : WdOk A T) {i j cc : Nat} {x f : Str} {v : V} {d : D} {p pos : Pos} (h : gloB sc A.clsn cc x = true) (hv : A.ccon[j]? = some (cc, f, v)) (hi : A.gcon.length + j = i) (hd : T.con[i]? = some d) (hb : attributeBase (.Name x p) f X.env (eval (.Name x p) X.env) = eval (.Name x p) X.env := by rfl) : PE X (.Attribute (.Name x p) f pos) (tE A.Z T C W (.con i)) := by
  subst hi
  obtain ⟨g, hn⟩ := c.glo h
  obtain ⟨⟨mc, u, h1, h2⟩, rep⟩ := ok.cc j cc f v d hv hd
  refine (ClX.pe_cval (pe_glob (v := .ref (A.Z.ca cc)) g.gl (by rw [c.cmg]; exact ok.cn cc x hn) rfl g.db) hb).wk fun σ H Q q => ?_
  obtain ⟨G, io, pl, S, de, R, h⟩ := q
  have e0 : ev T C de (.con (A.gcon.length + j)) = Y.ret d := by
    show (match T.con[A.gcon.length + j]? with | some d => Y.ret d | none => Y.fail) = _
    rw [hd]
  rw [e0] at h
  exact ⟨_, mc, v, u, rfl, by rw [c.cK]; exact h1, by rw [c.cK]; exact h2, h H G io pl v .refl R (rep G io)⟩
theorem Cxo.meth (c : Cxo A k Nn sc fc W X) (ok : WdOk A T) (L : lvl A T N k) {a as : IR} {o e : Expr} {es : List Expr} {m : Str} {apos pos : Pos} {pl0 : Sem Bool} (ha : PE X o (tE A.Z T (callF T N k) W a)) (hes : PA X (e :: es) (tL A.Z T (callF T N k) W as))
    (hst : starEach (e :: es) X.env = (false, eval e X.env) :: starEach es X.env := by rfl) (hpl : (backTo pos (starEach es X.env)).any (·.1) = false := by rfl)
    (ht : eval (.Call (.Attribute o m apos) (e :: es) [] pos) X.env = (do
      let ov ← eval o X.env
      standAt apos.atName
      let (f, first) ← holding [ov] (getMethod ov m pl0)
      callWith pos f first (backTo pos (starEach (e :: es) X.env)) (backToKw pos (keywordEach [] X.env))) := by rfl) : PE X (.Call (.Attribute o m apos) (e :: es) [] pos) (tE A.Z T (callF T N k) W (.meth a m as)) := s_meth (c.disp ok L) ha hes hst hpl ht
theorem Cxo.meth0 (c : Cxo A k Nn sc fc W X) (ok : WdOk A T) (L : lvl A T N k) {a : IR} {o : Expr} {m : Str} {apos pos : Pos} {pl0 : Sem Bool} (ha : PE X o (tE A.Z T (callF T N k) W a))
    (ht : eval (.Call (.Attribute o m apos) [] [] pos) X.env = (do
      let ov ← eval o X.env
      standAt apos.atName
      let (f, first) ← holding [ov] (getMethod ov m pl0)
      callWith pos f first (backTo pos (starEach [] X.env)) (backToKw pos (keywordEach [] X.env))) := by rfl) : PE X (.Call (.Attribute o m apos) [] [] pos) (tE A.Z T (callF T N k) W (.meth a m .nil)) := s_meth0 (c.disp ok L) ha ht
theorem Cxo.isi (c : Cxo A k Nn sc fc W X) (ok : WdOk A T) (L : lvl A T N k) {i : Nat} {a t : IR} {e f : Expr} {p pos : Pos} (h : gloB sc A.frees i "isinstance" = true) (ha : PE X e (tO A.Z T (callF T N k) W a)) (hb : PE X f (tE A.Z T (callF T N k) W t)) (hs : starEach [e, f] X.env = (false, eval e X.env) :: starEach [f] X.env := by rfl) (hs2 : starEach [f] X.env = (false, eval f X.env) :: starEach [] X.env := by rfl)
    (hpl : (backTo pos (starEach [f] X.env)).any (·.1) = false := by rfl) : PE X (.Call (.Name "isinstance" p) [e, f] [] pos) (tE A.Z T (callF T N k) W (.isi a t)) := by
  obtain ⟨g, hn⟩ := c.glo h
  exact s_isi (c.disp ok L) c.cK g.gl (by rw [c.cmg]; exact ok.fr i _ hn) ha hb hs hs2 hpl
theorem Cxo.fset (c : Cxo A k Nn sc fc W X) (ok : WdOk A T) (L : lvl A T N k) {o value : Expr} {f : Str} {pos pos' : Pos} {a e : IR} (ha : PE X o (tE A.Z T (callF T N k) W a)) (hv : PE X value (tE A.Z T (callF T N k) W e)) (hs : swapsWith value (some (.Attribute o f pos')) pos.line (dumE sc) = pure false) : PS X (.Assign [.Attribute o f pos'] value pos) (tS A.Z T (callF T N k) W N (.fset a f e)) := s_fset (c.disp ok L) ha hv (c.sw hs)
/-- a body that is not to be reached -/
theorem ss_never {Z : Zc} {body : List Stmt} : PSs X body (tSs Z T C W N (.cons .never .nil)) := ⟨fun pn s σ H D J q => by
  obtain ⟨bs, H0, G0, io0, G, io, pl, S, de, R, B, q⟩ := q
  exact (q : False).elim⟩
theorem s_dctT {pos : Pos} : PE X (.Dict [] [] pos) (tN A.Z T C W .dctT) := (pe_dnewT (X := X)).wk fun σ H Q q p hp => by
  obtain ⟨G, io, pl, S, de, R, h⟩ := q
  obtain ⟨R1, s1, pn, gn⟩ := R.laid hp (.dT [])
  exact h _ G io pl p s1 R1 (.dT (kvs := []) upd_same .nil) pn gn hp rfl
theorem Cxo.xtndM (c : Cxo A k Nn sc fc W X) {i : Nat} {x : Str} {ir : IR} {e : Expr} {pos pp apos cpos : Pos} (h : visB Nn sc i x = true) (he : PE X e (tE A.Z T C W ir)) (hbase : attributeBase (.Name x pp) "extend" X.env (eval (.Name x pp) X.env) = eval (.Name x pp) X.env := by rfl)
    (hfew : ((backTo cpos (starEach [e] X.env)).all (fun x => !x.1) && (backToKw cpos (keywordEach [] X.env)).all (fun x => x.1.isSome)
      && decide ([e].length + ([] : List Keyword).length + (if ([] : List Keyword).isEmpty then 0 else 1) < 30)) = true := by rfl)
    (hline : (apos.endLine == cpos.line) = true := by rfl) (hs : starEach [e] X.env = (false, eval e X.env) :: starEach [] X.env := by rfl) (hplain : (backTo cpos (starEach [] X.env)).any (·.1) = false := by rfl) (hsw : swapsWith (.Call (.Attribute (.Name x pp) "extend" apos) [e] [] cpos) none pos.line X.env = pure false := by rfl) : PS X (.Expr (.Call (.Attribute (.Name x pp) "extend" apos) [e] [] cpos) pos) (tS A.Z T C W N (.xtnd i ir)) :=
  s_xtndM (ps_expr (pe_bm PySem.F.plainAttrs_list PySem.F.slot_list_extend PySem.F.type_list_extend mt_extend (c.var h) (pa_cons he pa_nil hs) hbase hfew hline hs hplain) hsw)
theorem Cxo.xtndA (c : Cxo A k Nn sc fc W X) {i : Nat} {x : Str} {ir : IR} {e : Expr} {pos pp : Pos} (h : locB Nn sc fc i x = true) (he : PE X e (tE A.Z T C W ir)) : PS X (.AugAssign (.Name x pp) .Add e pos) (tS A.Z T C W N (.xtnd i ir)) := s_xtndA (ps_aug c.ndx (c.loc h).1 (c.loc h).2.1 he ip_ext (c.loc h).2.2)
theorem Cxo.auga (c : Cxo A k Nn sc fc W X) {i : Nat} {x : Str} {ir : IR} {e : Expr} {pos pp : Pos} (h : locB Nn sc fc i x = true) (he : PE X e (tE A.Z T C W ir)) : PS X (.AugAssign (.Name x pp) .Add e pos) (tS A.Z T C W N (.auga i ir)) := s_auga (ps_aug c.ndx (c.loc h).1 (c.loc h).2.1 he ip_add (c.loc h).2.2)
theorem Cxo.augs (c : Cxo A k Nn sc fc W X) {i : Nat} {x : Str} {ir : IR} {e : Expr} {pos pp : Pos} (h : locB Nn sc fc i x = true) (he : PE X e (tE A.Z T C W ir)) : PS X (.AugAssign (.Name x pp) .Sub e pos) (tS A.Z T C W N (.augs i ir)) := s_augs (ps_aug c.ndx (c.loc h).1 (c.loc h).2.1 he ip_sub (c.loc h).2.2)
end
end Y
/-! Y27: list.index, reversed slices. -/
namespace Y
open PySem L2

section
variable {Z : Zc} {T : Tb} {C : Calls} {W : WX} {X : Cx} {H G H' G' : Hp} {io io' : List Addr} {pl pl' : Plc} {S S' : Store} {de : Env} {σ : L2.St}
theorem pIndex_ok {ds : List D} {y d : D} (h : pIndex ds y = some d) : ∃ (j : Nat) (z : PyData), d = .int j ∧ y.shaped = true ∧ (D.lst ds).shaped = true ∧ (D.pys ds)[j]? = some z ∧ PyData.eqv z y.py = true ∧ ∀ (m : Nat) (z' : PyData), m < j → (D.pys ds)[m]? = some z' → PyData.eqv z' y.py = false := by
  unfold pIndex at h
  split at h
  · rename_i c
    obtain ⟨c1, c2⟩ := Bool.and_eq_true_iff.mp c
    obtain ⟨j, hj, rfl⟩ := Option.map_eq_some_iff.mp h
    have py : ∀ (xs : List D) (k : Nat), (D.pys xs)[k]? = xs[k]?.map D.py := fun xs => by
      induction xs with
      | nil => intro k; rfl
      | cons x xs ih =>
        intro k
        cases k with
        | zero => rfl
        | succ k => exact ih k
    obtain ⟨h1, h2, h3⟩ := List.findIdx?_eq_some_iff_getElem.mp hj
    refine ⟨j, _, rfl, c1, c2, by rw [py, List.getElem?_eq_getElem h1]; rfl, h2, fun m z' hm hz => ?_⟩
    rw [py, List.getElem?_eq_getElem (by omega)] at hz
    cases hz
    exact Bool.eq_false_iff.mpr (h3 m hm)
  · cases h
theorem s_idxm {a b : IR} {e f : Expr} {apos cpos : Pos} (hK : X.K = Z.K) (hu : X.A.units + 65 < cLine) (ha : PE X e (tE Z T C W a)) (hi : PE X f (tE Z T C W b)) (hbase : attributeBase e "index" X.env (eval e X.env) = eval e X.env := by rfl)
    (hfew : ((backTo cpos (starEach [f] X.env)).all (fun x => !x.1) && (backToKw cpos (keywordEach [] X.env)).all (fun x => x.1.isSome)
      && decide ([f].length + ([] : List Keyword).length + (if ([] : List Keyword).isEmpty then 0 else 1) < 30)) = true := by rfl)
    (hline : (apos.endLine == cpos.line) = true := by rfl) (hs : starEach [f] X.env = (false, eval f X.env) :: starEach [] X.env := by rfl) (hplain : (backTo cpos (starEach [] X.env)).any (·.1) = false := by rfl) : PE X (.Call (.Attribute e "index" apos) [f] [] cpos) (tE Z T C W (.idxm a b)) := (pe_bm PySem.F.plainAttrs_list PySem.F.slot_list_index PySem.F.type_list_index (mt_indexD hu) ha (pa_cons hi pa_nil hs) hbase hfew hline hs hplain).wk fun σ H Q q => by
  obtain ⟨G, io, pl, S, de, R, h⟩ := q
  refine ⟨G, io, pl, S, de, R, (Fin.bnd (show Fin Z H G io de σ W ((ev T C de a S).bnd _) _ from h)).imp fun x S1 k H1 G1 io1 pl1 v s1 R1 r => ?_⟩
  cases r <;> first | exact (k : False).elim | skip
  rename_i p vs ds hp rp
  have k := Fin.bnd (show Fin Z H G io de σ W ((ev T C de b S1).bnd _) _ from k)
  refine ⟨.inl ⟨rfl, _, SqL.of ((R1.gh _ _ hp).same rfl)⟩, G1, io1, pl1, S1, de, R1, k.at s1 fun y S2 k2 H2 G2 io2 pl2 u s2 R2 r2 => ?_⟩
  obtain ⟨d, e, k2⟩ := k2.lift
  obtain ⟨j, z, rfl, c1, c2, hz, he, hf⟩ := pIndex_ok e
  have t1 : Top Z H2 G2 io2 (.ref p) (.lst ds) := .lst ((R2.gh _ _ (s2.gg _ _ hp)).same rfl) (rp.step s2)
  have t2 : Top Z H2 G2 io2 u y := R2.top r2 fun n e => by subst e; cases c1
  rw [hK]
  exact ⟨p, u, y.py, D.pys ds, j, z, rfl, rfl, R2.dpT t1 (shaped_ok c2).1, R2.dpT t2 (shaped_ok c1).1, (shaped_ok c2).2, (shaped_ok c1).2, hz, he, hf, k2 H2 G2 io2 pl2 _ (s1.trans s2) R2 (.int _)⟩
end
section
variable {A : Wd} {T : Tb} {N k : Nat} {Nn : List Str} {sc : Scope} {fc : Str → Bool} {X : Cx} {E : XK} {W : WX} {C : Calls}
theorem Cxo.idxm (c : Cxo A k Nn sc fc W X) {a b : IR} {e f : Expr} {apos cpos : Pos} (ha : PE X e (tE A.Z T C W a)) (hi : PE X f (tE A.Z T C W b)) (hbase : attributeBase e "index" X.env (eval e X.env) = eval e X.env := by rfl)
    (hfew : ((backTo cpos (starEach [f] X.env)).all (fun x => !x.1) && (backToKw cpos (keywordEach [] X.env)).all (fun x => x.1.isSome)
      && decide ([f].length + ([] : List Keyword).length + (if ([] : List Keyword).isEmpty then 0 else 1) < 30)) = true := by rfl)
    (hline : (apos.endLine == cpos.line) = true := by rfl) (hs : starEach [f] X.env = (false, eval f X.env) :: starEach [] X.env := by rfl) (hplain : (backTo cpos (starEach [] X.env)).any (·.1) = false := by rfl) : PE X (.Call (.Attribute e "index" apos) [f] [] cpos) (tE A.Z T C W (.idxm a b)) := s_idxm c.cK c.u65 ha hi hbase hfew hline hs hplain
theorem Cxo.rev (c : Cxo A k Nn sc fc W X) {a : IR} {e : Expr} {kk : Nat} {p1 p2 p3 pos : Pos} (ha : PE X e (tE A.Z T C W a)) : PE X (.Subscript e (.Slice none none (some (.UnaryOp .USub (.Constant (.int 1) kk p1) p2)) p3) pos) (tN A.Z T C W (.rev a)) := n_rev (pe_revL ha)
end
end Y
/-! Y15: all levels; the law's call. -/
namespace Y
open PySem L2

section
variable {A : Wd} {T : Tb} {N k : Nat}
theorem sp_none {Z : Zc} {T : Tb} {N i n : Nat} {vs : List V} {H : Hp} {Q : VK} {E : XK} (q : spF Z T (callF T N 0) i n vs H Q E) : False := by
  have h1 : ∀ {vs H Q E}, spD Z (callF T N 0) i n vs H Q E → False := fun q => by
    obtain ⟨_, G, io, pl, S, ds, R, r, h⟩ := q
    exact h.elim
  unfold spF at q
  cases hT : T.fns[i]? with
  | none => rw [hT] at q; exact h1 q
  | some fe =>
    rw [hT] at q
    have q : (match fe.ini with | none => spD Z (callF T N 0) i n | some c => spI Z (callF T N 0) i n c) vs H Q E := q
    cases hi : fe.ini with
    | none => rw [hi] at q; exact h1 q
    | some c =>
      rw [hi] at q
      obtain ⟨_, x, dx, H0, ws, G, io, pl, S, ds, _, _, _, _, _, R, r, h⟩ := q
      exact h.elim
theorem lvl_zero : lvl A T N 0 := fun i ps h => ⟨fun vs H Q E q => (sp_none q).elim, fun Ar outer s H args us vs Q E hr he hb hv q => (sp_none q).elim⟩
theorem spF_D {Z : Zc} {C : Calls} {i n : Nat} {fe : Fe} (hT : T.fns[i]? = some fe) (hi : fe.ini = none) : spF Z T C i n = spD Z C i n := by
  unfold spF
  rw [hT]
  show (match fe.ini with | none => spD Z C i n | some c => spI Z C i n c) = _
  rw [hi]
/-- the law's def at a script -/
theorem sp_law {Z : Zc} {C : Calls} {li : Nat} {a : Addr} {ns : List Int} {H : Hp} {E : XK} (hS : SqL Z.K H a (ns.map V.int)) {f : Bool} {S' : Store} (h : C li [.ro (ns.map .int)] [] = .ok (.bl true, f) S') : spD Z C li 1 [.ref a] H (fun v _ => v = .bl true) E := by
  have rs : ∀ (G : Hp) (ns : List Int), Reps Z G [] (ns.map V.int) (ns.map D.int) := fun G ns => by
    induction ns with
    | nil => exact .nil
    | cons n ns ih => exact .cons (.int n) ih
  refine ⟨rfl, fun b => if b = a then H a else none, [], fun _ => none, [], [.ro (ns.map .int)], ⟨fun b u hb => ?_, rfl, fun i e h => by simp at h, rfl, fun n d hd => by simp at hd, fun b hb => absurd rfl hb⟩, .cons (.ro (.inl ?_) (rs _ ns)) .nil, ?_⟩
  · have hb : (if b = a then H a else none) = some u := hb
    by_cases e : b = a
    · subst e
      rw [if_pos rfl] at hb
      exact .inl hb
    · rw [if_neg e] at hb
      cases hb
  · rcases hS with (h | ⟨o, h⟩) | h
    · exact .inl (.inl (by show (if a = a then H a else none) = _; rw [if_pos rfl]; exact h))
    · exact .inl (.inr ⟨o, by show (if a = a then H a else none) = _; rw [if_pos rfl]; exact h⟩)
    · exact .inr h
  · rw [h]
    intro H' G' io' pl' v s R' r
    cases r
    rfl
/-- what leaves a def, in whatever world -/
def CXw (P : Program) : CXT := fun outer H s E u s' => ∃ w, L2.CX P w outer H s E u s'
theorem FnOk.cxw {P : Program} {w : World} {K : PySem.W.Frag} {mg : Str → Option Value} {base : Heap} {k : Nat} {f : Addr} {fd : FuncData} {ps : List Str} {sp : Sp} (F : FnOk P w K mg base (L2.CX P w) k f fd ps sp) : FnOk P w K mg base (CXw P) k f fd ps sp :=
  ⟨F.len, fun A outer s H args us vs Q E hr he hb hv q => codeAny_mono (F.run A outer s H args us vs Q E hr he hb hv q) fun r s' h => by
    cases r with
    | error e => exact ⟨w, h⟩
    | ok fl => cases fl <;> exact h⟩
theorem cxw_no {P : Program} (H : Hp) (s : Shared) (e : Value) (s' : Shared) (h : CXw P [] H s (fun _ _ _ => False) e s') : False := by
  obtain ⟨w, h⟩ := h
  exact no_cx (fun _ _ _ z => z) h
end
end Y
/-! Y23: the head's facts: defs, methods, properties, classes. -/
namespace Y
open PySem PySem.Spec PyProof.Rows L2 He

/-- a class's statements -/
def clsB : Stmt → List Stmt
  | .ClassDef (body := b) .. => b
  | _ => []
/-- where a def stands -/
inductive Loc where
  | glo (x : Str) | meth (c m : Str) | prop (c f : Str) | cmet (c m : Str)
def recHd (K : PySem.W.Frag) (p : Addr) (t : String) : Addr := match PySem.W.recIn K p t with
  | some (.ref g :: _) => g
  | _ => 0
def Loc.ad (K : PySem.W.Frag) : Loc → Addr
  | .glo x => ga K x
  | .meth c m => ma K (ga K c) m
  | .prop c f => recHd K (ma K (ga K c) f) "property"
  | .cmet c m => recHd K (ma K (ga K c) m) "classmethod"
def fnY (K : PySem.W.Frag) (p : Loc) : FnW := match K.lookup (p.ad K) with
  | some ⟨_, _, .func fd, _⟩ => some (fd.name, fd.qualname, fd.params, fd.body, fd.scope, fd.globals, fd.closure, fd.builtins)
  | _ => none
structure DefY where
  at_ : Loc
  name : Str
  qual : Str
  params : Arguments
  body : List Stmt
  scope : Scope
  dfl : List Dv := []
  kwd : List (Str × Dv) := []
def DefY.val (d : DefY) : FnW := some (d.name, d.qual, d.params, .stmts d.body, d.scope, mainGlobals, [], builtinsNs)
def DefY.dvs (K : PySem.W.Frag) (d : DefY) : List V := d.dfl.map (Dv.v K)
def DefY.kws (K : PySem.W.Frag) (d : DefY) : List (Str × V) := d.kwd.map fun q => (q.1, q.2.v K)
def DefY.ok (K : PySem.W.Frag) (d : DefY) : Bool := PySem.W.keepIn K (.ref (d.at_.ad K)) && (match K.lookup (d.at_.ad K) with
  | some ⟨_, _, .func fd, _⟩ => PySem.W.codeIn K fd.code d.qual && (dflB K fd.defaults (d.dvs K) && kwdB K fd.kwdefaults (d.kws K))
  | _ => false)
theorem DefY.funD {K : PySem.W.Frag} {d : DefY} (e : fnY K d.at_ = d.val) (c : d.ok K = true) : ∃ fd, FunD K d.name d.qual d.params d.body d.scope (d.dvs K) (d.kws K) (d.at_.ad K) fd := by
  obtain ⟨kp, c2⟩ := ba c
  unfold fnY at e
  cases q : K.lookup (d.at_.ad K) with
  | none =>
    rw [q] at c2
    cases c2
  | some o =>
    obtain ⟨oc, od, dt, osl⟩ := o
    rw [q] at c2 e
    cases dt with
    | func fd =>
      obtain ⟨n1, n2, n3, n4, n5, n6, n7, n8, n9, n10, n11, n12, n13, n14, n15⟩ := fd
      have e2 : (some (n1, n2, n3, n4, n5, n6, n7, n15) : FnW) = some (d.name, d.qual, d.params, .stmts d.body, d.scope, mainGlobals, [], builtinsNs) := e
      simp only [Option.some.injEq, Prod.mk.injEq] at e2
      obtain ⟨h1, h2, h3, h4, h5, h6, h7, h8⟩ := e2
      subst h1 h2 h3 h4 h5 h6 h7 h8
      have c3 : (PySem.W.codeIn K n13 d.qual && (dflB K n8 (d.dvs K) && kwdB K n9 (d.kws K))) = true := c2
      obtain ⟨k1, k2⟩ := ba c3
      obtain ⟨k3, k4⟩ := ba k2
      exact ⟨_, ⟨oc, od, n8, n9, n10, n11, n12, n13, n14, osl, rfl, q, k1, dflB_ok k3, kwdB_ok k4⟩, kp⟩
    | _ => cases c2

theorem lookup_mem {α β : Type} [BEq α] [LawfulBEq α] {a : α} {b : β} : ∀ {l : List (α × β)}, l.lookup a = some b → (a, b) ∈ l
  | [], h => by cases h
  | (x, y) :: l, h => by
    rw [List.lookup_cons] at h
    cases e : (a == x) with
    | true =>
      rw [e] at h
      cases h
      rw [eq_of_beq e]
      exact List.mem_cons_self
    | false =>
      rw [e] at h
      exact List.mem_cons_of_mem _ (lookup_mem h)

/-! ### facts -/
abbrev FaY : Type := PySem.W.Frag → Bool
def fGlo (x : Str) : FaY := fun K => (Fa.glo x).ok K
def fFree (x : Str) : FaY := fun K => (Fa.free x).ok K
def fCls (x : Str) : FaY := fun K => (Fa.cls x).ok K && (decide (PySem.W.subIn K (.ref (ga K x)) (.type "object") = some true) && (decide (PySem.W.subIn K (.ref (ga K x)) (.type "collections.deque") = some false) && eqO (PySem.W.findIn K (.ref (ga K x)) "__ne__") (some (some (.builtin "object.__ne__")))))
def fNoat (x f : Str) : FaY := fun K => (Fa.noat x f).ok K
def fMk (x : Str) : FaY := fun K => (Fa.mkr x).ok K
def fMeth (x m : Str) : FaY := fun K => (Fa.meth x m).ok K && PySem.W.fnIn K (ma K (ga K x) m)
def fProp (x f : Str) : FaY := fun K => eqO (PySem.W.findIn K (.ref (ga K x)) f) (some (some (.ref (ma K (ga K x) f)))) && (decide (PySem.W.specialIn K (.ref (ma K (ga K x) f)) "__get__" = some (some (.builtin "property.__get__"))) &&
  (decide (PySem.W.takesIn K (.ref (ma K (ga K x) f)) = some true) && (match PySem.W.recIn K (ma K (ga K x) f) "property" with
  | some (.ref _ :: _) => true
  | _ => false)))
theorem fCls_ok {K : PySem.W.Frag} {x : Str} (h : fCls x K = true) : Cls K (ga K x) ∧ PySem.W.subIn K (.ref (ga K x)) (.type "object") = some true ∧ PySem.W.subIn K (.ref (ga K x)) (.type "collections.deque") = some false ∧ PySem.W.findIn K (.ref (ga K x)) "__ne__" = some (some (.builtin "object.__ne__")) := by
  obtain ⟨h1, h⟩ := ba h
  obtain ⟨h2, h⟩ := ba h
  obtain ⟨h3, h4⟩ := ba h
  exact ⟨cls_ok h1, of_decide_eq_true h2, of_decide_eq_true h3, eqO_ok h4⟩
theorem fMeth_ok {K : PySem.W.Frag} {x m : Str} (h : fMeth x m K = true) : Meth K (ga K x) m (ma K (ga K x) m) ∧ PySem.W.fnIn K (ma K (ga K x) m) = true := ⟨meth_ok (ba h).1, (ba h).2⟩
theorem fProp_ok {K : PySem.W.Frag} {x f : Str} (h : fProp x f K = true) : ∃ p, PropOf K (ga K x) f p ((Loc.prop x f).ad K) := by
  obtain ⟨h1, h⟩ := ba h
  obtain ⟨h2, h⟩ := ba h
  obtain ⟨h3, h4⟩ := ba h
  refine ⟨_, eqO_ok h1, of_decide_eq_true h2, of_decide_eq_true h3, ?_⟩
  cases q : PySem.W.recIn K (ma K (ga K x) f) "property" with
  | none => rw [q] at h4; cases h4
  | some l =>
    rw [q] at h4
    cases l with
    | nil => cases h4
    | cons v r =>
      cases v <;> first | (cases h4; done) | skip
      refine ⟨r, ?_⟩
      have e : (Loc.prop x f).ad K = recHd K (ma K (ga K x) f) "property" := rfl
      rw [e]
      unfold recHd
      rw [q]

def fKit (xs : List Str) (x : Str) : FaY := fun K => eqO (PySem.W.findIn K (.ref (ga K x)) "__class__") (some (some (.builtin "object.__class__"))) && (eqO (PySem.W.specialIn K (.builtin "object.__class__") "__get__") (some (some (.builtin "getset_descriptor.__get__"))) && (decide (PySem.W.takesIn K (.builtin "object.__class__") = some true) && (decide (PySem.W.mroIn K (ga K x) (.type "object") = some true) &&
  ((tyKnown.all fun n => decide (PySem.W.kitOne K (.ref (ga K x)) (.type n) = some false)) && ((("NoneType" :: tyKnown).all fun n => decide (PySem.W.kitOne K (.type n) (.ref (ga K x)) = some false)) && xs.all fun y => decide (PySem.W.kitOne K (.ref (ga K x)) (.ref (ga K y)) = some (x == y)))))))
theorem fKit_ok {K : PySem.W.Frag} {xs : List Str} {x : Str} (h : fKit xs x K = true) : (PySem.W.findIn K (.ref (ga K x)) "__class__" = some (some (.builtin "object.__class__")) ∧ PySem.W.specialIn K (.builtin "object.__class__") "__get__" = some (some (.builtin "getset_descriptor.__get__")) ∧ PySem.W.takesIn K (.builtin "object.__class__") = some true ∧ PySem.W.mroIn K (ga K x) (.type "object") = some true) ∧
    (∀ n ∈ tyKnown, PySem.W.kitOne K (.ref (ga K x)) (.type n) = some false) ∧ (∀ n ∈ "NoneType" :: tyKnown, PySem.W.kitOne K (.type n) (.ref (ga K x)) = some false) ∧ ∀ y ∈ xs, PySem.W.kitOne K (.ref (ga K x)) (.ref (ga K y)) = some (x == y) := by
  obtain ⟨h1, h⟩ := ba h
  obtain ⟨h2, h⟩ := ba h
  obtain ⟨h3, h⟩ := ba h
  obtain ⟨h4, h⟩ := ba h
  obtain ⟨h5, h⟩ := ba h
  obtain ⟨h6, h7⟩ := ba h
  exact ⟨⟨eqO_ok h1, eqO_ok h2, of_decide_eq_true h3, of_decide_eq_true h4⟩, fun n hn => of_decide_eq_true (List.all_eq_true.mp h5 n hn), fun n hn => of_decide_eq_true (List.all_eq_true.mp h6 n hn), fun y hy => of_decide_eq_true (List.all_eq_true.mp h7 y hy)⟩
def fInt (x : Str) (i : Int) : FaY := fun K => (Fa.int x i).ok K
def fStr (x z : Str) : FaY := fun K => (Fa.str x z).ok K
def fTup (x : Str) (vs : List Dv) : FaY := fun K => (Fa.glo x).ok K && tupB K x vs
theorem int_cv {K : PySem.W.Frag} {h : Heap} {mg : Str → Option Value} (X : K.In h) (G : h.Ns mainGlobals mg) {x : Str} {i : Int} (c : fInt x i K = true) : ∃ u, mg x = some u ∧ RelV (.int i) u := by
  obtain ⟨t, e⟩ := int_ok X G c
  exact ⟨_, e, t, rfl⟩
theorem str_cv {K : PySem.W.Frag} {h : Heap} {mg : Str → Option Value} (X : K.In h) (G : h.Ns mainGlobals mg) {x z : Str} (c : fStr x z K = true) : ∃ u, mg x = some u ∧ RelV (.str z) u := by
  obtain ⟨t, e⟩ := str_ok X G c
  exact ⟨_, e, t, rfl⟩
theorem tup_cv {K : PySem.W.Frag} {h : Heap} {mg : Str → Option Value} (X : K.In h) (G : h.Ns mainGlobals mg) {x : Str} {vs : List Dv} (c : fTup x vs K = true) : (∃ u, mg x = some u ∧ RelV (.ref (ga K x)) u) ∧ ∀ H, SqT K H (ga K x) (vs.map (Dv.v K)) := ⟨⟨_, glo_ok X G (ba c).1, rfl⟩, tupB_ok (ba c).2⟩
def fCon (x f : Str) (v : V) : FaY := fun K => match PySem.W.typeIn K (.ref (ga K x)) with
  | some mc => PySem.W.readsIn K (ga K x) mc && (eqO (PySem.W.specialIn K (.ref (ga K x)) "__getattribute__") (some (some (.builtin "type.__getattribute__"))) && (match PySem.W.findCls K (.ref (ga K x)) mc f with
    | some (.val u) => relB v u
    | _ => false))
  | none => false
theorem fCon_ok {K : PySem.W.Frag} {x f : Str} {v : V} (h : fCon x f v K = true) : ∃ mc u, ClX.CRead K (ga K x) mc ∧ ClX.CVal K (ga K x) mc f v u := by
  unfold fCon at h
  cases q : PySem.W.typeIn K (.ref (ga K x)) with
  | none => rw [q] at h; cases h
  | some mc =>
    rw [q] at h
    obtain ⟨h1, h⟩ := ba h
    obtain ⟨h2, h3⟩ := ba h
    cases q2 : PySem.W.findCls K (.ref (ga K x)) mc f with
    | none => rw [q2] at h3; cases h3
    | some r =>
      rw [q2] at h3
      cases r with
      | val u => exact ⟨mc, u, ⟨h1, eqO_ok h2⟩, q2, relB_ok h3⟩
      | _ => cases h3

/-! ### the Hook -/
def dedupY : List Addr → List Addr → List Addr
  | [], _ => []
  | a :: r, seen => if seen.contains a then dedupY r seen else a :: dedupY r (a :: seen)
/-- (what was reached before, what was reached in the last step) -/
def reachY (g : Addr → Option Obj) : Nat → List Addr × List Addr
  | 0 => ([], [mainGlobals, cStatics])
  | n + 1 =>
    let p := reachY g n
    (p.1 ++ p.2, dedupY (p.2.flatMap fun a => match g a with
      | some o => refsD o
      | none => []) (p.1 ++ p.2))
def asY (g : Addr → Option Obj) (n : Nat) : List Addr := (reachY g n).1 ++ (reachY g n).2
abbrev AlY : Type := Bool × List FnW
def obsYK (fa : List FaY) (fn : List DefY) (K : PySem.W.Frag) : AlY := ((fa.all fun f => f K) && fn.all fun d => d.ok K, fn.map fun d => fnY K d.at_)
def valY (fn : List DefY) : AlY := (true, fn.map DefY.val)
def SaysY (fa : List FaY) (fn : List DefY) (K : PySem.W.Frag) : Prop := obsYK fa fn K = valY fn
def obsYG (n : Nat) (fa : List FaY) (fn : List DefY) (g : Addr → Option Obj) : AlY := obsYK fa fn (frG g (asY g n))
def hookY (n : Nat) (fa : List FaY) (fn : List DefY) : PySem.W.Hook where
  α := AlY
  obs := fun s => obsYG n fa fn s.heap.get?
  val := fun _ => valY fn
  says := fun _ h => ∃ K : PySem.W.Frag, K.In h ∧ SaysY fa fn K
  of := fun _ _ e => ⟨_, frG_in, e⟩
  keeps := fun _ _ _ ⟨K, hK, c⟩ k => ⟨K, PySem.W.Frag.In.keeps hK k, c⟩
theorem obsYG_eq {n : Nat} {fa : List FaY} {fn : List DefY} {g : Addr → Option Obj} {s : Shared} (h : ∀ a, g a = s.heap.get? a) : obsYG n fa fn g = (hookY n fa fn).obs s := by
  have e : g = s.heap.get? := funext h
  rw [e] <;> rfl
section
variable {fa : List FaY} {fn : List DefY} {K : PySem.W.Frag}
theorem SaysY.fact (c : SaysY fa fn K) (i : Nat) {f : FaY} (h : fa[i]? = some f := by rfl) : f K = true := by
  have c1 := (ba (show ((fa.all fun f => f K) && fn.all fun d => d.ok K) = true from congrArg (fun z : AlY => z.1) c)).1
  exact List.all_eq_true.mp c1 f (List.mem_of_getElem? h)
theorem SaysY.def_ (c : SaysY fa fn K) (i : Nat) {d : DefY} (h : fn[i]? = some d := by rfl) : ∃ fd, FunD K d.name d.qual d.params d.body d.scope (d.dvs K) (d.kws K) (d.at_.ad K) fd := by
  have c2 := (ba (show ((fa.all fun f => f K) && fn.all fun d => d.ok K) = true from congrArg (fun z : AlY => z.1) c)).2
  have e : fn.map (fun d => fnY K d.at_) = fn.map DefY.val := congrArg (fun z : AlY => z.2) c
  have e2 : (fn.map fun d => fnY K d.at_)[i]? = (fn.map DefY.val)[i]? := by rw [e]
  rw [List.getElem?_map, List.getElem?_map, h] at e2
  exact DefY.funD (Option.some.inj e2) (List.all_eq_true.mp c2 d (List.mem_of_getElem? h))
end
end Y
/-! Z1: typed meaning of the small language: predicate transformers, codings, the judgement J. -/
namespace Y
open PySem L2

/-- how a typed computation ends -/
inductive R (α : Type) where
  | ok (a : α) | ex (c : Nat) (fs : List D)
/-- a typed computation, told by what has to hold for a wish about its end to hold (the number: how many draws may be made still) -/
def Sp (α : Type) : Type := Nat → (Nat → R α → Prop) → Prop
namespace Sp
variable {α β γ : Type}
def pure (a : α) : Sp α := fun b Q => Q b (.ok a)
def bind (m : Sp α) (f : α → Sp β) : Sp β := fun b Q => m b fun b' r => match r with
  | .ok a => f a b' Q
  | .ex c fs => Q b' (.ex c fs)
def fail : Sp α := fun _ _ => False
def raise (c : Nat) (fs : List D) : Sp α := fun b Q => Q b (.ex c fs)
def lift (o : Option α) : Sp α := match o with
  | some a => pure a
  | none => fail
def hush (m : Sp α) : Sp α := fun b Q => m b fun b' r => match r with
  | .ok a => Q b' (.ok a)
  | .ex _ _ => False
/-- where c holds (else nothing is known) -/
def need (c : Prop) (m : Sp α) : Sp α := fun b Q => c ∧ m b Q
/-- a draw below n -/
def take (n : Int) : Sp Int := fun b Q => ∃ b', b = b' + 1 ∧ (0 < n ∧ n < 1073741824) ∧ ∀ v : Int, 0 ≤ v → v < n → Q b' (.ok v)
def opt (x : Option α) (n : β) (s : α → β) : β := match x with
  | none => n
  | some a => s a
/-- a comprehension's turns -/
def comp (f : α → Sp (Option β)) : List α → Sp (List β)
  | [] => pure []
  | x :: r => bind (f x) fun o => bind (comp f r) fun ys => pure (match o with
    | some y => y :: ys
    | none => ys)
/-- a loop without an early end -/
def fold (f : α → β → Sp β) : List α → β → Sp β
  | [], s => pure s
  | x :: r, s => bind (f x s) fun s' => fold f r s'
end Sp
/-- how a loop's body ends -/
inductive Fl (σ ρ : Type) where
  | nx (s : σ) | bk (s : σ) | rt (r : ρ)
namespace Sp
variable {α σ ρ : Type}
def loop (f : α → σ → Sp (Fl σ ρ)) : List α → σ → Sp (Fl σ ρ)
  | [], s => pure (.nx s)
  | x :: r, s => bind (f x s) fun o => match o with
    | .nx s' => loop f r s'
    | .bk s' => pure (.nx s')
    | .rt v => pure (.rt v)
def whl (f : σ → Sp Bool) (b : σ → Sp (Fl σ ρ)) : Nat → σ → Sp (Fl σ ρ)
  | 0, _ => fail
  | n + 1, s => bind (f s) fun c => if c = true then bind (b s) fun o => match o with
      | .nx s' => whl f b n s'
      | .bk s' => pure (.nx s')
      | .rt v => pure (.rt v)
    else pure (.nx s)
end Sp

/-! ### codings -/
theorem D.noBoxes_iff : ∀ {xs : List D}, D.noBoxes xs = true ↔ ∀ x ∈ xs, x.noBox = true
  | [] => by simp [D.noBoxes]
  | x :: xs => by simp [D.noBoxes, D.noBoxes_iff (xs := xs)]
theorem view_nb {d : D} (S : Store) (h : d.noBox = true) : view S d = d := by
  cases d <;> first | rfl | cases h
def D.isIns : D → Bool
  | .ins _ _ _ => true
  | _ => false
class Enc (α : Type) where
  enc : α → D
  nb : ∀ a, (enc a).noBox = true
open Enc (enc)
/-- data: no instance at the top -/
class Dat (α : Type) extends Enc α where
  ni : ∀ a : α, (Enc.enc a).isIns = false
structure Tup (α : Type) where
  l : List α
  deriving DecidableEq
structure Ro (α : Type) where
  l : List α
structure P3 (α β γ : Type) where
  a : α
  b : β
  c : γ
  deriving DecidableEq
structure P4 (α β γ δ : Type) where
  a : α
  b : β
  c : γ
  d : δ
  deriving DecidableEq
/-- a dict -/
structure Dct (κ α : Type) where
  l : List (κ × α)
  deriving DecidableEq
/-- a text whose signs are all signs -/
@[ext] structure Sx where
  v : Str
  ok : PyData.strOk v = true
instance : DecidableEq Sx := fun a b => decidable_of_iff (a.v = b.v) Sx.ext_iff.symm
theorem strOk_of (s : String) : PyData.strOk (Str.ofString s) = true := by
  unfold PyData.strOk
  rw [Str.ofString_eq_toList, ← Array.all_toList, List.all_eq_true]
  intro c hc
  have : c ∈ (s.toList.map Char.toNat) := hc
  obtain ⟨x, _, rfl⟩ := List.mem_map.mp this
  rw [decide_eq_true_eq]
  have h := x.valid
  rcases h with h | h
  · exact Nat.lt_trans h (by decide)
  · exact h.2
abbrev sx (s : String) : Sx := ⟨Str.ofString s, strOk_of s⟩
/-- any value -/
structure Dy where
  d : D
  nb : d.noBox = true

section
variable {α β γ δ κ : Type}
theorem encs_nb [Enc α] (xs : List α) : D.noBoxes (xs.map enc) = true := by
  rw [D.noBoxes_iff]
  intro x hx
  obtain ⟨a, _, rfl⟩ := List.mem_map.mp hx
  exact Enc.nb a
instance : Dat Int where
  enc := .int
  nb _ := rfl
  ni _ := rfl
instance : Dat Bool where
  enc := .bl
  nb _ := rfl
  ni _ := rfl
instance : Dat Unit where
  enc _ := .non
  nb _ := rfl
  ni _ := rfl
instance : Dat Sx where
  enc s := .str s.v
  nb _ := rfl
  ni _ := rfl
instance : Enc Dy where
  enc d := d.d
  nb d := d.nb
instance [Enc α] : Dat (List α) where
  enc xs := .lst (xs.map enc)
  nb xs := encs_nb xs
  ni _ := rfl
instance [Enc α] : Dat (Tup α) where
  enc xs := .tup (xs.l.map enc)
  nb xs := encs_nb xs.l
  ni _ := rfl
instance [Enc α] : Dat (Ro α) where
  enc xs := .ro (xs.l.map enc)
  nb xs := encs_nb xs.l
  ni _ := rfl
instance [Enc α] [Enc β] : Dat (α × β) where
  enc p := .tup [enc p.1, enc p.2]
  nb p := by simp [D.noBox, D.noBoxes, Enc.nb]
  ni _ := rfl
instance [Enc α] [Enc β] [Enc γ] : Dat (P3 α β γ) where
  enc p := .tup [enc p.a, enc p.b, enc p.c]
  nb p := by simp [D.noBox, D.noBoxes, Enc.nb]
  ni _ := rfl
instance [Enc α] [Enc β] [Enc γ] [Enc δ] : Dat (P4 α β γ δ) where
  enc p := .tup [enc p.a, enc p.b, enc p.c, enc p.d]
  nb p := by simp [D.noBox, D.noBoxes, Enc.nb]
  ni _ := rfl
def encO [Enc α] : Option α → D
  | none => .non
  | some a => enc a
instance instEncOption [Enc α] : Enc (Option α) where
  enc := encO
  nb o := by cases o <;> first | rfl | exact Enc.nb _
instance [Dat α] : Dat (Option α) where
  ni o := by cases o <;> first | rfl | exact Dat.ni _
/-- keys of dicts -/
class DKey (κ : Type) extends Dat κ where
  tt : Bool
  kyc : κ → Ky
  kinj : ∀ a b, kyc a = kyc b → a = b
  key : ∀ a, (Enc.enc a).ky = some (kyc a)
  one : ∀ a, tt = false → ∃ k, kyc a = .one k
  two : ∀ a, tt = true → ∃ k, kyc a = .tup k
instance [DKey κ] [Enc α] : Dat (Dct κ α) where
  enc d := if DKey.tt κ = true then .dtt (d.l.map fun p => enc p.1) (d.l.map fun p => enc p.2) else .dct (d.l.map fun p => enc p.1) (d.l.map fun p => enc p.2)
  nb d := by
    have h1 := encs_nb (d.l.map (·.1))
    have h2 := encs_nb (d.l.map (·.2))
    rw [List.map_map] at h1 h2
    split <;> (show (D.noBoxes _ && D.noBoxes _) = true; rw [Bool.and_eq_true]; exact ⟨h1, h2⟩)
  ni d := by split <;> rfl
instance : DKey Int where
  tt := false
  kyc i := .one (.inl i)
  kinj a b h := by cases h; rfl
  key _ := rfl
  one a _ := ⟨_, rfl⟩
  two a h := by cases h
instance : DKey Sx where
  tt := false
  kyc i := .one (.inr i.v)
  kinj a b h := by
    injection h with h
    injection h with h
    exact Sx.ext h
  key _ := rfl
  one a _ := ⟨_, rfl⟩
  two a h := by cases h
/-- parts of keys that are tuples -/
class DPart (κ : Type) extends Dat κ where
  pc : κ → Key
  pinj : ∀ a b, pc a = pc b → a = b
  part : ∀ a, dKey (Enc.enc a) = some (pc a)
instance : DPart Int where
  pc := .inl
  pinj a b h := by cases h; rfl
  part _ := rfl
instance : DPart Sx where
  pc i := .inr i.v
  pinj a b h := by
    injection h with h
    exact Sx.ext h
  part _ := rfl
instance [DPart α] [DPart β] : DKey (α × β) where
  tt := true
  kyc p := .tup [DPart.pc p.1, DPart.pc p.2]
  kinj a b h := by
    injection h with h
    injection h with h1 h
    injection h with h2 h
    exact Prod.ext (DPart.pinj _ _ h1) (DPart.pinj _ _ h2)
  key p := by
    show (dKeys [enc p.1, enc p.2]).map Ky.tup = _
    simp only [dKeys]
    rw [DPart.part, DPart.part]
    rfl
  one a h := by cases h
  two a _ := ⟨_, rfl⟩
end

/-! ### stores -/
abbrev dIz (ns : List Int) : List D := ns.map .int
def kDrawZ : List D := [.str "large", .str "cells", .str "rest", .str "turn"]
def StZ (ls cs : List Int) (r : Int) (t : Nat) (R : List D) : Store := .lst (dIz ls) :: .dct kDrawZ [.box 0, .lst (dIz cs), .int r, .int t] :: R
/-- a store, and how many draws may be made still -/
abbrev Sb := Nat × Store
def DrawOk (S : Sb) : Prop := ∃ ls cs r t R, S.2 = StZ ls cs r t R ∧ t + S.1 < 2 ^ 40
/-- what is known of a store: boxes, and the draws (in the boxes 0 and 1) -/
structure Inv (dw : Bool) (bs : List (Nat × D)) (S : Sb) : Prop where
  at_ : ∀ p ∈ bs, S.2[p.1]? = some p.2
  nd : (bs.map (·.1)).Nodup
  dr : dw = true → DrawOk S ∧ ∀ p ∈ bs, 2 ≤ p.1
theorem Inv.sub {dw : Bool} {bs cs : List (Nat × D)} {S : Sb} (h : Inv dw bs S) (s : cs.Sublist bs) : Inv dw cs S :=
  ⟨fun p hp => h.at_ p (s.subset hp), h.nd.sublist (s.map _), fun d => ⟨(h.dr d).1, fun p hp => (h.dr d).2 p (s.subset hp)⟩⟩
theorem Inv.tail {dw : Bool} {p : Nat × D} {cs : List (Nat × D)} {S : Sb} (h : Inv dw (p :: cs) S) : Inv dw cs S := h.sub (List.sublist_cons_self _ _)

/-- m does what t tells, from a store with I; E: what is known of the store behind an exception; P: of the store and the value -/
def J {δ α : Type} (E : Sb → Prop) (P : δ → Sb → α → Prop) (m : M δ) (I : Sb → Prop) (t : Sp α) : Prop :=
  ∀ S : Sb, I S → ∀ Q : Nat → R α → Prop, t S.1 Q → match m S.2 with
    | .ok d S' => ∃ b a, P d (b, S') a ∧ Q b (.ok a)
    | .exc c fs S' => ∃ b, (E (b, S') ∧ D.noBoxes fs = true) ∧ Q b (.ex c fs)
    | .bad => False
/-- a value -/
abbrev Jv {α : Type} [Enc α] (dw : Bool) (bs : List (Nat × D)) (m : M D) (t : Sp α) : Prop := J (Inv dw bs) (fun d S a => Inv dw bs S ∧ d = enc a) m (Inv dw bs) t
/-- a result as it is (tests) -/
abbrev Jb {δ : Type} (dw : Bool) (bs : List (Nat × D)) (m : M δ) (t : Sp δ) : Prop := J (Inv dw bs) (fun d S a => Inv dw bs S ∧ d = a) m (Inv dw bs) t
/-- a list of values -/
abbrev Jl {α : Type} [Enc α] (dw : Bool) (bs : List (Nat × D)) (m : M (List D)) (t : Sp (List α)) : Prop := J (Inv dw bs) (fun d S a => Inv dw bs S ∧ d = a.map enc) m (Inv dw bs) t
/-- a call's result -/
abbrev Jr {α : Type} [Enc α] (dw : Bool) (bs : List (Nat × D)) (m : M (D × Bool)) (t : Sp α) : Prop := J (Inv dw bs) (fun d S a => Inv dw bs S ∧ d.1 = enc a) m (Inv dw bs) t

section
variable {δ ε α β : Type} {E E1 : Sb → Prop} {I : Sb → Prop} {dw : Bool} {bs : List (Nat × D)}
/-- the general bind -/
theorem J.bnd {P1 : δ → Sb → α → Prop} {P : ε → Sb → β → Prop} {m : M δ} {f : δ → M ε} {t : Sp α} {g : α → Sp β} (h : J E1 P1 m I t) (hE : ∀ S, E1 S → E S) (k : ∀ d a, J E P (f d) (fun S => P1 d S a) (g a)) : J E P (Y.bnd m f) I (Sp.bind t g) := by
  intro S hS Q hQ
  have := h S hS _ hQ
  show match (m S.2).bnd f with | .ok d S' => _ | .exc c fs S' => _ | .bad => False
  cases e : m S.2 with
  | ok d S' =>
    rw [e] at this
    obtain ⟨b, a, h1, h2⟩ := this
    exact k d a (b, S') h1 Q h2
  | exc c fs S' =>
    rw [e] at this
    obtain ⟨b, h1, h2⟩ := this
    exact ⟨b, ⟨hE _ h1.1, h1.2⟩, h2⟩
  | bad => rw [e] at this; exact this
theorem J.bndV {P1 : δ → Sb → α → Prop} {P : ε → Sb → β → Prop} {m : M δ} {f : δ → M ε} {x : α} {t : Sp β} (h : J E1 P1 m I (Sp.pure x)) (k : ∀ d, J E P (f d) (fun S => P1 d S x) t) : J E P (Y.bnd m f) I t := by
  intro S hS Q hQ
  have := h S hS (fun b r => b = S.1 ∧ r = .ok x) ⟨rfl, rfl⟩
  show match (m S.2).bnd f with | .ok d S' => _ | .exc c fs S' => _ | .bad => False
  cases e : m S.2 with
  | ok d S' =>
    rw [e] at this
    obtain ⟨b, a, h1, h2, h3⟩ := this
    cases h3
    subst h2
    exact k d (S.1, S') h1 Q hQ
  | exc c fs S' =>
    rw [e] at this
    obtain ⟨b, h1, h2, h3⟩ := this
    cases h3
  | bad => rw [e] at this; exact this.elim
theorem J.pre {P : δ → Sb → α → Prop} {m : M δ} {t : Sp α} {I' : Sb → Prop} (h : J E P m I t) (k : ∀ S, I' S → I S) : J E P m I' t := fun S hS => h S (k S hS)
theorem J.post {P P' : δ → Sb → α → Prop} {m : M δ} {t : Sp α} (h : J E1 P m I t) (hE : ∀ S, E1 S → E S) (k : ∀ d S a, P d S a → P' d S a) : J E P' m I t := by
  intro S hS Q hQ
  have := h S hS Q hQ
  revert this
  cases m S.2 with
  | ok d S' => exact fun ⟨b, a, h1, h2⟩ => ⟨b, a, k _ _ _ h1, h2⟩
  | exc c fs S' => exact fun ⟨b, h1, h2⟩ => ⟨b, ⟨hE _ h1.1, h1.2⟩, h2⟩
  | bad => exact id
theorem J.fact {P : δ → Sb → α → Prop} {m : M δ} {t : Sp α} {p : Prop} (h : p → J E P m I t) : J E P m (fun S => I S ∧ p) t := fun S hS => h hS.2 S hS.1
theorem J.ret {P : δ → Sb → α → Prop} {d : δ} {a : α} (h : ∀ S, I S → P d S a) : J E P (Y.ret d) I (Sp.pure a) := fun S hS Q hQ => ⟨S.1, a, h S hS, hQ⟩
theorem J.fail {P : δ → Sb → α → Prop} {m : M δ} : J E P m I (Sp.fail) := fun _ _ _ h => h.elim
theorem J.need {P : δ → Sb → α → Prop} {m : M δ} {c : Prop} {t : Sp α} (h : c → J E P m I t) : J E P m I (Sp.need c t) := fun S hS Q hQ => h hQ.1 S hS Q hQ.2
theorem J.ite {P : δ → Sb → α → Prop} {m n : M δ} {c : Bool} {t u : Sp α} (h1 : J E P m I t) (h2 : J E P n I u) : J E P (if c = true then m else n) I (if c = true then t else u) := by
  cases c
  · exact h2
  · exact h1
/-- values: a part that may raise, or a part whose value is known -/
theorem bM [Enc α] {P : ε → Sb → β → Prop} {m : M D} {f : D → M ε} {t : Sp α} {g : α → Sp β} (h : Jv dw bs m t) (k : ∀ a, J (Inv dw bs) P (f (enc a)) (Inv dw bs) (g a)) : J (Inv dw bs) P (Y.bnd m f) (Inv dw bs) (Sp.bind t g) :=
  J.bnd h (fun _ h => h) fun d a => J.fact (fun e => by subst e; exact k a)
theorem bV [Enc α] {P : ε → Sb → β → Prop} {m : M D} {f : D → M ε} {x : α} {t : Sp β} (h : Jv dw bs m (Sp.pure x)) (k : J E P (f (enc x)) (Inv dw bs) t) : J E P (Y.bnd m f) (Inv dw bs) t :=
  J.bndV h fun d => J.fact (fun e => by subst e; exact k)
theorem bbM {P : ε → Sb → β → Prop} {m : M δ} {f : δ → M ε} {t : Sp δ} {g : δ → Sp β} (h : Jb dw bs m t) (k : ∀ a, J (Inv dw bs) P (f a) (Inv dw bs) (g a)) : J (Inv dw bs) P (Y.bnd m f) (Inv dw bs) (Sp.bind t g) :=
  J.bnd h (fun _ h => h) fun d a => J.fact (fun e => by subst e; exact k d)
theorem bbV {P : ε → Sb → β → Prop} {m : M δ} {f : δ → M ε} {x : δ} {t : Sp β} (h : Jb dw bs m (Sp.pure x)) (k : J E P (f x) (Inv dw bs) t) : J E P (Y.bnd m f) (Inv dw bs) t :=
  J.bndV h fun d => J.fact (fun e => by subst e; exact k)
theorem blM [Enc α] {P : ε → Sb → β → Prop} {m : M (List D)} {f : List D → M ε} {t : Sp (List α)} {g : List α → Sp β} (h : Jl dw bs m t) (k : ∀ a, J (Inv dw bs) P (f (a.map enc)) (Inv dw bs) (g a)) : J (Inv dw bs) P (Y.bnd m f) (Inv dw bs) (Sp.bind t g) :=
  J.bnd h (fun _ h => h) fun d a => J.fact (fun e => by subst e; exact k a)
theorem blV [Enc α] {P : ε → Sb → β → Prop} {m : M (List D)} {f : List D → M ε} {x : List α} {t : Sp β} (h : Jl dw bs m (Sp.pure x)) (k : J E P (f (x.map enc)) (Inv dw bs) t) : J E P (Y.bnd m f) (Inv dw bs) t :=
  J.bndV h fun d => J.fact (fun e => by subst e; exact k)
theorem J.hush {P : δ → Sb → α → Prop} {m : M δ} {t : Sp α} (h : J E1 P m I t) : J E P (Y.hush m) I (Sp.hush t) := by
  intro S hS Q hQ
  have := h S hS _ hQ
  show match (m S.2).hush with | .ok d S' => _ | .exc c fs S' => _ | .bad => False
  revert this
  cases m S.2 with
  | ok d S' => exact id
  | exc c fs S' => exact fun ⟨_, h⟩ => h.2
  | bad => exact id
theorem J.hushV {P : δ → Sb → α → Prop} {m : M δ} {a : α} (h : J E1 P m I (Sp.pure a)) : J E P (Y.hush m) I (Sp.pure a) := J.hush h
theorem J.lift {P : δ → Sb → α → Prop} {o : Option δ} {p : Option α} (h : ∀ a, p = some a → ∃ d, o = some d ∧ ∀ S, I S → P d S a) : J E P (Y.lift o) I (Sp.lift p) := by
  intro S hS Q hQ
  cases p with
  | none => exact hQ.elim
  | some a =>
    obtain ⟨d, rfl, hd⟩ := h a rfl
    exact ⟨S.1, a, hd S hS, hQ⟩
theorem J.thn {P1 : δ → Sb → α → Prop} {P : ε → Sb → α → Prop} {m : M δ} {f : δ → M ε} {t : Sp α} (h : J E P1 m I t) (k : ∀ d (S : Sb) a, P1 d S a → ∃ e, f d S.2 = .ok e S.2 ∧ P e S a) : J E P (Y.bnd m f) I t := by
  intro S hS Q hQ
  have := h S hS Q hQ
  show match (m S.2).bnd f with | .ok d S' => _ | .exc c fs S' => _ | .bad => False
  revert this
  cases m S.2 with
  | ok d S' =>
    rintro ⟨b, a, h1, h2⟩
    obtain ⟨e, h3, h4⟩ := k d (b, S') a h1
    show match f d S' with | .ok d S' => _ | .exc c fs S' => _ | .bad => False
    rw [show f d S' = .ok e S' from h3]
    exact ⟨b, a, h4, h2⟩
  | exc c fs S' => exact id
  | bad => exact id
theorem Jv.ret [Enc α] {a : α} : Jv dw bs (Y.ret (enc a)) (Sp.pure a) := J.ret fun _ h => ⟨h, rfl⟩
theorem Jv.lift [Enc α] {a : α} {o : Option D} (h : o = some (enc a)) : Jv dw bs (Y.lift o) (Sp.pure a) := by
  subst h
  exact fun S hS Q hQ => ⟨S.1, a, ⟨hS, rfl⟩, hQ⟩
theorem Jv.liftO [Enc α] {o : Option D} {p : Option α} (h : o = p.map enc) : Jv dw bs (Y.lift o) (Sp.lift p) := by
  subst h
  exact J.lift fun a e => ⟨enc a, by rw [e]; rfl, fun _ h => ⟨h, rfl⟩⟩
theorem Jb.ret {a : δ} : Jb dw bs (Y.ret a) (Sp.pure a) := J.ret fun _ h => ⟨h, rfl⟩
theorem Jl.ret [Enc α] {xs : List α} : Jl dw bs (Y.ret (xs.map enc)) (Sp.pure xs) := J.ret fun _ h => ⟨h, rfl⟩
/-- a value's computation that looks at the store -/
theorem J.at {P : δ → Sb → α → Prop} {m m' : M δ} {t : Sp α} (e : ∀ S, m S = m' S) (h : J E P m' I t) : J E P m I t := by
  rw [show m = m' from funext e]
  exact h
end
end Y
/-! Z2: what is known of the slots; the rules of expressions. -/
namespace Y
open PySem L2
open Enc (enc)
def lookK (i : Nat) : List (Nat × EV) → Option EV
  | [] => none
  | (j, e) :: r => match Nat.beq i j with
    | true => some e
    | false => lookK i r
def dropK (i : Nat) : List (Nat × EV) → List (Nat × EV)
  | [] => []
  | (j, e) :: r => match Nat.beq i j with
    | true => dropK i r
    | false => (j, e) :: dropK i r
def setK (i : Nat) (x : EV) (ks : List (Nat × EV)) : List (Nat × EV) := (i, x) :: dropK i ks
def wipeK : List Nat → List (Nat × EV) → List (Nat × EV)
  | [], ks => ks
  | v :: vs, ks => dropK v (wipeK vs ks)
def selK (js : List Nat) (ks : List (Nat × EV)) : List (Nat × EV) := js.filterMap fun j => (lookK j ks).map fun e => (j, e)
structure Has (n : Nat) (ks : List (Nat × EV)) (de : Env) : Prop where
  len : de.length = n
  at_ : ∀ i e, lookK i ks = some e → de[i]? = some (some e)
theorem beq_f {i j : Nat} (h : Nat.beq i j = false) : i ≠ j := fun e => by subst e; rw [Nat.beq_refl] at h; cases h
theorem beq_t {i j : Nat} (h : Nat.beq i j = true) : i = j := Nat.eq_of_beq_eq_true h
theorem lookK_drop : ∀ {ks : List (Nat × EV)} {i j : Nat} {e : EV}, lookK j (dropK i ks) = some e → i ≠ j ∧ lookK j ks = some e
  | [], i, j, e, h => by cases h
  | (k, x) :: r, i, j, e, h => by
    rw [dropK] at h
    cases c : Nat.beq i k with
    | true =>
      rw [c] at h
      obtain ⟨h1, h2⟩ := lookK_drop h
      refine ⟨h1, ?_⟩
      rw [lookK]
      cases c2 : Nat.beq j k with
      | true => exact absurd ((beq_t c).trans (beq_t c2).symm) h1
      | false => exact h2
    | false =>
      rw [c] at h
      rw [lookK] at h ⊢
      cases c2 : Nat.beq j k with
      | true =>
        rw [c2] at h
        exact ⟨fun e' => beq_f c (e'.trans (beq_t c2)), h⟩
      | false =>
        rw [c2] at h
        exact lookK_drop h
section
variable {n : Nat} {ks : List (Nat × EV)} {de : Env}
theorem Has.set (h : Has n ks de) {i : Nat} (x : EV) (hi : i < n) : Has n (setK i x ks) (de.set i (some x)) := by
  refine ⟨by rw [List.length_set, h.len], fun j e hj => ?_⟩
  rw [setK, lookK] at hj
  cases c : Nat.beq j i with
  | true =>
    rw [c] at hj
    cases hj
    cases beq_t c
    rw [List.getElem?_set_self (by rw [h.len]; exact hi)]
  | false =>
    rw [c] at hj
    obtain ⟨h1, h2⟩ := lookK_drop hj
    rw [List.getElem?_set_ne h1]
    exact h.at_ j e h2
theorem Has.wipe (h : Has n ks de) : ∀ vs : List Nat, Has n (wipeK vs ks) (wipeE de vs)
  | [] => h
  | v :: vs => by
    have ih := h.wipe vs
    refine ⟨by rw [wipeE, List.length_set, ih.len], fun j e hj => ?_⟩
    obtain ⟨h1, h2⟩ := lookK_drop hj
    rw [wipeE, List.getElem?_set_ne h1]
    exact ih.at_ j e h2
theorem lookK_sel : ∀ {js : List Nat} {j : Nat} {e : EV}, lookK j (selK js ks) = some e → lookK j ks = some e
  | [], j, e, h => by cases h
  | i :: js, j, e, h => by
    rw [selK, List.filterMap_cons] at h
    cases c : lookK i ks with
    | none => rw [c] at h; exact lookK_sel h
    | some x =>
      rw [c] at h
      change lookK j ((i, x) :: selK js ks) = some e at h
      rw [lookK] at h
      cases c2 : Nat.beq j i with
      | true =>
        rw [c2] at h
        cases beq_t c2
        exact c.trans h
      | false =>
        rw [c2] at h
        exact lookK_sel h
theorem Has.sel (js : List Nat) (h : Has n ks de) : Has n (selK js ks) de := ⟨h.len, fun i e hi => h.at_ i e (lookK_sel hi)⟩
end

section
variable {T : Tb} {C : Calls} {n : Nat} {ks : List (Nat × EV)} {de : Env} {dw : Bool} {bs : List (Nat × D)} {α β γ ε κ : Type}
theorem J_var [Enc α] (h : Has n ks de) {i : Nat} (x : α) (e : lookK i ks = some (.val (enc x))) : Jv dw bs (ev T C de (.var i)) (Sp.pure x) := by
  have e1 := h.at_ i _ e
  rw [ev, e1]
  exact Jv.ret
/-- containers of one's own -/
theorem J_own [Enc α] (h : Has n ks de) {i : Nat} (x : α) (e : lookK i ks = some (.own (enc x))) (f : isFresh (enc x) = true) : Jv dw bs (ev T C de (.own i)) (Sp.pure x) := by
  have e1 := h.at_ i _ e
  rw [ev, e1]
  show Jv dw bs (if isFresh (enc x) = true then ret (enc x) else fail) _
  rw [if_pos f]
  exact Jv.ret
theorem J_kn : Jv dw bs (ev T C de .kn) (Sp.pure ()) := by rw [ev]; exact Jv.ret (a := ())
theorem J_knO [Enc α] : Jv dw bs (ev T C de .kn) (Sp.pure (none : Option α)) := by rw [ev]; exact Jv.ret (a := (none : Option α))
theorem J_kb (b : Bool) : Jv dw bs (ev T C de (.kb b)) (Sp.pure b) := by rw [ev]; exact Jv.ret (a := b)
theorem J_ki (b : Int) : Jv dw bs (ev T C de (.ki b)) (Sp.pure b) := by rw [ev]; exact Jv.ret (a := b)
theorem J_ks (s : Str) {h : PyData.strOk s = true} : Jv dw bs (ev T C de (.ks s)) (Sp.pure (⟨s, h⟩ : Sx)) := by rw [ev]; exact Jv.ret (a := (⟨s, h⟩ : Sx))
theorem J_con [Enc α] {i : Nat} (x : α) (e : T.con[i]? = some (enc x)) : Jv dw bs (ev T C de (.con i)) (Sp.pure x) := by rw [ev, e]; exact Jv.ret
/-- from what is coded alike -/
theorem J.mapV {δ : Type} {E I : Sb → Prop} {P : δ → Sb → α → Prop} {P' : δ → Sb → β → Prop} {m : M δ} {t : Sp α} {g : α → β} (h : J E P m I t) (k : ∀ d S a, P d S a → P' d S (g a)) : J E P' m I (Sp.bind t fun x => Sp.pure (g x)) := by
  intro S hS Q hQ
  have := h S hS _ hQ
  revert this
  cases m S.2 with
  | ok d S' =>
    rintro ⟨b, a, h1, h3⟩
    exact ⟨b, g a, k _ _ _ h1, h3⟩
  | exc c fs S' => exact id
  | bad => exact id
theorem Jv.cast [Enc α] [Enc β] {m : M D} {x : α} {y : β} (e : (enc x : D) = enc y) (h : Jv dw bs m (Sp.pure x)) : Jv dw bs m (Sp.pure y) := by
  intro S hS Q hQ
  have := h S hS (fun b r => b = S.1 ∧ r = .ok x) ⟨rfl, rfl⟩
  revert this
  cases m S.2 with
  | ok d S' =>
    rintro ⟨b, a, ⟨h1, h2⟩, h3, h4⟩
    cases h4
    subst h3
    exact ⟨_, y, ⟨h1, h2.trans e⟩, hQ⟩
  | exc c fs S' =>
    rintro ⟨b, _, _, h⟩
    cases h
  | bad => exact id
theorem Jv.castM [Enc α] [Enc β] {m : M D} {t : Sp α} (f : α → β) (e : ∀ x, (enc (f x) : D) = enc x) (h : Jv dw bs m t) : Jv dw bs m (Sp.bind t fun x => Sp.pure (f x)) :=
  J.mapV h fun d S a h => ⟨h.1, h.2.trans (e a).symm⟩
theorem Jv.some_ [Enc α] {m : M D} {x : α} (h : Jv dw bs m (Sp.pure x)) : Jv dw bs m (Sp.pure (some x)) := h.cast (x := x) (y := some x) rfl
theorem Jv.someM [Enc α] {m : M D} {t : Sp α} (h : Jv dw bs m t) : Jv dw bs m (Sp.bind t fun x => Sp.pure (some x)) := h.castM _ fun _ => rfl
/-- out of an option (it has to be there) -/
theorem Jv.unw [Enc α] {m : M D} {x : Option α} (h : Jv dw bs m (Sp.pure x)) : Jv dw bs m (Sp.lift x) := by
  cases x with
  | none => exact J.fail
  | some a => exact h.cast (x := some a) rfl
theorem Jv.unwM [Enc α] {m : M D} {t : Sp (Option α)} (h : Jv dw bs m t) : Jv dw bs m (Sp.bind t fun x => Sp.lift x) := by
  intro S hS Q hQ
  have := h S hS _ hQ
  revert this
  cases m S.2 with
  | ok d S' =>
    rintro ⟨b, a, ⟨h1, h2⟩, h3⟩
    cases a with
    | none => exact h3.elim
    | some a => exact ⟨b, a, ⟨h1, h2⟩, h3⟩
  | exc c fs S' => exact id
  | bad => exact id

/-! two operands -/
theorem o2R_dat {o : O2} {d e : D} (hd : d.noBox = true) (hi : d.isIns = false) (he : e.noBox = true) (S : Store) : o2R T C o d e S = lift (p2 o d e) S := by
  unfold o2R
  rw [view_nb S hd]
  cases d <;> first | (cases hi; done) | (show lift (p2 o _ (view S e)) S = _; rw [view_nb S he])
theorem J_p2 [Dat α] [Enc β] [Enc γ] {o : O2} {x : α} {y : β} {z : γ} (h : p2 o (enc x) (enc y) = some (enc z)) : Jv dw bs (o2R T C o (enc x) (enc y)) (Sp.pure z) :=
  J.at (fun S => o2R_dat (Enc.nb x) (Dat.ni x) (Enc.nb y) S) (Jv.lift h)
theorem J_p2O [Dat α] [Enc β] [Enc γ] {o : O2} {x : α} {y : β} {z : Option γ} (h : p2 o (enc x) (enc y) = z.map enc) : Jv dw bs (o2R T C o (enc x) (enc y)) (Sp.lift z) :=
  J.at (fun S => o2R_dat (Enc.nb x) (Dat.ni x) (Enc.nb y) S) (Jv.liftO h)
theorem J_p2N [Dat α] [Enc β] [Enc γ] {o : O2} {x : α} {y : β} {c : Prop} {z : γ} (h : c → p2 o (enc x) (enc y) = some (enc z)) : Jv dw bs (o2R T C o (enc x) (enc y)) (Sp.need c (Sp.pure z)) :=
  J.need fun hc => J_p2 (h hc)
theorem J_o2 {t : Sp α} {P : D → Sb → α → Prop} {E I : Sb → Prop} {o : O2} {a b : IR} (h : J E P (bnd (ev T C de a) fun x => bnd (ev T C de b) fun y => o2R T C o x y) I t) : J E P (ev T C de (.o2 o a b)) I t := by rw [ev]; exact h
theorem J_neg {a : IR} {x : Int} (h : Jv dw bs (ev T C de a) (Sp.pure x)) : Jv dw bs (ev T C de (.neg a)) (Sp.pure (-x)) := by rw [ev]; exact bV h (Jv.ret (a := -x))
theorem J_negM {a : IR} {t : Sp Int} (h : Jv dw bs (ev T C de a) t) : Jv dw bs (ev T C de (.neg a)) (Sp.bind t fun x => Sp.pure (-x)) := by rw [ev]; exact bM h fun x => (Jv.ret (a := -x))
theorem J_inot {a : IR} {x : Bool} (h : Jv dw bs (ev T C de a) (Sp.pure x)) : Jv dw bs (ev T C de (.inot a)) (Sp.pure (!x)) := by rw [ev]; exact bV h (Jv.ret (a := !x))
theorem J_inotM {a : IR} {t : Sp Bool} (h : Jv dw bs (ev T C de a) t) : Jv dw bs (ev T C de (.inot a)) (Sp.bind t fun x => Sp.pure (!x)) := by rw [ev]; exact bM h fun x => (Jv.ret (a := !x))
theorem J_iand {a b : IR} {x : Bool} {t : Sp Bool} (h : Jv dw bs (ev T C de a) (Sp.pure x)) (g : Jv dw bs (ev T C de b) t) : Jv dw bs (ev T C de (.iand a b)) (if x = true then t else Sp.pure false) := by
  rw [ev]
  refine bV h ?_
  cases x
  · exact Jv.ret (a := false)
  · exact g
theorem J_iandV {a b : IR} {x y : Bool} (h : Jv dw bs (ev T C de a) (Sp.pure x)) (g : Jv dw bs (ev T C de b) (Sp.pure y)) : Jv dw bs (ev T C de (.iand a b)) (Sp.pure (x && y)) := by
  have := J_iand h g
  cases x <;> exact this
theorem J_iandM {a b : IR} {t : Sp Bool} {u : Sp Bool} (h : Jv dw bs (ev T C de a) t) (g : Jv dw bs (ev T C de b) u) : Jv dw bs (ev T C de (.iand a b)) (Sp.bind t fun x => if x = true then u else Sp.pure false) := by
  rw [ev]
  refine bM h fun x => ?_
  cases x
  · exact Jv.ret (a := false)
  · exact g
theorem J_ior {a b : IR} {x : Bool} {t : Sp Bool} (h : Jv dw bs (ev T C de a) (Sp.pure x)) (g : Jv dw bs (ev T C de b) t) : Jv dw bs (ev T C de (.ior a b)) (if x = true then Sp.pure true else t) := by
  rw [ev]
  refine bV h ?_
  cases x
  · exact g
  · exact Jv.ret (a := true)
theorem J_iorV {a b : IR} {x y : Bool} (h : Jv dw bs (ev T C de a) (Sp.pure x)) (g : Jv dw bs (ev T C de b) (Sp.pure y)) : Jv dw bs (ev T C de (.ior a b)) (Sp.pure (x || y)) := by
  have := J_ior h g
  cases x <;> exact this
theorem J_iorM {a b : IR} {t : Sp Bool} {u : Sp Bool} (h : Jv dw bs (ev T C de a) t) (g : Jv dw bs (ev T C de b) u) : Jv dw bs (ev T C de (.ior a b)) (Sp.bind t fun x => if x = true then Sp.pure true else u) := by
  rw [ev]
  refine bM h fun x => ?_
  cases x
  · exact g
  · exact Jv.ret (a := true)
theorem J_ife {t : Sp α} {P : D → Sb → α → Prop} {E I : Sb → Prop} {c a b : IR} (h : J E P (bnd (evt T C de c) fun k => if k = true then ev T C de a else ev T C de b) I t) : J E P (ev T C de (.ife c a b)) I t := by rw [ev]; exact h
theorem J.iteV [Enc α] {m m' : M D} {c : Bool} {x y : α} (h1 : Jv dw bs m (Sp.pure x)) (h2 : Jv dw bs m' (Sp.pure y)) : Jv dw bs (if c = true then m else m') (Sp.pure (if c = true then x else y)) := by
  cases c
  · exact h2
  · exact h1
/-- a < b < c, by values -/
theorem J_ch {o p : O2} {a b c : IR} [Enc α] [Enc β] [Enc γ] {x : α} {y : β} {z : γ} {u v : Bool} (h1 : Jv dw bs (ev T C de a) (Sp.pure x)) (h2 : Jv dw bs (ev T C de b) (Sp.pure y)) (h3 : Jv dw bs (ev T C de c) (Sp.pure z))
    (e1 : p2 o (enc x) (enc y) = some (.bl u)) (e2 : p2 p (enc y) (enc z) = some (.bl v)) : Jv dw bs (ev T C de (.ch o p a b c)) (Sp.pure (u && v)) := by
  rw [ev]
  refine bV h1 (bV h2 ?_)
  refine bV (x := u) (J.at (m' := lift (some (enc u))) (fun S => ?_) (Jv.lift rfl)) ?_
  · simp only [view_nb S (Enc.nb x), view_nb S (Enc.nb y)]
    rw [e1]
    rfl
  cases u
  · exact Jv.ret (a := false)
  · refine bV h3 (J.at (m' := lift (some (enc v))) (fun S => ?_) (Jv.lift rfl))
    simp only [view_nb S (Enc.nb y), view_nb S (Enc.nb z)]
    rw [e2]
    rfl

/-! lists of arguments, in the style of what comes behind -/
section
variable {δ : Type} {E I : Sb → Prop} {P : δ → Sb → γ → Prop} {t : Sp γ}
theorem aN {k : List D → M δ} (h : J E P (k []) I t) : J E P (bnd (evl T C de .nil) k) I t := by rw [evl]; exact h
theorem bnd_assoc {α β γ : Type} (m : M α) (f : α → M β) (g : β → M γ) : bnd (bnd m f) g = bnd m fun a => bnd (f a) g := by
  funext S
  show ((m S).bnd f).bnd g = (m S).bnd _
  cases m S <;> rfl
theorem evl_cons (a as : IR) (k : List D → M δ) : bnd (evl T C de (.cons a as)) k = bnd (ev T C de a) fun d => bnd (evl T C de as) fun ds => k (d :: ds) := by
  rw [evl, bnd_assoc]
  congr 1
  funext d
  rw [bnd_assoc]
  rfl
theorem aV [Enc α] {k : List D → M δ} {a as : IR} {x : α} (h : Jv dw bs (ev T C de a) (Sp.pure x)) (g : J E P (bnd (evl T C de as) fun ds => k (enc x :: ds)) (Inv dw bs) t) : J E P (bnd (evl T C de (.cons a as)) k) (Inv dw bs) t := by
  rw [evl_cons]
  exact bV h g
theorem aM [Enc α] {k : List D → M δ} {a as : IR} {t : Sp α} {u : α → Sp γ} (h : Jv dw bs (ev T C de a) t) (g : ∀ x, J (Inv dw bs) P (bnd (evl T C de as) fun ds => k (enc x :: ds)) (Inv dw bs) (u x)) : J (Inv dw bs) P (bnd (evl T C de (.cons a as)) k) (Inv dw bs) (Sp.bind t u) := by
  rw [evl_cons]
  exact bM h g
end
theorem J_tup' {E I : Sb → Prop} {P : D → Sb → γ → Prop} {t : Sp γ} {a : IR} (h : J E P (bnd (evl T C de a) fun ds => if sizeOk ds.length then ret (.tup ds) else fail) I t) : J E P (ev T C de (.tup a)) I t := by rw [ev]; exact h
theorem J_lst {E I : Sb → Prop} {P : D → Sb → γ → Prop} {t : Sp γ} {a : IR} (h : J E P (bnd (evl T C de a) fun ds => if sizeOk ds.length then ret (.lst ds) else fail) I t) : J E P (ev T C de (.lst a)) I t := by rw [ev]; exact h
theorem J_call {E I : Sb → Prop} {P : D → Sb → γ → Prop} {t : Sp γ} {f : Nat} {a : IR} (h : J E P (bnd (evl T C de a) fun ds => bnd (C f ds) fun r => ret r.1) I t) : J E P (ev T C de (.call f a)) I t := by rw [ev]; exact h
theorem J_bi {E I : Sb → Prop} {P : D → Sb → γ → Prop} {t : Sp γ} {b : BI} {a : IR} (h : J E P (bnd (evl T C de a) fun ds => fun S => lift (pBi b (ds.map (view S))) S) I t) : J E P (ev T C de (.bi b a)) I t := by rw [ev]; exact h
theorem mkT {m : Nat} {ds : List D} [Enc α] {x : α} (hm : ds.length = m) (hs : m < 1000) (e : D.tup ds = enc x) : Jv dw bs (if sizeOk ds.length then ret (.tup ds) else fail) (Sp.pure x) := by
  have : sizeOk ds.length = true := decide_eq_true (by rw [hm]; exact Nat.le_trans (Nat.le_of_lt hs) (by decide))
  rw [if_pos this, e]
  exact Jv.ret
theorem mkL {m : Nat} {ds : List D} [Enc α] {x : α} (hm : ds.length = m) (hs : m < 1000) (e : D.lst ds = enc x) : Jv dw bs (if sizeOk ds.length then ret (.lst ds) else fail) (Sp.pure x) := by
  have : sizeOk ds.length = true := decide_eq_true (by rw [hm]; exact Nat.le_trans (Nat.le_of_lt hs) (by decide))
  rw [if_pos this, e]
  exact Jv.ret
theorem doCall [Enc α] {f : Nat} {ds : List D} {t : Sp α} (h : Jr dw bs (C f ds) t) : Jv dw bs (bnd (C f ds) fun r => ret r.1) t :=
  J.thn h fun d S a h => ⟨_, rfl, h⟩
theorem bi1 [Enc α] [Enc β] {b : BI} {x : α} {z : β} (h : pBi b [enc x] = some (enc z)) : Jv dw bs (fun S => lift (pBi b ([enc x].map (view S))) S) (Sp.pure z) :=
  J.at (m' := lift (pBi b [enc x])) (fun S => by rw [List.map_cons, List.map_nil, view_nb S (Enc.nb x)]) (Jv.lift h)
theorem bi1O [Enc α] [Enc β] {b : BI} {x : α} {z : Option β} (h : pBi b [enc x] = z.map enc) : Jv dw bs (fun S => lift (pBi b ([enc x].map (view S))) S) (Sp.lift z) :=
  J.at (m' := lift (pBi b [enc x])) (fun S => by rw [List.map_cons, List.map_nil, view_nb S (Enc.nb x)]) (Jv.liftO h)
theorem bi1N [Enc α] [Enc β] {b : BI} {x : α} {z : β} {c : Prop} (h : c → pBi b [enc x] = some (enc z)) : Jv dw bs (fun S => lift (pBi b ([enc x].map (view S))) S) (Sp.need c (Sp.pure z)) :=
  J.need fun hc => bi1 (h hc)
theorem bi2 [Enc α] [Enc β] [Enc γ] {b : BI} {x : α} {y : β} {z : γ} (h : pBi b [enc x, enc y] = some (enc z)) : Jv dw bs (fun S => lift (pBi b ([enc x, enc y].map (view S))) S) (Sp.pure z) :=
  J.at (m' := lift (pBi b [enc x, enc y])) (fun S => by rw [List.map_cons, List.map_cons, List.map_nil, view_nb S (Enc.nb x), view_nb S (Enc.nb y)]) (Jv.lift h)
/-! x[i] -/
theorem J_idx {t : Sp α} {P : D → Sb → α → Prop} {E I : Sb → Prop} {a b : IR} (h : J E P (bnd (ev T C de a) fun x => bnd (ev T C de b) fun y => idxR T C x y) I t) : J E P (ev T C de (.idx a b)) I t := by rw [ev]; exact h
theorem idxR_dat {d e : D} (hd : d.noBox = true) (hi : d.isIns = false) (S : Store) : idxR T C d e S = lift (pIdx d e) S := by
  unfold idxR
  rw [view_nb S hd]
  cases d <;> first | (cases hi; done) | rfl
theorem J_pIdx [Dat α] [Enc β] [Enc γ] {x : α} {y : β} {z : γ} (h : pIdx (enc x) (enc y) = some (enc z)) : Jv dw bs (idxR T C (enc x) (enc y)) (Sp.pure z) :=
  J.at (fun S => idxR_dat (Enc.nb x) (Dat.ni x) S) (Jv.lift h)
theorem J_pIdxO [Dat α] [Enc β] [Enc γ] {x : α} {y : β} {z : Option γ} (h : pIdx (enc x) (enc y) = z.map enc) : Jv dw bs (idxR T C (enc x) (enc y)) (Sp.lift z) :=
  J.at (fun S => idxR_dat (Enc.nb x) (Dat.ni x) S) (Jv.liftO h)
/-! x[i:j] -/
theorem O_n : Jb dw bs (evo T C de .nil) (Sp.pure none) := by rw [evo]; exact Jb.ret
theorem O_v {a r : IR} {x : Int} (h : Jv dw bs (ev T C de a) (Sp.pure x)) : Jb dw bs (evo T C de (.cons a r)) (Sp.pure (some x)) := by rw [evo]; exact bV h (Jb.ret (a := some x))
theorem O_m {a r : IR} {t : Sp Int} (h : Jv dw bs (ev T C de a) t) : Jb dw bs (evo T C de (.cons a r)) (Sp.bind t fun x => Sp.pure (some x)) := by rw [evo]; exact bM h fun x => (Jb.ret (a := some x))
theorem J_sli {t : Sp α} {P : D → Sb → α → Prop} {E I : Sb → Prop} {a b c : IR} (h : J E P (bnd (ev T C de a) fun x => bnd (evo T C de b) fun l => bnd (evo T C de c) fun h => fun S => lift (pSli (view S x) l h) S) I t) : J E P (ev T C de (.sli a b c)) I t := by rw [ev]; exact h
theorem J_pSli [Enc α] [Enc β] {x : α} {z : β} {l h : Option Int} (e : pSli (enc x) l h = some (enc z)) : Jv dw bs (fun S => lift (pSli (view S (enc x)) l h) S) (Sp.pure z) :=
  J.at (m' := lift (pSli (enc x) l h)) (fun S => by rw [view_nb S (Enc.nb x)]) (Jv.lift e)
theorem J_rev [Enc α] {a : IR} {x : List α} (h : Jv dw bs (ev T C de a) (Sp.pure x)) : Jv dw bs (ev T C de (.rev a)) (Sp.pure x.reverse) := by
  rw [ev]
  refine bV h ?_
  show Jv dw bs (ret (.lst (x.map enc).reverse)) _
  rw [← List.map_reverse]
  exact Jv.ret (a := x.reverse)
theorem J_revM [Enc α] {a : IR} {t : Sp (List α)} (h : Jv dw bs (ev T C de a) t) : Jv dw bs (ev T C de (.rev a)) (Sp.bind t fun x => Sp.pure x.reverse) := by
  rw [ev]
  refine bM h fun x => ?_
  show Jv dw bs (ret (.lst (x.map enc).reverse)) _
  rw [← List.map_reverse]
  exact Jv.ret (a := x.reverse)
/-! tests -/
theorem T_kb {b : Bool} : Jb dw bs (evt T C de (.kb b)) (Sp.pure b) := by rw [evt]; exact Jb.ret
theorem T_tb {e : IR} {x : Bool} (h : Jv dw bs (ev T C de e) (Sp.pure x)) : Jb dw bs (evt T C de (.tb e)) (Sp.pure x) := by rw [evt]; exact bV h (Jb.ret (a := x))
theorem T_tbM {e : IR} {t : Sp Bool} (h : Jv dw bs (ev T C de e) t) : Jb dw bs (evt T C de (.tb e)) t := by
  rw [evt]
  exact J.thn h fun d S a h => by obtain ⟨h1, rfl⟩ := h; exact ⟨_, rfl, h1, rfl⟩
theorem T_tt [Enc α] {e : IR} {x : α} {b : Bool} (h : Jv dw bs (ev T C de e) (Sp.pure x)) (hb : (enc x : D).truth = some b) : Jb dw bs (evt T C de (.tt e)) (Sp.pure b) := by
  rw [evt]
  refine bV h (J.at (m' := ret b) (fun S => ?_) Jb.ret)
  simp only [view_nb S (Enc.nb x), hb]
  rfl
theorem T_ttM [Enc α] {e : IR} {t : Sp α} {f : α → Bool} (h : Jv dw bs (ev T C de e) t) (hb : ∀ x : α, (enc x : D).truth = some (f x)) : Jb dw bs (evt T C de (.tt e)) (Sp.bind t fun x => Sp.pure (f x)) := by
  rw [evt]
  refine bM h fun x => (J.at (m' := ret (f x)) (fun S => ?_) Jb.ret)
  simp only [view_nb S (Enc.nb x), hb]
  rfl
theorem T_not {e : IR} {x : Bool} (h : Jb dw bs (evt T C de e) (Sp.pure x)) : Jb dw bs (evt T C de (.tnot e)) (Sp.pure (!x)) := by rw [evt]; exact bbV h (Jb.ret (a := !x))
theorem T_notM {e : IR} {t : Sp Bool} (h : Jb dw bs (evt T C de e) t) : Jb dw bs (evt T C de (.tnot e)) (Sp.bind t fun x => Sp.pure (!x)) := by rw [evt]; exact bbM h fun x => (Jb.ret (a := !x))
theorem T_and {a b : IR} {t u : Sp Bool} (h : Jb dw bs (evt T C de a) t) (g : Jb dw bs (evt T C de b) u) : Jb dw bs (evt T C de (.tand a b)) (Sp.bind t fun x => if x = true then u else Sp.pure false) := by
  rw [evt]; exact bbM h fun x => J.ite g Jb.ret
theorem T_andV {a b : IR} {x : Bool} {u : Sp Bool} (h : Jb dw bs (evt T C de a) (Sp.pure x)) (g : Jb dw bs (evt T C de b) u) : Jb dw bs (evt T C de (.tand a b)) (if x = true then u else Sp.pure false) := by
  rw [evt]; exact bbV h (J.ite g Jb.ret)
theorem T_andVV {a b : IR} {x y : Bool} (h : Jb dw bs (evt T C de a) (Sp.pure x)) (g : Jb dw bs (evt T C de b) (Sp.pure y)) : Jb dw bs (evt T C de (.tand a b)) (Sp.pure (x && y)) := by
  have := T_andV h g
  cases x <;> exact this
theorem T_or {a b : IR} {t u : Sp Bool} (h : Jb dw bs (evt T C de a) t) (g : Jb dw bs (evt T C de b) u) : Jb dw bs (evt T C de (.tor a b)) (Sp.bind t fun x => if x = true then Sp.pure true else u) := by
  rw [evt]; exact bbM h fun x => J.ite Jb.ret g
theorem T_orV {a b : IR} {x : Bool} {u : Sp Bool} (h : Jb dw bs (evt T C de a) (Sp.pure x)) (g : Jb dw bs (evt T C de b) u) : Jb dw bs (evt T C de (.tor a b)) (if x = true then Sp.pure true else u) := by
  rw [evt]; exact bbV h (J.ite Jb.ret g)
theorem T_orVV {a b : IR} {x y : Bool} (h : Jb dw bs (evt T C de a) (Sp.pure x)) (g : Jb dw bs (evt T C de b) (Sp.pure y)) : Jb dw bs (evt T C de (.tor a b)) (Sp.pure (x || y)) := by
  have := T_orV h g
  cases x <;> exact this
/-- where the value that is asked for has been taken apart -/
theorem J.opt {δ : Type} {E I : Sb → Prop} {P : δ → Sb → γ → Prop} {m : M δ} {x : Option α} {t : Sp γ} {f : α → Sp γ} (h1 : x = none → J E P m I t) (h2 : ∀ a, x = some a → J E P m I (f a)) : J E P m I (Sp.opt x t f) := by
  cases x with
  | none => exact h1 rfl
  | some a => exact h2 a rfl
/-! what is walked -/
theorem I_l [Enc α] {e : IR} {x : List α} (h : Jv dw bs (ev T C de e) (Sp.pure x)) : Jl dw bs (evi T C de (.iv e)) (Sp.pure x) := by rw [evi]; exact bV h Jl.ret
theorem I_lM [Enc α] {e : IR} {t : Sp (List α)} (h : Jv dw bs (ev T C de e) t) : Jl dw bs (evi T C de (.iv e)) t := by
  rw [evi]
  exact J.thn h fun d S a h => by obtain ⟨h1, rfl⟩ := h; exact ⟨_, rfl, h1, rfl⟩
theorem I_t [Enc α] {e : IR} {x : Tup α} (h : Jv dw bs (ev T C de e) (Sp.pure x)) : Jl dw bs (evi T C de (.iv e)) (Sp.pure x.l) := by rw [evi]; exact bV h Jl.ret
theorem I_tM [Enc α] {e : IR} {t : Sp (Tup α)} (h : Jv dw bs (ev T C de e) t) : Jl dw bs (evi T C de (.iv e)) (Sp.bind t fun x => Sp.pure x.l) := by rw [evi]; exact bM h fun x => Jl.ret
theorem I_p [Enc α] {e : IR} {x : α × α} (h : Jv dw bs (ev T C de e) (Sp.pure x)) : Jl dw bs (evi T C de (.iv e)) (Sp.pure [x.1, x.2]) := by rw [evi]; exact bV h (Jl.ret (xs := [x.1, x.2]))
theorem I_ro [Enc α] {e : IR} {x : Ro α} (h : Jv dw bs (ev T C de e) (Sp.pure x)) : Jl dw bs (evi T C de (.iv e)) (Sp.pure x.l) := by rw [evi]; exact bV h Jl.ret
theorem I_d [DKey κ] [Enc α] {e : IR} {x : Dct κ α} (h : Jv dw bs (ev T C de e) (Sp.pure x)) : Jl dw bs (evi T C de (.iv e)) (Sp.pure (x.l.map (·.1))) := by
  rw [evi]
  refine bV h ?_
  have e : (x.l.map (·.1)).map enc = x.l.map fun p => (enc p.1 : D) := by rw [List.map_map]; rfl
  show Jl dw bs (match (if DKey.tt κ = true then D.dtt _ _ else D.dct _ _) with | .lst xs => _ | .tup xs => _ | .ro xs => _ | .dct ks _ => _ | .dtt ks _ => _ | .str s => _ | _ => _) _
  cases DKey.tt κ
  · show Jl dw bs (ret (x.l.map fun p => (enc p.1 : D))) _
    rw [← e]
    exact Jl.ret
  · show Jl dw bs (ret (x.l.map fun p => (enc p.1 : D))) _
    rw [← e]
    exact Jl.ret
/-- 0, 1, .. -/
def irange (n : Int) : List Int := (List.range n.toNat).map fun (i : Nat) => (i : Int)
def irange2 (m n : Int) : List Int := (List.range (n - m).toNat).map fun (i : Nat) => m + (i : Int)
theorem I_r1 {e : IR} {t : Sp Int} (h : Jv dw bs (ev T C de e) t) : Jl dw bs (evi T C de (.ir1 e)) (Sp.bind t fun n => Sp.need (n ≤ 16777216 ∧ -(2 ^ 62) ≤ n) (Sp.pure (irange n))) := by
  rw [evi]
  refine bM h fun n => J.need fun hn => ?_
  show Jl dw bs (if n ≤ 16777216 ∧ -(2 ^ 62) ≤ n then ret ((List.range n.toNat).map fun i => D.int (i : Nat)) else fail) _
  rw [if_pos hn]
  have : ((List.range n.toNat).map fun i => D.int (i : Nat)) = (irange n).map enc := by rw [irange, List.map_map]; rfl
  rw [this]
  exact Jl.ret
theorem I_r2 {e e' : IR} {t u : Sp Int} (h : Jv dw bs (ev T C de e) t) (g : Jv dw bs (ev T C de e') u) : Jl dw bs (evi T C de (.ir2 e e')) (Sp.bind t fun m => Sp.bind u fun n => Sp.need (n ≤ 8388608 ∧ -8388608 ≤ n ∧ m ≤ 8388608 ∧ -8388608 ≤ m) (Sp.pure (irange2 m n))) := by
  rw [evi]
  refine bM h fun m => bM g fun n => J.need fun hn => ?_
  show Jl dw bs (if n ≤ 8388608 ∧ -8388608 ≤ n ∧ m ≤ 8388608 ∧ -8388608 ≤ m then ret ((List.range (n - m).toNat).map fun i => D.int (m + (i : Nat))) else fail) _
  rw [if_pos hn]
  have : ((List.range (n - m).toNat).map fun i => D.int (m + (i : Nat))) = (irange2 m n).map enc := by rw [irange2, List.map_map]; rfl
  rw [this]
  exact Jl.ret
theorem zip_encZ [Enc α] [Enc β] (xs : List α) (ys : List β) : ((xs.map enc).zip (ys.map enc)).map (fun p => D.tup [p.1, p.2]) = (xs.zip ys).map enc := by
  rw [List.zip_map, List.map_map]
  rfl
theorem I_zip {t : Sp α} {P : List D → Sb → α → Prop} {E I : Sb → Prop} {a b : IR} (h : J E P (bnd (ev T C de a) fun x => bnd (ev T C de b) fun y => match x, y with
    | .lst xs, .lst ys => ret ((xs.zip ys).map fun p => .tup [p.1, p.2])
    | .tup xs, .tup ys => ret ((xs.zip ys).map fun p => .tup [p.1, p.2])
    | _, _ => fail) I t) : J E P (evi T C de (.zip a b)) I t := by rw [evi]; exact h
theorem zipLL [Enc α] [Enc β] {x : List α} {y : List β} : Jl dw bs (match (enc x : D), (enc y : D) with
    | .lst xs, .lst ys => ret ((xs.zip ys).map fun p => D.tup [p.1, p.2])
    | .tup xs, .tup ys => ret ((xs.zip ys).map fun p => D.tup [p.1, p.2])
    | _, _ => fail) (Sp.pure (x.zip y)) := by
  show Jl dw bs (ret (((x.map enc).zip (y.map enc)).map fun p => D.tup [p.1, p.2])) _
  rw [zip_encZ]
  exact Jl.ret
theorem zipTT [Enc α] [Enc β] {x : Tup α} {y : Tup β} : Jl dw bs (match (enc x : D), (enc y : D) with
    | .lst xs, .lst ys => ret ((xs.zip ys).map fun p => D.tup [p.1, p.2])
    | .tup xs, .tup ys => ret ((xs.zip ys).map fun p => D.tup [p.1, p.2])
    | _, _ => fail) (Sp.pure (x.l.zip y.l)) := by
  show Jl dw bs (ret (((x.l.map enc).zip (y.l.map enc)).map fun p => D.tup [p.1, p.2])) _
  rw [zip_encZ]
  exact Jl.ret
/-- enumerate -/
def enumL (xs : List α) : List (Int × α) := xs.zipIdx.map fun p => ((p.2 : Int), p.1)
theorem enum_enc [Enc α] (xs : List α) : ((xs.map enc).zipIdx.map fun p => D.tup [.int (p.2 : Nat), p.1]) = (enumL xs).map enc := by
  rw [enumL, List.map_map, List.zipIdx_map, List.map_map]
  rfl
theorem I_enumL [Enc α] {e : IR} {t : Sp (List α)} (h : Jv dw bs (ev T C de e) t) : Jl dw bs (evi T C de (.enum e)) (Sp.bind t fun x => Sp.pure (enumL x)) := by
  rw [evi]
  refine bM h fun x => ?_
  show Jl dw bs (ret ((x.map enc).zipIdx.map fun p => D.tup [.int (p.2 : Nat), p.1])) _
  rw [enum_enc]
  exact Jl.ret
theorem I_enumT [Enc α] {e : IR} {t : Sp (Tup α)} (h : Jv dw bs (ev T C de e) t) : Jl dw bs (evi T C de (.enum e)) (Sp.bind t fun x => Sp.pure (enumL x.l)) := by
  rw [evi]
  refine bM h fun x => ?_
  show Jl dw bs (ret ((x.l.map enc).zipIdx.map fun p => D.tup [.int (p.2 : Nat), p.1])) _
  rw [enum_enc]
  exact Jl.ret
/-! comprehensions -/
theorem comp_J [Enc α] [Enc β] {step : D → M (Option D)} {f : α → Sp (Option β)} (h : ∀ x, J (Inv dw bs) (fun d S (a : Option β) => Inv dw bs S ∧ d = a.map enc) (step (enc x)) (Inv dw bs) (f x)) :
    ∀ xs : List α, Jl dw bs (Y.comp (xs.map enc) step) (Sp.comp f xs)
  | [] => Jl.ret (xs := [])
  | x :: r => by
    show Jl dw bs (bnd (step (enc x)) fun o => bnd (Y.comp (r.map enc) step) fun ds => ret (match o with | some d => d :: ds | none => ds)) (Sp.bind (f x) fun o => Sp.bind (Sp.comp f r) fun ys => Sp.pure (match o with | some y => y :: ys | none => ys))
    refine J.bnd (h x) (fun _ h => h) fun d a => J.fact (fun e => ?_)
    subst e
    refine blM (comp_J h r) fun ys => ?_
    cases a with
    | none => exact Jl.ret
    | some a => exact Jl.ret (xs := a :: ys)
theorem comp_JV [Enc α] [Enc β] {step : D → M (Option D)} {f : α → Option β} (h : ∀ x, J (Inv dw bs) (fun d S (a : Option β) => Inv dw bs S ∧ d = a.map enc) (step (enc x)) (Inv dw bs) (Sp.pure (f x))) :
    ∀ xs : List α, Jl dw bs (Y.comp (xs.map enc) step) (Sp.pure (xs.filterMap f))
  | [] => Jl.ret (xs := [])
  | x :: r => by
    show Jl dw bs (bnd (step (enc x)) fun o => bnd (Y.comp (r.map enc) step) fun ds => ret (match o with | some d => d :: ds | none => ds)) _
    refine J.bndV (h x) fun d => J.fact (fun e => ?_)
    subst e
    refine blV (comp_JV h r) ?_
    rw [List.filterMap_cons]
    cases f x with
    | none => exact Jl.ret
    | some a => exact Jl.ret (xs := a :: r.filterMap f)
/-- a comprehension's step -/
abbrev stepZ (T : Tb) (C : Calls) (de : Env) (vs : List Nat) (g c e : IR) : D → M (Option D) := fun d => tryL (asg g d (wipeE de vs)) fun d1 => bnd (hush (evt T C d1 c)) fun k => if k = true then bnd (hush (ev T C d1 e)) fun v => ret (some v) else ret none
/-- a target's store, typed: what is known afterwards -/
def Tg (n : Nat) (ks : List (Nat × EV)) (g : IR) (α : Type) [Enc α] (f : α → List (Nat × EV)) : Prop := ∀ de, Has n ks de → ∀ x : α, ∃ d1, asg g (enc x) de = some d1 ∧ Has n (f x) d1
theorem tg_n [Enc α] {i : Nat} (hi : Nat.blt i n = true) : Tg n ks (.gn i) α fun x => setK i (.val (enc x)) ks := fun de h x => by
  have hi : i < n := Nat.le_of_ble_eq_true hi
  exact ⟨_, if_pos (by rw [h.len]; exact hi), h.set _ hi⟩
theorem tg_2 [Enc α] [Enc β] {i j : Nat} (hi : Nat.blt i n = true) (hj : Nat.blt j n = true) : Tg n ks (.gt (.cons (.gn i) (.cons (.gn j) .nil))) (α × β) fun x => setK j (.val (enc x.2)) (setK i (.val (enc x.1)) ks) := fun de h x => by
  have hi : i < n := Nat.le_of_ble_eq_true hi
  have hj : j < n := Nat.le_of_ble_eq_true hj
  refine ⟨_, ?_, (h.set _ hi).set _ hj⟩
  show asg.asgs (.cons (.gn i) (.cons (.gn j) .nil)) [enc x.1, enc x.2] de = _
  unfold asg.asgs
  rw [if_pos (by rw [h.len]; exact hi)]
  unfold asg.asgs
  rw [if_pos (by rw [List.length_set, h.len]; exact hj)]
  rfl
theorem tg_3 [Enc α] [Enc β] [Enc γ] {i j l : Nat} (hi : Nat.blt i n = true) (hj : Nat.blt j n = true) (hl : Nat.blt l n = true) : Tg n ks (.gt (.cons (.gn i) (.cons (.gn j) (.cons (.gn l) .nil)))) (P3 α β γ) fun x => setK l (.val (enc x.c)) (setK j (.val (enc x.b)) (setK i (.val (enc x.a)) ks)) := fun de h x => by
  have hi : i < n := Nat.le_of_ble_eq_true hi
  have hj : j < n := Nat.le_of_ble_eq_true hj
  have hl : l < n := Nat.le_of_ble_eq_true hl
  refine ⟨_, ?_, ((h.set _ hi).set _ hj).set _ hl⟩
  show asg.asgs (.cons (.gn i) (.cons (.gn j) (.cons (.gn l) .nil))) [enc x.a, enc x.b, enc x.c] de = _
  unfold asg.asgs
  rw [if_pos (by rw [h.len]; exact hi)]
  unfold asg.asgs
  rw [if_pos (by rw [List.length_set, h.len]; exact hj)]
  unfold asg.asgs
  rw [if_pos (by rw [List.length_set, List.length_set, h.len]; exact hl)]
  rfl
theorem tryL_J {δ ε : Type} {E I : Sb → Prop} {P : ε → Sb → γ → Prop} {t : Sp γ} {o : Option δ} {d : δ} {f : δ → M ε} (e : o = some d) (h : J E P (f d) I t) : J E P (tryL o f) I t := by subst e; exact h
theorem bhV [Enc α] {δ : Type} {E1 : Sb → Prop} {P : δ → Sb → γ → Prop} {m : M D} {f : D → M δ} {x : α} {t : Sp γ} (h : Jv dw bs m (Sp.pure x)) (k : J E1 P (f (enc x)) (Inv dw bs) t) : J E1 P (bnd (hush m) f) (Inv dw bs) t := bV (J.hushV h) k
theorem bhbV {ε δ : Type} {E1 : Sb → Prop} {P : δ → Sb → γ → Prop} {m : M ε} {f : ε → M δ} {x : ε} {t : Sp γ} (h : Jb dw bs m (Sp.pure x)) (k : J E1 P (f x) (Inv dw bs) t) : J E1 P (bnd (hush m) f) (Inv dw bs) t := bbV (J.hushV h) k
/-- without a test, by a value -/
theorem J_lc0 [Enc α] [Enc β] {vs : List Nat} {g it e : IR} {ti : Sp (List α)} {f : α → β} {kf : α → List (Nat × EV)} (H : Has n ks de) (hi : Jl dw bs (evi T C de it) ti) (hg : Tg n (wipeK vs ks) g α kf)
    (he : ∀ x d1, Has n (kf x) d1 → Jv dw bs (ev T C d1 e) (Sp.pure (f x))) : Jv dw bs (ev T C de (.lc vs g it (.kb true) e)) (Sp.bind ti fun xs => Sp.pure (xs.map f)) := by
  rw [ev]
  refine blM hi fun xs => ?_
  refine blV (x := xs.map f) ?_ Jv.ret
  have : xs.map f = xs.filterMap (fun x => some (f x)) := by rw [List.filterMap_eq_map']
  rw [this]
  refine comp_JV (fun x => ?_) xs
  obtain ⟨d1, h1, h2⟩ := hg _ (H.wipe vs) x
  refine tryL_J h1 (bhbV (x := true) T_kb ?_)
  rw [if_pos rfl]
  exact bhV (he x d1 h2) (J.ret fun S h => ⟨h, rfl⟩)
/-- with a test, by values -/
theorem J_lc1 [Enc α] [Enc β] {vs : List Nat} {g it c e : IR} {ti : Sp (List α)} {p : α → Bool} {f : α → β} {kf : α → List (Nat × EV)} (H : Has n ks de) (hi : Jl dw bs (evi T C de it) ti) (hg : Tg n (wipeK vs ks) g α kf)
    (hc : ∀ x d1, Has n (kf x) d1 → Jb dw bs (evt T C d1 c) (Sp.pure (p x)))
    (he : ∀ x d1, Has n (kf x) d1 → Jv dw bs (ev T C d1 e) (Sp.pure (f x))) : Jv dw bs (ev T C de (.lc vs g it c e)) (Sp.bind ti fun xs => Sp.pure ((xs.filter p).map f)) := by
  rw [ev]
  refine blM hi fun xs => ?_
  refine blV (x := (xs.filter p).map f) ?_ Jv.ret
  have : (xs.filter p).map f = xs.filterMap (fun x => if p x = true then some (f x) else none) := by
    induction xs with
    | nil => rfl
    | cons x xs ih =>
      rw [List.filter_cons, List.filterMap_cons]
      cases p x
      · exact ih
      · rw [if_pos rfl, if_pos rfl, List.map_cons, ih]
  rw [this]
  refine comp_JV (fun x => ?_) xs
  obtain ⟨d1, h1, h2⟩ := hg _ (H.wipe vs) x
  refine tryL_J h1 (bhbV (hc x d1 h2) ?_)
  cases p x
  · exact J.ret fun S h => ⟨h, rfl⟩
  · exact bhV (he x d1 h2) (J.ret fun S h => ⟨h, rfl⟩)
/-- in general -/
theorem J_lc [Enc α] [Enc β] {vs : List Nat} {g it c e : IR} {ti : Sp (List α)} {p : α → Sp Bool} {f : α → Sp β} {kf : α → List (Nat × EV)} (H : Has n ks de) (hi : Jl dw bs (evi T C de it) ti) (hg : Tg n (wipeK vs ks) g α kf)
    (hc : ∀ x d1, Has n (kf x) d1 → Jb dw bs (evt T C d1 c) (p x))
    (he : ∀ x d1, Has n (kf x) d1 → Jv dw bs (ev T C d1 e) (f x)) : Jv dw bs (ev T C de (.lc vs g it c e)) (Sp.bind ti fun xs => Sp.comp (fun x => Sp.bind (Sp.hush (p x)) fun k => if k = true then Sp.bind (Sp.hush (f x)) fun v => Sp.pure (some v) else Sp.pure none) xs) := by
  rw [ev]
  refine blM hi fun xs => ?_
  have key : Jl dw bs (Y.comp (xs.map enc) (stepZ T C de vs g c e)) (Sp.comp (fun x => Sp.bind (Sp.hush (p x)) fun k => if k = true then Sp.bind (Sp.hush (f x)) fun v => Sp.pure (some v) else Sp.pure none) xs) := by
    refine comp_J (fun x => ?_) xs
    obtain ⟨d1, h1, h2⟩ := hg _ (H.wipe vs) x
    refine tryL_J h1 (bbM (J.hush (hc x d1 h2)) fun k => ?_)
    cases k
    · exact J.ret fun S h => ⟨h, rfl⟩
    · exact bM (J.hush (he x d1 h2)) fun v => J.ret fun S h => ⟨h, rfl⟩
  exact J.thn (f := fun ds => ret (D.lst ds)) key fun d S a h => by obtain ⟨h1, rfl⟩ := h; exact ⟨_, rfl, h1, rfl⟩
end
end Y
/-! Z3: the rules of statements. -/
namespace Y
open PySem L2
open Enc (enc)

namespace Sp
variable {α κ : Type}
def app (xs : List α) (x : α) : Sp (List α) := need (xs.length < sizeLine) (pure (xs ++ [x]))
def ext (xs ys : List α) : Sp (List α) := need (xs.length + ys.length ≤ sizeLine) (pure (xs ++ ys))
end Sp
namespace Dct
variable {κ α : Type} [DecidableEq κ]
def get (d : Dct κ α) (k : κ) : Option α := (d.l.find? fun p => p.1 = k).map (·.2)
def has (d : Dct κ α) (k : κ) : Bool := d.l.any fun p => decide (p.1 = k)
def put (d : Dct κ α) (k : κ) (v : α) : Dct κ α := ⟨if d.has k = true then d.l.map fun p => if p.1 = k then (p.1, v) else p else d.l ++ [(k, v)]⟩
end Dct
def Sp.put {κ α : Type} [DecidableEq κ] (d : Dct κ α) (k : κ) (v : α) : Sp (Dct κ α) := need (d.l.length < sizeLine) (pure (d.put k v))

def Sp.flow {σ ρ ω : Type} (th : Sp (Fl σ ρ)) (tr : σ → Sp ω) (w : ρ → ω) : Sp ω := Sp.bind th fun o => match o with
  | .nx s => tr s
  | .bk s => tr s
  | .rt r => Sp.pure (w r)
section
variable {ρ σ : Type}
/-- a def's end -/
def KT [Enc ρ] (dw : Bool) (be : List (Nat × D)) : Out → Sb → ρ → Prop
  | .rtv d _, S, r => Inv dw be S ∧ d = enc r
  | _, _, _ => False
/-- a def's end, of one that returns None at its end -/
def KU (dw : Bool) (be : List (Nat × D)) : Out → Sb → Unit → Prop
  | .rtv d _, S, _ => Inv dw be S ∧ d = .non
  | .nx _, S, _ => Inv dw be S
  | _, _, _ => False
/-- a block that is left at its end -/
def KN (dw : Bool) (n : Nat) (sl : σ → List (Nat × EV)) (bx : σ → List (Nat × D)) : Out → Sb → σ → Prop
  | .nx de, S, s => Has n (sl s) de ∧ Inv dw (bx s) S
  | _, _, _ => False
/-- a loop's body, a loop -/
def KF [Enc ρ] (dw : Bool) (n : Nat) (be : List (Nat × D)) (sl : σ → List (Nat × EV)) (bx : σ → List (Nat × D)) : Out → Sb → Fl σ ρ → Prop
  | .nx de, S, .nx s => Has n (sl s) de ∧ Inv dw (bx s) S
  | .ct de, S, .nx s => Has n (sl s) de ∧ Inv dw (bx s) S
  | .bk de, S, .bk s => Has n (sl s) de ∧ Inv dw (bx s) S
  | .rtv d _, S, .rt r => Inv dw be S ∧ d = enc r
  | _, _, _ => False
/-- a loop as a whole -/
def KL [Enc ρ] (dw : Bool) (n : Nat) (be : List (Nat × D)) (sl : σ → List (Nat × EV)) (bx : σ → List (Nat × D)) : Out → Sb → Fl σ ρ → Prop
  | .nx de, S, .nx s => Has n (sl s) de ∧ Inv dw (bx s) S
  | .rtv d _, S, .rt r => Inv dw be S ∧ d = enc r
  | _, _, _ => False
end
def apnd : IR → IR → IR
  | .nil, b => b
  | .cons h t, b => .cons h (apnd t b)
  | a, _ => a
def isL : IR → Bool
  | .nil => true
  | .cons _ t => isL t
  | _ => false
section
variable {T : Tb} {C : Calls} {W n : Nat} {ks : List (Nat × EV)} {de : Env} {dw : Bool} {bs be : List (Nat × D)} {α β γ ε κ σ ρ ω : Type} {E : Sb → Prop} {K : Out → Sb → ω → Prop}
theorem sts_nil (de : Env) : sts T C W de .nil = ret (.nx de) := by rw [sts]
theorem sts_cons (de : Env) (h t : IR) : sts T C W de (.cons h t) = bnd (st T C W de h) fun o => match o with
    | .nx d1 => sts T C W d1 t
    | o => ret o := by
  first
    | (rw [sts]; done)
    | (rw [sts]; rfl)
theorem sts_app : ∀ (a b : IR) (de : Env), isL a = true → sts T C W de (apnd a b) = bnd (sts T C W de a) fun o => match o with
    | .nx d1 => sts T C W d1 b
    | o => ret o
  | .nil, b, de, _ => by
    rw [sts_nil]
    rfl
  | .cons h t, b, de, hl => by
    show sts T C W de (.cons h (apnd t b)) = _
    rw [sts_cons, sts_cons, bnd_assoc]
    congr 1
    funext o
    cases o with
    | nx d1 => exact sts_app t b d1 hl
    | _ => rfl
/-! one statement ahead of others -/
theorem S_set [Enc α] {g e rest : IR} {te : Sp α} {kf : α → List (Nat × EV)} {tr : α → Sp ω} (H : Has n ks de) (hE : ∀ S, Inv dw bs S → E S) (he : Jv dw bs (ev T C de e) te) (hg : Tg n ks g α kf)
    (k : ∀ v de', Has n (kf v) de' → J E K (sts T C W de' rest) (Inv dw bs) (tr v)) : J E K (sts T C W de (.cons (.set g e) rest)) (Inv dw bs) (Sp.bind te tr) := by
  rw [sts_cons, st, bnd_assoc]
  refine J.bnd he hE fun d a => J.fact (fun e => ?_)
  subst e
  obtain ⟨d1, h1, h2⟩ := hg _ H a
  simp only [h1, tryL]
  exact k a d1 h2
theorem S_seto [Enc α] {i : Nat} {e rest : IR} {te : Sp α} {tr : α → Sp ω} (H : Has n ks de) (hE : ∀ S, Inv dw bs S → E S) (he : Jv dw bs (ev T C de e) te) (hi : Nat.blt i n = true) (hf : ∀ a : α, isFresh (enc a) = true)
    (k : ∀ v de', Has n (setK i (.own (enc v)) ks) de' → J E K (sts T C W de' rest) (Inv dw bs) (tr v)) : J E K (sts T C W de (.cons (.seto i e) rest)) (Inv dw bs) (Sp.bind te tr) := by
  have hi : i < n := Nat.le_of_ble_eq_true hi
  rw [sts_cons, st, bnd_assoc]
  refine J.bnd he hE fun d a => J.fact (fun e => ?_)
  subst e
  have : (isFresh (enc a) && decide (i < de.length)) = true := by rw [hf, H.len, decide_eq_true hi]; rfl
  simp only [this, if_true]
  exact k a _ (H.set _ hi)
theorem S_xpr [Enc α] {e rest : IR} {te : Sp α} {tr : Sp ω} (hE : ∀ S, Inv dw bs S → E S) (he : Jv dw bs (ev T C de e) te)
    (k : J E K (sts T C W de rest) (Inv dw bs) tr) : J E K (sts T C W de (.cons (.xpr e) rest)) (Inv dw bs) (Sp.bind te fun _ => tr) := by
  rw [sts_cons, st, bnd_assoc]
  exact J.bnd he hE fun d a => J.fact (fun e => k)
theorem S_pas {rest : IR} {tr : Sp ω} (k : J E K (sts T C W de rest) (Inv dw bs) tr) : J E K (sts T C W de (.cons .pas rest)) (Inv dw bs) tr := by
  rw [sts_cons, st]
  exact k
theorem S_never {m : M Out} {I : Sb → Prop} : J E K m I Sp.fail := J.fail
/-- return -/
theorem S_rtT [Enc ρ] {e rest : IR} {te : Sp ρ} (hS : ∀ S, Inv dw bs S → Inv dw be S) (he : Jv dw bs (ev T C de e) te) : J (Inv dw be) (KT dw be) (sts T C W de (.cons (.rt e) rest)) (Inv dw bs) te := by
  rw [sts_cons, st, bnd_assoc]
  refine (J.thn (P := KT dw be) he fun d S a h => ?_).post hS fun _ _ _ => id
  obtain ⟨h1, rfl⟩ := h
  exact ⟨_, rfl, hS _ h1, rfl⟩
theorem S_rtF [Enc ρ] {sl : σ → List (Nat × EV)} {bx : σ → List (Nat × D)} {e rest : IR} {te : Sp ρ} (hS : ∀ S, Inv dw bs S → Inv dw be S) (he : Jv dw bs (ev T C de e) te) : J (Inv dw be) (KF dw n be sl bx) (sts T C W de (.cons (.rt e) rest)) (Inv dw bs) (Sp.bind te fun r => Sp.pure (.rt r)) := by
  rw [sts_cons, st, bnd_assoc]
  refine J.bnd he hS fun d a => J.fact (fun e => ?_)
  subst e
  exact J.ret fun S h => ⟨hS _ h, rfl⟩
theorem S_rtU [Enc ρ] {e rest : IR} {te : Sp Unit} (hS : ∀ S, Inv dw bs S → Inv dw be S) (he : Jv dw bs (ev T C de e) te) : J (Inv dw be) (KU dw be) (sts T C W de (.cons (.rt e) rest)) (Inv dw bs) te := by
  rw [sts_cons, st, bnd_assoc]
  refine (J.thn (P := KU dw be) he fun d S a h => ?_).post hS fun _ _ _ => id
  obtain ⟨h1, rfl⟩ := h
  exact ⟨_, rfl, hS _ h1, rfl⟩
theorem S_rtnT {rest : IR} {r : ρ} [Enc ρ] (hr : (enc r : D) = .non) (hS : ∀ S, Inv dw bs S → Inv dw be S) : J (Inv dw be) (KT dw be) (sts T C W de (.cons .rtn rest)) (Inv dw bs) (Sp.pure r) := by
  rw [sts_cons, st]
  exact J.ret fun S h => ⟨hS _ h, hr.symm⟩
theorem S_rtnU {rest : IR} (hS : ∀ S, Inv dw bs S → Inv dw be S) : J (Inv dw be) (KU dw be) (sts T C W de (.cons .rtn rest)) (Inv dw bs) (Sp.pure ()) := by
  rw [sts_cons, st]
  exact J.ret fun S h => ⟨hS _ h, rfl⟩
theorem S_endU (hS : ∀ S, Inv dw bs S → Inv dw be S) : J E (KU dw be) (sts T C W de .nil) (Inv dw bs) (Sp.pure ()) := by
  rw [sts_nil]
  exact J.ret fun S h => hS S h
theorem S_rtnF {rest : IR} {r : ρ} [Enc ρ] {sl : σ → List (Nat × EV)} {bx : σ → List (Nat × D)} (hr : (enc r : D) = .non) (hS : ∀ S, Inv dw bs S → Inv dw be S) : J (Inv dw be) (KF dw n be sl bx) (sts T C W de (.cons .rtn rest)) (Inv dw bs) (Sp.pure (.rt r)) := by
  rw [sts_cons, st]
  exact J.ret fun S h => ⟨hS _ h, hr.symm⟩
/-- a block's end -/
theorem S_endN {sl : σ → List (Nat × EV)} {bx : σ → List (Nat × D)} (s : σ) (H : Has n (sl s) de) (hb : ∀ S, Inv dw bs S → Inv dw (bx s) S) : J E (KN dw n sl bx) (sts T C W de .nil) (Inv dw bs) (Sp.pure s) := by
  rw [sts_nil]
  exact J.ret fun S h => ⟨H, hb S h⟩
theorem S_endF [Enc ρ] {sl : σ → List (Nat × EV)} {bx : σ → List (Nat × D)} (s : σ) (H : Has n (sl s) de) (hb : ∀ S, Inv dw bs S → Inv dw (bx s) S) : J E (KF (ρ := ρ) dw n be sl bx) (sts T C W de .nil) (Inv dw bs) (Sp.pure (.nx s)) := by
  rw [sts_nil]
  exact J.ret fun S h => ⟨H, hb S h⟩
theorem S_ctF [Enc ρ] {rest : IR} {sl : σ → List (Nat × EV)} {bx : σ → List (Nat × D)} (s : σ) (H : Has n (sl s) de) (hb : ∀ S, Inv dw bs S → Inv dw (bx s) S) : J E (KF (ρ := ρ) dw n be sl bx) (sts T C W de (.cons .cnt rest)) (Inv dw bs) (Sp.pure (.nx s)) := by
  rw [sts_cons, st]
  exact J.ret fun S h => ⟨H, hb S h⟩
theorem S_bkF [Enc ρ] {rest : IR} {sl : σ → List (Nat × EV)} {bx : σ → List (Nat × D)} (s : σ) (H : Has n (sl s) de) (hb : ∀ S, Inv dw bs S → Inv dw (bx s) S) : J E (KF (ρ := ρ) dw n be sl bx) (sts T C W de (.cons .brk rest)) (Inv dw bs) (Sp.pure (.bk s)) := by
  rw [sts_cons, st]
  exact J.ret fun S h => ⟨H, hb S h⟩
/-- if, with what comes behind in both ways -/
theorem S_if {c a b rest : IR} {tc : Sp Bool} {t u : Sp ω} (hE : ∀ S, Inv dw bs S → E S) (hc : Jb dw bs (evt T C de c) tc) (la : isL a = true) (lb : isL b = true) (ha : J E K (sts T C W de (apnd a rest)) (Inv dw bs) t) (hb : J E K (sts T C W de (apnd b rest)) (Inv dw bs) u) :
    J E K (sts T C W de (.cons (.cond c a b) rest)) (Inv dw bs) (Sp.bind tc fun k => if k = true then t else u) := by
  rw [sts_cons, st, bnd_assoc]
  refine J.bnd hc hE fun d k => J.fact (fun e => ?_)
  subst e
  rw [sts_app a rest de la] at ha
  rw [sts_app b rest de lb] at hb
  cases d
  · exact hb
  · exact ha
theorem S_ifV {c a b rest : IR} {k : Bool} {t u : Sp ω} (hc : Jb dw bs (evt T C de c) (Sp.pure k)) (la : isL a = true) (lb : isL b = true) (ha : J E K (sts T C W de (apnd a rest)) (Inv dw bs) t) (hb : J E K (sts T C W de (apnd b rest)) (Inv dw bs) u) :
    J E K (sts T C W de (.cons (.cond c a b) rest)) (Inv dw bs) (if k = true then t else u) := by
  rw [sts_cons, st, bnd_assoc]
  refine J.bndV hc fun d => J.fact (fun e => ?_)
  subst e
  rw [sts_app a rest de la] at ha
  rw [sts_app b rest de lb] at hb
  cases d
  · exact hb
  · exact ha
/-- a test whose answer is known here -/
theorem S_ifT {c a b rest : IR} {t : Sp ω} (hc : Jb dw bs (evt T C de c) (Sp.pure true)) (la : isL a = true) (ha : J E K (sts T C W de (apnd a rest)) (Inv dw bs) t) : J E K (sts T C W de (.cons (.cond c a b) rest)) (Inv dw bs) t := by
  rw [sts_cons, st, bnd_assoc]
  refine J.bndV hc fun d => J.fact (fun e => ?_)
  subst e
  rw [sts_app a rest de la] at ha
  exact ha
theorem S_ifF {c a b rest : IR} {t : Sp ω} (hc : Jb dw bs (evt T C de c) (Sp.pure false)) (lb : isL b = true) (hb : J E K (sts T C W de (apnd b rest)) (Inv dw bs) t) : J E K (sts T C W de (.cons (.cond c a b) rest)) (Inv dw bs) t := by
  rw [sts_cons, st, bnd_assoc]
  refine J.bndV hc fun d => J.fact (fun e => ?_)
  subst e
  rw [sts_app b rest de lb] at hb
  exact hb
/-- a statement as a block of its own, then the others -/
theorem S_seq {h rest : IR} {sl : σ → List (Nat × EV)} {bx : σ → List (Nat × D)} {th : Sp σ} {tr : σ → Sp ω} (hh : J E (KN dw n sl bx) (st T C W de h) (Inv dw bs) th)
    (k : ∀ s de', Has n (sl s) de' → J E K (sts T C W de' rest) (Inv dw (bx s)) (tr s)) : J E K (sts T C W de (.cons h rest)) (Inv dw bs) (Sp.bind th tr) := by
  rw [sts_cons]
  refine J.bnd hh (fun _ h => h) fun o s => ?_
  cases o with
  | nx d1 => exact fun S hS => k s d1 hS.1 S hS.2
  | rtv d f => exact fun S hS => hS.elim
  | bk d => exact fun S hS => hS.elim
  | ct d => exact fun S hS => hS.elim
/-- a loop that may return, then the others -/
theorem S_seqF [Enc ρ] {h rest : IR} {sl : σ → List (Nat × EV)} {bx : σ → List (Nat × D)} {th : Sp (Fl σ ρ)} {tr : σ → Sp ω} {w : ρ → ω} (hK : ∀ d f S r, Inv dw be S → d = enc r → K (.rtv d f) S (w r)) (hh : J E (KL dw n be sl bx) (st T C W de h) (Inv dw bs) th)
    (k : ∀ s de', Has n (sl s) de' → J E K (sts T C W de' rest) (Inv dw (bx s)) (tr s)) : J E K (sts T C W de (.cons h rest)) (Inv dw bs) (Sp.flow th tr w) := by
  rw [sts_cons]
  refine J.bnd hh (fun _ h => h) fun o s => ?_
  cases o with
  | nx d1 => cases s with
    | nx s => exact fun S hS => k s d1 hS.1 S hS.2
    | bk s => exact fun S hS => hS.elim
    | rt s => exact fun S hS => hS.elim
  | rtv d f => cases s with
    | nx s => exact fun S hS => hS.elim
    | bk s => exact fun S hS => hS.elim
    | rt r => exact J.ret fun S hS => hK d f S r hS.1 hS.2
  | bk d => cases s <;> exact fun S hS => hS.elim
  | ct d => cases s <;> exact fun S hS => hS.elim
theorem kT [Enc ρ] : ∀ d f S (r : ρ), Inv dw be S → d = enc r → KT dw be (.rtv d f) S r := fun _ _ _ _ h e => ⟨h, e⟩
theorem kF [Enc ρ] {sl : σ → List (Nat × EV)} {bx : σ → List (Nat × D)} : ∀ d f S (r : ρ), Inv dw be S → d = enc r → KF dw n be sl bx (.rtv d f) S (.rt r) := fun _ _ _ _ h e => ⟨h, e⟩
/-- if as a block -/
theorem S_ifB {c a b : IR} {sl : σ → List (Nat × EV)} {bx : σ → List (Nat × D)} {tc : Sp Bool} {t u : Sp σ} (hE : ∀ S, Inv dw bs S → E S) (hc : Jb dw bs (evt T C de c) tc) (ha : J E (KN dw n sl bx) (sts T C W de a) (Inv dw bs) t) (hb : J E (KN dw n sl bx) (sts T C W de b) (Inv dw bs) u) :
    J E (KN dw n sl bx) (st T C W de (.cond c a b)) (Inv dw bs) (Sp.bind tc fun k => if k = true then t else u) := by
  rw [st]
  refine J.bnd hc hE fun d k => J.fact (fun e => ?_)
  subst e
  cases d
  · exact hb
  · exact ha
theorem S_ifBV {c a b : IR} {sl : σ → List (Nat × EV)} {bx : σ → List (Nat × D)} {k : Bool} {t u : Sp σ} (hc : Jb dw bs (evt T C de c) (Sp.pure k)) (ha : J E (KN dw n sl bx) (sts T C W de a) (Inv dw bs) t) (hb : J E (KN dw n sl bx) (sts T C W de b) (Inv dw bs) u) :
    J E (KN dw n sl bx) (st T C W de (.cond c a b)) (Inv dw bs) (if k = true then t else u) := by
  rw [st]
  refine J.bndV hc fun d => J.fact (fun e => ?_)
  subst e
  cases d
  · exact hb
  · exact ha
/-! loops -/
theorem loop_N [Enc α] {g : IR} {body : Env → M Out} {kf : α → σ → List (Nat × EV)} {sl : σ → List (Nat × EV)} {bx : σ → List (Nat × D)} {f : α → σ → Sp σ} (hg : ∀ s, Tg n (sl s) g α fun x => kf x s)
    (hb : ∀ x s d1, Has n (kf x s) d1 → J E (KN dw n sl bx) (body d1) (Inv dw (bx s)) (f x s)) : ∀ (xs : List α) (s : σ) (de : Env), Has n (sl s) de → J E (KN dw n sl bx) (loop (xs.map enc) de g body) (Inv dw (bx s)) (Sp.fold f xs s)
  | [], s, de, H => J.ret fun S h => ⟨H, h⟩
  | x :: r, s, de, H => by
    obtain ⟨d1, h1, h2⟩ := hg s de H x
    show J E _ (tryL (asg g (enc x) de) fun d1 => bnd (body d1) fun o => match o with
      | .nx d2 => loop (r.map enc) d2 g body
      | .ct d2 => loop (r.map enc) d2 g body
      | .bk d2 => ret (.nx d2)
      | .rtv d f => ret (.rtv d f)) _ (Sp.bind (f x s) fun s' => Sp.fold f r s')
    refine tryL_J h1 (J.bnd (hb x s d1 h2) (fun _ h => h) fun o s' => ?_)
    cases o with
    | nx d2 => exact fun S hS => loop_N hg hb r s' d2 hS.1 S hS.2
    | rtv d f => exact fun S hS => hS.elim
    | bk d => exact fun S hS => hS.elim
    | ct d => exact fun S hS => hS.elim
theorem S_for [Enc α] {g it b : IR} {ti : Sp (List α)} {kf : α → σ → List (Nat × EV)} {sl : σ → List (Nat × EV)} {bx : σ → List (Nat × D)} {f : α → σ → Sp σ} {s : σ} (hE : ∀ S, Inv dw (bx s) S → E S) (H : Has n (sl s) de) (hi : Jl dw (bx s) (evi T C de it) ti) (hg : ∀ s, Tg n (sl s) g α fun x => kf x s)
    (hb : ∀ x s d1, Has n (kf x s) d1 → J E (KN dw n sl bx) (sts T C W d1 b) (Inv dw (bx s)) (f x s)) : J E (KN dw n sl bx) (st T C W de (.forl g it b)) (Inv dw (bx s)) (Sp.bind ti fun xs => Sp.fold f xs s) := by
  rw [st]
  refine J.bnd hi hE fun d xs => J.fact (fun e => ?_)
  subst e
  exact loop_N hg hb xs s de H
theorem loop_F [Enc α] [Enc ρ] {g : IR} {body : Env → M Out} {kf : α → σ → List (Nat × EV)} {sl : σ → List (Nat × EV)} {bx : σ → List (Nat × D)} {f : α → σ → Sp (Fl σ ρ)} (hg : ∀ s, Tg n (sl s) g α fun x => kf x s)
    (hb : ∀ x s d1, Has n (kf x s) d1 → J E (KF dw n be sl bx) (body d1) (Inv dw (bx s)) (f x s)) : ∀ (xs : List α) (s : σ) (de : Env), Has n (sl s) de → J E (KL dw n be sl bx) (loop (xs.map enc) de g body) (Inv dw (bx s)) (Sp.loop f xs s)
  | [], s, de, H => J.ret fun S h => ⟨H, h⟩
  | x :: r, s, de, H => by
    obtain ⟨d1, h1, h2⟩ := hg s de H x
    show J E _ (tryL (asg g (enc x) de) fun d1 => bnd (body d1) fun o => match o with
      | .nx d2 => loop (r.map enc) d2 g body
      | .ct d2 => loop (r.map enc) d2 g body
      | .bk d2 => ret (.nx d2)
      | .rtv d f => ret (.rtv d f)) _ (Sp.bind (f x s) fun o => match o with
      | .nx s' => Sp.loop f r s'
      | .bk s' => Sp.pure (.nx s')
      | .rt v => Sp.pure (.rt v))
    refine tryL_J h1 (J.bnd (hb x s d1 h2) (fun _ h => h) fun o s' => ?_)
    cases o with
    | nx d2 => cases s' with
      | nx s' => exact fun S hS => loop_F hg hb r s' d2 hS.1 S hS.2
      | bk s' => exact fun S hS => hS.elim
      | rt s' => exact fun S hS => hS.elim
    | ct d2 => cases s' with
      | nx s' => exact fun S hS => loop_F hg hb r s' d2 hS.1 S hS.2
      | bk s' => exact fun S hS => hS.elim
      | rt s' => exact fun S hS => hS.elim
    | bk d2 => cases s' with
      | bk s' => exact J.ret fun S hS => hS
      | nx s' => exact fun S hS => hS.elim
      | rt s' => exact fun S hS => hS.elim
    | rtv d f => cases s' with
      | rt s' => exact J.ret fun S hS => hS
      | nx s' => exact fun S hS => hS.elim
      | bk s' => exact fun S hS => hS.elim
theorem S_forF [Enc α] [Enc ρ] {g it b : IR} {ti : Sp (List α)} {kf : α → σ → List (Nat × EV)} {sl : σ → List (Nat × EV)} {bx : σ → List (Nat × D)} {f : α → σ → Sp (Fl σ ρ)} {s : σ} (hE : ∀ S, Inv dw (bx s) S → E S) (H : Has n (sl s) de) (hi : Jl dw (bx s) (evi T C de it) ti) (hg : ∀ s, Tg n (sl s) g α fun x => kf x s)
    (hb : ∀ x s d1, Has n (kf x s) d1 → J E (KF dw n be sl bx) (sts T C W d1 b) (Inv dw (bx s)) (f x s)) : J E (KL dw n be sl bx) (st T C W de (.forl g it b)) (Inv dw (bx s)) (Sp.bind ti fun xs => Sp.loop f xs s) := by
  rw [st]
  refine J.bnd hi hE fun d xs => J.fact (fun e => ?_)
  subst e
  exact loop_F hg hb xs s de H
theorem S_whlF [Enc ρ] {c b : IR} {sl : σ → List (Nat × EV)} {bx : σ → List (Nat × D)} {f : σ → Sp Bool} {g : σ → Sp (Fl σ ρ)} {s : σ} (hE : ∀ s S, Inv dw (bx s) S → E S) (H : Has n (sl s) de)
    (hc : ∀ s d1, Has n (sl s) d1 → Jb dw (bx s) (evt T C d1 c) (f s))
    (hb : ∀ s d1, Has n (sl s) d1 → J E (KF dw n be sl bx) (sts T C W d1 b) (Inv dw (bx s)) (g s)) : J E (KL dw n be sl bx) (st T C W de (.whl c b)) (Inv dw (bx s)) (Sp.whl f g W s) := by
  rw [st]
  have key : ∀ (w : Nat) (s : σ) (de : Env), Has n (sl s) de → J E (KL dw n be sl bx) (wloop w (fun d1 => evt T C d1 c) (fun d1 => sts T C W d1 b) de) (Inv dw (bx s)) (Sp.whl f g w s) := by
    intro w
    induction w with
    | zero => exact fun s de H => J.fail
    | succ w ih =>
      intro s de H
      show J E _ (bnd (evt T C de c) fun k => if k = true then bnd (sts T C W de b) fun o => match o with
          | .nx d2 => wloop w _ _ d2
          | .ct d2 => wloop w _ _ d2
          | .bk d2 => ret (.nx d2)
          | .rtv d f => ret (.rtv d f)
        else ret (.nx de)) _ (Sp.bind (f s) fun c => if c = true then Sp.bind (g s) fun o => match o with
          | .nx s' => Sp.whl f g w s'
          | .bk s' => Sp.pure (.nx s')
          | .rt v => Sp.pure (.rt v)
        else Sp.pure (.nx s))
      refine J.bnd (hc s de H) (hE s) fun d k => J.fact (fun e => ?_)
      subst e
      cases d with
      | false => exact J.ret fun S h => ⟨H, h⟩
      | true =>
        refine J.bnd (hb s de H) (fun _ h => h) fun o s' => ?_
        cases o with
        | nx d2 => cases s' with
          | nx s' => exact fun S hS => ih s' d2 hS.1 S hS.2
          | bk s' => exact fun S hS => hS.elim
          | rt s' => exact fun S hS => hS.elim
        | ct d2 => cases s' with
          | nx s' => exact fun S hS => ih s' d2 hS.1 S hS.2
          | bk s' => exact fun S hS => hS.elim
          | rt s' => exact fun S hS => hS.elim
        | bk d2 => cases s' with
          | bk s' => exact J.ret fun S hS => hS
          | nx s' => exact fun S hS => hS.elim
          | rt s' => exact fun S hS => hS.elim
        | rtv d f => cases s' with
          | rt s' => exact J.ret fun S hS => hS
          | nx s' => exact fun S hS => hS.elim
          | bk s' => exact fun S hS => hS.elim
  exact key W s de H
/-! containers of one's own -/
theorem S_free [Enc α] {i : Nat} {rest : IR} {x : α} {tr : Sp ω} (H : Has n ks de) (e : lookK i ks = some (.own (enc x))) (f : isFresh (enc x) = true) (hi : Nat.blt i n = true)
    (k : ∀ de', Has n (setK i (.val (enc x)) ks) de' → J E K (sts T C W de' rest) (Inv dw bs) tr) : J E K (sts T C W de (.cons (.free i) rest)) (Inv dw bs) tr := by
  have hi : i < n := Nat.le_of_ble_eq_true hi
  have e1 := H.at_ i _ e
  rw [sts_cons, st, e1]
  show J E K (bnd (if isFresh (enc x) = true then ret (Out.nx (de.set i (some (.val (enc x))))) else fail) _) _ _
  rw [if_pos f]
  exact k _ (H.set _ hi)
theorem S_app [Enc α] {i : Nat} {a rest : IR} {xs : List α} {te : Sp α} {tr : List α → Sp ω} (H : Has n ks de) (hE : ∀ S, Inv dw bs S → E S) (e : lookK i ks = some (.own (enc xs))) (hi : Nat.blt i n = true) (he : Jv dw bs (ev T C de a) te)
    (k : ∀ ys de', Has n (setK i (.own (enc ys)) ks) de' → J E K (sts T C W de' rest) (Inv dw bs) (tr ys)) : J E K (sts T C W de (.cons (.app i a) rest)) (Inv dw bs) (Sp.bind te fun v => Sp.bind (Sp.app xs v) tr) := by
  have hi : i < n := Nat.le_of_ble_eq_true hi
  have e1 : de[i]? = some (some (.own (.lst (xs.map enc)))) := H.at_ i _ e
  rw [sts_cons, st, e1]
  show J E K (bnd (bnd (ev T C de a) fun d => if decide ((xs.map (enc (α := α))).length < sizeLine) then ret (Out.nx (de.set i (some (.own (.lst (xs.map enc ++ [d])))))) else fail) _) _ _
  rw [bnd_assoc]
  refine J.bnd he hE fun d v => J.fact (fun e => ?_)
  subst e
  refine J.need (c := xs.length < sizeLine) (t := tr (xs ++ [v])) fun hc => ?_
  have : decide ((xs.map (enc (α := α))).length < sizeLine) = true := decide_eq_true (by rw [List.length_map]; exact hc)
  simp only [this, if_true]
  refine k _ _ ?_
  have e2 : (enc (xs ++ [v]) : D) = .lst (xs.map enc ++ [enc v]) := by
    show D.lst ((xs ++ [v]).map enc) = _
    rw [List.map_append]
    rfl
  rw [← e2]
  exact H.set _ hi
theorem S_xtnd [Enc α] {i : Nat} {a rest : IR} {xs : List α} {te : Sp (List α)} {tr : List α → Sp ω} (H : Has n ks de) (hE : ∀ S, Inv dw bs S → E S) (e : lookK i ks = some (.own (enc xs))) (hi : Nat.blt i n = true) (he : Jv dw bs (ev T C de a) te)
    (k : ∀ ys de', Has n (setK i (.own (enc ys)) ks) de' → J E K (sts T C W de' rest) (Inv dw bs) (tr ys)) : J E K (sts T C W de (.cons (.xtnd i a) rest)) (Inv dw bs) (Sp.bind te fun v => Sp.bind (Sp.ext xs v) tr) := by
  have hi : i < n := Nat.le_of_ble_eq_true hi
  have e1 : de[i]? = some (some (.own (.lst (xs.map enc)))) := H.at_ i _ e
  rw [sts_cons, st, e1]
  show J E K (bnd (bnd (ev T C de a) fun d => match d with
      | .lst ys => if decide ((xs.map (enc (α := α))).length + ys.length ≤ sizeLine) then ret (Out.nx (de.set i (some (.own (.lst (xs.map enc ++ ys)))))) else fail
      | _ => fail) _) _ _
  rw [bnd_assoc]
  refine J.bnd he hE fun d v => J.fact (fun e => ?_)
  subst e
  refine J.need (c := xs.length + v.length ≤ sizeLine) (t := tr (xs ++ v)) fun hc => ?_
  have : decide ((xs.map (enc (α := α))).length + (v.map (enc (α := α))).length ≤ sizeLine) = true := decide_eq_true (by rw [List.length_map, List.length_map]; exact hc)
  show J E K (bnd (if decide ((xs.map (enc (α := α))).length + (v.map (enc (α := α))).length ≤ sizeLine) = true then ret (Out.nx (de.set i (some (.own (.lst (xs.map enc ++ v.map enc)))))) else fail) _) _ _
  rw [if_pos this]
  refine k _ _ ?_
  have e2 : (enc (xs ++ v) : D) = .lst (xs.map enc ++ v.map enc) := by
    show D.lst ((xs ++ v).map enc) = _
    rw [List.map_append]
  rw [← e2]
  exact H.set _ hi
/-! x += y, x -= y -/
theorem S_auga {i : Nat} {a rest : IR} {x : Int} {te : Sp Int} {tr : Int → Sp ω} (H : Has n ks de) (hE : ∀ S, Inv dw bs S → E S) (e : lookK i ks = some (.val (enc x))) (hi : Nat.blt i n = true) (he : Jv dw bs (ev T C de a) te)
    (k : ∀ (y : Int) de', Has n (setK i (.val (enc y)) ks) de' → J E K (sts T C W de' rest) (Inv dw bs) (tr y)) : J E K (sts T C W de (.cons (.auga i a) rest)) (Inv dw bs) (Sp.bind te fun v => tr (x + v)) := by
  have hi : i < n := Nat.le_of_ble_eq_true hi
  have e1 : de[i]? = some (some (.val (.int x))) := H.at_ i _ e
  rw [sts_cons, st, e1]
  refine (show J E K (bnd (bnd (ev T C de a) fun d => match d with | .int y => ret (Out.nx (de.set i (some (.val (.int (x + y)))))) | _ => fail) _) _ _ from ?_)
  rw [bnd_assoc]
  refine J.bnd he hE fun d v => J.fact (fun e => ?_)
  subst e
  exact k _ _ (H.set _ hi)
theorem S_augs {i : Nat} {a rest : IR} {x : Int} {te : Sp Int} {tr : Int → Sp ω} (H : Has n ks de) (hE : ∀ S, Inv dw bs S → E S) (e : lookK i ks = some (.val (enc x))) (hi : Nat.blt i n = true) (he : Jv dw bs (ev T C de a) te)
    (k : ∀ (y : Int) de', Has n (setK i (.val (enc y)) ks) de' → J E K (sts T C W de' rest) (Inv dw bs) (tr y)) : J E K (sts T C W de (.cons (.augs i a) rest)) (Inv dw bs) (Sp.bind te fun v => tr (x - v)) := by
  have hi : i < n := Nat.le_of_ble_eq_true hi
  have e1 : de[i]? = some (some (.val (.int x))) := H.at_ i _ e
  rw [sts_cons, st, e1]
  refine (show J E K (bnd (bnd (ev T C de a) fun d => match d with | .int y => ret (Out.nx (de.set i (some (.val (.int (x - y)))))) | _ => fail) _) _ _ from ?_)
  rw [bnd_assoc]
  refine J.bnd he hE fun d v => J.fact (fun e => ?_)
  subst e
  exact k _ _ (H.set _ hi)
/-! a, b = x, y -/
theorem S_par2 [Enc α] [Enc β] {i j : Nat} {fi fj : Bool} {a b rest : IR} {ta : Sp α} {tb : Sp β} {tr : α → β → Sp ω} (H : Has n ks de) (hE : ∀ S, Inv dw bs S → E S) (ha : Jv dw bs (ev T C de a) ta) (hb : Jv dw bs (ev T C de b) tb)
    (hi : Nat.blt i n = true) (hj : Nat.blt j n = true) (ei : ∀ x : α, (!fi || isFresh (enc x)) = true) (ej : ∀ x : β, (!fj || isFresh (enc x)) = true)
    (k : ∀ x y de', Has n (setK j (slotV fj (enc y)) (setK i (slotV fi (enc x)) ks)) de' → J E K (sts T C W de' rest) (Inv dw bs) (tr x y)) : J E K (sts T C W de (.cons (.par [(i, fi), (j, fj)] (.cons a (.cons b .nil))) rest)) (Inv dw bs) (Sp.bind ta fun x => Sp.bind tb fun y => tr x y) := by
  have hi : i < n := Nat.le_of_ble_eq_true hi
  have hj : j < n := Nat.le_of_ble_eq_true hj
  rw [sts_cons, st, bnd_assoc, evl_cons]
  refine J.bnd ha hE fun d x => J.fact (fun e => ?_)
  subst e
  rw [evl_cons]
  refine J.bnd hb hE fun d y => J.fact (fun e => ?_)
  subst e
  rw [evl]
  refine (show J E K (bnd (tryL (pset [(i, fi), (j, fj)] [enc x, enc y] de) fun d1 => ret (Out.nx d1)) _) _ _ from ?_)
  have e1 : pset [(i, fi), (j, fj)] [enc x, enc y] de = some ((de.set i (some (slotV fi (enc x)))).set j (some (slotV fj (enc y)))) := by
    unfold pset
    rw [ei, H.len, decide_eq_true hi]
    unfold pset
    rw [ej, List.length_set, H.len, decide_eq_true hj]
    rfl
  rw [e1]
  exact k x y _ ((H.set _ hi).set _ hj)
theorem S_par3 [Enc α] [Enc β] [Enc γ] {i j l : Nat} {fi fj fl : Bool} {a b c rest : IR} {ta : Sp α} {tb : Sp β} {tc : Sp γ} {tr : α → β → γ → Sp ω} (H : Has n ks de) (hE : ∀ S, Inv dw bs S → E S) (ha : Jv dw bs (ev T C de a) ta) (hb : Jv dw bs (ev T C de b) tb) (hc : Jv dw bs (ev T C de c) tc)
    (hi : Nat.blt i n = true) (hj : Nat.blt j n = true) (hl : Nat.blt l n = true) (ei : ∀ x : α, (!fi || isFresh (enc x)) = true) (ej : ∀ x : β, (!fj || isFresh (enc x)) = true) (el : ∀ x : γ, (!fl || isFresh (enc x)) = true)
    (k : ∀ x y z de', Has n (setK l (slotV fl (enc z)) (setK j (slotV fj (enc y)) (setK i (slotV fi (enc x)) ks))) de' → J E K (sts T C W de' rest) (Inv dw bs) (tr x y z)) : J E K (sts T C W de (.cons (.par [(i, fi), (j, fj), (l, fl)] (.cons a (.cons b (.cons c .nil)))) rest)) (Inv dw bs) (Sp.bind ta fun x => Sp.bind tb fun y => Sp.bind tc fun z => tr x y z) := by
  have hi : i < n := Nat.le_of_ble_eq_true hi
  have hj : j < n := Nat.le_of_ble_eq_true hj
  have hl : l < n := Nat.le_of_ble_eq_true hl
  rw [sts_cons, st, bnd_assoc, evl_cons]
  refine J.bnd ha hE fun d x => J.fact (fun e => ?_)
  subst e
  rw [evl_cons]
  refine J.bnd hb hE fun d y => J.fact (fun e => ?_)
  subst e
  rw [evl_cons]
  refine J.bnd hc hE fun d z => J.fact (fun e => ?_)
  subst e
  rw [evl]
  refine (show J E K (bnd (tryL (pset [(i, fi), (j, fj), (l, fl)] [enc x, enc y, enc z] de) fun d1 => ret (Out.nx d1)) _) _ _ from ?_)
  have e1 : pset [(i, fi), (j, fj), (l, fl)] [enc x, enc y, enc z] de = some (((de.set i (some (slotV fi (enc x)))).set j (some (slotV fj (enc y)))).set l (some (slotV fl (enc z)))) := by
    unfold pset
    rw [ei, H.len, decide_eq_true hi]
    unfold pset
    rw [ej, List.length_set, H.len, decide_eq_true hj]
    unfold pset
    rw [el, List.length_set, List.length_set, H.len, decide_eq_true hl]
    rfl
  rw [e1]
  exact k x y z _ (((H.set _ hi).set _ hj).set _ hl)
end

/-! ### defs -/
section
variable {T : Tb} {W k : Nat} {dw : Bool} {bs : List (Nat × D)} {ρ : Type}
/-- a def's slots at its beginning -/
def initE (fe : Fe) (as : List D) : Env := as.map (fun d => some (.val d)) ++ List.replicate (fe.slots - as.length) none
def parK : Nat → List D → List (Nat × EV)
  | _, [] => []
  | i, d :: ds => (i, .val d) :: parK (i + 1) ds
theorem parK_at : ∀ (ds : List D) (m i : Nat) (e : EV), lookK i (parK m ds) = some e → m ≤ i ∧ ∃ d, ds[i - m]? = some d ∧ e = .val d
  | [], m, i, e, h => by cases h
  | d :: ds, m, i, e, h => by
    rw [parK, lookK] at h
    cases c : Nat.beq i m with
    | true =>
      rw [c] at h
      cases h
      cases beq_t c
      exact ⟨Nat.le_refl _, d, by rw [Nat.sub_self]; rfl, rfl⟩
    | false =>
      rw [c] at h
      obtain ⟨h1, d', h2, h3⟩ := parK_at ds (m + 1) i e h
      refine ⟨by omega, d', ?_, h3⟩
      rw [show i - m = (i - (m + 1)) + 1 from by omega]
      exact h2
theorem init_has {fe : Fe} {as : List D} (h : as.length ≤ fe.slots) : Has fe.slots (parK 0 as) (initE fe as) := by
  refine ⟨by rw [initE, List.length_append, List.length_map, List.length_replicate]; omega, fun i e hi => ?_⟩
  obtain ⟨_, d, h2, rfl⟩ := parK_at as 0 i e hi
  rw [Nat.sub_zero] at h2
  have hl : i < as.length := by
    rcases Nat.lt_or_ge i as.length with h | h
    · exact h
    · rw [List.getElem?_eq_none h] at h2; cases h2
  rw [initE, List.getElem?_append_left (by rw [List.length_map]; exact hl), List.getElem?_map, h2]
  rfl
theorem F_T [Enc ρ] {i : Nat} {fe : Fe} {as : List D} {t : Sp ρ} (hT : T.fns[i]? = some fe) (hn : fe.ini = none) (hl : as.length = fe.arity) (hs : Nat.ble as.length fe.slots = true)
    (h : ∀ de, Has fe.slots (parK 0 as) de → J (Inv dw bs) (KT dw bs) (sts T (callF T W k) W de fe.body) (Inv dw bs) t) : Jr dw bs (callF T W (k + 1) i as) t := by
  have e : callF T W (k + 1) i as = bnd (sts T (callF T W k) W (initE fe as) fe.body) fun o => match o with
      | .nx _ => ret (.non, false)
      | .rtv d f => ret (d, f)
      | _ => fail := by
    show (match T.fns[i]? with | some fe => runF T W (callF T W k) fe as | none => fail) = _
    rw [hT]
    show runF T W (callF T W k) fe as = _
    unfold runF
    rw [hn]
    show run1 T W (callF T W k) fe as = _
    unfold run1
    rw [if_pos hl]
    rfl
  rw [e]
  refine J.thn (h _ (init_has (Nat.le_of_ble_eq_true hs))) fun o S a hK => ?_
  cases o with
  | rtv d f => exact ⟨_, rfl, hK.1, hK.2⟩
  | nx d => exact hK.elim
  | bk d => exact hK.elim
  | ct d => exact hK.elim
theorem F_U {i : Nat} {fe : Fe} {as : List D} {t : Sp Unit} (hT : T.fns[i]? = some fe) (hn : fe.ini = none) (hl : as.length = fe.arity) (hs : Nat.ble as.length fe.slots = true)
    (h : ∀ de, Has fe.slots (parK 0 as) de → J (Inv dw bs) (KU dw bs) (sts T (callF T W k) W de fe.body) (Inv dw bs) t) : Jr dw bs (callF T W (k + 1) i as) t := by
  have e : callF T W (k + 1) i as = bnd (sts T (callF T W k) W (initE fe as) fe.body) fun o => match o with
      | .nx _ => ret (.non, false)
      | .rtv d f => ret (d, f)
      | _ => fail := by
    show (match T.fns[i]? with | some fe => runF T W (callF T W k) fe as | none => fail) = _
    rw [hT]
    show runF T W (callF T W k) fe as = _
    unfold runF
    rw [hn]
    show run1 T W (callF T W k) fe as = _
    unfold run1
    rw [if_pos hl]
    rfl
  rw [e]
  refine J.thn (h _ (init_has (Nat.le_of_ble_eq_true hs))) fun o S a hK => ?_
  cases o with
  | rtv d f => exact ⟨_, rfl, hK.1, hK.2⟩
  | nx d => exact ⟨_, rfl, hK, rfl⟩
  | bk d => exact hK.elim
  | ct d => exact hK.elim
end
end Y
/-! Z4: equality of data without bools; typed operations. -/
namespace Y
open PySem L2
open Enc (enc)
def sane : Nat → D → Bool
  | _, .non => true
  | _, .int _ => true
  | _, .str s => PyData.strOk s
  | n + 1, .tup xs => xs.all (sane n)
  | n + 1, .lst xs => xs.all (sane n)
  | _, _ => false
theorem sane_ok : ∀ {n : Nat} {d : D}, sane n d = true → d.pure = true ∧ d.py.canLay0 = true ∧ d.py.depth ≤ n
  | n, .non, _ => by cases n <;> exact ⟨rfl, rfl, Nat.zero_le _⟩
  | n, .int i, _ => by cases n <;> exact ⟨rfl, rfl, Nat.zero_le _⟩
  | n, .str s, h => by
    cases n <;> exact ⟨rfl, h, Nat.zero_le _⟩
  | n + 1, .tup xs, h => by
    have h : xs.all (sane n) = true := h
    have : ∀ xs : List D, xs.all (sane n) = true → D.pures xs = true ∧ PyData.canLayAll0 (D.pys xs) = true ∧ PyData.depthAll (D.pys xs) ≤ n := fun xs => by
      induction xs with
      | nil => exact fun _ => ⟨rfl, rfl, Nat.zero_le _⟩
      | cons x xs ih =>
        intro h
        rw [List.all_cons, Bool.and_eq_true] at h
        obtain ⟨h1, h2, h3⟩ := sane_ok h.1
        obtain ⟨i1, i2, i3⟩ := ih h.2
        refine ⟨?_, ?_, ?_⟩
        · show (x.pure && D.pures xs) = true
          rw [h1, i1]
          rfl
        · show (x.py.canLay0 && PyData.canLayAll0 (D.pys xs)) = true
          rw [h2, i2]
          rfl
        · show max x.py.depth (PyData.depthAll (D.pys xs)) ≤ n
          omega
    obtain ⟨i1, i2, i3⟩ := this xs h
    exact ⟨i1, i2, Nat.succ_le_succ i3⟩
  | n + 1, .lst xs, h => by
    have h : xs.all (sane n) = true := h
    have : ∀ xs : List D, xs.all (sane n) = true → D.pures xs = true ∧ PyData.canLayAll0 (D.pys xs) = true ∧ PyData.depthAll (D.pys xs) ≤ n := fun xs => by
      induction xs with
      | nil => exact fun _ => ⟨rfl, rfl, Nat.zero_le _⟩
      | cons x xs ih =>
        intro h
        rw [List.all_cons, Bool.and_eq_true] at h
        obtain ⟨h1, h2, h3⟩ := sane_ok h.1
        obtain ⟨i1, i2, i3⟩ := ih h.2
        refine ⟨?_, ?_, ?_⟩
        · show (x.pure && D.pures xs) = true
          rw [h1, i1]
          rfl
        · show (x.py.canLay0 && PyData.canLayAll0 (D.pys xs)) = true
          rw [h2, i2]
          rfl
        · show max x.py.depth (PyData.depthAll (D.pys xs)) ≤ n
          omega
    obtain ⟨i1, i2, i3⟩ := this xs h
    exact ⟨i1, i2, Nat.succ_le_succ i3⟩
  | 0, .tup _, h => by cases h
  | 0, .lst _, h => by cases h
  | 0, .bl _, h => by cases h
  | 0, .ro _, h => by cases h
  | 0, .dct _ _, h => by cases h
  | 0, .set _, h => by cases h
  | 0, .dtt _ _, h => by cases h
  | 0, .ins _ _ _, h => by cases h
  | 0, .box _, h => by cases h
  | 0, .cls _, h => by cases h
  | 0, .ty _, h => by cases h
  | n + 1, .bl _, h => by cases h
  | n + 1, .ro _, h => by cases h
  | n + 1, .dct _ _, h => by cases h
  | n + 1, .set _, h => by cases h
  | n + 1, .dtt _ _, h => by cases h
  | n + 1, .ins _ _ _, h => by cases h
  | n + 1, .box _, h => by cases h
  | n + 1, .cls _, h => by cases h
  | n + 1, .ty _, h => by cases h
theorem sane_shaped {d : D} {n : Nat} (h : sane n d = true) (hn : n ≤ 64) : d.shaped = true := by
  obtain ⟨h1, h2, h3⟩ := sane_ok h
  show (d.pure && (d.py.canLay0 && decide (d.py.depth ≤ 64))) = true
  rw [h1, h2, decide_eq_true (Nat.le_trans h3 hn)]
  rfl
theorem sane_eqv : ∀ {n : Nat} {a b : D} {m : Nat}, sane n a = true → sane m b = true → (PyData.eqv a.py b.py = true ↔ a = b) := by
  intro n
  induction n with
  | zero =>
    intro a b m ha hb
    cases a <;> first | (cases ha; done) | skip
    all_goals
      cases b <;> first | (cases m <;> (cases hb; done)) | (simp [D.py, PyData.eqv]; done)
  | succ n ih =>
    intro a b m ha hb
    have key : ∀ {xs ys : List D} {m : Nat}, xs.all (sane n) = true → ys.all (sane m) = true → (PyData.eqvAll (D.pys xs) (D.pys ys) = true ↔ xs = ys) := by
      intro xs
      induction xs with
      | nil =>
        intro ys m _ _
        cases ys <;> simp [D.pys, PyData.eqvAll]
      | cons x xs ihx =>
        intro ys m h1 h2
        cases ys with
        | nil => simp [D.pys, PyData.eqvAll]
        | cons y ys =>
          rw [List.all_cons, Bool.and_eq_true] at h1 h2
          simp only [D.pys, PyData.eqvAll, Bool.and_eq_true, List.cons.injEq]
          rw [ih h1.1 h2.1, ihx h1.2 h2.2]
    cases a <;> first | (cases ha; done) | skip
    all_goals
      cases b <;> first | (cases m <;> (cases hb; done)) | (simp [D.py, PyData.eqv]; done) | skip
    all_goals
      cases m with
      | zero => cases hb
      | succ m =>
        simp only [D.py, PyData.eqv, D.tup.injEq, D.lst.injEq]
        exact key ha hb
section
variable {a b : D} {n m : Nat} {S : Store}
theorem eqD_sane (ha : sane n a = true) (hb : sane m b = true) (hn : n ≤ 64) (hm : m ≤ 64) : ∃ r, eqD a b = some r ∧ (r = true ↔ a = b) := by
  refine ⟨_, ?_, sane_eqv ha hb⟩
  show (if (a.shaped && b.shaped) = true then some (PyData.eqv a.py b.py) else none) = _
  rw [sane_shaped ha hn, sane_shaped hb hm]
  rfl
theorem eqA_sane (ha : sane n a = true) : eqA a b = eqD a b := by
  cases a <;> first | rfl | (cases n <;> cases ha)
theorem eq_sane (ha : sane n a = true) (hb : sane m b = true) (hn : n ≤ 64) (hm : m ≤ 64) : ∃ r, p2 .eq a b = some (.bl r) ∧ (r = true ↔ a = b) := by
  obtain ⟨r, h1, h2⟩ := eqD_sane ha hb hn hm
  exact ⟨r, by show (eqA a b).map D.bl = _; rw [eqA_sane ha, h1]; rfl, h2⟩
theorem ne_sane (ha : sane n a = true) (hb : sane m b = true) (hn : n ≤ 64) (hm : m ≤ 64) : ∃ r, p2 .ne a b = some (.bl r) ∧ (r = true ↔ a ≠ b) := by
  obtain ⟨r, h1, h2⟩ := eqD_sane ha hb hn hm
  refine ⟨!r, by show (eqA a b).map (fun r => D.bl (!r)) = _; rw [eqA_sane ha, h1]; rfl, ?_⟩
  rw [Bool.not_eq_true', ne_eq, ← h2]
  cases r <;> simp
theorem ne_bl (x y : Bool) : p2 .ne (.bl x) (.bl y) = some (.bl (x != y)) := by cases x <;> cases y <;> rfl
theorem eq_bl (x y : Bool) : p2 .eq (.bl x) (.bl y) = some (.bl (x == y)) := by cases x <;> cases y <;> rfl
theorem isin_sane {ds : List D} (ha : sane n a = true) (hb : ds.all (sane m) = true) (hn : n ≤ 64) (hm : m < 64) : ∃ r, p2 .isin a (.lst ds) = some (.bl r) ∧ (r = true ↔ a ∈ ds) := by
  refine ⟨ds.any fun z => PyData.eqv z.py a.py, ?_, ?_⟩
  · show (if (a.shaped && (D.lst ds).shaped) = true then some (ds.any fun z => PyData.eqv z.py a.py) else none).map D.bl = _
    rw [sane_shaped ha hn, sane_shaped (n := m + 1) (d := .lst ds) hb hm]
    rfl
  · rw [List.any_eq_true]
    constructor
    · rintro ⟨z, hz, e⟩
      rw [sane_eqv (List.all_eq_true.mp hb z hz) ha] at e
      rw [← e]
      exact hz
    · exact fun h => ⟨a, h, (sane_eqv (List.all_eq_true.mp hb a h) ha).mpr rfl⟩
theorem nin_sane {ds : List D} (ha : sane n a = true) (hb : ds.all (sane m) = true) (hn : n ≤ 64) (hm : m < 64) : ∃ r, p2 .nin a (.lst ds) = some (.bl r) ∧ (r = true ↔ a ∉ ds) := by
  obtain ⟨r, h1, h2⟩ := isin_sane ha hb hn hm
  refine ⟨!r, ?_, by rw [Bool.not_eq_true', ← h2]; cases r <;> simp⟩
  have h1 : (p2.pIn a (.lst ds)).map D.bl = some (.bl r) := h1
  show (p2.pIn a (.lst ds)).map (fun r => D.bl (!r)) = _
  cases q : p2.pIn a (.lst ds) with
  | none => rw [q] at h1; cases h1
  | some x =>
    rw [q] at h1
    cases h1
    rfl

end

/-! ### typed: data whose == is = -/
theorem sane_mono : ∀ {n : Nat} {d : D} (m : Nat), sane n d = true → sane (n + m) d = true
  | n, .non, m, _ => by cases n <;> cases m <;> rfl
  | n, .int i, m, _ => by cases n <;> cases m <;> rfl
  | n, .str s, m, h => by
    have : PyData.strOk s = true := by cases n <;> exact h
    cases n <;> cases m <;> exact this
  | n + 1, .tup xs, m, h => by
    have h : xs.all (sane n) = true := h
    rw [show n + 1 + m = (n + m) + 1 from by omega]
    show xs.all (sane (n + m)) = true
    rw [List.all_eq_true] at h ⊢
    exact fun x hx => sane_mono m (h x hx)
  | n + 1, .lst xs, m, h => by
    have h : xs.all (sane n) = true := h
    rw [show n + 1 + m = (n + m) + 1 from by omega]
    show xs.all (sane (n + m)) = true
    rw [List.all_eq_true] at h ⊢
    exact fun x hx => sane_mono m (h x hx)
  | 0, .tup _, _, h => by cases h
  | 0, .lst _, _, h => by cases h
  | 0, .bl _, _, h => by cases h
  | 0, .ro _, _, h => by cases h
  | 0, .dct _ _, _, h => by cases h
  | 0, .dtt _ _, _, h => by cases h
  | 0, .set _, _, h => by cases h
  | 0, .ins _ _ _, _, h => by cases h
  | 0, .box _, _, h => by cases h
  | 0, .cls _, _, h => by cases h
  | 0, .ty _, _, h => by cases h
  | n + 1, .bl _, _, h => by cases h
  | n + 1, .ro _, _, h => by cases h
  | n + 1, .dct _ _, _, h => by cases h
  | n + 1, .dtt _ _, _, h => by cases h
  | n + 1, .set _, _, h => by cases h
  | n + 1, .ins _ _ _, _, h => by cases h
  | n + 1, .box _, _, h => by cases h
  | n + 1, .cls _, _, h => by cases h
  | n + 1, .ty _, _, h => by cases h
class Nn (α : Type) [Enc α] : Prop where
  nn : ∀ a : α, (enc a : D) ≠ .non
class Dq (α : Type) extends Dat α where
  dep : Nat
  sn : ∀ a : α, sane dep (Enc.enc a) = true
  inj : ∀ a b : α, (Enc.enc a : D) = Enc.enc b → a = b
section
variable {α β γ δ κ : Type}
theorem encs_sane [Dq α] (xs : List α) : (xs.map enc).all (sane (Dq.dep α)) = true := by
  rw [List.all_eq_true]
  intro x hx
  obtain ⟨a, _, rfl⟩ := List.mem_map.mp hx
  exact Dq.sn a
theorem encs_inj [Dq α] : ∀ {xs ys : List α}, xs.map (enc (α := α)) = ys.map enc → xs = ys
  | [], [], _ => rfl
  | [], _ :: _, h => by cases h
  | _ :: _, [], h => by cases h
  | x :: xs, y :: ys, h => by
    rw [List.map_cons, List.map_cons] at h
    injection h with h1 h2
    rw [Dq.inj _ _ h1, encs_inj h2]
instance : Dq Int where
  dep := 0
  sn _ := rfl
  inj a b h := by injection h
instance : Dq Sx where
  dep := 0
  sn a := a.ok
  inj a b h := by
    have h : D.str a.v = D.str b.v := h
    injection h with h
    exact Sx.ext h
instance : Dq Unit where
  dep := 0
  sn _ := rfl
  inj _ _ _ := rfl
instance [Dq α] : Dq (List α) where
  dep := Dq.dep α + 1
  sn xs := encs_sane xs
  inj a b h := by
    have h : D.lst (a.map enc) = D.lst (b.map enc) := h
    injection h with h
    exact encs_inj h
instance [Dq α] : Dq (Tup α) where
  dep := Dq.dep α + 1
  sn xs := encs_sane xs.l
  inj a b h := by
    have h : D.tup (a.l.map enc) = D.tup (b.l.map enc) := h
    injection h with h
    cases a; cases b
    rw [Tup.mk.injEq]
    exact encs_inj h
instance [Dq α] [Dq β] : Dq (α × β) where
  dep := Dq.dep α + Dq.dep β + 1
  sn p := by
    show [enc p.1, enc p.2].all (sane (Dq.dep α + Dq.dep β)) = true
    rw [List.all_cons, List.all_cons, sane_mono _ (Dq.sn p.1), Nat.add_comm, sane_mono _ (Dq.sn p.2)]
    rfl
  inj a b h := by
    have h : D.tup [enc a.1, enc a.2] = D.tup [enc b.1, enc b.2] := h
    injection h with h
    injection h with h1 h
    injection h with h2 h
    exact Prod.ext (Dq.inj _ _ h1) (Dq.inj _ _ h2)
instance [Dq α] [Dq β] [Dq γ] : Dq (P3 α β γ) where
  dep := Dq.dep α + Dq.dep β + Dq.dep γ + 1
  sn p := by
    show [enc p.a, enc p.b, enc p.c].all (sane (Dq.dep α + Dq.dep β + Dq.dep γ)) = true
    have h1 := sane_mono (Dq.dep β + Dq.dep γ) (Dq.sn p.a)
    have h2 := sane_mono (Dq.dep α + Dq.dep γ) (Dq.sn p.b)
    have h3 := sane_mono (Dq.dep α + Dq.dep β) (Dq.sn p.c)
    rw [← Nat.add_assoc] at h1
    rw [show Dq.dep β + (Dq.dep α + Dq.dep γ) = Dq.dep α + Dq.dep β + Dq.dep γ from by omega] at h2
    rw [show Dq.dep γ + (Dq.dep α + Dq.dep β) = Dq.dep α + Dq.dep β + Dq.dep γ from by omega] at h3
    rw [List.all_cons, List.all_cons, List.all_cons]
    simp only [List.all_nil, Bool.and_true, Bool.and_eq_true]
    exact ⟨h1, h2, h3⟩
  inj a b h := by
    have h : D.tup [enc a.a, enc a.b, enc a.c] = D.tup [enc b.a, enc b.b, enc b.c] := h
    injection h with h
    injection h with h1 h
    injection h with h2 h
    injection h with h3 h
    cases a; cases b
    rw [P3.mk.injEq]
    exact ⟨Dq.inj _ _ h1, Dq.inj _ _ h2, Dq.inj _ _ h3⟩
instance : Nn Int := ⟨fun _ h => by cases h⟩
instance : Nn Bool := ⟨fun _ h => by cases h⟩
instance : Nn Sx := ⟨fun _ h => by cases h⟩
instance [Enc α] : Nn (List α) := ⟨fun _ h => by cases h⟩
instance [Enc α] : Nn (Tup α) := ⟨fun _ h => by cases h⟩
instance [Enc α] : Nn (Ro α) := ⟨fun _ h => by cases h⟩
instance [Enc α] [Enc β] : Nn (α × β) := ⟨fun _ h => by cases h⟩
instance [Enc α] [Enc β] [Enc γ] : Nn (P3 α β γ) := ⟨fun _ h => by cases h⟩
instance [Enc α] [Enc β] [Enc γ] [Enc δ] : Nn (P4 α β γ δ) := ⟨fun _ h => by cases h⟩
instance [DKey κ] [Enc α] : Nn (Dct κ α) := ⟨fun d h => by
  change (if DKey.tt κ = true then D.dtt _ _ else D.dct _ _) = D.non at h
  split at h <;> cases h⟩
instance [Dq α] [Nn α] : Dq (Option α) where
  dep := Dq.dep α
  sn a := by
    cases a with
    | none => show sane (Dq.dep α) .non = true; cases Dq.dep α <;> rfl
    | some a => exact Dq.sn a
  inj a b h := by
    cases a with
    | none => cases b with
      | none => rfl
      | some b => exact absurd h.symm (Nn.nn b)
    | some a => cases b with
      | none => exact absurd h (Nn.nn a)
      | some b => exact congrArg some (Dq.inj _ _ h)
end

section
variable {T : Tb} {C : Calls} {n : Nat} {de : Env} {dw : Bool} {bs : List (Nat × D)} {α β γ κ : Type}
theorem sizeT {n : Nat} (h : n ≤ sizeLine) : sizeOk n = true := decide_eq_true h
/-! == -/
theorem eq_dq [Dq α] [DecidableEq α] (h : Nat.ble (Dq.dep α) 60 = true) (x y : α) : p2 .eq (enc x) (enc y) = some (.bl (decide (x = y))) := by
  have h := Nat.le_of_ble_eq_true h
  obtain ⟨r, h1, h2⟩ := eq_sane (Dq.sn x) (Dq.sn y) (by omega) (by omega)
  refine h1.trans ?_
  congr 2
  rw [Bool.eq_iff_iff, h2, decide_eq_true_eq]
  exact ⟨Dq.inj x y, fun e => by rw [e]⟩
theorem ne_dq [Dq α] [DecidableEq α] (h : Nat.ble (Dq.dep α) 60 = true) (x y : α) : p2 .ne (enc x) (enc y) = some (.bl (!decide (x = y))) := by
  have h := Nat.le_of_ble_eq_true h
  obtain ⟨r, h1, h2⟩ := ne_sane (Dq.sn x) (Dq.sn y) (by omega) (by omega)
  refine h1.trans ?_
  congr 2
  rw [Bool.eq_iff_iff, h2, Bool.not_eq_true', decide_eq_false_iff_not]
  exact ⟨fun hn e => hn (by rw [e]), fun hn e => hn (Dq.inj x y e)⟩
theorem o_eq [Dq α] [DecidableEq α] (h : Nat.ble (Dq.dep α) 60 = true) (x y : α) : Jv dw bs (o2R T C .eq (enc x) (enc y)) (Sp.pure (decide (x = y))) := J_p2 (eq_dq h x y)
theorem o_ne [Dq α] [DecidableEq α] (h : Nat.ble (Dq.dep α) 60 = true) (x y : α) : Jv dw bs (o2R T C .ne (enc x) (enc y)) (Sp.pure (!decide (x = y))) := J_p2 (ne_dq h x y)
theorem o_eqB (x y : Bool) : Jv dw bs (o2R T C .eq (enc x) (enc y)) (Sp.pure (x == y)) := J_p2 (eq_bl x y)
theorem o_neB (x y : Bool) : Jv dw bs (o2R T C .ne (enc x) (enc y)) (Sp.pure (x != y)) := J_p2 (ne_bl x y)
theorem isin_dq [Dq α] [DecidableEq α] (h : Nat.ble (Dq.dep α) 60 = true) (x : α) (xs : List α) : p2 .isin (enc x) (enc xs) = some (.bl (decide (x ∈ xs))) := by
  have h := Nat.le_of_ble_eq_true h
  obtain ⟨r, h1, h2⟩ := isin_sane (Dq.sn x) (encs_sane xs) (by omega) (by omega)
  refine h1.trans ?_
  congr 2
  rw [Bool.eq_iff_iff, h2, decide_eq_true_eq, List.mem_map]
  exact ⟨fun ⟨a, ha, e⟩ => Dq.inj _ _ e ▸ ha, fun h => ⟨x, h, rfl⟩⟩
theorem nin_dq [Dq α] [DecidableEq α] (h : Nat.ble (Dq.dep α) 60 = true) (x : α) (xs : List α) : p2 .nin (enc x) (enc xs) = some (.bl (!decide (x ∈ xs))) := by
  have e := isin_dq h x xs
  have e : (p2.pIn (enc x) (enc xs)).map D.bl = some (.bl (decide (x ∈ xs))) := e
  show (p2.pIn (enc x) (enc xs)).map (fun r => D.bl (!r)) = _
  cases c : p2.pIn (enc x) (enc xs) with
  | none => rw [c] at e; cases e
  | some r =>
    rw [c] at e
    injection e with e
    injection e with e
    rw [← e]
    rfl
theorem o_in [Dq α] [DecidableEq α] (h : Nat.ble (Dq.dep α) 60 = true) (x : α) (xs : List α) : Jv dw bs (o2R T C .isin (enc x) (enc xs)) (Sp.pure (decide (x ∈ xs))) :=
  J.at (fun S => o2R_dat (Enc.nb x) (Dat.ni x) (Enc.nb xs) S) (Jv.lift (isin_dq h x xs))
theorem o_nin [Dq α] [DecidableEq α] (h : Nat.ble (Dq.dep α) 60 = true) (x : α) (xs : List α) : Jv dw bs (o2R T C .nin (enc x) (enc xs)) (Sp.pure (!decide (x ∈ xs))) :=
  J.at (fun S => o2R_dat (Enc.nb x) (Dat.ni x) (Enc.nb xs) S) (Jv.lift (nin_dq h x xs))
/-- flat values: texts, ints -/
class Fq (α : Type) extends Dq α where
  fl : ∀ a : α, (Enc.enc a : D).flat = true
instance : Fq Int := ⟨fun _ => rfl⟩
instance : Fq Sx := ⟨fun _ => rfl⟩
instance : Fq Unit := ⟨fun _ => rfl⟩
instance [Fq α] [Nn α] : Fq (Option α) where
  fl a := by cases a with
    | none => rfl
    | some a => exact Fq.fl a
theorem isinT_dq [Fq α] [DecidableEq α] (h : Nat.ble (Dq.dep α) 60 = true) (x : α) (xs : Tup α) : p2 .isin (enc x) (enc xs) = some (.bl (decide (x ∈ xs.l))) := by
  have h := Nat.le_of_ble_eq_true h
  have hf : (xs.l.map (enc (α := α))).all D.flat = true := by
    rw [List.all_eq_true]
    intro y hy
    obtain ⟨a, _, rfl⟩ := List.mem_map.mp hy
    exact Fq.fl a
  show (if ((enc x : D).flat && (xs.l.map (enc (α := α))).all D.flat) = true then some ((xs.l.map (enc (α := α))).any fun z => PyData.eqv z.py (enc x : D).py) else none).map D.bl = _
  rw [Fq.fl, hf]
  show some (D.bl ((xs.l.map (enc (α := α))).any fun z => PyData.eqv z.py (enc x : D).py)) = _
  congr 2
  rw [Bool.eq_iff_iff, List.any_eq_true, decide_eq_true_eq]
  constructor
  · rintro ⟨z, hz, e⟩
    obtain ⟨a, ha, rfl⟩ := List.mem_map.mp hz
    exact Dq.inj _ _ ((sane_eqv (Dq.sn a) (Dq.sn x)).mp e) ▸ ha
  · exact fun h => ⟨_, List.mem_map.mpr ⟨x, h, rfl⟩, (sane_eqv (Dq.sn x) (Dq.sn x)).mpr rfl⟩
theorem o_inT [Fq α] [DecidableEq α] (h : Nat.ble (Dq.dep α) 60 = true) (x : α) (xs : Tup α) : Jv dw bs (o2R T C .isin (enc x) (enc xs)) (Sp.pure (decide (x ∈ xs.l))) :=
  J.at (fun S => o2R_dat (Enc.nb x) (Dat.ni x) (Enc.nb xs) S) (Jv.lift (isinT_dq h x xs))
theorem not_in {x c : D} {r : Bool} (e : p2 .isin x c = some (.bl r)) : p2 .nin x c = some (.bl (!r)) := by
  have e : (p2.pIn x c).map D.bl = some (.bl r) := e
  show (p2.pIn x c).map (fun r => D.bl (!r)) = _
  cases h : p2.pIn x c with
  | none => rw [h] at e; cases e
  | some r =>
    rw [h] at e
    injection e with e
    injection e with e
    rw [← e]
    rfl
theorem o_ninT [Fq α] [DecidableEq α] (h : Nat.ble (Dq.dep α) 60 = true) (x : α) (xs : Tup α) : Jv dw bs (o2R T C .nin (enc x) (enc xs)) (Sp.pure (!decide (x ∈ xs.l))) :=
  J.at (fun S => o2R_dat (Enc.nb x) (Dat.ni x) (Enc.nb xs) S) (Jv.lift (not_in (isinT_dq h x xs)))
/-! is None -/
theorem o_isN [Dat α] [Nn α] (x : Option α) : Jv dw bs (o2R T C .isN (enc x) .non) (Sp.pure x.isNone) := by
  refine J.at (m' := lift (some (enc x.isNone))) (fun S => ?_) (Jv.lift rfl)
  cases x with
  | none => rfl
  | some a =>
    rw [o2R_dat (Enc.nb (some a)) (Dat.ni (some a)) rfl S]
    have : p2 .isN (enc (some a)) .non = some (.bl false) := by
      have h : (enc (some a) : D) ≠ .non := Nn.nn a
      show (match (enc (some a) : D) with | .non => some (D.bl true) | _ => some (.bl false)) = _
      cases c : (enc (some a) : D) <;> first | rfl | exact absurd c h
    rw [this]
    rfl
theorem o_notN [Dat α] [Nn α] (x : Option α) : Jv dw bs (o2R T C .notN (enc x) .non) (Sp.pure x.isSome) := by
  refine J.at (m' := lift (some (enc x.isSome))) (fun S => ?_) (Jv.lift rfl)
  cases x with
  | none => rfl
  | some a =>
    rw [o2R_dat (Enc.nb (some a)) (Dat.ni (some a)) rfl S]
    have : p2 .notN (enc (some a)) .non = some (.bl true) := by
      have h : (enc (some a) : D) ≠ .non := Nn.nn a
      show (match (enc (some a) : D) with | .non => some (D.bl false) | _ => some (.bl true)) = _
      cases c : (enc (some a) : D) <;> first | rfl | exact absurd c h
    rw [this]
    rfl
/-! ints -/
theorem o_addI (x y : Int) : Jv dw bs (o2R T C .add (enc x) (enc y)) (Sp.pure (x + y)) := J_p2 rfl
theorem o_subI (x y : Int) : Jv dw bs (o2R T C .sub (enc x) (enc y)) (Sp.pure (x - y)) := J_p2 rfl
theorem o_ltI (x y : Int) : Jv dw bs (o2R T C .lt (enc x) (enc y)) (Sp.pure (decide (x < y))) := J_p2 rfl
theorem o_leI (x y : Int) : Jv dw bs (o2R T C .le (enc x) (enc y)) (Sp.pure (decide (x ≤ y))) := J_p2 rfl
theorem o_gtI (x y : Int) : Jv dw bs (o2R T C .gt (enc x) (enc y)) (Sp.pure (decide (x > y))) := J_p2 rfl
theorem o_geI (x y : Int) : Jv dw bs (o2R T C .ge (enc x) (enc y)) (Sp.pure (decide (x ≥ y))) := J_p2 rfl
theorem o_mulI (x y : Int) : Jv dw bs (o2R T C .mul (enc x) (enc y)) (Sp.need (smallI x = true ∨ smallI y = true) (Sp.pure (x * y))) := J_p2N fun h => by
  show (if (smallI x || smallI y) = true then some (D.int (x * y)) else none) = _
  rw [if_pos (by rw [Bool.or_eq_true]; exact h)]
  rfl
theorem o_fdivI (x y : Int) : Jv dw bs (o2R T C .fdiv (enc x) (enc y)) (Sp.need (0 < y ∧ y < 1073741824) (Sp.pure (x / y))) := J_p2N fun h => by
  show (if 0 < y ∧ y < 1073741824 then some (D.int (x / y)) else none) = _
  rw [if_pos h]
  rfl
theorem o_modI (x y : Int) : Jv dw bs (o2R T C .mod (enc x) (enc y)) (Sp.need (0 < y) (Sp.pure (x % y))) := J_p2N fun h => by
  show (if 0 < y then some (D.int (x % y)) else none) = _
  rw [if_pos h]
  rfl
theorem o_powI (x y : Int) : Jv dw bs (o2R T C .pow (enc x) (enc y)) (Sp.need (0 ≤ y ∧ y ≤ 1000000 ∧ x.natAbs < 2 ^ 64) (Sp.pure (x ^ y.toNat))) := J_p2N fun h => by
  show (if 0 ≤ y ∧ y ≤ 1000000 ∧ x.natAbs < 2 ^ 64 then some (D.int (x ^ y.toNat)) else none) = _
  rw [if_pos h]
  rfl
theorem p2_ltI (x y : Int) : p2 .lt (enc x) (enc y) = some (.bl (decide (x < y))) := rfl
theorem p2_leI (x y : Int) : p2 .le (enc x) (enc y) = some (.bl (decide (x ≤ y))) := rfl
theorem p2_gtI (x y : Int) : p2 .gt (enc x) (enc y) = some (.bl (decide (x > y))) := rfl
theorem p2_geI (x y : Int) : p2 .ge (enc x) (enc y) = some (.bl (decide (x ≥ y))) := rfl
/-! + -/
theorem o_addL [Enc α] (x y : List α) : Jv dw bs (o2R T C .add (enc x) (enc y)) (Sp.ext x y) := J_p2N fun h => by
  show (if sizeOk ((x.map (enc (α := α))).length + (y.map (enc (α := α))).length) = true then some (D.lst (x.map enc ++ y.map enc)) else none) = _
  rw [if_pos (sizeT (by rw [List.length_map, List.length_map]; exact h)), ← List.map_append]
  rfl
def Tup.cat (x y : Tup α) : Tup α := ⟨x.l ++ y.l⟩
theorem o_addT [Enc α] (x y : Tup α) : Jv dw bs (o2R T C .add (enc x) (enc y)) (Sp.need (x.l.length + y.l.length ≤ sizeLine) (Sp.pure (x.cat y))) := J_p2N fun h => by
  show (if sizeOk ((x.l.map (enc (α := α))).length + (y.l.map (enc (α := α))).length) = true then some (D.tup (x.l.map enc ++ y.l.map enc)) else none) = _
  rw [if_pos (sizeT (by rw [List.length_map, List.length_map]; exact h)), ← List.map_append]
  rfl
theorem strOk_app (s t : Str) (h : PyData.strOk s = true) (g : PyData.strOk t = true) : PyData.strOk (s ++ t) = true := by
  unfold PyData.strOk at *
  rw [← Array.all_toList] at *
  have : (s ++ t).cps = s.cps ++ t.cps := rfl
  rw [this, Array.toList_append, List.all_append, h, g]
  rfl
def Sx.cat (x y : Sx) : Sx := ⟨x.v ++ y.v, strOk_app _ _ x.ok y.ok⟩
theorem o_addS (x y : Sx) : Jv dw bs (o2R T C .add (enc x) (enc y)) (Sp.need (x.v.length + y.v.length ≤ sizeLine) (Sp.pure (x.cat y))) := J_p2N fun h => by
  show (if sizeOk (x.v.length + y.v.length) = true then some (D.str (x.v ++ y.v)) else none) = _
  rw [if_pos (sizeT h)]
  rfl
/-! x[i] -/
theorem atI_map (f : α → D) (xs : List α) (i : Int) : atI (xs.map f) i = (atI xs i).map f := by
  unfold atI
  rw [List.length_map]
  cases ixN xs.length i with
  | none => rfl
  | some q => show (xs.map f)[q]? = (xs[q]?).map f; rw [List.getElem?_map]
theorem i_L [Enc α] (x : List α) (i : Int) : Jv dw bs (idxR T C (enc x) (enc i)) (Sp.lift (atI x i)) := J_pIdxO (atI_map enc x i)
theorem i_T [Enc α] (x : Tup α) (i : Int) : Jv dw bs (idxR T C (enc x) (enc i)) (Sp.lift (atI x.l i)) := J_pIdxO (atI_map enc x.l i)
theorem i_R [Enc α] (x : Ro α) (i : Int) : Jv dw bs (idxR T C (enc x) (enc i)) (Sp.lift (atI x.l i)) := J_pIdxO (atI_map enc x.l i)
theorem i_20 [Enc α] [Enc β] (x : α × β) : Jv dw bs (idxR T C (enc x) (enc (0 : Int))) (Sp.pure x.1) := J_pIdx rfl
theorem i_21 [Enc α] [Enc β] (x : α × β) : Jv dw bs (idxR T C (enc x) (enc (1 : Int))) (Sp.pure x.2) := J_pIdx rfl
theorem i_30 [Enc α] [Enc β] [Enc γ] (x : P3 α β γ) : Jv dw bs (idxR T C (enc x) (enc (0 : Int))) (Sp.pure x.a) := J_pIdx rfl
theorem i_31 [Enc α] [Enc β] [Enc γ] (x : P3 α β γ) : Jv dw bs (idxR T C (enc x) (enc (1 : Int))) (Sp.pure x.b) := J_pIdx rfl
theorem i_32 [Enc α] [Enc β] [Enc γ] (x : P3 α β γ) : Jv dw bs (idxR T C (enc x) (enc (2 : Int))) (Sp.pure x.c) := J_pIdx rfl
/-! x[i:j] -/
def cutZ (xs : List α) (lo hi : Option Int) : List α := (xs.drop (HT.sIx xs.length 0 lo)).take (HT.sIx xs.length xs.length hi - HT.sIx xs.length 0 lo)
theorem cut_enc (f : α → D) (xs : List α) (lo hi : Option Int) : cutD (xs.map f) lo hi = (cutZ xs lo hi).map f := by
  rw [cutD, cutZ, List.length_map, List.map_take, List.map_drop]
theorem s_L [Enc α] (x : List α) (l h : Option Int) : Jv dw bs (fun S => lift (pSli (view S (enc x)) l h) S) (Sp.pure (cutZ x l h)) := J_pSli (by
  show some (D.lst (cutD (x.map enc) l h)) = _
  rw [cut_enc]
  rfl)
theorem s_T [Enc α] (x : Tup α) (l h : Option Int) : Jv dw bs (fun S => lift (pSli (view S (enc x)) l h) S) (Sp.pure (⟨cutZ x.l l h⟩ : Tup α)) := J_pSli (by
  show some (D.tup (cutD (x.l.map enc) l h)) = _
  rw [cut_enc]
  rfl)
theorem s_31 [Enc α] [Enc β] [Enc γ] (x : P3 α β γ) : Jv dw bs (fun S => lift (pSli (view S (enc x)) (some 1) none) S) (Sp.pure (x.b, x.c)) := J_pSli rfl
theorem bounds (a : Option Int) (b : Option Int) : True := trivial
/-! built-ins -/
abbrev biM (b : BI) (ds : List D) : M D := fun S => lift (pBi b (ds.map (view S))) S
theorem b_lenL [Enc α] (x : List α) : Jv dw bs (biM .len [enc x]) (Sp.pure (x.length : Int)) := bi1 (by show some (D.int ((x.map (enc (α := α))).length : Nat)) = _; rw [List.length_map]; rfl)
theorem b_lenT [Enc α] (x : Tup α) : Jv dw bs (biM .len [enc x]) (Sp.pure (x.l.length : Int)) := bi1 (by show some (D.int ((x.l.map (enc (α := α))).length : Nat)) = _; rw [List.length_map]; rfl)
theorem b_lenR [Enc α] (x : Ro α) : Jv dw bs (biM .len [enc x]) (Sp.pure (x.l.length : Int)) := bi1 (by show some (D.int ((x.l.map (enc (α := α))).length : Nat)) = _; rw [List.length_map]; rfl)
theorem b_lenS (x : Sx) : Jv dw bs (biM .len [enc x]) (Sp.need (x.v.length ≤ sizeLine) (Sp.pure (x.v.length : Int))) := bi1N fun h => by
  show (if sizeOk x.v.length = true then some (D.int x.v.length) else none) = _
  rw [if_pos (sizeT h)]
  rfl
theorem dBls_enc : ∀ x : List Bool, dBls (x.map enc) = some x
  | [] => rfl
  | b :: x => by show (dBls (x.map enc)).map (b :: ·) = _; rw [dBls_enc x]; rfl
theorem b_all (x : List Bool) : Jv dw bs (biM .all [enc x]) (Sp.pure (x.all id)) := bi1 (by show (dBls (x.map enc)).map (fun bs => D.bl (bs.all id)) = _; rw [dBls_enc]; rfl)
theorem b_any (x : List Bool) : Jv dw bs (biM .any [enc x]) (Sp.pure (x.any id)) := bi1 (by show (dBls (x.map enc)).map (fun bs => D.bl (bs.any id)) = _; rw [dBls_enc]; rfl)
theorem b_listL [Enc α] (x : List α) : Jv dw bs (biM .list [enc x]) (Sp.pure x) := bi1 rfl
theorem b_listT [Enc α] (x : Tup α) : Jv dw bs (biM .list [enc x]) (Sp.pure x.l) := bi1 rfl
theorem b_listR [Enc α] (x : Ro α) : Jv dw bs (biM .list [enc x]) (Sp.pure x.l) := bi1 rfl
theorem b_tupleL [Enc α] (x : List α) : Jv dw bs (biM .tuple [enc x]) (Sp.pure (⟨x⟩ : Tup α)) := bi1 rfl
theorem b_tupleT [Enc α] (x : Tup α) : Jv dw bs (biM .tuple [enc x]) (Sp.pure x) := bi1 rfl
def absZ (i : Int) : Int := if i < 0 then -i else i
theorem b_abs (i : Int) : Jv dw bs (biM .abs [enc i]) (Sp.pure (absZ i)) := bi1 rfl
def max2Z (i j : Int) : Int := if j > i then j else i
def min2Z (i j : Int) : Int := if j < i then j else i
theorem b_max2 (i j : Int) : Jv dw bs (biM .max2 [enc i, enc j]) (Sp.pure (max2Z i j)) := bi2 rfl
theorem b_min2 (i j : Int) : Jv dw bs (biM .min2 [enc i, enc j]) (Sp.pure (min2Z i j)) := bi2 rfl
theorem dInts_enc : ∀ x : List Int, dInts (x.map enc) = some x
  | [] => rfl
  | b :: x => by show (dInts (x.map enc)).map (b :: ·) = _; rw [dInts_enc x]; rfl
def maxZ : List Int → Option Int
  | [] => none
  | x :: r => some (maxL x r)
def minZ : List Int → Option Int
  | [] => none
  | x :: r => some (minL x r)
theorem b_maxl (x : List Int) : Jv dw bs (biM .maxl [enc x]) (Sp.lift (maxZ x)) := bi1O (by
  show (match dInts (x.map enc) with | some (x :: r) => some (D.int (maxL x r)) | _ => none) = _
  rw [dInts_enc]
  cases x <;> rfl)
theorem b_minl (x : List Int) : Jv dw bs (biM .minl [enc x]) (Sp.lift (minZ x)) := bi1O (by
  show (match dInts (x.map enc) with | some (x :: r) => some (D.int (minL x r)) | _ => none) = _
  rw [dInts_enc]
  cases x <;> rfl)
def b2i (b : Bool) : Int := if b = true then 1 else 0
theorem b_intB (x : Bool) : Jv dw bs (biM .int [enc x]) (Sp.pure (b2i x)) := bi1 rfl
theorem b_intI (x : Int) : Jv dw bs (biM .int [enc x]) (Sp.pure x) := bi1 rfl
/-- sorted -/
def sortZ [Enc α] (xs : List α) : List α := xs.mergeSort fun a b => leD (enc a) (enc b)
theorem b_sorted [Enc α] (x : List α) : Jv dw bs (biM .sorted [enc x]) (Sp.need (sortable (x.map enc) = true) (Sp.pure (sortZ x))) := bi1N fun h => by
  show (if sortable (x.map enc) = true then some (D.lst ((x.map enc).mergeSort leD)) else none) = _
  rw [if_pos h]
  show some (D.lst _) = some (D.lst ((sortZ x).map enc))
  rw [sortZ, List.map_mergeSort (s := leD) (fun _ _ _ _ => rfl)]
theorem b_rangel (i : Int) : Jv dw bs (biM .rangel [enc i]) (Sp.need (0 ≤ i ∧ i ≤ 16777216) (Sp.pure (irange i))) := bi1N fun h => by
  show (if 0 ≤ i ∧ i ≤ 16777216 then some (D.lst ((List.range i.toNat).map fun i => D.int (i : Nat))) else none) = _
  rw [if_pos h]
  show _ = some (D.lst ((irange i).map enc))
  rw [irange, List.map_map]
  rfl
/-! truth -/
theorem tr_B (x : Bool) : (enc x : D).truth = some x := rfl
theorem tr_I (x : Int) : (enc x : D).truth = some (x != 0) := rfl
theorem tr_L [Enc α] (x : List α) : (enc x : D).truth = some (!x.isEmpty) := by cases x <;> rfl
theorem tr_T [Enc α] (x : Tup α) : (enc x : D).truth = some (!x.l.isEmpty) := by cases x with | mk l => cases l <;> rfl
theorem tr_OB (x : Option Bool) : (enc x : D).truth = some (x == some true) := by cases x with
  | none => rfl
  | some b => cases b <;> rfl
end
end Y
/-! ZD1: runs of the machine (plain Lean); the laws' shared draws. -/
namespace Y
open PySem L2
open Enc (enc)

def Wp {α : Type} (m : M α) (S : Store) (Q : α → Store → Prop) : Prop := ∃ a S', m S = .ok a S' ∧ Q a S'
section
variable {α β : Type} {m : M α} {f : α → M β} {S S' : Store} {Q Q' : α → Store → Prop}
theorem wp_ret {a : α} (h : Q a S) : Wp (ret a) S Q := ⟨a, S, rfl, h⟩
theorem wp_bnd {Q : β → Store → Prop} (h : Wp m S fun a S1 => Wp (f a) S1 Q) : Wp (bnd m f) S Q := by
  obtain ⟨a, S1, e, b, S2, e2, q⟩ := h
  exact ⟨b, S2, by show (m S).bnd f = _; rw [e]; exact e2, q⟩
theorem wp_eq {a : α} (e : m S = .ok a S') (q : Q a S') : Wp m S Q := ⟨a, S', e, q⟩
theorem Wp.imp (h : Wp m S Q) (k : ∀ a S', Q a S' → Q' a S') : Wp m S Q' := by
  obtain ⟨a, S1, e, q⟩ := h
  exact ⟨a, S1, e, k _ _ q⟩
theorem wp_at {r : Res α} (e : m S = r) (h : ∃ a S', r = .ok a S' ∧ Q a S') : Wp m S Q := by
  obtain ⟨a, S1, e2, q⟩ := h
  exact ⟨a, S1, e.trans e2, q⟩
theorem wp_lift {o : Option α} {a : α} (e : o = some a) (q : Q a S) : Wp (lift o) S Q := ⟨a, S, by subst e; rfl, q⟩
theorem wp_try {o : Option α} {a : α} {g : α → M β} {Q : β → Store → Prop} (e : o = some a) (h : Wp (g a) S Q) : Wp (tryL o g) S Q := by
  subst e
  exact h
theorem wp_ifT {b : Bool} {m n : M α} (h : b = true) (q : Wp m S Q) : Wp (if b = true then m else n) S Q := by
  rw [if_pos h]
  exact q
theorem wp_ifF {b : Bool} {m n : M α} (h : b = false) (q : Wp n S Q) : Wp (if b = true then m else n) S Q := by
  rw [h, if_neg (by simp)]
  exact q
theorem wp_hush (h : Wp m S Q) : Wp (hush m) S Q := by
  obtain ⟨a, S1, e, q⟩ := h
  exact ⟨a, S1, by show (m S).hush = _; rw [e]; rfl, q⟩
theorem wp_if {c : Prop} [Decidable c] {m n : M α} (h1 : c → Wp m S Q) (h2 : ¬ c → Wp n S Q) : Wp (if c then m else n) S Q := by
  split
  · exact h1 ‹_›
  · exact h2 ‹_›
end

/-! ### calls, loops, comprehensions -/
section
variable {T : Tb} {C : Calls} {W k : Nat} {de : Env} {S : Store}
theorem wp_call {i : Nat} {fe : Fe} {ds : List D} {Q : D × Bool → Store → Prop} (hT : T.fns[i]? = some fe) (hl : ds.length = fe.arity) (hn : fe.ini = none)
    (h : Wp (sts T (callF T W k) W (ds.map (fun d => some (.val d)) ++ List.replicate (fe.slots - ds.length) none) fe.body) S fun o S' => match o with | .nx _ => Q (.non, false) S' | .rtv d f => Q (d, f) S' | _ => False) : Wp (callF T W (k + 1) i ds) S Q := by
  show Wp (match T.fns[i]? with | some fe => runF T W (callF T W k) fe ds | none => fail) S Q
  rw [hT]
  show Wp (runF T W (callF T W k) fe ds) S Q
  unfold runF
  rw [hn]
  show Wp (run1 T W (callF T W k) fe ds) S Q
  unfold run1
  rw [if_pos hl]
  refine wp_bnd (h.imp fun o S' q => ?_)
  cases o with
  | nx de => exact wp_ret q
  | rtv d f => exact wp_ret q
  | bk de => exact q.elim
  | ct de => exact q.elim
theorem wp_callE {i : Nat} {fe : Fe} {ds : List D} {de0 : Env} {Q : D × Bool → Store → Prop} (hT : T.fns[i]? = some fe) (hl : ds.length = fe.arity) (hn : fe.ini = none) (he : ds.map (fun d => some (.val d)) ++ List.replicate (fe.slots - ds.length) none = de0)
    (h : Wp (sts T (callF T W k) W de0 fe.body) S fun o S' => match o with | .nx _ => Q (.non, false) S' | .rtv d f => Q (d, f) S' | _ => False) : Wp (callF T W (k + 1) i ds) S Q := wp_call hT hl hn (by rw [he]; exact h)
/-- a loop, by an invariant of what is left -/
theorem wp_loop {g : IR} {body : Env → M Out} {Q : Out → Store → Prop} (I : List D → Env → Store → Prop) : ∀ (items : List D) (de : Env) (S : Store), I items de S →
    (∀ x r de S, I (x :: r) de S → ∃ d1, asg g x de = some d1 ∧ Wp (body d1) S fun o S' => match o with | .nx d2 => I r d2 S' | .ct d2 => I r d2 S' | .bk d2 => Q (.nx d2) S' | .rtv d f => Q (.rtv d f) S') → (∀ de S, I [] de S → Q (.nx de) S) → Wp (loop items de g body) S Q
  | [], de, S, h, _, hd => wp_ret (hd de S h)
  | x :: r, de, S, h, hs, hd => by
    obtain ⟨d1, ha, hb⟩ := hs x r de S h
    refine wp_try ha (wp_bnd (hb.imp fun o S' q => ?_))
    cases o with
    | nx d2 => exact wp_loop I r d2 S' q hs hd
    | ct d2 => exact wp_loop I r d2 S' q hs hd
    | bk d2 => exact wp_ret q
    | rtv d f => exact wp_ret q
theorem wp_wloop {c : Env → M Bool} {body : Env → M Out} {Q : Out → Store → Prop} (I : Nat → Env → Store → Prop) (hs : ∀ n de S, I n de S → Wp (c de) S fun b S' => if b = true then (0 < n ∧ Wp (body de) S' fun o S' => match o with | .nx d2 => I (n - 1) d2 S' | .ct d2 => I (n - 1) d2 S' | .bk d2 => Q (.nx d2) S' | .rtv d f => Q (.rtv d f) S') else Q (.nx de) S') :
    ∀ (W n : Nat) (de : Env) (S : Store), n < W → I n de S → Wp (wloop W c body de) S Q
  | 0, n, de, S, hw, h => by omega
  | W + 1, n, de, S, hw, h => by
    refine wp_bnd ((hs n de S h).imp fun b S' q => ?_)
    cases b with
    | false => exact wp_ret q
    | true =>
      obtain ⟨h0, q⟩ : 0 < n ∧ _ := q
      refine wp_bnd (q.imp fun o S2 q => ?_)
      cases o with
      | nx d2 => exact wp_wloop I hs W (n - 1) d2 S2 (by omega) q
      | ct d2 => exact wp_wloop I hs W (n - 1) d2 S2 (by omega) q
      | bk d2 => exact wp_ret q
      | rtv d f => exact wp_ret q
/-- a comprehension whose turns change nothing -/
theorem comp_pure {step : D → M (Option D)} {f : D → Option D} {S : Store} : ∀ {items : List D}, (∀ x ∈ items, step x S = .ok (f x) S) → comp items step S = .ok (items.filterMap f) S
  | [], _ => rfl
  | x :: r, h => by
    show (step x S).bnd (fun o => bnd (comp r step) fun ds => ret (match o with | some d => d :: ds | none => ds)) = _
    rw [h x List.mem_cons_self]
    show (comp r step S).bnd (fun ds => ret (match f x with | some d => d :: ds | none => ds)) = _
    rw [comp_pure fun y hy => h y (List.mem_cons_of_mem _ hy), List.filterMap_cons]
    cases f x <;> rfl
/-- in general: R relates what was taken, what came out -/
theorem wp_comp {step : D → M (Option D)} {Q : List D → Store → Prop} (I : List D → List D → Store → Prop) : ∀ (items : List D) (acc : List D) (S : Store), I items acc S →
    (∀ x r acc S, I (x :: r) acc S → Wp (step x) S fun o S' => match o with | some d => I r (acc ++ [d]) S' | none => I r acc S') → (∀ acc S, I [] acc S → Q acc S) → Wp (comp items step) S fun ds S' => Q (acc ++ ds) S'
  | [], acc, S, h, _, hd => wp_ret (by rw [List.append_nil]; exact hd acc S h)
  | x :: r, acc, S, h, hs, hd => by
    refine wp_bnd ((hs x r acc S h).imp fun o S' q => ?_)
    cases o with
    | none =>
      refine wp_bnd ((wp_comp I r acc S' q hs hd).imp fun ds S2 q2 => wp_ret q2)
    | some d =>
      refine wp_bnd ((wp_comp I r (acc ++ [d]) S' q hs hd).imp fun ds S2 q2 => wp_ret ?_)
      rw [List.append_assoc] at q2
      exact q2
end

/-! ### operators on ints -/
theorem sizeOk0 : sizeOk 0 = true := by decide
theorem v_int (S : Store) (i : Int) : view S (.int i) = .int i := rfl
theorem v_bl (S : Store) (i : Bool) : view S (.bl i) = .bl i := rfl
theorem v_str (S : Store) (i : Str) : view S (.str i) = .str i := rfl
theorem v_tup (S : Store) (i : List D) : view S (.tup i) = .tup i := rfl
theorem v_lst (S : Store) (i : List D) : view S (.lst i) = .lst i := rfl
theorem v_ro (S : Store) (i : List D) : view S (.ro i) = .ro i := rfl
theorem v_dct (S : Store) (i j : List D) : view S (.dct i j) = .dct i j := rfl
theorem v_non (S : Store) : view S .non = .non := rfl
theorem p2_add (i j : Int) : p2 .add (.int i) (.int j) = some (.int (i + j)) := rfl
theorem p2_sub (i j : Int) : p2 .sub (.int i) (.int j) = some (.int (i - j)) := rfl
theorem p2_lt (i j : Int) : p2 .lt (.int i) (.int j) = some (.bl (decide (i < j))) := rfl
theorem p2_le (i j : Int) : p2 .le (.int i) (.int j) = some (.bl (decide (i ≤ j))) := rfl
theorem p2_gt (i j : Int) : p2 .gt (.int i) (.int j) = some (.bl (decide (j < i))) := rfl
theorem p2_ge (i j : Int) : p2 .ge (.int i) (.int j) = some (.bl (decide (j ≤ i))) := rfl
theorem p2_mulL {i j : Int} (h : smallI i = true) : p2 .mul (.int i) (.int j) = some (.int (i * j)) := by
  show (if (smallI i || smallI j) = true then some (D.int (i * j)) else none) = _
  rw [h, Bool.true_or, if_pos rfl]
theorem p2_mulR {i j : Int} (h : smallI j = true) : p2 .mul (.int i) (.int j) = some (.int (i * j)) := by
  show (if (smallI i || smallI j) = true then some (D.int (i * j)) else none) = _
  rw [h, Bool.or_true, if_pos rfl]
theorem p2_fdiv {i j : Int} (h : 0 < j ∧ j < 1073741824) : p2 .fdiv (.int i) (.int j) = some (.int (i / j)) := by
  show (if 0 < j ∧ j < 1073741824 then some (D.int (i / j)) else none) = _
  rw [if_pos h]
theorem p2_mod {i j : Int} (h : 0 < j) : p2 .mod (.int i) (.int j) = some (.int (i % j)) := by
  show (if 0 < j then some (D.int (i % j)) else none) = _
  rw [if_pos h]
theorem p2_pow {i j : Int} (h : 0 ≤ j ∧ j ≤ 1000000 ∧ i.natAbs < 2 ^ 64) : p2 .pow (.int i) (.int j) = some (.int (i ^ j.toNat)) := by
  show (if 0 ≤ j ∧ j ≤ 1000000 ∧ i.natAbs < 2 ^ 64 then some (D.int (i ^ j.toNat)) else none) = _
  rw [if_pos h]
theorem eqD_int (i j : Int) : eqD (.int i) (.int j) = some (decide (i = j)) := by
  show some (PyData.eqv (.int i) (.int j)) = _
  simp only [PyData.eqv]
  rw [Bool.beq_eq_decide_eq]
theorem p2_eqi (i j : Int) : p2 .eq (.int i) (.int j) = some (.bl (decide (i = j))) := by
  show (eqA (.int i) (.int j)).map D.bl = _
  rw [show eqA (.int i) (.int j) = eqD (.int i) (.int j) from rfl]
  rw [eqD_int]
  rfl
theorem p2_nei (i j : Int) : p2 .ne (.int i) (.int j) = some (.bl (!decide (i = j))) := by
  show (eqA (.int i) (.int j)).map (fun r => D.bl (!r)) = _
  rw [show eqA (.int i) (.int j) = eqD (.int i) (.int j) from rfl]
  rw [eqD_int]
  rfl
/-! ### the draws that all laws share -/
abbrev dI (ns : List Int) : List D := dIz ns
abbrev kDraw : List D := kDrawZ
abbrev St (ls cs : List Int) (r : Int) (t : Nat) (R : List D) : Store := StZ ls cs r t R
def Dr (n : Nat) (R : List D) (S : Store) : Prop := ∃ ls cs r t, S = St ls cs r t R ∧ t ≤ n
def irBegun : IR := (.cons (.set (.gn 1) (.boxed (.lc [2] (.gn 2) (.iv (.var 0)) (.tb (.o2 .ge (.bi .abs (.cons (.var 2) .nil)) (.o2 .pow (.ki 10) (.ki 18)))) (.o2 .sub (.bi .abs (.cons (.var 2) .nil)) (.o2 .pow (.ki 10) (.ki 18))))))
  (.cons (.rt (.boxed (.dct (.cons (.ks "large") (.cons (.var 1) (.cons (.ks "cells") (.cons (.lc [2] (.gn 2) (.iv (.var 0)) (.kb true) (.o2 .mod (.bi .abs (.cons (.var 2) .nil)) (.ki 2147483629))) (.cons (.ks "rest") (.cons (.ki 0) (.cons (.ks "turn") (.cons (.ki 0) .nil)))))))))))
  .nil))
def irMixed : IR := (.cons (.set (.gn 1) (.o2 .add (.idx (.var 0) (.ks "turn")) (.ki 1)))
  (.cons (.bset (.var 0) (.ks "turn") (.var 1))
  (.cons (.set (.gn 2) (.ki 0))
  (.cons (.forl (.gn 3) (.iv (.lst (.cons (.ki 2147483629) (.cons (.ki 2147483587) (.cons (.ki 2147483579) (.cons (.ki 2147483563) .nil))))))
 (.cons (.set (.gn 4) (.o2 .add (.o2 .mul (.ki 104729) (.var 1)) (.o2 .fdiv (.var 3) (.ki 7))))
  (.cons (.forl (.gn 5) (.iv (.idx (.var 0) (.ks "cells")))
 (.cons (.set (.gn 4) (.o2 .mod (.o2 .add (.o2 .add (.o2 .mul (.var 4) (.ki 48271)) (.var 5)) (.var 1)) (.var 3)))
  .nil))
  (.cons (.set (.gn 2) (.o2 .add (.o2 .mul (.var 2) (.ki 2147483647)) (.o2 .mod (.o2 .pow (.var 4) (.ki 5)) (.var 3))))
  .nil))))
  (.cons (.rt (.var 2))
  .nil)))))
def irTake (mixed : Nat) : IR := (.cons (.cond (.tand (.tb (.o2 .eq (.idx (.var 0) (.ks "rest")) (.ki 0))) (.tb (.o2 .ne (.idx (.var 0) (.ks "large")) (.lst .nil))))
 (.cons (.bset (.var 0) (.ks "rest") (.bpop (.idx (.var 0) (.ks "large")) (.cons (.ki 0) .nil)))
  .nil)
 (.cons (.cond (.tb (.o2 .eq (.idx (.var 0) (.ks "rest")) (.ki 0)))
 (.cons (.bset (.var 0) (.ks "rest") (.call mixed (.cons (.var 0) .nil)))
  .nil)
 .nil)
  .nil))
  (.cons (.set (.gn 2) (.o2 .mod (.idx (.var 0) (.ks "rest")) (.var 1)))
  (.cons (.bset (.var 0) (.ks "rest") (.o2 .fdiv (.idx (.var 0) (.ks "rest")) (.var 1)))
  (.cons (.rt (.var 2))
  .nil))))
def irPick (take : Nat) : IR := (.cons (.rt (.idx (.var 1) (.call take (.cons (.var 0) (.cons (.bi .len (.cons (.var 1) .nil)) .nil)))))
  .nil)
def irShuffled (take : Nat) : IR := (.cons (.par [(2, false), (3, true)] (.cons (.boxed (.bi .list (.cons (.var 1) .nil))) (.cons (.lst .nil) .nil)))
  (.cons (.whl (.tb (.o2 .ne (.var 2) (.lst .nil)))
 (.cons (.app 3 (.bpop (.var 2) (.cons (.call take (.cons (.var 0) (.cons (.bi .len (.cons (.var 2) .nil)) .nil))) .nil)))
  .nil))
  (.cons (.free 3) (.cons (.rt (.var 3))
  .nil))))

section
variable {T : Tb} {C : Calls} {W k : Nat}
theorem sts_one {de : Env} {S : Store} {s t : IR} {Q : Out → Store → Prop} (h : Wp (st T C W de s) S fun o S' => match o with | .nx d1 => Wp (sts T C W d1 t) S' Q | o => Q o S') : Wp (sts T C W de (.cons s t)) S Q := by
  show Wp (bnd (st T C W de s) fun o => match o with | .nx d1 => sts T C W d1 t | o => ret o) S Q
  refine wp_bnd (h.imp fun o S' q => ?_)
  cases o with
  | nx d1 => exact q
  | rtv d f => exact wp_ret q
  | bk d => exact wp_ret q
  | ct d => exact wp_ret q
theorem sane_dI (ns : List Int) (n : Nat) : (dI ns).all (sane n) = true := by
  rw [List.all_eq_true]
  intro x hx
  obtain ⟨j, _, rfl⟩ := List.mem_map.mp hx
  cases n <;> rfl
theorem o2_int (o : O2) (i : Int) (d : D) (S : Store) : o2R T C o (.int i) d S = lift (p2 o (.int i) (view S d)) S := rfl
theorem o2_lst (o : O2) (i : List D) (d : D) (S : Store) : o2R T C o (.lst i) d S = lift (p2 o (.lst i) (view S d)) S := rfl
theorem o2_box0 (o : O2) (d : D) (ls cs : List Int) (r : Int) (t : Nat) (R : List D) : o2R T C o (.box 0) d (St ls cs r t R) = lift (p2 o (.lst (dI ls)) (view (St ls cs r t R) d)) (St ls cs r t R) := rfl
theorem idx_rest (ls cs : List Int) (r : Int) (t : Nat) (R : List D) : idxR T C (.box 1) (.str "rest") (St ls cs r t R) = .ok (.int r) (St ls cs r t R) := by kernel_rfl
theorem idx_large (ls cs : List Int) (r : Int) (t : Nat) (R : List D) : idxR T C (.box 1) (.str "large") (St ls cs r t R) = .ok (.box 0) (St ls cs r t R) := by kernel_rfl
/-- the inner walk over the cells -/
theorem mixed_in (d0 d2 d3 : Option EV) (tu pr : Int) (hp : 0 < pr) (S : Store) : ∀ (cs : List Int) (bl : Int) (d5 : Option EV), ∃ (bl' : Int) (d5' : Option EV), (loop (dI cs) [d0, some (.val (.int tu)), d2, some (.val (.int pr)), some (.val (.int bl)), d5] (.gn 5) (fun d1 => sts T C W d1 (.cons (.set (.gn 4) (.o2 .mod (.o2 .add (.o2 .add (.o2 .mul (.var 4) (.ki 48271)) (.var 5)) (.var 1)) (.var 3))) .nil)) S)
      = .ok (.nx [d0, some (.val (.int tu)), d2, some (.val (.int pr)), some (.val (.int bl')), d5']) S ∧ ((cs = [] ∧ bl' = bl) ∨ (0 ≤ bl' ∧ bl' < pr))
  | [], bl, d5 => ⟨bl, d5, rfl, .inl ⟨rfl, rfl⟩⟩
  | c :: cs, bl, d5 => by
    have e : sts T C W [d0, some (.val (.int tu)), d2, some (.val (.int pr)), some (.val (.int bl)), some (.val (.int c))] (.cons (.set (.gn 4) (.o2 .mod (.o2 .add (.o2 .add (.o2 .mul (.var 4) (.ki 48271)) (.var 5)) (.var 1)) (.var 3))) .nil) S = .ok (.nx [d0, some (.val (.int tu)), d2, some (.val (.int pr)), some (.val (.int ((bl * 48271 + c + tu) % pr))), some (.val (.int c))]) S := by
      have e1 : p2 .mul (.int bl) (.int 48271) = some (.int (bl * 48271)) := p2_mulR (by decide)
      have e2 : p2 .mod (.int (bl * 48271 + c + tu)) (.int pr) = some (.int ((bl * 48271 + c + tu) % pr)) := p2_mod hp
      simp only [o2_int, sts, st, ev, bnd, Res.bnd, ret, lift, tryL, asg, List.getElem?_cons_succ, List.getElem?_cons_zero, v_int, e1, e2, p2_add, List.length_cons, List.length_nil, Nat.lt_irrefl, List.set_cons_succ, List.set_cons_zero]
      rfl
    obtain ⟨bl', d5', h, hr⟩ := mixed_in d0 d2 d3 tu pr hp S cs ((bl * 48271 + c + tu) % pr) (some (.val (.int c)))
    refine ⟨bl', d5', ?_, .inr ?_⟩
    · show Res.bnd (sts T C W [d0, some (.val (.int tu)), d2, some (.val (.int pr)), some (.val (.int bl)), some (.val (.int c))] _ S) _ = _
      rw [e]
      exact h
    · rcases hr with ⟨_, rfl⟩ | hr
      · exact ⟨Int.emod_nonneg _ (by omega), Int.emod_lt_of_pos _ hp⟩
      · exact hr
end
end Y
/-! M2: the shared draws. -/
namespace Y
open PySem L2
open Enc (enc)
section
variable {T : Tb} {C : Calls} {W k : Nat}
def primes : List Int := [2147483629, 2147483587, 2147483579, 2147483563]
theorem cells_at (ls cs : List Int) (r : Int) (t : Nat) (R : List D) : pIdx (view (St ls cs r t R) (.box 1)) (.str "cells") = some (.lst (dI cs)) := by kernel_rfl
theorem mixed_ok {i : Nat} (hT : T.fns[i]? = some ⟨1, 6, irMixed, none, false⟩) (ls cs : List Int) (r : Int) (t : Nat) (R : List D) (ht : t < 2 ^ 40) : Wp (callF T W (k + 1) i [.box 1]) (St ls cs r t R) fun x S' => ∃ v, x.1 = .int v ∧ S' = St ls cs r (t + 1) R := by
  refine wp_call hT rfl rfl ?_
  refine sts_one (wp_eq (a := .nx [some (.val (.box 1)), some (.val (.int ((t + 1 : Nat) : Int))), none, none, none, none]) (S' := St ls cs r t R) (by kernel_rfl) ?_)
  refine sts_one (wp_eq (a := .nx [some (.val (.box 1)), some (.val (.int ((t + 1 : Nat) : Int))), none, none, none, none]) (S' := St ls cs r (t + 1) R) (by kernel_rfl) ?_)
  refine sts_one (wp_eq (a := .nx [some (.val (.box 1)), some (.val (.int ((t + 1 : Nat) : Int))), some (.val (.int 0)), none, none, none]) (S' := St ls cs r (t + 1) R) (by kernel_rfl) ?_)
  have key : ∀ (S : Store) (Q : Out → Store → Prop), S = St ls cs r (t + 1) R → (∀ f d3 d4 d5, Q (.nx [some (.val (.box 1)), some (.val (.int ((t + 1 : Nat) : Int))), some (.val (.int f)), d3, d4, d5]) S) → Wp (loop (dI primes) [some (.val (.box 1)), some (.val (.int ((t + 1 : Nat) : Int))), some (.val (.int 0)), none, none, none] (.gn 3) (fun d1 => sts T (callF T W k) W d1 (.cons (.set (.gn 4) (.o2 .add (.o2 .mul (.ki 104729) (.var 1)) (.o2 .fdiv (.var 3) (.ki 7))))
  (.cons (.forl (.gn 5) (.iv (.idx (.var 0) (.ks "cells")))
 (.cons (.set (.gn 4) (.o2 .mod (.o2 .add (.o2 .add (.o2 .mul (.var 4) (.ki 48271)) (.var 5)) (.var 1)) (.var 3)))
  .nil))
  (.cons (.set (.gn 2) (.o2 .add (.o2 .mul (.var 2) (.ki 2147483647)) (.o2 .mod (.o2 .pow (.var 4) (.ki 5)) (.var 3))))
  .nil))))) S Q := by
    intro S Q hS hQ
    refine wp_loop (I := fun items de S' => S' = S ∧ (∀ x ∈ items, ∃ p ∈ primes, x = .int p) ∧ ∃ f d3 d4 d5, de = [some (.val (.box 1)), some (.val (.int ((t + 1 : Nat) : Int))), some (.val (.int f)), d3, d4, d5]) _ _ _ ⟨rfl, fun x hx => ?_, 0, none, none, none, rfl⟩ ?_ ?_
    · obtain ⟨p, hp, e⟩ := List.mem_map.mp hx
      exact ⟨p, hp, e.symm⟩
    · rintro x rest de S' ⟨rfl, hi, f, d3, d4, d5, rfl⟩
      obtain ⟨p, hp, rfl⟩ := hi x List.mem_cons_self
      have hp1 : 0 < p ∧ p < 2147483648 := by
        revert hp
        unfold primes
        simp only [List.mem_cons, List.not_mem_nil, or_false]
        omega
      refine ⟨_, rfl, ?_⟩
      have e1 : p2 .mul (.int 104729) (.int ((t + 1 : Nat) : Int)) = some (.int (104729 * ((t + 1 : Nat) : Int))) := p2_mulL (by decide)
      have e2 : p2 .fdiv (.int p) (.int 7) = some (.int (p / 7)) := p2_fdiv (by decide)
      refine sts_one (wp_eq (a := .nx [some (.val (.box 1)), some (.val (.int ((t + 1 : Nat) : Int))), some (.val (.int f)), some (.val (.int p)), some (.val (.int (104729 * ((t + 1 : Nat) : Int) + p / 7))), d5]) (S' := S') ?_ ?_)
      · simp only [o2_int, o2_lst, o2_box0, idx_rest, idx_large, sts, st, ev, evl, evo, evt, evi, bnd, Res.bnd, Res.hush, hush, ret, lift, tryL, asg, asg.asgs, List.getElem?_cons_succ, List.getElem?_cons_zero, List.length_cons, List.length_nil, List.set_cons_succ, List.set_cons_zero, sizeOk0, reduceIte, v_int, e1, e2, p2_add]
        rfl
      obtain ⟨bl, d5', hl, hb⟩ := mixed_in (T := T) (C := callF T W k) (W := W) (some (.val (.box 1))) (some (.val (.int f))) (some (.val (.int p))) ((t + 1 : Nat) : Int) p hp1.1 S' cs (104729 * ((t + 1 : Nat) : Int) + p / 7) d5
      refine sts_one (wp_eq (a := .nx [some (.val (.box 1)), some (.val (.int ((t + 1 : Nat) : Int))), some (.val (.int f)), some (.val (.int p)), some (.val (.int bl)), d5']) (S' := S') ?_ ?_)
      · have ei : evi T (callF T W k) [some (.val (.box 1)), some (.val (.int ((t + 1 : Nat) : Int))), some (.val (.int f)), some (.val (.int p)), some (.val (.int (104729 * ((t + 1 : Nat) : Int) + p / 7))), d5] (.iv (.idx (.var 0) (.ks "cells"))) S' = .ok (dI cs) S' := by
          rw [hS]
          kernel_rfl
        show Res.bnd (evi T (callF T W k) _ _ S') _ = _
        rw [ei]
        exact hl
      have hbl : bl.natAbs < 2 ^ 64 := by
        rcases hb with ⟨_, rfl⟩ | hb
        · have : p / 7 < 2147483648 := by omega
          have : 0 ≤ p / 7 := by omega
          omega
        · omega
      have e4 : p2 .pow (.int bl) (.int 5) = some (.int (bl ^ (5 : Int).toNat)) := p2_pow ⟨by decide, by decide, hbl⟩
      have e5 : ∀ b : Int, p2 .mod (.int b) (.int p) = some (.int (b % p)) := fun b => p2_mod hp1.1
      have e6 : p2 .mul (.int f) (.int 2147483647) = some (.int (f * 2147483647)) := p2_mulR (by decide)
      refine sts_one (wp_eq (a := .nx [some (.val (.box 1)), some (.val (.int ((t + 1 : Nat) : Int))), some (.val (.int (f * 2147483647 + bl ^ (5 : Int).toNat % p))), some (.val (.int p)), some (.val (.int bl)), d5']) (S' := S') ?_ ?_)
      · simp only [o2_int, o2_lst, o2_box0, idx_rest, idx_large, sts, st, ev, evl, evo, evt, evi, bnd, Res.bnd, Res.hush, hush, ret, lift, tryL, asg, asg.asgs, List.getElem?_cons_succ, List.getElem?_cons_zero, List.length_cons, List.length_nil, List.set_cons_succ, List.set_cons_zero, sizeOk0, reduceIte, v_int, p2_add, e4, e5, e6]
        rfl
      exact wp_ret ⟨rfl, fun x hx => hi x (List.mem_cons_of_mem _ hx), _, _, _, _, rfl⟩
    · rintro de S' ⟨rfl, _, f, d3, d4, d5, rfl⟩
      exact hQ f d3 d4 d5
  refine sts_one ?_
  show Wp (bnd (evi T (callF T W k) _ _) fun items => loop items _ _ _) _ _
  refine wp_bnd (wp_eq (a := dI primes) (S' := St ls cs r (t + 1) R) (by kernel_rfl) ?_)
  refine key _ _ rfl fun f d3 d4 d5 => ?_
  refine sts_one (wp_eq (a := .rtv (.int f) false) (S' := St ls cs r (t + 1) R) rfl ?_)
  exact ⟨f, rfl, rfl⟩
end
end Y
/-! M4: the shared draws: take, pick, shuffled, begun. -/
namespace Y
open PySem L2
open Enc (enc)
section
variable {T : Tb} {C : Calls} {W k : Nat}
theorem rest_at (ls cs : List Int) (r : Int) (t : Nat) (R : List D) : pIdx (view (St ls cs r t R) (.box 1)) (.str "rest") = some (.int r) := by kernel_rfl
theorem large_at (ls cs : List Int) (r : Int) (t : Nat) (R : List D) : pIdx (view (St ls cs r t R) (.box 1)) (.str "large") = some (.box 0) := by kernel_rfl
theorem view0 (ls cs : List Int) (r : Int) (t : Nat) (R : List D) : view (St ls cs r t R) (.box 0) = .lst (dI ls) := rfl
theorem ne_nil (ls : List D) (h : ls.all (sane 60) = true) : p2 .ne (.lst ls) (.lst []) = some (.bl (!ls.isEmpty)) := by
  obtain ⟨r, h1, h2⟩ := ne_sane (a := .lst ls) (b := .lst []) (n := 61) (m := 1) h rfl (by decide) (by decide)
  rw [h1]
  congr 2
  rw [Bool.eq_iff_iff, h2]
  cases ls <;> simp
theorem eq_nil (ls : List D) (h : ls.all (sane 60) = true) : p2 .eq (.lst ls) (.lst []) = some (.bl ls.isEmpty) := by
  obtain ⟨r, h1, h2⟩ := eq_sane (a := .lst ls) (b := .lst []) (n := 61) (m := 1) h rfl (by decide) (by decide)
  rw [h1]
  congr 2
  rw [Bool.eq_iff_iff, h2]
  cases ls <;> simp
/-- rest // size, kept -/
theorem take_end (size : Int) (hs : 0 < size ∧ size < 1073741824) (d2 : Option EV) (ls cs : List Int) (r : Int) (t : Nat) (R : List D) (Q : Out → Store → Prop) (h : Q (.rtv (.int (r % size)) false) (St ls cs (r / size) t R)) :
    Wp (sts T C W [some (.val (.box 1)), some (.val (.int size)), d2] (.cons (.set (.gn 2) (.o2 .mod (.idx (.var 0) (.ks "rest")) (.var 1)))
  (.cons (.bset (.var 0) (.ks "rest") (.o2 .fdiv (.idx (.var 0) (.ks "rest")) (.var 1)))
  (.cons (.rt (.var 2))
  .nil)))) (St ls cs r t R) Q := by
  refine sts_one (wp_eq (a := .nx [some (.val (.box 1)), some (.val (.int size)), some (.val (.int (r % size)))]) (S' := St ls cs r t R) ?_ ?_)
  · simp only [o2_int, o2_lst, o2_box0, idx_rest, idx_large, sts, st, ev, evl, evo, evt, evi, bnd, Res.bnd, Res.hush, hush, ret, lift, tryL, asg, asg.asgs, List.getElem?_cons_succ, List.getElem?_cons_zero, List.length_cons, List.length_nil, List.set_cons_succ, List.set_cons_zero, sizeOk0, reduceIte, v_str, v_int, rest_at, p2_mod hs.1]
    rfl
  refine sts_one (wp_eq (a := .nx [some (.val (.box 1)), some (.val (.int size)), some (.val (.int (r % size)))]) (S' := St ls cs (r / size) t R) ?_ ?_)
  · simp only [o2_int, o2_lst, o2_box0, idx_rest, idx_large, sts, st, ev, evl, evo, evt, evi, bnd, Res.bnd, Res.hush, hush, ret, lift, tryL, asg, asg.asgs, List.getElem?_cons_succ, List.getElem?_cons_zero, List.length_cons, List.length_nil, List.set_cons_succ, List.set_cons_zero, sizeOk0, reduceIte, v_str, v_int, rest_at, p2_fdiv hs]
    kernel_rfl
  exact sts_one (wp_eq (a := .rtv (.int (r % size)) false) (S' := St ls cs (r / size) t R) rfl h)
theorem pop_front (l : Int) (ls cs : List Int) (r : Int) (t : Nat) (R : List D) : popAt 0 (dI (l :: ls)) 0 (St (l :: ls) cs r t R) = .ok (.int l) (St ls cs r t R) := by
  have : ixN (dI (l :: ls)).length 0 = some 0 := by
    unfold ixN
    rw [if_pos (by decide), if_pos (by simp)]
    rfl
  unfold popAt
  rw [if_pos (by decide), this]
  rfl
theorem take_ok {i m : Nat} (hT : T.fns[i]? = some ⟨2, 3, irTake m, none, false⟩) (hM : T.fns[m]? = some ⟨1, 6, irMixed, none, false⟩) {n : Nat} {R S : List D} (h : Dr n R S) (hn : n < 2 ^ 40) {size : Int} (hs : 0 < size ∧ size < 1073741824) :
    Wp (callF T W (k + 2) i [.box 1, .int size]) S fun x S' => ∃ v, x.1 = .int v ∧ 0 ≤ v ∧ v < size ∧ Dr (n + 1) R S' := by
  obtain ⟨ls, cs, r, t, rfl, ht⟩ := h
  refine wp_callE (de0 := [some (.val (.box 1)), some (.val (.int size)), none]) hT rfl rfl rfl ?_
  have fin : ∀ (ls : List Int) (r : Int) (t : Nat), t ≤ n + 1 → Wp (sts T (callF T W (k + 1)) W [some (.val (.box 1)), some (.val (.int size)), none] (.cons (.set (.gn 2) (.o2 .mod (.idx (.var 0) (.ks "rest")) (.var 1)))
  (.cons (.bset (.var 0) (.ks "rest") (.o2 .fdiv (.idx (.var 0) (.ks "rest")) (.var 1)))
  (.cons (.rt (.var 2))
  .nil)))) (St ls cs r t R) fun o S' => match o with | .nx _ => ∃ v, (D.non) = .int v ∧ 0 ≤ v ∧ v < size ∧ Dr (n + 1) R S' | .rtv d f => ∃ v, d = .int v ∧ 0 ≤ v ∧ v < size ∧ Dr (n + 1) R S' | _ => False := fun ls r t ht =>
    take_end size hs none ls cs r t R _ ⟨_, rfl, Int.emod_nonneg _ (by omega), Int.emod_lt_of_pos _ hs.1, ls, cs, _, t, rfl, ht⟩
  refine sts_one ?_
  show Wp (bnd (evt T _ _ _) fun c => if c = true then sts T _ W _ _ else sts T _ W _ _) _ _
  have e0 : ∀ r : Int, p2 .eq (.int r) (.int 0) = some (.bl (decide (r = 0))) := fun r => p2_eqi r 0
  by_cases hr : r = 0
  · subst hr
    cases ls with
    | nil =>
      refine wp_bnd (wp_eq (a := false) (S' := St [] cs 0 t R) ?_ ?_)
      · simp only [o2_int, o2_lst, o2_box0, idx_rest, idx_large, sts, st, ev, evl, evo, evt, evi, bnd, Res.bnd, Res.hush, hush, ret, lift, tryL, asg, asg.asgs, List.getElem?_cons_succ, List.getElem?_cons_zero, List.length_cons, List.length_nil, List.set_cons_succ, List.set_cons_zero, sizeOk0, reduceIte, v_str, v_int, rest_at, large_at, e0, view0, v_lst, decide_true, if_true, ne_nil (dI []) rfl]
        rfl
      rw [if_neg (by simp)]
      refine sts_one ?_
      show Wp (bnd (evt T _ _ _) fun c => if c = true then sts T _ W _ _ else sts T _ W _ _) _ _
      refine wp_bnd (wp_eq (a := true) (S' := St [] cs 0 t R) ?_ ?_)
      · simp only [o2_int, o2_lst, o2_box0, idx_rest, idx_large, sts, st, ev, evl, evo, evt, evi, bnd, Res.bnd, Res.hush, hush, ret, lift, tryL, asg, asg.asgs, List.getElem?_cons_succ, List.getElem?_cons_zero, List.length_cons, List.length_nil, List.set_cons_succ, List.set_cons_zero, sizeOk0, reduceIte, v_str, v_int, rest_at, e0, decide_true]
      rw [if_pos rfl]
      refine sts_one ?_
      show Wp (bnd (ev T _ _ (.call m _)) _) _ _
      refine wp_bnd ?_
      show Wp (bnd (evl T _ _ _) _) _ _
      refine wp_bnd (wp_eq (a := [.box 1]) (S' := St [] cs 0 t R) rfl ?_)
      refine wp_bnd ((mixed_ok hM [] cs 0 t R (by omega)).imp fun x S' hx => ?_)
      obtain ⟨v, e, rfl⟩ := hx
      rw [e]
      refine wp_ret ?_
      refine wp_eq (a := .nx [some (.val (.box 1)), some (.val (.int size)), none]) (S' := St [] cs v (t + 1) R) (by kernel_rfl) ?_
      exact wp_ret (wp_ret (fin [] v (t + 1) (by omega)))
    | cons l ls =>
      refine wp_bnd (wp_eq (a := true) (S' := St (l :: ls) cs 0 t R) ?_ ?_)
      · simp only [o2_int, o2_lst, o2_box0, idx_rest, idx_large, sts, st, ev, evl, evo, evt, evi, bnd, Res.bnd, Res.hush, hush, ret, lift, tryL, asg, asg.asgs, List.getElem?_cons_succ, List.getElem?_cons_zero, List.length_cons, List.length_nil, List.set_cons_succ, List.set_cons_zero, sizeOk0, reduceIte, v_str, v_int, rest_at, large_at, e0, view0, v_lst, decide_true, if_true, ne_nil (dI (l :: ls)) (sane_dI _ _)]
        rfl
      rw [if_pos rfl]
      refine sts_one (wp_eq (a := .nx [some (.val (.box 1)), some (.val (.int size)), none]) (S' := St ls cs l t R) ?_ ?_)
      · have e : ev T (callF T W (k + 1)) [some (.val (.box 1)), some (.val (.int size)), none] (.bpop (.idx (.var 0) (.ks "large")) (.cons (.ki 0) .nil)) (St (l :: ls) cs 0 t R) = popAt 0 (dI (l :: ls)) 0 (St (l :: ls) cs 0 t R) := by kernel_rfl
        show Res.bnd (ev T (callF T W (k + 1)) [some (.val (.box 1)), some (.val (.int size)), none] (.bpop (.idx (.var 0) (.ks "large")) (.cons (.ki 0) .nil)) (St (l :: ls) cs 0 t R)) _ = _
        rw [e, pop_front]
        kernel_rfl
      exact wp_ret (fin ls l t (by omega))
  · refine wp_bnd (wp_eq (a := false) (S' := St ls cs r t R) ?_ ?_)
    · simp only [o2_int, o2_lst, o2_box0, idx_rest, idx_large, sts, st, ev, evl, evo, evt, evi, bnd, Res.bnd, Res.hush, hush, ret, lift, tryL, asg, asg.asgs, List.getElem?_cons_succ, List.getElem?_cons_zero, List.length_cons, List.length_nil, List.set_cons_succ, List.set_cons_zero, sizeOk0, reduceIte, v_str, v_int, rest_at, e0, decide_eq_false hr, if_false]
      rfl
    rw [if_neg (by simp)]
    refine sts_one ?_
    show Wp (bnd (evt T _ _ _) fun c => if c = true then sts T _ W _ _ else sts T _ W _ _) _ _
    refine wp_bnd (wp_eq (a := false) (S' := St ls cs r t R) ?_ ?_)
    · simp only [o2_int, o2_lst, o2_box0, idx_rest, idx_large, sts, st, ev, evl, evo, evt, evi, bnd, Res.bnd, Res.hush, hush, ret, lift, tryL, asg, asg.asgs, List.getElem?_cons_succ, List.getElem?_cons_zero, List.length_cons, List.length_nil, List.set_cons_succ, List.set_cons_zero, sizeOk0, reduceIte, v_str, v_int, rest_at, e0, decide_eq_false hr]
    rw [if_neg (by simp)]
    exact wp_ret (wp_ret (fin ls r t (by omega)))
end
end Y
/-! M5: pick, shuffled. -/
namespace Y
open PySem L2
open Enc (enc)
section
variable {T : Tb} {C : Calls} {W k : Nat}
theorem ixN_in {n : Nat} {v : Int} (h0 : 0 ≤ v) (h1 : v < n) : ixN n v = some v.toNat ∧ v.toNat < n := by
  unfold ixN
  rw [if_pos h0, if_pos h1]
  exact ⟨rfl, by omega⟩
theorem atI_in {α : Type} {xs : List α} {v : Int} (h0 : 0 ≤ v) (h1 : v < xs.length) : ∃ h : v.toNat < xs.length, atI xs v = some xs[v.toNat] := by
  obtain ⟨e, h⟩ := ixN_in h0 h1
  refine ⟨h, ?_⟩
  show (ixN xs.length v).bind (fun j => xs[j]?) = _
  rw [e]
  exact List.getElem?_eq_getElem h
theorem pick_ok {i j m : Nat} (hP : T.fns[i]? = some ⟨2, 2, irPick j, none, false⟩) (hT : T.fns[j]? = some ⟨2, 3, irTake m, none, false⟩) (hM : T.fns[m]? = some ⟨1, 6, irMixed, none, false⟩) {n : Nat} {R S : List D} (h : Dr n R S) (hn : n < 2 ^ 40) {xs : List D} (hx : 0 < xs.length) (hx2 : xs.length < 1073741824) :
    Wp (callF T W (k + 3) i [.box 1, .lst xs]) S fun x S' => x.1 ∈ xs ∧ Dr (n + 1) R S' := by
  refine wp_callE (de0 := [some (.val (.box 1)), some (.val (.lst xs))]) hP rfl rfl rfl ?_
  refine sts_one ?_
  show Wp (bnd (ev T _ _ (.idx (.var 1) (.call j _))) fun d => ret (Out.rtv d false)) _ _
  refine wp_bnd ?_
  show Wp (bnd (ret (D.lst xs)) _) _ _
  refine wp_bnd (wp_ret ?_)
  refine wp_bnd ?_
  show Wp (bnd (evl T _ _ _) _) _ _
  refine wp_bnd (wp_eq (a := [.box 1, .int xs.length]) (S' := S) rfl ?_)
  refine wp_bnd ((take_ok hT hM h hn (size := (xs.length : Int)) ⟨by omega, by omega⟩).imp fun x S' hx => ?_)
  obtain ⟨v, e, h0, h1, hd⟩ := hx
  rw [e]
  refine wp_ret ?_
  obtain ⟨hv, e2⟩ := atI_in h0 h1
  refine wp_eq (a := xs[v.toNat]) (S' := S') ?_ ?_
  · show lift (atI xs v) S' = _
    rw [e2]
    rfl
  · exact wp_ret ⟨List.getElem_mem hv, hd⟩
theorem perm_erase {α : Type} : ∀ (l : List α) (i : Nat) (h : i < l.length), (l[i] :: l.eraseIdx i).Perm l
  | x :: l, 0, _ => List.Perm.refl _
  | x :: l, i + 1, h => (List.Perm.swap _ _ _).trans (List.Perm.cons _ (perm_erase l i (by simpa using h)))
theorem St_len (ls cs : List Int) (r : Int) (t : Nat) (R : List D) : (St ls cs r t R).length = 2 + R.length := by
  show R.length + 1 + 1 = _
  omega
theorem St_at (ls cs : List Int) (r : Int) (t : Nat) (R : List D) (d : D) : (St ls cs r t (R ++ [d]))[2 + R.length]? = some d := by
  show (_ :: _ :: (R ++ [d]))[2 + R.length]? = _
  rw [show 2 + R.length = R.length + 1 + 1 from by omega, List.getElem?_cons_succ, List.getElem?_cons_succ, List.getElem?_append_right (Nat.le_refl _), Nat.sub_self]
  rfl
theorem St_set (ls cs : List Int) (r : Int) (t : Nat) (R : List D) (d e : D) : (St ls cs r t (R ++ [d])).set (2 + R.length) e = St ls cs r t (R ++ [e]) := by
  show (_ :: _ :: (R ++ [d])).set (2 + R.length) e = _
  rw [show 2 + R.length = R.length + 1 + 1 from by omega, List.set_cons_succ, List.set_cons_succ, List.set_append_right _ _ (Nat.le_refl _), Nat.sub_self]
  rfl
theorem Dr_at {n : Nat} {R S : List D} {d : D} (h : Dr n (R ++ [d]) S) : S[2 + R.length]? = some d := by
  obtain ⟨ls, cs, r, t, rfl, _⟩ := h
  exact St_at _ _ _ _ _ _
theorem Dr_set {n : Nat} {R S : List D} {d : D} (h : Dr n (R ++ [d]) S) (e : D) : Dr n (R ++ [e]) (S.set (2 + R.length) e) := by
  obtain ⟨ls, cs, r, t, rfl, ht⟩ := h
  exact ⟨ls, cs, r, t, St_set _ _ _ _ _ _ _, ht⟩
theorem view_box {S : Store} {n : Nat} {d : D} (h : S[n]? = some d) : view S (.box n) = d := by
  show S.getD n .non = d
  rw [List.getD_eq_getElem?_getD, h]
  rfl
theorem shuffled_ok {i j m : Nat} (hP : T.fns[i]? = some ⟨2, 4, irShuffled j, none, false⟩) (hT : T.fns[j]? = some ⟨2, 3, irTake m, none, false⟩) (hM : T.fns[m]? = some ⟨1, 6, irMixed, none, false⟩) {n : Nat} {R S : List D} (h : Dr n R S) {xs : List D} (hx2 : xs.length < 100000) (hn : n + xs.length < 2 ^ 40) (hW : xs.length < W) (hs : xs.all (sane 60) = true) :
    Wp (callF T W (k + 3) i [.box 1, .lst xs]) S fun x S' => ∃ ys, x.1 = .lst ys ∧ ys.Perm xs ∧ Dr (n + xs.length) (R ++ [.lst []]) S' := by
  obtain ⟨ls, cs, r, t, rfl, ht⟩ := h
  refine wp_callE (de0 := [some (.val (.box 1)), some (.val (.lst xs)), none, none]) hP rfl rfl rfl ?_
  refine sts_one (wp_eq (a := .nx [some (.val (.box 1)), some (.val (.lst xs)), some (.val (.box (2 + R.length))), some (.own (.lst []))]) (S' := St ls cs r t (R ++ [.lst xs])) ?_ ?_)
  · show Res.ok (Out.nx [_, _, some (EV.val (.box (St ls cs r t R).length)), _]) (St ls cs r t R ++ [.lst xs]) = _
    rw [St_len]
    rfl
  have all_sub : ∀ {ys : List D}, (∀ y ∈ ys, y ∈ xs) → ys.all (sane 60) = true := fun h => List.all_eq_true.mpr fun y hy => List.all_eq_true.mp hs y (h y hy)
  refine sts_one ?_
  show Wp (wloop W (fun d1 => evt T (callF T W (k + 2)) d1 _) (fun d1 => sts T (callF T W (k + 2)) W d1 _) _) _ _
  refine wp_wloop (I := fun q de S => ∃ left acc, q = left.length ∧ de = [some (.val (.box 1)), some (.val (.lst xs)), some (.val (.box (2 + R.length))), some (.own (.lst acc))] ∧ Dr (n + acc.length) (R ++ [.lst left]) S ∧ (acc ++ left).Perm xs) ?_ W xs.length _ _ hW ⟨xs, [], rfl, rfl, ⟨ls, cs, r, t, rfl, ht⟩, List.Perm.refl _⟩
  rintro q de S ⟨left, acc, rfl, rfl, hd, hp⟩
  have hl : acc.length + left.length = xs.length := by rw [← List.length_append]; exact hp.length_eq
  have sub : ∀ y ∈ left, y ∈ xs := fun y hy => hp.mem_iff.mp (List.mem_append_right _ hy)
  have va : view S (.box (2 + R.length)) = .lst left := view_box (Dr_at hd)
  have vb : o2R T (callF T W (k + 2)) .ne (.box (2 + R.length)) (.lst []) S = .ok (.bl (!left.isEmpty)) S := by
    unfold o2R
    rw [va]
    show lift (p2 .ne (.lst left) (.lst [])) S = _
    rw [ne_nil left (all_sub sub)]
    rfl
  refine wp_eq (a := !left.isEmpty) (S' := S) ?_ ?_
  · simp only [vb, o2_int, o2_lst, o2_box0, idx_rest, idx_large, sts, st, ev, evl, evo, evt, evi, bnd, Res.bnd, Res.hush, hush, ret, lift, tryL, asg, asg.asgs, List.getElem?_cons_succ, List.getElem?_cons_zero, List.length_cons, List.length_nil, List.set_cons_succ, List.set_cons_zero, sizeOk0, reduceIte, va, v_lst, ne_nil left (all_sub sub)]
  cases left with
  | nil =>
    rw [if_neg (by simp)]
    rw [List.append_nil] at hp
    refine sts_one (wp_eq (a := .nx [some (.val (.box 1)), some (.val (.lst xs)), some (.val (.box (2 + R.length))), some (.val (.lst acc))]) (S' := S) rfl ?_)
    refine sts_one (wp_eq (a := .rtv (.lst acc) false) (S' := S) rfl ?_)
    refine ⟨acc, rfl, hp, ?_⟩
    rw [← hp.length_eq]
    exact hd
  | cons l left =>
    rw [if_pos (by simp)]
    refine ⟨by simp, sts_one ?_⟩
    show Wp (bnd (ev T _ _ (.bpop _ _)) fun d => if decide (acc.length < sizeLine) = true then ret _ else fail) _ _
    refine wp_bnd ?_
    show Wp (bnd (ret (D.box (2 + R.length))) _) _ _
    refine wp_bnd (wp_ret ?_)
    refine wp_bnd (wp_eq (a := ()) (S' := S) ?_ ?_)
    · show (match S[2 + R.length]? with | some (.lst _) => Res.ok () S | _ => .bad) = _
      rw [Dr_at hd]
    show Wp (bnd (bnd (bnd (evl T _ _ _) _) _) _) _ _
    refine wp_bnd (wp_bnd (wp_bnd (wp_eq (a := [.box 1, .int ((l :: left).length : Int)]) (S' := S) ?_ ?_)))
    · have : pBi .len [D.lst (l :: left)] = some (.int ((l :: left).length : Int)) := rfl
      simp only [o2_int, o2_lst, o2_box0, idx_rest, idx_large, sts, st, ev, evl, evo, evt, evi, bnd, Res.bnd, Res.hush, hush, ret, lift, tryL, asg, asg.asgs, List.getElem?_cons_succ, List.getElem?_cons_zero, List.length_cons, List.length_nil, List.set_cons_succ, List.set_cons_zero, sizeOk0, reduceIte, va, List.map_cons, List.map_nil, this]
    rw [List.length_cons] at hl
    refine wp_bnd ((take_ok hT hM hd (by omega) (size := ((l :: left).length : Int)) ⟨by rw [List.length_cons]; omega, by rw [List.length_cons]; omega⟩).imp fun x S' hx => ?_)
    obtain ⟨v, e, h0, h1, hd'⟩ := hx
    rw [e]
    refine wp_ret (wp_ret ?_)
    obtain ⟨e3, hv⟩ := ixN_in h0 h1
    rw [List.length_cons] at h1
    refine wp_eq (a := (l :: left)[v.toNat]) (S' := S'.set (2 + R.length) (.lst ((l :: left).eraseIdx v.toNat))) ?_ ?_
    · show popR (.box (2 + R.length)) (some v) S' = _
      unfold popR
      dsimp only
      rw [Dr_at hd']
      show popAt (2 + R.length) (l :: left) v S' = _
      unfold popAt
      rw [if_pos ⟨by omega, by omega⟩, e3]
      dsimp only
      rw [List.getElem?_eq_getElem hv]
    rw [if_pos (decide_eq_true (by rw [sizeLine_eq]; omega))]
    refine wp_ret (wp_ret ⟨(l :: left).eraseIdx v.toNat, acc ++ [(l :: left)[v.toNat]], ?_, rfl, ?_, ?_⟩)
    · rw [List.length_eraseIdx_of_lt hv]
    · rw [List.length_append, ← Nat.add_assoc]
      exact Dr_set hd' _
    · refine List.Perm.trans ?_ hp
      rw [List.append_assoc]
      exact List.Perm.append_left _ (perm_erase _ _ hv)
end
end Y
/-! M6: begun, cuts, gaps, below, every. -/
namespace Y
open PySem L2
open Enc (enc)
section
variable {T : Tb} {C : Calls} {W k : Nat}
theorem dI_app (a b : List Int) : dI (a ++ b) = dI a ++ dI b := List.map_append
theorem wp_lc {de : Env} {vs : List Nat} {g it c e : IR} {S : Store} {Q : D → Store → Prop} (h : Wp (evi T C de it) S fun items S1 => Wp (comp items (stepE T C de vs g c e)) S1 fun ds S2 => Q (.lst ds) S2) : Wp (ev T C de (.lc vs g it c e)) S Q :=
  wp_bnd (h.imp fun items S1 q => wp_bnd (q.imp fun ds S2 q => wp_ret q))
theorem abs_i (i : Int) : pBi .abs [.int i] = some (.int (if i < 0 then -i else i)) := rfl
theorem big_i : p2 .pow (.int 10) (.int 18) = some (.int 1000000000000000000) := by
  rw [p2_pow ⟨by decide, by decide, by decide⟩]
  rfl
theorem begun_ok {i : Nat} (hT : T.fns[i]? = some ⟨1, 3, irBegun, none, false⟩) (ns : List Int) : Wp (callF T W (k + 1) i [.ro (dI ns)]) [] fun x S' => x.1 = .box 1 ∧ Dr 0 [] S' := by
  refine wp_callE (de0 := [some (.val (.ro (dI ns))), none, none]) hT rfl rfl rfl ?_
  refine sts_one ?_
  show Wp (bnd (bnd (ev T _ _ (.lc _ _ _ _ _)) _) _) _ _
  refine wp_bnd (wp_bnd (wp_lc (wp_eq (a := dI ns) (S' := []) rfl ?_)))
  have s1 : ∀ c : Int, stepE T (callF T W k) [some (.val (.ro (dI ns))), none, none] [2] (.gn 2) (.tb (.o2 .ge (.bi .abs (.cons (.var 2) .nil)) (.o2 .pow (.ki 10) (.ki 18)))) (.o2 .sub (.bi .abs (.cons (.var 2) .nil)) (.o2 .pow (.ki 10) (.ki 18))) (.int c) [] = .ok (if (1000000000000000000 : Int) ≤ (if c < 0 then -c else c) then some (.int ((if c < 0 then -c else c) - 1000000000000000000)) else none) [] := fun c => by
    have ha : asg (.gn 2) (.int c) (wipeE [some (.val (.ro (dI ns))), none, none] [2]) = some [some (.val (.ro (dI ns))), none, some (.val (.int c))] := rfl
    unfold stepE
    rw [ha]
    by_cases hc : (1000000000000000000 : Int) ≤ (if c < 0 then -c else c)
    · rw [if_pos hc]
      simp only [o2_int, o2_lst, o2_box0, idx_rest, idx_large, sts, st, ev, evl, evo, evt, evi, bnd, Res.bnd, Res.hush, hush, ret, lift, tryL, asg, asg.asgs, List.getElem?_cons_succ, List.getElem?_cons_zero, List.length_cons, List.length_nil, List.set_cons_succ, List.set_cons_zero, sizeOk0, reduceIte, List.map_cons, List.map_nil, v_int, abs_i, big_i, p2_ge, p2_sub, decide_eq_true hc]
    · rw [if_neg hc]
      simp only [o2_int, o2_lst, o2_box0, idx_rest, idx_large, sts, st, ev, evl, evo, evt, evi, bnd, Res.bnd, Res.hush, hush, ret, lift, tryL, asg, asg.asgs, List.getElem?_cons_succ, List.getElem?_cons_zero, List.length_cons, List.length_nil, List.set_cons_succ, List.set_cons_zero, sizeOk0, reduceIte, List.map_cons, List.map_nil, v_int, abs_i, big_i, p2_ge, p2_sub, decide_eq_false hc]
      rfl
  have e1 : ∃ ls, comp (dI ns) (stepE T (callF T W k) [some (.val (.ro (dI ns))), none, none] [2] (.gn 2) (.tb (.o2 .ge (.bi .abs (.cons (.var 2) .nil)) (.o2 .pow (.ki 10) (.ki 18)))) (.o2 .sub (.bi .abs (.cons (.var 2) .nil)) (.o2 .pow (.ki 10) (.ki 18)))) [] = .ok (dI ls) [] := by
    generalize ns = ms at s1 ⊢
    have gen : ∀ (de : Env) (st : D → M (Option D)) (f : Int → Option Int), (∀ c, st (.int c) [] = .ok ((f c).map D.int) []) → ∀ ns, ∃ ls, comp (dI ns) st [] = .ok (dI ls) [] := fun _ st f hf ns => by
      induction ns with
      | nil => exact ⟨[], rfl⟩
      | cons c ns ih =>
        obtain ⟨ls, h⟩ := ih
        refine ⟨(match f c with | some x => x :: ls | none => ls), ?_⟩
        show (st (.int c) []).bnd (fun o => bnd (comp (dI ns) st) fun ds => ret (match o with | some d => d :: ds | none => ds)) = _
        rw [hf]
        show (comp (dI ns) st []).bnd _ = _
        rw [h]
        cases f c <;> rfl
    refine gen [] _ (fun c => if (1000000000000000000 : Int) ≤ (if c < 0 then -c else c) then some ((if c < 0 then -c else c) - 1000000000000000000) else none) (fun c => ?_) ms
    rw [s1]
    congr 1
    generalize (if c < 0 then -c else c) = z
    split <;> rfl
  obtain ⟨ls, e1⟩ := e1
  refine wp_eq e1 ?_
  refine wp_eq (a := D.box 0) (S' := [.lst (dI ls)]) rfl ?_
  refine wp_ret ?_
  refine sts_one ?_
  show Wp (bnd (bnd (bnd (evl T _ _ (.cons _ (.cons _ (.cons _ (.cons (.lc _ _ _ _ _) _))))) _) _) _) _ _
  have s2 : ∀ c : Int, stepE T (callF T W k) [some (.val (.ro (dI ns))), some (.val (.box 0)), none] [2] (.gn 2) (.kb true) (.o2 .mod (.bi .abs (.cons (.var 2) .nil)) (.ki 2147483629)) (.int c) [.lst (dI ls)] = .ok (some (.int ((if c < 0 then -c else c) % 2147483629))) [.lst (dI ls)] := fun c => by
    have ha : asg (.gn 2) (.int c) (wipeE [some (.val (.ro (dI ns))), some (.val (.box 0)), none] [2]) = some [some (.val (.ro (dI ns))), some (.val (.box 0)), some (.val (.int c))] := rfl
    unfold stepE
    rw [ha]
    simp only [o2_int, o2_lst, o2_box0, idx_rest, idx_large, sts, st, ev, evl, evo, evt, evi, bnd, Res.bnd, Res.hush, hush, ret, lift, tryL, asg, asg.asgs, List.getElem?_cons_succ, List.getElem?_cons_zero, List.length_cons, List.length_nil, List.set_cons_succ, List.set_cons_zero, sizeOk0, reduceIte, List.map_cons, List.map_nil, v_int, abs_i, p2_mod (show (0 : Int) < 2147483629 from by decide)]
  have e2 : comp (dI ns) (stepE T (callF T W k) [some (.val (.ro (dI ns))), some (.val (.box 0)), none] [2] (.gn 2) (.kb true) (.o2 .mod (.bi .abs (.cons (.var 2) .nil)) (.ki 2147483629))) [.lst (dI ls)] = .ok (dI (ns.map fun c => (if c < 0 then -c else c) % 2147483629)) [.lst (dI ls)] := by
    rw [comp_pure (f := fun d => match d with | .int c => some (.int ((if c < 0 then -c else c) % 2147483629)) | _ => none) fun x hx => by
      obtain ⟨c, _, rfl⟩ := List.mem_map.mp hx
      exact s2 c]
    congr 1
    generalize ns = ms
    induction ms with
    | nil => rfl
    | cons c ms ih =>
      show _ :: List.filterMap _ (dI ms) = _
      rw [ih]
      rfl
  refine wp_bnd (wp_bnd (wp_bnd ?_))
  refine wp_bnd (wp_eq (a := D.str "large") (S' := [.lst (dI ls)]) rfl ?_)
  refine wp_bnd (wp_bnd (wp_eq (a := D.box 0) (S' := [.lst (dI ls)]) rfl ?_))
  refine wp_bnd (wp_bnd (wp_eq (a := D.str "cells") (S' := [.lst (dI ls)]) rfl ?_))
  refine wp_bnd (wp_bnd (wp_lc (wp_eq (a := dI ns) (S' := [.lst (dI ls)]) rfl (wp_eq e2 ?_))))
  refine wp_bnd (wp_eq (a := [D.str "rest", .int 0, .str "turn", .int 0]) (S' := [.lst (dI ls)]) rfl ?_)
  refine wp_ret (wp_ret (wp_ret (wp_ret ?_)))
  refine wp_eq (a := D.dct kDraw [.box 0, .lst (dI (ns.map fun c => (if c < 0 then -c else c) % 2147483629)), .int 0, .int 0]) (S' := [.lst (dI ls)]) (by kernel_rfl) ?_
  refine wp_eq (a := D.box 1) (S' := St ls (ns.map fun c => (if c < 0 then -c else c) % 2147483629) 0 0 []) rfl ?_
  exact wp_ret ⟨rfl, ls, _, 0, 0, rfl, Nat.le_refl _⟩

end
end Y
/-! Z5: typed draws; typed dicts. -/
namespace Y
open PySem L2
open Enc (enc)
namespace Sp
variable {α : Type}
def pick (xs : List α) : Sp α := bind (take xs.length) fun v => lift (atI xs v)
def shuffled (xs : List α) : Sp (List α) := fun b Q => xs.length < 100000 ∧ ∃ b', b = b' + xs.length ∧ ∀ ys : List α, ys.Perm xs → Q b' (.ok ys)
end Sp
section
variable {T : Tb} {C : Calls} {W k n : Nat} {ks : List (Nat × EV)} {de : Env} {dw : Bool} {bs be : List (Nat × D)} {α β γ δ κ ω : Type}
/-- an argument that is a box -/
theorem aR {E I : Sb → Prop} {P : δ → Sb → γ → Prop} {t : Sp γ} {k : List D → M δ} {i : Nat} {as : IR} (d : D) (H : Has n ks de) (e : lookK i ks = some (.val d)) (g : J E P (bnd (evl T C de as) fun ds => k (d :: ds)) I t) : J E P (bnd (evl T C de (.cons (.var i) as)) k) I t := by
  rw [evl_cons, ev, H.at_ i _ e]
  exact g
theorem inv_keep {bs : List (Nat × D)} {S : Sb} {ls cs : List Int} {r : Int} {t : Nat} {R R' : List D} {b : Nat} {S' : Store} (h : Inv true bs S) (e : S.2 = StZ ls cs r t R) (hd : ∃ ls cs r t', S' = StZ ls cs r t' (R ++ R') ∧ t' + b < 2 ^ 40) : Inv true bs (b, S') := by
  obtain ⟨ls', cs', r', t', rfl, hb⟩ := hd
  refine ⟨fun p hp => ?_, h.nd, fun _ => ⟨⟨ls', cs', r', t', R ++ R', rfl, hb⟩, (h.dr rfl).2⟩⟩
  have h2 := (h.dr rfl).2 p hp
  have h1 := h.at_ p hp
  rw [e] at h1
  obtain ⟨q, hq⟩ : ∃ q, p.1 = q + 2 := ⟨p.1 - 2, by omega⟩
  rw [hq] at h1 ⊢
  have h1 : R[q]? = some p.2 := h1
  show (R ++ R')[q]? = some p.2
  have hl : q < R.length := by
    rcases Nat.lt_or_ge q R.length with h | h
    · exact h
    · rw [List.getElem?_eq_none h] at h1; cases h1
  rw [List.getElem?_append_left hl]
  exact h1
theorem perm_of_map {α β : Type} (f : α → β) {ys l : List β} (h : ys.Perm l) : ∀ xs : List α, l = xs.map f → ∃ zs : List α, zs.Perm xs ∧ ys = zs.map f := by
  induction h with
  | nil =>
    intro xs e
    cases xs with
    | nil => exact ⟨[], .nil, rfl⟩
    | cons x xs => cases e
  | cons a h ih =>
    intro xs e
    cases xs with
    | nil => cases e
    | cons x xs =>
      rw [List.map_cons] at e
      injection e with e1 e2
      obtain ⟨zs, h1, h2⟩ := ih xs e2
      exact ⟨x :: zs, h1.cons x, by rw [List.map_cons, e1, h2]⟩
  | swap a b l =>
    intro xs e
    match xs, e with
    | [], e => cases e
    | [_], e => cases e
    | x :: y :: xs, e =>
      rw [List.map_cons, List.map_cons] at e
      injection e with e1 e2
      injection e2 with e2 e3
      exact ⟨y :: x :: xs, .swap _ _ _, by rw [List.map_cons, List.map_cons, e1, e2, e3]⟩
  | trans h1 h2 ih1 ih2 =>
    intro xs e
    obtain ⟨zs, h3, h4⟩ := ih2 xs e
    obtain ⟨ws, h5, h6⟩ := ih1 zs h4
    exact ⟨ws, h5.trans h3, h6⟩
theorem take_J {i m : Nat} (hT : T.fns[i]? = some ⟨2, 3, irTake m, none, false⟩) (hM : T.fns[m]? = some ⟨1, 6, irMixed, none, false⟩) (size : Int) : Jr true bs (callF T W (k + 2) i [.box 1, enc size]) (Sp.take size) := by
  intro S hS Q hQ
  obtain ⟨b', hb, hs, hq⟩ := hQ
  obtain ⟨ls, cs, r, t, R, e, ht⟩ := (hS.dr rfl).1
  obtain ⟨x, S', e1, v, h1, h2, h3, ls', cs', r', t', h4, h5⟩ := take_ok (W := W) (k := k) hT hM (n := t) (R := R) (S := S.2) ⟨ls, cs, r, t, e, Nat.le_refl _⟩ (by omega) hs
  rw [show callF T W (k + 2) i [.box 1, enc size] S.2 = .ok x S' from e1]
  exact ⟨b', v, ⟨inv_keep (R' := []) hS e ⟨ls', cs', r', t', by rw [List.append_nil]; exact h4, by omega⟩, h1⟩, hq v h2 h3⟩
theorem shuffled_J [Dq α] (hdep : Nat.ble (Dq.dep α) 59 = true) (hW : Nat.ble 100000 W = true) {i j m : Nat} (hP : T.fns[i]? = some ⟨2, 4, irShuffled j, none, false⟩) (hT : T.fns[j]? = some ⟨2, 3, irTake m, none, false⟩) (hM : T.fns[m]? = some ⟨1, 6, irMixed, none, false⟩) (xs : List α) : Jr true bs (callF T W (k + 3) i [.box 1, enc xs]) (Sp.shuffled xs) := by
  have hdep := Nat.le_of_ble_eq_true hdep
  have hW := Nat.le_of_ble_eq_true hW
  intro S hS Q hQ
  obtain ⟨hl, b', hb, hq⟩ := hQ
  obtain ⟨ls, cs, r, t, R, e, ht⟩ := (hS.dr rfl).1
  have hsane : (xs.map (enc (α := α))).all (sane 60) = true := by
    have := encs_sane xs
    rw [List.all_eq_true] at this ⊢
    intro x hx
    have h := sane_mono (60 - Dq.dep α) (this x hx)
    rwa [show Dq.dep α + (60 - Dq.dep α) = 60 from by omega] at h
  obtain ⟨x, S', e1, ys, h1, h2, ls', cs', r', t', h4, h5⟩ := shuffled_ok (W := W) (k := k) hP hT hM (n := t) (R := R) (S := S.2) ⟨ls, cs, r, t, e, Nat.le_refl _⟩ (xs := xs.map enc) (by rw [List.length_map]; exact hl) (by rw [List.length_map]; omega) (by rw [List.length_map]; omega) hsane
  obtain ⟨zs, hz, rfl⟩ := perm_of_map _ h2 xs rfl
  rw [List.length_map] at h5
  rw [show callF T W (k + 3) i [.box 1, enc xs] S.2 = .ok x S' from e1]
  exact ⟨b', zs, ⟨inv_keep (R' := [.lst []]) hS e ⟨ls', cs', r', t', h4, by omega⟩, h1⟩, hq zs hz⟩
theorem pick_J [Enc α] {i j m : Nat} (hP : T.fns[i]? = some ⟨2, 2, irPick j, none, false⟩) (hT : T.fns[j]? = some ⟨2, 3, irTake m, none, false⟩) (hM : T.fns[m]? = some ⟨1, 6, irMixed, none, false⟩) (xs : List α) : Jr true bs (callF T W (k + 3) i [.box 1, enc xs]) (Sp.pick xs) := by
  refine F_T hP rfl rfl rfl fun de H => ?_
  refine S_rtT (fun _ h => h) (J_idx (bV (J_var H xs rfl) (bM (J_call (aR (.box 1) H rfl (aV (J_bi (aV (J_var H xs rfl) (aN (b_lenL xs)))) (aN (doCall (take_J hT hM _)))))) fun v => ?_)))
  exact i_L xs v
theorem pick_T [Enc α] {i j m : Nat} (hP : T.fns[i]? = some ⟨2, 2, irPick j, none, false⟩) (hT : T.fns[j]? = some ⟨2, 3, irTake m, none, false⟩) (hM : T.fns[m]? = some ⟨1, 6, irMixed, none, false⟩) (xs : Tup α) : Jr true bs (callF T W (k + 3) i [.box 1, enc xs]) (Sp.pick xs.l) := by
  refine F_T hP rfl rfl rfl fun de H => ?_
  refine S_rtT (fun _ h => h) (J_idx (bV (J_var H xs rfl) (bM (J_call (aR (.box 1) H rfl (aV (J_bi (aV (J_var H xs rfl) (aN (b_lenT xs)))) (aN (doCall (take_J hT hM _)))))) fun v => ?_)))
  exact i_T xs v
/-! ### dicts -/
section
variable [DKey κ] [DecidableEq κ] [Enc α]
theorem dfind_enc (k : κ) : ∀ l : List (κ × α), dfind (DKey.kyc k) (l.map fun p => enc p.1) (l.map fun p => enc p.2) = ((l.find? fun p => p.1 = k).map (·.2)).map enc
  | [] => rfl
  | p :: l => by
    show (if (enc p.1 : D).ky = some (DKey.kyc k) then some (enc p.2) else dfind (DKey.kyc k) (l.map fun p => enc p.1) (l.map fun p => enc p.2)) = _
    rw [DKey.key, List.find?_cons]
    by_cases h : p.1 = k
    · rw [if_pos (by rw [h]), decide_eq_true h]
      rfl
    · rw [if_neg (fun e => h (DKey.kinj _ _ (Option.some.inj e))), decide_eq_false h, dfind_enc k l]
theorem dputV_enc (k : κ) (v : α) : ∀ l : List (κ × α), dputV (DKey.kyc k) (enc v) (l.map fun p => enc p.1) (l.map fun p => enc p.2) = (l.map fun p => if p.1 = k then (p.1, v) else p).map fun p => enc p.2
  | [] => rfl
  | p :: l => by
    show (if (enc p.1 : D).ky = some (DKey.kyc k) then enc v :: dputV (DKey.kyc k) (enc v) (l.map fun p => enc p.1) (l.map fun p => enc p.2) else enc p.2 :: dputV (DKey.kyc k) (enc v) (l.map fun p => enc p.1) (l.map fun p => enc p.2)) = _
    rw [DKey.key, dputV_enc k v l]
    by_cases h : p.1 = k
    · rw [if_pos (by rw [h]), List.map_cons, if_pos h]
      rfl
    · rw [if_neg (fun e => h (DKey.kinj _ _ (Option.some.inj e))), List.map_cons, if_neg h]
      rfl
theorem putK_enc (k : κ) (v : α) (l : List (κ × α)) : ((l.map fun p => if p.1 = k then (p.1, v) else p).map fun p => (enc p.1 : D)) = l.map fun p => enc p.1 := by
  rw [List.map_map]
  congr 1
  funext p
  show (enc (if p.1 = k then (p.1, v) else p).1 : D) = _
  split <;> rfl
theorem has_get (d : Dct κ α) (k : κ) : d.has k = (d.get k).isSome := by
  cases d with
  | mk l =>
    show l.any _ = ((l.find? _).map _).isSome
    rw [Option.isSome_map, Bool.eq_iff_iff, List.find?_isSome, List.any_eq_true]
/-- d[k] = v -/
theorem dput_enc (d : Dct κ α) (k : κ) (v : α) (h : d.l.length < sizeLine) : dput (enc k) (enc v) (enc d) = some (enc (d.put k v)) := by
  have hf := dfind_enc (α := α) k d.l
  have hs : (dfind (DKey.kyc k) (d.l.map fun p => enc p.1) (d.l.map fun p => (enc p.2 : D))).isSome = d.has k := by
    rw [hf, has_get, Option.isSome_map]
    rfl
  have hl : (d.l.map fun p => (enc p.1 : D)).length < sizeLine := by rw [List.length_map]; exact h
  have e1 : ∀ f : List D → List D → D, (if d.has k = true then f (d.l.map fun p => enc p.1) (dputV (DKey.kyc k) (enc v) (d.l.map fun p => enc p.1) (d.l.map fun p => enc p.2)) else f ((d.l.map fun p => enc p.1) ++ [enc k]) ((d.l.map fun p => enc p.2) ++ [enc v])) = f ((d.put k v).l.map fun p => enc p.1) ((d.put k v).l.map fun p => enc p.2) := by
    intro f
    unfold Dct.put
    cases d.has k
    · rw [if_neg (by simp), if_neg (by simp), List.map_append, List.map_append]
      rfl
    · rw [if_pos rfl, if_pos rfl, putK_enc, dputV_enc]
  show dput (enc k) (enc v) (if DKey.tt κ = true then .dtt _ _ else .dct _ _) = some (if DKey.tt κ = true then .dtt _ _ else .dct _ _)
  cases c : DKey.tt κ with
  | false =>
    obtain ⟨z, hz⟩ := DKey.one k c
    rw [if_neg (by simp), if_neg (by simp)]
    show (match (enc k : D).ky with | some (.one z) => _ | _ => _) = _
    rw [DKey.key, hz]
    show (if _ then _ else _) = _
    rw [if_pos hl, ← hz, hs, ← e1 D.dct]
  | true =>
    obtain ⟨z, hz⟩ := DKey.two k c
    rw [if_pos rfl, if_pos rfl]
    show (match (enc k : D).ky with | some (.tup z) => _ | _ => _) = _
    rw [DKey.key, hz]
    show (if _ then _ else _) = _
    rw [if_pos hl, ← hz, hs, ← e1 D.dtt]
theorem dAt_enc (d : Dct κ α) (k : κ) : dAt (enc k) (enc d) = (d.get k).map enc := by
  show dAt (enc k) (if DKey.tt κ = true then .dtt _ _ else .dct _ _) = _
  cases c : DKey.tt κ with
  | false =>
    obtain ⟨z, hz⟩ := DKey.one k c
    rw [if_neg (by simp)]
    show (match (enc k : D).ky with | some (.one z) => _ | _ => _) = _
    rw [DKey.key, hz]
    show dfind (.one z) _ _ = _
    rw [← hz]
    exact dfind_enc k d.l
  | true =>
    obtain ⟨z, hz⟩ := DKey.two k c
    rw [if_pos rfl]
    show (match (enc k : D).ky with | some (.tup z) => _ | _ => _) = _
    rw [DKey.key, hz]
    show dfind (.tup z) _ _ = _
    rw [← hz]
    exact dfind_enc k d.l
theorem dIn_enc (d : Dct κ α) (k : κ) : dIn (enc k) (enc d) = some (d.has k) := by
  have hs : (dfind (DKey.kyc k) (d.l.map fun p => enc p.1) (d.l.map fun p => (enc p.2 : D))).isSome = d.has k := by
    rw [dfind_enc, has_get, Option.isSome_map]
    rfl
  show dIn (enc k) (if DKey.tt κ = true then .dtt _ _ else .dct _ _) = _
  cases c : DKey.tt κ with
  | false =>
    obtain ⟨z, hz⟩ := DKey.one k c
    rw [if_neg (by simp)]
    show (match (enc k : D).ky with | some (.one z) => _ | _ => _) = _
    rw [DKey.key, hz]
    show some (dfind (.one z) _ _).isSome = _
    rw [← hz, hs]
  | true =>
    obtain ⟨z, hz⟩ := DKey.two k c
    rw [if_pos rfl]
    show (match (enc k : D).ky with | some (.tup z) => _ | _ => _) = _
    rw [DKey.key, hz]
    show some (dfind (.tup z) _ _).isSome = _
    rw [← hz, hs]
theorem enc_dct (d : Dct κ α) : (∃ ks vs, (enc d : D) = .dct ks vs) ∨ (∃ ks vs, (enc d : D) = .dtt ks vs) := by
  show (∃ ks vs, (if DKey.tt κ = true then D.dtt _ _ else D.dct _ _) = .dct ks vs) ∨ (∃ ks vs, (if DKey.tt κ = true then D.dtt _ _ else D.dct _ _) = .dtt ks vs)
  cases DKey.tt κ
  · exact .inl ⟨_, _, rfl⟩
  · exact .inr ⟨_, _, rfl⟩
theorem i_D (d : Dct κ α) (k : κ) : Jv dw bs (idxR T C (enc d) (enc k)) (Sp.lift (d.get k)) := J_pIdxO (by
  rw [← dAt_enc]
  rcases enc_dct d with ⟨ks, vs, e⟩ | ⟨ks, vs, e⟩ <;> rw [e] <;> rfl)
theorem isin_D (d : Dct κ α) (k : κ) : p2 .isin (enc k) (enc d) = some (.bl (d.has k)) := by
  show (p2.pIn (enc k) (enc d)).map D.bl = _
  have : p2.pIn (enc k) (enc d) = dIn (enc k) (enc d) := by rcases enc_dct d with ⟨ks, vs, e⟩ | ⟨ks, vs, e⟩ <;> rw [e] <;> rfl
  rw [this, dIn_enc]
  rfl
theorem o_inD (d : Dct κ α) (k : κ) : Jv dw bs (o2R T C .isin (enc k) (enc d)) (Sp.pure (d.has k)) := J_p2 (isin_D d k)
theorem o_ninD (d : Dct κ α) (k : κ) : Jv dw bs (o2R T C .nin (enc k) (enc d)) (Sp.pure (!d.has k)) := J_p2 (not_in (isin_D d k))
theorem fresh_D (d : Dct κ α) : isFresh (enc d) = true := by rcases enc_dct d with ⟨ks, vs, e⟩ | ⟨ks, vs, e⟩ <;> rw [e] <;> rfl
theorem fresh_L (x : List α) : isFresh (enc x) = true := rfl
theorem S_oset {E : Sb → Prop} {K : Out → Sb → ω → Prop} {i : Nat} {a v rest : IR} {d : Dct κ α} {tv : Sp α} {tk : Sp κ} {tr : Dct κ α → Sp ω} (H : Has n ks de) (hE : ∀ S, Inv dw bs S → E S) (e : lookK i ks = some (.own (enc d))) (hi : Nat.blt i n = true) (hv : Jv dw bs (ev T C de v) tv) (hk : Jv dw bs (ev T C de a) tk)
    (kk : ∀ d' de', Has n (setK i (.own (enc d')) ks) de' → J E K (sts T C W de' rest) (Inv dw bs) (tr d')) : J E K (sts T C W de (.cons (.oset i a v) rest)) (Inv dw bs) (Sp.bind tv fun y => Sp.bind tk fun x => Sp.bind (Sp.put d x y) tr) := by
  have hi : i < n := Nat.le_of_ble_eq_true hi
  have e1 : de[i]? = some (some (.own (enc d))) := H.at_ i _ e
  rw [sts_cons, st, e1]
  refine (show J E K (bnd (bnd (ev T C de v) fun y => bnd (ev T C de a) fun q => tryL (dput q y (enc d)) fun d => ret (Out.nx (de.set i (some (.own d))))) _) _ _ from ?_)
  rw [bnd_assoc]
  refine J.bnd hv hE fun y v => J.fact (fun e => ?_)
  subst e
  rw [bnd_assoc]
  refine J.bnd hk hE fun q k => J.fact (fun e => ?_)
  subst e
  refine J.need (c := d.l.length < sizeLine) (t := tr (d.put k v)) fun hc => ?_
  rw [dput_enc d k v hc]
  exact kk _ _ (H.set _ hi)
theorem I_items [DKey κ] {e : IR} {t : Sp (Dct κ α)} (hk : DKey.tt κ = false) (h : Jv dw bs (ev T C de e) t) : Jl dw bs (evi T C de (.items e)) (Sp.bind t fun d => Sp.pure d.l) := by
  rw [evi]
  refine bM h fun d => ?_
  show Jl dw bs (match (if DKey.tt κ = true then D.dtt _ _ else D.dct _ _) with | .dct ks vs => ret ((ks.zip vs).map fun p => D.tup [p.1, p.2]) | _ => fail) _
  rw [hk]
  show Jl dw bs (ret (((d.l.map fun p => (enc p.1 : D)).zip (d.l.map fun p => enc p.2)).map fun p => D.tup [p.1, p.2])) _
  have : ((d.l.map fun p => (enc p.1 : D)).zip (d.l.map fun p => enc p.2)).map (fun p => D.tup [p.1, p.2]) = d.l.map enc := by
    rw [List.zip_map', List.map_map]
    rfl
  rw [this]
  exact Jl.ret
theorem b_listD {x : Dct κ α} (hk : DKey.tt κ = false) : Jv dw bs (biM .list [enc x]) (Sp.pure (x.l.map (·.1))) := bi1 (by
  show pBi .list [if DKey.tt κ = true then D.dtt _ _ else D.dct _ _] = _
  rw [hk]
  show some (D.lst (x.l.map fun p => enc p.1)) = some (D.lst ((x.l.map (·.1)).map enc))
  rw [List.map_map]
  rfl)
theorem b_dictD {x : Dct κ α} (hk : DKey.tt κ = false) : Jv dw bs (biM .dict [enc x]) (Sp.pure x) := bi1 (by
  show pBi .dict [if DKey.tt κ = true then D.dtt _ _ else D.dct _ _] = some (if DKey.tt κ = true then D.dtt _ _ else D.dct _ _)
  rw [hk]
  rfl)
end
/-! ### the law itself -/
theorem S_begun {i : Nat} {rest : IR} {ns : List Int} {t : Sp Bool} (hT : T.fns[i]? = some ⟨1, 3, irBegun, none, false⟩) (H : Has n ks de) (e : lookK 0 ks = some (.val (.ro (dI ns)))) (hn : Nat.blt 1 n = true)
    (h : ∀ de', Has n (setK 1 (.val (.box 1)) ks) de' → J (Inv true []) (KT true []) (sts T (callF T W (k + 1)) W de' rest) (Inv true []) t) (ht : t (2 ^ 39) fun _ r => r = .ok true) :
    ∃ f S', sts T (callF T W (k + 1)) W de (.cons (.set (.gn 1) (.call i (.cons (.var 0) .nil))) rest) [] = .ok (.rtv (.bl true) f) S' := by
  have hn : 1 < n := Nat.le_of_ble_eq_true hn
  obtain ⟨x, S1, e1, h1, ls, cs, r, t0, h2, h3⟩ := begun_ok (W := W) (k := k) hT ns
  have hi : Inv true [] (2 ^ 39, S1) := ⟨(fun _ h => by cases h), List.Pairwise.nil, fun _ => ⟨⟨ls, cs, r, t0, [], h2, by show t0 + 2 ^ 39 < 2 ^ 40; omega⟩, fun _ h => by cases h⟩⟩
  have h4 := h _ (H.set (.val (.box 1)) hn) (2 ^ 39, S1) hi _ ht
  have e2 : sts T (callF T W (k + 1)) W de (.cons (.set (.gn 1) (.call i (.cons (.var 0) .nil))) rest) [] = sts T (callF T W (k + 1)) W (de.set 1 (some (.val (.box 1)))) rest S1 := by
    rw [sts_cons, st, ev, evl_cons, ev, H.at_ 0 _ e]
    show ((((callF T W (k + 1) i [.ro (dI ns)] []).bnd fun r => ret r.1).bnd fun d => tryL (asg (.gn 1) d de) fun d1 => ret (Out.nx d1)).bnd _) = _
    rw [e1]
    show ((tryL (asg (.gn 1) x.1 de) fun d1 => ret (Out.nx d1)) S1).bnd _ = _
    rw [h1]
    show ((tryL (if 1 < de.length then some (de.set 1 (some (.val (.box 1)))) else none) fun d1 => ret (Out.nx d1)) S1).bnd _ = _
    rw [if_pos (by rw [H.len]; exact hn)]
    rfl
  rw [e2]
  revert h4
  dsimp only
  cases sts T (callF T W (k + 1)) W (de.set 1 (some (.val (.box 1)))) rest S1 with
  | ok o S' =>
    rintro ⟨b, a, h5, h6⟩
    cases h6
    cases o with
    | rtv d f => exact ⟨f, S', by rw [h5.2]; rfl⟩
    | nx d => exact h5.elim
    | bk d => exact h5.elim
    | ct d => exact h5.elim
  | exc c fs S' => rintro ⟨b, _, h⟩; cases h
  | bad => exact False.elim
theorem law_end {i : Nat} {fe : Fe} {ns : List Int} (hT : T.fns[i]? = some fe) (hn : fe.ini = none) (hl : fe.arity = 1) (hs : Nat.ble 1 fe.slots = true) (h : ∀ de, Has fe.slots (parK 0 [.ro (dI ns)]) de → ∃ f S', sts T (callF T W k) W de fe.body [] = .ok (.rtv (.bl true) f) S') :
    ∃ f S', callF T W (k + 1) i [.ro (ns.map .int)] [] = .ok (.bl true, f) S' := by
  obtain ⟨f, S', e⟩ := h _ (init_has (fe := fe) (as := [.ro (dI ns)]) (Nat.le_of_ble_eq_true hs))
  refine ⟨f, S', ?_⟩
  show (match T.fns[i]? with | some fe => runF T W (callF T W k) fe [.ro (dI ns)] | none => fail) [] = _
  rw [hT]
  show runF T W (callF T W k) fe [.ro (dI ns)] [] = _
  unfold runF
  rw [hn]
  show run1 T W (callF T W k) fe [.ro (dI ns)] [] = _
  unfold run1
  rw [if_pos (show [D.ro (dI ns)].length = fe.arity from hl.symm)]
  show (sts T (callF T W k) W (initE fe [.ro (dI ns)]) fe.body []).bnd _ = _
  rw [e]
  rfl
end
end Y
/-! Z6: more typed rules. -/
namespace Y
open PySem L2
open Enc (enc)
namespace Sp
variable {α β κ : Type} [DecidableEq κ]
/-- key-value pairs put in one after the other -/
def puts : List (κ × β) → Dct κ β → Sp (Dct κ β)
  | [], d => pure d
  | p :: r, d => bind (put d p.1 p.2) fun d' => puts r d'
def compD (f : α → Sp (Option (κ × β))) : List α → Dct κ β → Sp (Dct κ β)
  | [], d => pure d
  | x :: r, d => bind (f x) fun o => match o with
    | some p => bind (put d p.1 p.2) fun d' => compD f r d'
    | none => compD f r d
end Sp
def Sp.catT {α : Type} (x y : Tup α) : Sp (Tup α) := Sp.need (x.l.length + y.l.length ≤ sizeLine) (Sp.pure (x.cat y))
def Sp.catS (x y : Sx) : Sp Sx := Sp.need (x.v.length + y.v.length ≤ sizeLine) (Sp.pure (x.cat y))
def Sp.mulI (x y : Int) : Sp Int := Sp.need (smallI x = true ∨ smallI y = true) (Sp.pure (x * y))
def Sp.fdivI (x y : Int) : Sp Int := Sp.need (0 < y ∧ y < 1073741824) (Sp.pure (x / y))
def Sp.modI (x y : Int) : Sp Int := Sp.need (0 < y) (Sp.pure (x % y))
def Sp.powI (x y : Int) : Sp Int := Sp.need (0 ≤ y ∧ y ≤ 1000000 ∧ x.natAbs < 2 ^ 64) (Sp.pure (x ^ y.toNat))
def Sp.lenS (x : Sx) : Sp Int := Sp.need (x.v.length ≤ sizeLine) (Sp.pure (x.v.length : Int))
def Sp.sorted {α : Type} [Enc α] (x : List α) : Sp (List α) := Sp.need (sortable (x.map enc) = true) (Sp.pure (sortZ x))
def Sp.rangeL (i : Int) : Sp (List Int) := Sp.need (0 ≤ i ∧ i ≤ 16777216) (Sp.pure (irange i))
def Dct.ofL {κ α : Type} [DecidableEq κ] (xs : List (κ × α)) : Dct κ α := xs.foldl (fun d p => d.put p.1 p.2) ⟨[]⟩
section
variable {T : Tb} {C : Calls} {W n : Nat} {ks : List (Nat × EV)} {de : Env} {dw : Bool} {bs be : List (Nat × D)} {α β γ δ κ ω σ : Type} {E : Sb → Prop} {K : Out → Sb → ω → Prop}
theorem o_isNF [Dat α] [Nn α] (x : α) : Jv dw bs (o2R T C .isN (enc x) .non) (Sp.pure false) := by
  have h := o_isN (T := T) (C := C) (dw := dw) (bs := bs) (some x)
  exact h
theorem o_notNT [Dat α] [Nn α] (x : α) : Jv dw bs (o2R T C .notN (enc x) .non) (Sp.pure true) := by
  have h := o_notN (T := T) (C := C) (dw := dw) (bs := bs) (some x)
  exact h
theorem o_mulIl (x y : Int) (h : smallI x = true) : Jv dw bs (o2R T C .mul (enc x) (enc y)) (Sp.pure (x * y)) := fun S hS Q hQ => o_mulI x y S hS Q ⟨.inl h, hQ⟩
theorem o_mulIr (x y : Int) (h : smallI y = true) : Jv dw bs (o2R T C .mul (enc x) (enc y)) (Sp.pure (x * y)) := fun S hS Q hQ => o_mulI x y S hS Q ⟨.inr h, hQ⟩
theorem o_fdivL (x y : Int) (h : decide (0 < y ∧ y < 1073741824) = true) : Jv dw bs (o2R T C .fdiv (enc x) (enc y)) (Sp.pure (x / y)) := fun S hS Q hQ => o_fdivI x y S hS Q ⟨of_decide_eq_true h, hQ⟩
theorem o_modL (x y : Int) (h : decide (0 < y) = true) : Jv dw bs (o2R T C .mod (enc x) (enc y)) (Sp.pure (x % y)) := fun S hS Q hQ => o_modI x y S hS Q ⟨of_decide_eq_true h, hQ⟩
/-! tests whose first part is known -/
theorem T_andT {a b : IR} {u : Sp Bool} (h : Jb dw bs (evt T C de a) (Sp.pure true)) (g : Jb dw bs (evt T C de b) u) : Jb dw bs (evt T C de (.tand a b)) u := T_andV h g
theorem T_andF {a b : IR} (h : Jb dw bs (evt T C de a) (Sp.pure false)) : Jb dw bs (evt T C de (.tand a b)) (Sp.pure false) := by rw [evt]; exact bbV h Jb.ret
theorem T_orT {a b : IR} (h : Jb dw bs (evt T C de a) (Sp.pure true)) : Jb dw bs (evt T C de (.tor a b)) (Sp.pure true) := by rw [evt]; exact bbV h Jb.ret
theorem T_orF {a b : IR} {u : Sp Bool} (h : Jb dw bs (evt T C de a) (Sp.pure false)) (g : Jb dw bs (evt T C de b) u) : Jb dw bs (evt T C de (.tor a b)) u := T_orV h g
/-! if with `and`, `or` in parts -/
theorem sts_one1 (s : IR) (de : Env) : sts T C W de (.cons s .nil) = st T C W de s := by
  rw [sts_cons]
  funext S
  show (st T C W de s S).bnd _ = _
  cases st T C W de s S with
  | ok o S' => cases o <;> first | rfl | (show sts T C W _ .nil S' = _; rw [sts_nil])
  | exc c fs S' => rfl
  | bad => rfl
theorem st_and (p q a b : IR) (de : Env) : st T C W de (.cond (.tand p q) a b) = st T C W de (.cond p (.cons (.cond q a b) .nil) b) := by
  rw [st, st, evt, bnd_assoc]
  congr 1
  funext k
  cases k with
  | true => rw [if_pos rfl, if_pos rfl, sts_one1, st]
  | false => rfl
theorem st_or (p q a b : IR) (de : Env) : st T C W de (.cond (.tor p q) a b) = st T C W de (.cond p a (.cons (.cond q a b) .nil)) := by
  rw [st, st, evt, bnd_assoc]
  congr 1
  funext k
  cases k with
  | true => rfl
  | false => rw [if_neg (by simp), if_neg (by simp), sts_one1, st]
theorem st_not (p a b : IR) (de : Env) : st T C W de (.cond (.tnot p) a b) = st T C W de (.cond p b a) := by
  rw [st, st, evt, bnd_assoc]
  congr 1
  funext k
  cases k <;> rfl
theorem S_and {p q a b rest : IR} {I : Sb → Prop} {t : Sp ω} (h : J E K (sts T C W de (.cons (.cond p (.cons (.cond q a b) .nil) b) rest)) I t) : J E K (sts T C W de (.cons (.cond (.tand p q) a b) rest)) I t := by rw [sts_cons, st_and, ← sts_cons]; exact h
theorem S_or {p q a b rest : IR} {I : Sb → Prop} {t : Sp ω} (h : J E K (sts T C W de (.cons (.cond p a (.cons (.cond q a b) .nil)) rest)) I t) : J E K (sts T C W de (.cons (.cond (.tor p q) a b) rest)) I t := by rw [sts_cons, st_or, ← sts_cons]; exact h
theorem S_not {p a b rest : IR} {I : Sb → Prop} {t : Sp ω} (h : J E K (sts T C W de (.cons (.cond p b a) rest)) I t) : J E K (sts T C W de (.cons (.cond (.tnot p) a b) rest)) I t := by rw [sts_cons, st_not, ← sts_cons]; exact h
theorem B_and {p q a b : IR} {I : Sb → Prop} {t : Sp ω} (h : J E K (st T C W de (.cond p (.cons (.cond q a b) .nil) b)) I t) : J E K (st T C W de (.cond (.tand p q) a b)) I t := by rw [st_and]; exact h
theorem B_or {p q a b : IR} {I : Sb → Prop} {t : Sp ω} (h : J E K (st T C W de (.cond p a (.cons (.cond q a b) .nil))) I t) : J E K (st T C W de (.cond (.tor p q) a b)) I t := by rw [st_or]; exact h
/-- a statement as a block -/
theorem S_blk {s : IR} {I : Sb → Prop} {t : Sp ω} (h : J E K (sts T C W de (.cons s .nil)) I t) : J E K (st T C W de s) I t := by rw [← sts_one1]; exact h
/-! comprehensions, what is walked being a value -/
theorem J_lc0V [Enc α] [Enc β] {vs : List Nat} {g it e : IR} {xs : List α} {f : α → β} {kf : α → List (Nat × EV)} (H : Has n ks de) (hi : Jl dw bs (evi T C de it) (Sp.pure xs)) (hg : Tg n (wipeK vs ks) g α kf)
    (he : ∀ x d1, Has n (kf x) d1 → Jv dw bs (ev T C d1 e) (Sp.pure (f x))) : Jv dw bs (ev T C de (.lc vs g it (.kb true) e)) (Sp.pure (xs.map f)) := J_lc0 H hi hg he
theorem J_lc1V [Enc α] [Enc β] {vs : List Nat} {g it c e : IR} {xs : List α} {p : α → Bool} {f : α → β} {kf : α → List (Nat × EV)} (H : Has n ks de) (hi : Jl dw bs (evi T C de it) (Sp.pure xs)) (hg : Tg n (wipeK vs ks) g α kf)
    (hc : ∀ x d1, Has n (kf x) d1 → Jb dw bs (evt T C d1 c) (Sp.pure (p x)))
    (he : ∀ x d1, Has n (kf x) d1 → Jv dw bs (ev T C d1 e) (Sp.pure (f x))) : Jv dw bs (ev T C de (.lc vs g it c e)) (Sp.pure ((xs.filter p).map f)) := J_lc1 H hi hg hc he
/-- without a test -/
theorem hush_pure {α : Type} (a : α) : Sp.hush (Sp.pure a) = Sp.pure a := rfl
theorem J_lcM [Enc α] [Enc β] {vs : List Nat} {g it e : IR} {ti : Sp (List α)} {f : α → Sp β} {kf : α → List (Nat × EV)} (H : Has n ks de) (hi : Jl dw bs (evi T C de it) ti) (hg : Tg n (wipeK vs ks) g α kf)
    (he : ∀ x d1, Has n (kf x) d1 → Jv dw bs (ev T C d1 e) (f x)) : Jv dw bs (ev T C de (.lc vs g it (.kb true) e)) (Sp.bind ti fun xs => Sp.comp (fun x => Sp.bind (Sp.hush (f x)) fun v => Sp.pure (some v)) xs) := by
  have h := J_lc (c := .kb true) (p := fun _ => Sp.pure true) H hi hg (fun _ _ _ => T_kb) he
  exact h
/-! dict comprehensions (keys: ints, texts) -/
section
variable [DKey κ] [DecidableEq κ] [Enc α] [Enc β]
theorem compD_J (hk : DKey.tt κ = false) {step : D → M (Option (D × D))} {f : α → Sp (Option (κ × β))} (h : ∀ x, J (Inv dw bs) (fun d S (a : Option (κ × β)) => Inv dw bs S ∧ d = a.map fun p => ((enc p.1 : D), (enc p.2 : D))) (step (enc x)) (Inv dw bs) (f x)) :
    ∀ (xs : List α) (acc : Dct κ β), Jv dw bs (Y.compD (xs.map enc) step (enc acc)) (Sp.compD f xs acc)
  | [], acc => Jv.ret (a := acc)
  | x :: r, acc => by
    show Jv dw bs (bnd (step (enc x)) fun o => match o with
      | some (k, v) => tryL (putKV k v (enc acc)) fun a => Y.compD (r.map enc) step a
      | none => Y.compD (r.map enc) step (enc acc)) (Sp.bind (f x) fun o => match o with
      | some p => Sp.bind (Sp.put acc p.1 p.2) fun d' => Sp.compD f r d'
      | none => Sp.compD f r acc)
    refine J.bnd (h x) (fun _ h => h) fun d a => J.fact (fun e => ?_)
    subst e
    cases a with
    | none => exact compD_J hk h r acc
    | some p =>
      refine J.need (c := acc.l.length < sizeLine) (t := Sp.compD f r (acc.put p.1 p.2)) fun hc => ?_
      show Jv dw bs (tryL (dput (enc p.1) (enc p.2) (enc acc)) fun a => Y.compD (r.map enc) step a) _
      rw [dput_enc acc p.1 p.2 hc]
      exact compD_J hk h r _
theorem J_dc (hk : DKey.tt κ = false) {vs : List Nat} {g it c k v : IR} {ti : Sp (List α)} {p : α → Sp Bool} {f : α → Sp κ} {f2 : α → Sp β} {kf : α → List (Nat × EV)} (H : Has n ks de) (hi : Jl dw bs (evi T C de it) ti) (hg : Tg n (wipeK vs ks) g α kf)
    (hc : ∀ x d1, Has n (kf x) d1 → Jb dw bs (evt T C d1 c) (p x))
    (he : ∀ x d1, Has n (kf x) d1 → Jv dw bs (ev T C d1 k) (f x))
    (he2 : ∀ x d1, Has n (kf x) d1 → Jv dw bs (ev T C d1 v) (f2 x)) : Jv dw bs (ev T C de (.dc vs g it c k v)) (Sp.bind ti fun xs => Sp.compD (fun x => Sp.bind (Sp.hush (p x)) fun b => if b = true then Sp.bind (Sp.hush (f x)) fun y => Sp.bind (Sp.hush (f2 x)) fun z => Sp.pure (some (y, z)) else Sp.pure none) xs (⟨[]⟩ : Dct κ β)) := by
  rw [ev]
  refine blM hi fun xs => ?_
  have e0 : (D.dct [] []) = (enc (⟨[]⟩ : Dct κ β) : D) := by
    show _ = (if DKey.tt κ = true then D.dtt _ _ else D.dct _ _)
    rw [hk]
    rfl
  rw [e0]
  refine compD_J hk (fun x => ?_) xs _
  obtain ⟨d1, h1, h2⟩ := hg _ (H.wipe vs) x
  refine tryL_J h1 (bbM (J.hush (hc x d1 h2)) fun b => ?_)
  cases b
  · exact J.ret fun S h => ⟨h, rfl⟩
  · exact bM (J.hush (he x d1 h2)) fun y => bM (J.hush (he2 x d1 h2)) fun z => J.ret fun S h => ⟨h, rfl⟩
theorem puts_eq (f : α → κ × β) : ∀ (xs : List α) (d : Dct κ β), Sp.compD (fun x => Sp.pure (some (f x))) xs d = Sp.puts (xs.map f) d
  | [], d => rfl
  | x :: r, d => by
    show Sp.bind (Sp.put d (f x).1 (f x).2) (fun d' => Sp.compD _ r d') = Sp.bind (Sp.put d (f x).1 (f x).2) fun d' => Sp.puts (r.map f) d'
    congr 1
    funext d'
    exact puts_eq f r d'
theorem puts_eq1 (p : α → Bool) (f : α → κ × β) : ∀ (xs : List α) (d : Dct κ β), Sp.compD (fun x => if p x = true then Sp.pure (some (f x)) else Sp.pure none) xs d = Sp.puts ((xs.filter p).map f) d
  | [], d => rfl
  | x :: r, d => by
    rw [List.filter_cons]
    show Sp.bind (if p x = true then Sp.pure (some (f x)) else Sp.pure none) _ = _
    cases p x with
    | true =>
      rw [if_pos rfl, if_pos rfl, List.map_cons]
      show Sp.bind (Sp.put d (f x).1 (f x).2) (fun d' => Sp.compD _ r d') = Sp.bind (Sp.put d (f x).1 (f x).2) fun d' => Sp.puts _ d'
      congr 1
      funext d'
      exact puts_eq1 p f r d'
    | false => exact puts_eq1 p f r d
/-- by values -/
theorem J_dc0 (hk : DKey.tt κ = false) {vs : List Nat} {g it k v : IR} {ti : Sp (List α)} {f : α → κ} {f2 : α → β} {kf : α → List (Nat × EV)} (H : Has n ks de) (hi : Jl dw bs (evi T C de it) ti) (hg : Tg n (wipeK vs ks) g α kf)
    (he : ∀ x d1, Has n (kf x) d1 → Jv dw bs (ev T C d1 k) (Sp.pure (f x)))
    (he2 : ∀ x d1, Has n (kf x) d1 → Jv dw bs (ev T C d1 v) (Sp.pure (f2 x))) : Jv dw bs (ev T C de (.dc vs g it (.kb true) k v)) (Sp.bind ti fun xs => Sp.puts (xs.map fun x => (f x, f2 x)) (⟨[]⟩ : Dct κ β)) := by
  have h := J_dc hk (c := .kb true) (p := fun _ => Sp.pure true) (f := fun x => Sp.pure (f x)) (f2 := fun x => Sp.pure (f2 x)) H hi hg (fun _ _ _ => T_kb) he he2
  have e : (fun xs : List α => Sp.puts (xs.map fun x => (f x, f2 x)) (⟨[]⟩ : Dct κ β)) = fun xs => Sp.compD (fun x => Sp.pure (some (f x, f2 x))) xs (⟨[]⟩ : Dct κ β) := by
    funext xs
    rw [puts_eq]
  rw [e]
  exact h
theorem J_dc1 (hk : DKey.tt κ = false) {vs : List Nat} {g it c k v : IR} {ti : Sp (List α)} {p : α → Bool} {f : α → κ} {f2 : α → β} {kf : α → List (Nat × EV)} (H : Has n ks de) (hi : Jl dw bs (evi T C de it) ti) (hg : Tg n (wipeK vs ks) g α kf)
    (hc : ∀ x d1, Has n (kf x) d1 → Jb dw bs (evt T C d1 c) (Sp.pure (p x)))
    (he : ∀ x d1, Has n (kf x) d1 → Jv dw bs (ev T C d1 k) (Sp.pure (f x)))
    (he2 : ∀ x d1, Has n (kf x) d1 → Jv dw bs (ev T C d1 v) (Sp.pure (f2 x))) : Jv dw bs (ev T C de (.dc vs g it c k v)) (Sp.bind ti fun xs => Sp.puts ((xs.filter p).map fun x => (f x, f2 x)) (⟨[]⟩ : Dct κ β)) := by
  have h := J_dc hk (p := fun x => Sp.pure (p x)) (f := fun x => Sp.pure (f x)) (f2 := fun x => Sp.pure (f2 x)) H hi hg hc he he2
  have e : (fun xs : List α => Sp.puts ((xs.filter p).map fun x => (f x, f2 x)) (⟨[]⟩ : Dct κ β)) = fun xs => Sp.compD (fun x => if p x = true then Sp.pure (some (f x, f2 x)) else Sp.pure none) xs (⟨[]⟩ : Dct κ β) := by
    funext xs
    rw [puts_eq1]
  rw [e]
  exact h
/-- dict(list of pairs) -/
theorem dfill_enc (hk : DKey.tt κ = false) : ∀ (xs : List (κ × β)) (d : Dct κ β), dfill (d.l.map fun p => enc p.1) (d.l.map fun p => enc p.2) (xs.map enc) = some (enc (xs.foldl (fun d p => d.put p.1 p.2) d))
  | [], d => by
    show some (D.dct _ _) = some (if DKey.tt κ = true then D.dtt _ _ else D.dct _ _)
    rw [hk]
    rfl
  | p :: xs, d => by
    obtain ⟨z, hz⟩ := DKey.one p.1 hk
    show (match (enc p.1 : D).ky with
      | some (.one y) => if (dfind (.one y) (d.l.map fun p => enc p.1) (d.l.map fun p => (enc p.2 : D))).isSome then dfill (d.l.map fun p => enc p.1) (dputV (.one y) (enc p.2) (d.l.map fun p => enc p.1) (d.l.map fun p => enc p.2)) (xs.map enc) else dfill ((d.l.map fun p => enc p.1) ++ [enc p.1]) ((d.l.map fun p => enc p.2) ++ [enc p.2]) (xs.map enc)
      | _ => none) = some (enc (xs.foldl (fun d p => d.put p.1 p.2) (d.put p.1 p.2)))
    rw [DKey.key, hz]
    rw [← dfill_enc hk xs (d.put p.1 p.2)]
    have hs : (dfind (.one z) (d.l.map fun p => enc p.1) (d.l.map fun p => (enc p.2 : D))).isSome = d.has p.1 := by
      rw [← hz, dfind_enc, has_get, Option.isSome_map]
      rfl
    show (if _ then _ else _) = _
    rw [hs]
    unfold Dct.put
    cases d.has p.1
    · rw [if_neg (by simp), if_neg (by simp), List.map_append, List.map_append]
      rfl
    · rw [if_pos rfl, if_pos rfl, ← hz, putK_enc, dputV_enc]
theorem b_dictL (hk : DKey.tt κ = false) (xs : List (κ × β)) : Jv dw bs (biM .dict [enc xs]) (Sp.pure (xs.foldl (fun d p => d.put p.1 p.2) (⟨[]⟩ : Dct κ β))) := bi1 (dfill_enc hk xs ⟨[]⟩)
end
theorem J_dct0 [DKey κ] [Enc α] (hk : DKey.tt κ = false) : Jv dw bs (ev T C de (.dct .nil)) (Sp.pure (⟨[]⟩ : Dct κ α)) := by
  rw [ev, evl]
  have e0 : (D.dct [] []) = (enc (⟨[]⟩ : Dct κ α) : D) := by
    show _ = (if DKey.tt κ = true then D.dtt _ _ else D.dct _ _)
    rw [hk]
    rfl
  refine (show Jv dw bs (ret (D.dct [] [])) _ from ?_)
  rw [e0]
  exact Jv.ret
theorem J_dctT [DKey κ] [Enc α] (hk : DKey.tt κ = true) : Jv dw bs (ev T C de .dctT) (Sp.pure (⟨[]⟩ : Dct κ α)) := by
  rw [ev]
  have e0 : (D.dtt [] []) = (enc (⟨[]⟩ : Dct κ α) : D) := by
    show _ = (if DKey.tt κ = true then D.dtt _ _ else D.dct _ _)
    rw [hk]
    rfl
  rw [e0]
  exact Jv.ret
theorem J_callk {E I : Sb → Prop} {P : D → Sb → γ → Prop} {t : Sp γ} {f : Nat} {a kw : IR} {perm : List Nat} {dfl : List D} (h : J E P (bnd (evl T C de a) fun ds => bnd (evl T C de kw) fun es => tryL (perm.mapM fun i => (ds ++ (es ++ dfl))[i]?) fun as => bnd (C f as) fun r => ret r.1) I t) : J E P (ev T C de (.callk f a kw perm dfl)) I t := by rw [ev]; exact h
/-- == of dicts -/
def Dct.eqB [DecidableEq κ] [DecidableEq α] (a b : Dct κ α) : Bool := a.l.length == b.l.length && a.l.all fun p => match b.get p.1 with
  | some v => decide (p.2 = v)
  | none => false
theorem dKey_ky {d : D} {z : Key} (h : d.ky = some (.one z)) : dKey d = some z := by
  cases d <;> first | (cases h; done) | (injection h with h; injection h with h; subst h; rfl) | skip
  rename_i xs
  change (dKeys xs).map Ky.tup = _ at h
  cases e : dKeys xs <;> rw [e] at h <;> cases h
section
variable [DKey κ] [DecidableEq κ] [Dq α] [DecidableEq α]
def kzs : List (κ × α) → Option (List (Key × PyData))
  | [] => some []
  | p :: r => match dKey (enc p.1 : D), kzs r with
    | some k, some l => some ((k, (enc p.2 : D).py) :: l)
    | _, _ => none
theorem dKV_enc (hk : DKey.tt κ = false) (hd : Nat.ble (Dq.dep α) 60 = true) : ∀ l : List (κ × α), ∃ q, dKV (l.map fun (p : κ × α) => enc p.1) (l.map fun (p : κ × α) => enc p.2) = some q ∧ kzs l = some q ∧ q.length = l.length
  | [] => ⟨[], rfl, rfl, rfl⟩
  | p :: l => by
    obtain ⟨q, h1, h2, h3⟩ := dKV_enc hk hd l
    obtain ⟨z, hz⟩ := DKey.one p.1 hk
    have hz' : dKey (enc p.1 : D) = some z := dKey_ky (by rw [DKey.key, hz])
    have hs : (enc p.2 : D).shaped = true := sane_shaped (Dq.sn p.2) (Nat.le_trans (Nat.le_of_ble_eq_true hd) (by decide))
    refine ⟨(z, (enc p.2 : D).py) :: q, ?_, ?_, by rw [List.length_cons, List.length_cons, h3]⟩
    · show (match dKey (enc p.1 : D) with | some x => if (enc p.2 : D).shaped = true then (dKV (l.map fun (p : κ × α) => enc p.1) (l.map fun (p : κ × α) => enc p.2)).map ((x, (enc p.2 : D).py) :: ·) else none | none => none) = _
      rw [hz']
      show (if (enc p.2 : D).shaped = true then (dKV (l.map fun (p : κ × α) => enc p.1) (l.map fun (p : κ × α) => enc p.2)).map ((z, (enc p.2 : D).py) :: ·) else none) = _
      rw [if_pos hs, h1]
      rfl
    · show (match dKey (enc p.1 : D), kzs l with | some k, some l => some ((k, (enc p.2 : D).py) :: l) | _, _ => none) = _
      rw [hz', h2]
theorem kzs_find (hk : DKey.tt κ = false) {k : κ} {z : Key} (hz : DKey.kyc k = .one z) : ∀ {l : List (κ × α)} {q : List (Key × PyData)}, kzs l = some q → (q.find? fun x => decide (x.1 = z)) = (l.find? fun p => decide (p.1 = k)).map fun p => (z, (enc p.2 : D).py)
  | [], q, h => by cases h; rfl
  | p :: l, q, h => by
    obtain ⟨y, hy⟩ := DKey.one p.1 hk
    have hy' : dKey (enc p.1 : D) = some y := dKey_ky (by rw [DKey.key, hy])
    have h : (match dKey (enc p.1 : D), kzs l with | some k, some l => some ((k, (enc p.2 : D).py) :: l) | _, _ => none) = some q := h
    rw [hy'] at h
    cases e : kzs l with
    | none => rw [e] at h; cases h
    | some r =>
      rw [e] at h
      cases h
      rw [List.find?_cons, List.find?_cons]
      by_cases c : p.1 = k
      · have : y = z := by rw [c, hz] at hy; injection hy with hy; exact hy.symm
        rw [decide_eq_true this, decide_eq_true c, this]
        rfl
      · have : y ≠ z := fun e => c (DKey.kinj _ _ (by rw [hy, hz, e]))
        rw [decide_eq_false this, decide_eq_false c]
        exact kzs_find hk hz e
theorem sub_enc (hk : DKey.tt κ = false) (b : Dct κ α) {qb : List (Key × PyData)} (hb : kzs b.l = some qb) : ∀ {l : List (κ × α)} {q : List (Key × PyData)}, kzs l = some q → subKV qb q = (l.all fun p => (match b.get p.1 with
    | some v => decide (p.2 = v)
    | none => false))
  | [], q, h => by cases h; rfl
  | p :: l, q, h => by
    obtain ⟨y, hy⟩ := DKey.one p.1 hk
    have hy' : dKey (enc p.1 : D) = some y := dKey_ky (by rw [DKey.key, hy])
    have h : (match dKey (enc p.1 : D), kzs l with | some k, some l => some ((k, (enc p.2 : D).py) :: l) | _, _ => none) = some q := h
    rw [hy'] at h
    cases e : kzs l with
    | none => rw [e] at h; cases h
    | some r =>
      rw [e] at h
      cases h
      show (match qb.find? fun x => decide (x.1 = y) with | some q => PyData.eqv (enc p.2 : D).py q.2 && subKV qb r | none => false) = _
      rw [kzs_find hk hy hb, List.all_cons]
      unfold Dct.get
      cases b.l.find? fun q => decide (q.1 = p.1) with
      | none => rfl
      | some v =>
        show (PyData.eqv (enc p.2 : D).py (enc v.2 : D).py && subKV qb r) = (decide (p.2 = v.2) && _)
        rw [sub_enc hk b hb e]
        congr 1
        rw [Bool.eq_iff_iff, sane_eqv (Dq.sn p.2) (Dq.sn v.2), decide_eq_true_eq]
        exact ⟨Dq.inj _ _, fun e => by rw [e]⟩
theorem eqA_dct (hk : DKey.tt κ = false) (hd : Nat.ble (Dq.dep α) 60 = true) (a b : Dct κ α) : eqA (enc a) (enc b) = some (a.eqB b) := by
  obtain ⟨qa, h1, h2, h3⟩ := dKV_enc hk hd a.l
  obtain ⟨qb, g1, g2, g3⟩ := dKV_enc hk hd b.l
  show eqA (if DKey.tt κ = true then D.dtt _ _ else D.dct _ _) (if DKey.tt κ = true then D.dtt _ _ else D.dct _ _) = _
  rw [hk]
  show (match dKV (a.l.map fun p => enc p.1) (a.l.map fun p => enc p.2), dKV (b.l.map fun p => enc p.1) (b.l.map fun p => enc p.2) with | some p, some q => some (eqKV p q) | _, _ => none) = _
  rw [h1, g1]
  show some ((qa.length == qb.length) && subKV qb qa) = _
  rw [h3, g3, sub_enc hk b g2 h2]
  rfl
theorem o_eqD (hk : DKey.tt κ = false) (hd : Nat.ble (Dq.dep α) 60 = true) (a b : Dct κ α) : Jv dw bs (o2R T C .eq (enc a) (enc b)) (Sp.pure (a.eqB b)) := J_p2 (by
  show (eqA (enc a) (enc b)).map D.bl = _
  rw [eqA_dct hk hd]
  rfl)
theorem o_neD (hk : DKey.tt κ = false) (hd : Nat.ble (Dq.dep α) 60 = true) (a b : Dct κ α) : Jv dw bs (o2R T C .ne (enc a) (enc b)) (Sp.pure (!a.eqB b)) := J_p2 (by
  show (eqA (enc a) (enc b)).map (fun r => D.bl (!r)) = _
  rw [eqA_dct hk hd]
  rfl)
/-- sorted(d) -/
def sortKeys (d : Dct κ α) : Sp (List κ) := Sp.need ((decide (d.l.length < 64) && ((d.l.map fun p => (enc p.1 : D)).all D.isStr || (d.l.map fun p => (enc p.1 : D)).all D.isInt)) = true) (Sp.pure (sortZ (d.l.map (·.1))))
theorem b_sortedD (hk : DKey.tt κ = false) (d : Dct κ α) : Jv dw bs (biM .sorted [enc d]) (sortKeys d) := bi1N fun h => by
  show pBi .sorted [if DKey.tt κ = true then D.dtt _ _ else D.dct _ _] = _
  rw [hk]
  show (if (decide ((d.l.map fun p => (enc p.1 : D)).length < 64) && ((d.l.map fun p => (enc p.1 : D)).all D.isStr || (d.l.map fun p => (enc p.1 : D)).all D.isInt)) = true then some (D.lst ((d.l.map fun p => (enc p.1 : D)).mergeSort leD)) else none) = _
  rw [List.length_map, if_pos h]
  show some (D.lst _) = some (D.lst ((sortZ (d.l.map (·.1))).map enc))
  rw [sortZ, List.map_mergeSort (s := leD) (fun _ _ _ _ => rfl), List.map_map]
  rfl
end
end
end Y
/-! Z7: plain laws of typed computations. -/
namespace Y
open PySem L2
open Enc (enc)
inductive All2 {α β : Type} (R : α → β → Prop) : List α → List β → Prop where
  | nil : All2 R [] []
  | cons {a : α} {b : β} {l : List α} {m : List β} (h : R a b) (t : All2 R l m) : All2 R (a :: l) (b :: m)
namespace Sp
variable {α β γ σ ρ ω κ : Type}
theorem ext_ {m n : Sp α} (h : ∀ b Q, m b Q ↔ n b Q) : m = n := by
  funext b Q
  exact propext (h b Q)
@[simp] theorem pure_bind (a : α) (f : α → Sp β) : bind (pure a) f = f a := rfl
@[simp] theorem bind_pure (m : Sp α) : bind m pure = m := by
  funext b Q
  show m b _ = m b Q
  congr 1
  funext b' r
  cases r <;> rfl
@[simp] theorem bind_pure' (m : Sp α) : bind m (fun x => pure x) = m := bind_pure m
@[simp] theorem bind_assoc (m : Sp α) (f : α → Sp β) (g : β → Sp γ) : bind (bind m f) g = bind m fun a => bind (f a) g := by
  funext b Q
  show m b _ = m b _
  congr 1
@[simp] theorem fail_bind (f : α → Sp β) : bind fail f = fail := rfl
@[simp] theorem raise_bind (c : Nat) (fs : List D) (f : α → Sp β) : bind (raise c fs) f = raise c fs := rfl
@[simp] theorem lift_some (a : α) : lift (some a) = pure a := rfl
@[simp] theorem lift_none : lift (none : Option α) = fail := rfl
theorem need_t {c : Prop} (h : c) (m : Sp α) : need c m = m := by
  funext b Q
  exact propext ⟨fun x => x.2, fun x => ⟨h, x⟩⟩
@[simp] theorem need_true (m : Sp α) : need True m = m := need_t trivial m
@[simp] theorem need_bind (c : Prop) (m : Sp α) (f : α → Sp β) : bind (need c m) f = need c (bind m f) := rfl
@[simp] theorem hush_pure (a : α) : hush (pure a) = pure a := rfl
@[simp] theorem hush_fail : hush (fail : Sp α) = fail := rfl
@[simp] theorem hush_lift (o : Option α) : hush (lift o) = lift o := by cases o <;> rfl
@[simp] theorem hush_need (c : Prop) (m : Sp α) : hush (need c m) = need c (hush m) := rfl
@[simp] theorem hush_take (n : Int) : hush (take n) = take n := rfl
@[simp] theorem hush_bind (m : Sp α) (f : α → Sp β) : hush (bind m f) = bind (hush m) fun a => hush (f a) := by
  funext b Q
  show m b _ = m b _
  congr 1
@[simp] theorem hush_hush (m : Sp α) : hush (hush m) = hush m := by
  funext b Q
  show m b _ = m b _
  congr 1
theorem hush_ite (c : Prop) [Decidable c] (m n : Sp α) : hush (if c then m else n) = if c then hush m else hush n := by split <;> rfl
theorem bind_ite (c : Prop) [Decidable c] (m n : Sp α) (f : α → Sp β) : bind (if c then m else n) f = if c then bind m f else bind n f := by split <;> rfl
theorem ite_pure (c : Prop) [Decidable c] (a b : α) : (if c then pure a else pure b) = pure (if c then a else b) := by split <;> rfl
@[simp] theorem opt_none (n : β) (s : α → β) : opt none n s = n := rfl
@[simp] theorem opt_some (a : α) (n : β) (s : α → β) : opt (some a) n s = s a := rfl
@[simp] theorem flow_nx (s : σ) (tr : σ → Sp ω) (w : ρ → ω) : flow (pure (.nx s)) tr w = tr s := rfl
@[simp] theorem flow_rt (r : ρ) (tr : σ → Sp ω) (w : ρ → ω) : flow (pure (.rt r)) tr w = pure (w r) := rfl
@[simp] theorem flow_need (c : Prop) (m : Sp (Fl σ ρ)) (tr : σ → Sp ω) (w : ρ → ω) : flow (need c m) tr w = need c (flow m tr w) := rfl
theorem comp_eq {f : α → Sp (Option β)} {g : α → Option β} : ∀ {xs : List α}, (∀ x ∈ xs, f x = pure (g x)) → comp f xs = pure (xs.filterMap g)
  | [], _ => rfl
  | x :: r, h => by
    show bind (f x) _ = _
    rw [h x List.mem_cons_self, pure_bind, comp_eq (fun y hy => h y (List.mem_cons_of_mem _ hy)), pure_bind, List.filterMap_cons]
    cases g x <;> rfl
theorem comp_map {f : α → Sp (Option β)} {g : α → β} {xs : List α} (h : ∀ x ∈ xs, f x = pure (some (g x))) : comp f xs = pure (xs.map g) := by
  rw [comp_eq h, List.filterMap_eq_map']
theorem comp_filter {f : α → Sp (Option β)} {p : α → Bool} {g : α → β} {xs : List α} (h : ∀ x ∈ xs, f x = if p x = true then pure (some (g x)) else pure none) : comp f xs = pure ((xs.filter p).map g) := by
  rw [comp_eq (g := fun x => if p x = true then some (g x) else none) (fun x hx => by rw [h x hx]; split <;> rfl)]
  congr 1
  clear h
  induction xs with
  | nil => rfl
  | cons x xs ih =>
    rw [List.filterMap_cons, List.filter_cons]
    cases p x
    · exact ih
    · rw [if_pos rfl, if_pos rfl, List.map_cons, ih]
/-- a loop of values, with what stays true -/
theorem fold_eq {f : α → σ → Sp σ} {g : σ → α → σ} (I : List α → σ → Prop) : ∀ {xs : List α} {s : σ}, I xs s → (∀ x r s, I (x :: r) s → f x s = pure (g s x) ∧ I r (g s x)) → fold f xs s = pure (xs.foldl g s) ∧ I [] (xs.foldl g s)
  | [], s, h, _ => ⟨rfl, h⟩
  | x :: r, s, h, k => by
    obtain ⟨h1, h2⟩ := k x r s h
    obtain ⟨h3, h4⟩ := fold_eq I h2 k
    refine ⟨?_, h4⟩
    show bind (f x s) _ = _
    rw [h1, pure_bind, h3]
    rfl
theorem fold_eq' {f : α → σ → Sp σ} {g : σ → α → σ} {xs : List α} {s : σ} (h : ∀ x ∈ xs, ∀ s, f x s = pure (g s x)) : fold f xs s = pure (xs.foldl g s) :=
  (fold_eq (fun r _ => ∀ x ∈ r, x ∈ xs) (fun x hx => hx) fun x r s hr => ⟨h x (hr x List.mem_cons_self) s, fun y hy => hr y (List.mem_cons_of_mem _ hy)⟩).1
/-! ### what holds of a computation's end; c: how many draws it makes at most -/
def Holds (m : Sp α) (c : Nat) (P : α → Prop) : Prop := ∀ b Q, c ≤ b → (∀ b' v, b ≤ b' + c → P v → Q b' (.ok v)) → m b Q
variable {P P' : α → Prop} {c d : Nat} {m : Sp α}
theorem Holds.pure {a : α} (h : P a) : Holds (Sp.pure a) c P := fun b Q _ k => k b a (Nat.le_add_right _ _) h
theorem Holds.imp (h : Holds m c P) (k : ∀ v, P v → P' v) : Holds m c P' := fun b Q hb q => h b Q hb fun b' v hb' hv => q b' v hb' (k v hv)
theorem Holds.more (h : Holds m c P) (k : c ≤ d) : Holds m d P := fun b Q hb q => h b Q (by omega) fun b' v hb' hv => q b' v (by omega) hv
theorem Holds.bind {f : α → Sp β} {R : β → Prop} (h : Holds m c P) (k : ∀ v, P v → Holds (f v) d R) : Holds (Sp.bind m f) (c + d) R := fun b Q hb q => h b _ (by omega) fun b' v hb' hv => k v hv b' Q (by omega) fun b2 w hb2 hw => q b2 w (by omega) hw
theorem Holds.take {n : Int} (h : 0 < n) (h2 : n < 1073741824) : Holds (Sp.take n) 1 (fun v => 0 ≤ v ∧ v < n) := fun b Q hb q => ⟨b - 1, by omega, ⟨h, h2⟩, fun v h3 h4 => q (b - 1) v (by omega) ⟨h3, h4⟩⟩
theorem Holds.pick {xs : List α} (h : xs ≠ []) (h2 : xs.length < 1073741824) : Holds (Sp.pick xs) 1 (fun v => v ∈ xs) := by
  have hl : 0 < xs.length := List.length_pos_iff.mpr h
  refine (Holds.bind (d := 0) (Holds.take (by omega) (by omega)) fun v hv => ?_)
  obtain ⟨hv2, e⟩ := atI_in hv.1 hv.2
  rw [e]
  exact Holds.pure (List.getElem_mem hv2)
theorem Holds.shuffled {xs : List α} (h : xs.length < 100000) : Holds (Sp.shuffled xs) xs.length (fun v => v.Perm xs) := fun b Q hb q => ⟨h, b - xs.length, by omega, fun ys hy => q _ ys (by omega) hy⟩
theorem Holds.hush (h : Holds m c P) : Holds (Sp.hush m) c P := fun b Q hb q => h b _ hb fun b' v hb' hv => q b' v hb' hv
theorem Holds.need {p : Prop} (hp : p) (h : Holds m c P) : Holds (Sp.need p m) c P := fun b Q hb q => ⟨hp, h b Q hb q⟩
theorem Holds.ite {p : Prop} [Decidable p] {n : Sp α} (h1 : p → Holds m c P) (h2 : ¬ p → Holds n c P) : Holds (if p then m else n) c P := by
  split
  · exact h1 ‹_›
  · exact h2 ‹_›
/-- a comprehension: what holds of each item -/
theorem Holds.comp {f : α → Sp (Option β)} {R : α → Option β → Prop} (h : ∀ x, Holds (f x) c (R x)) : ∀ xs : List α, Holds (Sp.comp f xs) (c * xs.length) (fun ys => ∃ os : List (Option β), ys = os.filterMap id ∧ All2 R xs os)
  | [] => Holds.pure ⟨[], rfl, .nil⟩
  | x :: r => by
    refine (Holds.bind (h x) fun o ho => Holds.bind (d := 0) (Holds.comp h r) fun ys hy => ?_).more (by rw [List.length_cons, Nat.mul_add]; omega)
    obtain ⟨os, rfl, hos⟩ := hy
    refine Holds.pure ⟨o :: os, ?_, .cons ho hos⟩
    cases o <;> rfl
/-- a loop: an invariant of what is left -/
theorem Holds.fold {f : α → σ → Sp σ} (I : List α → σ → Prop) (k : ∀ x r s, I (x :: r) s → Holds (f x s) c (fun s' => I r s')) : ∀ {xs : List α} {s : σ}, I xs s → Holds (Sp.fold f xs s) (c * xs.length) (fun s' => I [] s')
  | [], s, h => Holds.pure h
  | x :: r, s, h => (Holds.bind (k x r s h) fun s' hs => Holds.fold I k hs).more (by rw [List.length_cons, Nat.mul_add]; omega)
/-- a loop that goes to its end -/
theorem Holds.loop {f : α → σ → Sp (Fl σ ρ)} (I : List α → σ → Prop) (k : ∀ x r s, I (x :: r) s → Holds (f x s) c (fun o => ∃ s', o = .nx s' ∧ I r s')) : ∀ {xs : List α} {s : σ}, I xs s → Holds (Sp.loop f xs s) (c * xs.length) (fun o => ∃ s', o = .nx s' ∧ I [] s')
  | [], s, h => Holds.pure ⟨s, rfl, h⟩
  | x :: r, s, h => by
    refine (Holds.bind (k x r s h) fun o ho => ?_).more (d := c * (x :: r).length) (c := c + c * r.length) (by rw [List.length_cons, Nat.mul_add]; omega)
    obtain ⟨s', rfl, hs⟩ := ho
    exact Holds.loop I k hs
theorem Holds.flow {th : Sp (Fl σ ρ)} {tr : σ → Sp ω} {w : ρ → ω} {I : σ → Prop} {R : ω → Prop} (h : Holds th c (fun o => ∃ s', o = .nx s' ∧ I s')) (k : ∀ s, I s → Holds (tr s) d R) : Holds (Sp.flow th tr w) (c + d) R := by
  refine Holds.bind h fun o ho => ?_
  obtain ⟨s', rfl, hs⟩ := ho
  exact k s' hs
/-- the law's end -/
theorem Holds.law {m : Sp Bool} (h : Holds m c (fun v => v = true)) (hc : c ≤ 2 ^ 39) : m (2 ^ 39) fun _ r => r = .ok true := h _ _ hc fun b' v _ hv => by rw [hv]
end Sp
end Y
/-! Z8: sorted: the order of ints, texts, tuples. -/
namespace Y
open PySem L2
open Enc (enc)
open PyProof.Rows (lexLt itemOrd)
/-- the order of lists of ints, as Python has it -/
def ltL : List Int → List Int → Bool
  | _, [] => false
  | [], _ :: _ => true
  | x :: r, y :: t => decide (x < y) || (decide (x = y) && ltL r t)
def leL (a b : List Int) : Bool := !ltL b a
theorem lex_cons (a b : Int ⊕ List Nat) (r t : List (Int ⊕ List Nat)) : lexLt itemOrd (a :: r) (b :: t) = (itemOrd.blt a b || (!itemOrd.blt b a && lexLt itemOrd r t)) := by
  rw [PyProof.Rows.lexLt]
theorem lex_self (l : List (Int ⊕ List Nat)) : lexLt itemOrd l l = false := PyProof.Rows.lex_irrefl (O := itemOrd) l
theorem lex_int (x y : Int) (r t : List (Int ⊕ List Nat)) : lexLt itemOrd (.inl x :: r) (.inl y :: t) = (decide (x < y) || (decide (x = y) && lexLt itemOrd r t)) := by
  rw [lex_cons]
  show (decide (x < y) || (!decide (y < x) && _)) = _
  by_cases h : x < y
  · rw [decide_eq_true h]; rfl
  · by_cases h2 : x = y
    · subst h2
      rw [decide_eq_false h, decide_eq_true rfl]
      rfl
    · have h3 : y < x := by omega
      rw [decide_eq_true h3, decide_eq_false h2, decide_eq_false h]
      rfl
theorem lex_ints (T : List (Int ⊕ List Nat)) : ∀ xs ys : List Int, lexLt itemOrd (PySem.W.keyToksAll (D.pys (xs.map .int)) ++ T) (PySem.W.keyToksAll (D.pys (ys.map .int)) ++ T) = ltL xs ys
  | [], [] => by
    show lexLt itemOrd (.inl 0 :: T) (.inl 0 :: T) = _
    rw [lex_self]
    rfl
  | [], y :: ys => by
    show lexLt itemOrd (.inl 0 :: T) (.inl 1 :: _) = _
    rw [lex_int]
    rfl
  | x :: xs, [] => by
    show lexLt itemOrd (.inl 1 :: _) (.inl 0 :: T) = _
    rw [lex_int]
    rfl
  | x :: xs, y :: ys => by
    show lexLt itemOrd (.inl 1 :: .inl x :: (PySem.W.keyToksAll (D.pys (xs.map .int)) ++ T)) (.inl 1 :: .inl y :: (PySem.W.keyToksAll (D.pys (ys.map .int)) ++ T)) = _
    rw [lex_int, lex_int, lex_ints T xs ys]
    rfl
/-- tuples of ints -/
theorem leD_tupI (a b : Tup Int) : leD (enc a) (enc b) = leL a.l b.l := by
  show (!lexLt itemOrd (PySem.W.keyToksAll (D.pys (b.l.map .int))) (PySem.W.keyToksAll (D.pys (a.l.map .int)))) = _
  have := lex_ints [] b.l a.l
  rw [List.append_nil, List.append_nil] at this
  rw [this]
  rfl
/-- an int and a tuple of ints -/
theorem leD_intTup (a b : Int × Tup Int) : leD (enc a) (enc b) = (decide (a.1 < b.1) || (decide (a.1 = b.1) && leL a.2.l b.2.l)) := by
  show (!lexLt itemOrd (.inl 1 :: .inl b.1 :: .inl 1 :: (PySem.W.keyToksAll (D.pys (b.2.l.map .int)) ++ [.inl 0])) (.inl 1 :: .inl a.1 :: .inl 1 :: (PySem.W.keyToksAll (D.pys (a.2.l.map .int)) ++ [.inl 0]))) = _
  rw [lex_int, lex_int, lex_int, lex_ints]
  unfold leL
  rcases Int.lt_trichotomy a.1 b.1 with h | h | h
  · have h1 : ¬ b.1 < a.1 := by omega
    have h2 : ¬ b.1 = a.1 := by omega
    simp [h, h1, h2]
  · simp [h]
  · have h1 : ¬ a.1 < b.1 := by omega
    have h2 : ¬ a.1 = b.1 := by omega
    simp [h, h1, h2]
/-- two ints and a tuple of ints -/
theorem leD_int2Tup (a b : P3 Int Int (Tup Int)) : leD (enc a) (enc b) = (decide (a.a < b.a) || (decide (a.a = b.a) && (decide (a.b < b.b) || (decide (a.b = b.b) && leL a.c.l b.c.l)))) := by
  show (!lexLt itemOrd (.inl 1 :: .inl b.a :: .inl 1 :: .inl b.b :: .inl 1 :: (PySem.W.keyToksAll (D.pys (b.c.l.map .int)) ++ [.inl 0])) (.inl 1 :: .inl a.a :: .inl 1 :: .inl a.b :: .inl 1 :: (PySem.W.keyToksAll (D.pys (a.c.l.map .int)) ++ [.inl 0]))) = _
  rw [lex_int, lex_int, lex_int, lex_int, lex_int, lex_ints]
  unfold leL
  rcases Int.lt_trichotomy a.a b.a with h | h | h
  · have h1 : ¬ b.a < a.a := by omega
    have h2 : ¬ b.a = a.a := by omega
    simp [h, h1, h2]
  · rcases Int.lt_trichotomy a.b b.b with g | g | g
    · have h1 : ¬ b.b < a.b := by omega
      have h2 : ¬ b.b = a.b := by omega
      simp [h, g, h1, h2]
    · simp [h, g]
    · have h1 : ¬ a.b < b.b := by omega
      have h2 : ¬ a.b = b.b := by omega
      simp [h, g, h1, h2]
  · have h1 : ¬ a.a < b.a := by omega
    have h2 : ¬ a.a = b.a := by omega
    simp [h, h1, h2]
/-! the sorted list -/
section
variable {α : Type} [Enc α]
theorem sortZ_perm (xs : List α) : (sortZ xs).Perm xs := List.mergeSort_perm _ _
theorem sortZ_sorted (xs : List α) : (sortZ xs).Pairwise (fun a b => leD (enc a) (enc b) = true) := List.pairwise_mergeSort (le := fun a b : α => leD (enc a) (enc b)) (fun a b c => leD_trans) (fun a b => leD_total _ _) xs
/-- its first item is the least -/
theorem sortZ_head {xs : List α} (h : xs ≠ []) : ∃ m, atI (sortZ xs) 0 = some m ∧ m ∈ xs ∧ ∀ y ∈ xs, leD (enc m) (enc y) = true := by
  have hp := sortZ_perm xs
  have hs := sortZ_sorted xs
  cases e : sortZ xs with
  | nil => rw [e] at hp; exact absurd hp.nil_eq.symm h
  | cons m r =>
    rw [e] at hp hs
    refine ⟨m, ?_, hp.mem_iff.mp List.mem_cons_self, fun y hy => ?_⟩
    · obtain ⟨_, q⟩ := atI_in (xs := m :: r) (v := 0) (Int.le_refl _) (by simp)
      exact q
    · rcases List.mem_cons.mp (hp.mem_iff.mpr hy) with rfl | hy
      · have := leD_total (enc y) (enc y)
        rw [Bool.or_self] at this
        exact this
      · exact (List.pairwise_cons.mp hs).1 y hy
/-- what is sorted already, and what is sorted from the same items -/
theorem sortZ_eq {xs ys : List α} (anti : ∀ a ∈ ys, ∀ b ∈ ys, leD (enc a) (enc b) = true → leD (enc b) (enc a) = true → a = b) (hp : xs.Perm ys) (hs : xs.Pairwise (fun a b => leD (enc a) (enc b) = true)) : sortZ ys = xs :=
  List.Perm.eq_of_pairwise (le := fun a b : α => leD (enc a) (enc b) = true) (fun a b ha hb h1 h2 => anti a ((sortZ_perm ys).mem_iff.mp ha) b (hp.mem_iff.mp hb) h1 h2) (sortZ_sorted ys) hs ((sortZ_perm ys).trans hp.symm)
theorem sortZ_congr {xs ys : List α} (anti : ∀ a ∈ ys, ∀ b ∈ ys, leD (enc a) (enc b) = true → leD (enc b) (enc a) = true → a = b) (hp : xs.Perm ys) : sortZ xs = sortZ ys :=
  (sortZ_eq anti ((sortZ_perm xs).trans hp) (sortZ_sorted xs)).symm
end
theorem anti_sx (a b : Sx) (h1 : leD (enc a) (enc b) = true) (h2 : leD (enc b) (enc a) = true) : a = b := Sx.ext (leD_str_anti h1 h2)
theorem anti_int (a b : Int) (h1 : leD (enc a) (enc b) = true) (h2 : leD (enc b) (enc a) = true) : a = b := by
  have h1 : leD (.int a) (.int b) = true := h1
  have h2 : leD (.int b) (.int a) = true := h2
  rw [leD_int, decide_eq_true_eq] at h1 h2
  omega
theorem leD_dt {a b : D} (h : leD a b = false) : leD b a = true := by
  have := leD_total a b
  rw [h] at this
  exact this
/-! what can be sorted -/
theorem sortable_of {xs : List D} {n : Nat} (hs : ∀ x ∈ xs, sane n x = true) (hn : n ≤ 64) (hl : xs.length ≤ 1000000) (ha : ∀ x ∈ xs, ∀ y ∈ xs, PySem.W.alike x.py y.py = true) (ht : (∀ x ∈ xs, ∃ y ys, x = .tup (y :: ys)) ∨ (∀ x ∈ xs, (∃ i, x = .int i) ∨ ∃ s, x = .str s)) : sortable xs = true := by
  unfold sortable
  simp only [Bool.and_eq_true, decide_eq_true_eq, List.all_eq_true, Bool.or_eq_true]
  refine ⟨⟨⟨fun x hx => sane_shaped (hs x hx) hn, by rw [sizeLine_eq]; omega⟩, ha⟩, ?_⟩
  rcases ht with h | h
  · refine .inl fun x hx => ?_
    obtain ⟨y, ys, rfl⟩ := h x hx
    rfl
  · refine .inr fun x hx => ?_
    rcases h x hx with ⟨i, rfl⟩ | ⟨s, rfl⟩ <;> rfl
theorem sorted_sx (xs : List Sx) (h : xs.length ≤ 1000000) : Sp.sorted xs = Sp.pure (sortZ xs) := Sp.need_t (sortable_of (n := 0) (fun x hx => by
    obtain ⟨s, _, rfl⟩ := List.mem_map.mp hx
    exact s.ok) (by decide) (by rw [List.length_map]; exact h) (fun x hx y hy => by
    obtain ⟨s, _, rfl⟩ := List.mem_map.mp hx
    obtain ⟨t, _, rfl⟩ := List.mem_map.mp hy
    rfl) (.inr fun x hx => by
    obtain ⟨s, _, rfl⟩ := List.mem_map.mp hx
    exact .inr ⟨_, rfl⟩)) _
theorem alikeAll_ints : ∀ a b : List Int, PySem.W.alikeAll (D.pys (a.map .int)) (D.pys (b.map .int)) = true
  | [], _ => by simp [D.pys, PySem.W.alikeAll]
  | _ :: _, [] => by simp [D.pys, PySem.W.alikeAll]
  | x :: a, y :: b => by
    show (PySem.W.alike (.int x) (.int y) && PySem.W.alikeAll (D.pys (a.map .int)) (D.pys (b.map .int))) = true
    rw [alikeAll_ints a b]
    rfl
theorem sorted_intTup (xs : List (Int × Tup Int)) (h : xs.length ≤ 1000000) : Sp.sorted xs = Sp.pure (sortZ xs) := Sp.need_t (sortable_of (n := 2) (fun x hx => by
    obtain ⟨s, _, rfl⟩ := List.mem_map.mp hx
    exact Dq.sn s) (by decide) (by rw [List.length_map]; exact h) (fun x hx y hy => by
    obtain ⟨s, _, rfl⟩ := List.mem_map.mp hx
    obtain ⟨t, _, rfl⟩ := List.mem_map.mp hy
    show (PySem.W.alike (.int s.1) (.int t.1) && (PySem.W.alikeAll (D.pys (s.2.l.map .int)) (D.pys (t.2.l.map .int)) && PySem.W.alikeAll [] [])) = true
    rw [alikeAll_ints]
    rfl) (.inl fun x hx => by
    obtain ⟨s, _, rfl⟩ := List.mem_map.mp hx
    exact ⟨_, _, rfl⟩)) _
theorem sorted_int2Tup (xs : List (P3 Int Int (Tup Int))) (h : xs.length ≤ 1000000) : Sp.sorted xs = Sp.pure (sortZ xs) := Sp.need_t (sortable_of (n := 2) (fun x hx => by
    obtain ⟨s, _, rfl⟩ := List.mem_map.mp hx
    exact Dq.sn s) (by decide) (by rw [List.length_map]; exact h) (fun x hx y hy => by
    obtain ⟨s, _, rfl⟩ := List.mem_map.mp hx
    obtain ⟨t, _, rfl⟩ := List.mem_map.mp hy
    show (PySem.W.alike (.int s.a) (.int t.a) && (PySem.W.alike (.int s.b) (.int t.b) && (PySem.W.alikeAll (D.pys (s.c.l.map .int)) (D.pys (t.c.l.map .int)) && PySem.W.alikeAll [] []))) = true
    rw [alikeAll_ints]
    rfl) (.inl fun x hx => by
    obtain ⟨s, _, rfl⟩ := List.mem_map.mp hx
    exact ⟨_, _, rfl⟩)) _
end Y
/-! Z9: plain laws of dicts. -/
namespace Y
open PySem L2
open Enc (enc)
section
variable {κ α β : Type} [DecidableEq κ]
abbrev Dct.keys (d : Dct κ α) : List κ := d.l.map (·.1)
theorem Dct.has_iff (d : Dct κ α) (k : κ) : d.has k = true ↔ k ∈ d.keys := by
  unfold Dct.has Dct.keys
  rw [List.any_eq_true, List.mem_map]
  exact ⟨fun ⟨p, hp, h⟩ => ⟨p, hp, of_decide_eq_true h⟩, fun ⟨p, hp, h⟩ => ⟨p, hp, decide_eq_true h⟩⟩
theorem Dct.put_new {d : Dct κ α} {k : κ} (v : α) (h : k ∉ d.keys) : d.put k v = ⟨d.l ++ [(k, v)]⟩ := by
  unfold Dct.put
  rw [if_neg (fun e => h ((d.has_iff k).mp e))]
theorem Dct.get_mem {d : Dct κ α} (hn : d.keys.Nodup) {k : κ} {v : α} (h : (k, v) ∈ d.l) : d.get k = some v := by
  obtain ⟨l⟩ := d
  unfold Dct.get
  unfold Dct.keys at hn
  induction l with
  | nil => cases h
  | cons p l ih =>
    rw [List.map_cons, List.nodup_cons] at hn
    rw [List.find?_cons]
    rcases List.mem_cons.mp h with rfl | h
    · rw [decide_eq_true rfl]
      rfl
    · have : ¬ p.1 = k := fun e => hn.1 (List.mem_map.mpr ⟨(k, v), h, e.symm⟩)
      rw [decide_eq_false this]
      exact ih hn.2 h
theorem Dct.get_none {d : Dct κ α} {k : κ} (h : k ∉ d.keys) : d.get k = none := by
  unfold Dct.get
  rw [Option.map_eq_none_iff, List.find?_eq_none]
  intro p hp e
  exact h (List.mem_map.mpr ⟨p, hp, of_decide_eq_true e⟩)
/-- pairs with new keys, put one after the other -/
theorem puts_new : ∀ (ps : List (κ × α)) (d : Dct κ α), (d.keys ++ ps.map (·.1)).Nodup → d.l.length + ps.length ≤ 1000000 → Sp.puts ps d = Sp.pure ⟨d.l ++ ps⟩
  | [], d, _, _ => by rw [List.append_nil]; rfl
  | p :: ps, d, hn, hl => by
    rw [List.length_cons] at hl
    have hk : p.1 ∉ d.keys := by
      rw [List.nodup_append] at hn
      exact fun h => hn.2.2 _ h _ (List.mem_map.mpr ⟨p, List.mem_cons_self, rfl⟩) rfl
    show Sp.bind (Sp.put d p.1 p.2) (fun d' => Sp.puts ps d') = _
    unfold Sp.put
    rw [Sp.need_t (by rw [sizeLine_eq]; omega), Sp.pure_bind, Dct.put_new _ hk]
    have e : (⟨d.l ++ [(p.1, p.2)]⟩ : Dct κ α).keys = d.keys ++ [p.1] := by
      unfold Dct.keys
      rw [List.map_append]
      rfl
    rw [puts_new ps ⟨d.l ++ [(p.1, p.2)]⟩ (by rw [e, List.append_assoc]; exact hn) (by show (d.l ++ [_]).length + _ ≤ _; rw [List.length_append, List.length_singleton]; omega)]
    show Sp.pure (⟨d.l ++ [(p.1, p.2)] ++ ps⟩ : Dct κ α) = _
    rw [List.append_assoc]
    rfl
theorem compD_new {f : β → Sp (Option (κ × α))} {g : β → Option (κ × α)} {xs : List β} (h : ∀ x ∈ xs, f x = Sp.pure (g x)) (d : Dct κ α) : Sp.compD f xs d = Sp.puts (xs.filterMap g) d := by
  induction xs generalizing d with
  | nil => rfl
  | cons x xs ih =>
    show Sp.bind (f x) _ = _
    rw [h x List.mem_cons_self, Sp.pure_bind, List.filterMap_cons]
    cases g x with
    | none => exact ih (fun y hy => h y (List.mem_cons_of_mem _ hy)) d
    | some p =>
      show Sp.bind (Sp.put d p.1 p.2) _ = Sp.bind (Sp.put d p.1 p.2) _
      congr 1
      funext d'
      exact ih (fun y hy => h y (List.mem_cons_of_mem _ hy)) d'
theorem ofL_new : ∀ (ps : List (κ × α)) (d : Dct κ α), (d.keys ++ ps.map (·.1)).Nodup → ps.foldl (fun d p => d.put p.1 p.2) d = ⟨d.l ++ ps⟩
  | [], d, _ => by rw [List.append_nil]; rfl
  | p :: ps, d, hn => by
    have hk : p.1 ∉ d.keys := by
      rw [List.nodup_append] at hn
      exact fun h => hn.2.2 _ h _ (List.mem_map.mpr ⟨p, List.mem_cons_self, rfl⟩) rfl
    have e : (⟨d.l ++ [(p.1, p.2)]⟩ : Dct κ α).keys = d.keys ++ [p.1] := by
      unfold Dct.keys
      rw [List.map_append]
      rfl
    rw [List.foldl_cons, Dct.put_new _ hk, ofL_new ps ⟨d.l ++ [(p.1, p.2)]⟩ (by rw [e, List.append_assoc]; exact hn)]
    show (⟨d.l ++ [(p.1, p.2)] ++ ps⟩ : Dct κ α) = _
    rw [List.append_assoc]
    rfl
theorem ofL_eq (ps : List (κ × α)) (h : (ps.map (·.1)).Nodup) : Dct.ofL ps = ⟨ps⟩ := ofL_new ps ⟨[]⟩ h
theorem eqB_refl [DecidableEq α] (d : Dct κ α) (h : d.keys.Nodup) : d.eqB d = true := by
  unfold Dct.eqB
  rw [Bool.and_eq_true, List.all_eq_true]
  refine ⟨beq_self_eq_true _, fun p hp => ?_⟩
  rw [Dct.get_mem h (k := p.1) (v := p.2) hp]
  exact decide_eq_true rfl
end
theorem sortKeys_sx {α : Type} [Dq α] [DecidableEq α] (d : Dct Sx α) (h : d.l.length < 64) : sortKeys d = Sp.pure (sortZ d.keys) := Sp.need_t (by
  rw [Bool.and_eq_true, Bool.or_eq_true]
  refine ⟨decide_eq_true h, .inl ?_⟩
  rw [List.all_eq_true]
  intro x hx
  obtain ⟨p, _, rfl⟩ := List.mem_map.mp hx
  rfl) _
end Y
/-! Z10: what holds of comprehensions with draws. -/
namespace Y
open PySem L2
open Enc (enc)
theorem All2.length {α β : Type} {R : α → β → Prop} {l : List α} {m : List β} (h : All2 R l m) : l.length = m.length := by
  induction h with
  | nil => rfl
  | cons _ _ ih => rw [List.length_cons, List.length_cons, ih]
theorem All2.right {α β : Type} {R : α → β → Prop} {P : β → Prop} {l : List α} {m : List β} (h : All2 R l m) (k : ∀ a b, R a b → P b) : ∀ b ∈ m, P b := by
  induction h with
  | nil => exact fun _ h => by cases h
  | cons h _ ih =>
    intro b hb
    rcases List.mem_cons.mp hb with rfl | hb
    · exact k _ _ h
    · exact ih b hb
theorem All2.map {α β γ : Type} {R : α → β → Prop} {f : β → γ} {g : α → γ} {l : List α} {m : List β} (h : All2 R l m) (k : ∀ a b, R a b → f b = g a) : m.map f = l.map g := by
  induction h with
  | nil => rfl
  | cons h _ ih => rw [List.map_cons, List.map_cons, ih, k _ _ h]
namespace Sp
variable {α β σ : Type} {c : Nat}
/-- each item by a computation of its own -/
theorem Holds.compAll {g : α → Sp β} {R : α → β → Prop} (h : ∀ x, Holds (g x) c (R x)) : ∀ xs : List α, Holds (Sp.comp (fun x => Sp.bind (Sp.hush (g x)) fun v => Sp.pure (some v)) xs) (c * xs.length) (fun ys => All2 R xs ys)
  | [] => Holds.pure .nil
  | x :: r => by
    refine (Holds.bind (c := c) (P := fun o => ∃ v, o = some v ∧ R x v) (Holds.bind (d := 0) (h x).hush fun v hv => Holds.pure ⟨v, rfl, hv⟩) fun o ho => Holds.bind (d := 0) (Holds.compAll h r) fun ys hy => ?_).more (by rw [List.length_cons, Nat.mul_add]; omega)
    obtain ⟨v, rfl, hv⟩ := ho
    exact Holds.pure (.cons hv hy)
/-- items kept or left by a draw -/
theorem Holds.compSub {g : α → Sp Bool} (h : ∀ x, Holds (g x) c (fun _ => True)) : ∀ xs : List α, Holds (Sp.comp (fun x => Sp.bind (Sp.hush (g x)) fun k => if k = true then Sp.bind (Sp.hush (Sp.pure x)) fun v => Sp.pure (some v) else Sp.pure none) xs) (c * xs.length) (fun ys => ys.Sublist xs)
  | [] => Holds.pure (List.Sublist.refl _)
  | x :: r => by
    refine (Holds.bind (c := c) (P := fun o => o = some x ∨ o = none) (Holds.bind (d := 0) (h x).hush fun k _ => ?_) fun o ho => Holds.bind (d := 0) (Holds.compSub h r) fun ys hy => ?_).more (by rw [List.length_cons, Nat.mul_add]; omega)
    · cases k
      · exact Holds.pure (.inr rfl)
      · exact Holds.pure (.inl rfl)
    · rcases ho with rfl | rfl
      · exact Holds.pure (hy.cons_cons x)
      · exact Holds.pure (hy.cons x)
end Sp
end Y
/-! Z11: objects, isinstance, constructors. -/
namespace Y
open PySem L2
open Enc (enc)
/-- the place of a field -/
def fldIx (f : Str) : List Str → Option Nat
  | [] => none
  | n :: ns => if n = f then some 0 else (fldIx f ns).map (· + 1)
theorem fieldOf_ix {f : Str} : ∀ {ns : List Str} {vs : List D} {i : Nat}, fldIx f ns = some i → fieldOf ns vs f = vs[i]?
  | [], vs, i, h => by cases h
  | n :: ns, [], i, h => rfl
  | n :: ns, v :: vs, i, h => by
    unfold fldIx at h
    unfold fieldOf
    split at h
    · cases h
      rename_i e
      rw [if_pos e]
      rfl
    · rename_i e
      rw [if_neg e]
      obtain ⟨j, hj, rfl⟩ := Option.map_eq_some_iff.mp h
      exact fieldOf_ix hj
/-- what leaves the number of draws as it is -/
def Sp.still {α : Type} (t : Sp α) : Sp α := fun b Q => t b fun b' r => b' = b ∧ Q b' r
@[simp] theorem Sp.still_pure {α : Type} (a : α) : Sp.still (Sp.pure a) = Sp.pure a := by
  funext b Q
  exact propext ⟨fun h => h.2, fun h => ⟨rfl, h⟩⟩
@[simp] theorem Sp.still_fail {α : Type} : Sp.still (Sp.fail : Sp α) = Sp.fail := rfl
@[simp] theorem Sp.still_raise {α : Type} (c : Nat) (fs : List D) : Sp.still (Sp.raise c fs : Sp α) = Sp.raise c fs := by
  funext b Q
  exact propext ⟨fun h => h.2, fun h => ⟨rfl, h⟩⟩
@[simp] theorem Sp.still_need {α : Type} (c : Prop) (t : Sp α) : Sp.still (Sp.need c t) = Sp.need c (Sp.still t) := rfl
section
variable {T : Tb} {C : Calls} {W n : Nat} {ks : List (Nat × EV)} {de : Env} {dw : Bool} {bs be : List (Nat × D)} {α β γ δ κ ω σ ρ : Type} {E : Sb → Prop} {K : Out → Sb → ω → Prop}
theorem J_att {t : Sp α} {P : D → Sb → α → Prop} {E I : Sb → Prop} {a : IR} {f : Str} (h : J E P (bnd (ev T C de a) fun x => attR T C x f) I t) : J E P (ev T C de (.att a f)) I t := by rw [ev]; exact h
/-- a field -/
theorem a_fld [Enc α] [Enc β] {x : α} {c i : Nat} {ns : List Str} {vs : List D} {f : Str} (y : β) (e : (enc x : D) = .ins c ns vs) (hf : T.isFld c f = true) (hi : fldIx f ns = some i) (hv : vs[i]? = some (enc y)) : Jv dw bs (attR T C (enc x) f) (Sp.pure y) :=
  J.at (m' := lift (some (enc y))) (fun S => by
    unfold attR
    rw [view_nb S (Enc.nb x), e]
    show (if T.isFld c f = true then lift (fieldOf ns vs f) S else _) = _
    rw [if_pos hf, fieldOf_ix hi, hv]) (Jv.lift rfl)
/-- a property -/
theorem a_prop [Enc α] [Enc β] {x : α} {c i : Nat} {ns : List Str} {vs : List D} {f : Str} {t : Sp β} (e : (enc x : D) = .ins c ns vs) (hf : T.isFld c f = false) (hp : T.prop c f = some i) (h : Jr dw bs (C i [enc x]) t) : Jv dw bs (attR T C (enc x) f) (Sp.hush t) :=
  J.at (m' := bnd (hush (C i [enc x])) fun r => ret r.1) (fun S => by
    unfold attR
    rw [view_nb S (Enc.nb x)]
    have e2 := e
    generalize enc x = d at e2 ⊢
    subst e2
    show (if T.isFld c f = true then _ else (match T.prop c f with | some i => (C i [_] S).hush.bnd fun r => ret r.1 | none => .bad)) = _
    rw [if_neg (by rw [hf]; exact Bool.false_ne_true), hp]
    rfl) (J.thn (J.hush h) fun d S a h => ⟨_, rfl, h⟩)
theorem J_meth {t : Sp α} {P : D → Sb → α → Prop} {E I : Sb → Prop} {a as : IR} {m : Str} (h : J E P (bnd (ev T C de a) fun x => bnd (methF T x m) fun i => bnd (evl T C de as) fun ds => bnd (C i (x :: ds)) fun r => ret r.1) I t) : J E P (ev T C de (.meth a m as)) I t := by rw [ev]; exact h
theorem m_at [Enc α] {P : δ → Sb → γ → Prop} {E I : Sb → Prop} {t : Sp γ} {x : α} {c i : Nat} {ns : List Str} {vs : List D} {m : Str} {f : Nat → M δ} (e : (enc x : D) = .ins c ns vs) (h1 : ns.contains m = false) (h2 : T.meth c m = some i) (h : J E P (f i) I t) : J E P (bnd (methF T (enc x) m) f) I t :=
  J.at (m' := f i) (fun S => by
    show (methF T (enc x) m S).bnd f = _
    unfold methF
    rw [view_nb S (Enc.nb x), e]
    show ((if ns.contains m = true then .bad else lift (T.meth c m) S) : Res Nat).bnd f = _
    rw [if_neg (by rw [h1]; exact Bool.false_ne_true), h2]
    rfl) h
/-- o[..] by the class's own def -/
theorem i_own [Enc α] [Enc β] [Enc γ] {x : α} {y : β} {c i : Nat} {ns : List Str} {vs : List D} {t : Sp γ} (e : (enc x : D) = .ins c ns vs) (h2 : T.meth c "__getitem__" = some i) (h : Jr dw bs (C i [enc x, enc y]) t) : Jv dw bs (idxR T C (enc x) (enc y)) (Sp.hush t) :=
  J.at (m' := hush (bnd (C i [enc x, enc y]) fun r => ret r.1)) (fun S => by
    unfold idxR
    rw [view_nb S (Enc.nb x)]
    have e2 := e
    generalize enc x = d at e2 ⊢
    subst e2
    show (dunR T C c "__getitem__" [_, enc y] S).hush = _
    unfold dunR
    rw [h2]
    rfl) (J.hush (J.thn h fun d S a h => ⟨_, rfl, h⟩))
/-- == by the class's own def -/
theorem o_eqI [Enc α] [Enc β] {x : α} {y : β} {c i : Nat} {ns ms : List Str} {vs ws : List D} {t : Sp Bool} (e : (enc x : D) = .ins c ns vs) (e' : (enc y : D) = .ins c ms ws) (h2 : T.meth c "__eq__" = some i) (h : Jr dw bs (C i [enc x, enc y]) t) : Jv dw bs (o2R T C .eq (enc x) (enc y)) t :=
  J.at (m' := bnd (C i [enc x, enc y]) fun r => match r.1 with | .bl b => ret (.bl b) | _ => fail) (fun S => by
    unfold o2R
    rw [view_nb S (Enc.nb x)]
    have e2 := e
    generalize hx : enc x = d at e2 ⊢
    subst e2
    show o2I T C .eq c _ (enc y) S = _
    unfold o2I
    rw [view_nb S (Enc.nb y), e']
    show (if c = c then (dunR T C c "__eq__" [_, _] S).bnd _ else .bad) = _
    rw [if_pos rfl]
    unfold dunR
    rw [h2]
    show ((C i _ S).bnd fun r => ret r.1).bnd _ = _
    show (bnd (bnd (C i [_, _]) fun r => ret r.1) _) S = _
    rw [bnd_assoc]
    rfl) (J.thn h fun d S a h => by
      obtain ⟨h1, h3⟩ := h
      exact ⟨.bl a, by rw [h3]; rfl, h1, rfl⟩)
theorem o_neI [Enc α] [Enc β] {x : α} {y : β} {c i : Nat} {ns ms : List Str} {vs ws : List D} {t : Sp Bool} (e : (enc x : D) = .ins c ns vs) (e' : (enc y : D) = .ins c ms ws) (h2 : T.meth c "__eq__" = some i) (h : Jr dw bs (C i [enc x, enc y]) t) : Jv dw bs (o2R T C .ne (enc x) (enc y)) (Sp.bind (Sp.hush t) fun v => Sp.pure (!v)) :=
  J.at (m' := bnd (hush (C i [enc x, enc y])) fun r => match r.1 with | .bl b => ret (.bl (!b)) | _ => fail) (fun S => by
    unfold o2R
    rw [view_nb S (Enc.nb x)]
    have e2 := e
    generalize hx : enc x = d at e2 ⊢
    subst e2
    show o2I T C .ne c _ (enc y) S = _
    unfold o2I
    rw [view_nb S (Enc.nb y), e']
    show (if c = c then notR (dunR T C c "__eq__" [_, _] S).hush else .bad) = _
    rw [if_pos rfl]
    unfold dunR notR
    rw [h2]
    show (Res.hush ((C i _ S).bnd fun r => ret r.1)).bnd _ = (Res.hush (C i _ S)).bnd _
    generalize C i [_, _] S = r
    cases r <;> rfl) (J.bnd (J.hush h) (fun _ h => h) fun d a => J.fact (fun e => by
      obtain ⟨d1, d2⟩ := d
      cases e
      exact Jv.ret (a := !a)))
/-! isinstance -/
theorem J_kty (n : String) : Jv dw bs (ev T C de (.kty n)) (Sp.pure (⟨.ty n, rfl⟩ : Dy)) := by rw [ev]; exact Jv.ret (a := (⟨.ty n, rfl⟩ : Dy))
theorem J_kcls (c : Nat) : Jv dw bs (ev T C de (.kcls c)) (Sp.pure (⟨.cls c, rfl⟩ : Dy)) := by rw [ev]; exact Jv.ret (a := (⟨.cls c, rfl⟩ : Dy))
theorem J_isi [Enc α] [Enc β] {a t : IR} {x : α} {y : β} {b : Bool} (ha : Jv dw bs (ev T C de a) (Sp.pure x)) (ht : Jv dw bs (ev T C de t) (Sp.pure y)) (e : isiD T (enc x) (enc y) = some b) : Jv dw bs (ev T C de (.isi a t)) (Sp.pure b) := by
  rw [ev]
  refine bV ha (bV ht (J.at (m' := lift (some (enc b))) (fun S => ?_) (Jv.lift rfl)))
  rw [view_nb S (Enc.nb x), e]
  rfl
/-! a constructor -/
/-- how an __init__ ends -/
def KI [Enc ρ] : Out → Sb → ρ → Prop
  | .nx _, S, r => madeI S.2 = some (enc r)
  | _, _, _ => False
theorem F_I [Enc ρ] {i c k : Nat} {fe : Fe} {as : List D} {t : Sp ρ} (hT : T.fns[i]? = some fe) (hn : fe.ini = some c) (hl : as.length + 1 = fe.arity) (hs : Nat.ble (as.length + 1) fe.slots = true) (ha : D.noBoxes as = true)
    (h : ∀ de, Has fe.slots (parK 0 (.box 0 :: as)) de → J (fun _ => True) (KI (ρ := ρ)) (sts T (callF T W k) W de fe.body) (Inv false [(0, .ins c [] [])]) t) : Jr dw bs (callF T W (k + 1) i as) (Sp.still t) := by
  intro S hS Q hQ
  have i0 : Inv false [(0, .ins c [] [])] (S.1, [.ins c [] []]) := ⟨fun p hp => by
    cases List.mem_singleton.mp hp
    rfl, by simp, fun h => by cases h⟩
  have h1 := h _ (init_has (fe := fe) (as := .box 0 :: as) (Nat.le_of_ble_eq_true hs)) (S.1, [.ins c [] []]) i0 _ hQ
  have e : callF T W (k + 1) i as S.2 = (match sts T (callF T W k) W (initE fe (.box 0 :: as)) fe.body [.ins c [] []] with
    | .ok (.nx _) S' => (match madeI S' with
      | some d => .ok (d, true) S.2
      | none => .bad)
    | .exc e fs _ => if D.noBoxes fs = true then .exc e fs S.2 else .bad
    | _ => .bad) := by
    show (match T.fns[i]? with | some fe => runF T W (callF T W k) fe as | none => fail) S.2 = _
    rw [hT]
    show runF T W (callF T W k) fe as S.2 = _
    unfold runF
    rw [hn]
    show runI T W (callF T W k) fe c as S.2 = _
    unfold runI
    rw [if_pos ⟨hl, ha⟩]
    rfl
  rw [e]
  revert h1
  dsimp only
  cases sts T (callF T W k) W (initE fe (.box 0 :: as)) fe.body [.ins c [] []] with
  | ok o S' =>
    rintro ⟨b, a, h1, rfl, h2⟩
    cases o with
    | nx d =>
      have h1 : madeI S' = some (enc a) := h1
      dsimp only
      rw [h1]
      exact ⟨S.1, a, ⟨hS, rfl⟩, h2⟩
    | rtv d f => exact h1.elim
    | bk d => exact h1.elim
    | ct d => exact h1.elim
  | exc c fs S' =>
    rintro ⟨b, h1, rfl, h2⟩
    dsimp only
    rw [if_pos h1.2]
    exact ⟨S.1, ⟨hS, h1.2⟩, h2⟩
  | bad => exact id
/-- what the fields are, the boxes taken out -/
inductive Ub (bs : List (Nat × D)) : List D → List D → Prop where
  | nil : Ub bs [] []
  | v {d : D} {vs ds : List D} (h : d.noBox = true) (t : Ub bs vs ds) : Ub bs (d :: vs) (d :: ds)
  | b {m : Nat} {d : D} {vs ds : List D} (h : (m, d) ∈ bs) (f : isFresh d = true) (nb : d.noBox = true) (t : Ub bs vs ds) : Ub bs (.box m :: vs) (d :: ds)
theorem Ub.ok {vs ds : List D} {S : Sb} (h : Inv dw bs S) (u : Ub bs vs ds) : unboxes S.2 vs = some ds := by
  induction u with
  | nil => rfl
  | @v d vs ds hd t ih =>
    show (match unbox1 S.2 d, unboxes S.2 vs with | some x, some xs => some (x :: xs) | _, _ => none) = _
    rw [ih]
    have : unbox1 S.2 d = some d := by
      unfold unbox1
      cases d <;> first | (exact if_pos hd) | cases hd
    rw [this]
  | @b m d vs ds hm f nb t ih =>
    show (match unbox1 S.2 (.box m), unboxes S.2 vs with | some x, some xs => some (x :: xs) | _, _ => none) = _
    rw [ih]
    have : unbox1 S.2 (.box m) = some d := by
      show (match S.2[m]? with | some d => if (isFresh d && d.noBox) = true then some d else none | none => none) = _
      rw [h.at_ _ hm]
      exact if_pos (by rw [f, nb]; rfl)
    rw [this]
theorem S_endI [Enc ρ] (r : ρ) {c : Nat} {ns : List Str} {vs ds : List D} {bs' : List (Nat × D)} (u : Ub ((0, .ins c ns vs) :: bs') vs ds) (e : D.ins c ns ds = enc r) : J (fun _ => True) (KI (ρ := ρ)) (sts T C W de .nil) (Inv dw ((0, .ins c ns vs) :: bs')) (Sp.pure r) := by
  rw [sts_nil]
  refine J.ret fun S h => ?_
  show madeI S.2 = _
  have h0 := h.at_ _ List.mem_cons_self
  have hu := u.ok h
  obtain ⟨b, S⟩ := S
  cases S with
  | nil => cases h0
  | cons x S =>
    have h0 : some x = some (.ins c ns vs) := h0
    cases h0
    show (unboxes (.ins c ns vs :: S) vs).map _ = _
    rw [show unboxes (.ins c ns vs :: S) vs = some ds from hu, ← e]
    rfl
/-- the object under construction -/
theorem selfB {i c : Nat} {ns : List Str} {vs : List D} {bs' : List (Nat × D)} {S : Sb} (h : Inv dw ((i, .ins c ns vs) :: bs') S) : view S.2 (.box i) = .ins c ns vs := by
  show S.2.getD i .non = _
  rw [List.getD_eq_getElem?_getD, h.at_ _ List.mem_cons_self]
  rfl
theorem putNs_new {f : Str} : ∀ {ns : List Str}, f ∉ ns → putNs f ns = ns ++ [f]
  | [], _ => rfl
  | n :: ns, h => by
    rw [List.mem_cons, not_or] at h
    show (if n = f then n :: ns else n :: putNs f ns) = _
    rw [if_neg fun e => h.1 e.symm, putNs_new h.2]
    rfl
theorem putVs_new {f : Str} {d : D} : ∀ {ns : List Str} {vs : List D}, f ∉ ns → ns.length = vs.length → putVs f d ns vs = vs ++ [d]
  | [], [], _, _ => rfl
  | [], _ :: _, _, h => by cases h
  | n :: ns, [], _, h => by cases h
  | n :: ns, v :: vs, h, hl => by
    rw [List.mem_cons, not_or] at h
    show (if n = f then d :: vs else v :: putVs f d ns vs) = _
    rw [if_neg fun e => h.1 e.symm, putVs_new h.2 (by simpa using hl)]
    rfl
theorem Inv.put {S : Sb} {m : Nat} {x y : D} (h : Inv false ((m, x) :: bs) S) : Inv false ((m, y) :: bs) (S.1, S.2.set m y) := by
  have hn := h.nd
  rw [List.map_cons, List.nodup_cons] at hn
  refine ⟨fun p hp => ?_, by rw [List.map_cons, List.nodup_cons]; exact hn, fun z => by cases z⟩
  have hm := List.getElem?_eq_some_iff.mp (h.at_ _ List.mem_cons_self)
  rcases List.mem_cons.mp hp with rfl | hp
  · exact List.getElem?_set_self hm.1
  · show (S.2.set m y)[p.1]? = _
    rw [List.getElem?_set_ne fun e => hn.1 (List.mem_map.mpr ⟨p, hp, e.symm⟩)]
    exact h.at_ p (List.mem_cons_of_mem _ hp)
theorem Inv.new {S : Sb} {y : D} (h : Inv false bs S) : Inv false ((S.2.length, y) :: bs) (S.1, S.2 ++ [y]) := by
  have lt : ∀ p ∈ bs, p.1 < S.2.length := fun p hp => (List.getElem?_eq_some_iff.mp (h.at_ p hp)).1
  refine ⟨fun p hp => ?_, ?_, fun z => by cases z⟩
  · rcases List.mem_cons.mp hp with rfl | hp
    · show (S.2 ++ [y])[S.2.length]? = _
      rw [List.getElem?_append_right (Nat.le_refl _), Nat.sub_self]
      rfl
    · show (S.2 ++ [y])[p.1]? = _
      rw [List.getElem?_append_left (lt p hp)]
      exact h.at_ p hp
  · rw [List.map_cons, List.nodup_cons]
    refine ⟨fun hm => ?_, h.nd⟩
    obtain ⟨p, hp, e⟩ := List.mem_map.mp hm
    have := lt p hp
    omega
theorem Inv.swap {S : Sb} {p q : Nat × D} (h : Inv dw (p :: q :: bs) S) : Inv dw (q :: p :: bs) S := by
  refine ⟨fun r hr => h.at_ r ?_, ?_, fun z => ⟨(h.dr z).1, fun r hr => (h.dr z).2 r ?_⟩⟩
  · simp only [List.mem_cons] at hr ⊢
    rcases hr with h | h | h
    · exact .inr (.inl h)
    · exact .inl h
    · exact .inr (.inr h)
  · have := h.nd
    simp only [List.map_cons, List.nodup_cons, List.mem_cons, not_or] at this ⊢
    exact ⟨⟨fun e => this.1.1 e.symm, this.2.1⟩, this.1.2, this.2.2⟩
  · simp only [List.mem_cons] at hr ⊢
    rcases hr with h | h | h
    · exact .inr (.inl h)
    · exact .inl h
    · exact .inr (.inr h)
theorem J.step {δ : Type} {E I I' : Sb → Prop} {P : δ → Sb → α → Prop} {m m' : M δ} {t : Sp α} (h : J E P m' I' t) (k : ∀ S, I S → ∃ S', I' (S.1, S') ∧ m S.2 = m' S') : J E P m I t := by
  intro S hS Q hQ
  obtain ⟨S', h1, h2⟩ := k S hS
  have := h (S.1, S') h1 Q hQ
  rw [h2]
  exact this
theorem S_fset [Enc α] {e rest : IR} {f : Str} {c : Nat} {ns : List Str} {vs : List D} {te : Sp α} {tr : α → Sp ω} (H : Has n ks de) (e0 : lookK 0 ks = some (.val (.box 0))) (hf : T.isFld c f = true) (hc : ns.contains f = false) (hl : Nat.blt ns.length 1000 = true) (hv : ns.length = vs.length)
    (he : Jv false ((0, .ins c ns vs) :: bs) (ev T C de e) te) (k : ∀ v, J (fun _ => True) K (sts T C W de rest) (Inv false ((0, .ins c (ns ++ [f]) (vs ++ [enc v])) :: bs)) (tr v)) : J (fun _ => True) K (sts T C W de (.cons (.fset (.var 0) f e) rest)) (Inv false ((0, .ins c ns vs) :: bs)) (Sp.bind te tr) := by
  have hl : ns.length < 1000 := Nat.le_of_ble_eq_true hl
  rw [sts_cons, st, bnd_assoc]
  refine J.bnd he (fun _ _ => trivial) fun d v => J.fact (fun e => ?_)
  subst e
  have e1 : ev T C de (.var 0) = ret (.box 0) := by rw [ev, H.at_ 0 _ e0]
  rw [e1]
  refine J.step (k v) fun S hS => ⟨_, hS.put, ?_⟩
  show (fputR T de (.box 0) f (enc v) S.2).bnd _ = _
  unfold fputR
  dsimp only
  rw [hS.at_ _ List.mem_cons_self]
  dsimp only
  have hm : f ∉ ns := fun hm => by
    rw [List.contains_iff_mem.mpr hm] at hc
    cases hc
  rw [if_pos (by rw [hf, decide_eq_true hl]; rfl), putNs_new hm, putVs_new hm hv]
  rfl
/-- self.f = a new container that is written to -/
theorem S_fsetB [Enc α] {e rest : IR} {f : Str} {c : Nat} {ns : List Str} {vs : List D} {te : Sp α} {tr : α → Sp ω} (H : Has n ks de) (e0 : lookK 0 ks = some (.val (.box 0))) (hf : T.isFld c f = true) (hc : ns.contains f = false) (hl : Nat.blt ns.length 1000 = true) (hv : ns.length = vs.length)
    (he : Jv false ((0, .ins c ns vs) :: bs) (ev T C de e) te) (k : ∀ v m, J (fun _ => True) K (sts T C W de rest) (Inv false ((0, .ins c (ns ++ [f]) (vs ++ [.box m])) :: (m, enc v) :: bs)) (tr v)) : J (fun _ => True) K (sts T C W de (.cons (.fset (.var 0) f (.boxed e)) rest)) (Inv false ((0, .ins c ns vs) :: bs)) (Sp.bind te tr) := by
  have hl : ns.length < 1000 := Nat.le_of_ble_eq_true hl
  have e5 : ev T C de (.boxed e) = bnd (ev T C de e) fun d => fun S => .ok (.box S.length) (S ++ [d]) := by rw [ev]
  rw [sts_cons, st, e5, bnd_assoc, bnd_assoc]
  refine J.bnd he (fun _ _ => trivial) fun d v => J.fact (fun e => ?_)
  subst e
  have e1 : ev T C de (.var 0) = ret (.box 0) := by rw [ev, H.at_ 0 _ e0]
  rw [e1]
  intro S hS Q hQ
  have ha := (hS.new (y := enc v)).swap.at_ _ List.mem_cons_self
  refine (J.step (I := fun S' => S' = S) (k v S.2.length) fun S' hS' => ⟨_, by subst hS'; exact (hS.new (y := enc v)).swap.put, ?_⟩) S rfl Q hQ
  subst hS'
  show (fputR T de (.box 0) f (.box S'.2.length) (S'.2 ++ [enc v])).bnd _ = _
  unfold fputR
  dsimp only
  rw [show (S'.2 ++ [enc v])[0]? = some (.ins c ns vs) from ha]
  dsimp only
  have hm : f ∉ ns := fun hm => by
    rw [List.contains_iff_mem.mpr hm] at hc
    cases hc
  rw [if_pos (by rw [hf, decide_eq_true hl]; rfl), putNs_new hm, putVs_new hm hv]
  rfl
/-- self.f, in the making -/
theorem J_attI [Enc β] {f : Str} {c i : Nat} {ns : List Str} {vs : List D} (y : β) (H : Has n ks de) (e0 : lookK 0 ks = some (.val (.box 0))) (hf : T.isFld c f = true) (hi : fldIx f ns = some i) (hv : vs[i]? = some (enc y)) : Jv dw ((0, .ins c ns vs) :: bs) (ev T C de (.att (.var 0) f)) (Sp.pure y) := by
  have e1 : ev T C de (.var 0) = ret (.box 0) := by rw [ev, H.at_ 0 _ e0]
  rw [ev, e1]
  refine J.step (m' := ret (enc y)) (Jv.ret (bs := (0, .ins c ns vs) :: bs)) fun S hS => ⟨_, hS, ?_⟩
  show attR T C (.box 0) f S.2 = _
  unfold attR
  rw [selfB hS]
  show (if T.isFld c f = true then lift (fieldOf ns vs f) S.2 else _) = _
  rw [if_pos hf, fieldOf_ix hi, hv]
  rfl
/-- self.f[k] = v, in the making -/
theorem S_bsetF [DKey κ] [DecidableEq κ] [Enc α] {a v rest : IR} {f : Str} {c i m : Nat} {ns : List Str} {vs : List D} {d : Dct κ α} {tv : Sp α} {tk : Sp κ} {tr : Dct κ α → Sp ω} (H : Has n ks de) (e0 : lookK 0 ks = some (.val (.box 0))) (hf : T.isFld c f = true) (hi : fldIx f ns = some i) (hx : vs[i]? = some (.box m))
    (hv : Jv false ((0, .ins c ns vs) :: (m, enc d) :: bs) (ev T C de v) tv) (hk : Jv false ((0, .ins c ns vs) :: (m, enc d) :: bs) (ev T C de a) tk)
    (kk : ∀ d', J (fun _ => True) K (sts T C W de rest) (Inv false ((0, .ins c ns vs) :: (m, enc d') :: bs)) (tr d')) : J (fun _ => True) K (sts T C W de (.cons (.bset (.att (.var 0) f) a v) rest)) (Inv false ((0, .ins c ns vs) :: (m, enc d) :: bs)) (Sp.bind tv fun y => Sp.bind tk fun x => Sp.bind (Sp.put d x y) tr) := by
  rw [sts_cons, st, bnd_assoc]
  refine J.bnd hv (fun _ _ => trivial) fun y v => J.fact (fun e => ?_)
  subst e
  have e1 : ev T C de (.var 0) = ret (.box 0) := by rw [ev, H.at_ 0 _ e0]
  refine J.step (m' := bnd (ev T C de a) fun q => bnd (bputR de (.box m) q (enc v)) fun o => match o with
    | .nx d1 => sts T C W d1 rest
    | o => ret o) (t := Sp.bind tk fun x => Sp.bind (Sp.put d x v) tr) (J.bnd hk (fun _ _ => trivial) fun q k => J.fact (fun e => ?_)) fun S hS => ⟨S.2, hS, ?_⟩
  · subst e
    refine J.need (c := d.l.length < sizeLine) (t := tr (d.put k v)) fun hc => ?_
    refine J.step (kk (d.put k v)) fun S hS => ⟨_, (hS.swap.put (y := enc (d.put k v))).swap, ?_⟩
    show (bputR de (.box m) (enc k) (enc v) S.2).bnd _ = _
    unfold bputR
    dsimp only
    rw [hS.swap.at_ _ List.mem_cons_self]
    dsimp only
    rw [dput_enc d k v hc]
    rfl
  · rw [ev, e1]
    show ((attR T C (.box 0) f S.2).bnd _).bnd _ = _
    have e2 : attR T C (.box 0) f S.2 = .ok (.box m) S.2 := by
      unfold attR
      rw [selfB hS]
      show (if T.isFld c f = true then lift (fieldOf ns vs f) S.2 else _) = _
      rw [if_pos hf, fieldOf_ix hi, hx]
      rfl
    rw [e2]
    show (bnd (bnd (ev T C de a) _) _) S.2 = _
    first
      | (rw [bnd_assoc]; done)
      | (rw [bnd_assoc]; rfl)
end
end Y
/-! Z12: any values, texts sign by sign. -/
namespace Y
open PySem L2
open Enc (enc)
def dy {α : Type} [Enc α] (a : α) : Dy := ⟨enc a, Enc.nb a⟩
/-- a value that is known to be of a kind -/
def Sp.cast {α : Type} [Enc α] (d : Dy) : Sp α := fun b Q => ∃ a : α, (enc a : D) = d.d ∧ Q b (.ok a)
def Sp.dynE {α : Type} [Enc α] (o : Option D) : Sp α := fun b Q => ∃ r : α, o = some (enc r) ∧ Q b (.ok r)
def dItems : D → Option (List D)
  | .lst xs => some xs
  | .tup xs => some xs
  | .ro xs => some xs
  | .dct ks _ => some ks
  | .dtt ks _ => some ks
  | _ => none
def Sp.dynL (d : Dy) : Sp (List Dy) := fun b Q => ∃ xs : List Dy, dItems d.d = some (xs.map enc) ∧ Q b (.ok xs)
def Sp.dynS (d : Dy) : Sp (List Dy) := fun b Q => ∃ xs : List Dy, (d.d = .lst (xs.map enc) ∨ d.d = .tup (xs.map enc)) ∧ Q b (.ok xs)
def Sp.dynZ (d e : Dy) : Sp (List (Dy × Dy)) := fun b Q => ∃ xs ys : List Dy, (d.d = .lst (xs.map enc) ∧ e.d = .lst (ys.map enc) ∨ d.d = .tup (xs.map enc) ∧ e.d = .tup (ys.map enc)) ∧ Q b (.ok (xs.zip ys))
def sgn (c : Nat) : Sx := if h : PyData.strOk ⟨#[c]⟩ = true then ⟨⟨#[c]⟩, h⟩ else sx ""
/-- a text's signs -/
def signs (x : Sx) : List Sx := x.v.cps.toList.map sgn
theorem sgn_v {c : Nat} {x : Sx} (h : c ∈ x.v.cps.toList) : (sgn c).v = ⟨#[c]⟩ := by
  have : PyData.strOk ⟨#[c]⟩ = true := by
    have h2 := x.ok
    unfold PyData.strOk at h2 ⊢
    rw [← Array.all_toList, List.all_eq_true] at h2 ⊢
    intro d hd
    have hd : d ∈ [c] := hd
    rw [List.mem_singleton] at hd
    rw [hd]
    exact h2 c h
  unfold sgn
  rw [dif_pos this]
def Sp.listS (x : Sx) : Sp (List Sx) := Sp.need (x.v.length ≤ sizeLine) (Sp.pure (signs x))
section
variable {T : Tb} {C : Calls} {W n : Nat} {ks : List (Nat × EV)} {de : Env} {dw : Bool} {bs be : List (Nat × D)} {α β γ δ κ ω σ ρ : Type} {E : Sb → Prop} {K : Out → Sb → ω → Prop}
theorem Jv.dyI [Enc α] {m : M D} {x : α} (h : Jv dw bs m (Sp.pure x)) : Jv dw bs m (Sp.pure (dy x)) := h.cast (x := x) (y := dy x) rfl
theorem Jv.dyM [Enc α] {m : M D} {t : Sp α} (h : Jv dw bs m t) : Jv dw bs m (Sp.bind t fun x => Sp.pure (dy x)) := h.castM _ fun _ => rfl
theorem Jv.cstM [Enc α] {m : M D} {t : Sp Dy} (h : Jv dw bs m t) : Jv dw bs m (Sp.bind t fun x => (Sp.cast x : Sp α)) := by
  intro S hS Q hQ
  have := h S hS _ hQ
  revert this
  cases m S.2 with
  | ok d S' =>
    rintro ⟨b, a, ⟨h1, h2⟩, a', h3, h4⟩
    exact ⟨b, a', ⟨h1, h2.trans h3.symm⟩, h4⟩
  | exc c fs S' => exact id
  | bad => exact id
theorem Jv.cst [Enc α] {m : M D} {x : Dy} (h : Jv dw bs m (Sp.pure x)) : Jv dw bs m (Sp.cast x : Sp α) := Jv.cstM h
theorem Jv.dynE [Enc α] {o : Option D} : Jv dw bs (Y.lift o) (Sp.dynE o : Sp α) := by
  intro S hS Q hQ
  obtain ⟨r, rfl, h⟩ := hQ
  exact ⟨S.1, r, ⟨hS, rfl⟩, h⟩
theorem o_dy [Enc α] [Enc β] [Enc γ] {o : O2} (x : α) (y : β) : Jv dw bs (o2R T C o (enc x) (enc y)) (Sp.need ((enc x : D).isIns = false) (Sp.dynE (p2 o (enc x) (enc y)) : Sp γ)) :=
  J.need fun h => J.at (fun S => o2R_dat (Enc.nb x) h (Enc.nb y) S) Jv.dynE
theorem i_dy [Enc α] [Enc β] [Enc γ] (x : α) (y : β) : Jv dw bs (idxR T C (enc x) (enc y)) (Sp.need ((enc x : D).isIns = false) (Sp.dynE (pIdx (enc x) (enc y)) : Sp γ)) :=
  J.need fun h => J.at (fun S => idxR_dat (Enc.nb x) h S) Jv.dynE
theorem b_dy [Enc α] [Enc γ] {b : BI} (x : α) : Jv dw bs (biM b [enc x]) (Sp.dynE (pBi b [enc x]) : Sp γ) :=
  J.at (m' := lift (pBi b [enc x])) (fun S => by show lift (pBi b ([enc x].map (view S))) S = _; rw [List.map_cons, List.map_nil, view_nb S (Enc.nb x)]) Jv.dynE
theorem s_dy [Enc α] [Enc γ] (x : α) (l h : Option Int) : Jv dw bs (fun S => lift (pSli (view S (enc x)) l h) S) (Sp.dynE (pSli (enc x) l h) : Sp γ) :=
  J.at (m' := lift (pSli (enc x) l h)) (fun S => by rw [view_nb S (Enc.nb x)]) Jv.dynE
theorem T_ttD [Enc α] {e : IR} {t : Sp α} (h : Jv dw bs (ev T C de e) t) : Jb dw bs (evt T C de (.tt e)) (Sp.bind t fun x => Sp.lift (enc x : D).truth) := by
  rw [evt]
  refine bM h fun x => J.at (m' := lift (enc x : D).truth) (fun S => by rw [view_nb S (Enc.nb x)]) ?_
  exact J.lift fun a e => ⟨a, e, fun _ h => ⟨h, rfl⟩⟩
theorem J_isiD [Enc α] [Enc β] {a t : IR} {x : α} {y : β} (ha : Jv dw bs (ev T C de a) (Sp.pure x)) (ht : Jv dw bs (ev T C de t) (Sp.pure y)) : Jv dw bs (ev T C de (.isi a t)) (Sp.lift (isiD T (enc x) (enc y))) := by
  rw [ev]
  refine bV ha (bV ht (J.at (m' := lift ((isiD T (enc x) (enc y)).map .bl)) (fun S => by rw [view_nb S (Enc.nb x)]) (Jv.liftO rfl)))
theorem I_dy [Enc α] {e : IR} {t : Sp α} (h : Jv dw bs (ev T C de e) t) : Jl dw bs (evi T C de (.iv e)) (Sp.bind t fun x => Sp.dynL (dy x)) := by
  rw [evi]
  refine bM h fun x => ?_
  intro S hS Q hQ
  obtain ⟨xs, h1, h2⟩ := hQ
  have h1 : dItems (enc x) = some (xs.map enc) := h1
  generalize (enc x : D) = d at h1
  cases d <;> first | (cases h1; done) | (cases h1; exact ⟨S.1, xs, ⟨hS, rfl⟩, h2⟩)
theorem I_enumD [Enc α] {e : IR} {t : Sp α} (h : Jv dw bs (ev T C de e) t) : Jl dw bs (evi T C de (.enum e)) (Sp.bind t fun x => Sp.bind (Sp.dynS (dy x)) fun xs => Sp.pure (enumL xs)) := by
  rw [evi]
  refine bM h fun x => ?_
  intro S hS Q hQ
  obtain ⟨xs, h1, h2⟩ := hQ
  have h1 : (enc x : D) = .lst (xs.map enc) ∨ (enc x : D) = .tup (xs.map enc) := h1
  rcases h1 with h1 | h1 <;>
    (rw [h1]
     exact ⟨S.1, enumL xs, ⟨hS, enum_enc xs⟩, h2⟩)
theorem I_zipD [Enc α] [Enc β] {a b : IR} {t : Sp α} {u : Sp β} (h : Jv dw bs (ev T C de a) t) (g : Jv dw bs (ev T C de b) u) : Jl dw bs (evi T C de (.zip a b)) (Sp.bind t fun x => Sp.bind u fun y => Sp.dynZ (dy x) (dy y)) := by
  rw [evi]
  refine bM h fun x => bM g fun y => ?_
  intro S hS Q hQ
  obtain ⟨xs, ys, h1, h2⟩ := hQ
  have h1 : (enc x : D) = .lst (xs.map enc) ∧ (enc y : D) = .lst (ys.map enc) ∨ (enc x : D) = .tup (xs.map enc) ∧ (enc y : D) = .tup (ys.map enc) := h1
  rcases h1 with ⟨h1, h3⟩ | ⟨h1, h3⟩ <;>
    (rw [h1, h3]
     exact ⟨S.1, xs.zip ys, ⟨hS, zip_encZ xs ys⟩, h2⟩)
/-! texts -/
theorem I_str {e : IR} {t : Sp Sx} (h : Jv dw bs (ev T C de e) t) : Jl dw bs (evi T C de (.iv e)) (Sp.bind t fun x => Sp.need (x.v.length ≤ sizeLine) (Sp.pure (signs x))) := by
  rw [evi]
  refine bM h fun x => J.need fun hx => ?_
  show Jl dw bs (if sizeOk x.v.length = true then ret (x.v.cps.toList.map fun c => D.str ⟨#[c]⟩) else fail) _
  rw [if_pos (show sizeOk x.v.length = true from decide_eq_true hx)]
  have : (x.v.cps.toList.map fun c => D.str ⟨#[c]⟩) = (signs x).map enc := by
    unfold signs
    rw [List.map_map]
    refine List.map_congr_left fun c hc => ?_
    show _ = D.str (sgn c).v
    rw [sgn_v hc]
  rw [this]
  exact Jl.ret
theorem o_inS (x y : Sx) : Jv dw bs (o2R T C .isin (enc x) (enc y)) (Sp.lift (signIn x.v y.v)) := J_p2O rfl
theorem o_ninS (x y : Sx) : Jv dw bs (o2R T C .nin (enc x) (enc y)) (Sp.bind (Sp.lift (signIn x.v y.v)) fun v => Sp.pure (!v)) := by
  have : p2 .nin (enc x) (enc y) = (signIn x.v y.v).map fun r => .bl (!r) := rfl
  refine J.at (m' := lift ((signIn x.v y.v).map fun r => D.bl (!r))) (fun S => (o2R_dat (Enc.nb x) (Dat.ni x) (Enc.nb y) S).trans (by rw [this])) ?_
  cases signIn x.v y.v with
  | none => exact J.fail
  | some b => exact Jv.lift (a := !b) rfl
/-- a < b < c of parts that are computed -/
theorem J_chM [Enc α] [Enc β] [Enc γ] {o p : O2} {a b c : IR} {tx : Sp α} {ty : Sp β} {tz : Sp γ} {u : α → β → Bool} {v : β → γ → Bool} (h1 : Jv dw bs (ev T C de a) tx) (h2 : Jv dw bs (ev T C de b) ty) (h3 : Jv dw bs (ev T C de c) tz)
    (e1 : ∀ x y, p2 o (enc x) (enc y) = some (.bl (u x y))) (e2 : ∀ y z, p2 p (enc y) (enc z) = some (.bl (v y z))) : Jv dw bs (ev T C de (.ch o p a b c)) (Sp.bind tx fun x => Sp.bind ty fun y => if u x y = true then Sp.bind tz fun z => Sp.pure (v y z) else Sp.pure false) := by
  rw [ev]
  refine bM h1 fun x => bM h2 fun y => ?_
  refine bV (x := u x y) (J.at (m' := lift (some (enc (u x y)))) (fun S => ?_) (Jv.lift rfl)) ?_
  · simp only [view_nb S (Enc.nb x), view_nb S (Enc.nb y)]
    rw [e1]
    rfl
  cases u x y
  · exact Jv.ret (a := false)
  · refine bM h3 fun z => J.at (m' := lift (some (enc (v y z)))) (fun S => ?_) (Jv.lift rfl)
    simp only [view_nb S (Enc.nb y), view_nb S (Enc.nb z)]
    rw [e2]
    rfl
/-- the first place of an item -/
def findZ [DecidableEq α] (x : α) (xs : List α) : Option Int := (xs.findIdx? fun y => decide (y = x)).map fun (j : Nat) => (j : Int)
theorem J_idxm [Dq α] [DecidableEq α] {a b : IR} {x : List α} {y : α} (h : Nat.ble (Dq.dep α) 60 = true) (ha : Jv dw bs (ev T C de a) (Sp.pure x)) (hb : Jv dw bs (ev T C de b) (Sp.pure y)) : Jv dw bs (ev T C de (.idxm a b)) (Sp.lift (findZ y x)) := by
  rw [ev]
  refine bV ha ?_
  refine (show Jv dw bs (bnd (ev T C de b) fun y => lift (pIndex (x.map enc) y)) _ from ?_)
  refine bV hb (Jv.liftO ?_)
  have h := Nat.le_of_ble_eq_true h
  have s1 : (enc y : D).shaped = true := sane_shaped (Dq.sn y) (by omega)
  have s2 : (D.lst (x.map enc)).shaped = true := sane_shaped (d := .lst (x.map enc)) (n := Dq.dep α + 1) (Dq.sn x) (by omega)
  unfold pIndex findZ
  rw [if_pos (by rw [s1, s2]; rfl), List.findIdx?_map, Option.map_map]
  have : (fun z : D => PyData.eqv z.py (enc y : D).py) ∘ (enc : α → D) = fun z => decide (z = y) := by
    funext z
    show PyData.eqv (enc z : D).py (enc y : D).py = _
    have := sane_eqv (Dq.sn z) (Dq.sn y)
    by_cases e : z = y
    · subst e
      rw [decide_eq_true rfl]
      exact this.mpr rfl
    · rw [decide_eq_false e]
      exact Bool.eq_false_iff.mpr fun c => e (Dq.inj _ _ (this.mp c))
  rw [this]
  rfl
theorem nbs {d : D} {ds : List D} (h : d.noBox = true) (t : D.noBoxes ds = true) : D.noBoxes (d :: ds) = true := by
  rw [D.noBoxes, h, t]
  rfl
theorem o_isB (x y : Bool) : Jv dw bs (o2R T C .isN (enc x) (enc y)) (Sp.pure (decide (x = y))) := J_p2 rfl
theorem o_isnB (x y : Bool) : Jv dw bs (o2R T C .notN (enc x) (enc y)) (Sp.pure (!decide (x = y))) := J_p2 rfl
theorem b_lenP2 [Enc α] [Enc β] (x : α × β) : Jv dw bs (biM .len [enc x]) (Sp.pure (2 : Int)) := bi1 rfl
theorem b_lenP3 [Enc α] [Enc β] [Enc γ] (x : P3 α β γ) : Jv dw bs (biM .len [enc x]) (Sp.pure (3 : Int)) := bi1 rfl
theorem b_lenP4 [Enc α] [Enc β] [Enc γ] [Enc δ] (x : P4 α β γ δ) : Jv dw bs (biM .len [enc x]) (Sp.pure (4 : Int)) := bi1 rfl
theorem b_listS (x : Sx) : Jv dw bs (biM .list [enc x]) (Sp.need (x.v.length ≤ sizeLine) (Sp.pure (signs x))) := bi1N fun h => by
  show (if sizeOk x.v.length = true then some (D.lst (x.v.cps.toList.map fun c => .str ⟨#[c]⟩)) else none) = some (D.lst ((signs x).map enc))
  rw [if_pos (show sizeOk x.v.length = true from decide_eq_true h)]
  have : (x.v.cps.toList.map fun c => D.str ⟨#[c]⟩) = (signs x).map enc := by
    unfold signs
    rw [List.map_map]
    refine List.map_congr_left fun c hc => ?_
    show _ = D.str (sgn c).v
    rw [sgn_v hc]
  rw [this]
end
end Y
namespace G
open PySem PySem.Spec PyProof.Rows L2 Y
def top (i : Nat) : Stmt := PySem.Challenge.pw_onlydeeper_k61_several_keys_in_one_hand.main.body.getD i (.Pass ⟨0, 0, 0, 0⟩)
def mth (i j : Nat) : Stmt := (clsB (top i)).getD j (.Pass ⟨0, 0, 0, 0⟩)
def names : List Str := (["is_filing", "strokes", "filed_to_open", "best_opening", "best_openings", "_law_begun", "_law_mixed", "_law_take", "_law_pick", "_law_shuffled", "_law_every", "_law_cuts", "_law_gaps", "_law_below", "_law_shape", "_law_least", "law"] : List Str)
def pars : List (List Str) := ([["key", "other"], ["key", "other"], ["key", "lock"], ["keys", "lock"], ["keys", "locks"], ["_law_script"], ["_law_draw"], ["_law_draw", "_law_size"], ["_law_draw", "_law_items"], ["_law_draw", "_law_items"], ["_law_size", "_law_far"], ["_law_draw", "_law_size", "_law_far"]] : List (List Str)) ++ ([["_law_draw", "_law_size", "_law_far"], ["_law_one", "_law_other"], ["_law_draw", "_law_most"], ["_law_cuts_here", "_law_gaps_here", "_law_every_here"], ["_law_script"]] : List (List Str))
def frees : List Str := (["all", "zip", "len", "tuple", "enumerate", "sorted", "abs", "list", "range", "dict"] : List Str)
def clsn : List Str := ([] : List Str)
def gcon (K : PySem.W.Frag) : List (Str × V) := []
def ccon : List (Nat × Str × V) := []
abbrev N0 : List Str := (["key", "other", "before", "deep"] : List Str)
def ir0 : IR := (.cons (.rt (.bi .all (.cons (.lc [2, 3] (.gt (.cons (.gn 2) (.cons (.gn 3) .nil))) (.zip (.var 0) (.var 1)) (.kb true) (.o2 .ge (.var 3) (.var 2))) .nil)))
  .nil)
def fe0 : Fe := ⟨2, 4, ir0, none, false⟩
abbrev N1 : List Str := (["key", "other", "before", "deep"] : List Str)
def ir1 : IR := (.cons (.cond (.tnot (.tt (.call 0 (.cons (.var 0) (.cons (.var 1) .nil)))))
 (.cons .never
  .nil)
 .nil)
  (.cons (.rt (.bi .len (.cons (.lc [2, 3] (.gt (.cons (.gn 2) (.cons (.gn 3) .nil))) (.zip (.var 0) (.var 1)) (.tb (.o2 .gt (.var 3) (.var 2))) (.var 3)) .nil)))
  .nil))
def fe1 : Fe := ⟨2, 4, ir1, none, false⟩
abbrev N2 : List Str := (["key", "lock", "found", "cut", "breaks", "usable", "depth"] : List Str)
def ir2 : IR := (.cons (.seto 2 (.lst .nil))
  (.cons (.forl (.gt (.cons (.gn 3) (.cons (.gn 4) .nil))) (.zip (.var 0) (.var 1))
 (.cons (.set (.gn 5) (.lc [6] (.gn 6) (.iv (.var 4)) (.tb (.o2 .ge (.var 6) (.var 3))) (.var 6)))
  (.cons (.cond (.tb (.o2 .eq (.var 5) (.lst .nil)))
 (.cons (.rt .kn)
  .nil)
 .nil)
  (.cons (.app 2 (.idx (.var 5) (.ki 0)))
  .nil))))
  (.cons (.rt (.bi .tuple (.cons (.own 2) .nil)))
  .nil)))
def fe2 : Fe := ⟨2, 7, ir2, none, false⟩
abbrev N3 : List Str := (["keys", "lock", "best", "least", "index", "key", "filed"] : List Str)
def ir3 : IR := (.cons (.set (.gt (.cons (.gn 2) (.cons (.gn 3) .nil))) (.tup (.cons .kn (.cons (.ki 0) .nil))))
  (.cons (.forl (.gt (.cons (.gn 4) (.cons (.gn 5) .nil))) (.enum (.var 0))
 (.cons (.set (.gn 6) (.call 2 (.cons (.var 5) (.cons (.var 1) .nil))))
  (.cons (.cond (.tand (.tb (.o2 .notN (.var 6) .kn)) (.tor (.tb (.o2 .isN (.var 2) .kn)) (.tb (.o2 .lt (.call 1 (.cons (.var 5) (.cons (.var 6) .nil))) (.var 3)))))
 (.cons (.par [(2, false), (3, false)] (.cons (.tup (.cons (.var 4) (.cons (.var 6) .nil))) (.cons (.call 1 (.cons (.var 5) (.cons (.var 6) .nil))) .nil)))
  .nil)
 .nil)
  .nil)))
  (.cons (.rt (.var 2))
  .nil)))
def fe3 : Fe := ⟨2, 7, ir3, none, false⟩
abbrev N4 : List Str := (["keys", "locks", "found", "name", "best"] : List Str)
def ir4 : IR := (.cons (.set (.gn 2) (.dc [3] (.gn 3) (.iv (.bi .sorted (.cons (.var 1) .nil))) (.kb true) (.var 3) (.call 3 (.cons (.var 0) (.cons (.idx (.var 1) (.var 3)) .nil)))))
  (.cons (.rt (.dc [3, 4] (.gt (.cons (.gn 3) (.cons (.gn 4) .nil))) (.items (.var 2)) (.tb (.o2 .notN (.var 4) .kn)) (.var 3) (.var 4)))
  .nil))
def fe4 : Fe := ⟨2, 5, ir4, none, false⟩
abbrev N5 : List Str := (["_law_script", "_law_large", "_law_cell"] : List Str)
def ir5 : IR := (.cons (.set (.gn 1) (.boxed (.lc [2] (.gn 2) (.iv (.var 0)) (.tb (.o2 .ge (.bi .abs (.cons (.var 2) .nil)) (.o2 .pow (.ki 10) (.ki 18)))) (.o2 .sub (.bi .abs (.cons (.var 2) .nil)) (.o2 .pow (.ki 10) (.ki 18))))))
  (.cons (.rt (.boxed (.dct (.cons (.ks "large") (.cons (.var 1) (.cons (.ks "cells") (.cons (.lc [2] (.gn 2) (.iv (.var 0)) (.kb true) (.o2 .mod (.bi .abs (.cons (.var 2) .nil)) (.ki 2147483629))) (.cons (.ks "rest") (.cons (.ki 0) (.cons (.ks "turn") (.cons (.ki 0) .nil)))))))))))
  .nil))
def fe5 : Fe := ⟨1, 3, ir5, none, false⟩
abbrev N6 : List Str := (["_law_draw", "_law_turn", "_law_found", "_law_prime", "_law_blend", "_law_cell"] : List Str)
def ir6 : IR := (.cons (.set (.gn 1) (.o2 .add (.idx (.var 0) (.ks "turn")) (.ki 1)))
  (.cons (.bset (.var 0) (.ks "turn") (.var 1))
  (.cons (.set (.gn 2) (.ki 0))
  (.cons (.forl (.gn 3) (.iv (.lst (.cons (.ki 2147483629) (.cons (.ki 2147483587) (.cons (.ki 2147483579) (.cons (.ki 2147483563) .nil))))))
 (.cons (.set (.gn 4) (.o2 .add (.o2 .mul (.ki 104729) (.var 1)) (.o2 .fdiv (.var 3) (.ki 7))))
  (.cons (.forl (.gn 5) (.iv (.idx (.var 0) (.ks "cells")))
 (.cons (.set (.gn 4) (.o2 .mod (.o2 .add (.o2 .add (.o2 .mul (.var 4) (.ki 48271)) (.var 5)) (.var 1)) (.var 3)))
  .nil))
  (.cons (.set (.gn 2) (.o2 .add (.o2 .mul (.var 2) (.ki 2147483647)) (.o2 .mod (.o2 .pow (.var 4) (.ki 5)) (.var 3))))
  .nil))))
  (.cons (.rt (.var 2))
  .nil)))))
def fe6 : Fe := ⟨1, 6, ir6, none, false⟩
abbrev N7 : List Str := (["_law_draw", "_law_size", "_law_found"] : List Str)
def ir7 : IR := (.cons (.cond (.tand (.tb (.o2 .eq (.idx (.var 0) (.ks "rest")) (.ki 0))) (.tb (.o2 .ne (.idx (.var 0) (.ks "large")) (.lst .nil))))
 (.cons (.bset (.var 0) (.ks "rest") (.bpop (.idx (.var 0) (.ks "large")) (.cons (.ki 0) .nil)))
  .nil)
 (.cons (.cond (.tb (.o2 .eq (.idx (.var 0) (.ks "rest")) (.ki 0)))
 (.cons (.bset (.var 0) (.ks "rest") (.call 6 (.cons (.var 0) .nil)))
  .nil)
 .nil)
  .nil))
  (.cons (.set (.gn 2) (.o2 .mod (.idx (.var 0) (.ks "rest")) (.var 1)))
  (.cons (.bset (.var 0) (.ks "rest") (.o2 .fdiv (.idx (.var 0) (.ks "rest")) (.var 1)))
  (.cons (.rt (.var 2))
  .nil))))
def fe7 : Fe := ⟨2, 3, ir7, none, false⟩
abbrev N8 : List Str := (["_law_draw", "_law_items"] : List Str)
def ir8 : IR := (.cons (.rt (.idx (.var 1) (.call 7 (.cons (.var 0) (.cons (.bi .len (.cons (.var 1) .nil)) .nil)))))
  .nil)
def fe8 : Fe := ⟨2, 2, ir8, none, false⟩
abbrev N9 : List Str := (["_law_draw", "_law_items", "_law_left", "_law_found"] : List Str)
def ir9 : IR := (.cons (.par [(2, false), (3, true)] (.cons (.boxed (.bi .list (.cons (.var 1) .nil))) (.cons (.lst .nil) .nil)))
  (.cons (.whl (.tb (.o2 .ne (.var 2) (.lst .nil)))
 (.cons (.app 3 (.bpop (.var 2) (.cons (.call 7 (.cons (.var 0) (.cons (.bi .len (.cons (.var 2) .nil)) .nil))) .nil)))
  .nil))
  (.cons (.free 3) (.cons (.rt (.var 3))
  .nil))))
def fe9 : Fe := ⟨2, 4, ir9, none, false⟩
abbrev N10 : List Str := (["_law_size", "_law_far", "_law_found", "_law_turn", "_law_later", "_law_some", "_law_cut"] : List Str)
def ir10 : IR := (.cons (.set (.gn 2) (.lst (.cons (.tup .nil) .nil)))
  (.cons (.forl (.gn 3) (.ir1 (.var 0))
 (.cons (.set (.gn 4) (.lst .nil))
  (.cons (.forl (.gn 5) (.iv (.var 2))
 (.cons (.set (.gn 4) (.o2 .add (.var 4) (.lc [6] (.gn 6) (.ir1 (.var 1)) (.kb true) (.o2 .add (.var 5) (.tup (.cons (.var 6) .nil))))))
  .nil))
  (.cons (.set (.gn 2) (.var 4))
  .nil))))
  (.cons (.rt (.var 2))
  .nil)))
def fe10 : Fe := ⟨2, 7, ir10, none, false⟩
abbrev N11 : List Str := (["_law_draw", "_law_size", "_law_far", "_law_turn"] : List Str)
def ir11 : IR := (.cons (.rt (.bi .tuple (.cons (.lc [3] (.gn 3) (.ir1 (.var 1)) (.kb true) (.call 7 (.cons (.var 0) (.cons (.var 2) .nil)))) .nil)))
  .nil)
def fe11 : Fe := ⟨3, 4, ir11, none, false⟩
abbrev N12 : List Str := (["_law_draw", "_law_size", "_law_far", "_law_found", "_law_turn", "_law_some", "_law_depth"] : List Str)
def ir12 : IR := (.cons (.seto 3 (.lst .nil))
  (.cons (.forl (.gn 4) (.ir1 (.var 1))
 (.cons (.set (.gn 5) (.lc [6] (.gn 6) (.ir1 (.var 2)) (.tb (.o2 .eq (.call 7 (.cons (.var 0) (.cons (.ki 3) .nil))) (.ki 0))) (.var 6)))
  (.cons (.app 3 (.ife (.tb (.o2 .ne (.var 5) (.lst .nil))) (.bi .tuple (.cons (.var 5) .nil)) (.tup (.cons (.call 7 (.cons (.var 0) (.cons (.var 2) .nil))) .nil))))
  .nil)))
  (.cons (.rt (.bi .tuple (.cons (.own 3) .nil)))
  .nil)))
def fe12 : Fe := ⟨3, 7, ir12, none, false⟩
abbrev N13 : List Str := (["_law_one", "_law_other", "_law_a", "_law_b"] : List Str)
def ir13 : IR := (.cons (.rt (.o2 .eq (.lc [2, 3] (.gt (.cons (.gn 2) (.cons (.gn 3) .nil))) (.zip (.var 0) (.var 1)) (.tb (.o2 .lt (.var 3) (.var 2))) (.ki 1)) (.lst .nil)))
  .nil)
def fe13 : Fe := ⟨2, 4, ir13, none, false⟩
abbrev N14 : List Str := (["_law_draw", "_law_most", "_law_some", "_law_found", "_law_size", "_law_far", "_law_many", "_law_turn"] : List Str)
def ir14 : IR := (.cons (.set (.gn 2) (.lst (.cons (.tup (.cons (.ki 1) (.cons (.ki 2) .nil))) (.cons (.tup (.cons (.ki 1) (.cons (.ki 10) .nil))) (.cons (.tup (.cons (.ki 2) (.cons (.ki 3) .nil))) (.cons (.tup (.cons (.ki 3) (.cons (.ki 2) .nil))) (.cons (.tup (.cons (.ki 2) (.cons (.ki 5) .nil))) (.cons (.tup (.cons (.ki 3) (.cons (.ki 4) .nil))) (.cons (.tup (.cons (.ki 4) (.cons (.ki 3) .nil))) (.cons (.tup (.cons (.ki 6) (.cons (.ki 2) .nil))) (.cons (.tup (.cons (.ki 2) (.cons (.ki 10) .nil))) (.cons (.tup (.cons (.ki 5) (.cons (.ki 2) .nil))) (.cons (.tup (.cons (.ki 4) (.cons (.ki 5) .nil))) (.cons (.tup (.cons (.ki 3) (.cons (.ki 7) .nil))) .nil))))))))))))))
  (.cons (.seto 3 (.lst .nil))
  (.cons (.forl (.gt (.cons (.gn 4) (.cons (.gn 5) .nil))) (.iv (.var 2))
 (.cons (.set (.gn 6) (.ki 1))
  (.cons (.forl (.gn 7) (.ir1 (.var 4))
 (.cons (.set (.gn 6) (.o2 .mul (.var 6) (.var 5)))
  .nil))
  (.cons (.cond (.tb (.o2 .le (.var 6) (.var 1)))
 (.cons (.app 3 (.tup (.cons (.var 4) (.cons (.var 5) .nil))))
  .nil)
 .nil)
  .nil))))
  (.cons (.free 3) (.cons (.rt (.call 8 (.cons (.var 0) (.cons (.var 3) .nil))))
  .nil)))))
def fe14 : Fe := ⟨2, 8, ir14, none, false⟩
abbrev N15 : List Str := (["_law_cuts_here", "_law_gaps_here", "_law_every_here", "_law_good", "_law_numbers", "_law_other", "_law_cut", "_law_some", "_law_a", "_law_b"] : List Str)
def ir15 : IR := (.cons (.set (.gn 3) (.lc [5] (.gn 5) (.iv (.var 2)) (.tt (.call 13 (.cons (.var 0) (.cons (.var 5) .nil)))) (.var 5)))
  (.cons (.set (.gn 3) (.lc [5] (.gn 5) (.iv (.var 3)) (.tb (.o2 .eq (.lc [6, 7] (.gt (.cons (.gn 6) (.cons (.gn 7) .nil))) (.zip (.var 5) (.var 1)) (.tb (.o2 .nin (.var 6) (.var 7))) (.ki 1)) (.lst .nil))) (.var 5)))
  (.cons (.cond (.tb (.o2 .eq (.var 3) (.lst .nil)))
 (.cons (.rt .kn)
  .nil)
 .nil)
  (.cons (.set (.gn 4) (.lc [5] (.gn 5) (.iv (.var 3)) (.kb true) (.tup (.cons (.bi .len (.cons (.lc [8, 9] (.gt (.cons (.gn 8) (.cons (.gn 9) .nil))) (.zip (.var 0) (.var 5)) (.tb (.o2 .ne (.var 8) (.var 9))) (.ki 1)) .nil)) (.cons (.var 5) .nil)))))
  (.cons (.rt (.idx (.bi .sorted (.cons (.var 4) .nil)) (.ki 0)))
  .nil)))))
def fe15 : Fe := ⟨3, 10, ir15, none, false⟩
abbrev N16 : List Str := (["_law_script", "_law_draw", "_law_lap", "_law_names", "_law_gaps_here", "_law_due", "_law_name", "_law_told", "_law_size", "_law_far", "_law_every_here", "_law_some", "_law_best", "_law_turn", "_law_at", "_law_cuts_here"] : List Str)
def ir16 : IR := (.cons (.set (.gn 1) (.call 5 (.cons (.var 0) .nil)))
  (.cons (.forl (.gn 2) (.ir1 (.ki 6))
 (.cons (.set (.gt (.cons (.gn 8) (.cons (.gn 9) .nil))) (.call 14 (.cons (.var 1) (.cons (.ki 200) .nil))))
  (.cons (.set (.gt (.cons (.gn 10) (.cons (.gn 11) .nil))) (.tup (.cons (.call 10 (.cons (.var 8) (.cons (.var 9) .nil))) (.cons (.lc [13] (.gn 13) (.ir1 (.call 7 (.cons (.var 1) (.cons (.ki 6) .nil)))) (.kb true) (.call 11 (.cons (.var 1) (.cons (.var 8) (.cons (.var 9) .nil))))) .nil))))
  (.cons (.set (.gn 3) (.sli (.call 9 (.cons (.var 1) (.cons (.lst (.cons (.ks "safe") (.cons (.ks "hall") (.cons (.ks "a") (.cons (.ks "yard") (.cons (.ks "zz") .nil)))))) .nil))) .nil (.cons (.call 7 (.cons (.var 1) (.cons (.ki 6) .nil))) .nil)))
  (.cons (.set (.gn 4) (.bi .dict (.cons (.lc [6] (.gn 6) (.iv (.var 3)) (.kb true) (.tup (.cons (.var 6) (.cons (.call 12 (.cons (.var 1) (.cons (.var 8) (.cons (.var 9) .nil)))) .nil)))) .nil)))
  (.cons (.seto 5 (.dct .nil))
  (.cons (.forl (.gn 6) (.iv (.bi .sorted (.cons (.var 3) .nil)))
 (.cons (.set (.gn 12) (.lc [14, 15] (.gt (.cons (.gn 14) (.cons (.gn 15) .nil))) (.enum (.var 11)) (.kb true) (.tup (.cons (.call 15 (.cons (.var 15) (.cons (.idx (.var 4) (.var 6)) (.cons (.var 10) .nil)))) (.cons (.var 14) .nil)))))
  (.cons (.set (.gn 12) (.lc [7, 14] (.gt (.cons (.gn 7) (.cons (.gn 14) .nil))) (.iv (.var 12)) (.tb (.o2 .notN (.var 7) .kn)) (.tup (.cons (.idx (.var 7) (.ki 0)) (.cons (.var 14) (.cons (.idx (.var 7) (.ki 1)) .nil))))))
  (.cons (.cond (.tb (.o2 .ne (.var 12) (.lst .nil)))
 (.cons (.oset 5 (.var 6) (.sli (.idx (.bi .sorted (.cons (.var 12) .nil)) (.ki 0)) (.cons (.ki 1) .nil) .nil))
  .nil)
 .nil)
  .nil))))
  (.cons (.set (.gn 7) (.callk 4 .nil (.cons (.var 4) (.cons (.bi .tuple (.cons (.var 11) .nil)) .nil)) [1, 0] []))
  (.cons (.cond (.tor (.tb (.o2 .ne (.var 7) (.own 5))) (.tb (.o2 .ne (.bi .list (.cons (.var 7) .nil)) (.bi .sorted (.cons (.own 5) .nil)))))
 (.cons (.rt (.kb false))
  .nil)
 .nil)
  .nil)))))))))
  (.cons (.rt (.kb true))
  .nil)))
def fe16 : Fe := ⟨1, 16, ir16, none, false⟩
def con : List D := []
def T : Tb := ⟨([fe0, fe1, fe2, fe3, fe4, fe5, fe6, fe7, fe8, fe9, fe10, fe11] : List (Fe)) ++ ([fe12, fe13, fe14, fe15, fe16] : List (Fe)), [], con⟩
section
variable {Z : Zc} {P : Program} {w : World} {mg : Str → Option Value} {base : Heap} {fad : Nat → Addr} {fdd : Nat → FuncData} {cad : Nat → Addr} {N k : Nat}
abbrev Aw (Z : Zc) (P : Program) (w : World) (mg : Str → Option Value) (base : Heap) (fad : Nat → Addr) (fdd : Nat → FuncData) (cad : Nat → Addr) : Wd := ⟨Z, P, w, mg, base, names, pars, frees, fad, fdd, cad, clsn, gcon Z.K, ccon⟩
abbrev HK0 (Z : Zc) (fdd : Nat → FuncData) (du : List Value) : Prop := DflR Z [] [] ∧ KBn Z.K (fdd 4) ["keys", "locks"] 0 (["locks", "keys"] : List Str) (fun us ws => permL [1, 0] us (ws ++ du)) (fun vs zs => permL [1, 0] vs (zs ++ []))
theorem b0 (ok : WdOk (Aw Z P w mg base fad fdd cad) T) (L : lvl (Aw Z P w mg base fad fdd cad) T N k)  (X : Cx) (E : XK) (c : Cxo (Aw Z P w mg base fad fdd cad) k N0 (defScope (top 4)) (fun _ => true) (WE E) X) : PSs X (defBody (top 4)) (tSs Z T (callF T N k) (WE E) N ir0) :=
 (ss_cons (c.ret (c.all ok (i := 0) (by kernel_rfl) (s_ocons (tE_tO (tN_tE (c.lc (own := [("before", 2), ("deep", 3)]) (c.zip ok (i := 1) (by kernel_rfl) (s_var (c.var (i := 0) (by kernel_rfl))) (s_var (c.var (i := 1) (by kernel_rfl)))) (by kernel_rfl) (by decide) (fun _ c1 => (c1.gtt (s_gcons (c1.gn (i := 2) (by kernel_rfl)) (s_gcons (c1.gn (i := 3) (by kernel_rfl)) s_gnil)))) (fun _ c1 => pts_nil) tt_none (fun _ c1 => (e_cmp c1.ge (tE_tO (s_var (c1.var (i := 3) (by kernel_rfl)))) (tE_tO (s_var (c1.var (i := 2) (by kernel_rfl))))))))) s_onil (by rfl))))
  ss_nil)
theorem b1 (ok : WdOk (Aw Z P w mg base fad fdd cad) T) (L : lvl (Aw Z P w mg base fad fdd cad) T N k)  (X : Cx) (E : XK) (c : Cxo (Aw Z P w mg base fad fdd cad) k N1 (defScope (top 5)) (fun _ => true) (WE E) X) : PSs X (defBody (top 5)) (tSs Z T (callF T N k) (WE E) N ir1) :=
 (ss_cons (c.cond (s_tnot (t_tru c (tE_tO (c.call ok L (i := 0) (by kernel_rfl) rfl rfl (s_lcons (s_var (c.var (i := 0) (by kernel_rfl))) (s_lcons (s_var (c.var (i := 1) (by kernel_rfl))) s_lnil (by rfl)) (by rfl))))))
 (ss_cons s_never
  ss_nil)
 ss_nil)
  (ss_cons (c.ret (c.len ok (i := 2) (by kernel_rfl) (s_ocons (tE_tO (tN_tE (c.lc (own := [("before", 2), ("deep", 3)]) (c.zip ok (i := 1) (by kernel_rfl) (s_var (c.var (i := 0) (by kernel_rfl))) (s_var (c.var (i := 1) (by kernel_rfl)))) (by kernel_rfl) (by decide) (fun _ c1 => (c1.gtt (s_gcons (c1.gn (i := 2) (by kernel_rfl)) (s_gcons (c1.gn (i := 3) (by kernel_rfl)) s_gnil)))) (fun _ c1 => pts_one (e_cmpT c1.gt (tE_tO (s_var (c1.var (i := 3) (by kernel_rfl)))) (tE_tO (s_var (c1.var (i := 2) (by kernel_rfl)))))) (fun _ _ _ q => q) (fun _ c1 => (s_var (c1.var (i := 3) (by kernel_rfl))))))) s_onil (by rfl))))
  ss_nil))
theorem b2 (ok : WdOk (Aw Z P w mg base fad fdd cad) T) (L : lvl (Aw Z P w mg base fad fdd cad) T N k)  (X : Cx) (E : XK) (c : Cxo (Aw Z P w mg base fad fdd cad) k N2 (defScope (top 6)) (fun _ => true) (WE E) X) : PSs X (defBody (top 6)) (tSs Z T (callF T N k) (WE E) N ir2) :=
 (ss_cons (c.seto (i := 2) (by kernel_rfl) (n_lst s_lnil) (by kernel_rfl))
  (ss_cons (c.forl (c.zip ok (i := 1) (by kernel_rfl) (s_var (c.var (i := 0) (by kernel_rfl))) (s_var (c.var (i := 1) (by kernel_rfl)))) (c.gtt (s_gcons (c.gn (i := 3) (by kernel_rfl)) (s_gcons (c.gn (i := 4) (by kernel_rfl)) s_gnil)))
 (ss_cons (s_lcv (te := tC .non) (c.setLc (i := 5) (own := [("depth", 6)]) (c.iv (s_var (c.var (i := 4) (by kernel_rfl)))) (by kernel_rfl) (by decide) (fun _ c1 => (s_gn (c1.gn (i := 6) (by kernel_rfl)))) (fun _ c1 => pts_one (e_cmpT c1.ge (tE_tO (s_var (c1.var (i := 6) (by kernel_rfl)))) (tE_tO (s_var (c1.var (i := 3) (by kernel_rfl)))))) (fun _ _ _ q => q) (fun _ c1 => (s_var (c1.var (i := 6) (by kernel_rfl)))) (by kernel_rfl) rfl (by kernel_rfl)))
  (ss_cons (c.cond (e_cmpT (c.eq ok L) (tE_tO (s_var (c.var (i := 5) (by kernel_rfl)))) (tE_tO (tN_tE (n_lst s_lnil))))
 (ss_cons (c.ret (e_none (j := none)))
  ss_nil)
 ss_nil)
  (ss_cons (c.app (i := 2) (by kernel_rfl) (c.idx ok L (tE_tO (s_var (c.var (i := 5) (by kernel_rfl)))) e_int))
  ss_nil))))
  (ss_cons (c.ret (c.tuple ok (i := 3) (by kernel_rfl) (s_ocons (s_own (c.var (i := 2) (by kernel_rfl))) s_onil (by rfl))))
  ss_nil)))
theorem b3 (ok : WdOk (Aw Z P w mg base fad fdd cad) T) (L : lvl (Aw Z P w mg base fad fdd cad) T N k)  (X : Cx) (E : XK) (c : Cxo (Aw Z P w mg base fad fdd cad) k N3 (defScope (top 8)) (fun _ => true) (WE E) X) : PSs X (defBody (top 8)) (tSs Z T (callF T N k) (WE E) N ir3) :=
 (ss_cons (c.asg (s_tup (s_lcons (e_none (j := none)) (s_lcons e_int s_lnil (by rfl)) (by rfl))) (c.gtt (s_gcons (c.gn (i := 2) (by kernel_rfl)) (s_gcons (c.gn (i := 3) (by kernel_rfl)) s_gnil))) (by kernel_rfl) (by kernel_rfl))
  (ss_cons (c.forl (c.enum ok (i := 4) (by kernel_rfl) (s_var (c.var (i := 0) (by kernel_rfl)))) (c.gtt (s_gcons (c.gn (i := 4) (by kernel_rfl)) (s_gcons (c.gn (i := 5) (by kernel_rfl)) s_gnil)))
 (ss_cons (c.set (i := 6) (by kernel_rfl) (c.call ok L (i := 2) (by kernel_rfl) rfl rfl (s_lcons (s_var (c.var (i := 5) (by kernel_rfl))) (s_lcons (s_var (c.var (i := 1) (by kernel_rfl))) s_lnil (by rfl)) (by rfl))) (by kernel_rfl))
  (ss_cons (c.cond (PW.pt (s_tand (e_cmpT c.notN (tE_tO (s_var (c.var (i := 6) (by kernel_rfl)))) (tE_tO (e_none (j := none)))) (pw_and1 (PW.pt (s_tor (e_cmpT c.isN (tE_tO (s_var (c.var (i := 2) (by kernel_rfl)))) (tE_tO (e_none (j := none)))) (pw_or1 (e_cmpT c.lt (tE_tO (c.call ok L (i := 1) (by kernel_rfl) rfl rfl (s_lcons (s_var (c.var (i := 5) (by kernel_rfl))) (s_lcons (s_var (c.var (i := 6) (by kernel_rfl))) s_lnil (by rfl)) (by rfl)))) (tE_tO (s_var (c.var (i := 3) (by kernel_rfl)))))))))))
 (ss_cons (c.par2 (i := 2) (j := 3) (es := (.cons (.tup (.cons (.var 4) (.cons (.var 6) .nil))) (.cons (.call 1 (.cons (.var 5) (.cons (.var 6) .nil))) .nil))) (by kernel_rfl) (by kernel_rfl) (by decide) (pa_cons (tF_v (s_tup (s_lcons (s_var (c.var (i := 4) (by kernel_rfl))) (s_lcons (s_var (c.var (i := 6) (by kernel_rfl))) s_lnil (by rfl)) (by rfl)))) (pa_cons (tF_v (c.call ok L (i := 1) (by kernel_rfl) rfl rfl (s_lcons (s_var (c.var (i := 5) (by kernel_rfl))) (s_lcons (s_var (c.var (i := 6) (by kernel_rfl))) s_lnil (by rfl)) (by rfl)))) pa_nil (by rfl)) (by rfl)) rfl (by kernel_rfl) (by kernel_rfl))
  ss_nil)
 ss_nil)
  ss_nil)))
  (ss_cons (c.ret (s_var (c.var (i := 2) (by kernel_rfl))))
  ss_nil)))
theorem b4 (ok : WdOk (Aw Z P w mg base fad fdd cad) T) (L : lvl (Aw Z P w mg base fad fdd cad) T N k)  (X : Cx) (E : XK) (c : Cxo (Aw Z P w mg base fad fdd cad) k N4 (defScope (top 9)) (fun _ => true) (WE E) X) : PSs X (defBody (top 9)) (tSs Z T (callF T N k) (WE E) N ir4) :=
 (ss_cons (s_lcv (te := tC .non) (c.setDc (i := 2) (own := [("name", 3)]) (c.iv (tN_tE (c.sorted ok (i := 5) (by kernel_rfl) (s_ocons (tE_tO (s_var (c.var (i := 1) (by kernel_rfl)))) s_onil (by rfl))))) (by kernel_rfl) (by decide) (fun _ c1 => (s_gn (c1.gn (i := 3) (by kernel_rfl)))) (fun _ c1 => pts_nil) tt_none (fun _ c1 => (s_var (c1.var (i := 3) (by kernel_rfl)))) (fun _ c1 => (c1.call ok L (i := 3) (by kernel_rfl) rfl rfl (s_lcons (s_var (c1.var (i := 0) (by kernel_rfl))) (s_lcons (c1.idx ok L (tE_tO (s_var (c1.var (i := 1) (by kernel_rfl)))) (s_var (c1.var (i := 3) (by kernel_rfl)))) s_lnil (by rfl)) (by rfl)))) (by kernel_rfl) (by kernel_rfl)))
  (ss_cons (c.ret (tN_tE (c.dc (own := [("name", 3), ("best", 4)]) (s_items (s_var (c.var (i := 2) (by kernel_rfl))) rfl rfl) (by kernel_rfl) (by decide) (fun _ c1 => (c1.gtt (s_gcons (c1.gn (i := 3) (by kernel_rfl)) (s_gcons (c1.gn (i := 4) (by kernel_rfl)) s_gnil)))) (fun _ c1 => pts_one (e_cmpT c1.notN (tE_tO (s_var (c1.var (i := 4) (by kernel_rfl)))) (tE_tO (e_none (j := none))))) (fun _ _ _ q => q) (fun _ c1 => (s_var (c1.var (i := 3) (by kernel_rfl)))) (fun _ c1 => (s_var (c1.var (i := 4) (by kernel_rfl)))))))
  ss_nil))
theorem b5 (ok : WdOk (Aw Z P w mg base fad fdd cad) T) (L : lvl (Aw Z P w mg base fad fdd cad) T N k)  (X : Cx) (E : XK) (c : Cxo (Aw Z P w mg base fad fdd cad) k N5 (defScope (top 11)) (fun _ => true) (WE E) X) : PSs X (defBody (top 11)) (tSs Z T (callF T N k) (WE E) N ir5) :=
 (ss_cons (s_lcb (te := tC .non) (c.setLc (i := 1) (own := [("_law_cell", 2)]) (c.iv (s_var (c.var (i := 0) (by kernel_rfl)))) (by kernel_rfl) (by decide) (fun _ c1 => (s_gn (c1.gn (i := 2) (by kernel_rfl)))) (fun _ c1 => pts_one (e_cmpT c1.ge (tE_tO (c1.abs ok (i := 6) (by kernel_rfl) (s_ocons (tE_tO (s_var (c1.var (i := 2) (by kernel_rfl)))) s_onil (by rfl)))) (tE_tO (e_bin c1.pow (tE_tO e_int) (tE_tO e_int))))) (fun _ _ _ q => q) (fun _ c1 => (e_bin c1.sub (tE_tO (c1.abs ok (i := 6) (by kernel_rfl) (s_ocons (tE_tO (s_var (c1.var (i := 2) (by kernel_rfl)))) s_onil (by rfl)))) (tE_tO (e_bin c1.pow (tE_tO e_int) (tE_tO e_int))))) (by kernel_rfl) rfl (by kernel_rfl)))
  (ss_cons (c.ret (s_boxed (n_dct (a := (.cons (.ks "large") (.cons (.var 1) (.cons (.ks "cells") (.cons (.lc [2] (.gn 2) (.iv (.var 0)) (.kb true) (.o2 .mod (.bi .abs (.cons (.var 2) .nil)) (.ki 2147483629))) (.cons (.ks "rest") (.cons (.ki 0) (.cons (.ks "turn") (.cons (.ki 0) .nil))))))))) (pps_cons e_str (s_var (c.var (i := 1) (by kernel_rfl))) (pps_cons e_str (tN_tE (c.lc (own := [("_law_cell", 2)]) (c.iv (s_var (c.var (i := 0) (by kernel_rfl)))) (by kernel_rfl) (by decide) (fun _ c1 => (s_gn (c1.gn (i := 2) (by kernel_rfl)))) (fun _ c1 => pts_nil) tt_none (fun _ c1 => (e_bin c1.mod (tE_tO (c1.abs ok (i := 6) (by kernel_rfl) (s_ocons (tE_tO (s_var (c1.var (i := 2) (by kernel_rfl)))) s_onil (by rfl)))) (tE_tO e_int))))) (pps_cons e_str e_int (pps_cons e_str e_int pps_nil)))) rfl (by simp))))
  ss_nil))
theorem b6 (ok : WdOk (Aw Z P w mg base fad fdd cad) T) (L : lvl (Aw Z P w mg base fad fdd cad) T N k)  (X : Cx) (E : XK) (c : Cxo (Aw Z P w mg base fad fdd cad) k N6 (defScope (top 12)) (fun _ => true) (WE E) X) : PSs X (defBody (top 12)) (tSs Z T (callF T N k) (WE E) N ir6) :=
 (ss_cons (c.set (i := 1) (by kernel_rfl) (e_bin c.add (tE_tO (c.idx ok L (tE_tO (s_var (c.var (i := 0) (by kernel_rfl)))) e_str)) (tE_tO e_int)) (by kernel_rfl))
  (ss_cons (c.bset (s_var (c.var (i := 0) (by kernel_rfl))) e_str (s_var (c.var (i := 1) (by kernel_rfl))) (by kernel_rfl))
  (ss_cons (c.set (i := 2) (by kernel_rfl) e_int (by kernel_rfl))
  (ss_cons (c.forl (c.iv (tN_tE (n_lst (s_lcons e_int (s_lcons e_int (s_lcons e_int (s_lcons e_int s_lnil (by rfl)) (by rfl)) (by rfl)) (by rfl))))) (s_gn (c.gn (i := 3) (by kernel_rfl)))
 (ss_cons (c.set (i := 4) (by kernel_rfl) (e_bin c.add (tE_tO (e_bin c.mul (tE_tO e_int) (tE_tO (s_var (c.var (i := 1) (by kernel_rfl)))))) (tE_tO (e_bin c.fdiv (tE_tO (s_var (c.var (i := 3) (by kernel_rfl)))) (tE_tO e_int)))) (by kernel_rfl))
  (ss_cons (c.forl (c.iv (c.idx ok L (tE_tO (s_var (c.var (i := 0) (by kernel_rfl)))) e_str)) (s_gn (c.gn (i := 5) (by kernel_rfl)))
 (ss_cons (c.set (i := 4) (by kernel_rfl) (e_bin c.mod (tE_tO (e_bin c.add (tE_tO (e_bin c.add (tE_tO (e_bin c.mul (tE_tO (s_var (c.var (i := 4) (by kernel_rfl)))) (tE_tO e_int))) (tE_tO (s_var (c.var (i := 5) (by kernel_rfl)))))) (tE_tO (s_var (c.var (i := 1) (by kernel_rfl)))))) (tE_tO (s_var (c.var (i := 3) (by kernel_rfl))))) (by kernel_rfl))
  ss_nil))
  (ss_cons (c.set (i := 2) (by kernel_rfl) (e_bin c.add (tE_tO (e_bin c.mul (tE_tO (s_var (c.var (i := 2) (by kernel_rfl)))) (tE_tO e_int))) (tE_tO (e_bin c.mod (tE_tO (e_bin c.pow (tE_tO (s_var (c.var (i := 4) (by kernel_rfl)))) (tE_tO e_int))) (tE_tO (s_var (c.var (i := 3) (by kernel_rfl))))))) (by kernel_rfl))
  ss_nil))))
  (ss_cons (c.ret (s_var (c.var (i := 2) (by kernel_rfl))))
  ss_nil)))))
theorem b7 (ok : WdOk (Aw Z P w mg base fad fdd cad) T) (L : lvl (Aw Z P w mg base fad fdd cad) T N k)  (X : Cx) (E : XK) (c : Cxo (Aw Z P w mg base fad fdd cad) k N7 (defScope (top 13)) (fun _ => true) (WE E) X) : PSs X (defBody (top 13)) (tSs Z T (callF T N k) (WE E) N ir7) :=
 (ss_cons (c.cond (PW.pt (s_tand (e_cmpT (c.eq ok L) (tE_tO (c.idx ok L (tE_tO (s_var (c.var (i := 0) (by kernel_rfl)))) e_str)) (tE_tO e_int)) (pw_and1 (e_cmpT (c.ne ok L) (tE_tO (c.idx ok L (tE_tO (s_var (c.var (i := 0) (by kernel_rfl)))) e_str)) (tE_tO (tN_tE (n_lst s_lnil)))))))
 (ss_cons (c.bset (s_var (c.var (i := 0) (by kernel_rfl))) e_str (s_bpop1 c.cK (c.idx ok L (tE_tO (s_var (c.var (i := 0) (by kernel_rfl)))) e_str) e_int) (by kernel_rfl))
  ss_nil)
 (ss_cons (c.cond (e_cmpT (c.eq ok L) (tE_tO (c.idx ok L (tE_tO (s_var (c.var (i := 0) (by kernel_rfl)))) e_str)) (tE_tO e_int))
 (ss_cons (c.bset (s_var (c.var (i := 0) (by kernel_rfl))) e_str (c.call ok L (i := 6) (by kernel_rfl) rfl rfl (s_lcons (s_var (c.var (i := 0) (by kernel_rfl))) s_lnil (by rfl))) (by kernel_rfl))
  ss_nil)
 ss_nil)
  ss_nil))
  (ss_cons (c.set (i := 2) (by kernel_rfl) (e_bin c.mod (tE_tO (c.idx ok L (tE_tO (s_var (c.var (i := 0) (by kernel_rfl)))) e_str)) (tE_tO (s_var (c.var (i := 1) (by kernel_rfl))))) (by kernel_rfl))
  (ss_cons (c.bset (s_var (c.var (i := 0) (by kernel_rfl))) e_str (e_bin c.fdiv (tE_tO (c.idx ok L (tE_tO (s_var (c.var (i := 0) (by kernel_rfl)))) e_str)) (tE_tO (s_var (c.var (i := 1) (by kernel_rfl))))) (by kernel_rfl))
  (ss_cons (c.ret (s_var (c.var (i := 2) (by kernel_rfl))))
  ss_nil))))
theorem b8 (ok : WdOk (Aw Z P w mg base fad fdd cad) T) (L : lvl (Aw Z P w mg base fad fdd cad) T N k)  (X : Cx) (E : XK) (c : Cxo (Aw Z P w mg base fad fdd cad) k N8 (defScope (top 14)) (fun _ => true) (WE E) X) : PSs X (defBody (top 14)) (tSs Z T (callF T N k) (WE E) N ir8) :=
 (ss_cons (c.ret (c.idx ok L (tE_tO (s_var (c.var (i := 1) (by kernel_rfl)))) (c.call ok L (i := 7) (by kernel_rfl) rfl rfl (s_lcons (s_var (c.var (i := 0) (by kernel_rfl))) (s_lcons (c.len ok (i := 2) (by kernel_rfl) (s_ocons (tE_tO (s_var (c.var (i := 1) (by kernel_rfl)))) s_onil (by rfl))) s_lnil (by rfl)) (by rfl)))))
  ss_nil)
theorem b9 (ok : WdOk (Aw Z P w mg base fad fdd cad) T) (L : lvl (Aw Z P w mg base fad fdd cad) T N k)  (X : Cx) (E : XK) (c : Cxo (Aw Z P w mg base fad fdd cad) k N9 (defScope (top 15)) (fun _ => true) (WE E) X) : PSs X (defBody (top 15)) (tSs Z T (callF T N k) (WE E) N ir9) :=
 (ss_cons (c.par2 (i := 2) (j := 3) (es := (.cons (.boxed (.bi .list (.cons (.var 1) .nil))) (.cons (.lst .nil) .nil))) (by kernel_rfl) (by kernel_rfl) (by decide) (pa_cons (tF_v (s_boxed (c.list ok (i := 7) (by kernel_rfl) (s_ocons (tE_tO (s_var (c.var (i := 1) (by kernel_rfl)))) s_onil (by rfl))))) (pa_cons (tF_o (n_lst s_lnil)) pa_nil (by rfl)) (by rfl)) rfl (by kernel_rfl) (by kernel_rfl))
  (ss_cons (c.whl (e_cmpT (c.ne ok L) (tE_tO (s_var (c.var (i := 2) (by kernel_rfl)))) (tE_tO (tN_tE (n_lst s_lnil))))
 (ss_cons (c.app (i := 3) (by kernel_rfl) (s_bpop1 c.cK (s_var (c.var (i := 2) (by kernel_rfl))) (c.call ok L (i := 7) (by kernel_rfl) rfl rfl (s_lcons (s_var (c.var (i := 0) (by kernel_rfl))) (s_lcons (c.len ok (i := 2) (by kernel_rfl) (s_ocons (tE_tO (s_var (c.var (i := 2) (by kernel_rfl)))) s_onil (by rfl))) s_lnil (by rfl)) (by rfl)))))
  ss_nil))
  (ss_free (i := 3) (ss_cons (c.ret (s_var (c.var (i := 3) (by kernel_rfl))))
  ss_nil))))
theorem b10 (ok : WdOk (Aw Z P w mg base fad fdd cad) T) (L : lvl (Aw Z P w mg base fad fdd cad) T N k)  (X : Cx) (E : XK) (c : Cxo (Aw Z P w mg base fad fdd cad) k N10 (defScope (top 16)) (fun _ => true) (WE E) X) : PSs X (defBody (top 16)) (tSs Z T (callF T N k) (WE E) N ir10) :=
 (ss_cons (c.set (i := 2) (by kernel_rfl) (tN_tE (n_lst (s_lcons (s_tup s_lnil) s_lnil (by rfl)))) (by kernel_rfl))
  (ss_cons (c.forl (c.ir1 ok (i := 8) (by kernel_rfl) (s_var (c.var (i := 0) (by kernel_rfl)))) (s_gn (c.gn (i := 3) (by kernel_rfl)))
 (ss_cons (c.set (i := 4) (by kernel_rfl) (tN_tE (n_lst s_lnil)) (by kernel_rfl))
  (ss_cons (c.forl (c.iv (s_var (c.var (i := 2) (by kernel_rfl)))) (s_gn (c.gn (i := 5) (by kernel_rfl)))
 (ss_cons (c.set (i := 4) (by kernel_rfl) (e_bin c.add (tE_tO (s_var (c.var (i := 4) (by kernel_rfl)))) (tE_tO (tN_tE (c.lc (own := [("_law_cut", 6)]) (c.ir1 ok (i := 8) (by kernel_rfl) (s_var (c.var (i := 1) (by kernel_rfl)))) (by kernel_rfl) (by decide) (fun _ c1 => (s_gn (c1.gn (i := 6) (by kernel_rfl)))) (fun _ c1 => pts_nil) tt_none (fun _ c1 => (e_bin c1.add (tE_tO (s_var (c1.var (i := 5) (by kernel_rfl)))) (tE_tO (s_tup (s_lcons (s_var (c1.var (i := 6) (by kernel_rfl))) s_lnil (by rfl)))))))))) (by kernel_rfl))
  ss_nil))
  (ss_cons (c.set (i := 2) (by kernel_rfl) (s_var (c.var (i := 4) (by kernel_rfl))) (by kernel_rfl))
  ss_nil))))
  (ss_cons (c.ret (s_var (c.var (i := 2) (by kernel_rfl))))
  ss_nil)))
theorem b11 (ok : WdOk (Aw Z P w mg base fad fdd cad) T) (L : lvl (Aw Z P w mg base fad fdd cad) T N k)  (X : Cx) (E : XK) (c : Cxo (Aw Z P w mg base fad fdd cad) k N11 (defScope (top 17)) (fun _ => true) (WE E) X) : PSs X (defBody (top 17)) (tSs Z T (callF T N k) (WE E) N ir11) :=
 (ss_cons (c.ret (c.tuple ok (i := 3) (by kernel_rfl) (s_ocons (tE_tO (tN_tE (c.lc (own := [("_law_turn", 3)]) (c.ir1 ok (i := 8) (by kernel_rfl) (s_var (c.var (i := 1) (by kernel_rfl)))) (by kernel_rfl) (by decide) (fun _ c1 => (s_gn (c1.gn (i := 3) (by kernel_rfl)))) (fun _ c1 => pts_nil) tt_none (fun _ c1 => (c1.call ok L (i := 7) (by kernel_rfl) rfl rfl (s_lcons (s_var (c1.var (i := 0) (by kernel_rfl))) (s_lcons (s_var (c1.var (i := 2) (by kernel_rfl))) s_lnil (by rfl)) (by rfl))))))) s_onil (by rfl))))
  ss_nil)
theorem b12 (ok : WdOk (Aw Z P w mg base fad fdd cad) T) (L : lvl (Aw Z P w mg base fad fdd cad) T N k)  (X : Cx) (E : XK) (c : Cxo (Aw Z P w mg base fad fdd cad) k N12 (defScope (top 18)) (fun _ => true) (WE E) X) : PSs X (defBody (top 18)) (tSs Z T (callF T N k) (WE E) N ir12) :=
 (ss_cons (c.seto (i := 3) (by kernel_rfl) (n_lst s_lnil) (by kernel_rfl))
  (ss_cons (c.forl (c.ir1 ok (i := 8) (by kernel_rfl) (s_var (c.var (i := 1) (by kernel_rfl)))) (s_gn (c.gn (i := 4) (by kernel_rfl)))
 (ss_cons (s_lcv (te := tC .non) (c.setLc (i := 5) (own := [("_law_depth", 6)]) (c.ir1 ok (i := 8) (by kernel_rfl) (s_var (c.var (i := 2) (by kernel_rfl)))) (by kernel_rfl) (by decide) (fun _ c1 => (s_gn (c1.gn (i := 6) (by kernel_rfl)))) (fun _ c1 => pts_one (e_cmpT (c1.eq ok L) (tE_tO (c1.call ok L (i := 7) (by kernel_rfl) rfl rfl (s_lcons (s_var (c1.var (i := 0) (by kernel_rfl))) (s_lcons e_int s_lnil (by rfl)) (by rfl)))) (tE_tO e_int))) (fun _ _ _ q => q) (fun _ c1 => (s_var (c1.var (i := 6) (by kernel_rfl)))) (by kernel_rfl) rfl (by kernel_rfl)))
  (ss_cons (c.app (i := 3) (by kernel_rfl) (s_ife (e_cmpT (c.ne ok L) (tE_tO (s_var (c.var (i := 5) (by kernel_rfl)))) (tE_tO (tN_tE (n_lst s_lnil)))) (c.tuple ok (i := 3) (by kernel_rfl) (s_ocons (tE_tO (s_var (c.var (i := 5) (by kernel_rfl)))) s_onil (by rfl))) (s_tup (s_lcons (c.call ok L (i := 7) (by kernel_rfl) rfl rfl (s_lcons (s_var (c.var (i := 0) (by kernel_rfl))) (s_lcons (s_var (c.var (i := 2) (by kernel_rfl))) s_lnil (by rfl)) (by rfl))) s_lnil (by rfl)))))
  ss_nil)))
  (ss_cons (c.ret (c.tuple ok (i := 3) (by kernel_rfl) (s_ocons (s_own (c.var (i := 3) (by kernel_rfl))) s_onil (by rfl))))
  ss_nil)))
theorem b13 (ok : WdOk (Aw Z P w mg base fad fdd cad) T) (L : lvl (Aw Z P w mg base fad fdd cad) T N k)  (X : Cx) (E : XK) (c : Cxo (Aw Z P w mg base fad fdd cad) k N13 (defScope (top 19)) (fun _ => true) (WE E) X) : PSs X (defBody (top 19)) (tSs Z T (callF T N k) (WE E) N ir13) :=
 (ss_cons (c.ret (e_cmp (c.eq ok L) (tE_tO (tN_tE (c.lc (own := [("_law_a", 2), ("_law_b", 3)]) (c.zip ok (i := 1) (by kernel_rfl) (s_var (c.var (i := 0) (by kernel_rfl))) (s_var (c.var (i := 1) (by kernel_rfl)))) (by kernel_rfl) (by decide) (fun _ c1 => (c1.gtt (s_gcons (c1.gn (i := 2) (by kernel_rfl)) (s_gcons (c1.gn (i := 3) (by kernel_rfl)) s_gnil)))) (fun _ c1 => pts_one (e_cmpT c1.lt (tE_tO (s_var (c1.var (i := 3) (by kernel_rfl)))) (tE_tO (s_var (c1.var (i := 2) (by kernel_rfl)))))) (fun _ _ _ q => q) (fun _ c1 => e_int)))) (tE_tO (tN_tE (n_lst s_lnil)))))
  ss_nil)
theorem b14 (ok : WdOk (Aw Z P w mg base fad fdd cad) T) (L : lvl (Aw Z P w mg base fad fdd cad) T N k)  (X : Cx) (E : XK) (c : Cxo (Aw Z P w mg base fad fdd cad) k N14 (defScope (top 20)) (fun _ => true) (WE E) X) : PSs X (defBody (top 20)) (tSs Z T (callF T N k) (WE E) N ir14) :=
 (ss_cons (c.set (i := 2) (by kernel_rfl) (tN_tE (n_lst (s_lcons (s_tup (s_lcons e_int (s_lcons e_int s_lnil (by rfl)) (by rfl))) (s_lcons (s_tup (s_lcons e_int (s_lcons e_int s_lnil (by rfl)) (by rfl))) (s_lcons (s_tup (s_lcons e_int (s_lcons e_int s_lnil (by rfl)) (by rfl))) (s_lcons (s_tup (s_lcons e_int (s_lcons e_int s_lnil (by rfl)) (by rfl))) (s_lcons (s_tup (s_lcons e_int (s_lcons e_int s_lnil (by rfl)) (by rfl))) (s_lcons (s_tup (s_lcons e_int (s_lcons e_int s_lnil (by rfl)) (by rfl))) (s_lcons (s_tup (s_lcons e_int (s_lcons e_int s_lnil (by rfl)) (by rfl))) (s_lcons (s_tup (s_lcons e_int (s_lcons e_int s_lnil (by rfl)) (by rfl))) (s_lcons (s_tup (s_lcons e_int (s_lcons e_int s_lnil (by rfl)) (by rfl))) (s_lcons (s_tup (s_lcons e_int (s_lcons e_int s_lnil (by rfl)) (by rfl))) (s_lcons (s_tup (s_lcons e_int (s_lcons e_int s_lnil (by rfl)) (by rfl))) (s_lcons (s_tup (s_lcons e_int (s_lcons e_int s_lnil (by rfl)) (by rfl))) s_lnil (by rfl)) (by rfl)) (by rfl)) (by rfl)) (by rfl)) (by rfl)) (by rfl)) (by rfl)) (by rfl)) (by rfl)) (by rfl)) (by rfl)))) (by kernel_rfl))
  (ss_cons (c.seto (i := 3) (by kernel_rfl) (n_lst s_lnil) (by kernel_rfl))
  (ss_cons (c.forl (c.iv (s_var (c.var (i := 2) (by kernel_rfl)))) (c.gtt (s_gcons (c.gn (i := 4) (by kernel_rfl)) (s_gcons (c.gn (i := 5) (by kernel_rfl)) s_gnil)))
 (ss_cons (c.set (i := 6) (by kernel_rfl) e_int (by kernel_rfl))
  (ss_cons (c.forl (c.ir1 ok (i := 8) (by kernel_rfl) (s_var (c.var (i := 4) (by kernel_rfl)))) (s_gn (c.gn (i := 7) (by kernel_rfl)))
 (ss_cons (c.set (i := 6) (by kernel_rfl) (e_bin c.mul (tE_tO (s_var (c.var (i := 6) (by kernel_rfl)))) (tE_tO (s_var (c.var (i := 5) (by kernel_rfl))))) (by kernel_rfl))
  ss_nil))
  (ss_cons (c.cond (e_cmpT c.le (tE_tO (s_var (c.var (i := 6) (by kernel_rfl)))) (tE_tO (s_var (c.var (i := 1) (by kernel_rfl)))))
 (ss_cons (c.app (i := 3) (by kernel_rfl) (s_tup (s_lcons (s_var (c.var (i := 4) (by kernel_rfl))) (s_lcons (s_var (c.var (i := 5) (by kernel_rfl))) s_lnil (by rfl)) (by rfl))))
  ss_nil)
 ss_nil)
  ss_nil))))
  (ss_free (i := 3) (ss_cons (c.ret (c.call ok L (i := 8) (by kernel_rfl) rfl rfl (s_lcons (s_var (c.var (i := 0) (by kernel_rfl))) (s_lcons (s_var (c.var (i := 3) (by kernel_rfl))) s_lnil (by rfl)) (by rfl))))
  ss_nil)))))
theorem b15 (ok : WdOk (Aw Z P w mg base fad fdd cad) T) (L : lvl (Aw Z P w mg base fad fdd cad) T N k)  (X : Cx) (E : XK) (c : Cxo (Aw Z P w mg base fad fdd cad) k N15 (defScope (top 21)) (fun _ => true) (WE E) X) : PSs X (defBody (top 21)) (tSs Z T (callF T N k) (WE E) N ir15) :=
 (ss_cons (s_lcv (te := tC .non) (c.setLc (i := 3) (own := [("_law_other", 5)]) (c.iv (s_var (c.var (i := 2) (by kernel_rfl)))) (by kernel_rfl) (by decide) (fun _ c1 => (s_gn (c1.gn (i := 5) (by kernel_rfl)))) (fun _ c1 => pts_one (t_tru c1 (tE_tO (c1.call ok L (i := 13) (by kernel_rfl) rfl rfl (s_lcons (s_var (c1.var (i := 0) (by kernel_rfl))) (s_lcons (s_var (c1.var (i := 5) (by kernel_rfl))) s_lnil (by rfl)) (by rfl)))))) (fun _ _ _ q => q) (fun _ c1 => (s_var (c1.var (i := 5) (by kernel_rfl)))) (by kernel_rfl) rfl (by kernel_rfl)))
  (ss_cons (s_lcv (te := tC .non) (c.setLc (i := 3) (own := [("_law_other", 5)]) (c.iv (s_var (c.var (i := 3) (by kernel_rfl)))) (by kernel_rfl) (by decide) (fun _ c1 => (s_gn (c1.gn (i := 5) (by kernel_rfl)))) (fun _ c1 => pts_one (e_cmpT (c1.eq ok L) (tE_tO (tN_tE (c1.lc (own := [("_law_cut", 6), ("_law_some", 7)]) (c1.zip ok (i := 1) (by kernel_rfl) (s_var (c1.var (i := 5) (by kernel_rfl))) (s_var (c1.var (i := 1) (by kernel_rfl)))) (by kernel_rfl) (by decide) (fun _ c2 => (c2.gtt (s_gcons (c2.gn (i := 6) (by kernel_rfl)) (s_gcons (c2.gn (i := 7) (by kernel_rfl)) s_gnil)))) (fun _ c2 => pts_one (e_cmpT c2.nin (tE_tO (s_var (c2.var (i := 6) (by kernel_rfl)))) (tE_tO (s_var (c2.var (i := 7) (by kernel_rfl)))))) (fun _ _ _ q => q) (fun _ c2 => e_int)))) (tE_tO (tN_tE (n_lst s_lnil))))) (fun _ _ _ q => q) (fun _ c1 => (s_var (c1.var (i := 5) (by kernel_rfl)))) (by kernel_rfl) rfl (by kernel_rfl)))
  (ss_cons (c.cond (e_cmpT (c.eq ok L) (tE_tO (s_var (c.var (i := 3) (by kernel_rfl)))) (tE_tO (tN_tE (n_lst s_lnil))))
 (ss_cons (c.ret (e_none (j := none)))
  ss_nil)
 ss_nil)
  (ss_cons (s_lcv (te := tC .non) (c.setLc (i := 4) (own := [("_law_other", 5)]) (c.iv (s_var (c.var (i := 3) (by kernel_rfl)))) (by kernel_rfl) (by decide) (fun _ c1 => (s_gn (c1.gn (i := 5) (by kernel_rfl)))) (fun _ c1 => pts_nil) tt_none (fun _ c1 => (s_tup (s_lcons (c1.len ok (i := 2) (by kernel_rfl) (s_ocons (tE_tO (tN_tE (c1.lc (own := [("_law_a", 8), ("_law_b", 9)]) (c1.zip ok (i := 1) (by kernel_rfl) (s_var (c1.var (i := 0) (by kernel_rfl))) (s_var (c1.var (i := 5) (by kernel_rfl)))) (by kernel_rfl) (by decide) (fun _ c2 => (c2.gtt (s_gcons (c2.gn (i := 8) (by kernel_rfl)) (s_gcons (c2.gn (i := 9) (by kernel_rfl)) s_gnil)))) (fun _ c2 => pts_one (e_cmpT (c2.ne ok L) (tE_tO (s_var (c2.var (i := 8) (by kernel_rfl)))) (tE_tO (s_var (c2.var (i := 9) (by kernel_rfl)))))) (fun _ _ _ q => q) (fun _ c2 => e_int)))) s_onil (by rfl))) (s_lcons (s_var (c1.var (i := 5) (by kernel_rfl))) s_lnil (by rfl)) (by rfl)))) (by kernel_rfl) rfl (by kernel_rfl)))
  (ss_cons (c.ret (c.idx ok L (tE_tO (tN_tE (c.sorted ok (i := 5) (by kernel_rfl) (s_ocons (tE_tO (s_var (c.var (i := 4) (by kernel_rfl)))) s_onil (by rfl))))) e_int))
  ss_nil)))))
theorem b16 (ok : WdOk (Aw Z P w mg base fad fdd cad) T) (L : lvl (Aw Z P w mg base fad fdd cad) T N k) {du0 : List Value} (hk0 : HK0 Z fdd du0) (X : Cx) (E : XK) (c : Cxo (Aw Z P w mg base fad fdd cad) k N16 (defScope (top 22)) (fun _ => true) (WE E) X) : PSs X (defBody (top 22)) (tSs Z T (callF T N k) (WE E) N ir16) :=
 (ss_cons (c.set (i := 1) (by kernel_rfl) (c.call ok L (i := 5) (by kernel_rfl) rfl rfl (s_lcons (s_var (c.var (i := 0) (by kernel_rfl))) s_lnil (by rfl))) (by kernel_rfl))
  (ss_cons (c.forl (c.ir1 ok (i := 8) (by kernel_rfl) e_int) (s_gn (c.gn (i := 2) (by kernel_rfl)))
 (ss_cons (c.asg (c.call ok L (i := 14) (by kernel_rfl) rfl rfl (s_lcons (s_var (c.var (i := 1) (by kernel_rfl))) (s_lcons e_int s_lnil (by rfl)) (by rfl))) (c.gtt (s_gcons (c.gn (i := 8) (by kernel_rfl)) (s_gcons (c.gn (i := 9) (by kernel_rfl)) s_gnil))) (by kernel_rfl) (by kernel_rfl))
  (ss_cons (c.asg (s_tup (s_lcons (c.call ok L (i := 10) (by kernel_rfl) rfl rfl (s_lcons (s_var (c.var (i := 8) (by kernel_rfl))) (s_lcons (s_var (c.var (i := 9) (by kernel_rfl))) s_lnil (by rfl)) (by rfl))) (s_lcons (tN_tE (c.lc (own := [("_law_turn", 13)]) (c.ir1 ok (i := 8) (by kernel_rfl) (c.call ok L (i := 7) (by kernel_rfl) rfl rfl (s_lcons (s_var (c.var (i := 1) (by kernel_rfl))) (s_lcons e_int s_lnil (by rfl)) (by rfl)))) (by kernel_rfl) (by decide) (fun _ c1 => (s_gn (c1.gn (i := 13) (by kernel_rfl)))) (fun _ c1 => pts_nil) tt_none (fun _ c1 => (c1.call ok L (i := 11) (by kernel_rfl) rfl rfl (s_lcons (s_var (c1.var (i := 1) (by kernel_rfl))) (s_lcons (s_var (c1.var (i := 8) (by kernel_rfl))) (s_lcons (s_var (c1.var (i := 9) (by kernel_rfl))) s_lnil (by rfl)) (by rfl)) (by rfl)))))) s_lnil (by rfl)) (by rfl))) (c.gtt (s_gcons (c.gn (i := 10) (by kernel_rfl)) (s_gcons (c.gn (i := 11) (by kernel_rfl)) s_gnil))) (by kernel_rfl) (by kernel_rfl))
  (ss_cons (c.set (i := 3) (by kernel_rfl) (c.sli (tE_tO (c.call ok L (i := 9) (by kernel_rfl) rfl rfl (s_lcons (s_var (c.var (i := 1) (by kernel_rfl))) (s_lcons (tN_tE (n_lst (s_lcons e_str (s_lcons e_str (s_lcons e_str (s_lcons e_str (s_lcons e_str s_lnil (by rfl)) (by rfl)) (by rfl)) (by rfl)) (by rfl)))) s_lnil (by rfl)) (by rfl)))) s_pnil (s_pone (c.call ok L (i := 7) (by kernel_rfl) rfl rfl (s_lcons (s_var (c.var (i := 1) (by kernel_rfl))) (s_lcons e_int s_lnil (by rfl)) (by rfl))))) (by kernel_rfl))
  (ss_cons (c.set (i := 4) (by kernel_rfl) (tN_tE (c.dict ok (i := 9) (by kernel_rfl) (s_ocons (tE_tO (tN_tE (c.lc (own := [("_law_name", 6)]) (c.iv (s_var (c.var (i := 3) (by kernel_rfl)))) (by kernel_rfl) (by decide) (fun _ c1 => (s_gn (c1.gn (i := 6) (by kernel_rfl)))) (fun _ c1 => pts_nil) tt_none (fun _ c1 => (s_tup (s_lcons (s_var (c1.var (i := 6) (by kernel_rfl))) (s_lcons (c1.call ok L (i := 12) (by kernel_rfl) rfl rfl (s_lcons (s_var (c1.var (i := 1) (by kernel_rfl))) (s_lcons (s_var (c1.var (i := 8) (by kernel_rfl))) (s_lcons (s_var (c1.var (i := 9) (by kernel_rfl))) s_lnil (by rfl)) (by rfl)) (by rfl))) s_lnil (by rfl)) (by rfl))))))) s_onil (by rfl)))) (by kernel_rfl))
  (ss_cons (c.seto (i := 5) (by kernel_rfl) n_dct0 (by kernel_rfl))
  (ss_cons (c.forl (c.iv (tN_tE (c.sorted ok (i := 5) (by kernel_rfl) (s_ocons (tE_tO (s_var (c.var (i := 3) (by kernel_rfl)))) s_onil (by rfl))))) (s_gn (c.gn (i := 6) (by kernel_rfl)))
 (ss_cons (s_lcv (te := tC .non) (c.setLc (i := 12) (own := [("_law_at", 14), ("_law_cuts_here", 15)]) (c.enum ok (i := 4) (by kernel_rfl) (s_var (c.var (i := 11) (by kernel_rfl)))) (by kernel_rfl) (by decide) (fun _ c1 => (c1.gtt (s_gcons (c1.gn (i := 14) (by kernel_rfl)) (s_gcons (c1.gn (i := 15) (by kernel_rfl)) s_gnil)))) (fun _ c1 => pts_nil) tt_none (fun _ c1 => (s_tup (s_lcons (c1.call ok L (i := 15) (by kernel_rfl) rfl rfl (s_lcons (s_var (c1.var (i := 15) (by kernel_rfl))) (s_lcons (c1.idx ok L (tE_tO (s_var (c1.var (i := 4) (by kernel_rfl)))) (s_var (c1.var (i := 6) (by kernel_rfl)))) (s_lcons (s_var (c1.var (i := 10) (by kernel_rfl))) s_lnil (by rfl)) (by rfl)) (by rfl))) (s_lcons (s_var (c1.var (i := 14) (by kernel_rfl))) s_lnil (by rfl)) (by rfl)))) (by kernel_rfl) rfl (by kernel_rfl)))
  (ss_cons (s_lcv (te := tC .non) (c.setLc (i := 12) (own := [("_law_told", 7), ("_law_at", 14)]) (c.iv (s_var (c.var (i := 12) (by kernel_rfl)))) (by kernel_rfl) (by decide) (fun _ c1 => (c1.gtt (s_gcons (c1.gn (i := 7) (by kernel_rfl)) (s_gcons (c1.gn (i := 14) (by kernel_rfl)) s_gnil)))) (fun _ c1 => pts_one (e_cmpT c1.notN (tE_tO (s_var (c1.var (i := 7) (by kernel_rfl)))) (tE_tO (e_none (j := none))))) (fun _ _ _ q => q) (fun _ c1 => (s_tup (s_lcons (c1.idx ok L (tE_tO (s_var (c1.var (i := 7) (by kernel_rfl)))) e_int) (s_lcons (s_var (c1.var (i := 14) (by kernel_rfl))) (s_lcons (c1.idx ok L (tE_tO (s_var (c1.var (i := 7) (by kernel_rfl)))) e_int) s_lnil (by rfl)) (by rfl)) (by rfl)))) (by kernel_rfl) rfl (by kernel_rfl)))
  (ss_cons (c.cond (e_cmpT (c.ne ok L) (tE_tO (s_var (c.var (i := 12) (by kernel_rfl)))) (tE_tO (tN_tE (n_lst s_lnil))))
 (ss_cons (c.oset (i := 5) (by kernel_rfl) (s_var (c.var (i := 6) (by kernel_rfl))) (c.sli (tE_tO (c.idx ok L (tE_tO (tN_tE (c.sorted ok (i := 5) (by kernel_rfl) (s_ocons (tE_tO (s_var (c.var (i := 12) (by kernel_rfl)))) s_onil (by rfl))))) e_int)) (s_pone e_int) s_pnil) (by kernel_rfl))
  ss_nil)
 ss_nil)
  ss_nil))))
  (ss_cons (c.set (i := 7) (by kernel_rfl) (c.callk0 ok L hk0.2 hk0.1 (i := 4) (by kernel_rfl) rfl rfl rfl (s_kcons (s_var (c.var (i := 4) (by kernel_rfl))) (s_kcons (c.tuple ok (i := 3) (by kernel_rfl) (s_ocons (tE_tO (s_var (c.var (i := 11) (by kernel_rfl)))) s_onil (by rfl))) s_knil))) (by kernel_rfl))
  (ss_cons (c.cond (PW.pt (s_tor (e_cmpT (c.ne ok L) (tE_tO (s_var (c.var (i := 7) (by kernel_rfl)))) (s_own (c.var (i := 5) (by kernel_rfl)))) (pw_or1 (e_cmpT (c.ne ok L) (tE_tO (tN_tE (c.list ok (i := 7) (by kernel_rfl) (s_ocons (tE_tO (s_var (c.var (i := 7) (by kernel_rfl)))) s_onil (by rfl))))) (tE_tO (tN_tE (c.sorted ok (i := 5) (by kernel_rfl) (s_ocons (s_own (c.var (i := 5) (by kernel_rfl))) s_onil (by rfl)))))))))
 (ss_cons (c.ret e_bool)
  ss_nil)
 ss_nil)
  ss_nil)))))))))
  (ss_cons (c.ret e_bool)
  ss_nil)))
end
theorem S0 : FnScope N0 (["key", "other"] : List Str) (defScope (top 4)) := ⟨by kernel_rfl, by kernel_rfl, by kernel_rfl, by decide +kernel, by kernel_rfl, by decide +kernel, by decide +kernel⟩
theorem S1 : FnScope N1 (["key", "other"] : List Str) (defScope (top 5)) := ⟨by kernel_rfl, by kernel_rfl, by kernel_rfl, by decide +kernel, by kernel_rfl, by decide +kernel, by decide +kernel⟩
theorem S2 : FnScope N2 (["key", "lock"] : List Str) (defScope (top 6)) := ⟨by kernel_rfl, by kernel_rfl, by kernel_rfl, by decide +kernel, by kernel_rfl, by decide +kernel, by decide +kernel⟩
theorem S3 : FnScope N3 (["keys", "lock"] : List Str) (defScope (top 8)) := ⟨by kernel_rfl, by kernel_rfl, by kernel_rfl, by decide +kernel, by kernel_rfl, by decide +kernel, by decide +kernel⟩
theorem S4 : FnScope N4 (["keys", "locks"] : List Str) (defScope (top 9)) := ⟨by kernel_rfl, by kernel_rfl, by kernel_rfl, by decide +kernel, by kernel_rfl, by decide +kernel, by decide +kernel⟩
theorem S5 : FnScope N5 (["_law_script"] : List Str) (defScope (top 11)) := ⟨by kernel_rfl, by kernel_rfl, by kernel_rfl, by decide +kernel, by kernel_rfl, by decide +kernel, by decide +kernel⟩
theorem S6 : FnScope N6 (["_law_draw"] : List Str) (defScope (top 12)) := ⟨by kernel_rfl, by kernel_rfl, by kernel_rfl, by decide +kernel, by kernel_rfl, by decide +kernel, by decide +kernel⟩
theorem S7 : FnScope N7 (["_law_draw", "_law_size"] : List Str) (defScope (top 13)) := ⟨by kernel_rfl, by kernel_rfl, by kernel_rfl, by decide +kernel, by kernel_rfl, by decide +kernel, by decide +kernel⟩
theorem S8 : FnScope N8 (["_law_draw", "_law_items"] : List Str) (defScope (top 14)) := ⟨by kernel_rfl, by kernel_rfl, by kernel_rfl, by decide +kernel, by kernel_rfl, by decide +kernel, by decide +kernel⟩
theorem S9 : FnScope N9 (["_law_draw", "_law_items"] : List Str) (defScope (top 15)) := ⟨by kernel_rfl, by kernel_rfl, by kernel_rfl, by decide +kernel, by kernel_rfl, by decide +kernel, by decide +kernel⟩
theorem S10 : FnScope N10 (["_law_size", "_law_far"] : List Str) (defScope (top 16)) := ⟨by kernel_rfl, by kernel_rfl, by kernel_rfl, by decide +kernel, by kernel_rfl, by decide +kernel, by decide +kernel⟩
theorem S11 : FnScope N11 (["_law_draw", "_law_size", "_law_far"] : List Str) (defScope (top 17)) := ⟨by kernel_rfl, by kernel_rfl, by kernel_rfl, by decide +kernel, by kernel_rfl, by decide +kernel, by decide +kernel⟩
theorem S12 : FnScope N12 (["_law_draw", "_law_size", "_law_far"] : List Str) (defScope (top 18)) := ⟨by kernel_rfl, by kernel_rfl, by kernel_rfl, by decide +kernel, by kernel_rfl, by decide +kernel, by decide +kernel⟩
theorem S13 : FnScope N13 (["_law_one", "_law_other"] : List Str) (defScope (top 19)) := ⟨by kernel_rfl, by kernel_rfl, by kernel_rfl, by decide +kernel, by kernel_rfl, by decide +kernel, by decide +kernel⟩
theorem S14 : FnScope N14 (["_law_draw", "_law_most"] : List Str) (defScope (top 20)) := ⟨by kernel_rfl, by kernel_rfl, by kernel_rfl, by decide +kernel, by kernel_rfl, by decide +kernel, by decide +kernel⟩
theorem S15 : FnScope N15 (["_law_cuts_here", "_law_gaps_here", "_law_every_here"] : List Str) (defScope (top 21)) := ⟨by kernel_rfl, by kernel_rfl, by kernel_rfl, by decide +kernel, by kernel_rfl, by decide +kernel, by decide +kernel⟩
theorem S16 : FnScope N16 (["_law_script"] : List Str) (defScope (top 22)) := ⟨by kernel_rfl, by kernel_rfl, by kernel_rfl, by decide +kernel, by kernel_rfl, by decide +kernel, by decide +kernel⟩
abbrev FF (K : PySem.W.Frag) (x qual : Str) (st : Stmt) (dvs : List V) (kws : List (Str × V)) (f : Addr) (fd : FuncData) : Prop := FunD K x qual (defArgs st) (defBody st) (defScope st) dvs kws f fd
section
variable {Z : Zc} {P : Program} {w : World} {mg : Str → Option Value} {base : Heap} {fad : Nat → Addr} {fdd : Nat → FuncData} {cad : Nat → Addr} {N k : Nat}
theorem kw0 (F : FF Z.K "best_openings" "best_openings" (top 9) [] [] (fad 4) (fdd 4)) : ∃ du, HK0 Z fdd du := (show ∃ du, KBn _ _ _ _ _ _ _ from kbN F 0 _ fun _ _ _ _ _ _ us ws h1 h2 => match us, ws, h1, h2 with | [], [_, _], _, _ => rfl).imp fun _ h => ⟨fun _ _ => .nil, h⟩
theorem lvls (ok : WdOk (Aw Z P w mg base fad fdd cad) T) (F0 : FF Z.K "is_filing" "is_filing" (top 4) [] [] (fad 0) (fdd 0)) (F1 : FF Z.K "strokes" "strokes" (top 5) [] [] (fad 1) (fdd 1)) (F2 : FF Z.K "filed_to_open" "filed_to_open" (top 6) [] [] (fad 2) (fdd 2)) (F3 : FF Z.K "best_opening" "best_opening" (top 8) [] [] (fad 3) (fdd 3)) (F4 : FF Z.K "best_openings" "best_openings" (top 9) [] [] (fad 4) (fdd 4)) (F5 : FF Z.K "_law_begun" "_law_begun" (top 11) [] [] (fad 5) (fdd 5)) (F6 : FF Z.K "_law_mixed" "_law_mixed" (top 12) [] [] (fad 6) (fdd 6)) (F7 : FF Z.K "_law_take" "_law_take" (top 13) [] [] (fad 7) (fdd 7)) (F8 : FF Z.K "_law_pick" "_law_pick" (top 14) [] [] (fad 8) (fdd 8)) (F9 : FF Z.K "_law_shuffled" "_law_shuffled" (top 15) [] [] (fad 9) (fdd 9)) (F10 : FF Z.K "_law_every" "_law_every" (top 16) [] [] (fad 10) (fdd 10)) (F11 : FF Z.K "_law_cuts" "_law_cuts" (top 17) [] [] (fad 11) (fdd 11)) (F12 : FF Z.K "_law_gaps" "_law_gaps" (top 18) [] [] (fad 12) (fdd 12)) (F13 : FF Z.K "_law_below" "_law_below" (top 19) [] [] (fad 13) (fdd 13)) (F14 : FF Z.K "_law_shape" "_law_shape" (top 20) [] [] (fad 14) (fdd 14)) (F15 : FF Z.K "_law_least" "_law_least" (top 21) [] [] (fad 15) (fdd 15)) (F16 : FF Z.K "law" "law" (top 22) [] [] (fad 16) (fdd 16)) : ∀ k, lvl (Aw Z P w mg base fad fdd cad) T N k
  | 0 => lvl_zero
  | k + 1 => fun i ps h => by
    have L := lvls ok F0 F1 F2 F3 F4 F5 F6 F7 F8 F9 F10 F11 F12 F13 F14 F15 F16 k
    obtain ⟨du0, hk0⟩ := kw0 F4
    match i, h with
    | 0, h => cases h; exact ok_fn (A := Aw Z P w mg base fad fdd cad) F0 S0 rfl rfl rfl rfl fun X E c => b0 ok L  X E c
    | 1, h => cases h; exact ok_fn (A := Aw Z P w mg base fad fdd cad) F1 S1 rfl rfl rfl rfl fun X E c => b1 ok L  X E c
    | 2, h => cases h; exact ok_fn (A := Aw Z P w mg base fad fdd cad) F2 S2 rfl rfl rfl rfl fun X E c => b2 ok L  X E c
    | 3, h => cases h; exact ok_fn (A := Aw Z P w mg base fad fdd cad) F3 S3 rfl rfl rfl rfl fun X E c => b3 ok L  X E c
    | 4, h => cases h; exact ok_fn (A := Aw Z P w mg base fad fdd cad) F4 S4 rfl rfl rfl rfl fun X E c => b4 ok L  X E c
    | 5, h => cases h; exact ok_fn (A := Aw Z P w mg base fad fdd cad) F5 S5 rfl rfl rfl rfl fun X E c => b5 ok L  X E c
    | 6, h => cases h; exact ok_fn (A := Aw Z P w mg base fad fdd cad) F6 S6 rfl rfl rfl rfl fun X E c => b6 ok L  X E c
    | 7, h => cases h; exact ok_fn (A := Aw Z P w mg base fad fdd cad) F7 S7 rfl rfl rfl rfl fun X E c => b7 ok L  X E c
    | 8, h => cases h; exact ok_fn (A := Aw Z P w mg base fad fdd cad) F8 S8 rfl rfl rfl rfl fun X E c => b8 ok L  X E c
    | 9, h => cases h; exact ok_fn (A := Aw Z P w mg base fad fdd cad) F9 S9 rfl rfl rfl rfl fun X E c => b9 ok L  X E c
    | 10, h => cases h; exact ok_fn (A := Aw Z P w mg base fad fdd cad) F10 S10 rfl rfl rfl rfl fun X E c => b10 ok L  X E c
    | 11, h => cases h; exact ok_fn (A := Aw Z P w mg base fad fdd cad) F11 S11 rfl rfl rfl rfl fun X E c => b11 ok L  X E c
    | 12, h => cases h; exact ok_fn (A := Aw Z P w mg base fad fdd cad) F12 S12 rfl rfl rfl rfl fun X E c => b12 ok L  X E c
    | 13, h => cases h; exact ok_fn (A := Aw Z P w mg base fad fdd cad) F13 S13 rfl rfl rfl rfl fun X E c => b13 ok L  X E c
    | 14, h => cases h; exact ok_fn (A := Aw Z P w mg base fad fdd cad) F14 S14 rfl rfl rfl rfl fun X E c => b14 ok L  X E c
    | 15, h => cases h; exact ok_fn (A := Aw Z P w mg base fad fdd cad) F15 S15 rfl rfl rfl rfl fun X E c => b15 ok L  X E c
    | 16, h => cases h; exact ok_fn (A := Aw Z P w mg base fad fdd cad) F16 S16 rfl rfl rfl rfl fun X E c => b16 ok L hk0 X E c
    | n + 17, h => cases h
end
def fn : List DefY := ([⟨.glo "is_filing", "is_filing", "is_filing", defArgs (top 4), defBody (top 4), defScope (top 4), [], []⟩, ⟨.glo "strokes", "strokes", "strokes", defArgs (top 5), defBody (top 5), defScope (top 5), [], []⟩, ⟨.glo "filed_to_open", "filed_to_open", "filed_to_open", defArgs (top 6), defBody (top 6), defScope (top 6), [], []⟩, ⟨.glo "best_opening", "best_opening", "best_opening", defArgs (top 8), defBody (top 8), defScope (top 8), [], []⟩, ⟨.glo "best_openings", "best_openings", "best_openings", defArgs (top 9), defBody (top 9), defScope (top 9), [], []⟩, ⟨.glo "_law_begun", "_law_begun", "_law_begun", defArgs (top 11), defBody (top 11), defScope (top 11), [], []⟩, ⟨.glo "_law_mixed", "_law_mixed", "_law_mixed", defArgs (top 12), defBody (top 12), defScope (top 12), [], []⟩, ⟨.glo "_law_take", "_law_take", "_law_take", defArgs (top 13), defBody (top 13), defScope (top 13), [], []⟩, ⟨.glo "_law_pick", "_law_pick", "_law_pick", defArgs (top 14), defBody (top 14), defScope (top 14), [], []⟩, ⟨.glo "_law_shuffled", "_law_shuffled", "_law_shuffled", defArgs (top 15), defBody (top 15), defScope (top 15), [], []⟩, ⟨.glo "_law_every", "_law_every", "_law_every", defArgs (top 16), defBody (top 16), defScope (top 16), [], []⟩, ⟨.glo "_law_cuts", "_law_cuts", "_law_cuts", defArgs (top 17), defBody (top 17), defScope (top 17), [], []⟩] : List (DefY)) ++ ([⟨.glo "_law_gaps", "_law_gaps", "_law_gaps", defArgs (top 18), defBody (top 18), defScope (top 18), [], []⟩, ⟨.glo "_law_below", "_law_below", "_law_below", defArgs (top 19), defBody (top 19), defScope (top 19), [], []⟩, ⟨.glo "_law_shape", "_law_shape", "_law_shape", defArgs (top 20), defBody (top 20), defScope (top 20), [], []⟩, ⟨.glo "_law_least", "_law_least", "_law_least", defArgs (top 21), defBody (top 21), defScope (top 21), [], []⟩, ⟨.glo "law", "law", "law", defArgs (top 22), defBody (top 22), defScope (top 22), [], []⟩] : List (DefY))
def fa : List FaY := ([fGlo "is_filing", fGlo "strokes", fGlo "filed_to_open", fGlo "best_opening", fGlo "best_openings", fGlo "_law_begun", fGlo "_law_mixed", fGlo "_law_take", fGlo "_law_pick", fGlo "_law_shuffled", fGlo "_law_every", fGlo "_law_cuts"] : List (FaY)) ++ ([fGlo "_law_gaps", fGlo "_law_below", fGlo "_law_shape", fGlo "_law_least", fGlo "law", fFree "all", fFree "zip", fFree "len", fFree "tuple", fFree "enumerate", fFree "sorted", fFree "abs"] : List (FaY)) ++ ([fFree "list", fFree "range", fFree "dict"] : List (FaY))
abbrev R : PySem.W.OpenRow := PySem.W.OpenLaw.row PySem.Challenge.rw_onlydeeper_k61_several_keys_in_one_hand
abbrev hk : PySem.W.Hook := hookY 7 fa fn
def ob (s : PySem.W.SharedT) : AlY := obsYG 7 fa fn (HandSHeadRun.getT s)
theorem ob_eq (s : PySem.W.SharedT) : ob s = hk.obs s.abs := obsYG_eq (HandSHeadRun.getT_eq s)
def loose : List Str := (["KeySystemError", "NoFiling", "is_filing", "strokes", "filed_to_open", "best_opening", "best_openings", "_law_begun", "_law_mixed", "_law_take"] : List Str) ++ (["_law_pick", "_law_shuffled", "_law_every", "_law_cuts", "_law_gaps", "_law_below", "_law_shape", "_law_least"] : List Str)
theorem run (w : World) : HandSHeadRun.RunEq R (PySem.W.view R.prog [22]) hk ob 2000 loose w := by
  intro os
  kernel_rfl
abbrev Wh : Nat := 100000
abbrev ca (K : PySem.W.Frag) (c : Nat) : Addr := He.ga K (clsn.getD c "")
abbrev fad0 (K : PySem.W.Frag) (i : Nat) : Addr := match fn[i]? with | some d => d.at_.ad K | none => 0
abbrev cad0 (K : PySem.W.Frag) (i : Nat) : Addr := match T.fns[i]? with | some fe => (match fe.ini with | some c => ca K c | none => fad0 K i) | none => 0
theorem facts {P : Program} {w : World} {K : PySem.W.Frag} {h : Heap} {mg : Str → Option Value} {f : Addr} (X : K.In h) (G : h.Ns mainGlobals mg) (hfa : mg ("law" : Str) = some (.ref f)) (c : SaysY fa fn K) :
    ∃ fd : FuncData, (∀ (s : Shared) (v : Value), BindsTo s fd ⟨[v], []⟩ [("_law_script", v)]) ∧ ∀ base : Heap, K.In base → base.Ns mainGlobals mg → FnOk P w K mg base (CXw P) 12 f fd ["_law_script"] (spD ⟨K, ca K⟩ (callF T Wh 6) 16 1) := by
  obtain ⟨fd0, F0⟩ := c.def_ 0 rfl
  obtain ⟨fd1, F1⟩ := c.def_ 1 rfl
  obtain ⟨fd2, F2⟩ := c.def_ 2 rfl
  obtain ⟨fd3, F3⟩ := c.def_ 3 rfl
  obtain ⟨fd4, F4⟩ := c.def_ 4 rfl
  obtain ⟨fd5, F5⟩ := c.def_ 5 rfl
  obtain ⟨fd6, F6⟩ := c.def_ 6 rfl
  obtain ⟨fd7, F7⟩ := c.def_ 7 rfl
  obtain ⟨fd8, F8⟩ := c.def_ 8 rfl
  obtain ⟨fd9, F9⟩ := c.def_ 9 rfl
  obtain ⟨fd10, F10⟩ := c.def_ 10 rfl
  obtain ⟨fd11, F11⟩ := c.def_ 11 rfl
  obtain ⟨fd12, F12⟩ := c.def_ 12 rfl
  obtain ⟨fd13, F13⟩ := c.def_ 13 rfl
  obtain ⟨fd14, F14⟩ := c.def_ 14 rfl
  obtain ⟨fd15, F15⟩ := c.def_ 15 rfl
  obtain ⟨fd16, F16⟩ := c.def_ 16 rfl
  have e := hfa.symm.trans (He.glo_ok X G (c.fact 16 (f := fGlo "law") rfl))
  cases e
  have b := FunD.bindsA (ps := ["_law_script"]) F16 fun _ _ _ _ _ _ us hl => match us, hl with | [_], _ => rfl
  refine ⟨fd16, fun s v => b s [v] rfl, fun base _ _ => ?_⟩
  have ok : WdOk (Aw ⟨K, ca K⟩ P w mg base (fad0 K) (fun i => [fd0, fd1, fd2, fd3, fd4, fd5, fd6, fd7, fd8, fd9, fd10, fd11, fd12, fd13, fd14, fd15, fd16].getD i fd0) (cad0 K)) T := by
    refine ⟨fun i x hh hx => ?_, fun i x hx => ?_, fun i fe ps hT hk hp => ?_, fun i fe hT => ?_, fun i fe hT hi => ?_, fun i fe cc hT hi => ?_, fun cc ce h => ?_, fun cc ce h => ?_, fun cc f h => ?_, fun cc f i h => ?_, fun cc m i h => ?_, fun cc x hx => ?_, fun i x v d hv hd => ?_, fun j cc f v d hv hd => ?_⟩
    · match i, hx with
      | 0, hx => cases hx; exact ⟨He.glo_ok X G (c.fact 0 (f := fGlo "is_filing") rfl), F0.kp⟩
      | 1, hx => cases hx; exact ⟨He.glo_ok X G (c.fact 1 (f := fGlo "strokes") rfl), F1.kp⟩
      | 2, hx => cases hx; exact ⟨He.glo_ok X G (c.fact 2 (f := fGlo "filed_to_open") rfl), F2.kp⟩
      | 3, hx => cases hx; exact ⟨He.glo_ok X G (c.fact 3 (f := fGlo "best_opening") rfl), F3.kp⟩
      | 4, hx => cases hx; exact ⟨He.glo_ok X G (c.fact 4 (f := fGlo "best_openings") rfl), F4.kp⟩
      | 5, hx => cases hx; exact ⟨He.glo_ok X G (c.fact 5 (f := fGlo "_law_begun") rfl), F5.kp⟩
      | 6, hx => cases hx; exact ⟨He.glo_ok X G (c.fact 6 (f := fGlo "_law_mixed") rfl), F6.kp⟩
      | 7, hx => cases hx; exact ⟨He.glo_ok X G (c.fact 7 (f := fGlo "_law_take") rfl), F7.kp⟩
      | 8, hx => cases hx; exact ⟨He.glo_ok X G (c.fact 8 (f := fGlo "_law_pick") rfl), F8.kp⟩
      | 9, hx => cases hx; exact ⟨He.glo_ok X G (c.fact 9 (f := fGlo "_law_shuffled") rfl), F9.kp⟩
      | 10, hx => cases hx; exact ⟨He.glo_ok X G (c.fact 10 (f := fGlo "_law_every") rfl), F10.kp⟩
      | 11, hx => cases hx; exact ⟨He.glo_ok X G (c.fact 11 (f := fGlo "_law_cuts") rfl), F11.kp⟩
      | 12, hx => cases hx; exact ⟨He.glo_ok X G (c.fact 12 (f := fGlo "_law_gaps") rfl), F12.kp⟩
      | 13, hx => cases hx; exact ⟨He.glo_ok X G (c.fact 13 (f := fGlo "_law_below") rfl), F13.kp⟩
      | 14, hx => cases hx; exact ⟨He.glo_ok X G (c.fact 14 (f := fGlo "_law_shape") rfl), F14.kp⟩
      | 15, hx => cases hx; exact ⟨He.glo_ok X G (c.fact 15 (f := fGlo "_law_least") rfl), F15.kp⟩
      | 16, hx => cases hx; exact ⟨He.glo_ok X G (c.fact 16 (f := fGlo "law") rfl), F16.kp⟩
      | n + 17, hx => cases hx
    · match i, hx with
      | 0, hx => cases hx; exact He.free_ok X G (c.fact 17 (f := fFree "all") rfl)
      | 1, hx => cases hx; exact He.free_ok X G (c.fact 18 (f := fFree "zip") rfl)
      | 2, hx => cases hx; exact He.free_ok X G (c.fact 19 (f := fFree "len") rfl)
      | 3, hx => cases hx; exact He.free_ok X G (c.fact 20 (f := fFree "tuple") rfl)
      | 4, hx => cases hx; exact He.free_ok X G (c.fact 21 (f := fFree "enumerate") rfl)
      | 5, hx => cases hx; exact He.free_ok X G (c.fact 22 (f := fFree "sorted") rfl)
      | 6, hx => cases hx; exact He.free_ok X G (c.fact 23 (f := fFree "abs") rfl)
      | 7, hx => cases hx; exact He.free_ok X G (c.fact 24 (f := fFree "list") rfl)
      | 8, hx => cases hx; exact He.free_ok X G (c.fact 25 (f := fFree "range") rfl)
      | 9, hx => cases hx; exact He.free_ok X G (c.fact 26 (f := fFree "dict") rfl)
      | n + 10, hx => cases hx
    · match i, hT, hp with
      | 0, hT, hp => cases hp; exact F0.bindsN fun _ _ _ _ _ _ us hl => match us, hl with | [_, _], _ => rfl
      | 1, hT, hp => cases hp; exact F1.bindsN fun _ _ _ _ _ _ us hl => match us, hl with | [_, _], _ => rfl
      | 2, hT, hp => cases hp; exact F2.bindsN fun _ _ _ _ _ _ us hl => match us, hl with | [_, _], _ => rfl
      | 3, hT, hp => cases hp; exact F3.bindsN fun _ _ _ _ _ _ us hl => match us, hl with | [_, _], _ => rfl
      | 4, hT, hp => cases hp; exact F4.bindsN fun _ _ _ _ _ _ us hl => match us, hl with | [_, _], _ => rfl
      | 5, hT, hp => cases hp; exact F5.bindsN fun _ _ _ _ _ _ us hl => match us, hl with | [_], _ => rfl
      | 6, hT, hp => cases hp; exact F6.bindsN fun _ _ _ _ _ _ us hl => match us, hl with | [_], _ => rfl
      | 7, hT, hp => cases hp; exact F7.bindsN fun _ _ _ _ _ _ us hl => match us, hl with | [_, _], _ => rfl
      | 8, hT, hp => cases hp; exact F8.bindsN fun _ _ _ _ _ _ us hl => match us, hl with | [_, _], _ => rfl
      | 9, hT, hp => cases hp; exact F9.bindsN fun _ _ _ _ _ _ us hl => match us, hl with | [_, _], _ => rfl
      | 10, hT, hp => cases hp; exact F10.bindsN fun _ _ _ _ _ _ us hl => match us, hl with | [_, _], _ => rfl
      | 11, hT, hp => cases hp; exact F11.bindsN fun _ _ _ _ _ _ us hl => match us, hl with | [_, _, _], _ => rfl
      | 12, hT, hp => cases hp; exact F12.bindsN fun _ _ _ _ _ _ us hl => match us, hl with | [_, _, _], _ => rfl
      | 13, hT, hp => cases hp; exact F13.bindsN fun _ _ _ _ _ _ us hl => match us, hl with | [_, _], _ => rfl
      | 14, hT, hp => cases hp; exact F14.bindsN fun _ _ _ _ _ _ us hl => match us, hl with | [_, _], _ => rfl
      | 15, hT, hp => cases hp; exact F15.bindsN fun _ _ _ _ _ _ us hl => match us, hl with | [_, _, _], _ => rfl
      | 16, hT, hp => cases hp; exact F16.bindsN fun _ _ _ _ _ _ us hl => match us, hl with | [_], _ => rfl
      | n + 17, hT, hp => cases hp
    · match i, hT with
      | 0, hT => cases hT; exact ⟨_, rfl, rfl⟩
      | 1, hT => cases hT; exact ⟨_, rfl, rfl⟩
      | 2, hT => cases hT; exact ⟨_, rfl, rfl⟩
      | 3, hT => cases hT; exact ⟨_, rfl, rfl⟩
      | 4, hT => cases hT; exact ⟨_, rfl, rfl⟩
      | 5, hT => cases hT; exact ⟨_, rfl, rfl⟩
      | 6, hT => cases hT; exact ⟨_, rfl, rfl⟩
      | 7, hT => cases hT; exact ⟨_, rfl, rfl⟩
      | 8, hT => cases hT; exact ⟨_, rfl, rfl⟩
      | 9, hT => cases hT; exact ⟨_, rfl, rfl⟩
      | 10, hT => cases hT; exact ⟨_, rfl, rfl⟩
      | 11, hT => cases hT; exact ⟨_, rfl, rfl⟩
      | 12, hT => cases hT; exact ⟨_, rfl, rfl⟩
      | 13, hT => cases hT; exact ⟨_, rfl, rfl⟩
      | 14, hT => cases hT; exact ⟨_, rfl, rfl⟩
      | 15, hT => cases hT; exact ⟨_, rfl, rfl⟩
      | 16, hT => cases hT; exact ⟨_, rfl, rfl⟩
      | n + 17, hT => cases hT
    · match i, hT with
      | 0, hT => cases hT; rfl
      | 1, hT => cases hT; rfl
      | 2, hT => cases hT; rfl
      | 3, hT => cases hT; rfl
      | 4, hT => cases hT; rfl
      | 5, hT => cases hT; rfl
      | 6, hT => cases hT; rfl
      | 7, hT => cases hT; rfl
      | 8, hT => cases hT; rfl
      | 9, hT => cases hT; rfl
      | 10, hT => cases hT; rfl
      | 11, hT => cases hT; rfl
      | 12, hT => cases hT; rfl
      | 13, hT => cases hT; rfl
      | 14, hT => cases hT; rfl
      | 15, hT => cases hT; rfl
      | 16, hT => cases hT; rfl
      | n + 17, hT => cases hT
    · match i, hT with
      | 0, hT => cases hT; cases hi
      | 1, hT => cases hT; cases hi
      | 2, hT => cases hT; cases hi
      | 3, hT => cases hT; cases hi
      | 4, hT => cases hT; cases hi
      | 5, hT => cases hT; cases hi
      | 6, hT => cases hT; cases hi
      | 7, hT => cases hT; cases hi
      | 8, hT => cases hT; cases hi
      | 9, hT => cases hT; cases hi
      | 10, hT => cases hT; cases hi
      | 11, hT => cases hT; cases hi
      | 12, hT => cases hT; cases hi
      | 13, hT => cases hT; cases hi
      | 14, hT => cases hT; cases hi
      | 15, hT => cases hT; cases hi
      | 16, hT => cases hT; cases hi
      | n + 17, hT => cases hT
    · match cc, h with
      | n + 0, h => cases h
    · match cc, h with
      | n + 0, h => cases h
    · match cc, h with
      | n + 0, h => cases h
    · match cc, h with
      | n + 0, h => cases h
    · match cc, h with
      | n + 0, h => cases h
    · match cc, hx with
      | n + 0, hx => cases hx
    · match i, hv, hd with
      | n + 0, hv, hd => cases hv
    · match j, hv, hd with
      | n + 0, hv, hd => cases hv
  have F := lvls (N := Wh) ok F0 F1 F2 F3 F4 F5 F6 F7 F8 F9 F10 F11 F12 F13 F14 F15 F16 6 16 ["_law_script"] rfl
  rw [show (["_law_script"] : List Str).length = 1 from rfl, spF_D (fe := fe16) rfl rfl] at F
  exact Y.FnOk.cxw F
end G
namespace H
open PySem L2 Y
open Y.Enc (enc)
abbrev T := G.T
abbrev W := G.Wh
def p_is_filing (key : Tup Int) (other : Tup Int) : Sp Bool :=
  Sp.pure (((key.l.zip other.l).map fun (p : (Int × Int)) => (decide (p.2 ≥ p.1))).all id)
theorem p_is_filing_J {k : Nat} {dw : Bool} {bs : List (Nat × D)} (key : Tup Int) (other : Tup Int) : Jr dw bs (callF T W (k + 1) 0 [enc key, enc other]) (p_is_filing key other) :=
  F_T (fe := G.fe0) rfl rfl rfl rfl fun d H =>
  (S_rtT (fun _ h => h) (J_bi (aV (J_lc0V H (I_zip (bV (J_var (x := (key : Tup Int)) H rfl) (bV (J_var (x := (other : Tup Int)) H rfl) zipTT))) (tg_2 rfl rfl) (fun p d H => (J_o2 (bV (J_var (x := (p.2 : Int)) H rfl) (bV (J_var (x := (p.1 : Int)) H rfl) (o_geI _ _)))))) (aN (b_all _)))))
def p_strokes (key : Tup Int) (other : Tup Int) : Sp Int :=
  Sp.bind (Sp.bind (Sp.bind (p_is_filing key other) fun x => Sp.pure x) fun x => Sp.pure (!x)) fun c => if c = true then
    Sp.fail
  else
    Sp.pure ((((key.l.zip other.l).filter fun (p : (Int × Int)) => (decide (p.2 > p.1))).map fun (p : (Int × Int)) => p.2).length : Int)
theorem p_strokes_J {k : Nat} {dw : Bool} {bs : List (Nat × D)} (key : Tup Int) (other : Tup Int) : Jr dw bs (callF T W (k + 2) 1 [enc key, enc other]) (p_strokes key other) :=
  F_T (fe := G.fe1) rfl rfl rfl rfl fun d H =>
  (S_if (fun _ h => h) (T_notM (T_ttM (f := fun x => x) (J_call (aV (J_var (x := (key : Tup Int)) H rfl) (aV (J_var (x := (other : Tup Int)) H rfl) (aN (doCall (p_is_filing_J _ _)))))) fun _ => tr_B _)) rfl rfl
 S_never
 (S_rtT (fun _ h => h) (J_bi (aV (J_lc1V H (I_zip (bV (J_var (x := (key : Tup Int)) H rfl) (bV (J_var (x := (other : Tup Int)) H rfl) zipTT))) (tg_2 rfl rfl) (fun p d H => (T_tb (J_o2 (bV (J_var (x := (p.2 : Int)) H rfl) (bV (J_var (x := (p.1 : Int)) H rfl) (o_gtI _ _)))))) (fun p d H => (J_var (x := (p.2 : Int)) H rfl))) (aN (b_lenL _))))))
def p_filed_to_open (key : Tup Int) (lock : Tup (Tup Int)) : Sp (Option (Tup Int)) :=
  Sp.bind (Sp.pure ([] : List Int)) fun (found : List Int) =>
  Sp.flow (Sp.bind (Sp.pure (key.l.zip lock.l)) fun xs => Sp.loop (
    fun (p : (Int × Tup Int)) (s : (List Int)) =>
      Sp.bind (Sp.pure ((p.2.l.filter fun (depth : Int) => (decide (depth ≥ p.1))).map fun (depth : Int) => depth)) fun (usable : List Int) =>
      if (decide (usable = ([] : List Int))) = true then
        Sp.bind (Sp.pure (none : Option (Tup Int))) fun r => Sp.pure (Fl.rt r)
      else
        Sp.bind (Sp.lift (atI usable (0 : Int))) fun x =>
        Sp.bind (Sp.app s x) fun (found2 : List Int) =>
        Sp.pure (Fl.nx found2)) xs found) (fun (s2 : (List Int)) =>
  Sp.pure (some (⟨s2⟩ : Tup Int))) (fun r => r)
theorem p_filed_to_open_J {k : Nat} {dw : Bool} {bs : List (Nat × D)} (key : Tup Int) (lock : Tup (Tup Int)) : Jr dw bs (callF T W (k + 1) 2 [enc key, enc lock]) (p_filed_to_open key lock) :=
  F_T (fe := G.fe2) rfl rfl rfl rfl fun d H =>
  (S_seto H (fun _ h => h) (J_lst (aN (mkL (m := 0) (x := ([] : List Int)) rfl (by decide) rfl))) rfl fresh_L fun found d H =>
 (S_seqF (σ := (List Int)) (ρ := Option (Tup Int)) (be := bs) (sl := fun (s : (List Int)) => [(0, .val (enc (key : Tup Int))), (1, .val (enc (lock : Tup (Tup Int)))), (2, .own (enc (s : List Int)))]) (bx := fun _ => bs) (w := fun r => r) kT
 (S_forF (σ := (List Int)) (ρ := Option (Tup Int)) (be := bs) (sl := fun (s : (List Int)) => [(0, .val (enc (key : Tup Int))), (1, .val (enc (lock : Tup (Tup Int)))), (2, .own (enc (s : List Int)))]) (bx := fun _ => bs) (s := found) (fun _ h => h) (H.sel [0, 1, 2]) (I_zip (bV (J_var (x := (key : Tup Int)) H rfl) (bV (J_var (x := (lock : Tup (Tup Int))) H rfl) zipTT))) (fun s => (tg_2 rfl rfl)) fun p s d H =>
 (S_set H (fun _ h => h) (J_lc1V H (I_t (J_var (x := (p.2 : Tup Int)) H rfl)) (tg_n rfl) (fun depth d H => (T_tb (J_o2 (bV (J_var (x := (depth : Int)) H rfl) (bV (J_var (x := (p.1 : Int)) H rfl) (o_geI _ _)))))) (fun depth d H => (J_var (x := (depth : Int)) H rfl))) (tg_n rfl) fun usable d H =>
 (S_ifV (T_tb (J_o2 (bV (J_var (x := (usable : List Int)) H rfl) (bV (J_lst (aN (mkL (m := 0) (x := ([] : List Int)) rfl (by decide) rfl))) (o_eq rfl _ _))))) rfl rfl
 (S_rtF (fun _ h => h) J_knO)
 (S_app (xs := (s : List Int)) H (fun _ h => h) rfl rfl (J_idx (bV (J_var (x := (usable : List Int)) H rfl) (bV (J_ki 0) (i_L _ _)))) fun found2 d H =>
 (S_endF found2 (H.sel [0, 1, 2]) (fun _ h => h))))))
 fun s2 d H =>
 (S_rtT (fun _ h => h) (Jv.some_ (J_bi (aV (J_own (x := (s2 : List Int)) H rfl (fresh_L _)) (aN (b_tupleL _))))))))
def p_best_opening (keys : Tup (Tup Int)) (lock : Tup (Tup Int)) : Sp (Option (Int × Tup Int)) :=
  Sp.bind (Sp.pure ((none : Option (Int × Tup Int)), (0 : Int))) fun (p : (Option (Int × Tup Int) × Int)) =>
  Sp.bind (Sp.bind (Sp.bind (Sp.pure keys) fun x => Sp.pure (enumL x.l)) fun xs => Sp.fold (
    fun (p2 : (Int × Tup Int)) (s : (Option (Int × Tup Int)) × Int) =>
      Sp.bind (p_filed_to_open p2.2 lock) fun (filed : Option (Tup Int)) =>
      Sp.opt filed (Sp.pure (s.1, s.2)) (fun (filed2 : Tup Int) => Sp.opt s.1 (Sp.bind (Sp.pure (p2.1, filed2)) fun (best2 : (Int × Tup Int)) =>
      Sp.bind (p_strokes p2.2 filed2) fun (least : Int) =>
      Sp.pure ((some best2), least)) (fun (best : (Int × Tup Int)) => Sp.bind (Sp.bind (p_strokes p2.2 filed2) fun (x : Int) => Sp.pure (decide (x < s.2))) fun c => if c = true then
        Sp.bind (Sp.pure (p2.1, filed2)) fun (best3 : (Int × Tup Int)) =>
        Sp.bind (p_strokes p2.2 filed2) fun (least2 : Int) =>
        Sp.pure ((some best3), least2)
      else
        Sp.pure ((some best), s.2)))) xs (p.1, p.2)) fun (s2 : (Option (Int × Tup Int)) × Int) =>
  Sp.pure s2.1
theorem p_best_opening_J {k : Nat} {dw : Bool} {bs : List (Nat × D)} (keys : Tup (Tup Int)) (lock : Tup (Tup Int)) : Jr dw bs (callF T W (k + 3) 3 [enc keys, enc lock]) (p_best_opening keys lock) :=
  F_T (fe := G.fe3) rfl rfl rfl rfl fun d H =>
  (S_set H (fun _ h => h) (J_tup' (aV J_knO (aV (J_ki 0) (aN (mkT (m := 2) (x := (((none : Option (Int × Tup Int)), (0 : Int)) : (Option (Int × Tup Int) × Int))) rfl (by decide) rfl))))) (tg_2 rfl rfl) fun p d H =>
 (S_seq (σ := (Option (Int × Tup Int)) × Int) (sl := fun (s : (Option (Int × Tup Int)) × Int) => [(0, .val (enc (keys : Tup (Tup Int)))), (1, .val (enc (lock : Tup (Tup Int)))), (2, .val (enc (s.1 : Option (Int × Tup Int)))), (3, .val (enc (s.2 : Int)))]) (bx := fun _ => bs)
 (S_for (σ := (Option (Int × Tup Int)) × Int) (sl := fun (s : (Option (Int × Tup Int)) × Int) => [(0, .val (enc (keys : Tup (Tup Int)))), (1, .val (enc (lock : Tup (Tup Int)))), (2, .val (enc (s.1 : Option (Int × Tup Int)))), (3, .val (enc (s.2 : Int)))]) (bx := fun _ => bs) (s := (p.1, p.2)) (fun _ h => h) (H.sel [0, 1, 2, 3]) (I_enumT (J_var (x := (keys : Tup (Tup Int))) H rfl)) (fun s => (tg_2 rfl rfl)) fun p2 s d H =>
 (S_set H (fun _ h => h) (J_call (aV (J_var (x := (p2.2 : Tup Int)) H rfl) (aV (J_var (x := (lock : Tup (Tup Int))) H rfl) (aN (doCall (p_filed_to_open_J _ _)))))) (tg_n rfl) fun filed d H =>
 (S_and (by cases filed with | none => exact (S_ifF (T_tb (J_o2 (bV (J_var (x := ((none : Option (Tup Int)) : Option (Tup Int))) H rfl) (bV J_kn (o_notN _))))) rfl (S_endN (s.1, s.2) (H.sel [0, 1, 2, 3]) (fun _ h => h))) | some filed2 => exact (S_ifT (T_tb (J_o2 (bV (J_var (x := (filed2 : Tup Int)) H rfl) (bV J_kn (o_notNT _))))) rfl (S_or (by cases hx : s.1 with | none => rw [hx] at H; exact (S_ifT (T_tb (J_o2 (bV (J_var (x := ((none : Option (Int × Tup Int)) : Option (Int × Tup Int))) H rfl) (bV J_kn (o_isN _))))) rfl (S_par2 H (fun _ h => h) (J_tup' (aV (J_var (x := (p2.1 : Int)) H rfl) (aV (J_var (x := (filed2 : Tup Int)) H rfl) (aN (mkT (m := 2) (x := ((p2.1, filed2) : (Int × Tup Int))) rfl (by decide) rfl))))) (J_call (aV (J_var (x := (p2.2 : Tup Int)) H rfl) (aV (J_var (x := (filed2 : Tup Int)) H rfl) (aN (doCall (p_strokes_J _ _)))))) rfl rfl (fun _ => rfl) (fun _ => rfl) fun best2 least d H =>  (S_endN ((some best2), least) (H.sel [0, 1, 2, 3]) (fun _ h => h)))) | some best => rw [hx] at H; exact (S_ifF (T_tb (J_o2 (bV (J_var (x := (best : (Int × Tup Int))) H rfl) (bV J_kn (o_isNF _))))) rfl (S_if (fun _ h => h) (T_tbM (J_o2 (bM (J_call (aV (J_var (x := (p2.2 : Tup Int)) H rfl) (aV (J_var (x := (filed2 : Tup Int)) H rfl) (aN (doCall (p_strokes_J _ _)))))) fun x => (bV (J_var (x := (s.2 : Int)) H rfl) (o_ltI _ _))))) rfl rfl  (S_par2 H (fun _ h => h) (J_tup' (aV (J_var (x := (p2.1 : Int)) H rfl) (aV (J_var (x := (filed2 : Tup Int)) H rfl) (aN (mkT (m := 2) (x := ((p2.1, filed2) : (Int × Tup Int))) rfl (by decide) rfl))))) (J_call (aV (J_var (x := (p2.2 : Tup Int)) H rfl) (aV (J_var (x := (filed2 : Tup Int)) H rfl) (aN (doCall (p_strokes_J _ _)))))) rfl rfl (fun _ => rfl) (fun _ => rfl) fun best3 least2 d H =>  (S_endN ((some best3), least2) (H.sel [0, 1, 2, 3]) (fun _ h => h)))  (S_endN ((some best), s.2) (H.sel [0, 1, 2, 3]) (fun _ h => h)))))))))))
 fun s2 d H =>
 (S_rtT (fun _ h => h) (J_var (x := (s2.1 : Option (Int × Tup Int))) H rfl))))
def p_best_openings (keys : Tup (Tup Int)) (locks : Dct Sx (Tup (Tup Int))) : Sp (Dct Sx (Option (Int × Tup Int))) :=
  Sp.bind (Sp.bind (sortKeys locks) fun xs => Sp.compD (fun (name : Sx) => Sp.bind (Sp.hush (Sp.pure true)) fun b => if b = true then Sp.bind (Sp.hush (Sp.pure name)) fun y => Sp.bind (Sp.hush (Sp.bind (Sp.lift (Dct.get locks name)) fun (x : Tup (Tup Int)) => p_best_opening keys x)) fun z => Sp.pure (some (y, z)) else Sp.pure none) xs (⟨[]⟩ : Dct Sx (Option (Int × Tup Int)))) fun (found : Dct Sx (Option (Int × Tup Int))) =>
  Sp.bind (Sp.bind (Sp.pure found) fun x => Sp.pure x.l) fun xs => Sp.puts ((xs.filter fun (p : (Sx × Option (Int × Tup Int))) => p.2.isSome).map fun (p : (Sx × Option (Int × Tup Int))) => (p.1, p.2)) (⟨[]⟩ : Dct Sx (Option (Int × Tup Int)))
theorem p_best_openings_J {k : Nat} {dw : Bool} {bs : List (Nat × D)} (keys : Tup (Tup Int)) (locks : Dct Sx (Tup (Tup Int))) : Jr dw bs (callF T W (k + 4) 4 [enc keys, enc locks]) (p_best_openings keys locks) :=
  F_T (fe := G.fe4) rfl rfl rfl rfl fun d H =>
  (S_set H (fun _ h => h) (J_dc rfl H (I_lM (J_bi (aV (J_var (x := (locks : Dct Sx (Tup (Tup Int)))) H rfl) (aN (b_sortedD rfl _))))) (tg_n rfl) (fun name d H => T_kb) (fun name d H => (J_var (x := (name : Sx)) H rfl)) (fun name d H => (J_call (aV (J_var (x := (keys : Tup (Tup Int))) H rfl) (aM (J_idx (bV (J_var (x := (locks : Dct Sx (Tup (Tup Int)))) H rfl) (bV (J_var (x := (name : Sx)) H rfl) (i_D _ _)))) fun x => (aN (doCall (p_best_opening_J _ _)))))))) (tg_n rfl) fun found d H =>
 (S_rtT (fun _ h => h) (J_dc1 rfl H (I_items rfl (J_var (x := (found : Dct Sx (Option (Int × Tup Int)))) H rfl)) (tg_2 rfl rfl) (fun p d H => (T_tb (J_o2 (bV (J_var (x := (p.2 : Option (Int × Tup Int))) H rfl) (bV J_kn (o_notN _)))))) (fun p d H => (J_var (x := (p.1 : Sx)) H rfl)) (fun p d H => (J_var (x := (p.2 : Option (Int × Tup Int))) H rfl)))))
def l_every (size : Int) (far : Int) : Sp (List (Tup Int)) :=
  Sp.bind (Sp.pure ([(⟨[]⟩ : Tup Int)] : List (Tup Int))) fun (found : List (Tup Int)) =>
  Sp.bind (Sp.bind (Sp.bind (Sp.pure size) fun n => Sp.need (n ≤ 16777216 ∧ -(2 ^ 62) ≤ n) (Sp.pure (irange n))) fun xs => Sp.fold (
    fun (turn : Int) (s : (List (Tup Int))) =>
      Sp.bind (Sp.pure ([] : List (Tup Int))) fun (later : List (Tup Int)) =>
      Sp.bind (Sp.bind (Sp.pure s) fun xs => Sp.fold (
        fun (vsome : Tup Int) (s2 : (List (Tup Int))) =>
          Sp.bind (Sp.bind (Sp.bind (Sp.bind (Sp.pure far) fun n => Sp.need (n ≤ 16777216 ∧ -(2 ^ 62) ≤ n) (Sp.pure (irange n))) fun xs => Sp.comp (fun (cut : Int) => Sp.bind (Sp.hush (Sp.catT vsome (⟨[cut]⟩ : Tup Int))) fun v => Sp.pure (some v)) xs) fun (x : List (Tup Int)) => Sp.ext s2 x) fun (later2 : List (Tup Int)) =>
          Sp.pure later2) xs later) fun (s3 : (List (Tup Int))) =>
      Sp.bind (Sp.pure s3) fun (found2 : List (Tup Int)) =>
      Sp.pure found2) xs found) fun (s4 : (List (Tup Int))) =>
  Sp.pure s4
theorem l_every_J {k : Nat} {dw : Bool} {bs : List (Nat × D)} (size : Int) (far : Int) : Jr dw bs (callF T W (k + 1) 10 [enc size, enc far]) (l_every size far) :=
  F_T (fe := G.fe10) rfl rfl rfl rfl fun d H =>
  (S_set H (fun _ h => h) (J_lst (aV (J_tup' (aN (mkT (m := 0) (x := ((⟨[]⟩ : Tup Int) : Tup Int)) rfl (by decide) rfl))) (aN (mkL (m := 1) (x := ([(⟨[]⟩ : Tup Int)] : List (Tup Int))) rfl (by decide) rfl)))) (tg_n rfl) fun found d H =>
 (S_seq (σ := (List (Tup Int))) (sl := fun (s : (List (Tup Int))) => [(0, .val (enc (size : Int))), (1, .val (enc (far : Int))), (2, .val (enc (s : List (Tup Int))))]) (bx := fun _ => bs)
 (S_for (σ := (List (Tup Int))) (sl := fun (s : (List (Tup Int))) => [(0, .val (enc (size : Int))), (1, .val (enc (far : Int))), (2, .val (enc (s : List (Tup Int))))]) (bx := fun _ => bs) (s := found) (fun _ h => h) (H.sel [0, 1, 2]) (I_r1 (J_var (x := (size : Int)) H rfl)) (fun s => (tg_n rfl)) fun turn s d H =>
 (S_set H (fun _ h => h) (J_lst (aN (mkL (m := 0) (x := ([] : List (Tup Int))) rfl (by decide) rfl))) (tg_n rfl) fun later d H =>
 (S_seq (σ := (List (Tup Int))) (sl := fun (s2 : (List (Tup Int))) => [(0, .val (enc (size : Int))), (1, .val (enc (far : Int))), (2, .val (enc (s : List (Tup Int)))), (3, .val (enc (turn : Int))), (4, .val (enc (s2 : List (Tup Int))))]) (bx := fun _ => bs)
 (S_for (σ := (List (Tup Int))) (sl := fun (s2 : (List (Tup Int))) => [(0, .val (enc (size : Int))), (1, .val (enc (far : Int))), (2, .val (enc (s : List (Tup Int)))), (3, .val (enc (turn : Int))), (4, .val (enc (s2 : List (Tup Int))))]) (bx := fun _ => bs) (s := later) (fun _ h => h) (H.sel [0, 1, 2, 3, 4]) (I_l (J_var (x := (s : List (Tup Int))) H rfl)) (fun s2 => (tg_n rfl)) fun vsome s2 d H =>
 (S_set H (fun _ h => h) (J_o2 (bV (J_var (x := (s2 : List (Tup Int))) H rfl) (bM (J_lcM H (I_r1 (J_var (x := (far : Int)) H rfl)) (tg_n rfl) (fun cut d H => (J_o2 (bV (J_var (x := (vsome : Tup Int)) H rfl) (bV (J_tup' (aV (J_var (x := (cut : Int)) H rfl) (aN (mkT (m := 1) (x := ((⟨[cut]⟩ : Tup Int) : Tup Int)) rfl (by decide) rfl)))) (o_addT _ _)))))) fun x => (o_addL _ _)))) (tg_n rfl) fun later2 d H =>
 (S_endN later2 (H.sel [0, 1, 2, 3, 4]) (fun _ h => h))))
 fun s3 d H =>
 (S_set H (fun _ h => h) (J_var (x := (s3 : List (Tup Int))) H rfl) (tg_n rfl) fun found2 d H =>
 (S_endN found2 (H.sel [0, 1, 2]) (fun _ h => h))))))
 fun s4 d H =>
 (S_rtT (fun _ h => h) (J_var (x := (s4 : List (Tup Int))) H rfl))))
def l_cuts (size : Int) (far : Int) : Sp (Tup Int) :=
  Sp.bind (Sp.bind (Sp.bind (Sp.pure size) fun n => Sp.need (n ≤ 16777216 ∧ -(2 ^ 62) ≤ n) (Sp.pure (irange n))) fun xs => Sp.comp (fun (turn : Int) => Sp.bind (Sp.hush (Sp.take far)) fun v => Sp.pure (some v)) xs) fun (x : List Int) => Sp.pure (⟨x⟩ : Tup Int)
theorem l_cuts_J {k : Nat} {bs : List (Nat × D)} (size : Int) (far : Int) : Jr true bs (callF T W (k + 3) 11 [.box 1, enc size, enc far]) (l_cuts size far) :=
  F_T (fe := G.fe11) rfl rfl rfl rfl fun d H =>
  (S_rtT (fun _ h => h) (J_bi (aM (J_lcM H (I_r1 (J_var (x := (size : Int)) H rfl)) (tg_n rfl) (fun turn d H => (J_call (aR (.box 1) H rfl (aV (J_var (x := (far : Int)) H rfl) (aN (doCall (take_J rfl rfl _)))))))) fun x => (aN (b_tupleL _)))))
def l_gaps (size : Int) (far : Int) : Sp (Tup (Tup Int)) :=
  Sp.bind (Sp.pure ([] : List (Tup Int))) fun (found : List (Tup Int)) =>
  Sp.bind (Sp.bind (Sp.bind (Sp.pure size) fun n => Sp.need (n ≤ 16777216 ∧ -(2 ^ 62) ≤ n) (Sp.pure (irange n))) fun xs => Sp.fold (
    fun (turn : Int) (s : (List (Tup Int))) =>
      Sp.bind (Sp.bind (Sp.bind (Sp.pure far) fun n => Sp.need (n ≤ 16777216 ∧ -(2 ^ 62) ≤ n) (Sp.pure (irange n))) fun xs => Sp.comp (fun (depth : Int) => Sp.bind (Sp.hush (Sp.bind (Sp.take (3 : Int)) fun (x : Int) => Sp.pure (decide (x = (0 : Int))))) fun k => if k = true then Sp.bind (Sp.hush (Sp.pure depth)) fun v => Sp.pure (some v) else Sp.pure none) xs) fun (vsome : List Int) =>
      Sp.bind (if (!decide (vsome = ([] : List Int))) = true then Sp.pure (⟨vsome⟩ : Tup Int) else Sp.bind (Sp.take far) fun (x2 : Int) => Sp.pure (⟨[x2]⟩ : Tup Int)) fun x =>
      Sp.bind (Sp.app s x) fun (found2 : List (Tup Int)) =>
      Sp.pure found2) xs found) fun (s2 : (List (Tup Int))) =>
  Sp.pure (⟨s2⟩ : Tup (Tup Int))
theorem l_gaps_J {k : Nat} {bs : List (Nat × D)} (size : Int) (far : Int) : Jr true bs (callF T W (k + 3) 12 [.box 1, enc size, enc far]) (l_gaps size far) :=
  F_T (fe := G.fe12) rfl rfl rfl rfl fun d H =>
  (S_seto H (fun _ h => h) (J_lst (aN (mkL (m := 0) (x := ([] : List (Tup Int))) rfl (by decide) rfl))) rfl fresh_L fun found d H =>
 (S_seq (σ := (List (Tup Int))) (sl := fun (s : (List (Tup Int))) => [(0, .val (.box 1)), (1, .val (enc (size : Int))), (2, .val (enc (far : Int))), (3, .own (enc (s : List (Tup Int))))]) (bx := fun _ => bs)
 (S_for (σ := (List (Tup Int))) (sl := fun (s : (List (Tup Int))) => [(0, .val (.box 1)), (1, .val (enc (size : Int))), (2, .val (enc (far : Int))), (3, .own (enc (s : List (Tup Int))))]) (bx := fun _ => bs) (s := found) (fun _ h => h) (H.sel [0, 1, 2, 3]) (I_r1 (J_var (x := (size : Int)) H rfl)) (fun s => (tg_n rfl)) fun turn s d H =>
 (S_set H (fun _ h => h) (J_lc H (I_r1 (J_var (x := (far : Int)) H rfl)) (tg_n rfl) (fun depth d H => (T_tbM (J_o2 (bM (J_call (aR (.box 1) H rfl (aV (J_ki 3) (aN (doCall (take_J rfl rfl _)))))) fun x => (bV (J_ki 0) (o_eq rfl _ _)))))) (fun depth d H => (J_var (x := (depth : Int)) H rfl))) (tg_n rfl) fun vsome d H =>
 (S_app (xs := (s : List (Tup Int))) H (fun _ h => h) rfl rfl (J_ife (bbV (T_tb (J_o2 (bV (J_var (x := (vsome : List Int)) H rfl) (bV (J_lst (aN (mkL (m := 0) (x := ([] : List Int)) rfl (by decide) rfl))) (o_ne rfl _ _))))) (J.ite (J_bi (aV (J_var (x := (vsome : List Int)) H rfl) (aN (b_tupleL _)))) (J_tup' (aM (J_call (aR (.box 1) H rfl (aV (J_var (x := (far : Int)) H rfl) (aN (doCall (take_J rfl rfl _)))))) fun x2 => (aN (mkT (m := 1) (x := ((⟨[x2]⟩ : Tup Int) : Tup Int)) rfl (by decide) rfl))))))) fun found2 d H =>
 (S_endN found2 (H.sel [0, 1, 2, 3]) (fun _ h => h)))))
 fun s2 d H =>
 (S_rtT (fun _ h => h) (J_bi (aV (J_own (x := (s2 : List (Tup Int))) H rfl (fresh_L _)) (aN (b_tupleL _)))))))
def l_shape (most : Int) : Sp (Int × Int) :=
  Sp.bind (Sp.pure ([((1 : Int), (2 : Int)), ((1 : Int), (10 : Int)), ((2 : Int), (3 : Int)), ((3 : Int), (2 : Int)), ((2 : Int), (5 : Int)), ((3 : Int), (4 : Int)), ((4 : Int), (3 : Int)), ((6 : Int), (2 : Int)), ((2 : Int), (10 : Int)), ((5 : Int), (2 : Int)), ((4 : Int), (5 : Int)), ((3 : Int), (7 : Int))] : List (Int × Int))) fun (vsome : List (Int × Int)) =>
  Sp.bind (Sp.pure ([] : List (Int × Int))) fun (found : List (Int × Int)) =>
  Sp.bind (Sp.bind (Sp.pure vsome) fun xs => Sp.fold (
    fun (p : (Int × Int)) (s : (List (Int × Int))) =>
      Sp.bind (Sp.pure (1 : Int)) fun (many : Int) =>
      Sp.bind (Sp.bind (Sp.bind (Sp.pure p.1) fun n => Sp.need (n ≤ 16777216 ∧ -(2 ^ 62) ≤ n) (Sp.pure (irange n))) fun xs => Sp.fold (
        fun (turn : Int) (s2 : Int) =>
          Sp.bind (Sp.mulI s2 p.2) fun (many2 : Int) =>
          Sp.pure many2) xs many) fun (s3 : Int) =>
      if (decide (s3 ≤ most)) = true then
        Sp.bind (Sp.app s (p.1, p.2)) fun (found2 : List (Int × Int)) =>
        Sp.pure found2
      else
        Sp.pure s) xs found) fun (s4 : (List (Int × Int))) =>
  Sp.pick s4
theorem l_shape_J {k : Nat} {bs : List (Nat × D)} (most : Int) : Jr true bs (callF T W (k + 4) 14 [.box 1, enc most]) (l_shape most) :=
  F_T (fe := G.fe14) rfl rfl rfl rfl fun d H =>
  (S_set H (fun _ h => h) (J_lst (aV (J_tup' (aV (J_ki 1) (aV (J_ki 2) (aN (mkT (m := 2) (x := (((1 : Int), (2 : Int)) : (Int × Int))) rfl (by decide) rfl))))) (aV (J_tup' (aV (J_ki 1) (aV (J_ki 10) (aN (mkT (m := 2) (x := (((1 : Int), (10 : Int)) : (Int × Int))) rfl (by decide) rfl))))) (aV (J_tup' (aV (J_ki 2) (aV (J_ki 3) (aN (mkT (m := 2) (x := (((2 : Int), (3 : Int)) : (Int × Int))) rfl (by decide) rfl))))) (aV (J_tup' (aV (J_ki 3) (aV (J_ki 2) (aN (mkT (m := 2) (x := (((3 : Int), (2 : Int)) : (Int × Int))) rfl (by decide) rfl))))) (aV (J_tup' (aV (J_ki 2) (aV (J_ki 5) (aN (mkT (m := 2) (x := (((2 : Int), (5 : Int)) : (Int × Int))) rfl (by decide) rfl))))) (aV (J_tup' (aV (J_ki 3) (aV (J_ki 4) (aN (mkT (m := 2) (x := (((3 : Int), (4 : Int)) : (Int × Int))) rfl (by decide) rfl))))) (aV (J_tup' (aV (J_ki 4) (aV (J_ki 3) (aN (mkT (m := 2) (x := (((4 : Int), (3 : Int)) : (Int × Int))) rfl (by decide) rfl))))) (aV (J_tup' (aV (J_ki 6) (aV (J_ki 2) (aN (mkT (m := 2) (x := (((6 : Int), (2 : Int)) : (Int × Int))) rfl (by decide) rfl))))) (aV (J_tup' (aV (J_ki 2) (aV (J_ki 10) (aN (mkT (m := 2) (x := (((2 : Int), (10 : Int)) : (Int × Int))) rfl (by decide) rfl))))) (aV (J_tup' (aV (J_ki 5) (aV (J_ki 2) (aN (mkT (m := 2) (x := (((5 : Int), (2 : Int)) : (Int × Int))) rfl (by decide) rfl))))) (aV (J_tup' (aV (J_ki 4) (aV (J_ki 5) (aN (mkT (m := 2) (x := (((4 : Int), (5 : Int)) : (Int × Int))) rfl (by decide) rfl))))) (aV (J_tup' (aV (J_ki 3) (aV (J_ki 7) (aN (mkT (m := 2) (x := (((3 : Int), (7 : Int)) : (Int × Int))) rfl (by decide) rfl))))) (aN (mkL (m := 12) (x := ([((1 : Int), (2 : Int)), ((1 : Int), (10 : Int)), ((2 : Int), (3 : Int)), ((3 : Int), (2 : Int)), ((2 : Int), (5 : Int)), ((3 : Int), (4 : Int)), ((4 : Int), (3 : Int)), ((6 : Int), (2 : Int)), ((2 : Int), (10 : Int)), ((5 : Int), (2 : Int)), ((4 : Int), (5 : Int)), ((3 : Int), (7 : Int))] : List (Int × Int))) rfl (by decide) rfl))))))))))))))) (tg_n rfl) fun vsome d H =>
 (S_seto H (fun _ h => h) (J_lst (aN (mkL (m := 0) (x := ([] : List (Int × Int))) rfl (by decide) rfl))) rfl fresh_L fun found d H =>
 (S_seq (σ := (List (Int × Int))) (sl := fun (s : (List (Int × Int))) => [(0, .val (.box 1)), (1, .val (enc (most : Int))), (2, .val (enc (vsome : List (Int × Int)))), (3, .own (enc (s : List (Int × Int))))]) (bx := fun _ => bs)
 (S_for (σ := (List (Int × Int))) (sl := fun (s : (List (Int × Int))) => [(0, .val (.box 1)), (1, .val (enc (most : Int))), (2, .val (enc (vsome : List (Int × Int)))), (3, .own (enc (s : List (Int × Int))))]) (bx := fun _ => bs) (s := found) (fun _ h => h) (H.sel [0, 1, 2, 3]) (I_l (J_var (x := (vsome : List (Int × Int))) H rfl)) (fun s => (tg_2 rfl rfl)) fun p s d H =>
 (S_set H (fun _ h => h) (J_ki 1) (tg_n rfl) fun many d H =>
 (S_seq (σ := Int) (sl := fun (s2 : Int) => [(0, .val (.box 1)), (1, .val (enc (most : Int))), (2, .val (enc (vsome : List (Int × Int)))), (3, .own (enc (s : List (Int × Int)))), (4, .val (enc (p.1 : Int))), (5, .val (enc (p.2 : Int))), (6, .val (enc (s2 : Int)))]) (bx := fun _ => bs)
 (S_for (σ := Int) (sl := fun (s2 : Int) => [(0, .val (.box 1)), (1, .val (enc (most : Int))), (2, .val (enc (vsome : List (Int × Int)))), (3, .own (enc (s : List (Int × Int)))), (4, .val (enc (p.1 : Int))), (5, .val (enc (p.2 : Int))), (6, .val (enc (s2 : Int)))]) (bx := fun _ => bs) (s := many) (fun _ h => h) (H.sel [0, 1, 2, 3, 4, 5, 6]) (I_r1 (J_var (x := (p.1 : Int)) H rfl)) (fun s2 => (tg_n rfl)) fun turn s2 d H =>
 (S_set H (fun _ h => h) (J_o2 (bV (J_var (x := (s2 : Int)) H rfl) (bV (J_var (x := (p.2 : Int)) H rfl) (o_mulI _ _)))) (tg_n rfl) fun many2 d H =>
 (S_endN many2 (H.sel [0, 1, 2, 3, 4, 5, 6]) (fun _ h => h))))
 fun s3 d H =>
 (S_ifV (T_tb (J_o2 (bV (J_var (x := (s3 : Int)) H rfl) (bV (J_var (x := (most : Int)) H rfl) (o_leI _ _))))) rfl rfl
 (S_app (xs := (s : List (Int × Int))) H (fun _ h => h) rfl rfl (J_tup' (aV (J_var (x := (p.1 : Int)) H rfl) (aV (J_var (x := (p.2 : Int)) H rfl) (aN (mkT (m := 2) (x := ((p.1, p.2) : (Int × Int))) rfl (by decide) rfl))))) fun found2 d H =>
 (S_endN found2 (H.sel [0, 1, 2, 3]) (fun _ h => h)))
 (S_endN s (H.sel [0, 1, 2, 3]) (fun _ h => h))))))
 fun s4 d H =>
 (S_free (x := (s4 : List (Int × Int))) H rfl (fresh_L _) rfl fun d H =>
 (S_rtT (fun _ h => h) (J_call (aR (.box 1) H rfl (aV (J_var (x := (s4 : List (Int × Int))) H rfl) (aN (doCall (pick_J rfl rfl rfl _)))))))))))
def l_below (one : Tup Int) (other : Tup Int) : Sp Bool :=
  Sp.pure (decide ((((one.l.zip other.l).filter fun (p : (Int × Int)) => (decide (p.2 < p.1))).map fun (p : (Int × Int)) => (1 : Int)) = ([] : List Int)))
theorem l_below_J {k : Nat} {dw : Bool} {bs : List (Nat × D)} (one : Tup Int) (other : Tup Int) : Jr dw bs (callF T W (k + 1) 13 [enc one, enc other]) (l_below one other) :=
  F_T (fe := G.fe13) rfl rfl rfl rfl fun d H =>
  (S_rtT (fun _ h => h) (J_o2 (bV (J_lc1V H (I_zip (bV (J_var (x := (one : Tup Int)) H rfl) (bV (J_var (x := (other : Tup Int)) H rfl) zipTT))) (tg_2 rfl rfl) (fun p d H => (T_tb (J_o2 (bV (J_var (x := (p.2 : Int)) H rfl) (bV (J_var (x := (p.1 : Int)) H rfl) (o_ltI _ _)))))) (fun p d H => (J_ki 1))) (bV (J_lst (aN (mkL (m := 0) (x := ([] : List Int)) rfl (by decide) rfl))) (o_eq rfl _ _)))))
def l_least (cuts_here : Tup Int) (gaps_here : Tup (Tup Int)) (every_here : List (Tup Int)) : Sp (Option (Int × Tup Int)) :=
  Sp.bind (Sp.bind (Sp.pure every_here) fun xs => Sp.comp (fun (other : Tup Int) => Sp.bind (Sp.hush (Sp.bind (l_below cuts_here other) fun x => Sp.pure x)) fun k => if k = true then Sp.bind (Sp.hush (Sp.pure other)) fun v => Sp.pure (some v) else Sp.pure none) xs) fun (good : List (Tup Int)) =>
  Sp.bind (Sp.pure ((good.filter fun (other2 : Tup Int) => (decide ((((other2.l.zip gaps_here.l).filter fun (p : (Int × Tup Int)) => (!decide (p.1 ∈ p.2.l))).map fun (p : (Int × Tup Int)) => (1 : Int)) = ([] : List Int)))).map fun (other2 : Tup Int) => other2)) fun (good2 : List (Tup Int)) =>
  if (decide (good2 = ([] : List (Tup Int)))) = true then
    Sp.pure (none : Option (Int × Tup Int))
  else
    Sp.bind (Sp.pure (good2.map fun (other3 : Tup Int) => (((((cuts_here.l.zip other3.l).filter fun (p2 : (Int × Int)) => (!decide (p2.1 = p2.2))).map fun (p2 : (Int × Int)) => (1 : Int)).length : Int), other3))) fun (numbers : List (Int × Tup Int)) =>
    Sp.bind (Sp.bind (Sp.sorted numbers) fun (x : List (Int × Tup Int)) => Sp.lift (atI x (0 : Int))) fun x => Sp.pure (some x)
theorem l_least_J {k : Nat} {dw : Bool} {bs : List (Nat × D)} (cuts_here : Tup Int) (gaps_here : Tup (Tup Int)) (every_here : List (Tup Int)) : Jr dw bs (callF T W (k + 2) 15 [enc cuts_here, enc gaps_here, enc every_here]) (l_least cuts_here gaps_here every_here) :=
  F_T (fe := G.fe15) rfl rfl rfl rfl fun d H =>
  (S_set H (fun _ h => h) (J_lc H (I_l (J_var (x := (every_here : List (Tup Int))) H rfl)) (tg_n rfl) (fun other d H => (T_ttM (f := fun x => x) (J_call (aV (J_var (x := (cuts_here : Tup Int)) H rfl) (aV (J_var (x := (other : Tup Int)) H rfl) (aN (doCall (l_below_J _ _)))))) fun _ => tr_B _)) (fun other d H => (J_var (x := (other : Tup Int)) H rfl))) (tg_n rfl) fun good d H =>
 (S_set H (fun _ h => h) (J_lc1V H (I_l (J_var (x := (good : List (Tup Int))) H rfl)) (tg_n rfl) (fun other2 d H => (T_tb (J_o2 (bV (J_lc1V H (I_zip (bV (J_var (x := (other2 : Tup Int)) H rfl) (bV (J_var (x := (gaps_here : Tup (Tup Int))) H rfl) zipTT))) (tg_2 rfl rfl) (fun p d H => (T_tb (J_o2 (bV (J_var (x := (p.1 : Int)) H rfl) (bV (J_var (x := (p.2 : Tup Int)) H rfl) (o_ninT rfl _ _)))))) (fun p d H => (J_ki 1))) (bV (J_lst (aN (mkL (m := 0) (x := ([] : List Int)) rfl (by decide) rfl))) (o_eq rfl _ _)))))) (fun other2 d H => (J_var (x := (other2 : Tup Int)) H rfl))) (tg_n rfl) fun good2 d H =>
 (S_ifV (T_tb (J_o2 (bV (J_var (x := (good2 : List (Tup Int))) H rfl) (bV (J_lst (aN (mkL (m := 0) (x := ([] : List (Tup Int))) rfl (by decide) rfl))) (o_eq rfl _ _))))) rfl rfl
 (S_rtT (fun _ h => h) J_knO)
 (S_set H (fun _ h => h) (J_lc0V H (I_l (J_var (x := (good2 : List (Tup Int))) H rfl)) (tg_n rfl) (fun other3 d H => (J_tup' (aV (J_bi (aV (J_lc1V H (I_zip (bV (J_var (x := (cuts_here : Tup Int)) H rfl) (bV (J_var (x := (other3 : Tup Int)) H rfl) zipTT))) (tg_2 rfl rfl) (fun p2 d H => (T_tb (J_o2 (bV (J_var (x := (p2.1 : Int)) H rfl) (bV (J_var (x := (p2.2 : Int)) H rfl) (o_ne rfl _ _)))))) (fun p2 d H => (J_ki 1))) (aN (b_lenL _)))) (aV (J_var (x := (other3 : Tup Int)) H rfl) (aN (mkT (m := 2) (x := ((((((cuts_here.l.zip other3.l).filter fun (p2 : (Int × Int)) => (!decide (p2.1 = p2.2))).map fun (p2 : (Int × Int)) => (1 : Int)).length : Int), other3) : (Int × Tup Int))) rfl (by decide) rfl))))))) (tg_n rfl) fun numbers d H =>
 (S_rtT (fun _ h => h) (Jv.someM (J_idx (bM (J_bi (aV (J_var (x := (numbers : List (Int × Tup Int))) H rfl) (aN (b_sorted _)))) fun x => (bV (J_ki 0) (i_L _ _))))))))))
def law_t (ns : List Int) : Sp Bool :=
  Sp.flow (Sp.bind (Sp.bind (Sp.pure (6 : Int)) fun n => Sp.need (n ≤ 16777216 ∧ -(2 ^ 62) ≤ n) (Sp.pure (irange n))) fun xs => Sp.loop (
    fun (lap : Int) (s : Unit) =>
      Sp.bind (l_shape (200 : Int)) fun (p : (Int × Int)) =>
      Sp.bind (Sp.bind (l_every p.1 p.2) fun (x : List (Tup Int)) => Sp.bind (Sp.bind (Sp.bind (Sp.take (6 : Int)) fun n => Sp.need (n ≤ 16777216 ∧ -(2 ^ 62) ≤ n) (Sp.pure (irange n))) fun xs => Sp.comp (fun (turn : Int) => Sp.bind (Sp.hush (l_cuts p.1 p.2)) fun v => Sp.pure (some v)) xs) fun (x2 : List (Tup Int)) => Sp.pure (x, x2)) fun (p2 : (List (Tup Int) × List (Tup Int))) =>
      Sp.bind (Sp.bind (Sp.shuffled ([(sx "safe"), (sx "hall"), (sx "a"), (sx "yard"), (sx "zz")] : List Sx)) fun (x3 : List Sx) => Sp.bind (Sp.bind (Sp.take (6 : Int)) fun x => Sp.pure (some x)) fun (x4 : Option Int) => Sp.pure (cutZ x3 none x4)) fun (names : List Sx) =>
      Sp.bind (Sp.bind (Sp.bind (Sp.pure names) fun xs => Sp.comp (fun (name : Sx) => Sp.bind (Sp.hush (Sp.bind (l_gaps p.1 p.2) fun (x5 : Tup (Tup Int)) => Sp.pure (name, x5))) fun v => Sp.pure (some v)) xs) fun (x6 : List ((Sx × Tup (Tup Int)))) => Sp.pure (Dct.ofL x6)) fun (gaps_here : Dct Sx (Tup (Tup Int))) =>
      Sp.bind (Sp.pure (⟨[]⟩ : Dct Sx (Option (Int × Tup Int)))) fun (due : Dct Sx (Option (Int × Tup Int))) =>
      Sp.bind (Sp.bind (Sp.sorted names) fun xs => Sp.fold (
        fun (name2 : Sx) (s2 : (Dct Sx (Option (Int × Tup Int)))) =>
          Sp.bind (Sp.bind (Sp.bind (Sp.pure p2.2) fun x => Sp.pure (enumL x)) fun xs => Sp.comp (fun (p3 : (Int × Tup Int)) => Sp.bind (Sp.hush (Sp.bind (Sp.bind (Sp.lift (Dct.get gaps_here name2)) fun (x7 : Tup (Tup Int)) => l_least p3.2 x7 p2.1) fun (x8 : Option (Int × Tup Int)) => Sp.pure (x8, p3.1))) fun v => Sp.pure (some v)) xs) fun (best : List ((Option (Int × Tup Int) × Int))) =>
          Sp.bind (Sp.bind (Sp.pure best) fun xs => Sp.comp (fun (p4 : (Option (Int × Tup Int) × Int)) => Sp.bind (Sp.hush (Sp.pure p4.1.isSome)) fun k => if k = true then Sp.bind (Sp.hush (Sp.bind (Sp.bind (Sp.lift p4.1) fun (x9 : (Int × Tup Int)) => Sp.pure x9.1) fun (x11 : Int) => Sp.bind (Sp.bind (Sp.lift p4.1) fun (x10 : (Int × Tup Int)) => Sp.pure x10.2) fun (x12 : Tup Int) => Sp.pure (⟨x11, p4.2, x12⟩ : P3 Int Int (Tup Int)))) fun v => Sp.pure (some v) else Sp.pure none) xs) fun (best2 : List (P3 Int Int (Tup Int))) =>
          if (!decide (best2 = ([] : List (P3 Int Int (Tup Int))))) = true then
            Sp.bind (Sp.bind (Sp.bind (Sp.bind (Sp.sorted best2) fun (x13 : List (P3 Int Int (Tup Int))) => Sp.lift (atI x13 (0 : Int))) fun (x14 : P3 Int Int (Tup Int)) => Sp.pure (x14.b, x14.c)) fun x => Sp.pure (some x)) fun y =>
            Sp.bind (Sp.put s2 name2 y) fun (due2 : Dct Sx (Option (Int × Tup Int))) =>
            Sp.pure due2
          else
            Sp.pure s2) xs due) fun (s3 : (Dct Sx (Option (Int × Tup Int)))) =>
      Sp.bind (p_best_openings (⟨p2.2⟩ : Tup (Tup Int)) gaps_here) fun (told : Dct Sx (Option (Int × Tup Int))) =>
      Sp.bind (if (!Dct.eqB told s3) = true then Sp.pure true else Sp.bind (sortKeys s3) fun (x15 : List Sx) => Sp.pure (!decide ((told.l.map (·.1)) = x15))) fun c => if c = true then
        Sp.bind (Sp.pure false) fun r => Sp.pure (Fl.rt r)
      else
        Sp.pure (Fl.nx ())) xs ()) (fun (s4 : Unit) =>
  Sp.pure true) (fun r => r)
theorem law_J (ns : List Int) {k : Nat} (ht : law_t ns (2 ^ 39) fun _ r => r = .ok true) : ∃ f S', callF T W (k + 5) 16 [.ro (ns.map .int)] [] = .ok (.bl true, f) S' :=
  law_end (fe := G.fe16) rfl rfl rfl rfl fun d H => S_begun rfl H rfl rfl (t := law_t ns) (fun d H =>
  (S_seqF (σ := Unit) (ρ := Bool) (be := []) (sl := fun (s : Unit) => [(0, .val (enc ((⟨ns⟩ : Ro Int) : Ro Int))), (1, .val (.box 1))]) (bx := fun _ => []) (w := fun r => r) kT
 (S_forF (σ := Unit) (ρ := Bool) (be := []) (sl := fun (s : Unit) => [(0, .val (enc ((⟨ns⟩ : Ro Int) : Ro Int))), (1, .val (.box 1))]) (bx := fun _ => []) (s := ()) (fun _ h => h) (H.sel [0, 1]) (I_r1 (J_ki 6)) (fun s => (tg_n rfl)) fun lap s d H =>
 (S_set H (fun _ h => h) (J_call (aR (.box 1) H rfl (aV (J_ki 200) (aN (doCall (l_shape_J _)))))) (tg_2 rfl rfl) fun p d H =>
 (S_set H (fun _ h => h) (J_tup' (aM (J_call (aV (J_var (x := (p.1 : Int)) H rfl) (aV (J_var (x := (p.2 : Int)) H rfl) (aN (doCall (l_every_J _ _)))))) fun x => (aM (J_lcM H (I_r1 (J_call (aR (.box 1) H rfl (aV (J_ki 6) (aN (doCall (take_J rfl rfl _))))))) (tg_n rfl) (fun turn d H => (J_call (aR (.box 1) H rfl (aV (J_var (x := (p.1 : Int)) H rfl) (aV (J_var (x := (p.2 : Int)) H rfl) (aN (doCall (l_cuts_J _ _))))))))) fun x2 => (aN (mkT (m := 2) (x := ((x, x2) : (List (Tup Int) × List (Tup Int)))) rfl (by decide) rfl))))) (tg_2 rfl rfl) fun p2 d H =>
 (S_set H (fun _ h => h) (J_sli (bM (J_call (aR (.box 1) H rfl (aV (J_lst (aV (J_ks "safe") (aV (J_ks "hall") (aV (J_ks "a") (aV (J_ks "yard") (aV (J_ks "zz") (aN (mkL (m := 5) (x := ([(sx "safe"), (sx "hall"), (sx "a"), (sx "yard"), (sx "zz")] : List Sx)) rfl (by decide) rfl)))))))) (aN (doCall (shuffled_J rfl rfl rfl rfl rfl _)))))) fun x3 => (bbV O_n (bbM (O_m (J_call (aR (.box 1) H rfl (aV (J_ki 6) (aN (doCall (take_J rfl rfl _))))))) fun x4 => (s_L _ _ _))))) (tg_n rfl) fun names d H =>
 (S_set H (fun _ h => h) (J_bi (aM (J_lcM H (I_l (J_var (x := (names : List Sx)) H rfl)) (tg_n rfl) (fun name d H => (J_tup' (aV (J_var (x := (name : Sx)) H rfl) (aM (J_call (aR (.box 1) H rfl (aV (J_var (x := (p.1 : Int)) H rfl) (aV (J_var (x := (p.2 : Int)) H rfl) (aN (doCall (l_gaps_J _ _))))))) fun x5 => (aN (mkT (m := 2) (x := ((name, x5) : (Sx × Tup (Tup Int)))) rfl (by decide) rfl))))))) fun x6 => (aN (b_dictL rfl _)))) (tg_n rfl) fun gaps_here d H =>
 (S_seto H (fun _ h => h) (J_dct0 (κ := Sx) (α := Option (Int × Tup Int)) rfl) rfl fresh_D fun due d H =>
 (S_seq (σ := (Dct Sx (Option (Int × Tup Int)))) (sl := fun (s2 : (Dct Sx (Option (Int × Tup Int)))) => [(0, .val (enc ((⟨ns⟩ : Ro Int) : Ro Int))), (1, .val (.box 1)), (2, .val (enc (lap : Int))), (3, .val (enc (names : List Sx))), (4, .val (enc (gaps_here : Dct Sx (Tup (Tup Int))))), (5, .own (enc (s2 : Dct Sx (Option (Int × Tup Int))))), (8, .val (enc (p.1 : Int))), (9, .val (enc (p.2 : Int))), (10, .val (enc (p2.1 : List (Tup Int)))), (11, .val (enc (p2.2 : List (Tup Int))))]) (bx := fun _ => [])
 (S_for (σ := (Dct Sx (Option (Int × Tup Int)))) (sl := fun (s2 : (Dct Sx (Option (Int × Tup Int)))) => [(0, .val (enc ((⟨ns⟩ : Ro Int) : Ro Int))), (1, .val (.box 1)), (2, .val (enc (lap : Int))), (3, .val (enc (names : List Sx))), (4, .val (enc (gaps_here : Dct Sx (Tup (Tup Int))))), (5, .own (enc (s2 : Dct Sx (Option (Int × Tup Int))))), (8, .val (enc (p.1 : Int))), (9, .val (enc (p.2 : Int))), (10, .val (enc (p2.1 : List (Tup Int)))), (11, .val (enc (p2.2 : List (Tup Int))))]) (bx := fun _ => []) (s := due) (fun _ h => h) (H.sel [0, 1, 2, 3, 4, 5, 8, 9, 10, 11]) (I_lM (J_bi (aV (J_var (x := (names : List Sx)) H rfl) (aN (b_sorted _))))) (fun s2 => (tg_n rfl)) fun name2 s2 d H =>
 (S_set H (fun _ h => h) (J_lcM H (I_enumL (J_var (x := (p2.2 : List (Tup Int))) H rfl)) (tg_2 rfl rfl) (fun p3 d H => (J_tup' (aM (J_call (aV (J_var (x := (p3.2 : Tup Int)) H rfl) (aM (J_idx (bV (J_var (x := (gaps_here : Dct Sx (Tup (Tup Int)))) H rfl) (bV (J_var (x := (name2 : Sx)) H rfl) (i_D _ _)))) fun x7 => (aV (J_var (x := (p2.1 : List (Tup Int))) H rfl) (aN (doCall (l_least_J _ _ _))))))) fun x8 => (aV (J_var (x := (p3.1 : Int)) H rfl) (aN (mkT (m := 2) (x := ((x8, p3.1) : (Option (Int × Tup Int) × Int))) rfl (by decide) rfl))))))) (tg_n rfl) fun best d H =>
 (S_set H (fun _ h => h) (J_lc H (I_l (J_var (x := (best : List ((Option (Int × Tup Int) × Int)))) H rfl)) (tg_2 rfl rfl) (fun p4 d H => (T_tb (J_o2 (bV (J_var (x := (p4.1 : Option (Int × Tup Int))) H rfl) (bV J_kn (o_notN _)))))) (fun p4 d H => (J_tup' (aM (J_idx (bM (Jv.unw (J_var (x := (p4.1 : Option (Int × Tup Int))) H rfl)) fun x9 => (bV (J_ki 0) (i_20 _)))) fun x11 => (aV (J_var (x := (p4.2 : Int)) H rfl) (aM (J_idx (bM (Jv.unw (J_var (x := (p4.1 : Option (Int × Tup Int))) H rfl)) fun x10 => (bV (J_ki 1) (i_21 _)))) fun x12 => (aN (mkT (m := 3) (x := ((⟨x11, p4.2, x12⟩ : P3 Int Int (Tup Int)) : P3 Int Int (Tup Int))) rfl (by decide) rfl)))))))) (tg_n rfl) fun best2 d H =>
 (S_ifV (T_tb (J_o2 (bV (J_var (x := (best2 : List (P3 Int Int (Tup Int)))) H rfl) (bV (J_lst (aN (mkL (m := 0) (x := ([] : List (P3 Int Int (Tup Int)))) rfl (by decide) rfl))) (o_ne rfl _ _))))) rfl rfl
 (S_oset (d := (s2 : Dct Sx (Option (Int × Tup Int)))) H (fun _ h => h) rfl rfl (Jv.someM (J_sli (bM (J_idx (bM (J_bi (aV (J_var (x := (best2 : List (P3 Int Int (Tup Int)))) H rfl) (aN (b_sorted _)))) fun x13 => (bV (J_ki 0) (i_L _ _)))) fun x14 => (bbV (O_v (J_ki 1)) (bbV O_n (s_31 _)))))) (J_var (x := (name2 : Sx)) H rfl) fun due2 d H =>
 (S_endN due2 (H.sel [0, 1, 2, 3, 4, 5, 8, 9, 10, 11]) (fun _ h => h)))
 (S_endN s2 (H.sel [0, 1, 2, 3, 4, 5, 8, 9, 10, 11]) (fun _ h => h))))))
 fun s3 d H =>
 (S_set H (fun _ h => h) (J_callk (aN (aV (J_var (x := (gaps_here : Dct Sx (Tup (Tup Int)))) H rfl) (aV (J_bi (aV (J_var (x := (p2.2 : List (Tup Int))) H rfl) (aN (b_tupleL _)))) (aN (tryL_J rfl (doCall (p_best_openings_J (⟨p2.2⟩ : Tup (Tup Int)) gaps_here)))))))) (tg_n rfl) fun told d H =>
 (S_if (fun _ h => h) (T_orV (T_tb (J_o2 (bV (J_var (x := (told : Dct Sx (Option (Int × Tup Int)))) H rfl) (bV (J_own (x := (s3 : Dct Sx (Option (Int × Tup Int)))) H rfl (fresh_D _)) (o_neD rfl rfl _ _))))) (T_tbM (J_o2 (bV (J_bi (aV (J_var (x := (told : Dct Sx (Option (Int × Tup Int)))) H rfl) (aN (b_listD rfl)))) (bM (J_bi (aV (J_own (x := (s3 : Dct Sx (Option (Int × Tup Int)))) H rfl (fresh_D _)) (aN (b_sortedD rfl _)))) fun x15 => (o_ne rfl _ _)))))) rfl rfl
 (S_rtF (fun _ h => h) (J_kb false))
 (S_endF () (H.sel [0, 1]) (fun _ h => h)))))))))))
 fun s4 d H =>
 (S_rtT (fun _ h => h) (J_kb true)))) ht
end H
namespace H
open PySem L2 Y
open Y.Enc (enc)
/-- the filing that opens the lock and is nowhere deeper than it has to be -/
def filedZ : List (Int × Tup Int) → Option (List Int)
  | [] => some []
  | (c, g) :: r => match g.l.filter (fun d => decide (d ≥ c)), filedZ r with
    | d :: _, some l => some (d :: l)
    | _, _ => none
theorem sizeLine_big {n : Nat} (h : n ≤ 1000000) : n < sizeLine := by rw [sizeLine_eq]; omega
theorem filed_loop (f : (Int × Tup Int) → List Int → Sp (Fl (List Int) (Option (Tup Int)))) (hf : ∀ p s, f p s = if (decide (p.2.l.filter (fun d => decide (d ≥ p.1)) = [])) = true then Sp.pure (Fl.rt none) else Sp.bind (Sp.lift (atI (p.2.l.filter (fun d => decide (d ≥ p.1))) 0)) fun x => Sp.bind (Sp.app s x) fun y => Sp.pure (Fl.nx y)) : ∀ (xs : List (Int × Tup Int)) (s : List Int), s.length + xs.length ≤ 1000000 →
    Sp.loop f xs s = Sp.pure (match filedZ xs with | none => Fl.rt none | some l => Fl.nx (s ++ l))
  | [], s, _ => by simp [Sp.loop, filedZ]
  | p :: r, s, h => by
    rw [List.length_cons] at h
    rw [Sp.loop, hf]
    unfold filedZ
    cases e : p.2.l.filter (fun d => decide (d ≥ p.1)) with
    | nil => simp
    | cons d t =>
      have ha : atI (d :: t) (0 : Int) = some d := by
        obtain ⟨h, e⟩ := atI_in (xs := d :: t) (v := 0) (Int.le_refl _) (by simp)
        exact e
      simp only [List.cons_ne_nil, reduceCtorEq, decide_false, Bool.false_eq_true, if_false, ha, Sp.lift_some, Sp.pure_bind, Sp.app]
      rw [Sp.need_t (sizeLine_big (by omega))]
      simp only [Sp.pure_bind]
      rw [filed_loop f hf r (s ++ [d]) (by rw [List.length_append, List.length_singleton]; omega)]
      cases filedZ r <;> simp
theorem filed_eq (key : Tup Int) (lock : Tup (Tup Int)) (h : key.l.length ≤ 1000) : p_filed_to_open key lock = Sp.pure ((filedZ (key.l.zip lock.l)).map Tup.mk) := by
  unfold p_filed_to_open
  simp only [Sp.pure_bind]
  rw [filed_loop _ (fun p s => by simp [List.map_id']) _ _ (by rw [List.length_zip, List.length_nil]; omega)]
  cases filedZ (key.l.zip lock.l) <;> simp
end H
namespace H
open PySem L2 Y
open Y.Enc (enc)
def strkZ (a b : List Int) : Int := ((a.zip b).filter fun p => decide (p.2 > p.1)).length
theorem filed_le : ∀ {xs : List (Int × Tup Int)} {l : List Int}, filedZ xs = some l → ∀ p ∈ (xs.map (·.1)).zip l, p.2 ≥ p.1
  | [], l, h, p, hp => by cases hp
  | (c, g) :: r, l, h, p, hp => by
    unfold filedZ at h
    cases e : g.l.filter (fun d => decide (d ≥ c)) with
    | nil => rw [e] at h; cases h
    | cons d t =>
      cases e2 : filedZ r with
      | none => rw [e, e2] at h; cases h
      | some l2 =>
        rw [e, e2] at h
        cases h
        rcases List.mem_cons.mp hp with rfl | hp
        · have : d ∈ g.l.filter (fun d => decide (d ≥ c)) := by rw [e]; exact List.mem_cons_self
          exact of_decide_eq_true (List.mem_filter.mp this).2
        · exact filed_le e2 p hp
theorem filed_len : ∀ {xs : List (Int × Tup Int)} {l : List Int}, filedZ xs = some l → l.length = xs.length
  | [], l, h => by cases h; rfl
  | (c, g) :: r, l, h => by
    unfold filedZ at h
    cases e : g.l.filter (fun d => decide (d ≥ c)) with
    | nil => rw [e] at h; cases h
    | cons d t =>
      cases e2 : filedZ r with
      | none => rw [e, e2] at h; cases h
      | some l2 =>
        rw [e, e2] at h
        cases h
        rw [List.length_cons, List.length_cons, filed_len e2]
theorem strokes_eq (key other : Tup Int) (h : ∀ p ∈ key.l.zip other.l, p.2 ≥ p.1) : p_strokes key other = Sp.pure (strkZ key.l other.l) := by
  unfold p_strokes p_is_filing
  have : (((key.l.zip other.l).map fun (p : (Int × Int)) => (decide (p.2 ≥ p.1))).all id) = true := by
    rw [List.all_map, List.all_eq_true]
    intro p hp
    exact decide_eq_true (h p hp)
  simp only [Sp.pure_bind, this, Bool.not_true, Bool.false_eq_true, if_false, List.length_map]
  rfl
theorem shape_eq : l_shape 200 = Sp.pick [(1, 2), (1, 10), (2, 3), (3, 2), (2, 5), (3, 4), (4, 3), (6, 2), (2, 10), (5, 2)] := by
  simp [l_shape, Sp.fold, irange, Sp.mulI, smallI, Sp.app, sizeLine_eq, List.range, List.range.loop]
end H
namespace H
open PySem L2 Y
open Y.Enc (enc)
def allZ (far : Int) : Nat → List (List Int)
  | 0 => [[]]
  | n + 1 => (allZ far n).flatMap fun s => (irange far).map fun c => s ++ [c]
theorem irange_mem {n c : Int} : c ∈ irange n ↔ 0 ≤ c ∧ c < n := by
  unfold irange
  rw [List.mem_map]
  constructor
  · rintro ⟨i, hi, rfl⟩
    rw [List.mem_range] at hi
    omega
  · rintro ⟨h1, h2⟩
    exact ⟨c.toNat, by rw [List.mem_range]; omega, by omega⟩
theorem irange_len (n : Int) : (irange n).length = n.toNat := by rw [irange, List.length_map, List.length_range]
theorem allZ_mem {far : Int} : ∀ {n : Nat} {l : List Int}, l ∈ allZ far n ↔ l.length = n ∧ ∀ c ∈ l, 0 ≤ c ∧ c < far
  | 0, l => by
    rw [allZ, List.mem_singleton]
    constructor
    · rintro rfl; exact ⟨rfl, fun _ h => by cases h⟩
    · exact fun h => List.length_eq_zero_iff.mp h.1
  | n + 1, l => by
    rw [allZ, List.mem_flatMap]
    constructor
    · rintro ⟨s, hs, hl⟩
      obtain ⟨c, hc, rfl⟩ := List.mem_map.mp hl
      obtain ⟨h1, h2⟩ := allZ_mem.mp hs
      refine ⟨by rw [List.length_append, h1]; rfl, fun x hx => ?_⟩
      rcases List.mem_append.mp hx with hx | hx
      · exact h2 x hx
      · rw [List.mem_singleton.mp hx]
        exact irange_mem.mp hc
    · rintro ⟨h1, h2⟩
      have hne : l ≠ [] := by intro e; rw [e] at h1; cases h1
      refine ⟨l.dropLast, allZ_mem.mpr ⟨by rw [List.length_dropLast, h1]; rfl, fun c hc => h2 c (List.dropLast_subset l hc)⟩, List.mem_map.mpr ⟨l.getLast hne, irange_mem.mpr (h2 _ (List.getLast_mem hne)), List.dropLast_concat_getLast hne⟩⟩
theorem allZ_len (far : Int) : ∀ n, (allZ far n).length = far.toNat ^ n
  | 0 => rfl
  | n + 1 => by
    rw [allZ, List.length_flatMap]
    have : (allZ far n).map (fun s => ((irange far).map fun c => s ++ [c]).length) = (allZ far n).map fun _ => far.toNat := by
      congr 1
      funext s
      rw [List.length_map, irange_len]
    rw [this, List.map_const', List.sum_replicate_nat, allZ_len far n, Nat.pow_succ]
theorem every_in (f : Tup Int → List (Tup Int) → Sp (List (Tup Int))) (far : Int) (hf : ∀ t s, f t s = Sp.need (far ≤ 16777216 ∧ -(2 ^ 62) ≤ far) (Sp.bind (Sp.comp (fun c => Sp.bind (Sp.hush (Sp.catT t ⟨[c]⟩)) fun v => Sp.pure (some v)) (irange far)) fun x => Sp.ext s x)) (h0 : 0 ≤ far) (h1 : far ≤ 1000) :
    ∀ (r : List (Tup Int)) (s : List (Tup Int)), (∀ t ∈ r, t.l.length ≤ 1000) → s.length + r.length * far.toNat ≤ 1000000 → Sp.fold f r s = Sp.pure (s ++ r.flatMap fun t => (irange far).map fun c => t.cat ⟨[c]⟩)
  | [], s, _, _ => by simp [Sp.fold]
  | t :: r, s, h2, h3 => by
    rw [List.length_cons, Nat.add_mul, Nat.one_mul] at h3
    rw [Sp.fold, hf, Sp.need_t ⟨by omega, by omega⟩, Sp.comp_map (g := fun c => t.cat ⟨[c]⟩) (fun c _ => by
      unfold Sp.catT
      rw [Sp.need_t (by
        have := h2 t List.mem_cons_self
        rw [sizeLine_eq]
        show t.l.length + 1 ≤ _
        omega)]
      rfl)]
    rw [Sp.pure_bind]
    unfold Sp.ext
    rw [Sp.need_t (by rw [sizeLine_eq, List.length_map, irange_len]; omega), Sp.pure_bind, every_in f far hf h0 h1 r _ (fun t ht => h2 t (List.mem_cons_of_mem _ ht)) (by rw [List.length_append, List.length_map, irange_len]; omega)]
    rw [List.flatMap_cons, List.append_assoc]
theorem every_out (f : Int → List (Tup Int) → Sp (List (Tup Int))) (far : Int) (h0 : 0 < far) (h1 : far ≤ 1000) (hf : ∀ i s, (∀ t ∈ s, t.l.length ≤ 1000) → s.length * far.toNat ≤ 1000000 → f i s = Sp.pure (s.flatMap fun t => (irange far).map fun c => t.cat ⟨[c]⟩)) :
    ∀ (is : List Int) (q : Nat), q + is.length ≤ 1000 → far.toNat ^ (q + is.length) ≤ 100000 → Sp.fold f is ((allZ far q).map Tup.mk) = Sp.pure ((allZ far (q + is.length)).map Tup.mk)
  | [], q, _, _ => by simp [Sp.fold]
  | i :: is, q, h2, h3 => by
    rw [List.length_cons] at h2 h3
    have hp : far.toNat ^ (q + 1) ≤ 100000 := Nat.le_trans (Nat.pow_le_pow_right (by omega) (by omega)) h3
    rw [Sp.fold, hf i _ (fun t ht => by
      obtain ⟨l, hl, rfl⟩ := List.mem_map.mp ht
      rw [show (Tup.mk l).l = l from rfl, (allZ_mem.mp hl).1]
      omega) (by rw [List.length_map, allZ_len]; rw [Nat.pow_succ] at hp; omega), Sp.pure_bind]
    have e : ((allZ far q).map Tup.mk).flatMap (fun t => (irange far).map fun c => t.cat ⟨[c]⟩) = (allZ far (q + 1)).map Tup.mk := by
      rw [allZ, List.map_flatMap, List.flatMap_map]
      congr 1
      funext l
      rw [List.map_map]
      rfl
    rw [e, every_out f far h0 h1 hf is (q + 1) (by omega) (by rw [show q + 1 + is.length = q + (is.length + 1) from by omega]; exact h3)]
    congr 3
    rw [List.length_cons]
    omega
theorem every_eq (size far : Int) (h : 0 ≤ size) (h2 : size ≤ 1000) (h0 : 0 < far) (h1 : far ≤ 1000) (h3 : far.toNat ^ size.toNat ≤ 100000) : l_every size far = Sp.pure ((allZ far size.toNat).map Tup.mk) := by
  unfold l_every
  simp only [Sp.pure_bind, Sp.bind_pure', Sp.bind_assoc, Sp.need_bind]
  rw [Sp.need_t ⟨by omega, by omega⟩]
  refine (every_out _ far h0 h1 (fun i s hs hl => ?_) (irange size) 0 (by rw [irange_len]; omega) (by rw [irange_len, Nat.zero_add]; exact h3)).trans (by rw [irange_len, Nat.zero_add])
  have := every_in _ far (fun t s => rfl) (by omega) h1 s [] hs (by simpa using hl)
  rw [List.nil_append] at this
  exact this
end H
namespace H
open PySem L2 Y
open Y.Enc (enc)
abbrev Cand := P3 Int Int (Tup Int)
/-- what a key gives at a lock: strokes, index, filing -/
def candZ (lock : List (Tup Int)) (p : Int × Tup Int) : Option Cand := (filedZ (p.2.l.zip lock)).map fun l => ⟨strkZ p.2.l l, p.1, ⟨l⟩⟩
def bestG (lock : List (Tup Int)) (s : Option (Int × Tup Int) × Int) (p : Int × Tup Int) : Option (Int × Tup Int) × Int :=
  match candZ lock p with
  | none => s
  | some c => match s.1 with
    | none => (some (c.b, c.c), c.a)
    | some _ => if c.a < s.2 then (some (c.b, c.c), c.a) else s
theorem best_eq (keys : Tup (Tup Int)) (lock : Tup (Tup Int)) (h : ∀ k ∈ keys.l, k.l.length = lock.l.length) (hl : lock.l.length ≤ 1000) :
    p_best_opening keys lock = Sp.pure ((enumL keys.l).foldl (bestG lock.l) (none, 0)).1 := by
  unfold p_best_opening
  simp only [Sp.pure_bind, Sp.bind_assoc]
  have key : ∀ p ∈ enumL keys.l, p.2.l.length = lock.l.length := fun p hp => by
    unfold enumL at hp
    obtain ⟨q, hq, rfl⟩ := List.mem_map.mp hp
    exact h _ (List.fst_mem_of_mem_zipIdx hq)
  rw [Sp.fold_eq' (g := bestG lock.l) fun p hp s => ?_]
  · rfl
  rw [filed_eq p.2 lock (by rw [key p hp]; exact hl)]
  unfold bestG candZ
  cases e : filedZ (p.2.l.zip lock.l) with
  | none => rfl
  | some l =>
    have hs : p_strokes p.2 ⟨l⟩ = Sp.pure (strkZ p.2.l l) := strokes_eq _ _ (by
      have := filed_le e
      rwa [List.map_fst_zip (by rw [key p hp]; exact Nat.le_refl _)] at this)
    obtain ⟨b, m⟩ := s
    cases b with
    | none => simp [hs]
    | some b =>
      simp only [Option.map_some, Sp.pure_bind, Sp.opt_some, hs, decide_eq_true_eq]
      split <;> rfl
/-- the fold finds the first with the fewest strokes -/
theorem best_min (lock : List (Tup Int)) : ∀ (ps : List (Int × Tup Int)) (s : Option (Int × Tup Int) × Int) (cs : List Cand), (ps.Pairwise fun p q => p.1 < q.1) → (∀ c ∈ cs, ∀ p ∈ ps, c.b < p.1) →
    (cs = [] ∧ s.1 = none ∨ ∃ m ∈ cs, s = (some (m.b, m.c), m.a) ∧ ∀ y ∈ cs, m.a < y.a ∨ (m.a = y.a ∧ m.b ≤ y.b)) →
    (cs ++ ps.filterMap (candZ lock) = [] ∧ (ps.foldl (bestG lock) s).1 = none ∨ ∃ m ∈ cs ++ ps.filterMap (candZ lock), (ps.foldl (bestG lock) s) = (some (m.b, m.c), m.a) ∧ ∀ y ∈ cs ++ ps.filterMap (candZ lock), m.a < y.a ∨ (m.a = y.a ∧ m.b ≤ y.b))
  | [], s, cs, _, _, h => by simpa using h
  | p :: ps, s, cs, hp, hc, h => by
    rw [List.pairwise_cons] at hp
    rw [List.foldl_cons, List.filterMap_cons]
    cases e : candZ lock p with
    | none =>
      have : bestG lock s p = s := by unfold bestG; rw [e]
      rw [this]
      exact best_min lock ps s cs hp.2 (fun c hc' q hq => hc c hc' q (List.mem_cons_of_mem _ hq)) h
    | some c =>
      have hcb : c.b = p.1 := by
        unfold candZ at e
        obtain ⟨l, _, rfl⟩ := Option.map_eq_some_iff.mp e
        rfl
      have := best_min lock ps (bestG lock s p) (cs ++ [c]) hp.2 (fun d hd q hq => by
        rcases List.mem_append.mp hd with hd | hd
        · exact hc d hd q (List.mem_cons_of_mem _ hq)
        · rw [List.mem_singleton.mp hd, hcb]
          exact hp.1 q hq) (.inr ?_)
      · simpa [List.append_assoc] using this
      · rcases h with ⟨rfl, h⟩ | ⟨m, hm, rfl, hmin⟩
        · refine ⟨c, by simp, ?_, fun y hy => ?_⟩
          · unfold bestG
            rw [e, h]
          · simp at hy
            rw [hy]
            exact .inr ⟨rfl, Int.le_refl _⟩
        · by_cases hlt : c.a < m.a
          · refine ⟨c, by simp, ?_, fun y hy => ?_⟩
            · unfold bestG
              rw [e]
              exact if_pos hlt
            · rcases List.mem_append.mp hy with hy | hy
              · have := hmin y hy
                left
                omega
              · rw [List.mem_singleton.mp hy]
                exact .inr ⟨rfl, Int.le_refl _⟩
          · refine ⟨m, List.mem_append_left _ hm, ?_, fun y hy => ?_⟩
            · unfold bestG
              rw [e]
              exact if_neg hlt
            · rcases List.mem_append.mp hy with hy | hy
              · exact hmin y hy
              · rw [List.mem_singleton.mp hy]
                have := hc m hm p List.mem_cons_self
                omega
end H
namespace H
open PySem L2 Y
open Y.Enc (enc)
def leA : List Int → List Int → Prop
  | c :: cs, o :: os => c ≤ o ∧ leA cs os
  | _, _ => True
def inG : List Int → List (Tup Int) → Prop
  | o :: os, g :: gs => o ∈ g.l ∧ inG os gs
  | _, _ => True
def dif (a b : List Int) : Nat := ((a.zip b).filter fun p => !decide (p.1 = p.2)).length
theorem leA_iff : ∀ (a b : List Int), ((a.zip b).filter fun p => decide (p.2 < p.1)) = [] ↔ leA a b
  | [], _ => by simp [leA]
  | _ :: _, [] => by simp [leA]
  | x :: a, y :: b => by
    rw [List.zip_cons_cons, List.filter_cons]
    unfold leA
    by_cases h : y < x
    · simp [h]
      omega
    · simp only [h, decide_false, Bool.false_eq_true, if_false]
      rw [leA_iff a b]
      exact ⟨fun q => ⟨by omega, q⟩, fun q => q.2⟩
theorem inG_iff : ∀ (a : List Int) (g : List (Tup Int)), ((a.zip g).filter fun p => !decide (p.1 ∈ p.2.l)) = [] ↔ inG a g
  | [], _ => by simp [inG]
  | _ :: _, [] => by simp [inG]
  | x :: a, y :: b => by
    rw [List.zip_cons_cons, List.filter_cons]
    unfold inG
    by_cases h : x ∈ y.l
    · simp only [h, decide_true, Bool.not_true, Bool.false_eq_true, if_false]
      rw [inG_iff a b]
      exact ⟨fun q => ⟨trivial, q⟩, fun q => q.2⟩
    · simp [h]
theorem filed_goodZ : ∀ {cs : List Int} {gs : List (Tup Int)} {l : List Int}, cs.length = gs.length → filedZ (cs.zip gs) = some l → leA cs l ∧ inG l gs ∧ strkZ cs l = dif cs l
  | [], [], l, _, h => by cases h; exact ⟨trivial, trivial, rfl⟩
  | c :: cs, g :: gs, l, hl, h => by
    rw [List.zip_cons_cons] at h
    unfold filedZ at h
    cases e : g.l.filter (fun d => decide (d ≥ c)) with
    | nil => simp only [e] at h; cases h
    | cons d t =>
      cases e2 : filedZ (cs.zip gs) with
      | none => simp only [e, e2] at h; cases h
      | some l2 =>
        simp only [e, e2] at h
        cases h
        have hd : d ∈ g.l.filter (fun d => decide (d ≥ c)) := by rw [e]; exact List.mem_cons_self
        rw [List.mem_filter, decide_eq_true_eq] at hd
        obtain ⟨i1, i2, i3⟩ := filed_goodZ (by simpa using hl) e2
        refine ⟨⟨hd.2, i1⟩, ⟨hd.1, i2⟩, ?_⟩
        unfold strkZ dif at i3 ⊢
        rw [List.zip_cons_cons, List.filter_cons, List.filter_cons]
        by_cases h : c = d
        · subst h
          simp only [Int.lt_irrefl, gt_iff_lt, decide_false, Bool.false_eq_true, if_false, decide_true, Bool.not_true]
          exact i3
        · have : d > c := by omega
          simp only [this, h, decide_true, decide_false, Bool.not_false, if_true, List.length_cons]
          omega
theorem filed_bestZ : ∀ {cs : List Int} {gs : List (Tup Int)} {o : List Int}, cs.length = gs.length → o.length = cs.length → (∀ g ∈ gs, g.l.Pairwise (· < ·)) → leA cs o → inG o gs → ∃ l, filedZ (cs.zip gs) = some l ∧ leA l o ∧ dif cs l ≤ dif cs o
  | [], [], o, _, _, _, _, _ => ⟨[], rfl, trivial, Nat.zero_le _⟩
  | c :: cs, g :: gs, [], _, h, _, _, _ => by cases h
  | c :: cs, g :: gs, a :: o, hl, ho, hg, h1, h2 => by
    obtain ⟨l, i1, i2, i3⟩ := filed_bestZ (cs := cs) (gs := gs) (o := o) (by simpa using hl) (by simpa using ho) (fun g hg' => hg g (List.mem_cons_of_mem _ hg')) h1.2 h2.2
    have ha : a ∈ g.l.filter (fun d => decide (d ≥ c)) := List.mem_filter.mpr ⟨h2.1, decide_eq_true h1.1⟩
    cases e : g.l.filter (fun d => decide (d ≥ c)) with
    | nil => rw [e] at ha; cases ha
    | cons d t =>
      have hs : (g.l.filter (fun d => decide (d ≥ c))).Pairwise (· < ·) := (hg g List.mem_cons_self).filter _
      have hd : d ∈ g.l.filter (fun d => decide (d ≥ c)) := by rw [e]; exact List.mem_cons_self
      rw [List.mem_filter, decide_eq_true_eq] at hd
      rw [e] at ha hs
      have hda : d ≤ a := by
        rcases List.mem_cons.mp ha with rfl | h
        · exact Int.le_refl _
        · have := (List.pairwise_cons.mp hs).1 a h
          omega
      refine ⟨d :: l, ?_, ⟨hda, i2⟩, ?_⟩
      · rw [List.zip_cons_cons]
        unfold filedZ
        simp only [e, i1]
      · unfold dif at i3 ⊢
        rw [List.zip_cons_cons, List.zip_cons_cons, List.filter_cons, List.filter_cons]
        have h1c : c ≤ a := h1.1
        by_cases q : c = a
        · have q2 : c = d := by omega
          rw [← q, ← q2]
          simp only [decide_true, Bool.not_true, Bool.false_eq_true, if_false]
          exact i3
        · simp only [q, decide_false, Bool.not_false, if_true, List.length_cons]
          split
          · rw [List.length_cons]; omega
          · omega
theorem leA_leL : ∀ {a b : List Int}, a.length = b.length → leA a b → leL a b = true
  | [], [], _, _ => rfl
  | x :: a, y :: b, hl, h => by
    have ih := leA_leL (a := a) (b := b) (by simpa using hl) h.2
    unfold leL at ih ⊢
    unfold ltL
    have h1 : ¬ y < x := by have := h.1; omega
    rw [decide_eq_false h1]
    simp only [Bool.not_eq_true'] at ih
    rw [ih]
    simp
theorem leL_anti : ∀ {a b : List Int}, leL a b = true → leL b a = true → a = b
  | [], [], _, _ => rfl
  | [], _ :: _, _, h => by cases h
  | _ :: _, [], h, _ => by cases h
  | x :: a, y :: b, h1, h2 => by
    unfold leL ltL at h1 h2
    simp only [Bool.not_eq_true', Bool.or_eq_false_iff, decide_eq_false_iff_not, Bool.and_eq_false_iff] at h1 h2
    have e : x = y := by omega
    subst e
    have a1 : ltL b a = false := h1.2.resolve_left (fun h => h rfl)
    have a2 : ltL a b = false := h2.2.resolve_left (fun h => h rfl)
    rw [leL_anti (a := a) (b := b) (by unfold leL; rw [a1]; rfl) (by unfold leL; rw [a2]; rfl)]
end H
namespace H
open PySem L2 Y
open Y.Enc (enc)
theorem atI_map0 {α β : Type} (f : α → β) (xs : List α) (i : Int) : atI (xs.map f) i = (atI xs i).map f := by
  unfold atI
  rw [List.length_map]
  cases ixN xs.length i with
  | none => rfl
  | some q => show (xs.map f)[q]? = (xs[q]?).map f; rw [List.getElem?_map]
theorem below_eq (a b : Tup Int) : l_below a b = Sp.pure (decide (((a.l.zip b.l).filter fun p => decide (p.2 < p.1)) = [])) := by
  unfold l_below
  congr 1
  simp only [List.map_eq_nil_iff]
theorem least_eq (cuts : Tup Int) (gaps : Tup (Tup Int)) (far : Int) (n : Nat) (h1 : cuts.l.length = n) (h2 : gaps.l.length = n) (hg : ∀ g ∈ gaps.l, g.l.Pairwise (· < ·) ∧ ∀ d ∈ g.l, 0 ≤ d ∧ d < far) (hm : (allZ far n).length ≤ 100000) :
    l_least cuts gaps ((allZ far n).map Tup.mk) = Sp.pure ((filedZ (cuts.l.zip gaps.l)).map fun l => (strkZ cuts.l l, ⟨l⟩)) := by
  unfold l_least
  simp only [Sp.pure_bind, Sp.bind_pure', below_eq, Sp.hush_pure]
  rw [Sp.comp_filter (p := fun o : Tup Int => decide (((cuts.l.zip o.l).filter fun p => decide (p.2 < p.1)) = [])) (g := fun o => o) (fun x _ => rfl)]
  simp only [Sp.pure_bind, List.map_id', List.map_eq_nil_iff]
  generalize hgood : (((allZ far n).map Tup.mk).filter fun o : Tup Int => decide (((cuts.l.zip o.l).filter fun p => decide (p.2 < p.1)) = [])).filter (fun o : Tup Int => decide (((o.l.zip gaps.l).filter fun p => !decide (p.1 ∈ p.2.l)) = [])) = good
  have mem : ∀ o : Tup Int, o ∈ good ↔ (o.l.length = n ∧ ∀ c ∈ o.l, 0 ≤ c ∧ c < far) ∧ leA cuts.l o.l ∧ inG o.l gaps.l := by
    intro o
    rw [← hgood, List.mem_filter, List.mem_filter, decide_eq_true_eq, decide_eq_true_eq, leA_iff, inG_iff, List.mem_map]
    constructor
    · rintro ⟨⟨⟨l, hl, rfl⟩, a⟩, b⟩
      exact ⟨allZ_mem.mp hl, a, b⟩
    · rintro ⟨a, b, c⟩
      exact ⟨⟨⟨o.l, allZ_mem.mpr a, rfl⟩, b⟩, c⟩
  have hlen : good.length ≤ 100000 := by
    rw [← hgood]
    refine Nat.le_trans (List.length_filter_le _ _) (Nat.le_trans (List.length_filter_le _ _) ?_)
    rw [List.length_map]
    exact hm
  have asc : ∀ g ∈ gaps.l, g.l.Pairwise (· < ·) := fun g h => (hg g h).1
  have ranged : ∀ {gs : List (Tup Int)} {o : List Int}, o.length = gs.length → (∀ g ∈ gs, ∀ d ∈ g.l, 0 ≤ d ∧ d < far) → inG o gs → ∀ c ∈ o, 0 ≤ c ∧ c < far := by
    intro gs
    induction gs with
    | nil => intro o ho _ _ c hc; rw [List.length_eq_zero_iff.mp ho] at hc; cases hc
    | cons g gs ih =>
      intro o ho hr hi c hc
      cases o with
      | nil => cases ho
      | cons a o =>
        rcases List.mem_cons.mp hc with rfl | hc
        · exact hr g List.mem_cons_self _ hi.1
        · exact ih (by simpa using ho) (fun g hg' => hr g (List.mem_cons_of_mem _ hg')) hi.2 c hc
  by_cases hne : good = []
  · rw [if_pos (by rw [hne]; rfl)]
    cases e : filedZ (cuts.l.zip gaps.l) with
    | none => rfl
    | some l =>
      obtain ⟨a, b, _⟩ := filed_goodZ (by rw [h1, h2]) e
      have hl : l.length = n := by rw [filed_len e, List.length_zip, h1, h2, Nat.min_self]
      have : (⟨l⟩ : Tup Int) ∈ good := (mem _).mpr ⟨⟨hl, ranged (by rw [hl, h2]) (fun g h => (hg g h).2) b⟩, a, b⟩
      rw [hne] at this
      cases this
  · rw [if_neg (by rw [decide_eq_true_eq]; exact hne)]
    rw [sorted_intTup _ (by rw [List.length_map]; omega), Sp.pure_bind]
    obtain ⟨m, hm1, hm2, hm3⟩ := sortZ_head (xs := good.map fun other3 : Tup Int => (((((cuts.l.zip other3.l).filter fun p2 => !decide (p2.1 = p2.2)).map fun _ => (1 : Int)).length : Int), other3)) (by simpa using hne)
    rw [hm1, Sp.lift_some, Sp.pure_bind]
    obtain ⟨o, ho, rfl⟩ := List.mem_map.mp hm2
    obtain ⟨⟨o1, o2⟩, o3, o4⟩ := (mem o).mp ho
    obtain ⟨l, e, l1, l2⟩ := filed_bestZ (cs := cuts.l) (gs := gaps.l) (o := o.l) (by rw [h1, h2]) (by rw [o1, h1]) asc o3 o4
    obtain ⟨a, b, c⟩ := filed_goodZ (by rw [h1, h2]) e
    have hl : l.length = n := by rw [filed_len e, List.length_zip, h1, h2, Nat.min_self]
    have hmem : (⟨l⟩ : Tup Int) ∈ good := (mem _).mpr ⟨⟨hl, ranged (by rw [hl, h2]) (fun g h => (hg g h).2) b⟩, a, b⟩
    have hle := hm3 _ (List.mem_map.mpr ⟨_, hmem, rfl⟩)
    rw [leD_intTup] at hle
    simp only [List.length_map, Bool.or_eq_true, decide_eq_true_eq, Bool.and_eq_true] at hle
    have d1 : (((cuts.l.zip o.l).filter fun p2 => !decide (p2.1 = p2.2)).length : Int) = dif cuts.l o.l := rfl
    have d2 : (((cuts.l.zip l).filter fun p2 => !decide (p2.1 = p2.2)).length : Int) = dif cuts.l l := rfl
    rw [d1, d2] at hle
    have heq : dif cuts.l o.l = dif cuts.l l ∧ leL o.l l = true := by
      rcases hle with h | ⟨h, h'⟩
      · omega
      · exact ⟨by omega, h'⟩
    have : l = o.l := leL_anti (leA_leL (by rw [hl, o1]) l1) heq.2
    rw [e]
    show Sp.pure _ = Sp.pure _
    congr 2
    simp only [List.length_map]
    rw [d1, c, ← this]
    cases o
    cases this
    rfl
end H
namespace H
open PySem L2 Y
open Y.Enc (enc)
open Y.Sp (Holds)
theorem cuts_holds (size far : Int) (h : 0 ≤ size) (h2 : size ≤ 1000) (h0 : 0 < far) (h1 : far ≤ 1000) : Holds (l_cuts size far) size.toNat (fun v => v.l.length = size.toNat ∧ ∀ c ∈ v.l, 0 ≤ c ∧ c < far) := by
  unfold l_cuts
  simp only [Sp.pure_bind, Sp.need_bind]
  refine Holds.need ⟨by omega, by omega⟩ ?_
  refine (Holds.bind (d := 0) (Holds.compAll (c := 1) (R := fun _ v => 0 ≤ v ∧ v < far) (fun _ => Holds.take h0 (by omega)) (irange size)) fun ys hy => Holds.pure ⟨?_, hy.right fun _ _ h => h⟩).more (by rw [irange_len]; omega)
  rw [← hy.length, irange_len]
theorem irange_asc (n : Int) : (irange n).Pairwise (· < ·) := by
  unfold irange
  rw [List.pairwise_map]
  exact List.pairwise_lt_range.imp fun h => by omega
def gapOk (far : Int) (g : Tup Int) : Prop := g.l.Pairwise (· < ·) ∧ ∀ d ∈ g.l, 0 ≤ d ∧ d < far
theorem gaps_holds (size far : Int) (h : 0 ≤ size) (h2 : size ≤ 1000) (h0 : 0 < far) (h1 : far ≤ 1000) : Holds (l_gaps size far) (1001 * size.toNat) (fun v => v.l.length = size.toNat ∧ ∀ g ∈ v.l, gapOk far g) := by
  unfold l_gaps
  simp only [Sp.pure_bind, Sp.need_bind]
  refine Holds.need ⟨by omega, by omega⟩ ?_
  refine (Holds.bind (d := 0) (Holds.fold (c := 1001) (fun r s => s.length + r.length = size.toNat ∧ ∀ g ∈ s, gapOk far g) (fun x r s hs => ?_) (xs := irange size) ⟨by rw [irange_len]; simp, fun _ h => by cases h⟩) fun s hs => Holds.pure ⟨by simpa using hs.1, hs.2⟩).more (by rw [irange_len]; omega)
  rw [List.length_cons] at hs
  refine Holds.need ⟨by omega, by omega⟩ ?_
  refine (Holds.bind (c := 1000) (d := 1) ((Holds.compSub (c := 1) (fun x => Holds.bind (d := 0) (Holds.take (by omega) (by omega)) fun v _ => Holds.pure trivial) (irange far)).more (by rw [irange_len]; omega)) fun ys hy => ?_)
  refine (Holds.bind (c := 1) (d := 0) (P := gapOk far) ?_ fun g hg => ?_)
  · refine Holds.ite (fun _ => Holds.pure ⟨(irange_asc far).sublist hy, fun d hd => irange_mem.mp (hy.subset hd)⟩) (fun _ => Holds.bind (d := 0) (Holds.take h0 (by omega)) fun v hv => Holds.pure ⟨List.pairwise_singleton _ _, fun d hd => ?_⟩)
    rw [List.mem_singleton.mp hd]
    exact hv
  · unfold Sp.app
    simp only [Sp.need_bind, Sp.pure_bind]
    refine Holds.need (sizeLine_big (by omega)) (Holds.pure ⟨by rw [List.length_append, List.length_singleton]; omega, fun g' hg' => ?_⟩)
    rcases List.mem_append.mp hg' with h | h
    · exact hs.2 g' h
    · rw [List.mem_singleton.mp h]
      exact hg
end H
namespace H
open PySem L2 Y
open Y.Enc (enc)
open Y.Sp (Holds)
def bestC (keys : List (Tup Int)) (g : Tup (Tup Int)) : Option (Int × Tup Int) := ((enumL keys).foldl (bestG g.l) (none, 0)).1
theorem enumL_asc (keys : List (Tup Int)) : (enumL keys).Pairwise fun p q => p.1 < q.1 := by
  unfold enumL
  rw [List.pairwise_map]
  have : (keys.zipIdx.map (·.2)).Pairwise (· < ·) := by
    rw [List.zipIdx_map_snd]
    exact List.pairwise_lt_range'
  rw [List.pairwise_map] at this
  exact this.imp fun h => by omega
/-- the law's own best: the head of the sorted list -/
theorem best_head (keys : List (Tup Int)) (g : Tup (Tup Int)) (hne : (enumL keys).filterMap (candZ g.l) ≠ []) : ∃ m, atI (sortZ ((enumL keys).filterMap (candZ g.l))) 0 = some m ∧ bestC keys g = some (m.b, m.c) := by
  obtain ⟨m, h1, h2, h3⟩ := sortZ_head hne
  refine ⟨m, h1, ?_⟩
  rcases best_min g.l (enumL keys) (none, 0) [] (enumL_asc keys) (fun _ h => by cases h) (.inl ⟨rfl, rfl⟩) with ⟨h, _⟩ | ⟨m', h4, h5, h6⟩
  · exact absurd (by simpa using h) hne
  · rw [List.nil_append] at h4 h6
    unfold bestC
    rw [h5]
    have a := h3 m' h4
    have b := h6 m h2
    rw [leD_int2Tup] at a
    simp only [Bool.or_eq_true, decide_eq_true_eq, Bool.and_eq_true] at a
    have e : m.b = m'.b := by omega
    obtain ⟨p, hp, ep⟩ := List.mem_filterMap.mp h2
    obtain ⟨q, hq, eq⟩ := List.mem_filterMap.mp h4
    have e1 : m.b = p.1 := by
      unfold candZ at ep
      obtain ⟨l, _, rfl⟩ := Option.map_eq_some_iff.mp ep
      rfl
    have e2 : m'.b = q.1 := by
      unfold candZ at eq
      obtain ⟨l, _, rfl⟩ := Option.map_eq_some_iff.mp eq
      rfl
    have hpq : p = q := by
      unfold enumL at hp hq
      obtain ⟨p', hp', rfl⟩ := List.mem_map.mp hp
      obtain ⟨q', hq', rfl⟩ := List.mem_map.mp hq
      have : p'.2 = q'.2 := by
        have e1 : m.b = (p'.2 : Int) := e1
        have e2 : m'.b = (q'.2 : Int) := e2
        omega
      have h1 := List.mk_mem_zipIdx_iff_getElem?.mp hp'
      have h2 := List.mk_mem_zipIdx_iff_getElem?.mp hq'
      rw [this, h2] at h1
      have : p'.1 = q'.1 := (Option.some.inj h1).symm
      simp_all
    rw [hpq, eq] at ep
    cases ep
    rfl
theorem best_nil (keys : List (Tup Int)) (g : Tup (Tup Int)) (h : (enumL keys).filterMap (candZ g.l) = []) : bestC keys g = none := by
  rcases best_min g.l (enumL keys) (none, 0) [] (enumL_asc keys) (fun _ h => by cases h) (.inl ⟨rfl, rfl⟩) with ⟨_, h⟩ | ⟨m', h4, _⟩
  · exact h
  · rw [List.nil_append, h] at h4
    cases h4
end H
namespace H
open PySem L2 Y
open Y.Enc (enc)
open Y.Sp (Holds)
/-- what both sides tell of the locks -/
def dueL (keys : List (Tup Int)) (d : Dct Sx (Tup (Tup Int))) (ns : List Sx) : List (Sx × Option (Int × Tup Int)) := ns.filterMap fun n => (d.get n).bind fun g => (bestC keys g).map fun b => (n, some b)
theorem dueL_keys (keys : List (Tup Int)) (d : Dct Sx (Tup (Tup Int))) (ns : List Sx) : ((dueL keys d ns).map (·.1)).Sublist ns := by
  unfold dueL
  induction ns with
  | nil => exact .slnil
  | cons n ns ih =>
    rw [List.filterMap_cons]
    split
    · exact ih.cons n
    · rename_i b e
      rw [List.map_cons]
      obtain ⟨g, hg, e⟩ := Option.bind_eq_some_iff.mp e
      obtain ⟨x, hx, rfl⟩ := Option.map_eq_some_iff.mp e
      exact ih.cons_cons n
theorem openings_eq (keys : List (Tup Int)) (d : Dct Sx (Tup (Tup Int))) (n : Nat) (hd : d.keys.Nodup) (hl : d.l.length < 64) (hg : ∀ p ∈ d.l, p.2.l.length = n) (hk : ∀ k ∈ keys, k.l.length = n) (hn : n ≤ 1000) :
    p_best_openings ⟨keys⟩ d = Sp.pure ⟨dueL keys d (sortZ d.keys)⟩ := by
  unfold p_best_openings
  rw [sortKeys_sx d hl, Sp.pure_bind]
  have hp := sortZ_perm d.keys
  have hlen : (sortZ d.keys).length < 64 := by rw [hp.length_eq, List.length_map]; exact hl
  have hnd : (sortZ d.keys).Nodup := hp.nodup_iff.mpr hd
  have hget : ∀ x ∈ sortZ d.keys, ∃ g, d.get x = some g ∧ g.l.length = n := fun x hx => by
    obtain ⟨p, hp', rfl⟩ := List.mem_map.mp (hp.mem_iff.mp hx)
    exact ⟨p.2, Dct.get_mem hd hp', hg p hp'⟩
  rw [compD_new (g := fun x => (d.get x).map fun g => (x, bestC keys g)) (fun x hx => by
    obtain ⟨g, h1, h2⟩ := hget x hx
    simp only [Sp.hush_pure, Sp.pure_bind, if_true, h1, Sp.lift_some, Option.map_some]
    rw [best_eq ⟨keys⟩ g (fun k hk' => by rw [hk k hk', h2]) (by rw [h2]; exact hn)]
    rfl)]
  have e1 : (sortZ d.keys).filterMap (fun x => (d.get x).map fun g => (x, bestC keys g)) = (sortZ d.keys).map fun x => (x, (d.get x).bind fun g => bestC keys g) := by
    generalize sortZ d.keys = ns at hget
    clear hp hlen hnd
    induction ns with
    | nil => rfl
    | cons x ns ih =>
      obtain ⟨g, h1, _⟩ := hget x List.mem_cons_self
      rw [List.filterMap_cons, List.map_cons, ih fun y hy => hget y (List.mem_cons_of_mem _ hy), h1]
      rfl
  rw [e1, puts_new _ _ (by
    show (([] : List Sx) ++ (List.map (fun x : Sx × Option (Int × Tup Int) => x.1) _)).Nodup
    rw [List.nil_append, List.map_map]
    have : ((fun x : Sx × Option (Int × Tup Int) => x.1) ∘ fun x => (x, (d.get x).bind fun g => bestC keys g)) = id := rfl
    rw [this, List.map_id]
    exact hnd) (by show 0 + _ ≤ _; rw [List.length_map]; omega)]
  simp only [Sp.pure_bind, List.nil_append]
  have e2 : ((((sortZ d.keys).map fun x => (x, (d.get x).bind fun g => bestC keys g)).filter fun p => p.2.isSome).map fun p => (p.1, p.2)) = dueL keys d (sortZ d.keys) := by
    unfold dueL
    generalize sortZ d.keys = ns
    induction ns with
    | nil => rfl
    | cons x ns ih =>
      rw [List.map_cons, List.filter_cons, List.filterMap_cons]
      cases d.get x with
      | none => exact ih
      | some g =>
        simp only [Option.bind_some]
        cases bestC keys g with
        | none => exact ih
        | some b =>
          simp only [Option.isSome_some, if_true, Option.map_some, List.map_cons]
          rw [ih]
  rw [e2, puts_new _ _ (by
    show (([] : List Sx) ++ _).Nodup
    rw [List.nil_append]
    exact hnd.sublist (dueL_keys _ _ _)) (by
    have := (dueL_keys keys d (sortZ d.keys)).length_le
    rw [List.length_map] at this
    show 0 + _ ≤ _
    omega)]
  rfl
end H
namespace H
open PySem L2 Y
open Y.Enc (enc)
open Y.Sp (Holds)
theorem cut_sub {α : Type} (xs : List α) (l h : Option Int) : (cutZ xs l h).Sublist xs := (List.take_sublist _ _).trans (List.drop_sublist _ _)
/-- one name's turn -/
theorem turn_eq (keys every : List (Tup Int)) (gaps : Tup (Tup Int)) (far : Int) (n : Nat) (hk : ∀ k ∈ keys, k.l.length = n) (hn : n ≤ 1000) (hkl : keys.length ≤ 1000) (hg : gaps.l.length = n ∧ ∀ g ∈ gaps.l, gapOk far g) (he : every = (allZ far n).map Tup.mk) (hm : (allZ far n).length ≤ 100000) :
    (Sp.comp (fun (p3 : Int × Tup Int) => Sp.bind (Sp.hush (Sp.bind (l_least p3.2 gaps every) fun x8 => Sp.pure (x8, p3.1))) fun v => Sp.pure (some v)) (enumL keys)) = Sp.pure ((enumL keys).map fun p => ((filedZ (p.2.l.zip gaps.l)).map fun l => (strkZ p.2.l l, (⟨l⟩ : Tup Int)), p.1)) := by
  refine Sp.comp_map fun p hp => ?_
  have : p.2.l.length = n := by
    unfold enumL at hp
    obtain ⟨q, hq, rfl⟩ := List.mem_map.mp hp
    exact hk _ (List.fst_mem_of_mem_zipIdx hq)
  subst he
  rw [least_eq p.2 gaps far n this hg.1 hg.2 hm]
  rfl
theorem turn2_eq (gaps : Tup (Tup Int)) (f : Option (Int × Tup Int) × Int → Sp (Option Cand)) (hf : ∀ p, f p = Sp.pure (p.1.map fun x => (⟨x.1, p.2, x.2⟩ : P3 Int Int (Tup Int)))) (ps : List (Int × Tup Int)) : Sp.comp f (ps.map fun p => ((filedZ (p.2.l.zip gaps.l)).map fun l => (strkZ p.2.l l, (⟨l⟩ : Tup Int)), p.1)) = Sp.pure (ps.filterMap (candZ gaps.l)) := by
  rw [Sp.comp_eq (fun p4 _ => hf p4)]
  congr 1
  rw [List.filterMap_map]
  congr 1
  funext p
  show ((filedZ (p.2.l.zip gaps.l)).map fun l => (strkZ p.2.l l, (⟨l⟩ : Tup Int))).map _ = _
  rw [Option.map_map]
  rfl
end H
namespace H
open PySem L2 Y
open Y.Enc (enc)
open Y.Sp (Holds)
/-- the law's table of what is due -/
theorem due_loop (f : Sx → Dct Sx (Option (Int × Tup Int)) → Sp (Dct Sx (Option (Int × Tup Int)))) (keys : List (Tup Int)) (d : Dct Sx (Tup (Tup Int))) (hf : ∀ x s g, d.get x = some g → f x s = match bestC keys g with | none => Sp.pure s | some b => Sp.put s x (some b)) :
    ∀ (xs : List Sx) (s : Dct Sx (Option (Int × Tup Int))), (s.keys ++ xs).Nodup → s.l.length + xs.length ≤ 1000 → (∀ x ∈ xs, ∃ g, d.get x = some g) → Sp.fold f xs s = Sp.pure ⟨s.l ++ dueL keys d xs⟩
  | [], s, _, _, _ => by
    show Sp.pure s = Sp.pure (⟨s.l ++ []⟩ : Dct _ _)
    rw [List.append_nil]
  | x :: xs, s, hn, hl, hx => by
    obtain ⟨g, hg⟩ := hx x List.mem_cons_self
    rw [List.length_cons] at hl
    show Sp.bind (f x s) (fun s' => Sp.fold f xs s') = _
    rw [hf x s g hg]
    have hxs : (s.keys ++ xs).Nodup := hn.sublist (List.Sublist.append_left (List.sublist_cons_self x xs) _)
    have e : dueL keys d (x :: xs) = (match bestC keys g with | none => [] | some b => [(x, some b)]) ++ dueL keys d xs := by
      unfold dueL
      rw [List.filterMap_cons, hg, Option.bind_some]
      cases bestC keys g <;> rfl
    rw [e]
    cases c : bestC keys g with
    | none =>
      show Sp.fold f xs s = _
      rw [due_loop f keys d hf xs s hxs (by omega) fun y hy => hx y (List.mem_cons_of_mem _ hy)]
      rfl
    | some b =>
      have hk : x ∉ s.keys := by
        rw [List.nodup_append] at hn
        exact fun h => hn.2.2 _ h _ List.mem_cons_self rfl
      show Sp.bind (Sp.put s x (some b)) _ = _
      unfold Sp.put
      rw [Sp.need_t (sizeLine_big (by omega)), Sp.pure_bind, Dct.put_new _ hk]
      have e2 : (⟨s.l ++ [(x, some b)]⟩ : Dct Sx (Option (Int × Tup Int))).keys = s.keys ++ [x] := by
        unfold Dct.keys
        rw [List.map_append]
        rfl
      rw [due_loop f keys d hf xs ⟨s.l ++ [(x, some b)]⟩ (by rw [e2, List.append_assoc]; exact hn) (by show (s.l ++ [_]).length + _ ≤ _; rw [List.length_append, List.length_singleton]; omega) fun y hy => hx y (List.mem_cons_of_mem _ hy)]
      show Sp.pure (⟨s.l ++ [(x, some b)] ++ dueL keys d xs⟩ : Dct Sx (Option (Int × Tup Int))) = _
      rw [List.append_assoc]
theorem get_some_mem {κ α : Type} [DecidableEq κ] {d : Dct κ α} {k : κ} {v : α} (h : d.get k = some v) : (k, v) ∈ d.l := by
  unfold Dct.get at h
  obtain ⟨p, hp, rfl⟩ := Option.map_eq_some_iff.mp h
  have h1 := List.find?_some hp
  rw [← of_decide_eq_true h1]
  exact List.mem_of_find?_eq_some hp
theorem names_nodup : ([(sx "safe"), (sx "hall"), (sx "a"), (sx "yard"), (sx "zz")] : List Sx).Nodup := by
  have : (([(sx "safe"), (sx "hall"), (sx "a"), (sx "yard"), (sx "zz")] : List Sx).map fun s => s.v).Nodup := by decide +kernel
  exact List.Pairwise.of_map _ (fun a b h e => h (by rw [e])) this
theorem law_holds (ns : List Int) : Holds (law_t ns) (6 * 40000) (fun v => v = true) := by
  unfold law_t
  simp only [Sp.pure_bind, Sp.need_bind, Sp.flow_need]
  refine Holds.need ⟨by omega, by omega⟩ ?_
  refine Holds.more (c := 40000 * (irange 6).length + 0) ?_ (by rw [irange_len]; decide)
  refine Holds.flow (I := fun _ => True) ?_ fun s _ => Holds.pure rfl
  refine Holds.loop (c := 40000) (fun _ _ => True) (fun lap r s _ => ?_) trivial
  rw [shape_eq]
  refine (Holds.bind (d := 39999) (Holds.pick (by simp) (by simp)) fun p hp => ?_).more (by omega)
  have hp' : 1 ≤ p.1 ∧ p.1 ≤ 6 ∧ 2 ≤ p.2 ∧ p.2 ≤ 10 ∧ p.2.toNat ^ p.1.toNat ≤ 200 := by
    simp only [List.mem_cons, List.not_mem_nil, or_false] at hp
    rcases hp with rfl | rfl | rfl | rfl | rfl | rfl | rfl | rfl | rfl | rfl <;> decide
  obtain ⟨s1, s2, f1, f2, pw⟩ := hp'
  rw [every_eq p.1 p.2 (by omega) (by omega) (by omega) (by omega) (by omega), Sp.pure_bind]
  simp only [Sp.bind_assoc, Sp.pure_bind, Sp.need_bind]
  refine (Holds.bind (c := 1) (d := 39998) (Holds.take (by omega) (by omega)) fun q hq => ?_).more (by omega)
  refine Holds.need ⟨by omega, by omega⟩ ?_
  refine (Holds.bind (c := 36) (d := 39000) ((Holds.compAll (c := p.1.toNat) (R := fun _ (v : Tup Int) => v.l.length = p.1.toNat ∧ ∀ c ∈ v.l, 0 ≤ c ∧ c < p.2) (fun _ => cuts_holds p.1 p.2 (by omega) (by omega) (by omega) (by omega)) (irange q)).more ?_) fun keys hkeys => ?_).more (by omega)
  · rw [irange_len]
    exact Nat.le_trans (Nat.mul_le_mul (show p.1.toNat ≤ 6 by omega) (show q.toNat ≤ 6 by omega)) (by decide)
  have hklen : keys.length ≤ 6 := by rw [← hkeys.length, irange_len]; omega
  have hkall := hkeys.right (P := fun v : Tup Int => v.l.length = p.1.toNat) fun _ _ h => h.1
  refine (Holds.bind (c := 5) (d := 38000) (Holds.shuffled (by simp)) fun x3 hx3 => ?_).more (by omega)
  refine (Holds.bind (c := 1) (d := 37000) (Holds.take (by omega) (by omega)) fun x4 hx4 => ?_).more (by omega)
  generalize hnames : cutZ x3 none (some x4) = names
  have hsub : names.Sublist x3 := by rw [← hnames]; exact cut_sub _ _ _
  have hnd : names.Nodup := (hx3.nodup_iff.mpr names_nodup).sublist hsub
  have hnl : names.length ≤ 5 := by
    have := hsub.length_le
    rw [hx3.length_eq] at this
    exact this
  refine (Holds.bind (c := 36036) (d := 0) ((Holds.compAll (c := 1001 * p.1.toNat) (R := fun (x : Sx) (v : Sx × Tup (Tup Int)) => v.1 = x ∧ v.2.l.length = p.1.toNat ∧ ∀ g ∈ v.2.l, gapOk p.2 g) (fun x => Holds.bind (d := 0) (gaps_holds p.1 p.2 (by omega) (by omega) (by omega) (by omega)) fun v hv => Holds.pure ⟨rfl, hv⟩) names).more ?_) fun pairs hpairs => ?_).more (by omega)
  · exact Nat.le_trans (Nat.mul_le_mul (Nat.mul_le_mul (Nat.le_refl 1001) (show p.1.toNat ≤ 6 by omega)) (show names.length ≤ 6 by omega)) (by decide)
  have hmap : pairs.map (·.1) = names := by
    have := hpairs.map (f := fun v : Sx × Tup (Tup Int) => v.1) (g := id) fun _ _ h => h.1
    rw [List.map_id] at this
    exact this
  rw [ofL_eq pairs (by rw [hmap]; exact hnd)]
  have hkd : (⟨pairs⟩ : Dct Sx (Tup (Tup Int))).keys = names := hmap
  have hpl : pairs.length ≤ 5 := by rw [← hpairs.length]; exact hnl
  have hpall := hpairs.right (P := fun v : Sx × Tup (Tup Int) => v.2.l.length = p.1.toNat ∧ ∀ g ∈ v.2.l, gapOk p.2 g) fun _ _ h => h.2
  have hsp := sortZ_perm names
  have hget : ∀ x ∈ sortZ names, ∃ g, (⟨pairs⟩ : Dct Sx (Tup (Tup Int))).get x = some g ∧ (g.l.length = p.1.toNat ∧ ∀ h ∈ g.l, gapOk p.2 h) := fun x hx => by
    have hx' := hsp.mem_iff.mp hx
    rw [← hmap] at hx'
    obtain ⟨v, hv, rfl⟩ := List.mem_map.mp hx'
    exact ⟨v.2, Dct.get_mem (by rw [hkd]; exact hnd) hv, hpall v hv⟩
  have hal : (allZ p.2 p.1.toNat).length ≤ 100000 := by rw [allZ_len]; omega
  rw [sorted_sx names (by omega), Sp.pure_bind]
  rw [due_loop _ keys ⟨pairs⟩ (fun x s g hg => ?_) (sortZ names) ⟨[]⟩ (show (sortZ names).Nodup from hsp.nodup_iff.mpr hnd) (by show 0 + _ ≤ _; rw [hsp.length_eq]; omega) (fun x hx => (hget x hx).imp fun g h => h.1)]
  · rw [Sp.pure_bind, openings_eq keys ⟨pairs⟩ p.1.toNat (by rw [hkd]; exact hnd) (by show pairs.length < 64; omega) (fun v hv => (hpall v hv).1) hkall (by omega), Sp.pure_bind, hkd]
    have hs : ((dueL keys ⟨pairs⟩ (sortZ names)).map (·.1)).Sublist (sortZ names) := dueL_keys _ _ _
    rw [show (⟨[] ++ dueL keys ⟨pairs⟩ (sortZ names)⟩ : Dct Sx (Option (Int × Tup Int))) = ⟨dueL keys ⟨pairs⟩ (sortZ names)⟩ from rfl]
    rw [eqB_refl (⟨dueL keys ⟨pairs⟩ (sortZ names)⟩ : Dct Sx (Option (Int × Tup Int))) ((hsp.nodup_iff.mpr hnd).sublist hs)]
    have hlen : (dueL keys ⟨pairs⟩ (sortZ names)).length ≤ 5 := by
      have := hs.length_le
      rw [List.length_map, hsp.length_eq] at this
      omega
    rw [sortKeys_sx _ (by show (dueL keys ⟨pairs⟩ (sortZ names)).length < 64; omega)]
    have hsort : sortZ ((dueL keys ⟨pairs⟩ (sortZ names)).map (·.1)) = (dueL keys ⟨pairs⟩ (sortZ names)).map (·.1) := sortZ_eq (fun a _ b _ => anti_sx a b) (List.Perm.refl _) ((sortZ_sorted names).sublist hs)
    simp only [Bool.not_true, Bool.false_eq_true, if_false, Sp.pure_bind, hsort, decide_true]
    exact Holds.pure ⟨(), rfl, trivial⟩
  · have hgp := hpall _ (get_some_mem hg)
    simp only [hg, Sp.lift_some, Sp.pure_bind]
    rw [turn_eq keys _ g p.2 p.1.toNat hkall (by omega) (by omega) hgp rfl hal, Sp.pure_bind, turn2_eq g _ (fun p4 => by
      obtain ⟨a, b⟩ := p4
      cases a <;> rfl), Sp.pure_bind]
    by_cases hne : (enumL keys).filterMap (candZ g.l) = []
    · rw [best_nil keys g hne, hne]
      rfl
    · obtain ⟨m, h1, h2⟩ := best_head keys g hne
      rw [if_pos (by rw [decide_eq_false hne]; rfl), sorted_int2Tup _ (by
        have := List.length_filterMap_le (candZ g.l) (enumL keys)
        have e : (enumL keys).length = keys.length := by unfold enumL; rw [List.length_map, List.length_zipIdx]
        omega), Sp.pure_bind, h1, h2]
      simp only [Sp.lift_some, Sp.pure_bind, Sp.bind_pure']
end H
theorem G.law_true (ns : List Int) (hl : ns.length ≤ 63) : ∃ f S', Y.callF G.T G.Wh 6 16 [.ro (ns.map .int)] [] = .ok (.bl true, f) S' :=
  H.law_J ns (k := 1) (Y.Sp.Holds.law (H.law_holds ns) (by decide))
open PySem PySem.W PySem.Calls PyProof.Rows
theorem PySem.Challenge.cw_onlydeeper_k61_several_keys_in_one_hand_holds : PySem.Challenge.rw_onlydeeper_k61_several_keys_in_one_hand.Holds := by
  w_on; o_law
  refine HandSHeadRun.head_any (r := OpenLaw.row PySem.Challenge.rw_onlydeeper_k61_several_keys_in_one_hand) (q := view (OpenLaw.row PySem.Challenge.rw_onlydeeper_k61_several_keys_in_one_hand).prog [22]) (H := G.hk) (ob := G.ob) (M := 2000) (loose := G.loose) (d := HandSHeadRun.topDef (OpenLaw.row PySem.Challenge.rw_onlydeeper_k61_several_keys_in_one_hand).prog 22) (kwd := []) G.ob_eq
    (by kernel_rfl) (fun s => by kernel_rfl) G.run (by kernel_rfl) (by kernel_rfl) (by kernel_rfl) (by rfl) (by first | assumption | decide +kernel) (by decide +kernel) ⟨rfl, rfl, rfl, rfl, rfl, by decide +kernel⟩ ?hw ?hc
  case hw => w_witness2
  case hc =>
    refine L2.walk_ofE (l := PySem.Challenge.rw_onlydeeper_k61_several_keys_in_one_hand) (n := 63) (k := 12) (x := "_law_script") (CX := Y.CXw (PySem.Challenge.rw_onlydeeper_k61_several_keys_in_one_hand).prog) rfl (by decide) (by kernel_rfl) ⟨rfl, by decide, by decide⟩ ?F (fun H s e s' z => Y.cxw_no H s e s' z)
    intro w mg fa h YY GG hmg0
    obtain ⟨K, KX, c⟩ := YY
    have hmg : mg ("law" : PySem.Str) = some (.ref fa) := by
      have e : (HandSHeadRun.topDef (OpenLaw.row PySem.Challenge.rw_onlydeeper_k61_several_keys_in_one_hand).prog 22).name = ("law" : PySem.Str) := by kernel_rfl
      rw [← e]
      exact hmg0
    obtain ⟨fd, hb, hF⟩ := G.facts (P := (PySem.Challenge.rw_onlydeeper_k61_several_keys_in_one_hand).prog) (w := w) KX GG hmg c
    refine ⟨K, fd, _, KX, hb, fun H a ns hl _ hS => ?_, hF⟩
    obtain ⟨f, S', e⟩ := G.law_true ns hl
    exact Y.sp_law hS e
