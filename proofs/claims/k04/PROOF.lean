import PyProof.Rows.All
import Wide.All
import OpenK.AllK
import Wide.FinOn
import HandS.ForMost
import HandS.ForExc
import HandS.CallSlots
import HandS.Defaults
import HandS.Wide
import HandS.Gcd
import KE.KExcIs
import KE.KExcSuper
import HandS.ExcField
import HandS.ExcInit
import KE.SortData
import KE.DataMinMax
import HandS.TupAny
import HandS.TupMul
import HandS.IsInst
import HandS.Zip
import HandS.Sort
import HandS.Dict
import HandS.Style
import HandS.Deep
import HandS.Strs
import KE.KMathG
import HandS.ExcOwn
import HandS.ExcIs
import KE.GoesEnum
import HandS.Conv
import HandS.WideBits
import PyProof.NoPylong
import HandS.DictTup
import KE.KDictWalk
import PyProof.Transfer
import HandS.WideMore
import HandS.Small
import HandS.Ends
import HandS.EndBits
import HandS.HeadHook2
import HandS.Head2
import HandS.WordsExc
import PyProof.ReprBulk
import PyProof.Rows.RegStrFacts
import HandS.Head3
import PySem.Challenge.RW_formsatone_k04_jacobi_symbols
set_option Elab.async false
set_option linter.all false
set_option maxRecDepth 100000
set_option maxHeartbeats 0
/-! part Own1 -/
namespace Own
open PySem PySem.Spec L2

/-! ### data -/
inductive D where
  | non | bl (b : Bool) | int (i : Int) | str (x : Str)
  | tup (xs : List D) | lst (nm : Bool) (xs : List D)
  | dK (ks : List Key) (vs : List D) | dT (ks : List (List Key)) (vs : List D)
  /-- a list that is locked (the script) -/
  | scr (xs : List D)
  /-- an exception of the class c, with its value -/
  | exn (c : Str) (d : D)
  /-- a tuple that is known to bear no dict of its own -/
  | tn (xs : List D)
  /-- a locked thing that is walked, as it stands in the heap -/
  | lk (P : HO → Prop)

/-- no list and no dict in it -/
def D.plain : D → Bool
  | .tup xs => xs.attach.all fun ⟨x, _⟩ => x.plain
  | .lst _ _ => false
  | .dK _ _ => false
  | .dT _ _ => false
  | .scr _ => false
  | .exn _ _ => false
  | .tn _ => false
  | .lk _ => false
  | _ => true

/-- tuples of these contents are always tracked: they may be keys -/
def kgood (ds : List D) : Bool := decide (ds.length = 3) && ds.all fun d => match d with
  | .int _ => true
  | _ => false
def gcon (ds : List D) : Bool := !kgood ds
/-- a tuple: tracked, or any if it is no key -/
def TupAt (K : PySem.W.Frag) (H : Hp) (a : Addr) (vs : List V) (ds : List D) : Prop := H a = some (.tup vs) ∨ gcon ds = true ∧ SqT K H a vs
theorem TupAt.sq {K : PySem.W.Frag} {H : Hp} {a : Addr} {vs : List V} {ds : List D} (h : TupAt K H a vs ds) : SqT K H a vs := h.elim (fun z => .inl (.inl z)) fun z => z.2
theorem TupAt.key {K : PySem.W.Frag} {H : Hp} {a : Addr} {vs : List V} {ds : List D} (h : TupAt K H a vs ds) (g : gcon ds = false) : H a = some (.tup vs) := h.elim id fun z => by rw [g] at z; cases z.1
def ScrAt (K : PySem.W.Frag) (H : Hp) (a : Addr) (vs : List V) : Prop := (∃ o, H a = some (.frz o (.lst vs))) ∨ ∃ (o : Obj) (its : Array Value) (n : Nat), K.lookup a = some o ∧ o.cls = .type "list" ∧ o.dict = none ∧ o.data = .seq its n ∧ its.size ≤ sizeLine ∧ Vals vs its.toList
theorem ScrAt.sq {K : PySem.W.Frag} {H : Hp} {a : Addr} {vs : List V} (h : ScrAt K H a vs) : SqL K H a vs := h.imp .inr id
/-- an exception class whose instances have their value in their dict: what is asked of its written part -/
def excOk (K : PySem.W.Frag) (a : Addr) : Bool :=
  decide (PySem.W.findIn K (.ref a) "__getattribute__" = some (some (.builtin "BaseException.__getattribute__"))) && (decide (PySem.W.findIn K (.ref a) "__getattr__" = some none) && (decide (PySem.W.subIn K (.ref a) (.type "BaseException") = some true) && (PySem.W.hasDictIn K a &&
  (decide (PySem.W.findIn K (.ref a) "__class__" = some (some (.builtin "object.__class__"))) && (decide (PySem.W.specialIn K (.builtin "object.__class__") "__get__" = some (some (.builtin "getset_descriptor.__get__"))) && (decide (PySem.W.takesIn K (.builtin "object.__class__") = some true) &&
  (decide (PySem.W.mroIn K a (.type "object") = some true) && (decide (PySem.W.findIn K (.ref a) "value" = some none) && (["int", "bool", "str", "tuple", "list", "dict"].all fun t => decide (PySem.W.kitOne K (.ref a) (.type t) = some false))))))))))
structure ExcK (K : PySem.W.Frag) (a : Addr) : Prop where
  ga : PySem.W.findIn K (.ref a) "__getattribute__" = some (some (.builtin "BaseException.__getattribute__"))
  gg : PySem.W.findIn K (.ref a) "__getattr__" = some none
  be : PySem.W.subIn K (.ref a) (.type "BaseException") = some true
  hd : PySem.W.hasDictIn K a = true
  cl : PySem.W.findIn K (.ref a) "__class__" = some (some (.builtin "object.__class__"))
  sp : PySem.W.specialIn K (.builtin "object.__class__") "__get__" = some (some (.builtin "getset_descriptor.__get__"))
  tk : PySem.W.takesIn K (.builtin "object.__class__") = some true
  ob : PySem.W.mroIn K a (.type "object") = some true
  va : PySem.W.findIn K (.ref a) "value" = some none
  ty : ∀ t ∈ ["int", "bool", "str", "tuple", "list", "dict"], PySem.W.kitOne K (.ref a) (.type t) = some false
theorem excOk_k {K : PySem.W.Frag} {a : Addr} (h : excOk K a = true) : ExcK K a := by
  unfold excOk at h
  obtain ⟨h1, h⟩ := Bool.and_eq_true_iff.mp h
  obtain ⟨h2, h⟩ := Bool.and_eq_true_iff.mp h
  obtain ⟨h3, h⟩ := Bool.and_eq_true_iff.mp h
  obtain ⟨h4, h⟩ := Bool.and_eq_true_iff.mp h
  obtain ⟨h5, h⟩ := Bool.and_eq_true_iff.mp h
  obtain ⟨h6, h⟩ := Bool.and_eq_true_iff.mp h
  obtain ⟨h7, h⟩ := Bool.and_eq_true_iff.mp h
  obtain ⟨h8, h⟩ := Bool.and_eq_true_iff.mp h
  obtain ⟨h9, h⟩ := Bool.and_eq_true_iff.mp h
  exact ⟨of_decide_eq_true h1, of_decide_eq_true h2, of_decide_eq_true h3, h4, of_decide_eq_true h5, of_decide_eq_true h6, of_decide_eq_true h7, of_decide_eq_true h8, of_decide_eq_true h9, fun t ht => of_decide_eq_true (List.all_eq_true.mp h t ht)⟩
/-- the class that a global names -/
def clsK (K : PySem.W.Frag) (c : Str) (a : Addr) : Prop := PySem.W.nsIn K mainGlobals c = some (some (.ref a)) ∧ excOk K a = true
/-- an exception that was caught: of the class at C, its dict at d -/
def exv (e C d : Addr) : HO := .ext fun h => ∃ (oe : Obj) (vs : Array Value), h.get? e = some oe ∧ oe.cls = .ref C ∧ oe.dict = some d ∧ oe.data = .fields vs
/-- what is never written -/
def Fx : HO → Prop
  | .tup _ => True
  | .frz _ _ => True
  | .xd _ => True
  | .ext _ => True
  | _ => False
/-- a dict: in the region, or locked for good -/
def DkAt (R : Bool → Addr → Prop) (H : Hp) (a : Addr) (kvs : List (Key × V)) : Prop := (H a = some (.dK kvs) ∧ R false a) ∨ ∃ o, H a = some (.frz o (.dK kvs))
/-- a locked dict -/
def LkD (u : HO) : Prop := ∃ (o : Obj) (kvs : List (Key × V)), u = .frz o (.dK kvs)
theorem LkD.fx {u : HO} (h : LkD u) : Fx u := by obtain ⟨o, k, rfl⟩ := h; exact trivial
mutual
/-- the value v is the datum d in the heap H, its lists and dicts within the region R -/
inductive Dr (K : PySem.W.Frag) (R : Bool → Addr → Prop) (H : Hp) : V → D → Prop
  | non : Dr K R H .non .non
  | bl (b : Bool) : Dr K R H (.bl b) (.bl b)
  | int (i : Int) : Dr K R H (.int i) (.int i)
  | str (x : Str) : Dr K R H (.str x) (.str x)
  | tup {a : Addr} {vs : List V} {ds : List D} : TupAt K H a vs ds → Drs K R H vs ds → Dr K R H (.ref a) (.tup ds)
  | lst {a : Addr} {vs : List V} {nm : Bool} {ds : List D} : H a = some (.lst vs) → R nm a → Drs K R H vs ds → Dr K R H (.ref a) (.lst nm ds)
  | dK {a : Addr} {ks : List Key} {vs : List V} {ds : List D} : DkAt R H a (ks.zip vs) → ks.length = vs.length → Drs K R H vs ds → Dr K R H (.ref a) (.dK ks ds)
  | dT {a : Addr} {ks : List (List Key)} {vs : List V} {ds : List D} : H a = some (.dT (ks.zip vs)) → ks.length = vs.length → R false a → Drs K R H vs ds → Dr K R H (.ref a) (.dT ks ds)
  | scr {a : Addr} {vs : List V} {ds : List D} : ScrAt K H a vs → Drs K R H vs ds → Dr K R H (.ref a) (.scr ds)
  | exn {a b ca : Addr} {v : V} {c : Str} {d : D} : H a = some (exv a ca b) → H b = some (.xd [("value", v)]) → clsK K c ca → Dr K R H v d → Dr K R H (.ref a) (.exn c d)
  | tn {a : Addr} {o : Obj} {vs : List V} {ds : List D} : H a = some (.frz o (.tup vs)) → o.dict = none → Drs K R H vs ds → Dr K R H (.ref a) (.tn ds)
  | lk {a : Addr} {u : HO} {P : HO → Prop} : H a = some u → LkD u → P u → Dr K R H (.ref a) (.lk P)
inductive Drs (K : PySem.W.Frag) (R : Bool → Addr → Prop) (H : Hp) : List V → List D → Prop
  | nil : Drs K R H [] []
  | cons {v : V} {vs : List V} {d : D} {ds : List D} : Dr K R H v d → Drs K R H vs ds → Drs K R H (v :: vs) (d :: ds)
end

section
variable {K : PySem.W.Frag} {R R' : Bool → Addr → Prop} {H H' : Hp}
theorem Drs.length : ∀ {vs : List V} {ds : List D}, Drs K R H vs ds → vs.length = ds.length
  | _, _, .nil => rfl
  | _, _, .cons _ t => by simp [Drs.length t]
theorem Drs.get : ∀ {vs : List V} {ds : List D} {i : Nat} {d : D}, Drs K R H vs ds → ds[i]? = some d → ∃ v, vs[i]? = some v ∧ Dr K R H v d
  | _, _, 0, _, .cons r _, e => by simp at e; subst e; exact ⟨_, rfl, r⟩
  | _, _, i + 1, _, .cons _ t, e => by simpa using Drs.get (i := i) t (by simpa using e)
theorem Drs.getV : ∀ {vs : List V} {ds : List D} {i : Nat} {v : V}, Drs K R H vs ds → vs[i]? = some v → ∃ d, ds[i]? = some d ∧ Dr K R H v d
  | _, _, 0, _, .cons r _, e => by simp at e; subst e; exact ⟨_, rfl, r⟩
  | _, _, i + 1, _, .cons _ t, e => by simpa using Drs.getV (i := i) t (by simpa using e)
theorem Drs.append : ∀ {vs ws : List V} {ds es : List D}, Drs K R H vs ds → Drs K R H ws es → Drs K R H (vs ++ ws) (ds ++ es)
  | _, _, _, _, .nil, s => s
  | _, _, _, _, .cons r t, s => .cons r (Drs.append t s)
theorem Drs.one {v : V} {d : D} (h : Dr K R H v d) : Drs K R H [v] [d] := .cons h .nil
theorem Drs.take : ∀ {vs : List V} {ds : List D} (n : Nat), Drs K R H vs ds → Drs K R H (vs.take n) (ds.take n)
  | _, _, 0, _ => .nil
  | _, _, _ + 1, .nil => .nil
  | _, _, n + 1, .cons r t => .cons r (Drs.take n t)
theorem Drs.drop : ∀ {vs : List V} {ds : List D} (n : Nat), Drs K R H vs ds → Drs K R H (vs.drop n) (ds.drop n)
  | _, _, 0, r => r
  | _, _, _ + 1, .nil => .nil
  | _, _, n + 1, .cons _ t => Drs.drop n t
theorem Drs.set {v : V} {d : D} (r : Dr K R H v d) : ∀ {vs : List V} {ds : List D} (i : Nat), Drs K R H vs ds → Drs K R H (vs.set i v) (ds.set i d)
  | _, _, _, .nil => .nil
  | _, _, 0, .cons _ t => .cons r t
  | _, _, i + 1, .cons q t => .cons q (Drs.set r i t)
theorem Drs.dropLast : ∀ {vs : List V} {ds : List D}, Drs K R H vs ds → Drs K R H vs.dropLast ds.dropLast
  | _, _, .nil => .nil
  | _, _, .cons _ .nil => .nil
  | _, _, .cons r (.cons r' t) => .cons r (Drs.dropLast (.cons r' t))
theorem Drs.reverse : ∀ {vs : List V} {ds : List D}, Drs K R H vs ds → Drs K R H vs.reverse ds.reverse
  | _, _, .nil => .nil
  | _, _, .cons r t => by simpa using (Drs.reverse t).append (Drs.one r)
theorem Drs.rep {vs : List V} {ds : List D} (h : Drs K R H vs ds) : ∀ n : Nat, Drs K R H (List.replicate n vs).flatten (List.replicate n ds).flatten
  | 0 => .nil
  | n + 1 => by simpa [List.replicate_succ] using h.append (Drs.rep h n)

/-- what a datum leans on -/
structure Keep (R : Bool → Addr → Prop) (H H' : Hp) : Prop where
  reg : ∀ nm a o, R nm a → H a = some o → H' a = some o
  fix : ∀ a o, Fx o → H a = some o → H' a = some o
theorem Keep.tup (k : Keep R H H') (a : Addr) (xs : List V) (h : H a = some (.tup xs)) : H' a = some (.tup xs) := k.fix a _ trivial h
theorem Keep.frz (k : Keep R H H') (a : Addr) (o : Obj) (u : HO) (h : H a = some (.frz o u)) : H' a = some (.frz o u) := k.fix a _ trivial h
theorem Keep.refl : Keep R H H := ⟨fun _ _ _ _ h => h, fun _ _ _ h => h⟩
theorem Keep.sqt (k : Keep R H H') {a : Addr} {xs : List V} (h : SqT K H a xs) : SqT K H' a xs := by
  rcases h with (h | ⟨o, h⟩) | h
  · exact .inl (.inl (k.tup _ _ h))
  · exact .inl (.inr ⟨o, k.frz _ _ _ h⟩)
  · exact .inr h
theorem Keep.tat (k : Keep R H H') {a : Addr} {xs : List V} {ds : List D} (h : TupAt K H a xs ds) : TupAt K H' a xs ds := h.imp (fun z => k.tup _ _ z) fun z => ⟨z.1, k.sqt z.2⟩
mutual
theorem Dr.keep (k : Keep R H H') (m : ∀ nm a, R nm a → (∃ o, H a = some o) → R' nm a) : ∀ {v : V} {d : D}, Dr K R H v d → Dr K R' H' v d
  | _, _, .non => .non
  | _, _, .bl b => .bl b
  | _, _, .int i => .int i
  | _, _, .str x => .str x
  | _, _, .tup h t => .tup (k.tat h) (Drs.keep k m t)
  | _, _, .lst h r t => .lst (k.reg _ _ _ r h) (m _ _ r ⟨_, h⟩) (Drs.keep k m t)
  | _, _, .dK h l t => .dK (h.imp (fun z => ⟨k.reg _ _ _ z.2 z.1, m _ _ z.2 ⟨_, z.1⟩⟩) fun ⟨o, z⟩ => ⟨o, k.frz _ _ _ z⟩) l (Drs.keep k m t)
  | _, _, .dT h l r t => .dT (k.reg _ _ _ r h) l (m _ _ r ⟨_, h⟩) (Drs.keep k m t)
  | _, _, .scr h t => .scr (h.imp (fun ⟨o, h⟩ => ⟨o, k.frz _ _ _ h⟩) id) (Drs.keep k m t)
  | _, _, .exn h h2 q t => .exn (k.fix _ _ trivial h) (k.fix _ _ trivial h2) q (Dr.keep k m t)
  | _, _, .tn h h2 t => .tn (k.frz _ _ _ h) h2 (Drs.keep k m t)
  | _, _, .lk h l p => .lk (k.fix _ _ l.fx h) l p
theorem Drs.keep (k : Keep R H H') (m : ∀ nm a, R nm a → (∃ o, H a = some o) → R' nm a) : ∀ {vs : List V} {ds : List D}, Drs K R H vs ds → Drs K R' H' vs ds
  | _, _, .nil => .nil
  | _, _, .cons r t => .cons (Dr.keep k m r) (Drs.keep k m t)
end
theorem Dr.mono (m : ∀ nm a, R nm a → (∃ o, H a = some o) → R' nm a) {v : V} {d : D} (h : Dr K R H v d) : Dr K R' H v d := h.keep Keep.refl m
theorem Drs.mono (m : ∀ nm a, R nm a → (∃ o, H a = some o) → R' nm a) {v : List V} {d : List D} (h : Drs K R H v d) : Drs K R' H v d := h.keep Keep.refl m
end

/-! ### the state of a frame -/
inductive Slot where
  /-- nothing is known -/
  | un
  /-- a value that is not changed any more -/
  | val (d : D)
  /-- a list or dict that this name alone holds -/
  | own (d : D)
  /-- a list that other data may hold too; it may still be changed (the data are forgotten then) -/
  | nam (ds : List D)
abbrev Rho := List Slot

/-- what stays the same through a frame's run -/
structure Cn where
  K : PySem.W.Frag
  /-- the callers' own lists and dicts: they stand in no datum here -/
  out : Addr → Prop
  /-- the callers' named lists -/
  nam : Addr → Prop
  H0 : Hp
  /-- lent by the caller: slot, address -/
  lent : List (Nat × Addr)
  /-- the error classes by name -/
  cls : Str → Addr → Prop

def Owns (ρ : Rho) (σ : St) (a : Addr) : Prop := ∃ (i : Nat) (d : _), ρ[i]? = some (Slot.own d) ∧ σ[i]? = some (some (V.ref a))
def Nams (ρ : Rho) (σ : St) (a : Addr) : Prop := ∃ (i : Nat) (d : _), ρ[i]? = some (Slot.nam d) ∧ σ[i]? = some (some (V.ref a))
structure Reg (C : Cn) (T : List Addr) (ρ : Rho) (σ : St) (nm : Bool) (a : Addr) : Prop where
  out : ¬ C.out a
  tmp : a ∉ T
  own : ¬ Owns ρ σ a
  nam : nm = true ↔ (C.nam a ∨ Nams ρ σ a)

/-- a whole list or dict at a -/
def Top (K : PySem.W.Frag) (R : Bool → Addr → Prop) (H : Hp) (a : Addr) : D → Prop
  | .lst nm ds => nm = false ∧ ∃ vs, H a = some (.lst vs) ∧ Drs K R H vs ds
  | .dK ks ds => ∃ vs, H a = some (.dK (ks.zip vs)) ∧ ks.length = vs.length ∧ Drs K R H vs ds
  | .dT ks ds => ∃ vs, H a = some (.dT (ks.zip vs)) ∧ ks.length = vs.length ∧ Drs K R H vs ds
  | _ => False

structure Rep (C : Cn) (T : List Addr) (ρ : Rho) (σ : St) (H : Hp) : Prop where
  len : ρ.length = σ.length
  val : ∀ (i : Nat) d, ρ[i]? = some (Slot.val d) → ∃ v, σ[i]? = some (some v) ∧ Dr C.K (Reg C T ρ σ) H v d
  own : ∀ (i : Nat) d, ρ[i]? = some (Slot.own d) → ∃ a, σ[i]? = some (some (V.ref a)) ∧ Top C.K (Reg C T ρ σ) H a d
  nam : ∀ (i : Nat) ds, ρ[i]? = some (Slot.nam ds) → ∃ a vs, σ[i]? = some (some (V.ref a)) ∧ H a = some (.lst vs) ∧ Drs C.K (fun nm a => nm = false ∧ Reg C T ρ σ nm a) H vs ds ∧ C.H0 a = none
  apart : ∀ (i j : Nat) d e a, ρ[i]? = some (Slot.own d) → ρ[j]? = some (Slot.own e) → σ[i]? = some (some (V.ref a)) → σ[j]? = some (some (V.ref a)) → i = j
  ownT : ∀ a, Owns ρ σ a → a ∉ T
  tmpAt : ∀ a ∈ T, ∃ o, H a = some o
  ownN : ∀ a, Owns ρ σ a ∨ a ∈ T → ¬ (C.nam a ∨ Nams ρ σ a)
  new : ∀ a, Owns ρ σ a ∨ a ∈ T → ¬ C.out a ∧ (C.H0 a = none ∨ ∃ i, (i, a) ∈ C.lent)
  newN : ∀ a, Nams ρ σ a → ¬ C.out a
  frame : ∀ a o, C.H0 a = some o → (∀ i, (i, a) ∉ C.lent) → H a = some o
  cn : ∀ a, C.out a ∨ C.nam a → (∃ o, C.H0 a = some o) ∧ ∀ i, (i, a) ∉ C.lent
  lent : ∀ (i : Nat) a, (i, a) ∈ C.lent → σ[i]? = some (some (V.ref a)) ∧ ∃ d, ρ[i]? = some (Slot.own d)

/-- what an expression's run leaves alone -/
structure Step (ρ ρ' : Rho) (σ : St) (H H' : Hp) : Prop where
  own : ∀ a, Owns ρ' σ a → Owns ρ σ a
  nam : ∀ a, Nams ρ' σ a ↔ Nams ρ σ a
  keep : ∀ a o, H a = some o → ¬ Owns ρ σ a → H' a = some o
  there : ∀ a o, H a = some o → ∃ o', H' a = some o'
theorem Step.refl {ρ : Rho} {σ : St} {H : Hp} : Step ρ ρ σ H H := ⟨fun _ h => h, fun _ => Iff.rfl, fun _ _ h _ => h, fun _ o h => ⟨o, h⟩⟩
theorem Step.none {ρ ρ' : Rho} {σ : St} {H H' : Hp} (s : Step ρ ρ' σ H H') {a : Addr} (h : H' a = none) : H a = none := by
  cases q : H a with
  | none => rfl
  | some o =>
    obtain ⟨o', e⟩ := s.there a o q
    rw [h] at e
    cases e
theorem Step.trans {ρ ρ1 ρ2 : Rho} {σ : St} {H H1 H2 : Hp} (a : Step ρ ρ1 σ H H1) (b : Step ρ1 ρ2 σ H1 H2) : Step ρ ρ2 σ H H2 :=
  ⟨fun x h => a.own x (b.own x h), fun x => (b.nam x).trans (a.nam x), fun x o e n => b.keep x o (a.keep x o e n) fun h => n (a.own x h), fun x o e => let ⟨o1, e1⟩ := a.there x o e; b.there x o1 e1⟩

section
variable {C : Cn} {T : List Addr} {ρ ρ' : Rho} {σ : St} {H H' : Hp}
theorem Top.at {K : PySem.W.Frag} {R : Bool → Addr → Prop} {a : Addr} : ∀ {d : D}, Top K R H a d → ∃ o, H a = some o ∧ ¬ Fx o
  | .lst nm ds, ⟨_, vs, h, _⟩ => ⟨_, h, id⟩
  | .dK ks ds, ⟨vs, h, _, _⟩ => ⟨_, h, id⟩
  | .dT ks ds, ⟨vs, h, _, _⟩ => ⟨_, h, id⟩
theorem Rep.ownAt (r : Rep C T ρ σ H) {a : Addr} (h : Owns ρ σ a) : ∃ o, H a = some o ∧ ¬ Fx o := by
  obtain ⟨i, d, h1, h2⟩ := h
  obtain ⟨b, e, t⟩ := r.own i d h1
  rw [h2] at e
  cases e
  exact t.at
theorem Rep.fixNot (r : Rep C T ρ σ H) {a : Addr} {o : HO} (q : Fx o) (h : H a = some o) : ¬ Owns ρ σ a := fun ow => by
  obtain ⟨u, e, n⟩ := r.ownAt ow
  rw [h] at e
  cases e
  exact n q
/-- a datum is kept by a step -/
theorem Step.kept (s : Step ρ ρ' σ H H') (r : Rep C T ρ σ H) : Keep (Reg C T ρ σ) H H' :=
  ⟨fun _ a o g e => s.keep a o e g.own, fun a o q e => s.keep a o e (r.fixNot q e)⟩
theorem Step.reg (s : Step ρ ρ' σ H H') {nm : Bool} {a : Addr} (g : Reg C T ρ σ nm a) : Reg C T ρ' σ nm a :=
  ⟨g.out, g.tmp, fun h => g.own (s.own a h), g.nam.trans (or_congr Iff.rfl (s.nam a).symm)⟩
theorem Step.dr (s : Step ρ ρ' σ H H') (r : Rep C T ρ σ H) {v : V} {d : D} (h : Dr C.K (Reg C T ρ σ) H v d) : Dr C.K (Reg C T ρ' σ) H' v d :=
  h.keep (s.kept r) fun _ _ g _ => s.reg g
theorem Step.drs (s : Step ρ ρ' σ H H') (r : Rep C T ρ σ H) {v : List V} {d : List D} (h : Drs C.K (Reg C T ρ σ) H v d) : Drs C.K (Reg C T ρ' σ) H' v d :=
  h.keep (s.kept r) fun _ _ g _ => s.reg g
theorem Reg.less {t : Addr} {nm : Bool} {a : Addr} (g : Reg C (t :: T) ρ σ nm a) : Reg C T ρ σ nm a :=
  ⟨g.out, fun h => g.tmp (List.mem_cons_of_mem _ h), g.own, g.nam⟩
theorem Top.keep {K : PySem.W.Frag} {R R' : Bool → Addr → Prop} {a : Addr} (k : Keep R H H') (m : ∀ nm a, R nm a → (∃ o, H a = some o) → R' nm a) (ha : ∀ o, H a = some o → H' a = some o) : ∀ {d : D}, Top K R H a d → Top K R' H' a d
  | .lst nm ds, ⟨e, vs, h, t⟩ => ⟨e, vs, ha _ h, t.keep k m⟩
  | .dK ks ds, ⟨vs, h, l, t⟩ => ⟨vs, ha _ h, l, t.keep k m⟩
  | .dT ks ds, ⟨vs, h, l, t⟩ => ⟨vs, ha _ h, l, t.keep k m⟩
/-- a temporary is let go -/
theorem Rep.less {t : Addr} (r : Rep C (t :: T) ρ σ H) : Rep C T ρ σ H where
  len := r.len
  val := fun i d h => let ⟨v, e, q⟩ := r.val i d h; ⟨v, e, q.mono fun _ _ g _ => g.less⟩
  own := fun i d h => let ⟨a, e, q⟩ := r.own i d h; ⟨a, e, q.keep Keep.refl (fun _ _ g _ => g.less) fun _ z => z⟩
  nam := fun i d h => let ⟨a, vs, e, l, q, z⟩ := r.nam i d h; ⟨a, vs, e, l, q.mono (fun _ _ g _ => ⟨g.1, g.2.less⟩), z⟩
  apart := r.apart
  ownT := fun a h z => r.ownT a h (List.mem_cons_of_mem _ z)
  tmpAt := fun a h => r.tmpAt a (List.mem_cons_of_mem _ h)
  ownN := fun a h => r.ownN a (h.imp id (List.mem_cons_of_mem _))
  new := fun a h => r.new a (h.imp id (List.mem_cons_of_mem _))
  newN := r.newN
  frame := r.frame
  cn := r.cn
  lent := r.lent
theorem Rep.lessL : ∀ {L : List Addr}, Rep C (L ++ T) ρ σ H → Rep C T ρ σ H
  | [], r => r
  | _ :: L, r => Rep.lessL (L := L) r.less
theorem Reg.lessL {L : List Addr} {nm : Bool} {a : Addr} (g : Reg C (L ++ T) ρ σ nm a) : Reg C T ρ σ nm a :=
  ⟨g.out, fun h => g.tmp (List.mem_append_right _ h), g.own, g.nam⟩
theorem Rep.perm {T' : List Addr} (r : Rep C T ρ σ H) (m : ∀ a, a ∈ T' → a ∈ T) : Rep C T' ρ σ H where
  len := r.len
  val := fun i d h => let ⟨v, e, q⟩ := r.val i d h; ⟨v, e, q.mono fun _ _ g _ => ⟨g.out, fun z => g.tmp (m _ z), g.own, g.nam⟩⟩
  own := fun i d h => let ⟨a, e, q⟩ := r.own i d h; ⟨a, e, q.keep Keep.refl (fun _ _ g _ => ⟨g.out, fun z => g.tmp (m _ z), g.own, g.nam⟩) fun _ z => z⟩
  nam := fun i d h => let ⟨a, vs, e, l, q, z⟩ := r.nam i d h; ⟨a, vs, e, l, q.mono (fun _ _ g _ => ⟨g.1, g.2.out, fun z => g.2.tmp (m _ z), g.2.own, g.2.nam⟩), z⟩
  apart := r.apart
  ownT := fun a h z => r.ownT a h (m _ z)
  tmpAt := fun a h => r.tmpAt a (m _ h)
  ownN := fun a h => r.ownN a (h.imp id (m _))
  new := fun a h => r.new a (h.imp id (m _))
  newN := r.newN
  frame := r.frame
  cn := r.cn
  lent := r.lent
theorem Rep.outAt (r : Rep C T ρ σ H) {a : Addr} (h : C.out a ∨ C.nam a) : ∃ o, H a = some o := by
  obtain ⟨⟨o, e⟩, n⟩ := r.cn a h
  exact ⟨o, r.frame a o e n⟩
theorem Rep.namAt (r : Rep C T ρ σ H) {a : Addr} (h : Nams ρ σ a) : ∃ vs, H a = some (.lst vs) := by
  obtain ⟨i, ds, h1, h2⟩ := h
  obtain ⟨b, vs, e, l, _⟩ := r.nam i ds h1
  rw [h2] at e
  cases e
  exact ⟨vs, l⟩
theorem Rep.h0 (r : Rep C T ρ σ H) {a : Addr} (h : H a = none) : C.H0 a = none := by
  cases e : C.H0 a with
  | none => rfl
  | some o =>
    by_cases hl : ∃ i, (i, a) ∈ C.lent
    · obtain ⟨i, hi⟩ := hl
      obtain ⟨e1, d, e2⟩ := r.lent i a hi
      obtain ⟨u, hu, _⟩ := r.ownAt ⟨i, d, e2, e1⟩
      rw [h] at hu
      cases hu
    · rw [r.frame a o e fun i hi => hl ⟨i, hi⟩] at h
      cases h
/-- more stands in the heap -/
def Ext (H H' : Hp) : Prop := ∀ a o, H a = some o → H' a = some o
theorem Ext.step (e : Ext H H') : Step ρ ρ σ H H' := ⟨fun _ h => h, fun _ => Iff.rfl, fun a o h _ => e a o h, fun a o h => ⟨o, e a o h⟩⟩
/-- new addresses are taken up as temporaries -/
theorem Rep.more {a : Addr} (r : Rep C T ρ σ H) (e : Ext H H') (ha : H a = none) (ha' : ∃ o, H' a = some o) : Rep C (a :: T) ρ σ H' := by
  have ne : ∀ {b o}, H b = some o → b ≠ a := fun {b o} h z => by rw [z, ha] at h; cases h
  have g : ∀ nm b, Reg C T ρ σ nm b → (∃ o, H b = some o) → Reg C (a :: T) ρ σ nm b := fun nm b g ⟨o, h⟩ =>
    ⟨g.out, fun z => (List.mem_cons.mp z).elim (ne h) g.tmp, g.own, g.nam⟩
  have k := e.step.kept r
  exact {
    len := r.len
    val := fun i d h => let ⟨v, z, q⟩ := r.val i d h; ⟨v, z, q.keep k g⟩
    own := fun i d h => let ⟨b, z, q⟩ := r.own i d h; ⟨b, z, q.keep k g fun o w => e b o w⟩
    nam := fun i d h => let ⟨b, vs, z, l, q, w⟩ := r.nam i d h; ⟨b, vs, z, e _ _ l, q.keep ⟨fun _ _ _ x y => e _ _ y, fun _ _ _ x => e _ _ x⟩ (fun _ _ x y => ⟨x.1, g _ _ x.2 y⟩), w⟩
    apart := r.apart
    ownT := fun b h z => (List.mem_cons.mp z).elim (fun w => by
      obtain ⟨o, q, _⟩ := r.ownAt h
      exact ne q w) (r.ownT b h)
    tmpAt := fun b h => (List.mem_cons.mp h).elim (fun z => z ▸ ha') fun z => let ⟨o, q⟩ := r.tmpAt b z; ⟨o, e b o q⟩
    ownN := fun b h => by
      rcases h with h | h
      · exact r.ownN b (.inl h)
      · rcases List.mem_cons.mp h with rfl | h
        · rintro (z | z)
          · obtain ⟨o, q⟩ := r.outAt (.inr z)
            exact ne q rfl
          · obtain ⟨o, q⟩ := r.namAt z
            exact ne q rfl
        · exact r.ownN b (.inr h)
    new := fun b h => by
      rcases h with h | h
      · exact r.new b (.inl h)
      · rcases List.mem_cons.mp h with rfl | h
        · refine ⟨fun z => ?_, .inl (r.h0 ha)⟩
          obtain ⟨o, q⟩ := r.outAt (.inl z)
          exact ne q rfl
        · exact r.new b (.inr h)
    newN := r.newN
    frame := fun b o h n => e b o (r.frame b o h n)
    cn := r.cn
    lent := r.lent }
theorem Rep.ext (r : Rep C T ρ σ H) (e : Ext H H') : Rep C T ρ σ H' := by
  have k := e.step.kept r
  exact {
    len := r.len
    val := fun i d h => let ⟨v, z, q⟩ := r.val i d h; ⟨v, z, q.keep k fun _ _ g _ => g⟩
    own := fun i d h => let ⟨b, z, q⟩ := r.own i d h; ⟨b, z, q.keep k (fun _ _ g _ => g) fun o w => e b o w⟩
    nam := fun i d h => let ⟨b, vs, z, l, q, w⟩ := r.nam i d h; ⟨b, vs, z, e _ _ l, q.keep ⟨fun _ _ _ x y => e _ _ y, fun _ _ _ x => e _ _ x⟩ (fun _ _ x _ => x), w⟩
    apart := r.apart
    ownT := r.ownT
    tmpAt := fun b h => let ⟨o, q⟩ := r.tmpAt b h; ⟨o, e b o q⟩
    ownN := r.ownN
    new := r.new
    newN := r.newN
    frame := fun b o h n => e b o (r.frame b o h n)
    cn := r.cn
    lent := r.lent }
end
end Own

/-! part OwnHD -/
namespace Own
open PySem PySem.Spec L2
abbrev scI : Scope := { kind := .function, names := [("self", .local), ("value", .local), ("__class__", .free), ("super", .globalImplicit)], isGenerator := false, isCoroutine := false, more := [] }
def argB : Arguments → Bool
  | ⟨[], [⟨a, none, _⟩, ⟨b, none, _⟩], none, [], [], none, []⟩ => decide (a = "self") && decide (b = "value")
  | _ => false
def stB : List Stmt → Bool
  | [.Expr (.Call (.Attribute (.Call (.Name n1 _) [] [] _) n2 p2) [.Constant (.str _) _ _] [] p4) _, .Assign [.Attribute (.Name n3 _) n4 _] (.Name n5 _) _] =>
    decide (n1 = "super") && decide (n2 = "__init__") && decide (n3 = "self") && decide (n4 = "value") && decide (n5 = "value") && (p2.endLine == p4.line)
  | _ => false
def clB (K : PySem.W.Frag) (D : Addr) : List (Str × Addr) → Bool
  | [(x, cc)] => decide (x = "__class__") && match K.lookup cc with
    | some ⟨_, _, .cell (some (.ref d)), _⟩ => decide (d = D)
    | _ => false
  | _ => false
def cdB (K : PySem.W.Frag) (fl qual : Str) : Value → Bool
  | .ref cda => PySem.W.codeIn K (.ref cda) qual && match (K.lookup cda : Option Obj) with
    | some ⟨_, _, .fields vs, _⟩ => match (vs[2]? : Option Value) with
      | some (.str file _) => decide (file = fl)
      | _ => false
    | _ => false
  | _ => false
def iniB (K : PySem.W.Frag) (fl : Str) (D fI : Addr) : Bool := match K.lookup fI with
  | some ⟨_, _, .func fd, _⟩ => argB fd.params && (match fd.body with
    | .stmts b => stB b
    | _ => false) && decide (fd.scope = scI) && decide (fd.globals = mainGlobals) && decide (fd.builtins = builtinsNs) && clB K D fd.closure && cdB K fl fd.qualname fd.code && decide (fd.defaults = .none)
  | _ => false
def excObjB (C : Addr) : Option Obj → Bool
  | some ⟨.type t, _, .cls cd, sl⟩ => decide (t = "type") && (match cd.mro with
    | .ref c :: bm => decide (c = C) && PySem.HandSPX.refsVE bm
    | _ => false) && cd.hasDict && !cd.hasDel && (match sl.toList with
    | [_, _, _, _, some (.builtin n), _] => decide (n = "ValueError.__new__")
    | _ => false)
  | _ => false
def mkB (K : PySem.W.Frag) (D C fI : Addr) : Bool :=
  excOk K C && (excObjB C (K.lookup C) && (decide (PySem.W.findIn K (.ref C) "__setattr__" = some (some (.builtin "object.__setattr__"))) && (decide (PySem.W.typeIn K (.ref C) = some (.type "type")) && (PySem.W.keepIn K (.ref C) &&
  (decide (PySem.W.mroIn K C (.ref D) = some true) && (decide (PySem.W.subIn K (.ref C) (.type "ValueError") = some true) && (decide (PySem.W.ks_superIn K C D "__init__" = some (some (.builtin "ValueError.__init__"))) && decide (PySem.W.findIn K (.ref C) "__init__" = some (some (.ref fI))))))))))
/-- the classes and the one __init__ that own has -/
def excsB (K : PySem.W.Frag) (fl own : Str) (exs : List (Str × List Str)) : Bool := match PySem.W.nsIn K mainGlobals own with
  | some (some (.ref D)) => match PySem.W.findIn K (.ref D) "__init__" with
    | some (some (.ref fI)) => iniB K fl D fI && (decide (PySem.W.typeIn K (.ref fI) = some (.type "function")) && (decide (PySem.W.nsIn K mainGlobals "super" = some none) && (decide (PySem.W.nsIn K PySem.cStatics "thirdparty.any" = some none) && ((PySem.W.clsIn K D).isSome &&
      ((exs.all fun p => match PySem.W.nsIn K mainGlobals p.1 with
        | some (some (.ref C)) => mkB K D C fI && (exs.all fun q => match PySem.W.nsIn K mainGlobals q.1 with
          | some (some (.ref C')) => decide (PySem.W.exmOne K (.ref C) (.ref C') = some (p.2.contains q.1)) && decide (PySem.W.kitOne K (.ref C) (.ref C') = some (p.2.contains q.1))
          | _ => false)
        | _ => false))))))
    | _ => false
  | _ => false
/-- the global's value is the datum: whole numbers, truths, texts, tuples of such -/
def isD (K : PySem.W.Frag) : Nat → Value → D → Bool
  | _, .none, .non => true
  | _, .bool a, .bl b => a == b
  | _, .int i _, .int j => i == j
  | _, .str x _, .str y => decide (x = y)
  | n + 1, .ref a, .tup ds => match K.lookup a with
    | some ⟨.type c, _, .seq its _, _⟩ => gcon ds && (decide (c = "tuple") && decide (its.size ≤ sizeLine) && go (isD K n) its.toList ds)
    | _ => false
  | _, _, _ => false
where go (f : Value → D → Bool) : List Value → List D → Bool
  | [], [] => true
  | u :: us, d :: ds => f u d && go f us ds
  | _, _ => false
/-- what is asked of the globals that are no defs: modules' functions, constants -/
def exO (ms : List (Str × String)) (gs : List (Str × D)) (K : PySem.W.Frag) : Bool := (ms.all fun p => He.eqO (PySem.W.nsIn K mainGlobals p.1) (some (some (.builtin p.2)))) && gs.all fun p => match PySem.W.nsIn K mainGlobals p.1 with
  | some (some u) => isD K 4 u p.2
  | _ => false
/-- the same, and the error classes -/
def exX (ms : List (Str × String)) (gs : List (Str × D)) (fl own : Str) (exs : List (Str × List Str)) (K : PySem.W.Frag) : Bool := exO ms gs K && excsB K fl own exs
/-- the part of the heap that is looked at: closures' cells and the statics too -/
def refsC (o : Obj) : List Addr := match o.data with
  | .func fd => fd.closure.map (·.2)
  | _ => []
def asX (g : Addr → Option Obj) (n : Nat) : List Addr :=
  let l := He.asD g n
  l ++ ((l.flatMap fun a => match g a with
    | some o => refsC o
    | none => []) ++ [PySem.cStatics])
def frO (n : Nat) (g : Addr → Option Obj) : PySem.W.Frag := He.frG g (asX g n)
def hookO (n : Nat) (fa : List He.Fa) (fn : List He.DefD) (ex : PySem.W.Frag → Bool) : PySem.W.Hook where
  α := He.AlD × Bool
  obs := fun s => (He.obsD fa fn (frO n s.heap.get?), ex (frO n s.heap.get?))
  val := fun _ => (He.valD fn, true)
  says := fun _ h => ∃ K : PySem.W.Frag, K.In h ∧ He.SaysD fa fn K ∧ ex K = true
  of := fun _ _ e => ⟨_, He.frG_in, congrArg Prod.fst e, congrArg Prod.snd e⟩
  keeps := fun _ _ _ ⟨K, hK, c⟩ k => ⟨K, PySem.W.Frag.In.keeps hK k, c⟩
def obO (n : Nat) (fa : List He.Fa) (fn : List He.DefD) (ex : PySem.W.Frag → Bool) (s : PySem.W.SharedT) : He.AlD × Bool :=
  let K := frO n (HandSHeadRun.getT s)
  (He.obsD fa fn K, ex K)
def defD (x : Str) (st : Stmt) : He.DefD := ⟨(x, none), x, x, defArgs st, defBody st, defScope st, [], []⟩
end Own
namespace K04
open PySem PySem.Spec L2 Own
abbrev prog : PySem.Program := PySem.Challenge.pw_formsatone_k04_jacobi_symbols
def top (i : Nat) : Stmt := prog.main.body.getD i (.Pass ⟨0, 0, 0, 0⟩)
def exsL : List (Str × List Str) := [("InvalidNumber", ["InvalidNumber", "FormError"]), ("FormError", ["FormError"])]
def st0 : Stmt := top 4
def st1 : Stmt := top 6
def st2 : Stmt := top 7
def st3 : Stmt := top 8
def st4 : Stmt := top 9
def st5 : Stmt := top 10
def st6 : Stmt := top 11
def st7 : Stmt := top 12
def st8 : Stmt := top 13
def st9 : Stmt := top 14
def st10 : Stmt := top 15
def st11 : Stmt := top 16
def st12 : Stmt := top 17
def fa : List He.Fa := [.glo "jacobi", .glo "_law_pool", .glo "_law_take", .glo "_law_far", .glo "_law_is_prime", .glo "_law_prime_from", .glo "_law_drawn_factors", .glo "_law_product", .glo "_law_power", .glo "_law_symbol", .glo "_law_jacobi", .glo "_law_refused", .glo "law", .free "abs", .free "bool", .free "int", .free "isinstance", .free "len", .free "range", .free "sorted"]
def fn : List He.DefD := [defD "jacobi" st0, defD "_law_pool" st1, defD "_law_take" st2, defD "_law_far" st3, defD "_law_is_prime" st4, defD "_law_prime_from" st5, defD "_law_drawn_factors" st6, defD "_law_product" st7, defD "_law_power" st8, defD "_law_symbol" st9, defD "_law_jacobi" st10, defD "_law_refused" st11, defD "law" st12]
def fl : Str := prog.main.file
def ex : PySem.W.Frag → Bool := exX [] (([] : List PySem.Str).zip ([] : List D)) fl "FormError" exsL
def loose0 : List PySem.Str := ["FormError", "InvalidNumber", "jacobi", "_law_pool", "_law_take", "_law_far", "_law_is_prime", "_law_prime_from", "_law_drawn_factors", "_law_product", "_law_power", "_law_symbol", "_law_jacobi", "_law_refused"]
abbrev loose : List PySem.Str := loose0
abbrev R : PySem.W.OpenRow := PySem.W.OpenLaw.row PySem.Challenge.rw_formsatone_k04_jacobi_symbols
abbrev hk : PySem.W.Hook := hookO 4 fa fn ex
abbrev ob : PySem.W.SharedT → He.AlD × Bool := obO 4 fa fn ex
theorem run (w : World) : HandSHeadRun.RunEq R (PySem.W.view R.prog [17]) hk ob 3000 loose w := by
  intro os
  kernel_rfl
end K04
/-! part Own2 -/
namespace Own
open PySem PySem.Spec L2

/-! ### the syntax that is run -/
inductive Bop where
  | add | sub | mul | fdiv | mod | pow | shl
  deriving DecidableEq
inductive Cop where
  | lt | le | gt | ge | eq | ne | inn | nin
  deriving DecidableEq
inductive Blt where
  | len | abs | min2 | max2 | min1 | max1 | sum | all | any | tuple | list | int | repr | str | gcd | isqrt | sorted | lrange
  deriving DecidableEq
inductive Ty where
  | int | bool | str | tuple | list | dict
  deriving DecidableEq
inductive MT where
  | nm (i : Nat)
  | tp (ts : List MT)
inductive ME where
  | var (i : Nat)
  | int (n : Int) | bl (b : Bool) | non | str (x : Str)
  | glb (k : Nat)
  | bin (o : Bop) (a b : ME)
  | neg (a : ME) | notv (a : ME)
  | cmp (o : Cop) (a b : ME)
  | isN (ng : Bool) (a : ME)
  | chn (o p : Cop) (a b c : ME)
  | andv (es : List ME) | orv (es : List ME)
  | ife (c a b : ME)
  | tup (es : List ME) | lst (es : List ME)
  | ix (a i : ME)
  | sl (a : ME) (lo hi : Option ME)
  | call (f : Nat) (es : List ME)
  | callK (f : Nat) (es ks : List ME) (inv : List Nat)
  | blt (b : Blt) (es : List ME)
  | isi (t : Ty) (a : ME)
  | lc (elt : ME) (tg : MT) (it : ME) (ifs : List ME)
  | rng (es : List ME) | enum (a : ME) | zip (a b : ME)
  | app (i : Nat) (e : ME)
  | ext (i : Nat) (e : ME)
  | pop (i : Nat)
  /-- a[::-1] of a list -/
  | rev (a : ME)
  /-- a is True, a is not False .. -/
  | isB (ng b : Bool) (a : ME)
  /-- a comprehension of two fors -/
  | lc2 (elt : ME) (tg : MT) (it : ME) (ifs : List ME) (tg1 : MT) (it1 : ME) (ifs1 : List ME)
  /-- isinstance(a, C), a an exception -/
  | isx (c : Str) (a : ME)
  /-- e.value, e an exception -/
  | fld (i : Nat)
  /-- a < b < c < d -/
  | chn3 (o p q : Cop) (a b c d : ME)
  /-- a.index(e) -/
  | idx (a e : ME)
  /-- a tuple made here, known to bear no dict; tuple(a list) so -/
  | tupN (es : List ME) | tplN (a : ME)
  /-- list(range(..)) -/
  | lrg (es : List ME)
  /-- {}; t: its keys are tuples -/
  | dnew (t : Bool)
  /-- name.get(k, e), the name an own dict -/
  | dget (i : Nat) (k e : ME)
  /-- name[k], the name an own dict -/
  | dix (i : Nat) (k : ME)
  /-- k in name, k not in name, the name an own dict -/
  | dhas (ng : Bool) (i : Nat) (k : ME)
  /-- sorted(name.items()), the name an own dict -/
  | dsrt (i : Nat)
  /-- divmod(a, b) -/
  | dmd (a b : ME)
  /-- for k in name, the name an own dict, locked from then on -/
  | dky (i : Nat)
/-- what a clause makes of its exception: isinstance(n, c), n.value -/
inductive HE where
  | isx (c : Str) | fld
inductive MS where
  | asg (i : Nat) (e : ME)
  | asgT (t : MT) (e : ME)
  | par (is : List Nat) (es : List ME)
  | aug (i : Nat) (o : Bop) (e : ME)
  | seti (i : Nat) (k e : ME)
  /-- name[k] = e, the name an own dict -/
  | setd (i : Nat) (k e : ME)
  /-- a, b, .. = a list -/
  | asgL (ts : List MT) (e : ME)
  /-- i[k], j[l] = e -/
  | set2 (i : Nat) (k : ME) (j : Nat) (l : ME) (e : ME)
  | exp (e : ME)
  | iff (c : ME) (a b : List MS)
  | wh (c : ME) (b : List MS)
  | for (t : MT) (it : ME) (b : List MS)
  | ret (e : ME) | retN | brk | cnt | pas | nev
  /-- raise C(e) -/
  | rai (c : Str) (e : ME)
  /-- try: b except C as n: m = n -/
  | tryE (b : List MS) (c : Str) (n m : Nat)
  /-- try: b except C as n: m = (isinstance(n, D), .., n.value) -/
  | tryT (b : List MS) (c : Str) (n m : Nat) (es : List HE)

/-! ### what comes of it -/
/-- a value; a new list that nothing else holds; the list of slot i -/
inductive VR where
  | v (d : D) | f (d : D) | l (i : Nat)
inductive Rs (α : Type) where
  | ok (x : α) (ρ : Rho) | exc (c : Str) (d : D) (ρ : Rho) | no
@[inline] def Rs.bind {α β : Type} (r : Rs α) (k : α → Rho → Rs β) : Rs β := match r with
  | .ok x ρ => k x ρ
  | .exc c d ρ => .exc c d ρ
  | .no => .no
@[simp] theorem Rs.bind_ok {α β : Type} (x : α) (ρ : Rho) (k : α → Rho → Rs β) : (Rs.ok x ρ).bind k = k x ρ := rfl
@[simp] theorem Rs.bind_exc {α β : Type} (c : Str) (d : D) (ρ : Rho) (k : α → Rho → Rs β) : (Rs.exc c d ρ : Rs α).bind k = .exc c d ρ := rfl
@[simp] theorem Rs.bind_no {α β : Type} (k : α → Rho → Rs β) : (Rs.no : Rs α).bind k = .no := rfl
def Rs.of {α : Type} (o : Option α) (ρ : Rho) : Rs α := match o with
  | some x => .ok x ρ
  | none => .no
@[simp] theorem Rs.of_some {α : Type} (x : α) (ρ : Rho) : Rs.of (some x) ρ = .ok x ρ := rfl
@[simp] theorem Rs.of_none {α : Type} (ρ : Rho) : (Rs.of none ρ : Rs α) = .no := rfl
/-- a call's end -/
inductive Cr where
  | ok (x : VR) (ls : List D) | exc (c : Str) (d : D) (ls : List D) | no

def VR.keeps : VR → Bool
  | .l _ => false
  | _ => true
def derf (ρ : Rho) : VR → Option D
  | .v d => some d
  | .f d => some d
  | .l i => match ρ[i]? with
    | some (.val d) => some d
    | some (.own d) => some d
    | some (.nam ds) => some (.lst true ds)
    | _ => none
def derfs (ρ : Rho) : List VR → Option (List D)
  | [] => some []
  | x :: r => match derf ρ x, derfs ρ r with
    | some d, some ds => some (d :: ds)
    | _, _ => none

/-! ### the operations on data -/
def small (n : Nat) : Bool := decide (n ≤ sizeLine)
def mulOk (i j : Int) : Bool := decide (i.natAbs < 2 ^ 64) || decide (j.natAbs < 2 ^ 64) || decide (i.natAbs.log2 + j.natAbs.log2 < 1000000)
def divOk (j : Int) : Bool := decide (j ≠ 0 ∧ j.natAbs.log2 < 9000)
def powOk (i j : Int) : Bool := decide (0 ≤ j ∧ j ≤ 1000000 ∧ i.natAbs < 2 ^ 64)
def isEmptyL {α : Type} : List α → Bool
  | [] => true
  | _ => false
def bop : Bop → D → D → Option VR
  | .add, .int i, .int j => some (.v (.int (i + j)))
  | .sub, .int i, .int j => some (.v (.int (i - j)))
  | .mul, .int i, .int j => if mulOk i j then some (.v (.int (i * j))) else none
  | .fdiv, .int i, .int j => if divOk j then some (.v (.int (i.fdiv j))) else none
  | .mod, .int i, .int j => if j ≠ 0 then some (.v (.int (i.fmod j))) else none
  | .pow, .int i, .int j => if powOk i j then some (.v (.int (i ^ j.toNat))) else none
  | .shl, .int i, .int j => if powOk i j then some (.v (.int (i * 2 ^ j.toNat))) else none
  | .add, .str x, .str y => if small (x.length + y.length) then some (.v (.str (x ++ y))) else none
  | .add, .tup xs, .tup ys => if small (xs.length + ys.length) then some (.v (.tup (xs ++ ys))) else none
  | .add, .lst _ xs, .lst _ ys => if small (xs.length + ys.length) then some (.f (.lst false (xs ++ ys))) else none
  | .mul, .lst _ xs, .int k => if small (xs.length * k.toNat) && decide (-(2 ^ 63) ≤ k ∧ k < 2 ^ 63) then some (.f (.lst false (List.replicate k.toNat xs).flatten)) else none
  | .mul, .tup xs, .int k => if !isEmptyL xs && decide (2 ≤ k ∧ xs.length * k.toNat ≤ 16000000) then some (.v (.tup (List.replicate k.toNat xs).flatten)) else none
  | _, _, _ => none

mutual
/-- as the library's plain data -/
def toPy : D → PyData
  | .non => .none
  | .bl b => .bool b
  | .int i => .int i
  | .str x => .str x
  | .tup xs => .tuple (toPys xs)
  | .lst _ xs => .list (toPys xs)
  | _ => .none
def toPys : List D → List PyData
  | [] => []
  | x :: xs => toPy x :: toPys xs
end
mutual
/-- == of data: none, bools, ints, texts, lists, tuples -/
def deq : D → D → Bool
  | .non, .non => true
  | .bl a, .bl b => a == b
  | .bl a, .int b => (if a then 1 else 0) == b
  | .int a, .bl b => a == (if b then 1 else 0)
  | .int a, .int b => a == b
  | .str a, .str b => decide (a = b)
  | .tup xs, .tup ys => deqs xs ys
  | .lst _ xs, .lst _ ys => deqs xs ys
  | _, _ => false
def deqs : List D → List D → Bool
  | [], [] => true
  | x :: xs, y :: ys => deq x y && deqs xs ys
  | _, _ => false
end
mutual
/-- data that == is known for: at most 40 deep -/
def eqable : Nat → D → Bool
  | _, .non => true
  | _, .bl _ => true
  | _, .int _ => true
  | _, .str x => PyData.strOk x
  | n + 1, .tup xs => eqables n xs
  | n + 1, .lst _ xs => eqables n xs
  | _, _ => false
def eqables : Nat → List D → Bool
  | _, [] => true
  | n, x :: xs => eqable n x && eqables n xs
end
def flatD : D → Bool
  | .non => true
  | .bl _ => true
  | .int _ => true
  | .str _ => true
  | _ => false
/-- two scalars that == tells at once -/
def scalD : D → D → Bool
  | .non, .non => true | .non, .int _ => true | .int _, .non => true | .non, .bl _ => true | .bl _, .non => true | .non, .str _ => true | .str _, .non => true
  | .int _, .int _ => true | .bl _, .bl _ => true | .str _, .str _ => true
  | .int _, .str _ => true | .str _, .int _ => true | .bl _, .str _ => true | .str _, .bl _ => true
  | _, _ => false
def eqOk (x y : D) : Bool := scalD x y || (eqable 40 x && eqable 40 y)
/-- what `in` may be asked of -/
def inOk (x : D) (ys : List D) : Bool := (flatD x && ys.all flatD) || (eqable 40 x && eqables 40 ys)
def cop : Cop → D → D → Option Bool
  | .lt, .int i, .int j => some (decide (i < j))
  | .le, .int i, .int j => some (decide (i ≤ j))
  | .gt, .int i, .int j => some (decide (j < i))
  | .ge, .int i, .int j => some (decide (j ≤ i))
  | .eq, x, y => if eqOk x y then some (deq x y) else none
  | .ne, x, y => if eqOk x y then some (!deq x y) else none
  | .inn, x, .tup ys => if inOk x ys then some (ys.any fun y => deq y x) else none
  | .inn, x, .tn ys => if inOk x ys then some (ys.any fun y => deq y x) else none
  | .inn, x, .lst _ ys => if inOk x ys then some (ys.any fun y => deq y x) else none
  | .nin, x, .tup ys => if inOk x ys then some (!ys.any fun y => deq y x) else none
  | .nin, x, .tn ys => if inOk x ys then some (!ys.any fun y => deq y x) else none
  | .nin, x, .lst _ ys => if inOk x ys then some (!ys.any fun y => deq y x) else none
  | _, _, _ => none
def ixop : D → D → Option D
  | .tup xs, .int i => atI xs i
  | .lst _ xs, .int i => atI xs i
  | .scr xs, .int i => atI xs i
  | .tn xs, .int i => atI xs i
  | _, _ => none
def cutD (xs : List D) (lo hi : Option Int) : List D := (xs.drop (HT.sIx xs.length 0 lo)).take (HT.sIx xs.length xs.length hi - HT.sIx xs.length 0 lo)
/-- the first place of a datum in a list -/
def idxD (x : D) : List D → Option Nat
  | [] => none
  | y :: ys => if deq y x then some 0 else (idxD x ys).map (· + 1)
def idxop : D → D → Option Int
  | .tn ys, x => if eqable 40 x && eqables 40 ys then (idxD x ys).map fun i => (i : Int) else none
  | .lst _ ys, x => if eqable 40 x && eqables 40 ys then (idxD x ys).map fun i => (i : Int) else none
  | _, _ => none
def slop : D → Option Int → Option Int → Option VR
  | .tup xs, lo, hi => some (.v (.tup (cutD xs lo hi)))
  | .lst _ xs, lo, hi => some (.f (.lst false (cutD xs lo hi)))
  | .scr xs, lo, hi => some (.f (.lst false (cutD xs lo hi)))
  | .tn xs, lo, hi => if gcon (cutD xs lo hi) then some (.v (.tup (cutD xs lo hi))) else none
  | _, _, _ => none
def intsOf : List D → Option (List Int)
  | [] => some []
  | .int i :: r => (intsOf r).map (i :: ·)
  | _ :: _ => none
def blsOf : List D → Option (List Bool)
  | [] => some []
  | .bl i :: r => (blsOf r).map (i :: ·)
  | _ :: _ => none
def maxL : List Int → Int
  | [] => 0
  | [x] => x
  | x :: r => if maxL r < x then x else maxL r
def minL : List Int → Int
  | [] => 0
  | [x] => x
  | x :: r => if x < minL r then x else minL r
def insI (x : Int) : List Int → List Int
  | [] => [x]
  | y :: r => if x ≤ y then x :: y :: r else y :: insI x r
def sortI : List Int → List Int
  | [] => []
  | x :: r => insI x (sortI r)
def seqOf : D → Option (List D)
  | .tup xs => some xs
  | .lst _ xs => some xs
  | .scr xs => some xs
  | _ => none
/-- what sorted may be asked of -/
def sortOk (xs : List D) : Bool := eqables 40 xs && ((xs.all fun x => xs.all fun y => PySem.W.alike (toPy x) (toPy y)) && ((xs.all fun x => match x with
    | .tup (_ :: _) => true
    | _ => false) || xs.all fun x => match x with
    | .int _ => true
    | .str _ => true
    | .bl _ => true
    | _ => false))
/-- what min and max may be asked of -/
def minOk (xs : List D) : Bool := eqables 40 xs && ((xs.all fun x => xs.all fun y => PySem.W.alike (toPy x) (toPy y)) && xs.all fun x => match x with
    | .int _ => true
    | .tup _ => true
    | .str _ => true
    | .bl _ => true
    | _ => false)
def minDD (x : D) (xs : List D) : D := xs.foldl (fun a y => if PySem.W.dataLt (toPy y) (toPy a) then y else a) x
def maxDD (x : D) (xs : List D) : D := xs.foldl (fun a y => if PySem.W.dataLt (toPy a) (toPy y) then y else a) x
def sortD (xs : List D) : List D := xs.mergeSort (PySem.W.dataLe false toPy)
def bltop : Blt → List D → Option VR
  | .len, [.tup xs] => some (.v (.int xs.length))
  | .len, [.lst _ xs] => some (.v (.int xs.length))
  | .len, [.scr xs] => some (.v (.int xs.length))
  | .len, [.str x] => if small x.length then some (.v (.int x.length)) else none
  | .abs, [.int i] => some (.v (.int (if i < 0 then -i else i)))
  | .min2, [.int i, .int j] => some (.v (.int (if j < i then j else i)))
  | .max2, [.int i, .int j] => some (.v (.int (if j > i then j else i)))
  | .min1, [.lst _ xs] => match intsOf xs with
    | some (i :: r) => some (.v (.int (minL (i :: r))))
    | _ => match xs with
      | x :: r => if minOk (x :: r) then some (.v (minDD x r)) else none
      | [] => none
  | .max1, [.lst _ xs] => match intsOf xs with
    | some (i :: r) => some (.v (.int (maxL (i :: r))))
    | _ => match xs with
      | x :: r => if minOk (x :: r) then some (.v (maxDD x r)) else none
      | [] => none
  | .min1, [.tup xs] => match xs with
      | x :: r => if minOk (x :: r) then some (.v (minDD x r)) else none
      | [] => none
  | .min1, [.tn xs] => match xs with
      | x :: r => if minOk (x :: r) then some (.v (minDD x r)) else none
      | [] => none
  | .max1, [.tup xs] => match xs with
      | x :: r => if minOk (x :: r) then some (.v (maxDD x r)) else none
      | [] => none
  | .sum, [.lst _ xs] => (intsOf xs).map fun ns => .v (.int ns.sum)
  | .all, [.lst _ xs] => (blsOf xs).map fun bs => .v (.bl (bs.all id))
  | .any, [.lst _ xs] => (blsOf xs).map fun bs => .v (.bl (bs.any id))
  | .tuple, [.tup xs] => some (.v (.tup xs))
  | .tuple, [.lst _ xs] => some (.v (.tup xs))
  | .list, [.tup xs] => some (.f (.lst false xs))
  | .list, [.lst _ xs] => some (.f (.lst false xs))
  | .list, [.scr xs] => some (.f (.lst false xs))
  | .int, [.int i] => some (.v (.int i))
  | .int, [.bl b] => some (.v (.int (if b then 1 else 0)))
  | .repr, [d] => if eqable 40 d && (toPy d).showable && small (toPy d).shown.length then some (.v (.str (toPy d).shown)) else none
  | .isqrt, [.int i] => if decide (0 ≤ i ∧ i < 2 ^ 64) then some (.v (.int ((Float64.isqrt i.toNat : Nat) : Int))) else none
  | .gcd, [.int i, .int j] => some (.v (.int ((Nat.gcd i.natAbs j.natAbs : Nat) : Int)))
  | .str, [.int i] => if i.natAbs.log2 < 1920 then some (.v (.str (toString i))) else none
  | .sorted, [.lst _ xs] => if sortOk xs then some (.f (.lst false (sortD xs))) else none
  | _, _ => none
/-- isinstance -/
def isTy : Ty → D → Bool
  | .int, .int _ => true
  | .int, .bl _ => true
  | .bool, .bl _ => true
  | .str, .str _ => true
  | .tuple, .tup _ => true
  | .tuple, .tn _ => true
  | .list, .lst _ _ => true
  | .list, .scr _ => true
  | .dict, .dK _ _ => true
  | .dict, .dT _ _ => true
  | .dict, .lk _ => true
  | _, _ => false

/-! ### targets -/
def slotOf : VR → Slot
  | .v d => .val d
  | .f d => .own d
  | .l _ => .un
mutual
def slotsT : MT → List Nat
  | .nm i => [i]
  | .tp ts => slotsTs ts
def slotsTs : List MT → List Nat
  | [] => []
  | t :: ts => slotsT t ++ slotsTs ts
end
/-- a slot that holds no list of its own -/
def calmS (ρ : Rho) (i : Nat) : Bool := match ρ[i]? with
  | some .un => true
  | some (.val _) => true
  | _ => false
mutual
def bindT : MT → D → Rho → Option Rho
  | .nm i, d, ρ => if calmS ρ i then some (ρ.set i (.val d)) else none
  | .tp ts, .tup ds, ρ => bindTs ts ds ρ
  | .tp _, _, _ => none
def bindTs : List MT → List D → Rho → Option Rho
  | [], [], ρ => some ρ
  | t :: ts, d :: ds, ρ => match bindT t d ρ with
    | some ρ' => bindTs ts ds ρ'
    | none => none
  | _, _, _ => none
end

/-! ### the run -/
structure Fns where
  /-- which parameters of a def are lent to it -/
  lend : Nat → List Bool
  run : Nat → List D → Cr
  glb : Nat → D
  /-- the slots that are lent to this frame -/
  mine : List Nat
  /-- whether an error class is below another -/
  sub : Str → Str → Option Bool
  /-- how deep calls may go -/
  dep : Nat
/-- the lent slots with what the def left in them -/
def backL (ρ : Rho) : List VR → List Bool → List D → Rho
  | .l i :: xs, true :: bs, e :: es => backL (ρ.set i (.own e)) xs bs es
  | _ :: xs, true :: bs, _ :: es => backL ρ xs bs es
  | _ :: xs, false :: bs, es => backL ρ xs bs es
  | _, _, _ => ρ
def lentOf : List VR → List Bool → List Nat
  | .l i :: xs, true :: bs => i :: lentOf xs bs
  | _ :: xs, _ :: bs => lentOf xs bs
  | _, _ => []
def isOwn (ρ : Rho) (i : Nat) : Bool := match ρ[i]? with
  | some (.own _) => true
  | _ => false
def isOwnL (ρ : Rho) (i : Nat) : Bool := match ρ[i]? with
  | some (.own (.lst _ _)) => true
  | _ => false
/-! dicts -/
section
variable {κ α : Type} [DecidableEq κ]
def dlook (k : κ) : List κ → List α → Option α
  | j :: ks, d :: ds => if j = k then some d else dlook k ks ds
  | _, _ => none
def drepl (k : κ) (a : α) : List κ → List α → List α
  | j :: ks, d :: ds => (if j = k then a else d) :: drepl k a ks ds
  | _, _ => []
def dkeys (k : κ) (ks : List κ) : List κ := if ks.any fun j => decide (j = k) then ks else ks ++ [k]
def dvals (k : κ) (a : α) (ks : List κ) (ds : List α) : List α := if ks.any fun j => decide (j = k) then drepl k a ks ds else ds ++ [a]
end
def keyD : Key → D
  | .inl j => .int j
  | .inr x => .str x
def keyOf : D → Option Key
  | .int j => some (.inl j)
  | .str x => some (.inr x)
  | _ => none
def keysOf : List D → Option (List Key)
  | [] => some []
  | d :: ds => match keyOf d, keysOf ds with
    | some k, some ks => some (k :: ks)
    | _, _ => none
/-- a tuple that may be a key -/
def tkeyOf : D → Option (List Key)
  | .tup xs => if gcon xs then none else keysOf xs
  | _ => none
def dgetop : D → D → Option (Option D)
  | .dK ks ds, c => (keyOf c).map fun k => dlook k ks ds
  | .dT ks ds, c => (tkeyOf c).map fun k => dlook k ks ds
  | _, _ => none
def dputop : D → D → D → Option D
  | .dK ks ds, c, v => if decide (ks.length < sizeLine) then (keyOf c).map fun k => .dK (dkeys k ks) (dvals k v ks ds) else none
  | .dT ks ds, c, v => if decide (ks.length < sizeLine) then (tkeyOf c).map fun k => .dT (dkeys k ks) (dvals k v ks ds) else none
  | _, _, _ => none
/-- the items of a dict -/
def dpairs (ks : List Key) (ds : List D) : List D := List.zipWith (fun k d => .tup [keyD k, d]) ks ds
def isOwnD (ρ : Rho) (i : Nat) : Bool := match ρ[i]? with
  | some (.own (.dK _ _)) => true
  | some (.own (.dT _ _)) => true
  | _ => false
/-- a dict, own or as a value -/
def isDic (ρ : Rho) (i : Nat) : Bool := match ρ[i]? with
  | some (.own (.dK _ _)) => true
  | some (.own (.dT _ _)) => true
  | some (.val (.dK _ _)) => true
  | _ => false
def dgetR (i : Nat) (x y : VR) (ρ : Rho) : Rs VR := match ρ[i]?, x, y with
  | some (.own d), .v c, .v z => match dgetop d c with
    | some o => .ok (.v (o.getD z)) ρ
    | none => .no
  | _, _, _ => .no
def dixR (i : Nat) (x : VR) (ρ : Rho) : Rs VR := match ρ[i]?, x with
  | some (.own d), .v c => match dgetop d c with
    | some (some z) => .ok (.v z) ρ
    | _ => .no
  | some (.val d), .v c => match dgetop d c with
    | some (some z) => .ok (.v z) ρ
    | _ => .no
  | _, _ => .no
def dhasR (ng : Bool) (i : Nat) (x : VR) (ρ : Rho) : Rs VR := match ρ[i]?, x with
  | some (.own d), .v c => match dgetop d c with
    | some o => .ok (.v (.bl (if ng then !o.isSome else o.isSome))) ρ
    | _ => .no
  | _, _ => .no
def dsrtR (i : Nat) (ρ : Rho) : Rs VR := match ρ[i]? with
  | some (.own (.dK ks ds)) => if sortOk (dpairs ks ds) then .ok (.f (.lst false (sortD (dpairs ks ds)))) ρ else .no
  | _ => .no
def dmdR (x y : VR) (ρ : Rho) : Rs VR := match derf ρ x, derf ρ y with
  | some (.int i), some (.int j) => if decide (0 < j ∧ j.natAbs.log2 < 9000) then .ok (.v (.tup [.int (i / j), .int (i % j)])) ρ else .no
  | _, _ => .no
/-- what may be handed to a def -/
def lendOk (ρ : Rho) : List VR → List Bool → Bool
  | .l i :: xs, true :: bs => isOwn ρ i && lendOk ρ xs bs
  | .f _ :: xs, true :: bs => lendOk ρ xs bs
  | .v _ :: xs, false :: bs => lendOk ρ xs bs
  | .f _ :: xs, false :: bs => lendOk ρ xs bs
  | [], [] => true
  | _, _ => false
/-- a name read so that its value may be kept -/
def evV (F : Fns) (i : Nat) (ρ : Rho) : Rs VR := match ρ[i]? with
  | some (.val d) => .ok (.v d) ρ
  | some (.own d) => if F.mine.contains i then .no else .ok (.v d) (ρ.set i (.val d))
  | some (.nam ds) => .ok (.v (.lst true ds)) ρ
  | _ => .no
/-- a name read for the moment -/
def evU (i : Nat) (ρ : Rho) : Rs VR := match ρ[i]? with
  | some (.val d) => .ok (.v d) ρ
  | some (.own d) => .ok (.l i) ρ
  | some (.nam ds) => .ok (.l i) ρ
  | _ => .no
/-- the call of a def with given arguments -/
def evCall (F : Fns) (f : Nat) (xs : List VR) (ρ : Rho) : Rs VR :=
  if lendOk ρ xs (F.lend f) && decide (lentOf xs (F.lend f)).Nodup then
    match derfs ρ xs with
    | none => .no
    | some ds => match F.run f ds with
      | .ok x es => if x.keeps then .ok x (backL ρ xs (F.lend f) es) else .no
      | .exc c d es => .exc c d (backL ρ xs (F.lend f) es)
      | .no => .no
  else .no
/-- the parameters' values from the written ones -/
def pick {α : Type} (inv : List Nat) (xs : List α) : List α := inv.filterMap fun k => xs[k]?
/-- which of the written arguments are lent -/
def flagsK (lend : List Bool) (inv : List Nat) (from_ : Nat) : Nat → List Bool
  | 0 => []
  | n + 1 => lend.getD (inv.idxOf from_) false :: flagsK lend inv (from_ + 1) n
/-- a list comprehension's turns: the outcome of each -/
def lcLoop (turn : D → Rho → Rs (Option D)) : List D → List D → Rho → Rs (List D)
  | [], acc, ρ => .ok acc ρ
  | d :: ds, acc, ρ => match turn d ρ with
    | .ok (some y) ρ' => if decide (acc.length < sizeLine) then lcLoop turn ds (acc ++ [y]) ρ' else .no
    | .ok none ρ' => lcLoop turn ds acc ρ'
    | _ => .no
def rngD (lo : Int) : Nat → List D
  | 0 => []
  | n + 1 => .int lo :: rngD (lo + 1) n
def intOk (i : Int) : Bool := decide (-(2 ^ 62) ≤ i ∧ i < 2 ^ 62)
def enumD : Int → List D → List D
  | _, [] => []
  | k, d :: ds => .tup [.int k, d] :: enumD (k + 1) ds
def zipD : List D → List D → List D
  | x :: xs, y :: ys => .tup [x, y] :: zipD xs ys
  | _, _ => []
def clearS (ρ : Rho) : List Nat → Rho
  | [] => ρ
  | i :: is => (clearS ρ is).set i .un
/-- the slots of a comprehension's own names as they were ahead of it -/
def putBack (old : Rho) (ρ : Rho) : List Nat → Rho
  | [] => ρ
  | i :: is => (putBack old ρ is).set i (old[i]?.getD .un)
def canWipe (ρ : Rho) : List Nat → Bool
  | [] => true
  | i :: is => calmS ρ i && canWipe ρ is

/-- a comprehension's turn -/
def lcTurn (ts : Rho → Rs Bool) (el : Rho → Rs VR) (tg : MT) (d : D) (ρ : Rho) : Rs (Option D) := match bindT tg d ρ with
  | some ρ' => (ts ρ').bind fun b ρ2 => if b then (el ρ2).bind fun y ρ3 => match derf ρ3 y with
      | some d => if y.keeps && canWipe ρ3 (slotsT tg) then .ok (some d) (clearS ρ3 (slotsT tg)) else .no
      | none => .no
    else if canWipe ρ2 (slotsT tg) then .ok none (clearS ρ2 (slotsT tg)) else .no
  | none => .no
/-- two fors -/
def lcTurn2 (ts : Rho → Rs Bool) (it1 : Rho → Rs (List D)) (turn1 : D → Rho → Rs (Option D)) (tg : MT) (is is1 : List Nat) (d : D) (acc : List D) (ρ : Rho) : Rs (List D) := match bindT tg d ρ with
  | some ρ' => (ts ρ').bind fun b ρ2 => if b then (it1 ρ2).bind fun ds1 ρ3 => if canWipe ρ3 is1 then (lcLoop turn1 ds1 acc (clearS ρ3 is1)).bind fun acc' ρ4 => if canWipe ρ4 is then .ok acc' (clearS ρ4 is) else .no
      else .no
    else if canWipe ρ2 is then .ok acc (clearS ρ2 is) else .no
  | none => .no
def lcLoop2 (turn : D → List D → Rho → Rs (List D)) : List D → List D → Rho → Rs (List D)
  | [], acc, ρ => .ok acc ρ
  | d :: ds, acc, ρ => match turn d acc ρ with
    | .ok acc' ρ' => lcLoop2 turn ds acc' ρ'
    | _ => .no
def lcEnd (ρ1 : Rho) (is : List Nat) (ys : List D) (ρ4 : Rho) : Rs VR := if canWipe ρ4 is then .ok (.f (.lst false ys)) (putBack ρ1 ρ4 is) else .no
def rngI (xs : List VR) (ρ1 : Rho) : Rs (List D) := match derfs ρ1 xs with
  | some [.int n] => if intOk n then .ok (rngD 0 n.toNat) ρ1 else .no
  | some [.int a, .int b] => if intOk a && intOk b then .ok (rngD a (b - a).toNat) ρ1 else .no
  | _ => .no
def enumI (x : VR) (ρ1 : Rho) : Rs (List D) := if x.keeps then match derf ρ1 x with
  | some d => Rs.of ((seqOf d).map (enumD 0)) ρ1
  | none => .no
  else .no
def zipI (x y : VR) (ρ2 : Rho) : Rs (List D) := if x.keeps && y.keeps then match derf ρ2 x, derf ρ2 y with
  | some (.tup xs), some (.tup ys) => .ok (zipD xs ys) ρ2
  | some (.lst _ xs), some (.lst _ ys) => .ok (zipD xs ys) ρ2
  | _, _ => .no
  else .no
def seqI (x : VR) (ρ1 : Rho) : Rs (List D) := if x.keeps then match derf ρ1 x with
  | some d => Rs.of (seqOf d) ρ1
  | none => .no
  else .no

/-- the keys of an own dict, locked from then on -/
def dkyR (mine : List Nat) (i : Nat) (ρ : Rho) : Rs (List D) := match ρ[i]? with
  | some (.own (.dK ks ds)) => if mine.contains i then .no else .ok (ks.map keyD) (ρ.set i (.val (.dK ks ds)))
  | _ => .no
/-- own lists whose names a comprehension takes: values from now on -/
def fzS (mine : List Nat) (ρ : Rho) : List Nat → Rho
  | [] => ρ
  | i :: is => match (fzS mine ρ is)[i]? with
    | some (.own d) => if mine.contains i then fzS mine ρ is else (fzS mine ρ is).set i (.val d)
    | _ => fzS mine ρ is
def lcGo (turn : D → Rho → Rs (Option D)) (is : List Nat) (ds : List D) (ρ1 : Rho) : Rs VR := if canWipe ρ1 is then (lcLoop turn ds [] (clearS ρ1 is)).bind (lcEnd ρ1 is) else .no
def lcGo2 (turn : D → List D → Rho → Rs (List D)) (is : List Nat) (ds : List D) (ρ1 : Rho) : Rs VR := if canWipe ρ1 is then (lcLoop2 turn ds [] (clearS ρ1 is)).bind (lcEnd ρ1 is) else .no
mutual
/-- a value -/
def evE (F : Fns) (u : Bool) : ME → Rho → Rs VR
  | .var i, ρ => if u then evU i ρ else evV F i ρ
  | .int n, ρ => .ok (.v (.int n)) ρ
  | .bl b, ρ => .ok (.v (.bl b)) ρ
  | .non, ρ => .ok (.v .non) ρ
  | .str x, ρ => .ok (.v (.str x)) ρ
  | .glb k, ρ => .ok (.v (F.glb k)) ρ
  | .bin o a b, ρ => (evE F true a ρ).bind fun x ρ1 => (evE F true b ρ1).bind fun y ρ2 =>
      match derf ρ2 x, derf ρ2 y with
      | some d, some e => Rs.of (bop o d e) ρ2
      | _, _ => .no
  | .neg a, ρ => (evE F true a ρ).bind fun x ρ1 => match derf ρ1 x with
      | some (.int i) => .ok (.v (.int (-i))) ρ1
      | _ => .no
  | .notv a, ρ => (evE F false a ρ).bind fun x ρ1 => match x with
      | .v (.bl b) => .ok (.v (.bl (!b))) ρ1
      | _ => .no
  | .cmp o a b, ρ => (evE F true a ρ).bind fun x ρ1 => (evE F true b ρ1).bind fun y ρ2 =>
      match derf ρ2 x, derf ρ2 y with
      | some d, some e => Rs.of ((cop o d e).map fun b => .v (.bl b)) ρ2
      | _, _ => .no
  | .isN ng a, ρ => (evE F true a ρ).bind fun x ρ1 => match derf ρ1 x with
      | some .non => .ok (.v (.bl (!ng))) ρ1
      | some _ => .ok (.v (.bl ng)) ρ1
      | none => .no
  | .chn o p a b c, ρ => (evE F true a ρ).bind fun x ρ1 => (evE F true b ρ1).bind fun y ρ2 =>
      match derf ρ2 x, derf ρ2 y with
      | some d, some e => match cop o d e with
        | some true => (evE F true c ρ2).bind fun z ρ3 => match derf ρ3 y, derf ρ3 z with
          | some e', some g => Rs.of ((cop p e' g).map fun b => .v (.bl b)) ρ3
          | _, _ => .no
        | some false => .ok (.v (.bl false)) ρ2
        | none => .no
      | _, _ => .no
  | .andv es, ρ => evAnd F es ρ
  | .orv es, ρ => evOr F es ρ
  | .ife c a b, ρ => (evE F false c ρ).bind fun x ρ1 => match x with
      | .v (.bl true) => evE F u a ρ1
      | .v (.bl false) => evE F u b ρ1
      | _ => .no
  | .tup es, ρ => (evEs F es ρ).bind fun xs ρ1 => match derfs ρ1 xs with
      | some ds => if small ds.length then .ok (.v (.tup ds)) ρ1 else .no
      | none => .no
  | .lst es, ρ => (evEs F es ρ).bind fun xs ρ1 => match derfs ρ1 xs with
      | some ds => if small ds.length then .ok (.f (.lst false ds)) ρ1 else .no
      | none => .no
  | .ix a i, ρ => (evE F true a ρ).bind fun x ρ1 => (evE F true i ρ1).bind fun y ρ2 =>
      match derf ρ2 x, derf ρ2 y with
      | some d, some e => Rs.of ((ixop d e).map .v) ρ2
      | _, _ => .no
  | .sl a lo hi, ρ => (evE F true a ρ).bind fun x ρ1 => (evP F lo ρ1).bind fun l ρ2 => (evP F hi ρ2).bind fun h ρ3 =>
      match derf ρ3 x with
      | some d => Rs.of (slop d l h) ρ3
      | _ => .no
  | .call f es, ρ => (evC F (F.lend f) es ρ).bind fun xs ρ1 => evCall F f xs ρ1
  | .callK f es ks inv, ρ => (evC F (flagsK (F.lend f) inv 0 es.length) es ρ).bind fun xs ρ1 => (evC F (flagsK (F.lend f) inv es.length ks.length) ks ρ1).bind fun ys ρ2 => evCall F f (pick inv (xs ++ ys)) ρ2
  | .blt b es, ρ => (evOs F es ρ).bind fun xs ρ1 => match derfs ρ1 xs with
      | some ds => Rs.of (bltop b ds) ρ1
      | none => .no
  | .isi t a, ρ => (evE F true a ρ).bind fun x ρ1 => match derf ρ1 x with
      | some d => .ok (.v (.bl (isTy t d))) ρ1
      | none => .no
  | .lc elt tg it ifs, ρ => (match it with
      | .rng es => (evOs F es ρ).bind rngI
      | .enum a => (evE F false a ρ).bind enumI
      | .zip a b => (evE F false a ρ).bind fun x ρ1 => (evE F false b ρ1).bind (zipI x)
      | .dky i => dkyR F.mine i ρ
      | m => (evE F false m ρ).bind seqI).bind fun ds ρ1 =>
      lcGo (lcTurn (fun ρ => evTs F ifs ρ) (fun ρ => evE F false elt ρ) tg) (slotsT tg) ds (fzS F.mine ρ1 (slotsT tg))
  | .app i e, ρ => if !isOwnL ρ i then .no else (evE F false e ρ).bind fun y ρ1 => match ρ1[i]?, derf ρ1 y with
      | some (.own (.lst nm xs)), some d => if decide (xs.length < sizeLine) && y.keeps then .ok (.v .non) (ρ1.set i (.own (.lst false (xs ++ [d])))) else .no
      | _, _ => .no
  | .ext i e, ρ => if !isOwnL ρ i then .no else (evE F true e ρ).bind fun y ρ1 => match ρ1[i]?, derf ρ1 y with
      | some (.own (.lst nm xs)), some (.lst _ ys) => if small (xs.length + ys.length) then .ok (.v .non) (ρ1.set i (.own (.lst false (xs ++ ys)))) else .no
      | _, _ => .no
  | .pop i, ρ => match ρ[i]? with
      | some (.own (.lst nm xs)) => match xs[xs.length - 1]? with
        | some d => .ok (.v d) (ρ.set i (.own (.lst false xs.dropLast)))
        | none => .no
      | _ => .no
  | .rng _, _ => .no
  | .enum _, _ => .no
  | .zip _ _, _ => .no
  | .dky _, _ => .no
  | .rev a, ρ => (evE F true a ρ).bind fun x ρ1 => match derf ρ1 x with
      | some (.lst _ xs) => .ok (.f (.lst false xs.reverse)) ρ1
      | some (.tup xs) => .ok (.v (.tup xs.reverse)) ρ1
      | _ => .no
  | .isB ng b a, ρ => (evE F true a ρ).bind fun x ρ1 => match derf ρ1 x with
      | some (.bl c) => .ok (.v (.bl (if ng then !decide (c = b) else decide (c = b)))) ρ1
      | _ => .no
  | .lc2 elt tg it ifs tg1 it1 ifs1, ρ => (match it with
      | .rng es => (evOs F es ρ).bind rngI
      | .enum a => (evE F false a ρ).bind enumI
      | .zip a b => (evE F false a ρ).bind fun x ρ1 => (evE F false b ρ1).bind (zipI x)
      | .dky i => dkyR F.mine i ρ
      | m => (evE F false m ρ).bind seqI).bind fun ds ρ1 =>
      lcGo2 (lcTurn2 (fun ρ => evTs F ifs ρ) (fun ρ => match it1 with
            | .rng es => (evOs F es ρ).bind rngI
            | .enum a => (evE F false a ρ).bind enumI
            | .zip a b => (evE F false a ρ).bind fun x ρ1 => (evE F false b ρ1).bind (zipI x)
            | .dky i => dkyR F.mine i ρ
            | m => (evE F false m ρ).bind seqI)
          (lcTurn (fun ρ => evTs F ifs1 ρ) (fun ρ => evE F false elt ρ) tg1) tg (slotsT tg ++ slotsT tg1) (slotsT tg1)) (slotsT tg ++ slotsT tg1) ds (fzS F.mine ρ1 (slotsT tg ++ slotsT tg1))
  | .isx c a, ρ => (evE F true a ρ).bind fun x ρ1 => match derf ρ1 x with
      | some (.exn c' _) => Rs.of ((F.sub c' c).map fun b => .v (.bl b)) ρ1
      | _ => .no
  | .fld i, ρ => match ρ[i]? with
      | some (.val (.exn _ d)) => .ok (.v d) ρ
      | _ => .no
  | .chn3 o p q a b c d, ρ => (evE F true a ρ).bind fun x ρ1 => (evE F true b ρ1).bind fun y ρ2 =>
      match derf ρ2 x, derf ρ2 y with
      | some d1, some e1 => match cop o d1 e1 with
        | some true => (evE F true c ρ2).bind fun z ρ3 => match derf ρ3 y, derf ρ3 z with
          | some e', some g => match cop p e' g with
            | some true => (evE F true d ρ3).bind fun w ρ4 => match derf ρ4 z, derf ρ4 w with
              | some g', some h => Rs.of ((cop q g' h).map fun b => .v (.bl b)) ρ4
              | _, _ => .no
            | some false => .ok (.v (.bl false)) ρ3
            | none => .no
          | _, _ => .no
        | some false => .ok (.v (.bl false)) ρ2
        | none => .no
      | _, _ => .no
  | .idx a e, ρ => (evE F true a ρ).bind fun x ρ1 => match derf ρ1 x with
      | some (.tn _) => (evE F true e ρ1).bind fun y ρ2 => match derf ρ2 x, derf ρ2 y with
        | some (.tn ys), some d => Rs.of ((idxop (.tn ys) d).map fun i => .v (.int i)) ρ2
        | _, _ => .no
      | some (.lst _ _) => (evE F true e ρ1).bind fun y ρ2 => match derf ρ2 x, derf ρ2 y with
        | some (.lst nm ys), some d => Rs.of ((idxop (.lst nm ys) d).map fun i => .v (.int i)) ρ2
        | _, _ => .no
      | _ => .no
  | .tupN es, ρ => (evEs F es ρ).bind fun xs ρ1 => match derfs ρ1 xs with
      | some ds => if small ds.length then .ok (.v (.tn ds)) ρ1 else .no
      | none => .no
  | .tplN a, ρ => (evE F true a ρ).bind fun x ρ1 => match derf ρ1 x with
      | some (.lst _ ds) => .ok (.v (.tn ds)) ρ1
      | _ => .no
  | .lrg es, ρ => ((evOs F es ρ).bind rngI).bind fun ds ρ1 => if small ds.length then .ok (.f (.lst false ds)) ρ1 else .no
  | .dnew t, ρ => .ok (.f (if t then .dT [] [] else .dK [] [])) ρ
  | .dget i k e, ρ => if isOwnD ρ i then (evE F false k ρ).bind fun x ρ1 => (evE F false e ρ1).bind fun y ρ2 => dgetR i x y ρ2 else .no
  | .dix i k, ρ => if isDic ρ i then (evE F false k ρ).bind fun x ρ1 => dixR i x ρ1 else .no
  | .dhas ng i k, ρ => (evE F false k ρ).bind fun x ρ1 => dhasR ng i x ρ1
  | .dsrt i, ρ => dsrtR i ρ
  | .dmd a b, ρ => (evE F true a ρ).bind fun x ρ1 => (evE F true b ρ1).bind fun y ρ2 => dmdR x y ρ2
def evEs (F : Fns) : List ME → Rho → Rs (List VR)
  | [], ρ => .ok [] ρ
  | e :: r, ρ => (evE F false e ρ).bind fun x ρ1 => if x.keeps then (evEs F r ρ1).bind fun xs ρ2 => .ok (x :: xs) ρ2 else .no
def evOs (F : Fns) : List ME → Rho → Rs (List VR)
  | [], ρ => .ok [] ρ
  | e :: r, ρ => (evE F true e ρ).bind fun x ρ1 => (evOs F r ρ1).bind fun xs ρ2 => .ok (x :: xs) ρ2
/-- a call's arguments: a lent one is a name -/
def evC (F : Fns) : List Bool → List ME → Rho → Rs (List VR)
  | _, [], ρ => .ok [] ρ
  | b :: bs, e :: r, ρ => (evE F b e ρ).bind fun x ρ1 => if b || x.keeps then (evC F bs r ρ1).bind fun xs ρ2 => .ok (x :: xs) ρ2 else .no
  | [], _ :: _, _ => .no
def evAnd (F : Fns) : List ME → Rho → Rs VR
  | [], _ => .no
  | e :: r, ρ => match r with
    | [] => evE F false e ρ
    | _ :: _ => (evE F false e ρ).bind fun x ρ1 => match x with
      | .v (.bl true) => evAnd F r ρ1
      | .v (.bl false) => .ok (.v (.bl false)) ρ1
      | _ => .no
def evOr (F : Fns) : List ME → Rho → Rs VR
  | [], _ => .no
  | e :: r, ρ => match r with
    | [] => evE F false e ρ
    | _ :: _ => (evE F false e ρ).bind fun x ρ1 => match x with
      | .v (.bl false) => evOr F r ρ1
      | .v (.bl true) => .ok (.v (.bl true)) ρ1
      | _ => .no
/-- a slice's part -/
def evP (F : Fns) : Option ME → Rho → Rs (Option Int)
  | none, ρ => .ok none ρ
  | some e, ρ => (evE F false e ρ).bind fun x ρ1 => match x with
    | .v (.int i) => .ok (some i) ρ1
    | _ => .no
/-- tests behind one another -/
def evTs (F : Fns) : List ME → Rho → Rs Bool
  | [], ρ => .ok true ρ
  | e :: r, ρ => match r with
    | [] => (evE F false e ρ).bind fun x ρ1 => match x with
      | .v (.bl b) => .ok b ρ1
      | _ => .no
    | _ :: _ => .no
end
/-- what a loop walks -/
def evI (F : Fns) (it : ME) (ρ : Rho) : Rs (List D) := match it with
  | .rng es => (evOs F es ρ).bind rngI
  | .enum a => (evE F false a ρ).bind enumI
  | .zip a b => (evE F false a ρ).bind fun x ρ1 => (evE F false b ρ1).bind (zipI x)
  | .dky i => dkyR F.mine i ρ
  | m => (evE F false m ρ).bind seqI
end Own

/-! part Own3 -/
namespace Own
open PySem PySem.Spec L2

/-- the datum's top by its kind, its parts within the region -/
def Dx (K : PySem.W.Frag) (R : Bool → Addr → Prop) (H : Hp) (v : V) : D → Prop
  | .non => v = .non
  | .bl b => v = .bl b
  | .int i => v = .int i
  | .str x => v = .str x
  | .tup ds => ∃ a vs, v = .ref a ∧ TupAt K H a vs ds ∧ Drs K R H vs ds
  | .lst _ ds => ∃ a vs, v = .ref a ∧ H a = some (.lst vs) ∧ Drs K R H vs ds
  | .dK ks ds => ∃ a vs, v = .ref a ∧ (H a = some (.dK (ks.zip vs)) ∨ ∃ o, H a = some (.frz o (.dK (ks.zip vs)))) ∧ ks.length = vs.length ∧ Drs K R H vs ds
  | .dT ks ds => ∃ a vs, v = .ref a ∧ H a = some (.dT (ks.zip vs)) ∧ ks.length = vs.length ∧ Drs K R H vs ds
  | .scr ds => ∃ a vs, v = .ref a ∧ ScrAt K H a vs ∧ Drs K R H vs ds
  | .tn ds => ∃ a o vs, v = .ref a ∧ H a = some (.frz o (.tup vs)) ∧ o.dict = none ∧ Drs K R H vs ds
  | .lk P => ∃ a u, v = .ref a ∧ H a = some u ∧ LkD u ∧ P u
  | .exn c d => ∃ a b ca w, v = .ref a ∧ H a = some (exv a ca b) ∧ H b = some (.xd [("value", w)]) ∧ clsK K c ca ∧ Dr K R H w d
section
variable {K : PySem.W.Frag} {R R' : Bool → Addr → Prop} {H H' : Hp}
theorem Dr.dx : ∀ {v : V} {d : D}, Dr K R H v d → Dx K R H v d
  | _, _, .non => rfl
  | _, _, .bl b => rfl
  | _, _, .int i => rfl
  | _, _, .str x => rfl
  | _, _, .tup h t => ⟨_, _, rfl, h, t⟩
  | _, _, .lst h r t => ⟨_, _, rfl, h, t⟩
  | _, _, .dK h l t => ⟨_, _, rfl, h.imp (·.1) id, l, t⟩
  | _, _, .dT h l r t => ⟨_, _, rfl, h, l, t⟩
  | _, _, .scr h t => ⟨_, _, rfl, h, t⟩
  | _, _, .exn h h2 q t => ⟨_, _, _, _, rfl, h, h2, q, t⟩
  | _, _, .tn h h2 t => ⟨_, _, _, rfl, h, h2, t⟩
  | _, _, .lk h l p => ⟨_, _, rfl, h, l, p⟩
theorem Top.dx {a : Addr} : ∀ {d : D}, Top K R H a d → Dx K R H (.ref a) d
  | .lst nm ds, ⟨_, vs, h, t⟩ => ⟨_, _, rfl, h, t⟩
  | .dK ks ds, ⟨vs, h, l, t⟩ => ⟨_, _, rfl, .inl h, l, t⟩
  | .dT ks ds, ⟨vs, h, l, t⟩ => ⟨_, _, rfl, h, l, t⟩
abbrev RT : Bool → Addr → Prop := fun _ _ => True
theorem Dx.dr {v : V} : ∀ {d : D}, Dx K R H v d → Dr K RT H v d
  | .non, h => h ▸ .non
  | .bl b, h => h ▸ .bl b
  | .int i, h => h ▸ .int i
  | .str x, h => h ▸ .str x
  | .tup ds, ⟨a, vs, e, h, t⟩ => e ▸ .tup h (t.mono fun _ _ _ _ => trivial)
  | .lst _ ds, ⟨a, vs, e, h, t⟩ => e ▸ .lst h trivial (t.mono fun _ _ _ _ => trivial)
  | .dK ks ds, ⟨a, vs, e, h, l, t⟩ => e ▸ .dK (h.imp (fun z => ⟨z, trivial⟩) id) l (t.mono fun _ _ _ _ => trivial)
  | .dT ks ds, ⟨a, vs, e, h, l, t⟩ => e ▸ .dT h l trivial (t.mono fun _ _ _ _ => trivial)
  | .scr ds, ⟨a, vs, e, h, t⟩ => e ▸ .scr h (t.mono fun _ _ _ _ => trivial)
  | .tn ds, ⟨a, o, vs, e, h, h2, t⟩ => e ▸ .tn h h2 (t.mono fun _ _ _ _ => trivial)
  | .lk P, ⟨a, u, e, h, l, p⟩ => e ▸ .lk h l p
  | .exn c d, ⟨a, b, ca, w, e, h, h2, q, t⟩ => e ▸ .exn h h2 q (t.mono fun _ _ _ _ => trivial)
end

/-- a tuple, as it is read -/
def DxT (K : PySem.W.Frag) (R : Bool → Addr → Prop) (H : Hp) (v : V) (ds : List D) : Prop := ∃ a vs, v = .ref a ∧ SqT K H a vs ∧ Drs K R H vs ds
theorem Dx.tup {K : PySem.W.Frag} {R : Bool → Addr → Prop} {H : Hp} {v : V} {ds : List D} (h : Dx K R H v (.tn ds)) : DxT K R H v ds :=
  let ⟨a, o, vs, e, h1, _, t⟩ := h
  ⟨a, vs, e, .inl (.inr ⟨o, h1⟩), t⟩
theorem Dx.tt {K : PySem.W.Frag} {R : Bool → Addr → Prop} {H : Hp} {v : V} {ds : List D} (h : Dx K R H v (.tup ds)) : DxT K R H v ds :=
  let ⟨a, vs, e, h1, t⟩ := h
  ⟨a, vs, e, h1.sq, t⟩
def tmps : VR → V → List Addr
  | .f _, .ref a => [a]
  | _, _ => []
def VRep (C : Cn) (T : List Addr) (ρ : Rho) (σ : St) (H : Hp) (x : VR) (v : V) : Prop := match x with
  | .v d => Dr C.K (Reg C T ρ σ) H v d
  | .f d => ∃ a, v = .ref a ∧ a ∈ T ∧ Top C.K (Reg C T ρ σ) H a d
  | .l i => σ[i]? = some (some v)
/-- an expression's end -/
def EPost (C : Cn) (T : List Addr) (ρ : Rho) (σ : St) (H : Hp) (x : VR) (ρ' : Rho) (v : V) (H' : Hp) : Prop :=
  Step ρ ρ' σ H H' ∧ Rep C (tmps x v ++ T) ρ' σ H' ∧ VRep C (tmps x v ++ T) ρ' σ H' x v ∧ ∀ a ∈ tmps x v, H a = none
/-- an error of a class with its value -/
def ExP (C : Cn) (R : Bool → Addr → Prop) (H : Hp) (cls : Value) (dd : Option Addr) (c : Str) (d : D) : Prop :=
  ∃ a b v, cls = .ref a ∧ C.cls c a ∧ dd = some b ∧ H b = some (.xd [("value", v)]) ∧ Dr C.K R H v d
def XPost (C : Cn) (T : List Addr) (ρ : Rho) (σ : St) (H : Hp) (c : Str) (d : D) (ρ' : Rho) (cls : Value) (dd : Option Addr) (H' : Hp) : Prop :=
  Step ρ ρ' σ H H' ∧ Rep C T ρ' σ H' ∧ ExP C (Reg C T ρ' σ) H' cls dd c d
def After {α β : Type} (C : Cn) (W : WX) (T : List Addr) (ρ : Rho) (σ : St) (H : Hp) (r : Rs α) (P : α → Rho → β → Hp → Prop) (Q : β → Hp → Prop) : Prop := match r with
  | .ok x ρ' => ∀ v H', P x ρ' v H' → Q v H'
  | .exc c d ρ' => ∀ cls dd H', XPost C T ρ σ H c d ρ' cls dd H' → W cls dd σ H'
  | .no => False
def rdE (C : Cn) (F : Fns) (W : WX) (u : Bool) (m : ME) : TE := fun σ H Q => ∃ T ρ, Rep C T ρ σ H ∧ After C W T ρ σ H (evE F u m ρ) (EPost C T ρ σ H) Q
def rdT (C : Cn) (F : Fns) (W : WX) (m : ME) : TT := fun σ H Q => ∃ T ρ, Rep C T ρ σ H ∧ After C W T ρ σ H ((evE F false m ρ).bind fun x ρ' => match x with | .v (.bl b) => .ok b ρ' | _ => .no)
  (fun b ρ' c H' => c = b ∧ Step ρ ρ' σ H H' ∧ Rep C T ρ' σ H') Q

section
variable {C : Cn} {W : WX} {T L : List Addr} {ρ ρ1 ρ2 : Rho} {σ : St} {H H1 H2 H3 : Hp} {x y : VR} {v w : V} {d e : D}
theorem VRep.more (r : Rep C T ρ σ H) (s : Step ρ ρ1 σ H H1) (hL : ∀ a ∈ L, H a = none) (h : VRep C T ρ σ H x v) : VRep C (L ++ T) ρ1 σ H1 x v := by
  have k := s.kept r
  have g : ∀ nm b, Reg C T ρ σ nm b → (∃ o, H b = some o) → Reg C (L ++ T) ρ1 σ nm b := fun nm b g ⟨o, e⟩ =>
    have g1 := s.reg g
    ⟨g1.out, fun z => (List.mem_append.mp z).elim (fun z => by rw [hL b z] at e; cases e) g1.tmp, g1.own, g1.nam⟩
  cases x with
  | v d => exact Dr.keep k g h
  | f d =>
    obtain ⟨a, e, m, t⟩ := h
    exact ⟨a, e, List.mem_append_right _ m, t.keep k g fun o q => s.keep a o q fun z => r.ownT a z m⟩
  | l i => exact h
theorem EPost.rep (p : EPost C T ρ σ H x ρ1 v H1) : Rep C (tmps x v ++ T) ρ1 σ H1 := p.2.1
theorem XPost.up {c : Str} {cls : Value} {dd : Option Addr} (s : Step ρ ρ1 σ H H1) (q : XPost C (L ++ T) ρ1 σ H1 c d ρ2 cls dd H2) : XPost C T ρ σ H c d ρ2 cls dd H2 := by
  obtain ⟨s2, r2, a, b, v, e1, e2, e3, e4, e5⟩ := q
  exact ⟨s.trans s2, r2.lessL, a, b, v, e1, e2, e3, e4, e5.mono fun _ _ g _ => g.lessL⟩
theorem derf_dx (r : Rep C T ρ σ H) (h : VRep C T ρ σ H x v) (e : derf ρ x = some d) : Dx C.K (Reg C T ρ σ) H v d := by
  cases x with
  | v z => cases e; exact Dr.dx h
  | f z =>
    cases e
    obtain ⟨a, rfl, m, t⟩ := h
    exact t.dx
  | l i =>
    unfold derf at e
    simp only at e
    split at e
    · cases e
      rename_i q
      obtain ⟨u, e1, e2⟩ := r.val i _ q
      rw [show σ[i]? = some (some v) from h] at e1
      cases e1
      exact e2.dx
    · cases e
      rename_i q
      obtain ⟨a, e1, e2⟩ := r.own i _ q
      rw [show σ[i]? = some (some v) from h] at e1
      cases e1
      exact e2.dx
    · cases e
      rename_i q
      obtain ⟨a, vs, e1, e2, e3, _⟩ := r.nam i _ q
      rw [show σ[i]? = some (some v) from h] at e1
      cases e1
      exact ⟨a, vs, rfl, e2, e3.mono fun _ _ g _ => g.2⟩
    · cases e
/-- what an operation leaves: new objects alone -/
def Res (C : Cn) (T : List Addr) (ρ : Rho) (σ : St) (H H' : Hp) (x : VR) (v : V) : Prop := Ext H H' ∧ match x with
  | .v d => Dr C.K (Reg C T ρ σ) H' v d
  | .f d => ∃ a, v = .ref a ∧ H a = none ∧ Top C.K (Reg C (a :: T) ρ σ) H' a d
  | .l _ => False
theorem Res.here (h : Dr C.K (Reg C T ρ σ) H v d) : Res C T ρ σ H H (.v d) v := ⟨fun _ _ e => e, h⟩
/-- an expression's end by an operation -/
theorem EPost.of (s : Step ρ ρ1 σ H H1) (r : Rep C (L ++ T) ρ1 σ H1) (q : Res C (L ++ T) ρ1 σ H1 H2 x v) : EPost C T ρ σ H x ρ1 v H2 := by
  obtain ⟨e, q⟩ := q
  cases x with
  | v d => exact ⟨s.trans e.step, (r.ext e).lessL, q.mono fun _ _ g _ => g.lessL, fun _ z => nomatch z⟩
  | f d =>
    obtain ⟨a, rfl, ha, t⟩ := q
    have r2 := r.more e ha (let ⟨o, q, _⟩ := t.at; ⟨o, q⟩)
    have g : ∀ nm b, Reg C (a :: (L ++ T)) ρ1 σ nm b → Reg C ([a] ++ T) ρ1 σ nm b := fun nm b g =>
      ⟨g.out, fun z => g.tmp ((List.mem_cons.mp z).elim (fun w => w ▸ List.mem_cons_self) fun w => List.mem_cons_of_mem _ (List.mem_append_right _ w)), g.own, g.nam⟩
    refine ⟨s.trans e.step, ?_, ⟨a, rfl, List.mem_cons_self, t.keep Keep.refl (fun nm b z _ => g nm b z) fun _ z => z⟩, fun b z => ?_⟩
    · -- the temporaries in between are let go
      have : Rep C (L ++ ([a] ++ T)) ρ1 σ H2 := r2.perm (by intro b hb; simp at hb ⊢; rcases hb with h | h | h <;> simp [h])
      exact this.lessL
    · have : b = a := by simpa [tmps] using z
      subst this
      exact s.none ha
  | l i => exact q.elim
end
end Own

/-! part OwnJ -/
namespace HT
open PySem PySem.Spec PyProof.Rows
section
variable {prog : Program} {w : World} {A : Around} {E : Value → Shared → Prop} {s : Shared}
theorem adjust_rev (n : Nat) : Builtin.Slice.sliceAdjust none none (-1) (n : Int) = ((n : Int) - 1, -1) := rfl
theorem places_rev (n : Nat) : Builtin.Slice.slicePlaces ((n : Int) - 1) (-1) (-1) = n := by
  unfold Builtin.Slice.slicePlaces
  have h1 : ¬ ((-1 : Int) > 0) := by omega
  simp only [h1, if_false]
  by_cases h : n = 0
  · subst h; rfl
  · have h2 : ((n : Int) - 1 > -1) := by omega
    simp only [h2, if_true, Int.neg_neg, Int.ediv_one]
    omega
theorem sliceApplied_rev {sl : Addr} {vl vu vs : Value} {n : Nat} {Q : Int × Int × Nat → Shared → Prop} (hs : s.heap.IsSliceOf sl vl vu vs) (pl : IsPart vl none) (pu : IsPart vu none) (ps : IsPart vs (some (-1)))
    (h : Q ((n : Int) - 1, -1, n) s) : wpAny (model prog w) A (Builtin.Slice.sliceApplied (.ref sl) (pure (n : Int))) Q E s := by
  obtain ⟨os, hos, hcs, hds⟩ := id hs
  unfold Builtin.Slice.sliceApplied Builtin.Slice.sliceFields
  refine wpAny_bind (wpAny_bind (wpAny_field hos hds (x := vl) rfl (wpAny_bind (wpAny_field hos hds (x := vu) rfl (wpAny_bind (wpAny_field hos hds (x := vs) rfl (wpAny_pure ?_)))))))
  refine wpAny_bind (slicePart_ ps ?_)
  show wpAny _ _ (if ((-1 : Int) == 0) = true then _ else _) _ _ s
  rw [if_neg (by decide)]
  refine wpAny_bind (slicePart_ pl (wpAny_bind (slicePart_ pu (wpAny_bind (wpAny_pure ?_)))))
  show wpAny _ _ (match Builtin.Slice.sliceAdjust none none (-1) (n : Int) with | (lo, hi) => pure (lo, (-1 : Int), Builtin.Slice.slicePlaces lo hi (-1))) _ _ s
  rw [adjust_rev n]
  show wpAny _ _ (pure ((n : Int) - 1, (-1 : Int), Builtin.Slice.slicePlaces ((n : Int) - 1) (-1) (-1))) _ _ s
  rw [places_rev]
  exact wpAny_pure h
theorem pick_rev (xs : List Value) : ((List.range xs.toArray.size).filterMap fun (m : Nat) => xs.toArray[(((xs.toArray.size : Nat) : Int) - 1 + (m : Int) * (-1)).toNat]?) = xs.reverse := by
  apply List.ext_getElem?
  intro i
  rw [List.size_toArray]
  have e : ∀ m ∈ List.range xs.length, (xs.toArray[(((xs.length : Nat) : Int) - 1 + (m : Int) * (-1)).toNat]?) = some (xs.getD (xs.length - 1 - m) default) := fun m hm => by
    have hm := List.mem_range.mp hm
    have e1 : (((xs.length : Nat) : Int) - 1 + (m : Int) * (-1)).toNat = xs.length - 1 - m := by omega
    rw [e1, List.getElem?_toArray, List.getElem?_eq_getElem (by omega), List.getD_eq_getElem?_getD, List.getElem?_eq_getElem (by omega)]
    rfl
  have fm : ∀ l : List Nat, (∀ m ∈ l, m ∈ List.range xs.length) → (l.filterMap fun (m : Nat) => xs.toArray[(((xs.length : Nat) : Int) - 1 + (m : Int) * (-1)).toNat]?) = l.map fun m => xs.getD (xs.length - 1 - m) default := fun l => by
    induction l with
    | nil => intro _; rfl
    | cons a l ih =>
      intro h
      rw [List.filterMap_cons, e a (h a List.mem_cons_self), List.map_cons, ih fun m hm => h m (List.mem_cons_of_mem _ hm)]
  rw [fm _ fun _ h => h, List.getElem?_map]
  by_cases hi : i < xs.length
  · rw [List.getElem?_range hi, List.getElem?_reverse hi, List.getElem?_eq_getElem (by omega), Option.map_some, List.getD_eq_getElem?_getD, List.getElem?_eq_getElem (by omega)]
    rfl
  · rw [List.getElem?_eq_none (by simp; omega), List.getElem?_eq_none (by simp; omega)]
    rfl
theorem getItem_tuple_rev {t sl : Addr} {xs : List Value} {vl vu vs : Value} {Q : Value → Shared → Prop} (ht : IsTup s.heap t xs.toArray) (hs : s.heap.IsSliceOf sl vl vu vs) (pl : IsPart vl none) (pu : IsPart vu none) (ps : IsPart vs (some (-1)))
    (h : Q (.ref s.heap.objs.size) { s with heap := s.heap.push { cls := .type "tuple", data := .seq xs.reverse.toArray } })
    (hsz : xs.length ≤ sizeLine) : wpAny (model prog w) A (getItem (.ref t) (.ref sl)) Q E s := by
  have htake : sizeOk (.seq xs.reverse.toArray) := by
    show xs.reverse.toArray.size ≤ sizeLine
    rw [List.size_toArray, List.length_reverse]
    exact hsz
  obtain ⟨os, hos, hcs, hds⟩ := id hs
  have hTs : s.TypeIs (.ref sl) "slice" := ⟨os, hos, hcs⟩
  unfold getItem
  try with_reducible refine wpAny_holding ?_
  first | refine wpAny_bind (wpAny_pure ?_) | skip
  refine wpAny_bind (wpAny_sequenceKey ht.typeIs (by decide) ?_)
  refine wpAny_bind (wpAny_callSpecial?_slot (name := Str.ofString "__getitem__") ht.typeIs PyProof.Rows.slot_tuple_getitem
    (wpAny_call_entry PyProof.Rows.slot_tuple_getitem ht.typeIs entry_tuple_getitem ?_ (args_tuple_getitem _ _)))
  show wpAny _ _ (Builtin.Tuple.tupleItemsOf (.ref t) >>= _) _ _ s
  refine wpAny_bind (tupleItemsOf_ ht ?_)
  refine wpAny_bind (wpAny_typeOf hTs ?_)
  rw [if_pos (by decide)]
  refine wpAny_bind (sliceApplied_rev hs pl pu ps ?_)
  have hno : ¬ ((((xs.toArray.size : Nat) : Int) - 1 == 0 && (-1 : Int) == 1 && xs.toArray.size == xs.toArray.size) = true) := by
    intro q
    rw [Bool.and_eq_true, Bool.and_eq_true] at q
    exact absurd q.1.2 (by decide)
  show wpAny _ _ (if (((xs.toArray.size : Nat) : Int) - 1 == 0 && (-1 : Int) == 1 && xs.toArray.size == xs.toArray.size) = true then _ else _) _ _ s
  rw [if_neg hno, pick_rev]
  first
    | exact wpAny_bind (m := Builtin.Tuple.tupleExact _) (wpAny_newObj_type (wpAny_pure ⟨_, rfl, wpAny_pure h⟩) htake)
    | exact wpAny_bind (m := Builtin.Tuple.tupleExact _) (wpAny_newObj_type (wpAny_bind (wpAny_pure (wpAny_pure ⟨_, rfl, wpAny_pure h⟩))) htake)
    | exact wpAny_bind (wpAny_bind (m := Builtin.Tuple.tupleExact _) (wpAny_newObj_type (wpAny_pure (wpAny_pure ⟨_, rfl, wpAny_pure h⟩)) htake))
    | exact wpAny_bind (wpAny_bind (m := Builtin.Tuple.tupleExact _) (wpAny_newObj_type (wpAny_pure ⟨_, rfl, wpAny_pure h⟩) htake))
end
end HT
namespace L2
open PySem PySem.Spec PyProof.Rows
section
variable {X : Cx}
/-! ### t[::-1], l[::-1] -/
def tRevA (K : PySem.W.Frag) (te : TE) : TE := fun σ H Q => te σ H fun x H1 => ∃ a xs, x = .ref a ∧ ((SqL K H1 a xs ∧ ∀ p, H1 p = none → Q (.ref p) (upd H1 p (.lst xs.reverse))) ∨ (SqT K H1 a xs ∧ ∀ p, H1 p = none → Q (.ref p) (upd H1 p (.tup xs.reverse))))
theorem pe_revA {e : Expr} {te : TE} {k : Nat} {p1 p2 p3 pos : Pos} (he : PE X e te) : PE X (.Subscript e (.Slice none none (some (.UnaryOp .USub (.Constant (.int 1) k p1) p2)) p3) pos) (tRevA X.K te) := by
  refine ⟨fun pins s σ H Q I h => ?_⟩
  refine Subscript_ (thn (he.run pins s σ H _ I h) fun v s1 ⟨x, H1, I1, r1, q1⟩ => ?_)
  obtain ⟨a, xs, ex, q1⟩ := q1
  subst ex
  cases r1
  have hst : PO X (some (.UnaryOp .USub (.Constant (.int 1) k p1) p2)) (tPart (tUn (rU fun i => .int (-i)) (tC (.int 1)))) := po_some (pe_un un_neg pe_int)
  refine wpAny_Slice (thn (po_none.run pins s1 σ H1 (fun o H2 => o = none ∧ H2 = H1) I1 ⟨rfl, rfl⟩) fun vl s2 ⟨l, H2, I2, pl, el, e2⟩ => ?_)
  subst el e2
  refine thn (po_none.run pins s2 σ H2 (fun o H3 => o = none ∧ H3 = H2) I2 ⟨rfl, rfl⟩) fun vu s3 ⟨u, H3, I3, pu, eu, e3⟩ => ?_
  subst eu e3
  refine thn (hst.run pins s3 σ H3 (fun o H4 => o = some (-1) ∧ H4 = H3) I3 ⟨1, rfl, -1, rfl, rfl, rfl⟩) fun vs s4 ⟨o, H4, I4, ps, eo, e4⟩ => ?_
  subst eo e4
  have I5 : Inv X pins σ H4 { s4 with heap := s4.heap.push { cls := .type "slice", data := .fields #[vl, vu, vs] } } := I4.kept (t' := s4.toks) fun b ob q => Heap.get?_push_of_some _ q
  show wpAny (model X.prog X.w) X.A (subscriptTail e (.Slice none none (some (.UnaryOp .USub (.Constant (.int 1) k p1) p2)) p3) (.ref a) (.ref s4.heap.objs.size)) (EP X pins σ Q) X.xe { s4 with heap := s4.heap.push { cls := .type "slice", data := .fields #[vl, vu, vs] } }
  rcases q1 with ⟨hx, q⟩ | ⟨hx, q⟩
  · obtain ⟨its, r, ht, hz⟩ := I5.list hx
    have hlen := r.length
    refine tail_any (ops := [.ref a, .ref s4.heap.objs.size]) ht.isList.typeIs (PySem.slot_list_getitem.lookup) ?_ (by with_unfolding_all rfl)
    refine wpAny_getItem_list_slice ht.isList (Heap.IsSliceOf.new _ vl vu vs) pl pu ps (by decide) ?_ (by rw [List.size_toArray]; omega)
    rw [PySem.W.krv_pick]
    refine ⟨.ref _, _, I5.laid (t' := s4.toks) (o := .lst xs.reverse) (fun b ob q => Heap.get?_push_of_some _ q) (Nat.le_refl _) ?_, rfl, q _ (I5.hok.fresh (Nat.le_refl _))⟩
    exact ⟨by rw [List.length_reverse]; exact hz, _, 0, r.reverse, Heap.get?_push_size _ rfl⟩
  · obtain ⟨its, r, ht, hz⟩ := I5.tuple hx
    have hlen := r.length
    refine tail_any (ops := [.ref a, .ref s4.heap.objs.size]) ht.typeIs (PyProof.Rows.slot_tuple_getitem.lookup) ?_ (by with_unfolding_all rfl)
    refine HT.getItem_tuple_rev ht (Heap.IsSliceOf.new _ vl vu vs) pl pu ps ?_ (by omega)
    refine ⟨.ref _, _, I5.laid (t' := s4.toks) (o := .tup xs.reverse) (fun b ob q => Heap.get?_push_of_some _ q) (Nat.le_refl _) ?_, rfl, q _ (I5.hok.fresh (Nat.le_refl _))⟩
    exact ⟨by rw [List.length_reverse]; exact hz, _, r.reverse, IsTup.new _ _⟩
/-! ### t * k, longer -/
def rRepU (K : PySem.W.Frag) : R2 := fun x y H Q => ∃ l k xs, x = .ref l ∧ y = .int k ∧ SqT K H l xs ∧ xs ≠ [] ∧ 2 ≤ k ∧ xs.length * k.toNat ≤ 16000000 ∧ ∀ p, H p = none → Q (.ref p) (upd H p (.tup (List.replicate k.toNat xs).flatten))
theorem op_repU : OpR X (binaryOp .Mult) (rRepU X.K) := by
  intro pins s σ H x y v u Q I rx ry h
  obtain ⟨l, k, xs, rfl, rfl, hT, hne, h1, hz, q⟩ := h
  cases rx
  obtain ⟨t, rfl⟩ := ry
  obtain ⟨its, r, ⟨⟨cls, dd, data, sl⟩, ho, hc, n, hd⟩, hs⟩ := I.tuple hT
  simp only at hc hd
  subst hc hd
  have hle : its.length = xs.length := r.length.symm
  have hn : its ≠ [] := fun e => hne (by
    rw [e] at hle
    exact List.eq_nil_of_length_eq_zero hle.symm)
  have hi : its.toArray.isEmpty = false := by
    cases its with
    | nil => exact absurd rfl hn
    | cons a b => rfl
  have hsz0 : its.toArray.size = xs.length := by rw [List.size_toArray, hle]
  have hk : ((k.toNat : Nat) : Int) = k := Int.toNat_of_nonneg (by omega)
  have hm : ((its.toArray.size : Nat) : Int) * k ≤ 16000000 := by
    rw [hsz0, ← hk]
    have := Int.ofNat_le.mpr hz
    rw [Int.natCast_mul] at this
    exact this
  have hk2 : k ≤ 16000000 := by
    have : 1 ≤ xs.length := by
      cases xs with
      | nil => exact absurd rfl hne
      | cons a b => simp
    have := Nat.le_trans (Nat.le_mul_of_pos_left k.toNat this) hz
    omega
  have flen : (List.replicate k.toNat its).flatten.length ≤ sizeLine := by
    rw [PyProof.Rows.lm_len_rep_flat, hle, sizeLine_eq, Nat.mul_comm]
    omega
  have c0 : (decide (k < -(2 ^ 63)) || decide (k ≥ 2 ^ 63)) = false := by
    rw [decide_eq_false (by omega), decide_eq_false (by omega)] <;> rfl
  have c1 : (its.toArray.isEmpty || k == 1) = false := by
    rw [hi, Bool.false_or]
    exact beq_eq_false_iff_ne.mpr (by omega)
  have c2 : (decide (k ≤ 0) || its.toArray.isEmpty) = false := by
    rw [hi, Bool.or_false]
    exact decide_eq_false (by omega)
  have c4 : Builtin.Tuple.tupleTooMany (((its.toArray.size : Nat) : Int) * k) = false := by
    unfold Builtin.Tuple.tupleTooMany
    rw [sizeLine_eq]
    exact decide_eq_false (by omega)
  refine wpAny_binaryOp_repeat_ref (T := "tuple") (U := "int") (by decide) ⟨_, ho, rfl⟩ (fun s' => typeIs_int s' k t) noFill_tuple_mul PySem.F.fills_int_mul PySem.F.slot_int_rmul repeat_tuple PySem.F.slot_int_index.lookup
    (call_meets PySem.F.slot_int_rmul (typeIs_int s k t) PySem.F.entry_int_rmul (PySem.F.args_int_rmul_2 _ _) (int_rmul_tuple k t l its.toArray n dd sl)
      ⟨ho, rfl, ⟨_, ho, rfl⟩, call_meets PySem.F.slot_tuple_mul ⟨_, ho, rfl⟩ PySem.F.entry_tuple_mul (PySem.F.args_tuple_mul_2 _ _) (tuple_mulW l its.toArray n dd sl k t c0 c1 c2 (by omega) c4 (by rw [size_rep, List.size_toArray]; exact flen)) ⟨ho, ?_⟩⟩)
  rw [size_rep]
  refine ⟨.ref s.heap.objs.size, _, I.laid (t' := s.toks) (o := .tup (List.replicate k.toNat xs).flatten) (fun b ob q => Heap.get?_push_of_some _ q) (Nat.le_refl _) ?_, rfl, q _ (I.hok.fresh (Nat.le_refl _))⟩
  exact ⟨by rw [PyProof.Rows.lm_len_rep_flat, sizeLine_eq, Nat.mul_comm]; omega, _, r.rep k.toNat, IsTup.new _ _⟩
end
end L2

/-! part Own4 -/
namespace Own
open PySem PySem.Spec L2

section
variable {K : PySem.W.Frag} {R : Bool → Addr → Prop} {H : Hp}
mutual
theorem dp_of : ∀ (n : Nat) (d : D) (v : V), Dr K R H v d → eqable n d = true → Dp K H v (toPy d)
  | n, .non, _, .non, _ => by unfold toPy; exact .non
  | n, .bl b, _, .bl _, _ => by unfold toPy; exact .bl b
  | n, .int i, _, .int _, _ => by unfold toPy; exact .int i
  | n, .str x, _, .str _, _ => by unfold toPy; exact .str x
  | n + 1, .tup ds, _, .tup h t, e => by unfold toPy; exact .tup h.sq (dps_of n ds _ t (by simpa [eqable] using e))
  | n + 1, .lst _ ds, _, .lst h r t, e => by unfold toPy; exact .lst (SqL.of h) (dps_of n ds _ t (by simpa [eqable] using e))
  | 0, .tup ds, _, _, e => by simp [eqable] at e
  | 0, .lst _ ds, _, _, e => by simp [eqable] at e
  | n, .dK _ _, _, _, e => by simp [eqable] at e
  | n, .lk _, _, _, e => by simp [eqable] at e
  | n, .dT _ _, _, _, e => by simp [eqable] at e
  | n, .scr _, _, _, e => by simp [eqable] at e
theorem dps_of : ∀ (n : Nat) (ds : List D) (vs : List V), Drs K R H vs ds → eqables n ds = true → DpAll K H vs (toPys ds)
  | n, [], _, .nil, _ => by unfold toPys; exact .nil
  | n, d :: ds, _, .cons h t, e => by
    have e' : eqable n d = true ∧ eqables n ds = true := by simpa [eqables] using e
    unfold toPys
    exact .cons (dp_of n d _ h e'.1) (dps_of n ds _ t e'.2)
end
theorem dp_tup {n : Nat} {ds : List D} {v : V} (h : DxT K R H v ds) (e : eqables n ds = true) : Dp K H v (toPy (.tup ds)) := by
  obtain ⟨a, vs, rfl, h1, t⟩ := h
  unfold toPy
  exact .tup h1 (dps_of n ds _ t e)
end
mutual
theorem py_lay : ∀ (n : Nat) (d : D), eqable n d = true → (toPy d).canLay0 = true ∧ (toPy d).depth ≤ n
  | n, .non, _ => by unfold toPy; exact ⟨rfl, Nat.zero_le _⟩
  | n, .bl b, _ => by unfold toPy; exact ⟨rfl, Nat.zero_le _⟩
  | n, .int i, _ => by unfold toPy; exact ⟨rfl, Nat.zero_le _⟩
  | n, .str x, e => by unfold toPy; exact ⟨by simpa [PyData.canLay0, eqable] using e, Nat.zero_le _⟩
  | n + 1, .tup ds, e => by
    have q := pys_lay n ds (by simpa [eqable] using e)
    unfold toPy
    exact ⟨by simpa [PyData.canLay0] using q.1, by simpa [PyData.depth] using q.2⟩
  | n + 1, .lst _ ds, e => by
    have q := pys_lay n ds (by simpa [eqable] using e)
    unfold toPy
    exact ⟨by simpa [PyData.canLay0] using q.1, by simpa [PyData.depth] using q.2⟩
  | 0, .tup ds, e => by simp [eqable] at e
  | 0, .lst _ ds, e => by simp [eqable] at e
  | n, .dK _ _, e => by simp [eqable] at e
  | n, .lk _, e => by simp [eqable] at e
  | n, .dT _ _, e => by simp [eqable] at e
  | n, .scr _, e => by simp [eqable] at e
theorem pys_lay : ∀ (n : Nat) (ds : List D), eqables n ds = true → PyData.canLayAll0 (toPys ds) = true ∧ PyData.depthAll (toPys ds) ≤ n
  | n, [], _ => by unfold toPys; exact ⟨rfl, Nat.zero_le _⟩
  | n, d :: ds, e => by
    have e' : eqable n d = true ∧ eqables n ds = true := by simpa [eqables] using e
    have q1 := py_lay n d e'.1
    have q2 := pys_lay n ds e'.2
    unfold toPys
    exact ⟨by simp [PyData.canLayAll0, q1.1, q2.1], by simp only [PyData.depthAll]; omega⟩
end
mutual
theorem eqv_deq : ∀ (n m : Nat) (x y : D), eqable n x = true → eqable m y = true → PyData.eqv (toPy x) (toPy y) = deq x y
  | n, m, .non, y, _, h => by cases y <;> simp [toPy, deq, PyData.eqv, eqable] at h ⊢
  | n, m, .bl b, y, _, h => by cases y <;> simp [toPy, deq, PyData.eqv, eqable] at h ⊢
  | n, m, .int b, y, _, h => by cases y <;> simp [toPy, deq, PyData.eqv, eqable] at h ⊢
  | n, m, .str b, y, _, h => by
    cases y <;> simp [toPy, deq, PyData.eqv, eqable] at h ⊢
    exact Bool.beq_eq_decide_eq _ _
  | n + 1, m, .tup xs, y, g, h => by
    cases y with
    | tup ys =>
      cases m with
      | zero => simp [eqable] at h
      | succ m => simpa [toPy, deq, PyData.eqv] using eqvs_deqs n m xs ys (by simpa [eqable] using g) (by simpa [eqable] using h)
    | _ => simp [toPy, deq, PyData.eqv, eqable] at h ⊢
  | n + 1, m, .lst _ xs, y, g, h => by
    cases y with
    | lst _ ys =>
      cases m with
      | zero => simp [eqable] at h
      | succ m => simpa [toPy, deq, PyData.eqv] using eqvs_deqs n m xs ys (by simpa [eqable] using g) (by simpa [eqable] using h)
    | _ => simp [toPy, deq, PyData.eqv, eqable] at h ⊢
  | 0, _, .tup ds, _, e, _ => by simp [eqable] at e
  | 0, _, .lst _ ds, _, e, _ => by simp [eqable] at e
  | n, _, .dK _ _, _, e, _ => by simp [eqable] at e
  | n, _, .lk _, _, e, _ => by simp [eqable] at e
  | n, _, .dT _ _, _, e, _ => by simp [eqable] at e
  | n, _, .scr _, _, e, _ => by simp [eqable] at e
theorem eqvs_deqs : ∀ (n m : Nat) (xs ys : List D), eqables n xs = true → eqables m ys = true → PyData.eqvAll (toPys xs) (toPys ys) = deqs xs ys
  | _, _, [], [], _, _ => by simp [toPys, deqs, PyData.eqvAll]
  | _, _, [], _ :: _, _, _ => by simp [toPys, deqs, PyData.eqvAll]
  | _, _, _ :: _, [], _, _ => by simp [toPys, deqs, PyData.eqvAll]
  | n, m, x :: xs, y :: ys, g, h => by
    have g' : eqable n x = true ∧ eqables n xs = true := by simpa [eqables] using g
    have h' : eqable m y = true ∧ eqables m ys = true := by simpa [eqables] using h
    simp [toPys, deqs, PyData.eqvAll, eqv_deq n m x y g'.1 h'.1, eqvs_deqs n m xs ys g'.2 h'.2]
end

/-! ### any rule for an operation -/
def OpU (X : Cx) (f : Value → Value → Sem Value) : R2 := fun x y H Q => ∃ r, OpR X f r ∧ r x y H Q
theorem op_u {X : Cx} {f : Value → Value → Sem Value} : OpR X f (OpU X f) := fun pins s σ H x y v u Q I rx ry ⟨_, h, q⟩ => h pins s σ H x y v u Q I rx ry q
def CallU (X : Cx) (f : Value) : List V → Hp → VK → Prop := fun xs H Q => ∃ r, CallR X f r ∧ r xs H Q
theorem call_u {X : Cx} {f : Value} : CallR X f (CallU X f) := fun pins s σ H xs us Q I rx ⟨_, h, q⟩ => h pins s σ H xs us Q I rx q
def IxU (X : Cx) : R2 := fun x y H Q => ∃ r, IxR X r ∧ r x y H Q
theorem ix_u {X : Cx} : IxR X (IxU X) := fun a b pins s σ H x y v u Q I rx ry ⟨_, h, q⟩ => h a b pins s σ H x y v u Q I rx ry q
def SlU (X : Cx) : V → Option Int → Option Int → Hp → VK → Prop := fun x lo hi H Q => ∃ r, SlR X r ∧ r x lo hi H Q
theorem sl_u {X : Cx} : SlR X (SlU X) := fun pins s σ H x v vl vu lo hi sl Q I rx hs pl pu ⟨_, h, q⟩ => h pins s σ H x v vl vu lo hi sl Q I rx hs pl pu q
def UnU (X : Cx) (f : Value → Sem Value) : V → Hp → VK → Prop := fun x H Q => ∃ r, UnR X f r ∧ r x H Q
theorem un_u {X : Cx} {f : Value → Sem Value} : UnR X f (UnU X f) := fun pins s σ H x v Q I rx ⟨_, h, q⟩ => h pins s σ H x v Q I rx q

theorem ext_upd {H : Hp} {p : Addr} {o : HO} (h : H p = none) : Ext H (upd H p o) := fun b u e => by rw [upd_ne (ne_of_none e h)]; exact e
section
variable {C : Cn} {T : List Addr} {ρ : Rho} {σ : St} {H : Hp} {v w : V} {d e : D}
theorem Drs.alloc (r : Rep C T ρ σ H) {p : Addr} {o : HO} (h : H p = none) {vs : List V} {ds : List D} (q : Drs C.K (Reg C T ρ σ) H vs ds) : Drs C.K (Reg C (p :: T) ρ σ) (upd H p o) vs ds :=
  q.keep ((ext_upd h).step.kept r) fun nm b g ⟨u, e⟩ => ⟨g.out, fun z => (List.mem_cons.mp z).elim (fun w => by rw [w, h] at e; cases e) g.tmp, g.own, g.nam⟩
theorem Drs.alloc0 (r : Rep C T ρ σ H) {p : Addr} {o : HO} (h : H p = none) {vs : List V} {ds : List D} (q : Drs C.K (Reg C T ρ σ) H vs ds) : Drs C.K (Reg C T ρ σ) (upd H p o) vs ds :=
  q.keep ((ext_upd h).step.kept r) fun nm b g _ => g
/-- a new list -/
theorem Res.lst (r : Rep C T ρ σ H) {p : Addr} (h : H p = none) {vs : List V} {ds : List D} (q : Drs C.K (Reg C T ρ σ) H vs ds) : Res C T ρ σ H (upd H p (.lst vs)) (.f (.lst false ds)) (.ref p) :=
  ⟨ext_upd h, p, rfl, h, rfl, vs, upd_same, q.alloc r h⟩
/-- a new tuple -/
theorem Res.tup (r : Rep C T ρ σ H) {p : Addr} (h : H p = none) {vs : List V} {ds : List D} (q : Drs C.K (Reg C T ρ σ) H vs ds) : Res C T ρ σ H (upd H p (.tup vs)) (.v (.tup ds)) (.ref p) :=
  ⟨ext_upd h, .tup (.inl upd_same) (q.alloc0 r h)⟩
theorem nil_iff {K : PySem.W.Frag} {R : Bool → Addr → Prop} {vs : List V} {ds : List D} (h : Drs K R H vs ds) : vs = [] ↔ ds = [] := by
  cases h <;> simp

def Bop.op : Bop → Operator
  | .add => .Add | .sub => .Sub | .mul => .Mult | .fdiv => .FloorDiv | .mod => .Mod | .pow => .Pow | .shl => .LShift
theorem small_le {n : Nat} (h : small n = true) : n ≤ sizeLine := of_decide_eq_true h
theorem mulOk_or {i j : Int} (h : mulOk i j = true) : CMul i j ∨ CMulW i j := by
  unfold mulOk at h
  simp only [Bool.or_eq_true, decide_eq_true_eq] at h
  rcases h with (h | h) | h
  · exact .inl (.inl (by omega))
  · exact .inl (.inr (by omega))
  · exact .inr h
theorem powOk_c {i j : Int} (h : powOk i j = true) : CPow i j := by
  unfold powOk at h
  exact of_decide_eq_true (p := 0 ≤ j ∧ j ≤ 1000000 ∧ i.natAbs < 2 ^ 64) h
def CDivZ (i j : Int) : Prop := j ≠ 0 ∧ j.natAbs.log2 < 9000
theorem op_fdivZ {X : Cx} : OpR X (binaryOp .FloorDiv) (rI CDivZ fun i j => .int (i.fdiv j)) := opI fun _ _ _ _ _ _ _ hc q => PyProof.Rows.floordiv_int hc.1 q (.inl (PyProof.noPylong_of_log2 hc.2))
theorem bop_ok {X : Cx} (hK : X.K = C.K) (r : Rep C T ρ σ H) {o : Bop} {z : VR} (h : bop o d e = some z) (hv : Dx C.K (Reg C T ρ σ) H v d) (hw : Dx C.K (Reg C T ρ σ) H w e) {Q : VK}
    (q : ∀ u H', Res C T ρ σ H H' z u → Q u H') : OpU X (binaryOp o.op) v w H Q := by
  have hint : ∀ k : Int, Q (.int k) H ↔ Q (.int k) H := fun _ => Iff.rfl
  cases o <;> cases d <;> cases e <;> simp only [bop] at h <;> try (cases h; done)
  case add.int.int i j =>
    cases h; cases hv; cases hw
    exact ⟨_, op_add, _, _, rfl, rfl, q _ _ (.here (.int _))⟩
  case sub.int.int i j =>
    cases h; cases hv; cases hw
    exact ⟨_, op_sub, _, _, rfl, rfl, q _ _ (.here (.int _))⟩
  case mul.int.int i j =>
    split at h <;> cases h
    rename_i hm
    cases hv; cases hw
    rcases mulOk_or hm with hm | hm
    · exact ⟨_, op_mul, _, _, rfl, rfl, hm, q _ _ (.here (.int _))⟩
    · exact ⟨_, op_mulW, _, _, rfl, rfl, hm, q _ _ (.here (.int _))⟩
  case fdiv.int.int i j =>
    split at h <;> cases h
    rename_i hm
    cases hv; cases hw
    unfold divOk at hm
    simp only [decide_eq_true_eq] at hm
    exact ⟨_, op_fdivZ, _, _, rfl, rfl, hm, q _ _ (.here (.int _))⟩
  case mod.int.int i j =>
    split at h <;> cases h
    rename_i hm
    cases hv; cases hw
    exact ⟨_, op_modN, _, _, rfl, rfl, hm, q _ _ (.here (.int _))⟩
  case pow.int.int i j =>
    split at h <;> cases h
    rename_i hm
    cases hv; cases hw
    exact ⟨_, op_pow, _, _, rfl, rfl, powOk_c hm, q _ _ (.here (.int _))⟩
  case shl.int.int i j =>
    split at h <;> cases h
    rename_i hm
    cases hv; cases hw
    exact ⟨_, op_shl, _, _, rfl, rfl, powOk_c hm, q _ _ (.here (.int _))⟩
  case add.str.str x y =>
    split at h <;> cases h
    rename_i hm
    cases hv; cases hw
    exact ⟨_, op_add_str, _, _, rfl, rfl, small_le hm, q _ _ (.here (.str _))⟩
  case add.tup.tup xs ys =>
    split at h <;> cases h
    rename_i hm
    obtain ⟨a, vs, rfl, h1, t1⟩ := hv
    obtain ⟨b, ws, rfl, h2, t2⟩ := hw
    refine ⟨_, op_catA, a, b, vs, ws, rfl, rfl, by rw [hK]; exact h1.sq, by rw [hK]; exact h2.sq, by rw [t1.length, t2.length]; exact small_le hm, fun z => ?_, fun z1 z => ?_, fun z1 z2 p hp => ?_⟩
    · have : xs = [] := (nil_iff t1).mp z
      subst this
      exact q _ _ (.here (.tup h2 (by simpa using t2)))
    · have : ys = [] := (nil_iff t2).mp z
      subst this
      exact q _ _ (.here (.tup (by rw [List.append_nil]; exact h1) (by simpa using t1)))
    · exact q _ _ (.tup r hp (t1.append t2))
  case add.lst.lst xs _ ys =>
    split at h <;> cases h
    rename_i hm
    obtain ⟨a, vs, rfl, h1, t1⟩ := hv
    obtain ⟨b, ws, rfl, h2, t2⟩ := hw
    exact ⟨_, op_cat, a, b, vs, ws, rfl, rfl, h1, h2, by rw [t1.length, t2.length]; exact small_le hm, fun p hp => q _ _ (.lst r hp (t1.append t2))⟩
  case mul.lst.int nm xs k =>
    split at h <;> cases h
    rename_i hm
    simp only [Bool.and_eq_true, decide_eq_true_eq] at hm
    obtain ⟨a, vs, rfl, h1, t1⟩ := hv
    cases hw
    exact ⟨_, op_rep, a, k, vs, rfl, rfl, h1, hm.2.1, hm.2.2, by rw [t1.length]; exact small_le hm.1, fun p hp => q _ _ (.lst r hp (t1.rep _))⟩
  case mul.tup.int xs k =>
    split at h <;> cases h
    rename_i hm
    simp only [Bool.and_eq_true, decide_eq_true_eq] at hm
    obtain ⟨a, vs, rfl, h1, t1⟩ := hv
    cases hw
    refine ⟨_, op_repU, a, k, vs, rfl, rfl, by rw [hK]; exact h1.sq, fun z => ?_, hm.2.1, by rw [t1.length]; exact hm.2.2, fun p hp => q _ _ (.tup r hp (t1.rep _))⟩
    have : xs = [] := (nil_iff t1).mp z
    subst this
    simp [isEmptyL] at hm

/-! ### comparisons, items, slices, built-ins -/
def Cop.op : Cop → CmpOp
  | .lt => .Lt | .le => .LtE | .gt => .Gt | .ge => .GtE | .eq => .Eq | .ne => .NotEq | .inn => .In | .nin => .NotIn
theorem scal_eq {R : Bool → Addr → Prop} {K : PySem.W.Frag} (h : scalD d e = true) (hv : Dx K R H v d) (hw : Dx K R H w e) : scal v w = true ∧ decide (v = w) = deq d e := by
  cases d <;> cases e <;> simp [scalD] at h <;> cases hv <;> cases hw <;> refine ⟨rfl, ?_⟩ <;> simp [deq] <;> exact (Bool.beq_eq_decide_eq _ _).symm
theorem flat_v {R : Bool → Addr → Prop} {K : PySem.W.Frag} (h : flatD d = true) (hv : Dr K R H v d) : flatV v = true := by
  cases hv <;> simp [flatD] at h <;> rfl
theorem flat_vs {R : Bool → Addr → Prop} {K : PySem.W.Frag} : ∀ {vs : List V} {ds : List D}, ds.all flatD = true → Drs K R H vs ds → vs.all flatV = true
  | _, _, _, .nil => rfl
  | _, _, h, .cons r t => by
    simp only [List.all_cons, Bool.and_eq_true] at h ⊢
    exact ⟨flat_v h.1 r, flat_vs h.2 t⟩
theorem eqV_deq {R : Bool → Addr → Prop} {K : PySem.W.Frag} (h1 : flatD d = true) (h2 : flatD e = true) (hv : Dr K R H v d) (hw : Dr K R H w e) : eqV v w = deq d e := by
  cases hv <;> simp [flatD] at h1 <;> cases hw <;> simp [flatD] at h2 <;> simp [eqV, deq]
  exact Bool.beq_eq_decide_eq _ _
theorem inV_any {R : Bool → Addr → Prop} {K : PySem.W.Frag} (h : flatD d = true) (hv : Dr K R H v d) : ∀ {vs : List V} {ds : List D}, ds.all flatD = true → Drs K R H vs ds → inV v vs = ds.any fun y => deq y d
  | _, _, _, .nil => rfl
  | _, _, h', .cons r t => by
    simp only [List.all_cons, Bool.and_eq_true] at h'
    have q := inV_any h hv h'.2 t
    unfold inV at q ⊢
    simp only [List.any_cons, q, eqV_deq h'.1 h r hv]
theorem Dx.flat {R : Bool → Addr → Prop} {K : PySem.W.Frag} (h : flatD d = true) (hv : Dx K R H v d) : Dr K R H v d := by
  cases d <;> simp [flatD] at h <;> cases hv
  · exact .non
  · exact .bl _
  · exact .int _
  · exact .str _
theorem eq_u {X : Cx} (hK : X.K = C.K) (hu : X.A.units + 64 < cLine) (h : eqOk d e = true) (hv : Dx C.K (Reg C T ρ σ) H v d) (hw : Dx C.K (Reg C T ρ σ) H w e) {Q : VK} (q : Q (.bl (deq d e)) H) : OpU X (compareOp .Eq) v w H Q := by
  unfold eqOk at h
  by_cases hs : scalD d e = true
  · obtain ⟨h1, h2⟩ := scal_eq hs hv hw
    exact ⟨_, op_eq, h1, by rw [h2]; exact q⟩
  · rw [Bool.not_eq_true] at hs
    rw [hs, Bool.false_or, Bool.and_eq_true] at h
    have l1 := py_lay 40 d h.1
    have l2 := py_lay 40 e h.2
    refine ⟨_, op_eqD hu, toPy d, toPy e, by rw [hK]; exact dp_of 40 d v hv.dr h.1, by rw [hK]; exact dp_of 40 e w hw.dr h.2, ?_, ?_, by rw [eqv_deq 40 40 d e h.1 h.2]; exact q⟩
    · unfold SeqAt.shaped
      rw [l1.1, decide_eq_true (by omega : (toPy d).depth ≤ 64)]
      rfl
    · unfold SeqAt.shaped
      rw [l2.1, decide_eq_true (by omega : (toPy e).depth ≤ 64)]
      rfl
theorem ne_u {X : Cx} (hK : X.K = C.K) (hu : X.A.units + 64 < cLine) (h : eqOk d e = true) (hv : Dx C.K (Reg C T ρ σ) H v d) (hw : Dx C.K (Reg C T ρ σ) H w e) {Q : VK} (q : Q (.bl (!deq d e)) H) : OpU X (compareOp .NotEq) v w H Q := by
  unfold eqOk at h
  by_cases hs : scalD d e = true
  · obtain ⟨h1, h2⟩ := scal_eq hs hv hw
    exact ⟨_, op_ne, h1, by rw [h2]; exact q⟩
  · rw [Bool.not_eq_true] at hs
    rw [hs, Bool.false_or, Bool.and_eq_true] at h
    have l1 := py_lay 40 d h.1
    have l2 := py_lay 40 e h.2
    refine ⟨_, op_neD hu, toPy d, toPy e, by rw [hK]; exact dp_of 40 d v hv.dr h.1, by rw [hK]; exact dp_of 40 e w hw.dr h.2, ?_, ?_, by rw [eqv_deq 40 40 d e h.1 h.2]; exact q⟩
    · unfold SeqAt.shaped
      rw [l1.1, decide_eq_true (by omega : (toPy d).depth ≤ 64)]
      rfl
    · unfold SeqAt.shaped
      rw [l2.1, decide_eq_true (by omega : (toPy e).depth ≤ 64)]
      rfl
theorem in_list {X : Cx} (hK : X.K = C.K) (hu : X.A.units + 65 < cLine) {nm : Bool} {xs : List D} {Q : VK} (h : inOk d xs = true) (hv : Dx C.K (Reg C T ρ σ) H v d) (hw : Dx C.K (Reg C T ρ σ) H w (.lst nm xs)) :
    (Q (.bl (xs.any fun y => deq y d)) H → OpU X (compareOp .In) v w H Q) ∧ (Q (.bl (!xs.any fun y => deq y d)) H → OpU X (compareOp .NotIn) v w H Q) := by
  unfold inOk at h
  by_cases hf : (flatD d && xs.all flatD) = true
  · rw [Bool.and_eq_true] at hf
    obtain ⟨a, vs, rfl, h1, t1⟩ := hw
    have q := hv.flat hf.1
    exact ⟨fun z => ⟨_, op_in_seq, a, vs, rfl, .inl (SqL.of h1), flat_v hf.1 q, flat_vs hf.2 t1, by rw [if_neg Bool.false_ne_true, inV_any hf.1 q hf.2 t1]; exact z⟩,
      fun z => ⟨_, op_notIn_seq, a, vs, rfl, .inl (SqL.of h1), flat_v hf.1 q, flat_vs hf.2 t1, by rw [if_pos rfl, inV_any hf.1 q hf.2 t1]; exact z⟩⟩
  · rw [Bool.not_eq_true] at hf
    rw [hf, Bool.false_or, Bool.and_eq_true] at h
    have e1 : eqable 41 (.lst nm xs) = true := by unfold eqable; exact h.2
    have l1 := py_lay 40 d h.1
    have l2 := py_lay 41 (.lst nm xs) e1
    have s1 : SeqAt.shaped (toPy d) = true := by
      unfold SeqAt.shaped
      rw [l1.1, decide_eq_true (by omega : (toPy d).depth ≤ 64)]
      rfl
    have s2 : SeqAt.shaped (toPy (.lst nm xs)) = true := by
      unfold SeqAt.shaped
      rw [l2.1, decide_eq_true (by omega : (toPy (.lst nm xs)).depth ≤ 64)]
      rfl
    have dd : Dp X.K H v (toPy d) := by rw [hK]; exact dp_of 40 d v hv.dr h.1
    have dl : Dp X.K H w (toPy (.lst nm xs)) := by rw [hK]; exact dp_of 41 _ w hw.dr e1
    have et : toPy (.lst nm xs) = .list (toPys xs) := by rw [toPy]
    rw [et] at s2 dl
    have ea : ∀ (ys : List D), eqables 40 ys = true → ((toPys ys).any fun z => PyData.eqv z (toPy d)) = ys.any fun y => deq y d := fun ys => by
      induction ys with
      | nil => intro _; rw [toPys]; rfl
      | cons y ys ih =>
        intro hy
        unfold eqables at hy
        rw [Bool.and_eq_true] at hy
        rw [toPys, List.any_cons, List.any_cons, ih hy.2, eqv_deq 40 40 y d hy.1 h.1]
    refine ⟨fun z => ⟨_, op_inD hu, toPy d, toPys xs, dd, dl, s1, s2, ?_⟩, fun z => ⟨_, op_notInD hu, toPy d, toPys xs, dd, dl, s1, s2, ?_⟩⟩
    · rw [ea xs h.2]; exact z
    · rw [ea xs h.2]; exact z
def rInT (K : PySem.W.Frag) : R2 := fun x y H Q => ∃ d ds, Dp K H x d ∧ Dp K H y (.tuple ds) ∧ SeqAt.shaped d = true ∧ SeqAt.shaped (.tuple ds) = true ∧ Q (.bl (ds.any fun z => PyData.eqv z d)) H
def rNotInT (K : PySem.W.Frag) : R2 := fun x y H Q => ∃ d ds, Dp K H x d ∧ Dp K H y (.tuple ds) ∧ SeqAt.shaped d = true ∧ SeqAt.shaped (.tuple ds) = true ∧ Q (.bl (!ds.any fun z => PyData.eqv z d)) H
theorem canLayT {ds : List PyData} (h : SeqAt.shaped (.tuple ds) = true) : PyData.canLayAll0 ds = true := by
  have := SeqAt.canLay_of_shaped h
  simpa [PyData.canLay0] using this
theorem op_inT {X : Cx} (hu : X.A.units + 65 < cLine) : OpR X (compareOp .In) (rInT X.K) := by
  intro pins s σ H x y v u Q I rx ry h
  obtain ⟨d, ds, hd, he, sd, se, q⟩ := h
  obtain ⟨as, r1⟩ := Dp.reads I d x v hd rx
  obtain ⟨bs, r2⟩ := Dp.reads I (.tuple ds) y u he ry
  exact SeqAt.in_tuple_reads r2 r1 (canLayT se) (SeqAt.canLay_of_shaped sd) (PyProof.Rows.room_in_shaped sd hu) ⟨.bl _, H, I, rfl, q⟩
theorem op_notInT {X : Cx} (hu : X.A.units + 65 < cLine) : OpR X (compareOp .NotIn) (rNotInT X.K) := by
  intro pins s σ H x y v u Q I rx ry h
  obtain ⟨d, ds, hd, he, sd, se, q⟩ := h
  obtain ⟨as, r1⟩ := Dp.reads I d x v hd rx
  obtain ⟨bs, r2⟩ := Dp.reads I (.tuple ds) y u he ry
  exact SeqAt.notIn_tuple_reads r2 r1 (canLayT se) (SeqAt.canLay_of_shaped sd) (PyProof.Rows.room_in_shaped sd hu) ⟨.bl _, H, I, rfl, q⟩
theorem in_tup {X : Cx} (hK : X.K = C.K) (hu : X.A.units + 65 < cLine) {xs : List D} {Q : VK} (h : inOk d xs = true) (hv : Dx C.K (Reg C T ρ σ) H v d) (hw : DxT C.K (Reg C T ρ σ) H w xs) :
    (Q (.bl (xs.any fun y => deq y d)) H → OpU X (compareOp .In) v w H Q) ∧ (Q (.bl (!xs.any fun y => deq y d)) H → OpU X (compareOp .NotIn) v w H Q) := by
  unfold inOk at h
  by_cases hf : (flatD d && xs.all flatD) = true
  · rw [Bool.and_eq_true] at hf
    obtain ⟨a, vs, rfl, h1, t1⟩ := hw
    have q := hv.flat hf.1
    exact ⟨fun z => ⟨_, op_in_seq, a, vs, rfl, .inr (by rw [hK]; exact h1), flat_v hf.1 q, flat_vs hf.2 t1, by rw [if_neg Bool.false_ne_true, inV_any hf.1 q hf.2 t1]; exact z⟩,
      fun z => ⟨_, op_notIn_seq, a, vs, rfl, .inr (by rw [hK]; exact h1), flat_v hf.1 q, flat_vs hf.2 t1, by rw [if_pos rfl, inV_any hf.1 q hf.2 t1]; exact z⟩⟩
  · rw [Bool.not_eq_true] at hf
    rw [hf, Bool.false_or, Bool.and_eq_true] at h
    have e1 : eqable 41 (.tup xs) = true := by unfold eqable; exact h.2
    have l1 := py_lay 40 d h.1
    have l2 := py_lay 41 (.tup xs) e1
    have s1 : SeqAt.shaped (toPy d) = true := by
      unfold SeqAt.shaped
      rw [l1.1, decide_eq_true (by omega : (toPy d).depth ≤ 64)]
      rfl
    have s2 : SeqAt.shaped (toPy (.tup xs)) = true := by
      unfold SeqAt.shaped
      rw [l2.1, decide_eq_true (by omega : (toPy (.tup xs)).depth ≤ 64)]
      rfl
    have dd : Dp X.K H v (toPy d) := by rw [hK]; exact dp_of 40 d v hv.dr h.1
    have dl : Dp X.K H w (toPy (.tup xs)) := by rw [hK]; exact dp_tup hw h.2
    have et : toPy (.tup xs) = .tuple (toPys xs) := by rw [toPy]
    rw [et] at s2 dl
    have ea : ∀ (ys : List D), eqables 40 ys = true → ((toPys ys).any fun z => PyData.eqv z (toPy d)) = ys.any fun y => deq y d := fun ys => by
      induction ys with
      | nil => intro _; rw [toPys]; rfl
      | cons y ys ih =>
        intro hy
        unfold eqables at hy
        rw [Bool.and_eq_true] at hy
        rw [toPys, List.any_cons, List.any_cons, ih hy.2, eqv_deq 40 40 y d hy.1 h.1]
    refine ⟨fun z => ⟨_, op_inT hu, toPy d, toPys xs, dd, dl, s1, s2, ?_⟩, fun z => ⟨_, op_notInT hu, toPy d, toPys xs, dd, dl, s1, s2, ?_⟩⟩
    · rw [ea xs h.2]; exact z
    · rw [ea xs h.2]; exact z
theorem cop_ok {X : Cx} (hK : X.K = C.K) (hu2 : X.A.units + 65 < cLine) {o : Cop} {b : Bool} (h : cop o d e = some b) (hv : Dx C.K (Reg C T ρ σ) H v d) (hw : Dx C.K (Reg C T ρ σ) H w e) {Q : VK}
    (q : Q (.bl b) H) : OpU X (compareOp o.op) v w H Q := by
  have hu : X.A.units + 64 < cLine := Nat.lt_of_le_of_lt (Nat.le_succ _) hu2
  cases o
  case eq =>
    simp only [cop] at h
    split at h <;> cases h
    rename_i g
    exact eq_u hK hu g hv hw q
  case ne =>
    simp only [cop] at h
    split at h <;> cases h
    rename_i g
    exact ne_u hK hu g hv hw q
  case inn =>
    cases e <;> simp only [cop] at h <;> try (cases h; done)
    · split at h <;> cases h
      rename_i g
      exact (in_tup hK hu2 g hv hw.tt).1 q
    · split at h <;> cases h
      rename_i g
      exact (in_list hK hu2 g hv hw).1 q
    · split at h <;> cases h
      rename_i g
      exact (in_tup hK hu2 g hv hw.tup).1 q
  case nin =>
    cases e <;> simp only [cop] at h <;> try (cases h; done)
    · split at h <;> cases h
      rename_i g
      exact (in_tup hK hu2 g hv hw.tt).2 q
    · split at h <;> cases h
      rename_i g
      exact (in_list hK hu2 g hv hw).2 q
    · split at h <;> cases h
      rename_i g
      exact (in_tup hK hu2 g hv hw.tup).2 q
  all_goals
    cases d <;> cases e <;> simp only [cop] at h <;> try (cases h; done)
    cases h; cases hv; cases hw
  · exact ⟨_, op_lt, _, _, rfl, rfl, q⟩
  · exact ⟨_, op_le, _, _, rfl, rfl, q⟩
  · exact ⟨_, op_gt, _, _, rfl, rfl, q⟩
  · exact ⟨_, op_ge, _, _, rfl, rfl, q⟩
theorem atI_dr {R : Bool → Addr → Prop} {K : PySem.W.Frag} {vs : List V} {ds : List D} {i : Int} (t : Drs K R H vs ds) (h : atI ds i = some d) : ∃ u, atI vs i = some u ∧ Dr K R H u d := by
  unfold atI at h ⊢
  rw [t.length]
  cases q : ixN ds.length i with
  | none => rw [q] at h; cases h
  | some j =>
    rw [q] at h
    exact t.get (i := j) h
theorem ix_ok {X : Cx} (hK : X.K = C.K) {z : D} (h : ixop d e = some z) (hv : Dx C.K (Reg C T ρ σ) H v d) (hw : Dx C.K (Reg C T ρ σ) H w e) {Q : VK}
    (q : ∀ u, Dr C.K (Reg C T ρ σ) H u z → Q u H) : IxU X v w H Q := by
  cases d <;> cases e <;> simp only [ixop] at h <;> try (cases h; done)
  · obtain ⟨a, vs, rfl, h1, t1⟩ := hv
    cases hw
    obtain ⟨u, h2, h3⟩ := atI_dr t1 h
    exact ⟨_, ix_tup, a, vs, _, u, rfl, rfl, by rw [hK]; exact h1.sq, h2, q u h3⟩
  · obtain ⟨a, vs, rfl, h1, t1⟩ := hv
    cases hw
    obtain ⟨u, h2, h3⟩ := atI_dr t1 h
    exact ⟨_, ix_list, a, vs, _, u, rfl, rfl, SqL.of h1, h2, q u h3⟩
  · obtain ⟨a, vs, rfl, h1, t1⟩ := hv
    cases hw
    obtain ⟨u, h2, h3⟩ := atI_dr t1 h
    exact ⟨_, ix_list, a, vs, _, u, rfl, rfl, by rw [hK]; exact h1.sq, h2, q u h3⟩
  · obtain ⟨a, vs, rfl, h1, t1⟩ := hv.tup
    cases hw
    obtain ⟨u, h2, h3⟩ := atI_dr t1 h
    exact ⟨_, ix_tup, a, vs, _, u, rfl, rfl, by rw [hK]; exact h1, h2, q u h3⟩
theorem Drs.cut {R : Bool → Addr → Prop} {K : PySem.W.Frag} {vs : List V} {ds : List D} (t : Drs K R H vs ds) (lo hi : Option Int) : Drs K R H (cutV vs lo hi) (cutD ds lo hi) := by
  unfold cutV cutD
  rw [t.length]
  exact (t.drop _).take _
theorem sl_ok {X : Cx} (hK : X.K = C.K) (r : Rep C T ρ σ H) {lo hi : Option Int} {z : VR} (h : slop d lo hi = some z) (hv : Dx C.K (Reg C T ρ σ) H v d) {Q : VK}
    (q : ∀ u H', Res C T ρ σ H H' z u → Q u H') : SlU X v lo hi H Q := by
  cases d <;> simp only [slop] at h <;> try (cases h; done)
  · cases h
    rename_i ds
    obtain ⟨a, vs, rfl, h1, t1⟩ := hv
    refine ⟨_, sl_tupA, a, vs, rfl, by rw [hK]; exact h1.sq, fun z => ?_, fun z p hp => q _ _ (.tup r hp (t1.cut lo hi))⟩
    have e : cutD ds lo hi = ds := by
      unfold cutD
      rw [← t1.length, z.1, z.2]
      simp [t1.length]
    rw [e] at q
    exact q _ _ (.here (.tup h1 t1))
  · cases h
    obtain ⟨a, vs, rfl, h1, t1⟩ := hv
    exact ⟨_, sl_list, a, vs, rfl, SqL.of h1, fun p hp => q _ _ (.lst r hp (t1.cut lo hi))⟩
  · cases h
    obtain ⟨a, vs, rfl, h1, t1⟩ := hv
    exact ⟨_, sl_list, a, vs, rfl, by rw [hK]; exact h1.sq, fun p hp => q _ _ (.lst r hp (t1.cut lo hi))⟩
  · split at h <;> cases h
    rename_i ds hgc
    obtain ⟨a, vs, rfl, h1, t1⟩ := hv.tup
    refine ⟨_, sl_tupA, a, vs, rfl, by rw [hK]; exact h1, fun z => ?_, fun z p hp => q _ _ (.tup r hp (t1.cut lo hi))⟩
    have e : cutD ds lo hi = ds := by
      unfold cutD
      rw [← t1.length, z.1, z.2]
      simp [t1.length]
    rw [e] at q hgc
    exact q _ _ (.here (.tup (.inr ⟨hgc, h1⟩) t1))
end
end Own

/-! part OwnM -/
namespace Own
open PySem PySem.Spec L2
section
variable {C : Cn} {T : List Addr} {ρ : Rho} {σ : St} {H : Hp} {v w : V} {d e : D} {X : Cx}
theorem toPys_map : ∀ xs : List D, toPys xs = xs.map toPy
  | [] => by rw [toPys]; rfl
  | x :: xs => by rw [toPys, toPys_map xs]; rfl
/-! ### a.index(e) -/
def rIndexT (K : PySem.W.Frag) : V → List V → Hp → VK → Prop := fun x xs H Q => ∃ (a : Addr) (y : V) (d : PyData) (ds : List PyData) (j : Nat) (z : PyData), x = V.ref a ∧ xs = [y] ∧ Dp K H (V.ref a) (.tuple ds) ∧ Dp K H y d ∧
  SeqAt.shaped (.tuple ds) = true ∧ SeqAt.shaped d = true ∧ ds[j]? = some z ∧ PyData.eqv z d = true ∧ (∀ (m : Nat) (z' : PyData), m < j → ds[m]? = some z' → PyData.eqv z' d = false) ∧ Q (.int (j : Nat)) H
theorem mt_indexT (hu : X.A.units + 65 < cLine) : MtR X "tuple.index" (rIndexT X.K) := by
  intro pins s σ H x xs v us Q I rx rxs h
  obtain ⟨a, y, d, ds, j, z, rfl, rfl, hl, hy, sl, sd, hz, hzj, hno, q⟩ := h
  cases rx
  cases rxs with
  | cons ry rt =>
    rename_i uy ut
    cases rt
    obtain ⟨bs, r1⟩ := Dp.reads I d y uy hy ry
    have hxs : PyData.canLayAll0 ds = true := by
      have := SeqAt.canLay_of_shaped sl
      simpa [PyData.canLay0] using this
    have hroom : X.A.units + 1 + min (PyData.depthAll ds) d.depth < cLine := PyProof.Rows.room_in_shaped sd hu
    cases hl with
    | tup hs ha =>
      obtain ⟨its, rv, ⟨⟨cls, dd, data, sls⟩, ho, hc, n, hdt⟩, hlen⟩ := I.tuple hs
      simp only at hc hdt
      subst hc hdt
      obtain ⟨as, h4⟩ := Dp.readsAll I ds _ its ha rv
      have hn : its.length = ds.length := SeqAt.ReadsAll.length ds its as h4
      have hmap : its.map (SeqAt.readOf s.heap) = ds := SeqAt.readsAll_map ds its as hxs h4
      have hvl := rv.length
      have hsl := sizeLine_eq
      obtain ⟨hjd, _⟩ := List.getElem?_eq_some_iff.mp hz
      have hjl : j < its.length := by omega
      have hj : j < its.toArray.size := by simpa using hjl
      have at_ : ∀ (m : Nat) (hm : m < its.toArray.size) (z' : PyData), ds[m]? = some z' → SeqAt.readOf s.heap its.toArray[m] = z' := by
        intro m hm z' hz'
        have hml : m < its.length := by simpa using hm
        rw [← hmap, List.getElem?_map, List.getElem?_eq_getElem hml] at hz'
        have e1 : SeqAt.readOf s.heap its[m] = z' := Option.some.inj (show some (SeqAt.readOf s.heap its[m]) = some z' from hz')
        simpa using e1
      refine call_meets PySem.F.slot_tuple_index ⟨_, ho, rfl⟩ PySem.F.entry_tuple_index (PySem.F.args_tuple_index_2 _ _)
        (TI.tuple_indexAt a its.toArray n dd sls uy (fun u => PyData.eqv (SeqAt.readOf s.heap u) d) j hj ?_ ?_) ⟨ho, SeqAt.items_eqAt (vs := its.toArray) (show ReadsAll s.heap its.toArray.toList ds as from h4) r1 hxs (SeqAt.canLay_of_shaped sd) hroom, ?_⟩
      · show PyData.eqv (SeqAt.readOf s.heap its.toArray[j]) d = true
        rw [at_ j hj z hz]
        exact hzj
      · intro m hm hmj
        have hmd : m < ds.length := by omega
        have hz' : ds[m]? = some ds[m] := List.getElem?_eq_getElem hmd
        show PyData.eqv (SeqAt.readOf s.heap its.toArray[m]) d = false
        rw [at_ m hm _ hz']
        exact hno m _ hmj hz'
      · exact ⟨.int (j : Nat), H, I.tok _, ⟨_, rfl⟩, q⟩
/-! ### tuples that bear no dict -/
theorem Res.tn (r : Rep C T ρ σ H) {p : Addr} (h : H p = none) {o : Obj} (ho : o.dict = none) {vs : List V} {ds : List D} (q : Drs C.K (Reg C T ρ σ) H vs ds) : Res C T ρ σ H (upd H p (.frz o (.tup vs))) (.v (.tn ds)) (.ref p) :=
  ⟨ext_upd h, .tn upd_same ho (q.alloc0 r h)⟩
def tTupN (t : TA) : TE := fun σ H Q => t σ H fun xs H1 => xs.length ≤ sizeLine ∧ ∀ p o, H1 p = none → o.dict = none → Q (.ref p) (upd H1 p (.frz o (.tup xs)))
theorem pe_tupN {es : List Expr} {pos : Pos} {t : TA} {x1} (h : PA X es t) : PE X (.Tuple es x1 pos) (tTupN t) := by
  refine ⟨fun pins s σ H Q I hq => ?_⟩
  refine wpAny_Tuple_spliced (thn (h.run pos pins s σ H _ I hq) fun us s1 ⟨xs, H1, I1, r, z, q⟩ => ⟨by rw [← r.length]; exact z, ?_⟩)
  have hf : H1 s1.heap.objs.size = none := I1.hok.fresh (Nat.le_refl _)
  refine ⟨.ref s1.heap.objs.size, upd H1 s1.heap.objs.size (.frz { cls := .type "tuple", data := .seq us.toArray } (.tup xs)), I1.laid (t' := s1.toks) (fun b u e => Heap.get?_push_of_some _ e) (Nat.le_refl _) ?_, rfl, q _ _ hf rfl⟩
  exact ⟨Heap.get?_push_size _ rfl, z, us, r, ⟨_, Heap.get?_push_size _ rfl, rfl, _, rfl⟩⟩
theorem call_tupN : CallR X (.type "tuple") (fun xs H Q => ∃ p ys, xs = [.ref p] ∧ SqL X.K H p ys ∧ ∀ l o, H l = none → o.dict = none → Q (.ref l) (upd H l (.frz o (.tup ys)))) := by
  intro pins s σ H xs us Q I r h
  obtain ⟨p, ys, rfl, hq, q⟩ := h
  obtain ⟨u, rfl, rx⟩ := vals1 r
  cases rx
  obtain ⟨its, r', pl, hz⟩ := I.list hq
  have hlen := r'.length
  refine call_tuple_list pl.isList (fun h' kp => ?_) (by simp only [List.size_toArray] <;> omega)
  have I1 : Inv X pins σ H { s with heap := h' } := I.kept (t' := s.toks) kp
  have I2 : Inv X pins σ (upd H h'.objs.size (.frz { cls := .type "tuple", data := .seq its.toArray } (.tup ys))) { s with heap := h'.push { cls := .type "tuple", data := .seq its.toArray } } :=
    I1.laid (t' := s.toks) (fun b o e => Heap.get?_push_of_some _ e) (Nat.le_refl _) (show ObjOk X.prog X.w _ _ _ (.frz _ (.tup ys)) from ⟨Heap.get?_push_size _ rfl, hz, its, r', ⟨_, Heap.get?_push_size _ rfl, rfl, _, rfl⟩⟩)
  exact ⟨.ref h'.objs.size, _, I2, rfl, q _ _ (I1.hok.fresh (Nat.le_refl _)) rfl⟩
/-- the receiver: a list, or a tuple without a dict -/
def tIdx (X : Cx) (to te : TE) : TE := fun σ H Q => to σ H fun x H1 => (∃ a, x = .ref a) ∧ ((tyV X.K "list" x H1 ∧ te σ H1 fun y H2 => rIndexD X.K x [y] H2 Q) ∨ ((∃ a o xs, x = .ref a ∧ H1 a = some (.frz o (.tup xs)) ∧ o.dict = none) ∧ te σ H1 fun y H2 => rIndexT X.K x [y] H2 Q))
theorem pe_idx {o e : Expr} {to te : TE} {apos cpos : Pos} (hu : X.A.units + 65 < cLine) (ho : PE X o to) (ha : PE X e te) (hbase : attributeBase o "index" X.env (eval o X.env) = eval o X.env) (hne : starEach [e] X.env = (false, eval e X.env) :: starEach [] X.env)
    (hfew : ((backTo cpos (starEach [e] X.env)).all (fun x => !x.1) && (backToKw cpos (keywordEach [] X.env)).all (fun x => x.1.isSome)
      && decide (([e] : List Expr).length + ([] : List Keyword).length + (if ([] : List Keyword).isEmpty then 0 else 1) < 30)) = true)
    (hline : (apos.endLine == cpos.line) = true) : PE X (.Call (.Attribute o "index" apos) [e] [] cpos) (tIdx X to te) := by
  refine ⟨fun pins s σ H Q I h => ?_⟩
  refine wpAny_Call_method_late hbase hfew hline rfl (thn (ho.run pins s σ H _ I h) fun v s1 ⟨x, H1, I1, r1, ⟨a, ea⟩, q1⟩ => ?_)
  subst ea
  rcases q1 with ⟨ty, q1⟩ | ⟨⟨a', ob, xs, e1, e2, e3⟩, q1⟩
  · obtain ⟨h1, h2⟩ := tyV_is I1 r1 ty
    refine ⟨"list", "list.index", PySem.F.plainAttrs_list, PySem.F.slot_list_index, PySem.F.type_list_index, h1, h2, ?_⟩
    have hA := (pa_cons ha pa_nil hne).run cpos pins s1 σ H1 (fun xs H2 => rIndexD X.K (.ref a) xs H2 Q) I1 q1
    rw [hne] at hA ⊢
    refine Calls.callWith_builtin (by rfl) (Calls.evalArgs_plain ?_)
    exact thn hA fun us s2 ⟨vs, H2, I2, r2, q2⟩ => mt_indexD hu pins s2 σ H2 _ vs v us Q I2 r1 r2 q2
  · cases e1
    obtain ⟨g1, _, its, _, ⟨ob', g2, g3, _⟩⟩ := I1.hok _ _ e2
    rw [g1] at g2
    cases g2
    obtain rfl : v = Value.ref a := r1
    refine ⟨"tuple", "tuple.index", PySem.F.plainAttrs_tuple, PySem.F.slot_tuple_index, PySem.F.type_tuple_index, ⟨ob, g1, g3⟩, fun b eb => by cases eb; exact ⟨ob, g1, e3⟩, ?_⟩
    have hA := (pa_cons ha pa_nil hne).run cpos pins s1 σ H1 (fun xs H2 => rIndexT X.K (.ref a) xs H2 Q) I1 q1
    rw [hne] at hA ⊢
    refine Calls.callWith_builtin (by rfl) (Calls.evalArgs_plain ?_)
    exact thn hA fun us s2 ⟨vs, H2, I2, r2, q2⟩ => mt_indexT hu pins s2 σ H2 (.ref a) vs (.ref a) us Q I2 rfl r2 q2
theorem idxD_at {x : D} : ∀ {ys : List D} {i : Nat}, idxD x ys = some i → ∃ y, ys[i]? = some y ∧ deq y x = true ∧ ∀ m z, m < i → ys[m]? = some z → deq z x = false
  | [], i, h => by cases h
  | y :: ys, i, h => by
    unfold idxD at h
    by_cases hy : deq y x = true
    · rw [if_pos hy] at h
      cases h
      exact ⟨y, rfl, hy, fun m z hm => by omega⟩
    · rw [if_neg hy] at h
      obtain ⟨j, hj, rfl⟩ := Option.map_eq_some_iff.mp h
      obtain ⟨z, h1, h2, h3⟩ := idxD_at hj
      refine ⟨z, by simpa using h1, h2, fun m w hm hw => ?_⟩
      cases m with
      | zero =>
        cases hw
        simpa using hy
      | succ m => exact h3 m w (by omega) (by simpa using hw)
theorem eqables_memM {n : Nat} : ∀ {xs : List D}, eqables n xs = true → ∀ x ∈ xs, eqable n x = true
  | [], _, x, hx => by cases hx
  | y :: xs, h, x, hx => by
    unfold eqables at h
    rw [Bool.and_eq_true] at h
    rcases List.mem_cons.mp hx with rfl | hx
    · exact h.1
    · exact eqables_memM h.2 x hx
theorem idx_facts {d : D} {xs : List D} {i : Nat} (h1 : eqable 40 d = true) (h2 : eqables 40 xs = true) (hi : idxD d xs = some i) :
    ∃ z, (toPys xs)[i]? = some z ∧ PyData.eqv z (toPy d) = true ∧ (∀ (m : Nat) (z' : PyData), m < i → (toPys xs)[m]? = some z' → PyData.eqv z' (toPy d) = false) := by
  obtain ⟨y, hy, hq, hn⟩ := idxD_at hi
  have me := eqables_memM h2
  refine ⟨toPy y, by rw [toPys_map, List.getElem?_map, hy]; rfl, by rw [eqv_deq 40 40 y d (me y (List.mem_of_getElem? hy)) h1, hq], fun m z hm hz => ?_⟩
  rw [toPys_map, List.getElem?_map] at hz
  obtain ⟨w, hw, rfl⟩ := Option.map_eq_some_iff.mp hz
  rw [eqv_deq 40 40 w d (me w (List.mem_of_getElem? hw)) h1]
  exact hn m w hm hw
theorem shaped_of {d : D} {n : Nat} (h : eqable n d = true) (hn : n ≤ 64) : SeqAt.shaped (toPy d) = true := by
  have l := py_lay n d h
  unfold SeqAt.shaped
  rw [l.1, decide_eq_true (by omega : (toPy d).depth ≤ 64)]
  rfl
theorem idx_lst (hK : X.K = C.K) {nm : Bool} {xs : List D} {i : Nat} (h1 : eqable 40 d = true) (h2 : eqables 40 xs = true) (hi : idxD d xs = some i) (hv : Dx C.K (Reg C T ρ σ) H v d) (hw : Dx C.K (Reg C T ρ σ) H w (.lst nm xs)) {Q : VK} (q : Q (.int (i : Nat)) H) : rIndexD X.K w [v] H Q := by
  have e1 : eqable 41 (.lst nm xs) = true := by unfold eqable; exact h2
  have s2 := shaped_of e1 (by omega)
  have dl : Dp X.K H w (toPy (.lst nm xs)) := by rw [hK]; exact dp_of 41 _ w hw.dr e1
  have et : toPy (.lst nm xs) = .list (toPys xs) := by rw [toPy]
  rw [et] at s2 dl
  obtain ⟨z, f1, f2, f3⟩ := idx_facts h1 h2 hi
  obtain ⟨a, vs, rfl, _, _⟩ := hw
  exact ⟨a, v, toPy d, toPys xs, i, z, rfl, rfl, dl, by rw [hK]; exact dp_of 40 d v hv.dr h1, s2, shaped_of h1 (by omega), f1, f2, f3, q⟩
theorem idx_tup (hK : X.K = C.K) {xs : List D} {i : Nat} (h1 : eqable 40 d = true) (h2 : eqables 40 xs = true) (hi : idxD d xs = some i) (hv : Dx C.K (Reg C T ρ σ) H v d) (hw : DxT C.K (Reg C T ρ σ) H w xs) {Q : VK} (q : Q (.int (i : Nat)) H) : rIndexT X.K w [v] H Q := by
  have e1 : eqable 41 (.tup xs) = true := by unfold eqable; exact h2
  have s2 := shaped_of e1 (by omega)
  have dl : Dp X.K H w (toPy (.tup xs)) := by rw [hK]; exact dp_tup hw h2
  have et : toPy (.tup xs) = .tuple (toPys xs) := by rw [toPy]
  rw [et] at s2 dl
  obtain ⟨z, f1, f2, f3⟩ := idx_facts h1 h2 hi
  obtain ⟨a, vs, rfl, _, _⟩ := hw
  exact ⟨a, v, toPy d, toPys xs, i, z, rfl, rfl, dl, by rw [hK]; exact dp_of 40 d v hv.dr h1, s2, shaped_of h1 (by omega), f1, f2, f3, q⟩
/-! ### min and max of data -/
theorem minOk_alike {xs : List D} (h : minOk xs = true) : PySem.W.AlikeAll (xs.map toPy) ∧ eqables 40 xs = true := by
  unfold minOk at h
  rw [Bool.and_eq_true, Bool.and_eq_true] at h
  obtain ⟨h1, h2, h3⟩ := h
  refine ⟨⟨fun d hd d' hd' => ?_, fun d hd => ?_⟩, h1⟩
  · obtain ⟨x, hx, rfl⟩ := List.mem_map.mp hd
    obtain ⟨y, hy, rfl⟩ := List.mem_map.mp hd'
    exact List.all_eq_true.mp (List.all_eq_true.mp h2 x hx) y hy
  · obtain ⟨x, hx, rfl⟩ := List.mem_map.mp hd
    have := List.all_eq_true.mp h3 x hx
    intro z
    split at this
    · rw [toPy] at z; cases z
    · rw [toPy] at z; cases z
    · rw [toPy] at z; cases z
    · rw [toPy] at z; cases z
    · cases this
theorem reads_of {pins : List (Addr × Obj)} {s : Shared} {RR : Bool → Addr → Prop} (I : Inv X pins σ H s) {ys : List V} {its : List Value} {ds : List D} (rv : Vals ys its) (hd : Drs X.K RR H ys ds) (h : eqables 40 ds = true) : ∃ as, ReadsAll s.heap its (ds.map toPy) as := by
  rw [← toPys_map]
  exact Dp.readsAll I (toPys ds) ys its (dps_of 40 ds ys hd h) rv
theorem bt_eq (x : D) (xs : List D) : (fun i j => PySem.W.dataLt (((x :: xs).map toPy).getD i .none) (((x :: xs).map toPy).getD j .none)) = fun i j => (fun y a : D => PySem.W.dataLt (toPy y) (toPy a)) ((x :: xs).getD i .non) ((x :: xs).getD j .non) := by
  have e : ∀ i, ((x :: xs).map toPy).getD i .none = toPy ((x :: xs).getD i .non) := fun i => by
    rw [List.getD_eq_getElem?_getD, List.getD_eq_getElem?_getD, List.getElem?_map]
    cases (x :: xs)[i]? with
    | none => rw [Option.map_none]; show PyData.none = toPy .non; rw [toPy]
    | some y => rfl
  funext i j
  rw [e, e]
theorem bt_eq' (x : D) (xs : List D) : (fun i j => PySem.W.dataLt (((x :: xs).map toPy).getD j .none) (((x :: xs).map toPy).getD i .none)) = fun i j => (fun y a : D => PySem.W.dataLt (toPy a) (toPy y)) ((x :: xs).getD i .non) ((x :: xs).getD j .non) := by
  have := bt_eq x xs
  funext i j
  exact congrFun (congrFun this j) i
theorem item_at {RR : Bool → Addr → Prop} {ys : List V} {its : List Value} {ds : List D} {i : Nat} {u : Value} {K : PySem.W.Frag} (rv : Vals ys its) (hd : Drs K RR H ys ds) (hi : its[i]? = some u) : ∃ y, RelV y u ∧ Dr K RR H y (ds.getD i .non) := by
  have hl := rv.length
  have hl2 := hd.length
  obtain ⟨hlt, _⟩ := List.getElem?_eq_some_iff.mp hi
  have hy : ys[i]? = some ys[i] := List.getElem?_eq_getElem (by omega)
  obtain ⟨w, hw, r⟩ := rv.get hy
  rw [hi] at hw
  cases hw
  obtain ⟨d, h1, h2⟩ := hd.getV hy
  refine ⟨ys[i], r, ?_⟩
  rw [List.getD_eq_getElem?_getD, h1]
  exact h2
def rMinD (K : PySem.W.Frag) (RR : Bool → Addr → Prop) (f : D → List D → D) : List V → Hp → VK → Prop := fun vs H Q => ∃ a ys x ds, vs = [.ref a] ∧ (SqL K H a ys ∨ SqT K H a ys) ∧ Drs K RR H ys (x :: ds) ∧ minOk (x :: ds) = true ∧ ∀ y, Dr K RR H y (f x ds) → Q y H
theorem call_minD {RR : Bool → Addr → Prop} (hc : X.calm = true) (hu : X.A.units + 128 < cLine) : CallR X (.builtin "min") (rMinD X.K RR minDD) := by
  intro pins s σ H vs us Q I r h
  obtain ⟨a, ys, x, ds, rfl, hs, hd, ho, q⟩ := h
  obtain ⟨al, he⟩ := minOk_alike ho
  rw [Vals.ref1 r]
  have fold := fun k hk => PySem.W.argBest_fold (fun y a : D => PySem.W.dataLt (toPy y) (toPy a)) .non x ds k hk
  have dep : PyData.depthAll ((x :: ds).map toPy) ≤ 40 := by rw [← toPys_map]; exact (pys_lay 40 _ he).2
  have fin : ∀ (its : List Value), Vals ys its → ∀ (k : Nat) (u : Value) (s2 : Shared) (s' : Shared), its.toArray[argBest (fun i j => (fun y a : D => PySem.W.dataLt (toPy y) (toPy a)) ((x :: ds).getD i .non) ((x :: ds).getD j .non)) (its.toArray.size - 1)]? = some u →
      (∃ h' tk, s' = { s with heap := h', toks := tk } ∧ ∀ b o, s.heap.get? b = some o → h'.get? b = some o) → EP X pins σ Q u s' := fun its rv k u s2 s' hu ⟨h', tk, e, hk⟩ => by
    subst e
    have hl : its.toArray.size - 1 = ds.length := by
      have := rv.length
      have := hd.length
      simp at this ⊢
      omega
    rw [hl] at hu
    rw [List.getElem?_toArray] at hu
    obtain ⟨y, ry, dy⟩ := item_at rv hd hu
    rw [(fold ds.length (Nat.le_refl _)).2, List.take_length] at dy
    exact ⟨y, H, I.kept hk, ry, q y dy⟩
  rcases hs with hs | hs
  · obtain ⟨its, rv, hl, hz⟩ := I.list hs
    obtain ⟨as, hr⟩ := reads_of I rv hd he
    refine PySem.call_min_walkH (PySem.W.iter_listW (A := X.A.in1) (I.ok.hd hc) hl.isList fun s₂ e W st hfp hw hk => ?_)
    have cm := PySem.W.cmpIn_lt (A := X.A.in1) (s := s) (prog := X.prog) (w := X.w) (vs := its.toArray) (by simpa using hr) al (by show X.A.units + 1 + _ < _; omega)
    rw [bt_eq] at cm
    refine ⟨_, _, _, _, _, _, _, s.heap, _, rfl, W, st, hfp, ?_, hw, hk, cm, fun v s' hP m => ?_⟩
    · have := rv.length
      have := hd.length
      simp at this ⊢
      omega
    · exact fin its rv 0 v s s' hP (PySem.W.moved_old e rfl m)
  · obtain ⟨its, rv, hl, hz⟩ := I.tuple hs
    obtain ⟨as, hr⟩ := reads_of I rv hd he
    refine PySem.call_min_walkH (PySem.W.iter_tupleW (A := X.A.in1) (I.ok.hd hc) hl fun s₂ e W st hfp hw hk => ?_)
    have cm := PySem.W.cmpIn_lt (A := X.A.in1) (s := s) (prog := X.prog) (w := X.w) (vs := its.toArray) (by simpa using hr) al (by show X.A.units + 1 + _ < _; omega)
    rw [bt_eq] at cm
    refine ⟨_, _, _, _, _, _, _, s.heap, _, rfl, W, st, hfp, ?_, hw, hk, cm, fun v s' hP m => ?_⟩
    · have := rv.length
      have := hd.length
      simp at this ⊢
      omega
    · exact fin its rv 0 v s s' hP (PySem.W.moved_old e rfl m)
theorem call_maxD {RR : Bool → Addr → Prop} (hc : X.calm = true) (hu : X.A.units + 128 < cLine) : CallR X (.builtin "max") (rMinD X.K RR maxDD) := by
  intro pins s σ H vs us Q I r h
  obtain ⟨a, ys, x, ds, rfl, hs, hd, ho, q⟩ := h
  obtain ⟨al, he⟩ := minOk_alike ho
  rw [Vals.ref1 r]
  have fold := fun k hk => PySem.W.argBest_fold (fun y a : D => PySem.W.dataLt (toPy a) (toPy y)) .non x ds k hk
  have dep : PyData.depthAll ((x :: ds).map toPy) ≤ 40 := by rw [← toPys_map]; exact (pys_lay 40 _ he).2
  have fin : ∀ (its : List Value), Vals ys its → ∀ (k : Nat) (u : Value) (s2 : Shared) (s' : Shared), its.toArray[argBest (fun i j => (fun y a : D => PySem.W.dataLt (toPy a) (toPy y)) ((x :: ds).getD i .non) ((x :: ds).getD j .non)) (its.toArray.size - 1)]? = some u →
      (∃ h' tk, s' = { s with heap := h', toks := tk } ∧ ∀ b o, s.heap.get? b = some o → h'.get? b = some o) → EP X pins σ Q u s' := fun its rv k u s2 s' hu ⟨h', tk, e, hk⟩ => by
    subst e
    have hl : its.toArray.size - 1 = ds.length := by
      have := rv.length
      have := hd.length
      simp at this ⊢
      omega
    rw [hl] at hu
    rw [List.getElem?_toArray] at hu
    obtain ⟨y, ry, dy⟩ := item_at rv hd hu
    rw [(fold ds.length (Nat.le_refl _)).2, List.take_length] at dy
    exact ⟨y, H, I.kept hk, ry, q y dy⟩
  rcases hs with hs | hs
  · obtain ⟨its, rv, hl, hz⟩ := I.list hs
    obtain ⟨as, hr⟩ := reads_of I rv hd he
    refine PySem.call_max_walkH (PySem.W.iter_listW (A := X.A.in1) (I.ok.hd hc) hl.isList fun s₂ e W st hfp hw hk => ?_)
    have cm := PySem.W.cmpIn_gt (A := X.A.in1) (s := s) (prog := X.prog) (w := X.w) (vs := its.toArray) (by simpa using hr) al (by show X.A.units + 1 + _ < _; omega)
    rw [bt_eq'] at cm
    refine ⟨_, _, _, _, _, _, _, s.heap, _, rfl, W, st, hfp, ?_, hw, hk, cm, fun v s' hP m => ?_⟩
    · have := rv.length
      have := hd.length
      simp at this ⊢
      omega
    · exact fin its rv 0 v s s' hP (PySem.W.moved_old e rfl m)
  · obtain ⟨its, rv, hl, hz⟩ := I.tuple hs
    obtain ⟨as, hr⟩ := reads_of I rv hd he
    refine PySem.call_max_walkH (PySem.W.iter_tupleW (A := X.A.in1) (I.ok.hd hc) hl fun s₂ e W st hfp hw hk => ?_)
    have cm := PySem.W.cmpIn_gt (A := X.A.in1) (s := s) (prog := X.prog) (w := X.w) (vs := its.toArray) (by simpa using hr) al (by show X.A.units + 1 + _ < _; omega)
    rw [bt_eq'] at cm
    refine ⟨_, _, _, _, _, _, _, s.heap, _, rfl, W, st, hfp, ?_, hw, hk, cm, fun v s' hP m => ?_⟩
    · have := rv.length
      have := hd.length
      simp at this ⊢
      omega
    · exact fin its rv 0 v s s' hP (PySem.W.moved_old e rfl m)
end
end Own

/-! part Own5 -/
namespace Own
open PySem PySem.Spec L2
section
variable {C : Cn} {T : List Addr} {ρ : Rho} {σ : St} {H : Hp} {v w : V} {d e : D} {X : Cx}
def Blt.val : Blt → Value
  | .len => .builtin "len" | .abs => .builtin "abs" | .min2 => .builtin "min" | .max2 => .builtin "max" | .min1 => .builtin "min" | .max1 => .builtin "max"
  | .sum => .builtin "sum" | .all => .builtin "all" | .any => .builtin "any" | .tuple => .type "tuple" | .list => .type "list" | .int => .type "int"
  | .repr => .builtin "repr" | .str => .type "str" | .gcd => .builtin "math.gcd" | .isqrt => .builtin "math.isqrt" | .sorted => .builtin "sorted" | .lrange => .type "list"
/-- the operands, kind by kind -/
inductive Dxs (K : PySem.W.Frag) (R : Bool → Addr → Prop) (H : Hp) : List V → List D → Prop
  | nil : Dxs K R H [] []
  | cons {v : V} {vs : List V} {d : D} {ds : List D} : Dx K R H v d → Dxs K R H vs ds → Dxs K R H (v :: vs) (d :: ds)
theorem ints_vs {K : PySem.W.Frag} {R : Bool → Addr → Prop} : ∀ {vs : List V} {ds : List D} {ns : List Int}, Drs K R H vs ds → intsOf ds = some ns → vs = ns.map V.int
  | _, _, _, .nil, h => by cases h; rfl
  | _, _, ns, .cons (d := d) r t, h => by
    cases d <;> simp [intsOf] at h
    obtain ⟨ms, h1, h2⟩ := h
    subst h2
    cases r
    rw [ints_vs t h1]
    rfl
theorem bls_vs {K : PySem.W.Frag} {R : Bool → Addr → Prop} : ∀ {vs : List V} {ds : List D} {ns : List Bool}, Drs K R H vs ds → blsOf ds = some ns → vs = ns.map V.bl
  | _, _, _, .nil, h => by cases h; rfl
  | _, _, ns, .cons (d := d) r t, h => by
    cases d <;> simp [blsOf] at h
    obtain ⟨ms, h1, h2⟩ := h
    subst h2
    cases r
    rw [bls_vs t h1]
    rfl
theorem maxL_is : ∀ {ns : List Int} {m : Int}, m ∈ ns → (∀ y, y ∈ ns → y ≤ m) → m = maxL ns
  | [x], m, h, _ => by simpa [maxL] using h
  | x :: y :: r, m, h, g => by
    have hx := g x List.mem_cons_self
    unfold maxL
    by_cases hm : m ∈ y :: r
    · have ih := maxL_is hm fun z hz => g z (List.mem_cons_of_mem _ hz)
      rw [← ih]
      split <;> omega
    · have e : m = x := by
        rcases List.mem_cons.mp h with h | h
        · exact h
        · exact absurd h hm
      subst e
      have : maxL (y :: r) ∈ y :: r := maxL_mem (by simp)
      have g2 := g _ (List.mem_cons_of_mem _ this)
      split
      · rfl
      · have : maxL (y :: r) = m := by omega
        exact this.symm
where
  maxL_mem : ∀ {ns : List Int}, ns ≠ [] → maxL ns ∈ ns
    | [x], _ => by simp [maxL]
    | x :: y :: r, _ => by
      have ih := maxL_mem (ns := y :: r) (by simp)
      unfold maxL
      split
      · exact List.mem_cons_self
      · exact List.mem_cons_of_mem _ ih
theorem minL_is : ∀ {ns : List Int} {m : Int}, m ∈ ns → (∀ y, y ∈ ns → m ≤ y) → m = minL ns
  | [x], m, h, _ => by simpa [minL] using h
  | x :: y :: r, m, h, g => by
    have hx := g x List.mem_cons_self
    unfold minL
    by_cases hm : m ∈ y :: r
    · have ih := minL_is hm fun z hz => g z (List.mem_cons_of_mem _ hz)
      rw [← ih]
      split <;> omega
    · have e : m = x := by
        rcases List.mem_cons.mp h with h | h
        · exact h
        · exact absurd h hm
      subst e
      have : minL (y :: r) ∈ y :: r := minL_mem (by simp)
      have g2 := g _ (List.mem_cons_of_mem _ this)
      split
      · rfl
      · have : minL (y :: r) = m := by omega
        exact this.symm
where
  minL_mem : ∀ {ns : List Int}, ns ≠ [] → minL ns ∈ ns
    | [x], _ => by simp [minL]
    | x :: y :: r, _ => by
      have ih := minL_mem (ns := y :: r) (by simp)
      unfold minL
      split
      · exact List.mem_cons_self
      · exact List.mem_cons_of_mem _ ih
mutual
theorem nodict : ∀ d : D, (toPy d).hasDict = false
  | .non => by unfold toPy; rfl
  | .bl b => by unfold toPy; rfl
  | .int i => by unfold toPy; rfl
  | .str x => by unfold toPy; rfl
  | .tup ds => by unfold toPy; simpa [PyData.hasDict] using nodicts ds
  | .lst _ ds => by unfold toPy; simpa [PyData.hasDict] using nodicts ds
  | .dK _ _ => by unfold toPy; rfl
  | .dT _ _ => by unfold toPy; rfl
  | .scr _ => by unfold toPy; rfl
  | .exn _ _ => by unfold toPy; rfl
  | .tn _ => by unfold toPy; rfl
  | .lk _ => by unfold toPy; rfl
theorem nodicts : ∀ ds : List D, PyData.hasDictAll (toPys ds) = false
  | [] => by unfold toPys; rfl
  | d :: ds => by unfold toPys; simp [PyData.hasDictAll, nodict d, nodicts ds]
end
theorem call_isqrt : CallR X (.builtin "math.isqrt") (fun vs H Q => ∃ a : Int, vs = [.int a] ∧ 0 ≤ a ∧ a < 2 ^ 64 ∧ Q (.int ((Float64.isqrt a.toNat : Nat) : Int)) H) := by
  intro pins s σ H vs us Q I r h
  obtain ⟨a, rfl, h0, h1, q⟩ := h
  obtain ⟨u, rfl, t, rfl⟩ := vals1 r
  exact PySem.W.mg_isqrt h0 h1 ⟨.int _, H, I.tok _, ⟨_, rfl⟩, q⟩
/-- sorted of data that are alike -/
theorem all_alike {xs : List D} (h : (xs.all fun x => xs.all fun y => PySem.W.alike (toPy x) (toPy y)) = true) : PySem.W.AllAlike (xs.map toPy) := fun d hd d' hd' => by
  obtain ⟨x, hx, rfl⟩ := List.mem_map.mp hd
  obtain ⟨y, hy, rfl⟩ := List.mem_map.mp hd'
  exact List.all_eq_true.mp (List.all_eq_true.mp h x hx) y hy
theorem all_sortable {xs : List D} (h : ((xs.all fun x => match x with
    | .tup (_ :: _) => true
    | _ => false) || xs.all fun x => match x with
    | .int _ => true
    | .str _ => true
    | .bl _ => true
    | _ => false) = true) : PySem.W.Sortable (xs.map toPy) := by
  rw [Bool.or_eq_true] at h
  rcases h with h | h
  · refine .inl fun d hd => ?_
    obtain ⟨x, hx, rfl⟩ := List.mem_map.mp hd
    have := List.all_eq_true.mp h x hx
    split at this
    · rename_i a l
      exact ⟨toPy a, toPys l, by rw [toPy, toPys]⟩
    · cases this
  · refine .inr fun d hd => ?_
    obtain ⟨x, hx, rfl⟩ := List.mem_map.mp hd
    have := List.all_eq_true.mp h x hx
    split at this
    · exact ⟨(fun z => by unfold toPy at z; cases z), fun xs z => by unfold toPy at z; cases z⟩
    · exact ⟨(fun z => by unfold toPy at z; cases z), fun xs z => by unfold toPy at z; cases z⟩
    · exact ⟨(fun z => by unfold toPy at z; cases z), fun xs z => by unfold toPy at z; cases z⟩
    · cases this
theorem each_of {K : PySem.W.Frag} {R : Bool → Addr → Prop} : ∀ {ys : List V} {its : List Value} {ds : List D}, Vals ys its → Drs K R H ys ds → PySem.W.EachIs (fun u d => ∃ v, RelV v u ∧ Dr K R H v d) its ds
  | _, _, _, .nil, .nil => .nil
  | _, _, _, .cons r rs, .cons h t => .cons ⟨_, r, h⟩ (each_of rs t)
theorem each_back {K : PySem.W.Frag} {R : Bool → Addr → Prop} : ∀ {its : List Value} {ds : List D}, PySem.W.EachIs (fun u d => ∃ v, RelV v u ∧ Dr K R H v d) its ds → ∃ ys, Vals ys its ∧ Drs K R H ys ds
  | _, _, .nil => ⟨[], .nil, .nil⟩
  | _, _, .cons ⟨v, r, h⟩ t => by
    obtain ⟨ys, a, b⟩ := each_back t
    exact ⟨v :: ys, .cons r a, .cons h b⟩
theorem each_mono {α β : Type} {R R' : α → β → Prop} (P : β → Prop) (h : ∀ a b, P b → R a b → R' a b) : ∀ {as : List α} {bs : List β}, (∀ b ∈ bs, P b) → PySem.W.EachIs R as bs → PySem.W.EachIs R' as bs
  | _, _, _, .nil => .nil
  | _, _, p, .cons a t => .cons (h _ _ (p _ List.mem_cons_self) a) (each_mono P h (fun b m => p b (List.mem_cons_of_mem _ m)) t)
theorem eqables_mem {n : Nat} : ∀ {xs : List D}, eqables n xs = true → ∀ x ∈ xs, eqable n x = true
  | [], _, x, hx => by cases hx
  | y :: xs, h, x, hx => by
    unfold eqables at h
    rw [Bool.and_eq_true] at h
    rcases List.mem_cons.mp hx with rfl | hx
    · exact h.1
    · exact eqables_mem h.2 x hx
theorem call_sortedD {RR : Bool → Addr → Prop} (hu : X.A.units + 128 < cLine) : CallR X (.builtin "sorted") (fun vs H Q => ∃ a ys ds, vs = [.ref a] ∧ SqL X.K H a ys ∧ Drs X.K RR H ys ds ∧ sortOk ds = true ∧ ∀ ys' p, Drs X.K RR H ys' (sortD ds) → H p = none → Q (.ref p) (upd H p (.lst ys'))) := by
  intro pins s σ H vs us Q I r h
  obtain ⟨a, ys, ds, rfl, hs, hd, ho, q⟩ := h
  obtain ⟨its, rv, hl, hz⟩ := I.list hs
  rw [Vals.ref1 r]
  unfold sortOk at ho
  rw [Bool.and_eq_true, Bool.and_eq_true] at ho
  obtain ⟨h1, h2, h3⟩ := ho
  have e := each_of rv hd
  have he := eqables_mem h1
  have er : PySem.W.EachIs (fun u d => ∃ as, Reads s.heap u (toPy d) as) its ds := each_mono (fun d => eqable 40 d = true) (fun u d pd ⟨v, rv, dv⟩ => Dp.reads I (toPy d) v u (dp_of 40 d v dv pd) rv) he e
  have hlen : ds.length = its.length := hd.length ▸ rv.length
  refine PySem.W.sorted_data hl.isList e er (all_alike h2) (all_sortable h3) (by rw [hlen, ← rv.length]; exact hz) (fun d hm => ?_) fun out ho eo => ?_
  · have := (py_lay 40 d (he d hm)).2
    omega
  · obtain ⟨ys', rv', hd'⟩ := each_back eo
    obtain ⟨ep, he'⟩ := PyProof.Rows.sortedAll_at s.heap its (List.toArray out)
    have hz' : ys'.length ≤ sizeLine := by
      rw [rv'.length, ho, hlen, ← rv.length]
      exact hz
    exact ⟨.ref _, upd H (s.heap.objs.size + 1) (.lst ys'), I.laid (t' := s.toks) (fun _ _ => PyProof.Rows.sortedAll_old) (Nat.le_succ _) ⟨hz', out, ep, rv', he'⟩, rfl, q ys' _ hd' (I.hok.fresh (Nat.le_succ _))⟩
/-- repr of data -/
theorem call_reprD (hg : X.A.guards = some []) (hu : X.A.units + 128 < cLine) : CallR X (.builtin "repr") (fun vs H Q => ∃ v n d, vs = [v] ∧ Dr X.K RT H v d ∧ n ≤ 40 ∧ eqable n d = true ∧ (toPy d).showable = true ∧ (toPy d).shown.length ≤ sizeLine ∧ Q (.str (toPy d).shown) H) := by
  intro pins s σ H vs us Q I r h
  obtain ⟨v, n, d, rfl, hd, hn, he, hs, hz, q⟩ := h
  obtain ⟨u, rfl, ru⟩ := vals1 r
  have hp := dp_of n d v hd he
  obtain ⟨as, rd⟩ := Dp.reads I _ v u hp ru
  have dep := (py_lay n d he).2
  have fin : ∀ h' uu tk, (∀ b o, s.heap.get? b = some o → h'.get? b = some o) → EP X pins σ Q (.str (toPy d).shown uu) { s with heap := h', toks := tk } := fun h' uu tk k =>
    ⟨.str _, H, I.kept k, ⟨_, rfl⟩, q⟩
  have hv : (∃ a, v = .ref a) ∨ (toPy d = .none ∧ v = .non) ∨ (∃ b, toPy d = .bool b ∧ v = .bl b) ∨ (∃ i, toPy d = .int i ∧ v = .int i) ∨ ∃ x, toPy d = .str x ∧ v = .str x := by
    cases hd <;> simp [toPy]
  rcases hv with ⟨a, rfl⟩ | ⟨e, rfl⟩ | ⟨b, e, rfl⟩ | ⟨i, e, rfl⟩ | ⟨x, e, rfl⟩
  · obtain rfl : u = Value.ref a := ru
    refine repr_of_reads' rd hs (fun z => ?_) hg (by omega) (fun _ _ e => e) fin hz
    exact absurd z (by rw [nodict d]; simp)
  · obtain rfl : u = Value.none := ru
    rw [e] at fin
    exact P.repr_of_none (fin _ _ _ fun _ _ e => e)
  · obtain rfl : u = Value.bool b := ru
    rw [e] at fin
    exact P.repr_of_bool (fin _ _ _ fun _ _ e => e)
  · obtain ⟨t, rfl⟩ := ru
    rw [e] at fin hs
    exact P.repr_of_int (by simpa [PyData.showable] using hs) (fin _ _ _ fun _ _ e => e)
  · obtain ⟨t, rfl⟩ := ru
    rw [e] at fin hz
    exact P.repr_of_str (fin _ _ _ fun _ _ e => e) hz
theorem blt_ok (hK : X.K = C.K) (hc : X.calm = true) (hg : X.A.guards = some []) (hu : X.A.units + 128 < cLine) (r : Rep C T ρ σ H) {b : Blt} {ds : List D} {vs : List V} {z : VR} (h : bltop b ds = some z) (hv : Dxs C.K (Reg C T ρ σ) H vs ds) {Q : VK}
    (q : ∀ u H', Res C T ρ σ H H' z u → Q u H') : CallU X b.val vs H Q := by
  unfold bltop at h
  split at h
  case h_1 xs =>
    cases h; rcases hv with _ | ⟨hv, _ | _⟩
    obtain ⟨a, us, rfl, h1, t1⟩ := hv
    exact ⟨_, call_len_seq, a, us, rfl, .inr (by rw [hK]; exact h1.sq), by rw [t1.length]; exact q _ _ (.here (.int _))⟩
  case h_2 xs =>
    cases h; rcases hv with _ | ⟨hv, _ | _⟩
    obtain ⟨a, us, rfl, h1, t1⟩ := hv
    exact ⟨_, call_len_seq, a, us, rfl, .inl (SqL.of h1), by rw [t1.length]; exact q _ _ (.here (.int _))⟩
  case h_3 xs =>
    cases h; rcases hv with _ | ⟨hv, _ | _⟩
    obtain ⟨a, us, rfl, h1, t1⟩ := hv
    exact ⟨_, call_len_seq, a, us, rfl, .inl (by rw [hK]; exact h1.sq), by rw [t1.length]; exact q _ _ (.here (.int _))⟩
  case h_4 x =>
    split at h <;> cases h
    rename_i hm
    rcases hv with _ | ⟨hv, _ | _⟩
    cases hv
    exact ⟨_, call_len_str, x, rfl, small_le hm, q _ _ (.here (.int _))⟩
  case h_5 i =>
    cases h; rcases hv with _ | ⟨hv, _ | _⟩
    cases hv
    exact ⟨_, call_abs, i, rfl, q _ _ (.here (.int _))⟩
  case h_6 i j =>
    cases h; rcases hv with _ | ⟨hv, _ | ⟨hw, _ | _⟩⟩
    cases hv; cases hw
    exact ⟨_, call_min2 hc, i, j, rfl, q _ _ (.here (.int _))⟩
  case h_7 i j =>
    cases h; rcases hv with _ | ⟨hv, _ | ⟨hw, _ | _⟩⟩
    cases hv; cases hw
    exact ⟨_, call_max2 hc, i, j, rfl, q _ _ (.here (.int _))⟩
  case h_8 nm xs =>
    split at h
    · cases h
      rename_i i l hm
      rcases hv with _ | ⟨hv, _ | _⟩
      obtain ⟨a, us, rfl, h1, t1⟩ := hv
      have e := ints_vs t1 hm
      subst e
      refine ⟨_, cr_min hc, a, i :: l, rfl, SqL.of h1, by simp, fun m hm1 hm2 => ?_⟩
      rw [minL_is hm1 hm2]
      exact q _ _ (.here (.int _))
    · split at h
      · split at h <;> cases h
        rename_i hm
        rcases hv with _ | ⟨hv, _ | _⟩
        obtain ⟨a, us, rfl, h1, t1⟩ := hv
        exact ⟨_, call_minD hc hu, a, us, _, _, rfl, .inl (SqL.of h1), by rw [hK]; exact t1, hm, fun y hy => q _ _ (.here (by rw [hK] at hy; exact hy))⟩
      · cases h
  case h_9 nm xs =>
    split at h
    · cases h
      rename_i i l hm
      rcases hv with _ | ⟨hv, _ | _⟩
      obtain ⟨a, us, rfl, h1, t1⟩ := hv
      have e := ints_vs t1 hm
      subst e
      refine ⟨_, cr_max hc, a, i :: l, rfl, SqL.of h1, by simp, fun m hm1 hm2 => ?_⟩
      rw [maxL_is hm1 hm2]
      exact q _ _ (.here (.int _))
    · split at h
      · split at h <;> cases h
        rename_i hm
        rcases hv with _ | ⟨hv, _ | _⟩
        obtain ⟨a, us, rfl, h1, t1⟩ := hv
        exact ⟨_, call_maxD hc hu, a, us, _, _, rfl, .inl (SqL.of h1), by rw [hK]; exact t1, hm, fun y hy => q _ _ (.here (by rw [hK] at hy; exact hy))⟩
      · cases h
  case h_10 xs =>
    split at h
    · split at h <;> cases h
      rename_i hm
      rcases hv with _ | ⟨hv, _ | _⟩
      obtain ⟨a, us, rfl, h1, t1⟩ := hv
      exact ⟨_, call_minD hc hu, a, us, _, _, rfl, .inr (by rw [hK]; exact h1.sq), by rw [hK]; exact t1, hm, fun y hy => q _ _ (.here (by rw [hK] at hy; exact hy))⟩
    · cases h
  case h_11 xs =>
    split at h
    · split at h <;> cases h
      rename_i hm
      rcases hv with _ | ⟨hv, _ | _⟩
      obtain ⟨a, us, rfl, h1, t1⟩ := hv.tup
      exact ⟨_, call_minD hc hu, a, us, _, _, rfl, .inr (by rw [hK]; exact h1), by rw [hK]; exact t1, hm, fun y hy => q _ _ (.here (by rw [hK] at hy; exact hy))⟩
    · cases h
  case h_12 xs =>
    split at h
    · split at h <;> cases h
      rename_i hm
      rcases hv with _ | ⟨hv, _ | _⟩
      obtain ⟨a, us, rfl, h1, t1⟩ := hv
      exact ⟨_, call_maxD hc hu, a, us, _, _, rfl, .inr (by rw [hK]; exact h1.sq), by rw [hK]; exact t1, hm, fun y hy => q _ _ (.here (by rw [hK] at hy; exact hy))⟩
    · cases h
  case h_13 nm xs =>
    obtain ⟨ns, hm, rfl⟩ := Option.map_eq_some_iff.mp h
    rcases hv with _ | ⟨hv, _ | _⟩
    obtain ⟨a, us, rfl, h1, t1⟩ := hv
    have e := ints_vs t1 hm
    subst e
    exact ⟨_, cr_sum hc, a, ns, rfl, SqL.of h1, q _ _ (.here (.int _))⟩
  case h_14 nm xs =>
    obtain ⟨ns, hm, rfl⟩ := Option.map_eq_some_iff.mp h
    rcases hv with _ | ⟨hv, _ | _⟩
    obtain ⟨a, us, rfl, h1, t1⟩ := hv
    have e := bls_vs t1 hm
    subst e
    exact ⟨_, cr_all hc, a, ns, rfl, SqL.of h1, q _ _ (.here (.bl _))⟩
  case h_15 nm xs =>
    obtain ⟨ns, hm, rfl⟩ := Option.map_eq_some_iff.mp h
    rcases hv with _ | ⟨hv, _ | _⟩
    obtain ⟨a, us, rfl, h1, t1⟩ := hv
    have e := bls_vs t1 hm
    subst e
    exact ⟨_, cr_any hc, a, ns, rfl, SqL.of h1, q _ _ (.here (.bl _))⟩
  case h_16 xs =>
    cases h; rcases hv with _ | ⟨hv, _ | _⟩
    obtain ⟨a, us, rfl, h1, t1⟩ := hv
    exact ⟨_, call_tuple_of, a, us, rfl, .inr ⟨by rw [hK]; exact h1.sq, q _ _ (.here (.tup h1 t1))⟩⟩
  case h_17 nm xs =>
    cases h; rcases hv with _ | ⟨hv, _ | _⟩
    obtain ⟨a, us, rfl, h1, t1⟩ := hv
    exact ⟨_, call_tuple_of, a, us, rfl, .inl ⟨SqL.of h1, fun p hp => q _ _ (.tup r hp t1)⟩⟩
  case h_18 xs =>
    cases h; rcases hv with _ | ⟨hv, _ | _⟩
    obtain ⟨a, us, rfl, h1, t1⟩ := hv
    exact ⟨_, call_list_of, a, us, rfl, .inr (by rw [hK]; exact h1.sq), fun p hp => q _ _ (.lst r hp t1)⟩
  case h_19 nm xs =>
    cases h; rcases hv with _ | ⟨hv, _ | _⟩
    obtain ⟨a, us, rfl, h1, t1⟩ := hv
    exact ⟨_, call_list_of, a, us, rfl, .inl (SqL.of h1), fun p hp => q _ _ (.lst r hp t1)⟩
  case h_20 xs =>
    cases h; rcases hv with _ | ⟨hv, _ | _⟩
    obtain ⟨a, us, rfl, h1, t1⟩ := hv
    exact ⟨_, call_list_of, a, us, rfl, .inl (by rw [hK]; exact h1.sq), fun p hp => q _ _ (.lst r hp t1)⟩
  case h_21 i =>
    cases h; rcases hv with _ | ⟨hv, _ | _⟩
    cases hv
    exact ⟨_, call_int1, .inl ⟨i, rfl, q _ _ (.here (.int _))⟩⟩
  case h_22 b =>
    cases h; rcases hv with _ | ⟨hv, _ | _⟩
    cases hv
    exact ⟨_, call_int1, .inr ⟨b, rfl, q _ _ (.here (.int _))⟩⟩
  case h_23 d =>
    split at h <;> cases h
    rename_i hm
    simp only [Bool.and_eq_true] at hm
    rcases hv with _ | ⟨hv, _ | _⟩
    exact ⟨_, call_reprD hg hu, _, 40, d, rfl, by rw [hK]; exact hv.dr, Nat.le_refl _, hm.1.1, hm.1.2, small_le hm.2, q _ _ (.here (.str _))⟩
  case h_24 i =>
    split at h <;> cases h
    rename_i hm
    have hm' := of_decide_eq_true hm
    rcases hv with _ | ⟨hv, _ | _⟩
    cases hv
    exact ⟨_, call_isqrt, i, rfl, hm'.1, hm'.2, q _ _ (.here (.int _))⟩
  case h_25 i j =>
    cases h; rcases hv with _ | ⟨hv, _ | ⟨hw, _ | _⟩⟩
    cases hv; cases hw
    exact ⟨_, cr_gcd, i, j, rfl, q _ _ (.here (.int _))⟩
  case h_26 i =>
    split at h <;> cases h
    rename_i hm
    rcases hv with _ | ⟨hv, _ | _⟩
    cases hv
    exact ⟨_, call_str_int, i, rfl, hm, q _ _ (.here (.str _))⟩
  case h_27 nm xs =>
    split at h <;> cases h
    rename_i hm
    rcases hv with _ | ⟨hv, _ | _⟩
    obtain ⟨a, us, rfl, h1, t1⟩ := hv
    exact ⟨_, call_sortedD (RR := _) hu, a, us, xs, rfl, SqL.of h1, by rw [hK]; exact t1, hm, fun ys' p hy hp => q _ _ (.lst r hp (by rw [hK] at hy; exact hy))⟩
  case h_28 => cases h

/-! ### isinstance -/
def Ty.name : Ty → String
  | .int => "int" | .bool => "bool" | .str => "str" | .tuple => "tuple" | .list => "list" | .dict => "dict"
def tyName : D → String
  | .non => "NoneType" | .bl _ => "bool" | .int _ => "int" | .str _ => "str" | .tup _ => "tuple" | .lst _ _ => "list" | .dK _ _ => "dict" | .dT _ _ => "dict" | .lk _ => "dict" | .scr _ => "list" | .exn _ _ => "" | .tn _ => "tuple"
def notExn : D → Bool
  | .exn _ _ => false
  | _ => true
theorem isTy_kit (t : Ty) (d : D) (hd : notExn d = true) : kitB (tyName d) t.name = some (isTy t d) := by
  cases t <;> cases d <;> (first | (cases hd; done) | (simp only [tyName, Ty.name, isTy]; decide +kernel))
theorem tyx_of {K : PySem.W.Frag} {R : Bool → Addr → Prop} (h : Dx K R H v d) (hd : notExn d = true) : TyX K H v (.type (tyName d)) := by
  cases d with
  | exn c d => cases hd
  | non => cases h; exact .base .non
  | bl b => cases h; exact .base (.bl b)
  | int i => cases h; exact .base (.int i)
  | str x => cases h; exact .base (.str x)
  | tup ds =>
    obtain ⟨a, vs, rfl, h1, t1⟩ := h
    rcases h1.sq with (h1 | ⟨o, h1⟩) | ⟨o, its, n, hk, hc, _⟩
    · exact .base (.tup h1)
    · exact .fTuple h1
    · exact .kTuple hk hc
  | lst _ ds =>
    obtain ⟨a, vs, rfl, h1, t1⟩ := h
    exact .base (.lst h1)
  | dK ks ds =>
    obtain ⟨a, vs, rfl, h1 | ⟨o, h1⟩, t1⟩ := h
    · exact .base (.dK h1)
    · exact .fDict h1
  | lk P =>
    obtain ⟨a, u, rfl, h1, ⟨o, kvs, rfl⟩, _⟩ := h
    exact .fDict h1
  | dT ks ds =>
    obtain ⟨a, vs, rfl, h1, t1⟩ := h
    exact .base (.dT h1)
  | tn ds =>
    obtain ⟨a, o, vs, rfl, h1, _⟩ := h
    exact .fTuple h1
  | scr ds =>
    obtain ⟨a, vs, rfl, ⟨o, h1⟩ | ⟨o, its, n, hk, hc, _⟩, t1⟩ := h
    · exact .base (.frz h1)
    · exact .kList hk hc
theorem inst_exn {pins : List (Addr × Obj)} {s : Shared} {a ca b : Addr} {fs : List (Str × V)} (I : Inv X pins σ H s) (h : H a = some (exv a ca b)) (h2 : H b = some (.xd fs)) : ∃ oe od, PySem.W.InstAt s.heap a oe ca (some od) := by
  obtain ⟨⟨oe, vs, e1, e2, e3, e4⟩, _, _⟩ := I.hok a _ h
  have hx : ObjOk X.prog X.w H s.heap b (.xd fs) := I.hok b _ h2
  obtain ⟨mA, hns, hr⟩ := hx
  obtain ⟨od, ho, hl⟩ := lookIn_ns hns
  exact ⟨oe, od, e1, e2, by unfold PySem.W.notCls; rw [e4] <;> rfl, by rw [e3]; exact ho⟩
/-- isinstance(e, c), e a caught exception -/
def rIsX (K : PySem.W.Frag) : List V → Hp → VK → Prop := fun xs H Q => ∃ (a ca b : Addr) (fs : List (Str × V)) (c : V) (cv : Value) (z : Bool), xs = [.ref a, c] ∧ H a = some (exv a ca b) ∧ H b = some (.xd fs) ∧ ExcK K ca ∧ (∀ u, RelV c u → u = cv) ∧ PySem.W.kitOne K (.ref ca) cv = some z ∧ Q (.bl z) H
theorem call_isX : CallR X (.builtin "isinstance") (rIsX X.K) := by
  intro pins s σ H xs us Q I r h
  obtain ⟨a, ca, b, fs, c, cv, z, rfl, h1, h2, k, hcv, e, q⟩ := h
  cases r with
  | cons rx rr =>
    cases rr with
    | cons rt rr =>
      cases rr
      cases rx
      have ec := hcv _ rt
      subst ec
      obtain ⟨oe, od, J⟩ := inst_exn I h1 h2
      have hcl : (PySem.W.clsIn X.K ca).isSome = true := by
        have := k.hd
        unfold PySem.W.hasDictIn at this
        cases hc : PySem.W.clsIn X.K ca with
        | none => rw [hc] at this; cases this
        | some cd => rfl
      exact PySem.W.kia_one (PySem.W.kitx_exc hcl k.ga k.gg k.be k.cl k.sp k.tk k.ob) I.kIn J e (fun z => nomatch z) fun tk => ⟨.bl z, H, I.tok tk, rfl, q⟩
theorem ty_mem (t : Ty) : t.name ∈ ["int", "bool", "str", "tuple", "list", "dict"] := by cases t <;> simp [Ty.name]
theorem isi_ok (hK : X.K = C.K) {t : Ty} (hv : Dx C.K (Reg C T ρ σ) H v d) {Q : VK} (q : Q (.bl (isTy t d)) H) : CallU X (.builtin "isinstance") [v, .ty t.name] H Q := by
  by_cases hd : notExn d = true
  · exact ⟨_, call_isi, v, .ty t.name, .type (tyName d), .type t.name, isTy t d, rfl, .ty _, by rw [hK]; exact tyx_of hv hd, kit_ty (isTy_kit t d hd), q⟩
  · cases d <;> first | exact absurd rfl hd | skip
    obtain ⟨a, b, ca, w, rfl, h1, h2, hc, _⟩ := hv
    have k := excOk_k hc.2
    have e : isTy t (.exn ‹Str› ‹D›) = false := by cases t <;> rfl
    rw [e] at q
    exact ⟨_, call_isX, a, ca, b, _, .ty t.name, .type t.name, false, rfl, h1, h2, by rw [hK]; exact k, fun u r => r, by rw [hK]; exact k.ty _ (ty_mem t), q⟩
end
end Own

/-! part OwnI -/
namespace Own
open PySem PySem.Spec L2
/-! ### the errors' own __init__: super().__init__(text); self.value = value -/
open PySem.W PyProof.Rows in
abbrev parI (a1 a2 : Pos) : Arguments := { posonlyargs := [], args := [{ arg := "self", annotation := none, pos := a1 }, { arg := "value", annotation := none, pos := a2 }], vararg := none, kwonlyargs := [], kw_defaults := [], kwarg := none, defaults := [] }
abbrev bodyI (msg : Str) (j : Nat) (p0 p1 p2 p3 p4 p5 q0 q1 q2 q3 : Pos) : List Stmt :=
  [.Expr (.Call (.Attribute (.Call (.Name "super" p0) [] [] p1) "__init__" p2) [.Constant (.str msg) j p3] [] p4) p5, .Assign [.Attribute (.Name "self" q0) "value" q1] (.Name "value" q2) q3]
/-- what is known of the class C of the error, D the class that has the __init__ -/
structure MkC (K : PySem.W.Frag) (D C : Addr) : Prop where
  o : OexC K C
  va : PySem.W.findIn K (.ref C) "value" = some none
  sub : PySem.W.mroIn K C (.ref D) = some true
  ve : PySem.W.subIn K (.ref C) (.type "ValueError") = some true
  su : PySem.W.ks_superIn K C D "__init__" = some (some (.builtin "ValueError.__init__"))
/-- what is known of the def -/
structure IniK (P : Program) (K : PySem.W.Frag) (D fI : Addr) (fd : FuncData) : Prop where
  ex : ∃ (oc : Value) (od : Option Addr) (osl : Array (Option Value)) (name qual msg : Str) (j : Nat) (a1 a2 p0 p1 p2 p3 p4 p5 q0 q1 q2 q3 : Pos) (dV kV doc pm ct : Value) (an : Option Addr) (cda cc : Addr) (ccl cl : Value) (cdd cld : Option Addr) (ccs csl : Array (Option Value)) (vs : Array Value) (file : Str) (tf : Tok) (cdD : ClassData),
    fd = PySem.W.ksFn name qual (parI a1 a2) (bodyI msg j p0 p1 p2 p3 p4 p5 q0 q1 q2 q3) scI dV kV doc pm an (.ref cda) ct cc ∧ K.lookup fI = some ⟨oc, od, .func fd, osl⟩ ∧ PySem.W.codeIn K (.ref cda) qual = true ∧
    K.lookup cda = some ⟨ccl, cdd, .fields vs, ccs⟩ ∧ vs[2]? = some (.str file tf) ∧ ((P.main.file : Str) == file) = true ∧ (p2.endLine == p4.line) = true ∧ K.lookup cc = some ⟨cl, cld, .cell (some (.ref D)), csl⟩ ∧ PySem.W.clsIn K D = some cdD
  sup : PySem.W.nsIn K mainGlobals "super" = some none
  any : PySem.W.nsIn K PySem.cStatics "thirdparty.any" = some none
  top : (P.main.scope.names.lookup ("super" : Str)).isSome = false
/-- what the __init__ promises -/
def spI (K : PySem.W.Frag) (D : Addr) : Sp := fun vs H Q _ => ∃ (a C : Addr) (v : V), vs = [.ref a, v] ∧ MkC K D C ∧ H a = some (exo a C none) ∧ ∀ dx, H dx = none → dx ≠ a → Q .non (upd (upd H dx (exd dx [("value", v)])) a (exo a C (some dx)))
abbrev cxI (P : Program) (w : World) (K : PySem.W.Frag) (mg : Str → Option Value) (base : Heap) (f : Addr) (A : Around) (outer : List PySem.Env) (s : Shared) (H : Hp) (E : XK) : Cx :=
  cxOf (L2.CX P w) P w K mg base ["self", "value"] "" { kind := .function, names := [("self", .local), ("value", .local)], isGenerator := false, isCoroutine := false, more := [] } f .none A outer s H E
open PyProof.Rows in
theorem inv_ini {P : Program} {w : World} {K : PySem.W.Frag} {mg : Str → Option Value} {base : Heap} {f : Addr} {A : Around} {outer : List PySem.Env} {s : Shared} {H : Hp} {E : XK} {h1 : Heap} {tk : Nat} {u1 u2 : Value} {v1 v2 : V}
    (hd : A.handled = none) (e0 : Env0 P w K mg base A outer s H) (r1 : RelV v1 u1) (r2 : RelV v2 u2) (hns : h1.Ns s.heap.objs.size (fun x => [(("self" : Str), u1), (("value" : Str), u2)].reverse.lookup x)) (hk : ∀ b o, s.heap.get? b = some o → h1.get? b = some o) :
    Inv (cxI P w K mg base f A outer s H E) [] [some v1, some v2] H { s with heap := h1, toks := tk } := by
  have noA : ∀ b : Addr, b ∉ (cxI P w K mg base f A outer s H E).ex := fun b z => absurd (show b ∈ ([] : List Addr) from z) (by simp)
  have noc : ∀ x c, (cxI P w K mg base f A outer s H E).env.cells.lookup x = some c → False := fun x c z => by
    have : (cxI P w K mg base f A outer s H E).env.cells = [] := rfl
    rw [this] at z
    cases z
  refine ⟨⟨e0.mod, rfl, rfl, rfl, Nat.le_refl _, fun y z c h1 h2 => (noc _ _ h1).elim, fun y hy => ?_, fun y c _ h => (noc _ _ h).elim, fun _ => hd, Around.frames_deeper e0.frames, .inr ⟨rfl, rfl⟩, fun b z => absurd z (noA b), e0.bs, e0.bsz, fun b _ _ => noA b, fun b z => absurd z (noA b), e0.funs, e0.frf⟩,
    rfl, e0.bare, Un.kept hk, ⟨_, hns, fun i y v h1 h2 h3 => ?_⟩, fun y c h => (noc _ _ h).elim, e0.hok.fresh (Nat.le_refl _), fun y c h => (noc _ _ h).elim, fun p hp => absurd (show p ∈ ([] : List (Addr × Obj)) from hp) (by simp), e0.hok.kept hk, rfl⟩
  · exfalso
    have hy : ([(("self" : Str), NameKind.local), ("value", .local)].lookup y = some .cell) ∨ ([(("self" : Str), NameKind.local), ("value", .local)].lookup y = some .free) := hy
    simp only [List.lookup] at hy
    rcases hy with hy | hy <;> (split at hy <;> first | cases hy | (split at hy <;> cases hy))
  · match i with
    | 0 =>
      have e1 : ("self" : Str) = y := Option.some.inj h1
      have e2 : some v1 = some v := Option.some.inj h2
      cases e2
      subst e1
      exact ⟨u1, r1, .inl ⟨rfl, rfl⟩⟩
    | 1 =>
      have e1 : ("value" : Str) = y := Option.some.inj h1
      have e2 : some v2 = some v := Option.some.inj h2
      cases e2
      subst e1
      exact ⟨u2, r2, .inl ⟨rfl, rfl⟩⟩
    | n + 2 => cases h1

section
open PySem.W PySem.Calls
/-- super().__init__(..) called: the args are laid anew -/
theorem call_mw {X : Cx} {pins : List (Addr × Obj)} {σ : L2.St} {H : Hp} {s : Shared} {A : Around} {E : Value → Shared → Prop} {a C u : Addr} {us : List Value} {Q : Value → Shared → Prop} (T : OexC X.K C) (I : Inv X pins σ H s) (e : H a = some (exo a C none))
    (hu : s.heap.get? u = some (kxs_mw "ValueError.__init__" a)) (hl : us.length ≤ sizeLine) (h : ∀ s', Inv X pins σ H s' → Q .none s') : wpAny (model X.prog X.w) A (call (.ref u) us) Q E s := by
  obtain ⟨nm, q, N, bs, bm, sn, sub, ab, col, dd, k0, k1, k2, k3, k5, hC, hbm⟩ := T.cls
  obtain ⟨t1, ho⟩ := exo_at I.hok e
  obtain ⟨hp, g, d, t, os⟩ := s
  have hCh := I.kIn _ _ hC
  refine wpAny_call (codeAny_of_tree ?_)
  show wpAny _ A.in1 (callAny (.ref u) ⟨us, []⟩) _ _ _
  simp only [callAny]
  refine wpAny_bind (wpAny_load hu ?_)
  simp only [kxs_mw, show (Value.type "method-wrapper" == Value.type "method" || Value.type "method-wrapper" == Value.type "builtin_function_or_method" || Value.type "method-wrapper" == Value.type "method-wrapper") = true by decide, if_true]
  refine KFB.if_so (by decide) ?_
  refine wpAny_bind (check_bound_init F.excBase_ValueError.toExcCallFacts hCh ho rfl ?_)
  refine wpAny_bind (wpAny_pure (wpAny_pure ?_))
  refine ⟨plainId_quiet F.excBase_ValueError.init.plain _, codeAny_builtin F.excBase_ValueError.initEntry ?_⟩
  refine exc_init_tree (cls := .ref C) (t0 := t1) (dv := none) (c2 := .none) (c3 := .none) (b4 := .bool false) ho hl fun h' k hx _ => ?_
  have J := I.write (t' := t) (x := a) (e := a) (o := exo a C none) (by rw [e]; exact True.intro) (.inl rfl) k ⟨_, hx⟩ (exo_ok hx)
  have eu : upd H a (exo a C none) = H := by
    funext b
    by_cases hb : b = a
    · rw [hb, upd_same, e]
    · rw [upd_ne hb]
  rw [eu] at J
  exact h _ J
theorem ini_ok {P : Program} {w : World} {K : PySem.W.Frag} {mg : Str → Option Value} {base : Heap} {D fI : Addr} {fd : FuncData} (F : IniK P K D fI fd) : FnOk P w K mg base (L2.CX P w) 1 fI fd ["self", "value"] (spI K D) := by
  refine ⟨fun vs H Q E ⟨a, C, v, e, _⟩ => by rw [e]; rfl, fun A out s H args us vs Q E hrm env0 hbt rl ⟨a, C, v, ev, mk, ha, q⟩ => ?_⟩
  subst ev
  obtain ⟨oc, od, osl, name, qual, msg, j, a1, a2, p0, p1, p2, p3, p4, p5, q0, q1, q2, q3, dV, kV, doc, pm, ct, an, cda, cc, ccl, cl, cdd, cld, ccs, csl, vs, file, tf, cdD, rfl, lk, hcd, lkd, hvs, hfile, hline, lkc, hD⟩ := F.ex
  have kin : K.In s.heap := env0.mod.kin.keeps fun b o e => (env0.bs b o e).1
  have nlim : s.heap.NoLimit := env0.mod.nolimit.keeps fun b o e => (env0.bs b o e).1
  obtain ⟨u1, u, rfl, r1, ru⟩ := vals2 rl
  obtain rfl : u1 = Value.ref a := r1
  refine PySem.ks_codeAny_call_defAt (binds := [(("self" : Str), Value.ref a), (("value" : Str), u)]) hrm.depth (kin _ _ lk) rfl nlim (PySem.W.codeRec_of kin hcd) rfl hbt (fun x hx => by simp at hx; rcases hx with rfl | rfl | rfl | rfl <;> simp) (fun y hy => ?_) (fun h₁ hns hk => ?_)
  · simp at hy
    rcases hy with rfl | rfl <;> rfl
  have I0 := inv_ini (w := w) (f := fI) (E := E) (tk := s.toks + 2) hrm.hd env0 (v1 := .ref a) rfl ru hns hk
  obtain ⟨t1, ho⟩ := exo_at I0.hok ha
  obtain ⟨oD, hD1, hD2⟩ : ∃ oD, h₁.get? D = some oD ∧ oD.data = .cls cdD := by
    unfold clsIn at hD
    split at hD
    · rename_i c d cd' sl hq
      cases hD
      exact ⟨_, I0.kIn _ _ hq, rfl⟩
    · cases hD
  obtain ⟨mb, hb1, hb2⟩ := I0.mod.blt
  show _root_.PySem.wpAt (model P w) (A.deeper (ksEnv qual scI s.heap.objs.size fI (.ref cda) cc)) (.func (bodyI msg j p0 p1 p2 p3 p4 p5 q0 q1 q2 q3) (ksEnv qual scI s.heap.objs.size fI (.ref cda) cc)) (execs (bodyI msg j p0 p1 p2 p3 p4 p5 q0 q1 q2 q3) (ksEnv qual scI s.heap.objs.size fI (.ref cda) cc)) _ _ _
  have eC : eval (.Call (.Attribute (.Call (.Name "super" p0) [] [] p1) "__init__" p2) [.Constant (.str msg) j p3] [] p4) (ksEnv qual scI s.heap.objs.size fI (.ref cda) cc) = _ := arm_eval_Call ..
  refine PySem.ks_wpAt_execs_cons (PySem.ks_wpAt_Expr_any ?_)
  rw [eC]
  refine wpAt_bind (PySem.ks_wpAt_super_base rfl rfl rfl rfl (I0.kIn _ _ lk) rfl rfl rfl (I0.kIn _ _ lkd) rfl hvs hfile F.top ?_)
  refine ks_loadName_global rfl rfl (loadGlobal_builtin (I0.mod.glob.keeps I0.bk) (mg_none_of I0.mod.kin I0.mod.glob F.sup) (hb1.keeps I0.bk) ((hb2 _ (by decide)).trans (show bootBuiltins "super" = some (.type "super") by first | boot_by_name | rfl | kernel_rfl)) ⟨rfl, ?_⟩)
  refine wpAny_loadName_free rfl rfl rfl ⟨_, I0.kIn _ _ lkc, rfl⟩ ?_
  refine wpAny_loadName_local rfl rfl hns rfl ?_
  refine ks_wpAny_isType_cls hD1 hD2 ⟨rfl, ?_⟩
  refine ks_wpAny_call_super hD1 hD2 ho rfl (fun c e => by cases e) (looks_mroIn I0.kIn mk.sub) (fun h' e k => ?_)
  have I1 := I0.kept (t' := s.toks + 2) k
  refine wpAt_bind (wpAt_of_wpAny (wpAny_standAt ?_))
  refine wpAt_of_wpAny ?_
  obtain ⟨nm, qq, N, bs, bm, sn, sub, ab, col, dd, k0, k1, k2, k3, k5, hC, hbm⟩ := mk.o.cls
  have hcl : clsIn K C = some { name := nm, bases := bs, mro := .ref C :: bm, ns := N, qualname := qq, hasDict := true, slotNames := sn, subclasses := sub, abstract := ab, collection := col, hasDel := false } := by unfold clsIn; rw [show K.lookup C = _ from hC] <;> rfl
  have hal : alongIn K "__init__" (((Value.ref C :: bm).dropWhile (· != .ref D)).drop 1) = some (some (.builtin "ValueError.__init__")) := by
    have := mk.su
    unfold ks_superIn at this
    rw [hcl] at this
    exact this
  have oI : InstAt h' a _ C none := ⟨k _ _ ho, rfl, rfl, trivial⟩
  unfold methodCall
  rw [show methodCallForm ([Expr.Constant (Const.str msg) j p3].length + ([] : List Keyword).length) (backTo p4 (starEach [Expr.Constant (Const.str msg) j p3] (ksEnv qual scI s.heap.objs.size fI (Value.ref cda) cc))) (backToKw p4 (keywordEach [] (ksEnv qual scI s.heap.objs.size fI (Value.ref cda) cc))) = true from rfl]
  unfold calleeOf
  rw [if_pos rfl]
  refine wpAny_bind (wpAny_holding (kxs_getMethod kxs_ValueError (l₀ := Value.ref C :: bm) e (looks_opaque I1.kIn F.any) (fun A Q E s k q => wpAny_bind ((looks_clsIn I1.kIn hcl) A _ E s k (wpAny_pure q))) rfl I1.kIn hal (oI.type.andThen (looks_subIn I1.kIn mk.ve)) (ks_ne I1.kIn oI hcl) rfl ?_))
  have hpos : methodCallPos true (.Call (.Name "super" p0) [] [] p1) (ksEnv qual scI s.heap.objs.size fI (Value.ref cda) cc) p2 p4 = pure p4 := by unfold methodCallPos; simp [hline]
  refine wpAny_bind (wpAny_of_eq hpos ?_)
  have I2 := I1.kept (t' := s.toks + 3) (h' := h'.push (kxs_mw "ValueError.__init__" a)) fun b o e => Heap.get?_push_of_some _ e
  have hu : (h'.push (kxs_mw "ValueError.__init__" a)).get? h'.objs.size = some (kxs_mw "ValueError.__init__" a) := Heap.get?_push_at rfl rfl
  refine kxs_callWith (i := "ValueError.__init__") (x := a) rfl (evalArgs_plain ?_)
  refine spliced_cons (wpAny_Constant_str (k := j) (pos := p3) (env := ksEnv qual scI s.heap.objs.size fI (.ref cda) cc) (spliced_nil ⟨hu, ?_⟩))
  refine call_mw (X := cxI P w K mg base fI A out s H E) mk.o (I2.tok _) ha hu (by show 1 ≤ sizeLine; rw [sizeLine_eq]; omega) fun s3 I3 => ?_
  show _root_.PySem.wpAt _ _ _ _ _ _ _
  obtain ⟨m3, hn3, hl3⟩ := I3.loc
  obtain ⟨w1, r1, lo1⟩ := hl3 0 "self" (.ref a) rfl rfl (.inl rfl)
  obtain rfl : w1 = Value.ref a := r1
  obtain ⟨w2, r2, lo2⟩ := hl3 1 "value" v rfl rfl (.inl rfl)
  have g1 : m3 "self" = some (.ref a) := by
    rcases lo1 with ⟨_, e⟩ | ⟨z | z, _⟩
    · exact e
    · cases z
    · cases z
  have g2 : m3 "value" = some w2 := by
    rcases lo2 with ⟨_, e⟩ | ⟨z | z, _⟩
    · exact e
    · cases z
    · cases z
  refine PySem.ks_wpAt_execs_cons (PySem.ks_wpAt_Assign_Attr (wpAt_of_wpAny (wpAny_Name (wpAny_loadName_local rfl rfl hn3 g2 (wpAny_Name (wpAny_loadName_local rfl rfl hn3 g1 ?_) (by decide))) (by decide))))
  refine ost_new (X := cxI P w K mg base fI A out s H E) mk.o I3 ha mk.va r2 fun dx s4 n ne J => ?_
  show _root_.PySem.wpAt _ _ _ _ _ _ _
  refine wpAt_of_wpAny (wpAny_execs_nil ?_)
  exact ⟨.non, _, J.os, J.bare, J.base, J.hok, rfl, q dx n ne⟩
end
end Own

/-! part OwnT -/
namespace Own
open PySem PySem.Spec L2
/-! ### try: .. except C as n: m = n -/
section
variable {X : Cx} {pins : List (Addr × Obj)} {σ : L2.St} {H : Hp} {s : Shared}
/-- an object that stands in the heap is taken up by the abstract heap -/
theorem inv_track {a : Addr} {o : HO} (I : Inv X pins σ H s) (hn : H a = none) (h0 : X.s_0.heap.get? a = none) (hL : a ≠ X.env.locals) (hc : ∀ x c, X.env.cells.lookup x = some c → c ≠ a) (hp : ∀ p ∈ X.pn ++ pins, p.1 ≠ a)
    (new : ObjOk X.prog X.w (upd H a o) s.heap a o) : Inv X pins σ (upd H a o) s := by
  have up : ∀ {b : Addr} {u : HO}, H b = some u → upd H a o b = some u := fun {b u} e => by rw [upd_ne (ne_of_none e hn)]; exact e
  have un : ∀ {b : Addr}, b ≠ a → H b = none → upd H a o b = none := fun {b} h e => by rw [upd_ne h]; exact e
  exact {
    ok := I.ok
    os := I.os
    bare := I.bare
    base := {
      keep := I.base.keep
      slot := I.base.slot
      free := fun b u e n x => un (fun z => by rw [z, h0] at e; cases e) (I.base.free b u e n x)
      there := I.base.there
      tups := fun b xs e => up (I.base.tups b xs e)
      frzs := fun b u v e => up (I.base.frzs b u v e)
      tbls := fun b ps e => by
        obtain ⟨m, q⟩ := I.base.tbls b ps e
        exact ⟨m, up q⟩ }
    loc := I.loc
    cell := I.cell
    free := un (Ne.symm hL) I.free
    freeC := fun x c e => un (hc x c e) (I.freeC x c e)
    pin := fun p hq => by
      obtain ⟨e1, e2, e3⟩ := I.pin p hq
      exact ⟨e1, un (hp p hq) e2, e3⟩
    hok := fun b u e => by
      by_cases hb : b = a
      · subst hb
        rw [upd_same] at e
        cases e
        exact new
      · rw [upd_ne hb] at e
        exact (I.hok b u e).stay (fun _ _ _ q => q) (fun _ q => up q) fun _ _ q => up q
    len := I.len }
theorem exv_ok {P : Program} {w : World} {H : Hp} {h : Heap} {a C d : Addr} {oe : Obj} {vs : Array Value} (e : h.get? a = some oe) (h1 : oe.cls = .ref C) (h2 : oe.dict = some d) (h3 : oe.data = .fields vs) : ObjOk P w H h a (exv a C d) :=
  ⟨⟨oe, vs, e, h1, h2, h3⟩, ⟨oe, e⟩, fun _ _ ⟨o, v, q, r⟩ k => ⟨o, v, k o q, r⟩⟩
end
/-- what the clause wishes: n in slot i is gone behind it, m in slot j holds the exception -/
def wKeep (K : PySem.W.Frag) (c : Value) (i j : Nat) (Wout : WX) (D : Ends) : WX := fun cls d σ H => ∃ b, PySem.W.exmOne K cls c = some b ∧
  (b = true → ∃ C dd, cls = .ref C ∧ d = some dd ∧ ∀ a, H a = none → D.nx (((σ.set i (some (.ref a))).set j (some (.ref a))).set i none) (upd H a (exv a C dd))) ∧ (b = false → Wout cls d σ H)
section
variable {X : Cx} {x n m : Str} {c : Value} {i j : Nat} {body : List Stmt} {np mp np2 ap pos pos' : Pos} {tb : WX → TS} {Wout : WX}
theorem ps_try_keep (hs : X.stack = X.env :: X.outer) (hf : X.env.frame = some X.env.locals) (hex : X.ex = []) (hN : X.N.Nodup) (hi : X.N[i]? = some n) (hln : X.env.kindOf n = some .local) (hj : X.N[j]? = some m) (hlm : X.env.kindOf m = some .local) (hij : i ≠ j)
    (hdn : (n == ("__debug__" : Str)) = false) (hdn2 : (n == ("__classdict__" : Str)) = false) (hsw : ∀ Y : Cx, Y.env = X.env → swapsWith (.Name n np2) (some (.Name m mp)) ap.line Y.env = pure false) (hc : Names X x c) (tk : Takes X Wout)
    (hb : ∀ (W : WX) (pn : List (Addr × Obj)) (xe : Value → Shared → Prop), Takes (X.tr pn xe) W → PassesOwn (model X.prog X.w) X.A X.env xe → PSs (X.tr pn xe) body (tb W)) :
    PS X (.Try body [.ExceptHandler (some (.Name x np)) (some n) [.Assign [.Name m mp] (.Name n np2) ap] pos'] [] [] pos) (fun D σ H => tb (wKeep X.K c i j Wout D) D σ H) := by
  refine ⟨fun pins s σ H D I h => ?_⟩
  have ok := I.ok
  have hfr : X.A.frames = some (X.env :: X.outer) := by rw [ok.frames, hs]
  have hloc : Loc X.env.scope n := .inl hln
  have hlocm : Loc X.env.scope m := .inl hlm
  refine wpAny_Try_except ?_
  refine wpAny_mono ((hb (wKeep X.K c i j Wout D) (X.pn ++ pins) (fun e s₁ => wpAny (model X.prog X.w) X.A (noteFrame e X.env) (fun _ s₂ => wpAny (model X.prog X.w) X.A (setFlight e none) (fun _ s₃ =>
    wpAny (model X.prog X.w) X.A (handleBy e X.env [.ExceptHandler (some (.Name x np)) (some n) [.Assign [.Name m mp] (.Name n np2) ap] pos']) (SP X pins D) X.xe s₃) X.xe s₂) X.xe s₁) (fun u s' xx => ?_) PassesOwn.looking).run [] s σ H D (I.toTry _) h) (fun f s1 hsp => ?_) (fun e s1 he => he)
  · obtain ⟨a, B, sI, pins', σ', H', cls, d, rfl, J', nb, up, sky, na, os, ag, b, hb1, hyes, hno⟩ := xx
    have J : Inv X pins σ' H' sI := J'.ofTry ok
    have sky' : Sky B (X.env :: X.outer) a (Zc cls d) X.env.locals s'.heap := by rw [← hs]; exact sky
    show wpAny (model X.prog X.w) X.A (noteFrame (.ref a) X.env) _ _ _
    refine Sky.land Zc.steady hfr hf sky' fun h3 fl3 up3 => ?_
    have J3 : Inv X pins σ' H' { s' with heap := h3 } := J.landed nb fl3.1 (up.trans up3) os ag
    obtain ⟨oe3, vs3, he3, hz3, hd3⟩ := fl3.there
    have nfr : a ∉ frs (X.env :: X.outer) := fun hm => by
      obtain ⟨_, o', e', hnf⟩ := fl3.2.2.1.mem hm
      rw [he3] at e'
      cases e'
      exact hnf _ hd3
    have nL : a ≠ X.env.locals := fun z => nfr (List.mem_filterMap.mpr ⟨X.env, List.mem_cons_self, by rw [hf, z]⟩)
    have nF : a ∉ X.fs := fun hm => by
      obtain ⟨e, he, q⟩ := List.mem_filterMap.mp hm
      exact nfr (List.mem_filterMap.mpr ⟨e, List.mem_cons_of_mem _ he, q⟩)
    -- the exception's object is not in the state without it
    have sIa : sI.heap.get? a = none := by
      cases q : sI.heap.get? a with
      | none => rfl
      | some o =>
        have := nb a o q (by rw [hs]; exact nfr)
        rw [fl3.2.1] at this
        cases this
    have s0a : X.s_0.heap.get? a = none := by
      cases q : X.s_0.heap.get? a with
      | none => rfl
      | some o =>
        obtain ⟨o', e'⟩ := J.base.there a o q (by rw [hex]; simp)
        rw [sIa] at e'
        cases e'
    have pna : ∀ p ∈ X.pn ++ pins, p.1 ≠ a := fun p hp z => by
      have := (J.pin p hp).1
      rw [z, sIa] at this
      cases this
    have S3 := J3.suite he3 hd3 na nL nF
    refine wpAny_handleBy_cons (codeAny_handlers_test ?_) (by intro q; cases q)
    have LT : PySem.W.Looks (model X.prog X.w) h3 (typeOf (.ref a)) cls := fun A Q E s k q => wpAny_typeOf_ref (k _ _ he3) (by rw [hz3.1]; exact q)
    have LM := PySem.W.exm_one (M := model X.prog X.w) (J3.kIn) LT hb1
    have test : ∀ {Q : Value → Shared → Prop} {E : Value → Shared → Prop}, Q c { s' with heap := h3 } → wpAny (model X.prog X.w) (X.A.mark (some (.ref a))) (eval (.Name x np) X.env) Q E { s' with heap := h3 } := fun {Q E} q => by
      obtain ⟨hg, hdbg, hm | ⟨hm, hv, hnn⟩⟩ := hc
      · exact ld_glob (X := X.suite a ((a, oe3) :: (X.pn ++ pins))) S3 hg hm q hdbg
      · exact ld_blt (X := X.suite a ((a, oe3) :: (X.pn ++ pins))) S3 hg hm hv q hnn hdbg
    refine test (LM.here ?_)
    cases b with
    | true =>
      obtain ⟨C, dd, rfl, rfl, hnx⟩ := hyes rfl
      refine codeAny_handlers_suite_as ?_
      refine HandSPX.lands_againZ fl3 fun h4 fl4 up4 => ?_
      have J4 : Inv X pins σ' H' { s' with heap := h4 } := J.landed nb fl4.1 ((up.trans up3).trans up4) os ag
      obtain ⟨oe4, vs4, he4, hz4, hd4⟩ := fl4.there
      have S4 := J4.suite he4 hd4 na nL nF
      have lσ : i < σ'.length := by rw [J.len]; exact (List.getElem?_eq_some_iff.mp hi).1
      refine store_ok (X := X.suite a ((a, oe4) :: (X.pn ++ pins))) (v := .ref a) S4 hN hi hloc rfl (fun s5 S5 => ?_) (.inr hln)
      -- m = n
      have st : PS (X.suite a ((a, oe4) :: (X.pn ++ pins))) (.Assign [.Name m mp] (.Name n np2) ap) (tAsg (tVar i) (gName j)) :=
        ps_set hN hj hlocm (pe_var hi (.inl hln) hdn hdn2) (hsw _ rfl) (.inr hlm)
      have sts := pss_cons st (pss_nil (X := X.suite a ((a, oe4) :: (X.pn ++ pins))))
      let D2 : Ends := { nx := fun σ6 H6 => σ6 = (σ'.set i (some (.ref a))).set j (some (.ref a)) ∧ H6 = H' , rt := fun _ _ => False, bk := fun _ _ => False, ct := fun _ _ => False }
      refine wpAny_mono (sts.run [] s5 _ H' D2 S5 ⟨.ref a, by simp [lσ], rfl, rfl⟩) (fun f s6 hsp => ?_) (fun _ _ z => False.elim z)
      cases f with
      | brk => obtain ⟨_, _, _, q⟩ := hsp; exact q.elim
      | cont => obtain ⟨_, _, _, q⟩ := hsp; exact q.elim
      | ret u => obtain ⟨_, _, _, _, _, q⟩ := hsp; exact q.elim
      | next =>
        obtain ⟨σ6, H6, S6, e6, e7⟩ := hsp
        subst e6
        subst e7
        obtain ⟨p1, p2, _⟩ := S6.pin (a, oe4) (List.mem_append_left _ List.mem_cons_self)
        have I6 := S6.unsuite ok
        have I7 := inv_track (o := exv a C dd) I6 p2 s0a nL (fun y cc e z => by
          obtain ⟨v, ho⟩ := I6.cell y cc e
          obtain ⟨o, h1, h2⟩ := ho
          rw [z] at h1
          rw [show s6.heap.get? a = some oe4 from p1] at h1
          cases h1
          rw [hd4] at h2
          cases h2) pna (exv_ok p1 hz4.1 hz4.2 hd4)
        exact gone_ok I7 hN hi hln fun s7 J7 => ⟨_, _, J7, hnx a p2⟩
    | false =>
      show wpAny _ X.A (handleBy (.ref a) X.env []) _ _ _
      refine wpAny_handleBy_nil ?_
      obtain ⟨k1, k2, k3, oe, vs, T, oT, ts', he, hz, hd, h1, hr⟩ := id fl3
      unfold PySem.passOn
      refine wpAny_bind (wpAny_field he hd h1 ?_)
      rw [if_neg (show ¬ ((Value.ref T == Value.none) = true) from by simp)]
      have fin : wpAny (model X.prog X.w) X.A (setFlight (.ref a) X.env.frame) (fun _ s4 => wpAny (model X.prog X.w) X.A (throw (.ref a) : Sem Flow) (SP X pins D) X.xe s4) X.xe { s' with heap := h3 } := by
        rw [hf]
        refine HandSPX.setFlight_upZ fl3 fun h4 hh4 up4 => wpAny_throw (tk _ _ ?_)
        exact ⟨a, B, sI, pins, σ', H', cls, d, rfl, J, nb, (up.trans up3).trans up4, .inr (.inr (by rw [hs]; exact hh4)), na, os, ag, hno rfl⟩
      first
        | exact wpAny_bind (wpAny_pure (wpAny_bind fin))
        | exact wpAny_bind fin
  · cases f with
    | next =>
      obtain ⟨σ', H', J', q⟩ := hsp
      exact wpAny_execs_nil ⟨σ', H', J'.ofTry ok, q⟩
    | brk =>
      obtain ⟨σ', H', J', q⟩ := hsp
      exact ⟨σ', H', J'.ofTry ok, q⟩
    | cont =>
      obtain ⟨σ', H', J', q⟩ := hsp
      exact ⟨σ', H', J'.ofTry ok, q⟩
    | ret u =>
      obtain ⟨v, σ', H', J', r, q⟩ := hsp
      exact ⟨v, σ', H', J'.ofTry ok, r, q⟩
end
end Own

/-! part Own6 -/
namespace Own
open PySem PySem.Spec L2

/-! ### a def's contract, where no repr is under way -/
structure FnG (P : Program) (w : World) (K : PySem.W.Frag) (mg : Str → Option Value) (base : Heap) (k : Nat) (f : Addr) (fd : FuncData) (ps : List Str) (sp : Sp) : Prop where
  len : ∀ vs H Q E, sp vs H Q E → vs.length = ps.length
  run : ∀ (A : Around) (outer : List PySem.Env) (s : Shared) (H : Hp) (args : Args) (us : List Value) (vs : List V) (Q : VK) (E : XK), A.guards = some [] → Room k A →
    Env0 P w K mg base A outer s H → BindsTo s fd args (ps.zip us) → Vals vs us → sp vs H Q E → codeAny (model P w) A (.call (.ref f) args) (CR (L2.CX P w) outer P w H s Q E) s
theorem call_g {X : Cx} {W : WX} {k : Nat} {f : Addr} {fd : FuncData} {ps : List Str} {sp : Sp} {pins : List (Addr × Obj)} {σ : St} {H : Hp} {s : Shared} {Q : VK} {args : Args} {us : List Value} {vs : List V}
    (F : FnG X.prog X.w X.K X.mg X.base k f fd ps sp) (hg : X.A.guards = some []) (hr : Room k X.A) (tk : Takes X W) (I : Inv X pins σ H s) (hb : BindsTo s fd args (ps.zip us)) (r : Vals vs us) (h : sp vs H Q (fun c d H' => W c d σ H')) :
    wpAny (model X.prog X.w) X.A (call (.ref f) args.pos args.kw) (EP X pins σ Q) X.xe s := by
  refine wpAny_call (codeAny_mono (F.run X.A X.stack s H args us vs Q _ hg hr I.env0 hb r h) fun q s' hq => ?_)
  match q, hq with
  | .error e, hq => exact passAt tk σ pins H s e s' I hq
  | .ok (.ret u), hq => exact I.after hq

/-! ### what a def promises, by the run -/
inductive Ar (K : PySem.W.Frag) (R : Bool → Addr → Prop) (H : Hp) : List Bool → List V → List D → List Addr → Prop
  | nil : Ar K R H [] [] [] []
  | v {bs : List Bool} {v : V} {vs : List V} {d : D} {ds : List D} {L : List Addr} : Dr K R H v d → Ar K R H bs vs ds L → Ar K R H (false :: bs) (v :: vs) (d :: ds) L
  | l {bs : List Bool} {a : Addr} {vs : List V} {d : D} {ds : List D} {L : List Addr} : Top K R H a d → Ar K R H bs vs ds L → Ar K R H (true :: bs) (.ref a :: vs) (d :: ds) (a :: L)
inductive Lr (K : PySem.W.Frag) (R : Bool → Addr → Prop) (H : Hp) : List Addr → List D → Prop
  | nil : Lr K R H [] []
  | cons {a : Addr} {d : D} {L : List Addr} {ds : List D} : Top K R H a d → Lr K R H L ds → Lr K R H (a :: L) (d :: ds)
structure RegC (out nam : Addr → Prop) (L : List Addr) (nm : Bool) (a : Addr) : Prop where
  out : ¬ out a
  lent : a ∉ L
  nam : nm = true ↔ nam a
def CRes (K : PySem.W.Frag) (out nam : Addr → Prop) (L : List Addr) (H H' : Hp) (x : VR) (es : List D) (v : V) : Prop :=
  (∀ a o, H a = some o → a ∉ L → H' a = some o) ∧ match x with
  | .v d => Dr K (RegC out nam L) H' v d ∧ Lr K (RegC out nam L) H' L es
  | .f d => ∃ a, v = .ref a ∧ H a = none ∧ Top K (RegC out nam (a :: L)) H' a d ∧ Lr K (RegC out nam (a :: L)) H' L es
  | .l _ => False
def spOf (K : PySem.W.Frag) (cls : Str → Addr → Prop) (lend : List Bool) (run : List D → Cr) : Sp := fun vs H Q E => ∃ (out nam : Addr → Prop) (ds : List D) (L : List Addr),
  Ar K (RegC out nam L) H lend vs ds L ∧ L.Nodup ∧ (∀ a ∈ L, ¬ out a ∧ ¬ nam a) ∧ (∀ a, out a ∨ nam a → ∃ o, H a = some o) ∧ match run ds with
  | .ok x es => ∀ v H', CRes K out nam L H H' x es v → Q v H'
  | .exc c d es => ∀ cl dd H', (∀ a o, H a = some o → a ∉ L → H' a = some o) → Lr K (RegC out nam L) H' L es → (∃ a b v, cl = .ref a ∧ cls c a ∧ dd = some b ∧ H' b = some (.xd [("value", v)]) ∧ Dr K (RegC out nam L) H' v d) → E cl dd H'
  | .no => False
theorem Ar.len {K : PySem.W.Frag} {R : Bool → Addr → Prop} {H : Hp} : ∀ {bs : List Bool} {vs : List V} {ds : List D} {L : List Addr}, Ar K R H bs vs ds L → vs.length = bs.length
  | _, _, _, _, .nil => rfl
  | _, _, _, _, .v _ t => by simp [Ar.len t]
  | _, _, _, _, .l _ t => by simp [Ar.len t]

/-! ### what is known of the text -/
structure Gi where
  fns : List (Str × List Str)
  glbs : List Str
  blts : List Str
  mods : List (Str × String)
  kws : List (Nat × Nat × List Str × List Nat)
  /-- the error classes -/
  excs : List Str
structure FnAt (X : Cx) (C : Cn) (F : Fns) (g : Gi) (f : Nat) (x : Str) (ps : List Str) : Prop where
  ex : ∃ (fa : Addr) (fd : FuncData) (k : Nat), X.mg x = some (.ref fa) ∧ PySem.W.keepIn X.K (.ref fa) = true ∧ FnG X.prog X.w X.K X.mg X.base k fa fd ps (spOf C.K C.cls (F.lend f) (F.run f)) ∧ Room k X.A ∧ Binds X.K fd ps [] ∧
    ∀ n ks inv, (f, n, ks, inv) ∈ g.kws → ∀ (s : Shared) (us ws : List Value), X.K.In s.heap → us.length = n → ws.length = ks.length → BindsTo s fd ⟨us, ks.zip ws⟩ (ps.zip (pick inv (us ++ ws)))
/-- what is known of the error classes -/
structure Excs (P : Program) (K : PySem.W.Frag) (mg : Str → Option Value) (sub : Str → Str → Option Bool) (excs : List Str) : Prop where
  mg : ∀ c ca, clsK K c ca → mg c = some (.ref ca)
  sub : ∀ c c' ca cb b, sub c c' = some b → clsK K c ca → clsK K c' cb → PySem.W.exmOne K (.ref ca) (.ref cb) = some b ∧ PySem.W.kitOne K (.ref ca) (.ref cb) = some b
  ini : excs ≠ [] → ∃ (D fI : Addr) (fd : FuncData), IniK P K D fI fd ∧ Binds K fd ["self", "value"] [] ∧ PySem.W.typeIn K (.ref fI) = some (.type "function") ∧ ∀ c ∈ excs, ∃ ca, clsK K c ca ∧ MkC K D ca ∧ PySem.W.findIn K (.ref ca) "__init__" = some (some (.ref fI))
structure Good (X : Cx) (C : Cn) (F : Fns) (W : WX) (g : Gi) : Prop where
  ex : Excs X.prog C.K X.mg F.sub g.excs
  cls : ∀ c a, C.cls c a ↔ clsK C.K c a
  room : 2 ≤ F.dep → Room 2 X.A
  K : X.K = C.K
  calm : X.calm = true
  nd : X.N.Nodup
  gd : X.A.guards = some []
  hu : X.A.units + 200 < cLine
  tk : Takes X W
  mine : ∀ i a, (i, a) ∈ C.lent → F.mine.contains i = true
  blt : ∀ x ∈ g.blts, X.mg x = none
  mods : ∀ x id, (x, id) ∈ g.mods → X.mg x = some (.builtin id)
  glb : ∀ k x, g.glbs[k]? = some x → ∃ u v, X.mg x = some u ∧ RelV v u ∧ ∀ R H, Dr C.K R H v (F.glb k)
  fns : ∀ f x ps, g.fns[f]? = some (x, ps) → (F.lend f).length = ps.length ∧ FnAt X C F g f x ps

/-! ### the look at the text -/
def visB (sc : Scope) (x : Str) : Bool := match sc.names.lookup x with
  | some .local => true | some .cell => true | some .free => true | _ => false
def locB (sc : Scope) (x : Str) : Bool := match sc.names.lookup x with
  | some .local => true | some .cell => true | _ => false
/-- a name that may be set (c: a cell too) -/
def storB (sc : Scope) (c : Bool) (x : Str) : Bool := match sc.names.lookup x with
  | some .local => true | some .cell => c | _ => false
def glB (sc : Scope) (x : Str) : Bool := match sc.names.lookup x with
  | some .globalImplicit => true | _ => false
def okName (x : Str) : Bool := !(x == ("__debug__" : Str)) && !(x == ("__classdict__" : Str)) && !(x == ("__name__" : Str))
theorem vis_of {sc : Scope} {x : Str} (h : visB sc x = true) : Vis sc x := by
  unfold visB at h
  unfold Vis
  split at h <;> first | (rename_i e; simp [e]; done) | cases h
theorem loc_of {sc : Scope} {x : Str} (h : locB sc x = true) : L2.Loc sc x := by
  unfold locB at h
  unfold L2.Loc
  split at h <;> first | (rename_i e; simp [e]; done) | cases h
theorem gl_of {X : Cx} {x : Str} (h : glB X.env.scope x = true) : Gl X x := by
  unfold glB at h
  unfold Gl PySem.Env.kindOf
  split at h <;> first | (rename_i e; exact e) | cases h
def Blt.name : Blt → Str
  | .len => "len" | .abs => "abs" | .min2 => "min" | .max2 => "max" | .min1 => "min" | .max1 => "max"
  | .sum => "sum" | .all => "all" | .any => "any" | .tuple => "tuple" | .list => "list" | .int => "int"
  | .repr => "repr" | .str => "str" | .gcd => "gcd" | .isqrt => "isqrt" | .sorted => "sorted" | .lrange => "list"
def Blt.isMod : Blt → Option String
  | .gcd => some "math.gcd" | .isqrt => some "math.isqrt" | _ => none
def notStar : Expr → Bool
  | .Starred .. => false
  | _ => true
def notSlice : Expr → Bool
  | .Slice .. => false
  | _ => true
def notSet : Expr → Bool
  | .Set .. => false
  | _ => true
def bopB : Bop → Operator → Bool
  | .add, .Add => true | .sub, .Sub => true | .mul, .Mult => true | .fdiv, .FloorDiv => true | .mod, .Mod => true | .pow, .Pow => true | .shl, .LShift => true
  | _, _ => false
def copB : Cop → CmpOp → Bool
  | .lt, .Lt => true | .le, .LtE => true | .gt, .Gt => true | .ge, .GtE => true | .eq, .Eq => true | .ne, .NotEq => true | .inn, .In => true | .nin, .NotIn => true
  | _, _ => false
def kwName : Keyword → Option Str
  | ⟨x, _, _⟩ => x
/-! the targets of a for or a comprehension; sc: where the names are written -/
mutual
def chkT (N : List Str) (sc : Scope) (c : Bool) : MT → Expr → Bool
  | .nm i, .Name x _ => N[i]? == some x && storB sc c x && okName x
  | .tp ts, .Tuple es _ _ => chkTs N sc c ts es
  | _, _ => false
def chkTs (N : List Str) (sc : Scope) (c : Bool) : List MT → List Expr → Bool
  | [], [] => true
  | t :: ts, e :: es => chkT N sc c t e && notStar e && chkTs N sc c ts es
  | _, _ => false
end
def isTup : Expr → Bool
  | .Tuple .. => true
  | _ => false
def ownOf (N : List Str) (is : List Nat) : List (Str × Nat) := is.filterMap fun i => (N[i]?).map fun x => (x, i)
def itT : ME → Expr → Bool
  | .enum _, t => isTup t
  | .zip _ _, t => isTup t
  | _, _ => true
/-- a name, or a name's item, or a call of a name: what a method is asked of -/
def nameB : Expr → Bool
  | .Name .. => true
  | .Call (.Name ..) (_ :: _) .. => true
  | _ => false
def isRevS : Expr → Bool
  | .Slice none none (some (.UnaryOp .USub (.Constant (.int n) _ _) _)) _ => n == 1
  | _ => false
def isBoolC (ng b : Bool) : List CmpOp → List Expr → Bool
  | [op], [.Constant (.bool c) _ _] => (match op with | .Is => !ng | .IsNot => ng | _ => false) && b == c
  | _, _ => false
/-- in name, not in name -/
def inName (ng : Bool) (ops : List CmpOp) (cs : List Expr) (N : List Str) (i : Nat) (sc : Scope) : Bool := match ops, cs with
  | [op], [.Name x _] => (match op with | .In => !ng | .NotIn => ng | _ => false) && N[i]? == some x && visB sc x && okName x
  | _, _ => false
/-- name.items() -/
def itemsOf (N : List Str) (i : Nat) (sc : Scope) : Expr → Bool
  | .Call (.Attribute (.Name x _) m p) [] [] q => decide (m = "items") && N[i]? == some x && visB sc x && okName x && (p.endLine == q.line)
  | _ => false
mutual
def chkE (g : Gi) (N : List Str) (sc : Scope) : ME → Expr → Bool
  | .var i, .Name x _ => N[i]? == some x && visB sc x && okName x
  | .int n, .Constant (.int m) _ _ => n == m
  | .bl b, .Constant (.bool c) _ _ => b == c
  | .non, .Constant .none _ _ => true
  | .str x, .Constant (.str y) _ _ => decide (x = y)
  | .glb k, .Name x _ => g.glbs[k]? == some x && glB sc x && okName x
  | .bin o a b, .BinOp x op y _ => bopB o op && chkE g N sc a x && chkE g N sc b y
  | .neg a, .UnaryOp .USub x _ => chkE g N sc a x
  | .notv a, .UnaryOp .Not x _ => chkE g N sc a x
  | .cmp o a b, .Compare x [op] [y] _ => copB o op && chkE g N sc a x && chkE g N sc b y && notSet y
  | .isN ng a, .Compare x [op] [.Constant .none _ _] _ => (match op with | .Is => !ng | .IsNot => ng | _ => false) && chkE g N sc a x
  | .chn o p a b c, .Compare x [op, op'] [y, z] _ => copB o op && copB p op' && chkE g N sc a x && chkE g N sc b y && chkE g N sc c z && notSet z
  | .andv es, .BoolOp .And xs _ => chkEs g N sc es xs
  | .orv es, .BoolOp .Or xs _ => chkEs g N sc es xs
  | .ife c a b, .IfExp x y z _ => chkE g N sc c x && chkE g N sc a y && chkE g N sc b z
  | .tup es, .Tuple xs _ _ => chkEs g N sc es xs
  | .lst es, .List xs _ => chkEs g N sc es xs
  | .ix a i, .Subscript x y _ => chkE g N sc a x && chkE g N sc i y && notSlice y
  | .sl a lo hi, .Subscript x (.Slice l h none _) _ => chkE g N sc a x && chkO g N sc lo l && chkO g N sc hi h
  | .call f es, .Call (.Name x _) xs [] _ => (match g.fns[f]?, xs with | some (y, ps), _ :: _ => decide (x = y) && decide (es.length = ps.length) | _, _ => false) && glB sc x && okName x && chkEs g N sc es xs
  | .callK f es kms inv, .Call (.Name x _) xs ks _ => (match g.fns[f]? with | some (y, ps) => decide (x = y) && decide (es.length + kms.length = ps.length) | _ => false) && glB sc x && okName x && chkEs g N sc es xs && chkKs g N sc kms ks && decide (inv.Perm (List.range (es.length + kms.length))) &&
      g.kws.contains (f, xs.length, ks.filterMap (·.arg), inv)
  | .blt b es, .Call (.Name x _) xs [] _ => decide (x = b.name) && glB sc x && okName x && chkEs g N sc es xs && !isEmptyL xs && (match b.isMod with | none => g.blts.contains x | some id => g.mods.contains (x, id))
  | .isi t a, .Call (.Name x _) [y, .Name z _] [] _ => decide (x = "isinstance") && decide (z = Str.ofString t.name) && glB sc x && glB sc z && okName x && okName z && chkE g N sc a y && notStar y && g.blts.contains x && g.blts.contains z
  | .lc elt tg it ifs, .ListComp e [⟨t, i, fs, n⟩] sc2 _ => decide (n = 0) && chkT N sc2 true tg t && blkC N sc sc2 (ownOf N (slotsT tg)) && notSet i && notStar i &&
      chkE g N sc it i && itT it t &&
      chkE g N (relS sc2 sc) elt e && chkEs g N (relS sc2 sc) ifs fs && decide (ifs.length ≤ 1)
  | .app i e, .Call (.Attribute (.Name x _) m p) [y] [] q => decide (m = "append") && N[i]? == some x && visB sc x && okName x && chkE g N sc e y && notStar y && (p.endLine == q.line)
  | .ext i e, .Call (.Attribute (.Name x _) m p) [y] [] q => decide (m = "extend") && N[i]? == some x && visB sc x && okName x && chkE g N sc e y && notStar y && (p.endLine == q.line)
  | .pop i, .Call (.Attribute (.Name x _) m p) [] [] q => decide (m = "pop") && N[i]? == some x && visB sc x && okName x && (p.endLine == q.line)
  | .rng es, .Call (.Name x _) xs [] _ => decide (x = "range") && glB sc x && g.blts.contains x && chkEs g N sc es xs && decide (es.length ≤ 2)
  | .enum a, .Call (.Name x _) [y] [] _ => decide (x = "enumerate") && glB sc x && g.blts.contains x && chkE g N sc a y && notStar y
  | .dky i, .Name x _ => N[i]? == some x && visB sc x && okName x
  | .zip a b, .Call (.Name x _) [y, z] [] _ => decide (x = "zip") && glB sc x && g.blts.contains x && chkE g N sc a y && chkE g N sc b z && notStar y && notStar z
  | .rev a, .Subscript x y _ => isRevS y && chkE g N sc a x
  | .isB ng b a, .Compare x ops cs _ => isBoolC ng b ops cs && chkE g N sc a x
  | .lc2 elt tg it ifs tg1 it1 ifs1, .ListComp e gs sc2 _ => (match gs with
    | [c, c1] => decide (c.is_async = 0) && decide (c1.is_async = 0) && chkT N sc2 true tg c.target && chkT N sc2 true tg1 c1.target && blkC N sc sc2 (ownOf N (slotsT tg ++ slotsT tg1)) && notSet c.iter && notStar c.iter && notSet c1.iter && notStar c1.iter &&
      chkE g N sc it c.iter && itT it c.target && chkE g N (relS sc2 sc) it1 c1.iter && itT it1 c1.target &&
      chkE g N (relS sc2 sc) elt e && chkEs g N (relS sc2 sc) ifs c.ifs && decide (ifs.length ≤ 1) && chkEs g N (relS sc2 sc) ifs1 c1.ifs && decide (ifs1.length ≤ 1)
    | _ => false)
  | .isx c a, .Call (.Name x _) [y, .Name z _] [] _ => decide (x = "isinstance") && decide (z = c) && glB sc x && glB sc z && okName x && okName z && chkE g N sc a y && notStar y && g.blts.contains x && g.excs.contains z
  | .fld i, .Attribute (.Name x _) f _ => decide (f = "value") && N[i]? == some x && visB sc x && okName x
  | .chn3 o p q a b c d, .Compare x [op, op', op''] [y, z, w] _ => copB o op && copB p op' && copB q op'' && chkE g N sc a x && chkE g N sc b y && chkE g N sc c z && chkE g N sc d w && notSet w
  | .idx a e, .Call (.Attribute x m p) [y] [] q => decide (m = "index") && nameB x && chkE g N sc a x && chkE g N sc e y && notStar y && (p.endLine == q.line)
  | .tupN es, .Tuple xs _ _ => chkEs g N sc es xs
  | .tplN a, .Call (.Name x _) [y] [] _ => decide (x = "tuple") && glB sc x && g.blts.contains x && chkE g N sc a y && notStar y
  | .lrg es, .Call (.Name x _) [.Call (.Name x2 _) xs [] _] [] _ => decide (x = "list") && glB sc x && g.blts.contains x && decide (x2 = "range") && glB sc x2 && g.blts.contains x2 && chkEs g N sc es xs && decide (es.length ≤ 2)
  | .dnew _, .Dict [] [] _ => true
  | .dget i k e, .Call (.Attribute (.Name x _) m p) [y, z] [] q => decide (m = "get") && N[i]? == some x && visB sc x && okName x && chkE g N sc k y && chkE g N sc e z && notStar y && notStar z && (p.endLine == q.line)
  | .dix i k, .Subscript (.Name x _) y _ => N[i]? == some x && visB sc x && okName x && chkE g N sc k y && notSlice y
  | .dhas ng i k, .Compare y ops cs _ => inName ng ops cs N i sc && chkE g N sc k y
  | .dsrt i, .Call (.Name x _) [y] [] _ => decide (x = "sorted") && glB sc x && g.blts.contains x && itemsOf N i sc y
  | .dmd a b, .Call (.Name x _) [y, z] [] _ => decide (x = "divmod") && glB sc x && g.blts.contains x && chkE g N sc a y && chkE g N sc b z && notStar y && notStar z
  | _, _ => false
def chkEs (g : Gi) (N : List Str) (sc : Scope) : List ME → List Expr → Bool
  | [], [] => true
  | m :: ms, e :: es => chkE g N sc m e && notStar e && chkEs g N sc ms es
  | _, _ => false
def chkKs (g : Gi) (N : List Str) (sc : Scope) : List ME → List Keyword → Bool
  | [], [] => true
  | m :: ms, ⟨some _, e, _⟩ :: es => chkE g N sc m e && chkKs g N sc ms es
  | _, _ => false
def chkO (g : Gi) (N : List Str) (sc : Scope) : Option ME → Option Expr → Bool
  | none, none => true
  | some m, some e => chkE g N sc m e
  | _, _ => false
end
/-- what a loop walks -/
def chkI (g : Gi) (N : List Str) (sc : Scope) (it : ME) (t i : Expr) : Bool := chkE g N sc it i && itT it t
end Own

/-! part Own7 -/
namespace Own
open PySem PySem.Spec L2

theorem imp_E {X : Cx} {e : Expr} {t t' : TE} (h : PE X e t) (hi : ∀ σ H Q, t' σ H Q → t σ H Q) : PE X e t' := ⟨fun pins s σ H Q I q => h.run pins s σ H Q I (hi σ H Q q)⟩
theorem imp_T {X : Cx} {e : Expr} {t t' : TT} (h : PT X e t) (hi : ∀ σ H Q, t' σ H Q → t σ H Q) : PT X e t' := ⟨fun pins s σ H Q I q => h.run pins s σ H Q I (hi σ H Q q)⟩
theorem imp_W {X : Cx} {e : Expr} {t t' : TT} (h : PW X e t) (hi : ∀ σ H Q, t' σ H Q → t σ H Q) : PW X e t' := ⟨fun wh pins s σ H Q I q => h.run wh pins s σ H Q I (hi σ H Q q)⟩
theorem imp_A {X : Cx} {es : List Expr} {t t' : TA} (h : PA X es t) (hi : ∀ σ H Q, t' σ H Q → t σ H Q) : PA X es t' := ⟨fun pos pins s σ H Q I q => h.run pos pins s σ H Q I (hi σ H Q q)⟩

section
variable {α β : Type} {C : Cn} {F : Fns} {W : WX} {g : Gi} {T L : List Addr} {ρ ρ1 ρ2 : Rho} {σ : St} {H H1 H2 H3 : Hp} {x y : VR} {v w : V} {d e : D}
/-- a part's run within the whole's -/
theorem seq_E {u : Bool} {m : ME} {k : VR → Rho → Rs α} {P : α → Rho → β → Hp → Prop} {Q : β → Hp → Prop} {R : V → Hp → Prop} (s : Step ρ ρ1 σ H H1) (r : Rep C (L ++ T) ρ1 σ H1) (h : After C W T ρ σ H ((evE F u m ρ1).bind k) P Q)
    (hk : ∀ x ρ2 v H2, EPost C (L ++ T) ρ1 σ H1 x ρ2 v H2 → After C W T ρ σ H (k x ρ2) P Q → R v H2) : rdE C F W u m σ H1 R := by
  refine ⟨L ++ T, ρ1, r, ?_⟩
  cases q : evE F u m ρ1 with
  | ok x ρ2 =>
    rw [q] at h
    exact fun v H2 p => hk x ρ2 v H2 p h
  | exc c d ρ2 =>
    rw [q] at h
    exact fun cls dd H2 p => h cls dd H2 (p.up s)
  | no =>
    rw [q] at h
    exact h
/-- what is left behind two operands -/
theorem two_of (p1 : EPost C T ρ σ H x ρ1 v H1) (p2 : EPost C (tmps x v ++ T) ρ1 σ H1 y ρ2 w H2) :
    Step ρ ρ2 σ H H2 ∧ Rep C ((tmps y w ++ tmps x v) ++ T) ρ2 σ H2 ∧ VRep C ((tmps y w ++ tmps x v) ++ T) ρ2 σ H2 x v ∧ VRep C ((tmps y w ++ tmps x v) ++ T) ρ2 σ H2 y w := by
  have hx := VRep.more p1.2.1 p2.1 p2.2.2.2 p1.2.2.1
  rw [List.append_assoc]
  exact ⟨p1.1.trans p2.1, p2.2.1, hx, p2.2.2.1⟩
/-- the end by one value alone -/
theorem fin_v (s : Step ρ ρ1 σ H H1) (r : Rep C (L ++ T) ρ1 σ H1) (q : Dr C.K (Reg C (L ++ T) ρ1 σ) H1 v d) : EPost C T ρ σ H (.v d) ρ1 v H1 := EPost.of s r (.here q)
theorem vis_gl {X : Cx} {x : Str} (h : glB X.env.scope x = true) : Gl X x := gl_of h

theorem Top.dr {K : PySem.W.Frag} {R : Bool → Addr → Prop} {a : Addr} (hR : R false a) : ∀ {d : D}, Top K R H a d → Dr K R H (.ref a) d
  | .lst nm ds, ⟨e, vs, h, t⟩ => by subst e; exact .lst h hR t
  | .dK ks ds, ⟨vs, h, l, t⟩ => .dK (.inl ⟨h, hR⟩) l t
  | .dT ks ds, ⟨vs, h, l, t⟩ => .dT h l hR t
theorem set_get {ρ : Rho} {i j : Nat} {s z : Slot} (h : (ρ.set i s)[j]? = some z) : (j = i ∧ z = s) ∨ (j ≠ i ∧ ρ[j]? = some z) := by
  by_cases e : i = j
  · subst e
    rw [List.getElem?_set] at h
    simp at h
    exact .inl ⟨rfl, h.2.symm⟩
  · rw [List.getElem?_set_ne e] at h
    exact .inr ⟨fun z => e z.symm, h⟩
/-- an own list is kept as a value from now on -/
theorem Rep.freeze (r : Rep C T ρ σ H) {i : Nat} {d : D} {a : Addr} (e : ρ[i]? = some (.own d)) (es : σ[i]? = some (some (.ref a))) (hl : ∀ a, (i, a) ∉ C.lent) :
    Step ρ (ρ.set i (.val d)) σ H H ∧ Rep C T (ρ.set i (.val d)) σ H ∧ Dr C.K (Reg C T (ρ.set i (.val d)) σ) H (.ref a) d := by
  have ow : ∀ b, Owns (ρ.set i (.val d)) σ b → Owns ρ σ b ∧ b ≠ a := fun b ⟨j, z, h1, h2⟩ => by
    rcases set_get h1 with ⟨_, h⟩ | ⟨h3, h4⟩
    · cases h
    · refine ⟨⟨j, z, h4, h2⟩, fun q => h3 ?_⟩
      subst q
      exact r.apart _ _ _ _ _ h4 e h2 es
  have nw : ∀ b, Nams (ρ.set i (.val d)) σ b ↔ Nams ρ σ b := fun b => by
    constructor
    · rintro ⟨j, z, h1, h2⟩
      rcases set_get h1 with ⟨_, h⟩ | ⟨h3, h4⟩
      · cases h
      · exact ⟨j, z, h4, h2⟩
    · rintro ⟨j, z, h1, h2⟩
      have : i ≠ j := fun q => by
        subst q
        rw [e] at h1
        cases h1
      exact ⟨j, z, by rw [List.getElem?_set_ne this]; exact h1, h2⟩
  have st : Step ρ (ρ.set i (.val d)) σ H H := ⟨fun b h => (ow b h).1, nw, fun _ _ h _ => h, fun _ o h => ⟨o, h⟩⟩
  have oa : Owns ρ σ a := ⟨i, d, e, es⟩
  have ra : Reg C T (ρ.set i (.val d)) σ false a := by
    refine ⟨(r.new a (.inl oa)).1, r.ownT a oa, fun h => (ow a h).2 rfl, ?_⟩
    rw [nw a]
    have := r.ownN a (.inl oa)
    simp [this]
  have top : Top C.K (Reg C T (ρ.set i (.val d)) σ) H a d := by
    obtain ⟨b, h1, h2⟩ := r.own i d e
    rw [es] at h1
    cases h1
    exact h2.keep Keep.refl (fun _ _ g _ => st.reg g) fun _ z => z
  refine ⟨st, ?_, top.dr ra⟩
  exact {
    len := by rw [List.length_set]; exact r.len
    val := fun j z h => by
      rcases set_get h with ⟨h1, h2⟩ | ⟨h1, h2⟩
      · cases h2
        subst h1
        exact ⟨.ref a, es, top.dr ra⟩
      · obtain ⟨v, q1, q2⟩ := r.val j z h2
        exact ⟨v, q1, st.dr r q2⟩
    own := fun j z h => by
      rcases set_get h with ⟨h1, h2⟩ | ⟨h1, h2⟩
      · cases h2
      · obtain ⟨b, q1, q2⟩ := r.own j z h2
        exact ⟨b, q1, q2.keep Keep.refl (fun _ _ g _ => st.reg g) fun _ z => z⟩
    nam := fun j z h => by
      rcases set_get h with ⟨h1, h2⟩ | ⟨h1, h2⟩
      · cases h2
      · obtain ⟨b, vs, q1, q2, q3, q4⟩ := r.nam j z h2
        exact ⟨b, vs, q1, q2, q3.mono fun _ _ g _ => ⟨g.1, st.reg g.2⟩, q4⟩
    apart := fun j k z y b h1 h2 h3 h4 => by
      rcases set_get h1 with ⟨_, h⟩ | ⟨_, h1⟩
      · cases h
      rcases set_get h2 with ⟨_, h⟩ | ⟨_, h2⟩
      · cases h
      exact r.apart j k z y b h1 h2 h3 h4
    ownT := fun b h => r.ownT b (ow b h).1
    tmpAt := r.tmpAt
    ownN := fun b h => by rw [nw b]; exact r.ownN b (h.imp (fun z => (ow b z).1) id)
    new := fun b h => r.new b (h.imp (fun z => (ow b z).1) id)
    newN := fun b h => r.newN b ((nw b).mp h)
    frame := r.frame
    cn := r.cn
    lent := fun j b h => by
      obtain ⟨q1, z, q2⟩ := r.lent j b h
      have : i ≠ j := fun q => hl b (q ▸ h)
      exact ⟨q1, z, by rw [List.getElem?_set_ne this]; exact q2⟩ }

/-! ### constants and names -/
theorem here_E {m : ME} {u : Bool} {v : V} {d : D} (he : ∀ ρ, evE F u m ρ = .ok (.v d) ρ) (hd : ∀ R H, Dr C.K R H v d) {X : Cx} {e : Expr} (h : PE X e (tC v)) : PE X e (rdE C F W u m) :=
  imp_E h fun σ H Q ⟨T, ρ, r, q⟩ => by
    rw [he] at q
    exact q v H (fin_v (L := []) .refl r (hd _ _))
theorem var_E {X : Cx} (G : Good X C F W g) {u : Bool} {i : Nat} {x : Str} {pos : Pos} (hN : X.N[i]? = some x) (hv : visB X.env.scope x = true) (ho : okName x = true) : PE X (.Name x pos) (rdE C F W u (.var i)) := by
  unfold okName at ho
  simp only [Bool.and_eq_true, Bool.not_eq_true'] at ho
  refine imp_E (pe_var hN (vis_of hv) ho.1.1 ho.1.2) fun σ H Q ⟨T, ρ, r, q⟩ => ?_
  have q' : After C W T ρ σ H (if u then evU i ρ else evV F i ρ) (EPost C T ρ σ H) Q := by
    unfold evE at q
    exact q
  cases u with
  | true =>
    rw [if_pos rfl] at q'
    unfold evU at q'
    split at q'
    · rename_i d e
      obtain ⟨v, e1, e2⟩ := r.val i d e
      exact ⟨v, e1, q' v H (fin_v (L := []) .refl r e2)⟩
    · rename_i d e
      obtain ⟨a, e1, e2⟩ := r.own i d e
      exact ⟨.ref a, e1, q' _ H ⟨.refl, r, e1, fun _ z => nomatch z⟩⟩
    · rename_i d e
      obtain ⟨a, vs, e1, e2⟩ := r.nam i d e
      exact ⟨.ref a, e1, q' _ H ⟨.refl, r, e1, fun _ z => nomatch z⟩⟩
    · exact q'.elim
  | false =>
    rw [if_neg Bool.false_ne_true] at q'
    unfold evV at q'
    split at q'
    · rename_i d e
      obtain ⟨v, e1, e2⟩ := r.val i d e
      exact ⟨v, e1, q' v H (fin_v (L := []) .refl r e2)⟩
    · rename_i d e
      split at q'
      · exact q'.elim
      · rename_i hm
        obtain ⟨a, e1, e2⟩ := r.own i d e
        obtain ⟨st, r2, q2⟩ := r.freeze e e1 fun b hb => hm (G.mine i b hb)
        exact ⟨.ref a, e1, q' _ H (fin_v (L := []) st r2 q2)⟩
    · rename_i d e
      obtain ⟨a, vs, e1, e2, e3, e4⟩ := r.nam i d e
      refine ⟨.ref a, e1, q' _ H (fin_v (L := []) .refl r (.lst e2 ?_ (e3.mono fun _ _ g _ => g.2)))⟩
      have hn : Nams ρ σ a := ⟨i, d, e, e1⟩
      refine ⟨r.newN a hn, fun z => r.ownN a (.inr z) (.inr hn), fun z => r.ownN a (.inl z) (.inr hn), ?_⟩
      simp [hn]
    · exact q'.elim

/-! ### operators -/
theorem bin_E {X : Cx} (G : Good X C F W g) {o : Bop} {a b : ME} {u : Bool} {l r : Expr} {op : Operator} {pos : Pos} (ho : bopB o op = true) (ha : PE X l (rdE C F W true a)) (hb : PE X r (rdE C F W true b)) :
    PE X (.BinOp l op r pos) (rdE C F W u (.bin o a b)) := by
  have e : op = o.op := by cases o <;> cases op <;> simp [bopB] at ho <;> rfl
  subst e
  refine imp_E (pe_op op_u ha hb) fun σ H Q ⟨T, ρ, r, h⟩ => ?_
  unfold evE at h
  refine seq_E (L := []) .refl r h fun x ρ1 v H1 p1 h1 => ?_
  refine seq_E p1.1 p1.2.1 h1 fun y ρ2 w H2 p2 h2 => ?_
  obtain ⟨s, r2, hx, hy⟩ := two_of p1 p2
  split at h2
  · rename_i d e e1 e2
    cases q : bop o d e with
    | none => rw [q] at h2; exact h2.elim
    | some z =>
      rw [q] at h2
      exact bop_ok G.K r2 q (derf_dx r2 hx e1) (derf_dx r2 hy e2) fun u H' p => h2 u H' (EPost.of s r2 p)
  · exact h2.elim
theorem neg_E {X : Cx} {a : ME} {u : Bool} {l : Expr} {pos : Pos} (ha : PE X l (rdE C F W true a)) : PE X (.UnaryOp .USub l pos) (rdE C F W u (.neg a)) := by
  refine imp_E (pe_un un_neg ha) fun σ H Q ⟨T, ρ, r, h⟩ => ?_
  unfold evE at h
  refine seq_E (L := []) .refl r h fun x ρ1 v H1 p1 h1 => ?_
  split at h1
  · rename_i i e1
    have hv : v = .int i := derf_dx p1.2.1 p1.2.2.1 e1
    subst hv
    exact ⟨i, rfl, h1 _ _ (fin_v p1.1 p1.2.1 (.int _))⟩
  · exact h1.elim
theorem bl_only {P : Bool → Rho → Hp → Prop} {k : Bool → Rho → Rs α} {R : α → Rho → β → Hp → Prop} {Q : β → Hp → Prop} (p : EPost C T ρ σ H x ρ1 v H1) (h : After C W T ρ σ H (match x with | .v (.bl b) => k b ρ1 | _ => .no) R Q)
    (hk : ∀ b, v = .bl b → Rep C T ρ1 σ H1 → After C W T ρ σ H (k b ρ1) R Q → P b ρ1 H1) : ∃ b, v = .bl b ∧ P b ρ1 H1 := by
  match x, h, p with
  | .v (.bl b), h, p =>
    have hv : v = .bl b := by
      have := p.2.2.1
      cases this
      rfl
    subst hv
    exact ⟨b, rfl, hk b rfl p.2.1 h⟩
  | .v .non, h, _ => exact h.elim
  | .v (.int _), h, _ => exact h.elim
  | .v (.str _), h, _ => exact h.elim
  | .v (.tup _), h, _ => exact h.elim
  | .v (.lst _ _), h, _ => exact h.elim
  | .v (.dK _ _), h, _ => exact h.elim
  | .v (.dT _ _), h, _ => exact h.elim
  | .v (.scr _), h, _ => exact h.elim
  | .f _, h, _ => exact h.elim
  | .l _, h, _ => exact h.elim
theorem notv_E {X : Cx} {a : ME} {u : Bool} {l : Expr} {pos : Pos} (ha : PE X l (rdE C F W false a)) : PE X (.UnaryOp .Not l pos) (rdE C F W u (.notv a)) := by
  refine imp_E (pe_not ha) fun σ H Q ⟨T, ρ, r, h⟩ => ?_
  unfold evE at h
  refine seq_E (L := []) .refl r h fun x ρ1 v H1 p1 h1 => ?_
  obtain ⟨b, hv, q⟩ := bl_only (α := VR) (R := EPost C T ρ σ H) (k := fun b ρ1 => Rs.ok (VR.v (.bl (!b))) ρ1) (P := fun b ρ1 H1 => Q (.bl (!b)) H1) p1 h1 fun b hv r1 h2 => h2 _ _ (fin_v (L := []) p1.1 r1 (.bl _))
  exact ⟨b, hv, q⟩
theorem behind_of {op : CmpOp} {b : Expr} (h : notSet b = true) : behindInMarks op b = false := by
  cases b <;> first | rfl | simp [notSet] at h
theorem cmp_rd {X : Cx} (G : Good X C F W g) {o : Cop} {a b : ME} {u : Bool} : ∀ σ H Q, rdE C F W u (.cmp o a b) σ H Q → tOp (OpU X (compareOp o.op)) (rdE C F W true a) (rdE C F W true b) σ H Q := fun σ H Q ⟨T, ρ, r, h⟩ => by
  unfold evE at h
  refine seq_E (L := []) .refl r h fun x ρ1 v H1 p1 h1 => ?_
  refine seq_E p1.1 p1.2.1 h1 fun y ρ2 w H2 p2 h2 => ?_
  obtain ⟨s, r2, hx, hy⟩ := two_of p1 p2
  split at h2
  · rename_i d e e1 e2
    cases q : cop o d e with
    | none => rw [q] at h2; exact h2.elim
    | some z =>
      rw [q] at h2
      exact cop_ok G.K (Nat.lt_of_le_of_lt (Nat.add_le_add_left (by decide) _) G.hu) q (derf_dx r2 hx e1) (derf_dx r2 hy e2) (h2 _ _ (fin_v s r2 (.bl _)))
  · exact h2.elim
theorem copB_op {o : Cop} {op : CmpOp} (ho : copB o op = true) : op = o.op := by cases o <;> cases op <;> simp [copB] at ho <;> rfl
theorem cmp_E {X : Cx} (G : Good X C F W g) {o : Cop} {a b : ME} {u : Bool} {l r : Expr} {op : CmpOp} {pos : Pos} (ho : copB o op = true) (hs : notSet r = true) (ha : PE X l (rdE C F W true a)) (hb : PE X r (rdE C F W true b)) :
    PE X (.Compare l [op] [r] pos) (rdE C F W u (.cmp o a b)) := by
  obtain rfl := copB_op ho
  exact imp_E (pe_cmpR op_u ha hb (behind_of hs)) (cmp_rd G)
/-- a value's reading as a test's -/
theorem test_of {t : TE} {m : ME} (h : ∀ σ H Q, rdE C F W false m σ H Q → t σ H Q) : ∀ σ H Q, rdT C F W m σ H Q → tTest t σ H Q := fun σ H Q ⟨T, ρ, r, q⟩ => by
  refine h σ H _ ⟨T, ρ, r, ?_⟩
  cases e : evE F false m ρ with
  | no => rw [e] at q; exact q
  | exc c d ρ' => rw [e] at q; exact q
  | ok x ρ' =>
    rw [e] at q
    intro v H' p
    match x, q, p with
    | .v (.bl b), q, p =>
      have hv : v = .bl b := by
        have := p.2.2.1
        cases this
        rfl
      exact ⟨b, hv, q b H' ⟨rfl, p.1, p.2.1⟩⟩
    | .v .non, q, _ => exact q.elim
    | .v (.int _), q, _ => exact q.elim
    | .v (.str _), q, _ => exact q.elim
    | .v (.tup _), q, _ => exact q.elim
    | .v (.lst _ _), q, _ => exact q.elim
    | .v (.dK _ _), q, _ => exact q.elim
    | .v (.dT _ _), q, _ => exact q.elim
    | .v (.scr _), q, _ => exact q.elim
    | .v (.tn _), q, _ => exact q.elim
    | .f _, q, _ => exact q.elim
    | .l _, q, _ => exact q.elim
theorem cmp_T {X : Cx} (G : Good X C F W g) {o : Cop} {a b : ME} {l r : Expr} {op : CmpOp} {pos : Pos} (ho : copB o op = true) (hs : notSet r = true) (ha : PE X l (rdE C F W true a)) (hb : PE X r (rdE C F W true b)) :
    PT X (.Compare l [op] [r] pos) (rdT C F W (.cmp o a b)) := by
  obtain rfl := copB_op ho
  exact imp_T (pt_cmpR op_u ha hb (behind_of hs)) (test_of (cmp_rd G))
theorem isN_rd {X : Cx} {a : ME} {u ng : Bool} : ∀ σ H Q, rdE C F W u (.isN ng a) σ H Q → rdE C F W true a σ H fun x H1 => Q (.bl (if ng then !decide (x = .non) else decide (x = .non))) H1 := fun σ H Q ⟨T, ρ, r, h⟩ => by
  unfold evE at h
  refine seq_E (L := []) .refl r h fun x ρ1 v H1 p1 h1 => ?_
  split at h1
  · rename_i e1
    have hv : v = .non := derf_dx p1.2.1 p1.2.2.1 e1
    subst hv
    have := h1 _ _ (fin_v p1.1 p1.2.1 (.bl _))
    cases ng <;> exact this
  · rename_i d hd e1
    have hv := derf_dx p1.2.1 p1.2.2.1 e1
    have hn : ¬ v = .non := by
      intro z
      subst z
      cases d <;> first | exact hd rfl | (cases hv; done) | (obtain ⟨a, _, q, _⟩ := hv; cases q; done) | (obtain ⟨a, _, _, q, _⟩ := hv; cases q; done) | (obtain ⟨a, _, _, _, q, _⟩ := hv; cases q; done)
    have := h1 _ _ (fin_v p1.1 p1.2.1 (.bl _))
    cases ng <;> simp [hn] <;> exact this
  · exact h1.elim
theorem chn_rd {X : Cx} (G : Good X C F W g) {o p : Cop} {a b c : ME} {u : Bool} : ∀ σ H Q, rdE C F W u (.chn o p a b c) σ H Q → tChain (OpU X (compareOp o.op)) (OpU X (compareOp p.op)) (rdE C F W true a) (rdE C F W true b) (rdE C F W true c) σ H Q := fun σ H Q ⟨T, ρ, r, h⟩ => by
  unfold evE at h
  refine seq_E (L := []) .refl r h fun x ρ1 v H1 p1 h1 => ?_
  refine seq_E p1.1 p1.2.1 h1 fun y ρ2 w H2 p2 h2 => ?_
  obtain ⟨s, r2, hx, hy⟩ := two_of p1 p2
  have hu : X.A.units + 65 < cLine := Nat.lt_of_le_of_lt (Nat.add_le_add_left (by decide) _) G.hu
  split at h2
  · rename_i d e e1 e2
    split at h2
    · rename_i q
      refine cop_ok G.K hu q (derf_dx r2 hx e1) (derf_dx r2 hy e2) ⟨true, rfl, ?_⟩
      rw [if_pos rfl]
      refine seq_E s r2 h2 fun z ρ3 t H3 p3 h3 => ?_
      have hy3 := VRep.more r2 p3.1 p3.2.2.2 hy
      split at h3
      · rename_i e' g' e3 e4
        cases q2 : cop p e' g' with
        | none => rw [q2] at h3; exact h3.elim
        | some k =>
          rw [q2] at h3
          refine cop_ok G.K hu q2 (derf_dx p3.2.1 hy3 e3) (derf_dx p3.2.1 p3.2.2.1 e4) (h3 _ _ ?_)
          have r3 := p3.2.1
          rw [← List.append_assoc] at r3
          exact fin_v (s.trans p3.1) r3 (.bl _)
      · exact h3.elim
    · rename_i q
      refine cop_ok G.K hu q (derf_dx r2 hx e1) (derf_dx r2 hy e2) ⟨false, rfl, ?_⟩
      rw [if_neg Bool.false_ne_true]
      exact h2 _ _ (fin_v s r2 (.bl _))
    · exact h2.elim
  · exact h2.elim
theorem last_of {op op' : CmpOp} {b c : Expr} (h : notSet c = true) : lastMarks [op, op'] [b, c] = false := by
  show behindInMarks op' c = false
  exact behind_of h
theorem chn_E {X : Cx} (G : Good X C F W g) {o p : Cop} {a b c : ME} {u : Bool} {x y z : Expr} {op op' : CmpOp} {pos : Pos} (ho : copB o op = true) (hp : copB p op' = true) (hs : notSet z = true)
    (ha : PE X x (rdE C F W true a)) (hb : PE X y (rdE C F W true b)) (hc : PE X z (rdE C F W true c)) : PE X (.Compare x [op, op'] [y, z] pos) (rdE C F W u (.chn o p a b c)) := by
  obtain rfl := copB_op ho
  obtain rfl := copB_op hp
  exact imp_E (pe_chain op_u op_u ha hb hc (last_of hs)) (chn_rd G)
theorem chn_T {X : Cx} (G : Good X C F W g) {o p : Cop} {a b c : ME} {x y z : Expr} {op op' : CmpOp} {pos : Pos} (ho : copB o op = true) (hp : copB p op' = true) (hs : notSet z = true)
    (ha : PE X x (rdE C F W true a)) (hb : PE X y (rdE C F W true b)) (hc : PE X z (rdE C F W true c)) : PT X (.Compare x [op, op'] [y, z] pos) (rdT C F W (.chn o p a b c)) := by
  obtain rfl := copB_op ho
  obtain rfl := copB_op hp
  exact imp_T (pt_chain op_u op_u ha hb hc (last_of hs)) (test_of (chn_rd G))
def tChain3 (r r' r'' : R2) (ta tb tc td : TE) : TE := fun σ H Q => ta σ H fun x H1 => tb σ H1 fun y H2 => r x y H2 fun z H3 => ∃ k, z = .bl k ∧
  (if k = true then tc σ H3 fun w' H4 => r' y w' H4 fun z2 H5 => ∃ k2, z2 = .bl k2 ∧ (if k2 = true then td σ H5 fun w2 H6 => r'' w' w2 H6 Q else Q (.bl false) H5) else Q (.bl false) H3)
theorem pe_chain3 {X : Cx} {a b c d : Expr} {pos : Pos} {ta tb tc td : TE} {op op' op'' : CmpOp} {r r' r'' : R2} (ho : OpR X (compareOp op) r) (ho' : OpR X (compareOp op') r') (ho'' : OpR X (compareOp op'') r'') (ha : PE X a ta) (hb : PE X b tb) (hc : PE X c tc) (hd : PE X d td)
    (hm : lastMarks [op, op', op''] [b, c, d] = false) : PE X (.Compare a [op, op', op''] [b, c, d] pos) (tChain3 r r' r'' ta tb tc td) := by
  refine ⟨fun pins s σ H Q I h => ?_⟩
  refine PyProof.Rows.Compare_chain (thn (ha.run pins s σ H _ I h) fun v s1 ⟨x, H1, I1, r1, q1⟩ => PyProof.Rows.chain_link (thn (hb.run pins s1 σ H1 _ I1 q1) fun u s2 ⟨y, H2, I2, r2, q2⟩ =>
    thn (ho pins s2 σ H2 x y v u _ I2 r1 r2 q2) fun d s3 ⟨z, H3, I3, r3, k, e, q3⟩ => ?_)) hm
  subst e
  cases r3
  refine wpAny_truthy_bool ?_
  cases k with
  | false => exact PyProof.Rows.ite_ff ⟨.bl false, H3, I3, rfl, q3⟩
  | true =>
    refine PyProof.Rows.ite_tt (PyProof.Rows.chain_link (thn (hc.run pins s3 σ H3 _ I3 q3) fun w' s4 ⟨z', H4, I4, r4, q4⟩ => thn (ho' pins s4 σ H4 y z' u w' _ I4 r2 r4 q4) fun d' s5 ⟨z2, H5, I5, r5, k2, e2, q5⟩ => ?_))
    subst e2
    cases r5
    refine wpAny_truthy_bool ?_
    cases k2 with
    | false => exact PyProof.Rows.ite_ff ⟨.bl false, H5, I5, rfl, q5⟩
    | true => exact PyProof.Rows.ite_tt (PyProof.Rows.chain_last (thn (hd.run pins s5 σ H5 _ I5 q5) fun w2 s6 ⟨z3, H6, I6, r6, q6⟩ => ho'' pins s6 σ H6 z' z3 w' w2 Q I6 r4 r6 q6))
theorem pt_chain3 {X : Cx} {a b c d : Expr} {pos : Pos} {ta tb tc td : TE} {op op' op'' : CmpOp} {r r' r'' : R2} (ho : OpR X (compareOp op) r) (ho' : OpR X (compareOp op') r') (ho'' : OpR X (compareOp op'') r'') (ha : PE X a ta) (hb : PE X b tb) (hc : PE X c tc) (hd : PE X d td)
    (hm : lastMarks [op, op', op''] [b, c, d] = false) : PT X (.Compare a [op, op', op''] [b, c, d] pos) (tTest (tChain3 r r' r'' ta tb tc td)) := by
  refine ⟨fun pins s σ H Q I h => ?_⟩
  refine PyProof.Rows.isTrue_chain (thn (ha.run pins s σ H _ I h) fun v s1 ⟨x, H1, I1, r1, q1⟩ => PyProof.Rows.test_link (thn (hb.run pins s1 σ H1 _ I1 q1) fun u s2 ⟨y, H2, I2, r2, q2⟩ =>
    thn (ho pins s2 σ H2 x y v u _ I2 r1 r2 q2) fun d s3 ⟨z, H3, I3, r3, k, e, q3⟩ => ?_)) hm
  subst e
  cases r3
  refine wpAny_truthy_bool ?_
  cases k with
  | false =>
    obtain ⟨k', e', q'⟩ := q3
    cases e'
    exact PyProof.Rows.ite_ff ⟨H3, I3, q'⟩
  | true =>
    refine PyProof.Rows.ite_tt (PyProof.Rows.test_link (thn (hc.run pins s3 σ H3 _ I3 q3) fun w' s4 ⟨z', H4, I4, r4, q4⟩ => thn (ho' pins s4 σ H4 y z' u w' _ I4 r2 r4 q4) fun d' s5 ⟨z2, H5, I5, r5, k2, e2, q5⟩ => ?_))
    subst e2
    cases r5
    refine wpAny_truthy_bool ?_
    cases k2 with
    | false =>
      obtain ⟨k', e', q'⟩ := q5
      cases e'
      exact PyProof.Rows.ite_ff ⟨H5, I5, q'⟩
    | true =>
      refine PyProof.Rows.ite_tt (PyProof.Rows.test_last (thn (hd.run pins s5 σ H5 _ I5 q5) fun w2 s6 ⟨z3, H6, I6, r6, q6⟩ => thn (ho'' pins s6 σ H6 z' z3 w' w2 _ I6 r4 r6 q6) fun d2 s7 ⟨z4, H7, I7, r7, k3, e3, q7⟩ => ?_))
      subst e3
      cases r7
      exact wpAny_truthy_bool ⟨H7, I7, q7⟩
theorem chn3_rd {X : Cx} (G : Good X C F W g) {o p qq : Cop} {a b c d : ME} {u : Bool} : ∀ σ H Q, rdE C F W u (.chn3 o p qq a b c d) σ H Q → tChain3 (OpU X (compareOp o.op)) (OpU X (compareOp p.op)) (OpU X (compareOp qq.op)) (rdE C F W true a) (rdE C F W true b) (rdE C F W true c) (rdE C F W true d) σ H Q := fun σ H Q ⟨T, ρ, r, h⟩ => by
  unfold evE at h
  refine seq_E (L := []) .refl r h fun x ρ1 v H1 p1 h1 => ?_
  refine seq_E p1.1 p1.2.1 h1 fun y ρ2 w H2 p2 h2 => ?_
  obtain ⟨s, r2, hx, hy⟩ := two_of p1 p2
  have hu : X.A.units + 65 < cLine := Nat.lt_of_le_of_lt (Nat.add_le_add_left (by decide) _) G.hu
  split at h2
  · rename_i d e e1 e2
    split at h2
    · rename_i q
      refine cop_ok G.K hu q (derf_dx r2 hx e1) (derf_dx r2 hy e2) ⟨true, rfl, ?_⟩
      rw [if_pos rfl]
      refine seq_E s r2 h2 fun z ρ3 t H3 p3 h3 => ?_
      have hy3 := VRep.more r2 p3.1 p3.2.2.2 hy
      have r3 := p3.2.1
      have z3 := p3.2.2.1
      rw [← List.append_assoc] at r3 hy3 z3
      split at h3
      · rename_i e' g' e3 e4
        split at h3
        · rename_i q2
          refine cop_ok G.K hu q2 (derf_dx r3 hy3 e3) (derf_dx r3 z3 e4) ⟨true, rfl, ?_⟩
          rw [if_pos rfl]
          refine seq_E (s.trans p3.1) r3 h3 fun z4 ρ4 t4 H4 p4 h4 => ?_
          have hz4 := VRep.more r3 p4.1 p4.2.2.2 z3
          split at h4
          · rename_i g5 h5 e5 e6
            cases q3 : cop qq g5 h5 with
            | none => rw [q3] at h4; exact h4.elim
            | some kk =>
              rw [q3] at h4
              refine cop_ok G.K hu q3 (derf_dx p4.2.1 hz4 e5) (derf_dx p4.2.1 p4.2.2.1 e6) (h4 _ _ ?_)
              have r4 := p4.2.1
              rw [← List.append_assoc] at r4
              exact fin_v ((s.trans p3.1).trans p4.1) r4 (.bl _)
          · exact h4.elim
        · rename_i q2
          refine cop_ok G.K hu q2 (derf_dx r3 hy3 e3) (derf_dx r3 z3 e4) ⟨false, rfl, ?_⟩
          rw [if_neg Bool.false_ne_true]
          exact h3 _ _ (fin_v (s.trans p3.1) r3 (.bl _))
        · exact h3.elim
      · exact h3.elim
    · rename_i q
      refine cop_ok G.K hu q (derf_dx r2 hx e1) (derf_dx r2 hy e2) ⟨false, rfl, ?_⟩
      rw [if_neg Bool.false_ne_true]
      exact h2 _ _ (fin_v s r2 (.bl _))
    · exact h2.elim
  · exact h2.elim
theorem last_of3 {op op' op'' : CmpOp} {b c d : Expr} (h : notSet d = true) : lastMarks [op, op', op''] [b, c, d] = false := by
  show behindInMarks op'' d = false
  exact behind_of h
theorem chn3_E {X : Cx} (G : Good X C F W g) {o p q : Cop} {a b c d : ME} {u : Bool} {x y z w : Expr} {op op' op'' : CmpOp} {pos : Pos} (ho : copB o op = true) (hp : copB p op' = true) (hq : copB q op'' = true) (hs : notSet w = true)
    (ha : PE X x (rdE C F W true a)) (hb : PE X y (rdE C F W true b)) (hc : PE X z (rdE C F W true c)) (hd : PE X w (rdE C F W true d)) : PE X (.Compare x [op, op', op''] [y, z, w] pos) (rdE C F W u (.chn3 o p q a b c d)) := by
  obtain rfl := copB_op ho
  obtain rfl := copB_op hp
  obtain rfl := copB_op hq
  exact imp_E (pe_chain3 op_u op_u op_u ha hb hc hd (last_of3 hs)) (chn3_rd G)
theorem chn3_T {X : Cx} (G : Good X C F W g) {o p q : Cop} {a b c d : ME} {x y z w : Expr} {op op' op'' : CmpOp} {pos : Pos} (ho : copB o op = true) (hp : copB p op' = true) (hq : copB q op'' = true) (hs : notSet w = true)
    (ha : PE X x (rdE C F W true a)) (hb : PE X y (rdE C F W true b)) (hc : PE X z (rdE C F W true c)) (hd : PE X w (rdE C F W true d)) : PT X (.Compare x [op, op', op''] [y, z, w] pos) (rdT C F W (.chn3 o p q a b c d)) := by
  obtain rfl := copB_op ho
  obtain rfl := copB_op hp
  obtain rfl := copB_op hq
  exact imp_T (pt_chain3 op_u op_u op_u ha hb hc hd (last_of3 hs)) (test_of (chn3_rd G))
theorem ix_E {X : Cx} (G : Good X C F W g) {a i : ME} {u : Bool} {l r : Expr} {pos : Pos} (hs : notSlice r = true) (ha : PE X l (rdE C F W true a)) (hb : PE X r (rdE C F W true i)) : PE X (.Subscript l r pos) (rdE C F W u (.ix a i)) := by
  have hp : PlainIx r := fun o i => by cases r <;> first | rfl | simp [notSlice] at hs
  refine imp_E (pe_ix ix_u ha hb hp) fun σ H Q ⟨T, ρ, r, h⟩ => ?_
  unfold evE at h
  refine seq_E (L := []) .refl r h fun x ρ1 v H1 p1 h1 => ?_
  refine seq_E p1.1 p1.2.1 h1 fun y ρ2 w H2 p2 h2 => ?_
  obtain ⟨s, r2, hx, hy⟩ := two_of p1 p2
  split at h2
  · rename_i d e e1 e2
    cases q : ixop d e with
    | none => rw [q] at h2; exact h2.elim
    | some z =>
      rw [q] at h2
      exact ix_ok G.K q (derf_dx r2 hx e1) (derf_dx r2 hy e2) fun u hu => h2 u _ (fin_v s r2 hu)
  · exact h2.elim
end
end Own

/-! part Own8 -/
namespace Own
open PySem PySem.Spec L2

inductive VReps (C : Cn) (T : List Addr) (ρ : Rho) (σ : St) (H : Hp) : List VR → List V → Prop
  | nil : VReps C T ρ σ H [] []
  | cons {x : VR} {xs : List VR} {v : V} {vs : List V} : VRep C T ρ σ H x v → VReps C T ρ σ H xs vs → VReps C T ρ σ H (x :: xs) (v :: vs)
def frs (H : Hp) : List VR → List V → Prop
  | x :: xs, v :: vs => (∀ a ∈ tmps x v, H a = none) ∧ frs H xs vs
  | _, _ => True
/-- the new lists among values -/
def tmpsL : List VR → List V → List Addr
  | x :: xs, v :: vs => tmpsL xs vs ++ tmps x v
  | _, _ => []
theorem frs_of {H : Hp} : ∀ {xs : List VR} {vs : List V}, (∀ a ∈ tmpsL xs vs, H a = none) → frs H xs vs
  | [], [], _ => trivial
  | [], _ :: _, _ => trivial
  | _ :: _, [], _ => trivial
  | _ :: _, _ :: _, h => ⟨fun a m => h a (List.mem_append_right _ m), frs_of fun a m => h a (List.mem_append_left _ m)⟩
def LPost (C : Cn) (T : List Addr) (ρ : Rho) (σ : St) (H : Hp) (xs : List VR) (ρ' : Rho) (vs : List V) (H' : Hp) : Prop :=
  Step ρ ρ' σ H H' ∧ Rep C (tmpsL xs vs ++ T) ρ' σ H' ∧ VReps C (tmpsL xs vs ++ T) ρ' σ H' xs vs ∧ (∀ a ∈ tmpsL xs vs, H a = none) ∧ (tmpsL xs vs).Nodup
def rdL (C : Cn) (W : WX) (ev : Rho → Rs (List VR)) : TA := fun σ H Q => ∃ T ρ, Rep C T ρ σ H ∧ After C W T ρ σ H (ev ρ) (LPost C T ρ σ H) Q

section
variable {α β : Type} {C : Cn} {F : Fns} {W : WX} {g : Gi} {T L : List Addr} {ρ ρ1 ρ2 : Rho} {σ : St} {H H1 H2 H3 : Hp} {x y : VR} {v w : V} {d e : D}
theorem VReps.more (r : Rep C T ρ σ H) (s : Step ρ ρ1 σ H H1) (hL : ∀ a ∈ L, H a = none) : ∀ {xs : List VR} {vs : List V}, VReps C T ρ σ H xs vs → VReps C (L ++ T) ρ1 σ H1 xs vs
  | _, _, .nil => .nil
  | _, _, .cons h t => .cons (h.more r s hL) (VReps.more r s hL t)
theorem seq_L {ev : Rho → Rs (List VR)} {k : List VR → Rho → Rs α} {P : α → Rho → β → Hp → Prop} {Q : β → Hp → Prop} {R : List V → Hp → Prop} (s : Step ρ ρ1 σ H H1) (r : Rep C (L ++ T) ρ1 σ H1) (h : After C W T ρ σ H ((ev ρ1).bind k) P Q)
    (hk : ∀ xs ρ2 vs H2, LPost C (L ++ T) ρ1 σ H1 xs ρ2 vs H2 → After C W T ρ σ H (k xs ρ2) P Q → R vs H2) : rdL C W ev σ H1 R := by
  refine ⟨L ++ T, ρ1, r, ?_⟩
  cases q : ev ρ1 with
  | ok x ρ2 =>
    rw [q] at h
    exact fun v H2 p => hk x ρ2 v H2 p h
  | exc c d ρ2 =>
    rw [q] at h
    exact fun cls dd H2 p => h cls dd H2 (p.up s)
  | no =>
    rw [q] at h
    exact h
theorem star_cons {e : Expr} {es : List Expr} {env : PySem.Env} (h : notStar e = true) : starEach (e :: es) env = (false, eval e env) :: starEach es env := by
  cases e <;> first | rfl | simp [notStar] at h
/-- no star among the arguments -/
def noStars : List Expr → Bool
  | [] => true
  | e :: es => notStar e && noStars es
theorem noStars_plain : ∀ {es : List Expr} {env : PySem.Env} {pos : Pos}, noStars es = true → (backTo pos (starEach es env)).any (·.1) = false
  | [], _, _, _ => rfl
  | e :: es, env, pos, h => by
    simp only [noStars, Bool.and_eq_true] at h
    rw [star_cons h.1]
    exact noStars_plain (es := es) (env := env) (pos := pos) h.2
theorem nil_L {X : Cx} {ev : Rho → Rs (List VR)} (he : ∀ ρ, ev ρ = .ok [] ρ) : PA X [] (rdL C W ev) :=
  imp_A pa_nil fun σ H Q ⟨T, ρ, r, h⟩ => by
    rw [he] at h
    exact h [] H ⟨.refl, r, .nil, (fun _ z => nomatch z), List.nodup_nil⟩
theorem cons_rd {u : Bool} {m : ME} {ev ev' : Rho → Rs (List VR)} (k : VR → Bool) (he : ∀ ρ, ev ρ = (evE F u m ρ).bind fun x ρ1 => if k x then (ev' ρ1).bind fun xs ρ2 => .ok (x :: xs) ρ2 else .no) :
    ∀ σ H Q, rdL C W ev σ H Q → tCons (rdE C F W u m) (rdL C W ev') σ H Q := fun σ H Q ⟨T, ρ, r, h⟩ => by
    rw [he] at h
    refine seq_E (L := []) .refl r h fun x ρ1 v H1 p1 h1 => ?_
    split at h1
    case isFalse => exact h1.elim
    refine seq_L p1.1 p1.2.1 h1 fun xs ρ2 vs H2 p2 h2 => ?_
    obtain ⟨s2, r2, q2, n2, f2⟩ := p2
    refine h2 _ _ ⟨p1.1.trans s2, ?_, ?_, fun a ha => ?_, ?_⟩
    · show Rep C ((tmpsL xs vs ++ tmps x v) ++ T) ρ2 σ H2
      rw [List.append_assoc]
      exact r2
    · show VReps C ((tmpsL xs vs ++ tmps x v) ++ T) ρ2 σ H2 (x :: xs) (v :: vs)
      rw [List.append_assoc]
      exact .cons (p1.2.2.1.more p1.2.1 s2 n2) q2
    · rcases List.mem_append.mp ha with z | z
      · exact p1.1.none (n2 a z)
      · exact p1.2.2.2 a z
    · refine List.nodup_append.mpr ⟨f2, ?_, fun a ha b hb e => ?_⟩
      · unfold tmps
        split <;> simp
      · subst e
        obtain ⟨o, q⟩ := p1.2.1.tmpAt a (List.mem_append_left _ hb)
        rw [n2 a ha] at q
        cases q
theorem cons_L {X : Cx} {u : Bool} {m : ME} {e : Expr} {es : List Expr} {ev ev' : Rho → Rs (List VR)} (k : VR → Bool) (hs : notStar e = true) (he : ∀ ρ, ev ρ = (evE F u m ρ).bind fun x ρ1 => if k x then (ev' ρ1).bind fun xs ρ2 => .ok (x :: xs) ρ2 else .no)
    (ha : PE X e (rdE C F W u m)) (hb : PA X es (rdL C W ev')) : PA X (e :: es) (rdL C W ev) :=
  imp_A (pa_cons ha hb (star_cons hs)) (cons_rd k he)
/-- the operands' kinds -/
theorem derfs_dx (r : Rep C T ρ σ H) : ∀ {xs : List VR} {vs : List V} {ds : List D}, VReps C T ρ σ H xs vs → derfs ρ xs = some ds → Dxs C.K (Reg C T ρ σ) H vs ds
  | _, _, _, .nil, e => by cases e; exact .nil
  | x :: xs, _, _, .cons h t, e => by
    unfold derfs at e
    split at e
    · rename_i d ds e1 e2
      cases e
      exact .cons (derf_dx r h e1) (derfs_dx r t e2)
    · cases e
/-- a new list of ours may be kept as a value -/
theorem tmp_reg (r : Rep C (L ++ T) ρ σ H) {a : Addr} (m : a ∈ L ++ T) (n : a ∉ T) : Reg C T ρ σ false a := by
  refine ⟨(r.new a (.inr m)).1, n, fun o => r.ownT a o m, ?_⟩
  have := r.ownN a (.inr m)
  simp [this]
theorem keep_v (r0 : Rep C T ρ1 σ H1) (r : Rep C (L ++ T) ρ σ H) (h : VRep C (L ++ T) ρ σ H x v) (hf : ∀ a ∈ tmps x v, H1 a = none) (hl : ∀ i, x ≠ .l i) (e : derf ρ x = some d) : Dr C.K (Reg C T ρ σ) H v d := by
  cases x with
  | v z => cases e; exact h.mono fun _ _ g _ => g.lessL
  | f z =>
    cases e
    obtain ⟨a, rfl, m, t⟩ := h
    have ht : Top C.K (Reg C T ρ σ) H a d := t.keep Keep.refl (fun _ _ g _ => g.lessL) fun _ z => z
    refine ht.dr (tmp_reg r m fun z => ?_)
    obtain ⟨o, q⟩ := r0.tmpAt a z
    rw [hf a (by simp [tmps])] at q
    cases q
  | l i => exact absurd rfl (hl i)
/-- no slot's list among the values -/
def noL : List VR → Prop
  | [] => True
  | x :: xs => (∀ i, x ≠ .l i) ∧ noL xs
theorem keep_vs (r0 : Rep C T ρ1 σ H1) (r : Rep C (L ++ T) ρ σ H) : ∀ {xs : List VR} {vs : List V} {ds : List D}, VReps C (L ++ T) ρ σ H xs vs → frs H1 xs vs → noL xs → derfs ρ xs = some ds → Drs C.K (Reg C T ρ σ) H vs ds
  | _, _, _, .nil, _, _, e => by cases e; exact .nil
  | x :: xs, _, _, .cons h t, f, n, e => by
    unfold derfs at e
    split at e
    · rename_i d ds e1 e2
      cases e
      exact .cons (keep_v r0 r h f.1 n.1 e1) (keep_vs r0 r t f.2 n.2 e2)
    · cases e
theorem noL_keeps (h : x.keeps = true) : ∀ i, x ≠ .l i := fun i z => by subst z; cases h
theorem noL_Es : ∀ {ms : List ME} {ρ : Rho} {xs : List VR} {ρ' : Rho}, evEs F ms ρ = .ok xs ρ' → noL xs
  | [], _, _, _, h => by
    unfold evEs at h
    cases h
    trivial
  | m :: ms, ρ, xs, ρ', h => by
    unfold evEs at h
    cases q : evE F false m ρ with
    | no => rw [q] at h; cases h
    | exc c d ρ1 => rw [q] at h; cases h
    | ok x ρ1 =>
      rw [q] at h
      simp only [Rs.bind_ok] at h
      split at h
      · rename_i hk
        cases q2 : evEs F ms ρ1 with
        | no => rw [q2] at h; cases h
        | exc c d ρ1 => rw [q2] at h; cases h
        | ok ys ρ2 =>
          rw [q2] at h
          cases h
          exact ⟨noL_keeps hk, noL_Es q2⟩
      · cases h

/-! ### displays -/
theorem tup_E {X : Cx} {ms : List ME} {u : Bool} {es : List Expr} {k : Nat} {pos : Pos} (ha : PA X es (rdL C W (evEs F ms))) : PE X (.Tuple es k pos) (rdE C F W u (.tup ms)) := by
  refine imp_E (pe_tup ha) fun σ H Q ⟨T, ρ, r, h⟩ => ?_
  unfold evE at h
  refine ⟨T, ρ, r, ?_⟩
  cases q : evEs F ms ρ with
  | no => rw [q] at h; exact h
  | exc c d ρ1 => rw [q] at h; exact h
  | ok xs ρ1 =>
    rw [q] at h
    intro vs H1 ⟨s, r1, q1, n1, f1⟩
    simp only [Rs.bind_ok] at h
    split at h
    · rename_i ds e
      split at h
      · rename_i hz
        have kd := keep_vs r r1 q1 (frs_of n1) (noL_Es q) e
        have r2 := r1.lessL
        have hl : vs.length ≤ sizeLine := by rw [kd.length]; exact small_le hz
        exact ⟨hl, fun p hp => h _ _ (EPost.of (L := []) s r2 (.tup r2 hp kd))⟩
      · exact h.elim
    · exact h.elim
theorem lst_E {X : Cx} {ms : List ME} {u : Bool} {es : List Expr} {pos : Pos} (ha : PA X es (rdL C W (evEs F ms))) : PE X (.List es pos) (rdE C F W u (.lst ms)) := by
  refine imp_E (pe_lst ha) fun σ H Q ⟨T, ρ, r, h⟩ => ?_
  unfold evE at h
  refine ⟨T, ρ, r, ?_⟩
  cases q : evEs F ms ρ with
  | no => rw [q] at h; exact h
  | exc c d ρ1 => rw [q] at h; exact h
  | ok xs ρ1 =>
    rw [q] at h
    intro vs H1 ⟨s, r1, q1, n1, f1⟩
    simp only [Rs.bind_ok] at h
    split at h
    · rename_i ds e
      split at h
      · rename_i hz
        have kd := keep_vs r r1 q1 (frs_of n1) (noL_Es q) e
        have r2 := r1.lessL
        have hl : vs.length ≤ sizeLine := by rw [kd.length]; exact small_le hz
        exact ⟨hl, fun p hp => h _ _ (EPost.of (L := []) s r2 (.lst r2 hp kd))⟩
      · exact h.elim
    · exact h.elim

/-! ### built-ins -/
theorem blt_E {X : Cx} (G : Good X C F W g) {b : Blt} {ms : List ME} {u : Bool} {x : Str} {p pos : Pos} {e : Expr} {es : List Expr} (hx : x = b.name) (hg : glB X.env.scope x = true) (ho : okName x = true)
    (hb : (match b.isMod with | none => g.blts.contains x | some id => g.mods.contains (x, id)) = true) (hs : noStars (e :: es) = true) (ha : PA X (e :: es) (rdL C W (evOs F ms))) : PE X (.Call (.Name x p) (e :: es) [] pos) (rdE C F W u (.blt b ms)) := by
  have hn := ho
  unfold okName at hn
  simp only [Bool.and_eq_true, Bool.not_eq_true'] at hn
  have hd : (x == ("__debug__" : Str)) = false := hn.1.1
  have hne : x ≠ "__name__" := by
    have := hn.2
    simpa using this
  simp only [noStars, Bool.and_eq_true] at hs
  have hst := star_cons (es := es) (env := X.env) hs.1
  have hpl := noStars_plain (es := es) (env := X.env) (pos := pos) hs.2
  have key : ∀ σ H Q, rdE C F W u (.blt b ms) σ H Q → tCB (CallU X b.val) (rdL C W (evOs F ms)) σ H Q := fun σ H Q ⟨T, ρ, r, h⟩ => by
    unfold evE at h
    refine ⟨T, ρ, r, ?_⟩
    cases q : evOs F ms ρ with
    | no => rw [q] at h; exact h
    | exc c d ρ1 => rw [q] at h; exact h
    | ok xs ρ1 =>
      rw [q] at h
      intro vs H1 ⟨s, r1, q1, n1, f1⟩
      simp only [Rs.bind_ok] at h
      split at h
      · rename_i ds e
        cases q2 : bltop b ds with
        | none => rw [q2] at h; exact h.elim
        | some z =>
          rw [q2] at h
          exact blt_ok G.K G.calm G.gd (Nat.lt_of_le_of_lt (Nat.add_le_add_left (by decide) _) G.hu) r1 q2 (derfs_dx r1 q1 e) fun u H' p => h u H' (EPost.of s r1 p)
      · exact h.elim
  subst hx
  cases hm : b.isMod with
  | none =>
    rw [hm] at hb
    have hmg : X.mg b.name = none := G.blt _ (by simpa using hb)
    cases hv : b.val with
    | builtin id =>
      have hboot : bootBuiltins b.name = some (.builtin id) := by cases b <;> simp [Blt.isMod] at hm <;> simp [Blt.val] at hv <;> subst hv <;> decide +kernel
      rw [hv] at key
      exact imp_E (pe_callB call_u (gl_of hg) hmg hboot ha hne hd hst hpl) key
    | type id =>
      have hboot : bootBuiltins b.name = some (.type id) := by cases b <;> simp [Blt.isMod] at hm <;> simp [Blt.val] at hv <;> subst hv <;> decide +kernel
      rw [hv] at key
      exact imp_E (pe_callTy call_u (gl_of hg) hmg hboot ha hne hd hst hpl) key
    | _ => cases b <;> simp [Blt.val] at hv
  | some id =>
    rw [hm] at hb
    have hmg : X.mg b.name = some (.builtin id) := G.mods _ _ (by simpa using hb)
    have hv : b.val = .builtin id := by cases b <;> simp [Blt.isMod] at hm <;> subst hm <;> rfl
    rw [hv] at key
    exact imp_E (pe_callBfun call_u (gl_of hg) hmg ha hd hst hpl) key
end
end Own

/-! part Own9 -/
namespace Own
open PySem PySem.Spec L2

/-- the addresses that are lent, in order -/
def lentA : List Bool → List V → List Addr
  | true :: bs, .ref a :: vs => a :: lentA bs vs
  | _ :: bs, _ :: vs => lentA bs vs
  | _, _ => []
section
variable {α β : Type} {C : Cn} {F : Fns} {W : WX} {g : Gi} {T L : List Addr} {ρ ρ1 ρ2 : Rho} {σ : St} {H H1 H2 H3 : Hp} {x y : VR} {v w : V} {d e : D}
theorem isOwn_at {i : Nat} (h : isOwn ρ i = true) : ∃ d, ρ[i]? = some (.own d) := by
  unfold isOwn at h
  split at h
  · rename_i d e
    exact ⟨d, e⟩
  · cases h
theorem tmpsL_at : ∀ {xs : List VR} {vs : List V}, VReps C L ρ σ H xs vs → ∀ a ∈ tmpsL xs vs, ∃ o, H a = some o ∧ ¬ Fx o
  | [], _, .nil, a, m => nomatch m
  | x :: xs, v :: vs, .cons h t, a, m => by
    rcases List.mem_append.mp m with m | m
    · exact tmpsL_at t a m
    · cases x with
      | v d => cases v <;> simp [tmps] at m
      | l d => cases v <;> simp [tmps] at m
      | f d =>
        obtain ⟨b, rfl, _, tp⟩ := h
        simp [tmps] at m
        subst m
        exact tp.at
/-- a lent address is an own list of a lent slot, or a new list -/
theorem lentA_mem (r : Rep C L ρ σ H) : ∀ {xs : List VR} {bs : List Bool} {vs : List V}, VReps C L ρ σ H xs vs → lendOk ρ xs bs = true → ∀ a ∈ lentA bs vs,
    (∃ i ∈ lentOf xs bs, σ[i]? = some (some (.ref a)) ∧ ∃ d, ρ[i]? = some (.own d)) ∨ a ∈ tmpsL xs vs
  | [], [], _, .nil, _, a, h => nomatch h
  | [], _ :: _, _, .nil, h, _, _ => by cases h
  | _ :: _, [], _, .cons _ _, h, _, _ => by
    rename_i x xs v vs _ _
    cases x <;> simp [lendOk] at h
  | .l i :: xs, true :: bs, v :: vs, .cons h1 t, h, a, ha => by
    simp only [lendOk, Bool.and_eq_true] at h
    obtain ⟨d, e⟩ := isOwn_at h.1
    obtain ⟨b, e1, _⟩ := r.own i d e
    rw [show σ[i]? = some (some v) from h1] at e1
    cases e1
    rcases List.mem_cons.mp ha with z | z
    · subst z
      exact .inl ⟨i, List.mem_cons_self, h1, d, e⟩
    · rcases lentA_mem r t h.2 a z with ⟨j, hj, q⟩ | q
      · exact .inl ⟨j, List.mem_cons_of_mem _ hj, q⟩
      · exact .inr (List.mem_append_left _ q)
  | .f d :: xs, true :: bs, v :: vs, .cons h1 t, h, a, ha => by
    obtain ⟨b, rfl, m, tp⟩ := h1
    have h' : lendOk ρ xs bs = true := h
    rcases List.mem_cons.mp ha with z | z
    · subst z
      exact .inr (List.mem_append_right _ (by simp [tmps]))
    · rcases lentA_mem r t h' a z with ⟨j, hj, q⟩ | q
      · exact .inl ⟨j, hj, q⟩
      · exact .inr (List.mem_append_left _ q)
  | .v d :: xs, false :: bs, v :: vs, .cons h1 t, h, a, ha => by
    have h' : lendOk ρ xs bs = true := h
    have ha' : a ∈ lentA bs vs := by cases v <;> exact ha
    rcases lentA_mem r t h' a ha' with ⟨j, hj, q⟩ | q
    · exact .inl ⟨j, hj, q⟩
    · exact .inr (List.mem_append_left _ q)
  | .f d :: xs, false :: bs, v :: vs, .cons h1 t, h, a, ha => by
    have h' : lendOk ρ xs bs = true := h
    have ha' : a ∈ lentA bs vs := by cases v <;> exact ha
    rcases lentA_mem r t h' a ha' with ⟨j, hj, q⟩ | q
    · exact .inl ⟨j, hj, q⟩
    · exact .inr (List.mem_append_left _ q)
  | .v d :: xs, true :: bs, v :: vs, .cons h1 t, h, a, ha => by cases h
  | .l d :: xs, false :: bs, v :: vs, .cons h1 t, h, a, ha => by cases h
theorem lentA_nodup (r : Rep C (L ++ T) ρ σ H) : ∀ {xs : List VR} {bs : List Bool} {vs : List V}, VReps C (L ++ T) ρ σ H xs vs → lendOk ρ xs bs = true → (lentOf xs bs).Nodup → (tmpsL xs vs).Nodup → (∀ a ∈ tmpsL xs vs, a ∈ L) → (lentA bs vs).Nodup
  | [], [], _, .nil, _, _, _, _ => List.nodup_nil
  | [], _ :: _, _, .nil, h, _, _, _ => by cases h
  | _ :: _, [], _, .cons _ _, h, _, _, _ => by
    rename_i x xs v vs _ _
    cases x <;> simp [lendOk] at h
  | .l i :: xs, true :: bs, v :: vs, .cons h1 t, h, hl, hn, hL => by
    simp only [lendOk, Bool.and_eq_true] at h
    obtain ⟨d, e⟩ := isOwn_at h.1
    obtain ⟨b, e1, _⟩ := r.own i d e
    rw [show σ[i]? = some (some v) from h1] at e1
    cases e1
    have hl' := List.nodup_cons.mp hl
    have hn' := (List.nodup_append.mp hn).1
    have hL' : ∀ a ∈ tmpsL xs vs, a ∈ L := fun a m => hL a (List.mem_append_left _ m)
    refine List.nodup_cons.mpr ⟨fun m => ?_, lentA_nodup r t h.2 hl'.2 hn' hL'⟩
    rcases lentA_mem r t h.2 b m with ⟨j, hj, q1, d', q2⟩ | q
    · have : i = j := r.apart i j d d' b e q2 h1 q1
      exact hl'.1 (this ▸ hj)
    · exact r.ownT b ⟨i, d, e, h1⟩ (List.mem_append_left _ (hL' b q))
  | .f d :: xs, true :: bs, v :: vs, .cons h1 t, h, hl, hn, hL => by
    obtain ⟨b, rfl, m, tp⟩ := h1
    have h' : lendOk ρ xs bs = true := h
    have hn' := List.nodup_append.mp hn
    have hL' : ∀ a ∈ tmpsL xs vs, a ∈ L := fun a m => hL a (List.mem_append_left _ m)
    refine List.nodup_cons.mpr ⟨fun z => ?_, lentA_nodup r t h' hl hn'.1 hL'⟩
    rcases lentA_mem r t h' b z with ⟨j, hj, q1, d', q2⟩ | q
    · exact r.ownT b ⟨j, d', q2, q1⟩ m
    · exact hn'.2.2 b q b (by simp [tmps]) rfl
  | .v d :: xs, false :: bs, v :: vs, .cons h1 t, h, hl, hn, hL => by
    have e : lentA (false :: bs) (v :: vs) = lentA bs vs := by cases v <;> rfl
    rw [e]
    exact lentA_nodup r t h hl (List.nodup_append.mp hn).1 fun a m => hL a (List.mem_append_left _ m)
  | .f d :: xs, false :: bs, v :: vs, .cons h1 t, h, hl, hn, hL => by
    have e : lentA (false :: bs) (v :: vs) = lentA bs vs := by cases v <;> rfl
    rw [e]
    exact lentA_nodup r t h hl (List.nodup_append.mp hn).1 fun a m => hL a (List.mem_append_left _ m)
  | .v d :: xs, true :: bs, v :: vs, .cons h1 t, h, _, _, _ => by cases h
  | .l d :: xs, false :: bs, v :: vs, .cons h1 t, h, _, _, _ => by cases h
/-- what the callee may not meet -/
def outC (C : Cn) (T : List Addr) (ρ : Rho) (σ : St) (A : List Addr) (a : Addr) : Prop := C.out a ∨ ((a ∈ T ∨ Owns ρ σ a) ∧ a ∉ A)
def namC (C : Cn) (ρ : Rho) (σ : St) (a : Addr) : Prop := C.nam a ∨ Nams ρ σ a
theorem regC_of {A : List Addr} (hA : ∀ a ∈ A, Owns ρ σ a ∨ a ∈ L) {nm : Bool} {a : Addr} (q : Reg C (L ++ T) ρ σ nm a) : RegC (outC C T ρ σ A) (namC C ρ σ) A nm a :=
  ⟨fun z => z.elim q.out fun z => z.1.elim (fun m => q.tmp (List.mem_append_right _ m)) q.own, fun m => (hA a m).elim q.own fun z => q.tmp (List.mem_append_left _ z), q.nam⟩
theorem reg_ofC {A : List Addr} {nm : Bool} {a : Addr} (q : RegC (outC C T ρ σ A) (namC C ρ σ) A nm a) : Reg C T ρ σ nm a :=
  ⟨fun z => q.out (.inl z), fun m => q.out (.inr ⟨.inl m, q.lent⟩), fun m => q.out (.inr ⟨.inr m, q.lent⟩), q.nam⟩
/-- the arguments as the callee wants them -/
theorem ar_of (r : Rep C (L ++ T) ρ σ H) {A : List Addr} (hA : ∀ a ∈ A, Owns ρ σ a ∨ a ∈ L) (hT : ∀ a ∈ L, a ∉ T) : ∀ {xs : List VR} {bs : List Bool} {vs : List V} {ds : List D}, VReps C (L ++ T) ρ σ H xs vs → lendOk ρ xs bs = true → derfs ρ xs = some ds →
    (∀ a ∈ tmpsL xs vs, a ∈ L) → (tmpsL xs vs).Nodup → (∀ a ∈ A, a ∈ lentA bs vs ∨ a ∉ tmpsL xs vs) → (∀ a ∈ lentA bs vs, a ∈ A) → Ar C.K (RegC (outC C T ρ σ A) (namC C ρ σ) A) H bs vs ds (lentA bs vs)
  | [], [], _, _, .nil, _, e, _, _, _, _ => by cases e; exact .nil
  | [], _ :: _, _, _, .nil, h, _, _, _, _, _ => by cases h
  | _ :: _, [], _, _, .cons _ _, h, _, _, _, _, _ => by
    rename_i x xs v vs _ _
    cases x <;> simp [lendOk] at h
  | x :: xs, b :: bs, v :: vs, ds, .cons h1 t, h, e, hL, hn, hA2, hA3 => by
    unfold derfs at e
    split at e
    case h_2 => cases e
    rename_i d ds' e1 e2
    cases e
    have hn' := List.nodup_append.mp hn
    have hL' : ∀ a ∈ tmpsL xs vs, a ∈ L := fun a m => hL a (List.mem_append_left _ m)
    have mono : ∀ nm a, Reg C (L ++ T) ρ σ nm a → (∃ o, H a = some o) → RegC (outC C T ρ σ A) (namC C ρ σ) A nm a := fun nm a q _ => regC_of hA q
    match x, b, h1, h, e1 with
    | .l i, true, h1, h, e1 =>
      simp only [lendOk, Bool.and_eq_true] at h
      obtain ⟨d', e'⟩ := isOwn_at h.1
      obtain ⟨c, q1, q2⟩ := r.own i d' e'
      rw [show σ[i]? = some (some v) from h1] at q1
      cases q1
      have : d' = d := by
        simp only [derf, e'] at e1
        cases e1
        rfl
      subst this
      exact .l (q2.keep Keep.refl mono fun _ z => z) (ar_of r hA hT t h.2 e2 hL' hn'.1 (fun a m => (hA2 a m).elim (fun z => (List.mem_cons.mp z).elim (fun z => .inr fun w => by
        subst z
        exact r.ownT a ⟨i, d', e', h1⟩ (List.mem_append_left _ (hL' a w))) .inl) fun z => .inr fun w => z (List.mem_append_left _ w)) fun a m => hA3 a (List.mem_cons_of_mem _ m))
    | .f d', true, h1, h, e1 =>
      obtain ⟨c, rfl, m, tp⟩ := h1
      cases e1
      have h' : lendOk ρ xs bs = true := h
      exact .l (tp.keep Keep.refl mono fun _ z => z) (ar_of r hA hT t h' e2 hL' hn'.1 (fun a m => (hA2 a m).elim (fun z => (List.mem_cons.mp z).elim (fun z => .inr fun w => by
        subst z
        exact hn'.2.2 a w a (by simp [tmps]) rfl) .inl) fun z => .inr fun w => z (List.mem_append_left _ w)) fun a m => hA3 a (List.mem_cons_of_mem _ m))
    | .v d', false, h1, h, e1 =>
      cases e1
      have h' : lendOk ρ xs bs = true := h
      have el : lentA (false :: bs) (v :: vs) = lentA bs vs := by cases v <;> rfl
      rw [el] at hA2 hA3 ⊢
      exact .v (h1.mono mono) (ar_of r hA hT t h' e2 hL' hn'.1 (fun a m => (hA2 a m).imp id fun z w => z (List.mem_append_left _ w)) hA3)
    | .f d', false, h1, h, e1 =>
      obtain ⟨c, rfl, m, tp⟩ := h1
      cases e1
      have h' : lendOk ρ xs bs = true := h
      have el : lentA (false :: bs) (V.ref c :: vs) = lentA bs vs := rfl
      rw [el] at hA2 hA3 ⊢
      have hc : c ∈ L := hL c (List.mem_append_right _ (by simp [tmps]))
      have tp' : Top C.K (RegC (outC C T ρ σ A) (namC C ρ σ) A) H c d := tp.keep Keep.refl mono fun _ z => z
      have rc : RegC (outC C T ρ σ A) (namC C ρ σ) A false c := by
        refine ⟨fun z => z.elim (r.new c (.inr m)).1 fun z => z.1.elim (hT c hc) fun o => r.ownT c o m, fun z => ?_, ?_⟩
        · rcases hA2 c z with q | q
          · rcases lentA_mem r t h' c q with ⟨j, _, q1, d2, q2⟩ | q2
            · exact r.ownT c ⟨j, d2, q2, q1⟩ m
            · exact hn'.2.2 c q2 c (by simp [tmps]) rfl
          · exact q (List.mem_append_right _ (by simp [tmps]))
        · have := r.ownN c (.inr m)
          simp [namC, this]
      exact .v (tp'.dr rc) (ar_of r hA hT t h' e2 hL' hn'.1 (fun a m => (hA2 a m).imp id fun z w => z (List.mem_append_left _ w)) hA3)
/-- the own and named lists are the same ones behind the call -/
theorem backL_len : ∀ {xs : List VR} {bs : List Bool} {es : List D} {ρ : Rho}, (backL ρ xs bs es).length = ρ.length
  | [], bs, es, ρ => by unfold backL; rfl
  | x :: xs, [], es, ρ => by cases x <;> (unfold backL; rfl)
  | x :: xs, true :: bs, [], ρ => by cases x <;> (unfold backL; rfl)
  | .l i :: xs, true :: bs, e :: es, ρ => by unfold backL; rw [backL_len, List.length_set]
  | .v _ :: xs, true :: bs, e :: es, ρ => by unfold backL; exact backL_len
  | .f _ :: xs, true :: bs, e :: es, ρ => by unfold backL; exact backL_len
  | .l i :: xs, false :: bs, es, ρ => by unfold backL; exact backL_len
  | .v _ :: xs, false :: bs, es, ρ => by unfold backL; exact backL_len
  | .f _ :: xs, false :: bs, es, ρ => by unfold backL; exact backL_len
theorem backL_not : ∀ {xs : List VR} {bs : List Bool} {es : List D} {ρ : Rho} {j : Nat}, j ∉ lentOf xs bs → (backL ρ xs bs es)[j]? = ρ[j]?
  | [], bs, es, ρ, j, h => by unfold backL; rfl
  | x :: xs, [], es, ρ, j, h => by cases x <;> (unfold backL; rfl)
  | x :: xs, true :: bs, [], ρ, j, h => by cases x <;> (unfold backL; rfl)
  | .l i :: xs, true :: bs, e :: es, ρ, j, h => by
    have h' : j ≠ i ∧ j ∉ lentOf xs bs := by simpa [lentOf] using h
    unfold backL
    rw [backL_not h'.2, List.getElem?_set_ne (Ne.symm h'.1)]
  | .v _ :: xs, true :: bs, e :: es, ρ, j, h => by unfold backL; exact backL_not h
  | .f _ :: xs, true :: bs, e :: es, ρ, j, h => by unfold backL; exact backL_not h
  | .l i :: xs, false :: bs, es, ρ, j, h => by unfold backL; exact backL_not h
  | .v _ :: xs, false :: bs, es, ρ, j, h => by unfold backL; exact backL_not h
  | .f _ :: xs, false :: bs, es, ρ, j, h => by unfold backL; exact backL_not h
/-- a lent slot behind the call -/
theorem backL_at {K : PySem.W.Frag} {R : Bool → Addr → Prop} {ρ0 : Rho} (r : Rep C L ρ0 σ H) : ∀ {xs : List VR} {bs : List Bool} {es : List D} {vs : List V} {ρ : Rho}, VReps C L ρ0 σ H xs vs → lendOk ρ0 xs bs = true → (lentOf xs bs).Nodup → Lr K R H2 (lentA bs vs) es → ρ0.length = ρ.length →
    (∀ i ∈ lentOf xs bs, ∃ e, ρ0[i]? = some (.own e)) → ∀ j ∈ lentOf xs bs, ∃ e a, (backL ρ xs bs es)[j]? = some (.own e) ∧ σ[j]? = some (some (.ref a)) ∧ Top K R H2 a e
  | [], bs, es, _, ρ, _, _, _, _, _, _, j, h => by simp [lentOf] at h
  | x :: xs, [], es, _, ρ, _, h, _, _, _, _, _, _ => by cases x <;> simp [lendOk] at h
  | .l i :: xs, true :: bs, es, v :: vs, ρ, .cons h1 t, h, hl, q, le, ho, j, hj => by
    simp only [lendOk, Bool.and_eq_true] at h
    have hl' := List.nodup_cons.mp hl
    obtain ⟨d, e0⟩ := isOwn_at h.1
    obtain ⟨b, w1, _⟩ := r.own i d e0
    rw [show σ[i]? = some (some v) from h1] at w1
    cases w1
    cases q with
    | cons q1 q2 =>
      rename_i e es
      unfold backL
      rcases List.mem_cons.mp hj with z | z
      · subst z
        refine ⟨e, b, ?_, h1, q1⟩
        rw [backL_not hl'.1]
        obtain ⟨e', w⟩ := ho j List.mem_cons_self
        have : j < ρ.length := by rw [← le]; exact (List.getElem?_eq_some_iff.mp w).1
        rw [List.getElem?_set_self this]
      · exact backL_at r t h.2 hl'.2 q2 (by rw [List.length_set]; exact le) (fun k hk => ho k (List.mem_cons_of_mem _ hk)) j z
  | .f d :: xs, true :: bs, es, v :: vs, ρ, .cons h1 t, h, hl, q, le, ho, j, hj => by
    obtain ⟨b, rfl, m, tp⟩ := h1
    cases q with
    | cons q1 q2 =>
      unfold backL
      exact backL_at r t h hl q2 le ho j hj
  | .v d :: xs, false :: bs, es, v :: vs, ρ, .cons h1 t, h, hl, q, le, ho, j, hj => by
    have el : lentA (false :: bs) (v :: vs) = lentA bs vs := by cases v <;> rfl
    rw [el] at q
    unfold backL
    exact backL_at r t h hl q le ho j hj
  | .f d :: xs, false :: bs, es, v :: vs, ρ, .cons h1 t, h, hl, q, le, ho, j, hj => by
    have el : lentA (false :: bs) (v :: vs) = lentA bs vs := by cases v <;> rfl
    rw [el] at q
    unfold backL
    exact backL_at r t h hl q le ho j hj
  | .v d :: xs, true :: bs, _, v :: vs, ρ, .cons h1 t, h, _, _, _, _, _, _ => by cases h
  | .l d :: xs, false :: bs, _, v :: vs, ρ, .cons h1 t, h, _, _, _, _, _, _ => by cases h
/-- behind a call: the frame's state -/
theorem back_rep {xs : List VR} {bs : List Bool} {vs : List V} {es : List D} {Ex : List Addr} (r1 : Rep C (L ++ T) ρ1 σ H1) (hT : ∀ a ∈ L, a ∉ T) (q1 : VReps C (L ++ T) ρ1 σ H1 xs vs) (hL : ∀ a ∈ tmpsL xs vs, a ∈ L)
    (ok : lendOk ρ1 xs bs = true) (nl : (lentOf xs bs).Nodup) (kp : ∀ a o, H1 a = some o → a ∉ lentA bs vs → H2 a = some o) (hE : ∀ a ∈ Ex, H1 a = none ∧ ∃ o, H2 a = some o)
    (hl : Lr C.K (RegC (outC C T ρ1 σ (lentA bs vs)) (namC C ρ1 σ) (Ex ++ lentA bs vs)) H2 (lentA bs vs) es) :
    Rep C (Ex ++ T) (backL ρ1 xs bs es) σ H2 ∧ (∀ a, Owns (backL ρ1 xs bs es) σ a ↔ Owns ρ1 σ a) ∧ (∀ a, Nams (backL ρ1 xs bs es) σ a ↔ Nams ρ1 σ a) ∧
      ∀ nm a, RegC (outC C T ρ1 σ (lentA bs vs)) (namC C ρ1 σ) (Ex ++ lentA bs vs) nm a → Reg C (Ex ++ T) (backL ρ1 xs bs es) σ nm a := by
  have hA : ∀ a ∈ lentA bs vs, Owns ρ1 σ a ∨ a ∈ L := fun a m => by
    rcases lentA_mem r1 q1 ok a m with ⟨i, _, e1, d, e2⟩ | q
    · exact .inl ⟨i, d, e2, e1⟩
    · exact .inr (hL a q)
  have hown : ∀ i ∈ lentOf xs bs, ∃ e, ρ1[i]? = some (.own e) := by
    have : ∀ {xs : List VR} {bs : List Bool}, lendOk ρ1 xs bs = true → ∀ i ∈ lentOf xs bs, ∃ e, ρ1[i]? = some (.own e) := by
      intro xs
      induction xs with
      | nil => intro bs _ i h; simp [lentOf] at h
      | cons x xs ih =>
        intro bs h i hi
        cases bs with
        | nil => cases x <;> simp [lendOk] at h
        | cons b bs =>
          cases x <;> cases b <;> simp [lendOk] at h <;> simp [lentOf] at hi
          · exact ih h i hi
          · exact ih h i hi
          · exact ih h i hi
          · rcases hi with hi | hi
            · subst hi
              exact isOwn_at h.1
            · exact ih h.2 i hi
    exact this ok
  have at_ := fun j hj => backL_at r1 q1 ok nl hl rfl hown j hj
  -- which slots are which
  have get : ∀ (j : Nat) z, (backL ρ1 xs bs es)[j]? = some z → (j ∉ lentOf xs bs ∧ ρ1[j]? = some z) ∨ (j ∈ lentOf xs bs ∧ ∃ e, z = .own e) := fun j z h => by
    by_cases hj : j ∈ lentOf xs bs
    · obtain ⟨e, a, h1, _⟩ := at_ j hj
      rw [h] at h1
      cases h1
      exact .inr ⟨hj, e, rfl⟩
    · rw [backL_not hj] at h
      exact .inl ⟨hj, h⟩
  have ow : ∀ a, Owns (backL ρ1 xs bs es) σ a ↔ Owns ρ1 σ a := fun a => by
    constructor
    · rintro ⟨j, d, h1, h2⟩
      rcases get j _ h1 with ⟨_, h3⟩ | ⟨hj, _⟩
      · exact ⟨j, d, h3, h2⟩
      · obtain ⟨e, he⟩ := hown j hj
        exact ⟨j, e, he, h2⟩
    · rintro ⟨j, d, h1, h2⟩
      by_cases hj : j ∈ lentOf xs bs
      · obtain ⟨e, b, h3, _⟩ := at_ j hj
        exact ⟨j, e, h3, h2⟩
      · exact ⟨j, d, by rw [backL_not hj]; exact h1, h2⟩
  have nw : ∀ a, Nams (backL ρ1 xs bs es) σ a ↔ Nams ρ1 σ a := fun a => by
    constructor
    · rintro ⟨j, d, h1, h2⟩
      rcases get j _ h1 with ⟨_, h3⟩ | ⟨hj, e, z⟩
      · exact ⟨j, d, h3, h2⟩
      · cases z
    · rintro ⟨j, d, h1, h2⟩
      have hj : j ∉ lentOf xs bs := fun hj => by
        obtain ⟨e, he⟩ := hown j hj
        rw [h1] at he
        cases he
      exact ⟨j, d, by rw [backL_not hj]; exact h1, h2⟩
  have hEo : ∀ a ∈ Ex, ¬ Owns ρ1 σ a ∧ ¬ Nams ρ1 σ a ∧ ¬ C.out a ∧ ¬ C.nam a ∧ C.H0 a = none := fun a m => by
    have hn := (hE a m).1
    refine ⟨fun o => ?_, fun o => ?_, fun o => ?_, fun o => ?_, r1.h0 hn⟩
    · obtain ⟨u, hu, _⟩ := r1.ownAt o
      rw [hn] at hu; cases hu
    · obtain ⟨u, hu⟩ := r1.namAt o
      rw [hn] at hu; cases hu
    · obtain ⟨u, hu⟩ := r1.outAt (.inl o)
      rw [hn] at hu; cases hu
    · obtain ⟨u, hu⟩ := r1.outAt (.inr o)
      rw [hn] at hu; cases hu
  have rg : ∀ nm a, RegC (outC C T ρ1 σ (lentA bs vs)) (namC C ρ1 σ) (Ex ++ lentA bs vs) nm a → Reg C (Ex ++ T) (backL ρ1 xs bs es) σ nm a := fun nm a q => by
    have hne : a ∉ lentA bs vs := fun z => q.lent (List.mem_append_right _ z)
    refine ⟨fun z => q.out (.inl z), fun m => ?_, fun m => q.out (.inr ⟨.inr ((ow a).mp m), hne⟩), ?_⟩
    · rcases List.mem_append.mp m with m | m
      · exact q.lent (List.mem_append_left _ m)
      · exact q.out (.inr ⟨.inl m, hne⟩)
    · rw [nw a]
      exact q.nam
  -- what stood before and was not lent
  have old : ∀ nm a, Reg C (L ++ T) ρ1 σ nm a → (∃ o, H1 a = some o) → Reg C (Ex ++ T) (backL ρ1 xs bs es) σ nm a := fun nm a q ⟨o, e⟩ => by
    refine ⟨q.out, fun m => ?_, fun m => q.own ((ow a).mp m), by rw [nw a]; exact q.nam⟩
    rcases List.mem_append.mp m with m | m
    · rw [(hE a m).1] at e; cases e
    · exact q.tmp (List.mem_append_right _ m)
  have nt : ∀ a ∈ lentA bs vs, ∀ o, H1 a = some o → ¬ Fx o := fun a m o e => by
    rcases lentA_mem r1 q1 ok a m with ⟨i, _, e1, d, e2⟩ | q
    · obtain ⟨o', e', n⟩ := r1.ownAt ⟨i, d, e2, e1⟩
      rw [e] at e'; cases e'
      exact n
    · obtain ⟨o', e', n⟩ := tmpsL_at q1 a q
      rw [e] at e'; cases e'
      exact n
  have kr : Keep (Reg C (L ++ T) ρ1 σ) H1 H2 := ⟨fun nm a o q e => kp a o e fun m => (hA a m).elim q.own fun z => q.tmp (List.mem_append_left _ z), fun a o q e => kp a o e fun m => nt a m o e q⟩
  refine ⟨?_, ow, nw, rg⟩
  exact {
    len := by rw [backL_len]; exact r1.len
    val := fun j d h => by
      rcases get j _ h with ⟨_, h3⟩ | ⟨_, e, z⟩
      · obtain ⟨v, h4, h5⟩ := r1.val j d h3
        exact ⟨v, h4, h5.keep kr old⟩
      · cases z
    own := fun j d h => by
      by_cases hj : j ∈ lentOf xs bs
      · obtain ⟨e, a, h3, h4, h5⟩ := at_ j hj
        rw [h] at h3
        cases h3
        exact ⟨a, h4, h5.keep Keep.refl (fun nm a q _ => rg nm a q) fun _ z => z⟩
      · have h3 := h
        rw [backL_not hj] at h3
        obtain ⟨a, h4, h5⟩ := r1.own j d h3
        refine ⟨a, h4, h5.keep kr old fun o e => kp a o e fun m => ?_⟩
        rcases lentA_mem r1 q1 ok a m with ⟨i, hi, e1, d', e2⟩ | q
        · exact hj (r1.apart i j d' d a e2 h3 e1 h4 ▸ hi)
        · exact r1.ownT a ⟨j, d, h3, h4⟩ (List.mem_append_left _ (hL a q))
    nam := fun j ds h => by
      rcases get j _ h with ⟨_, h3⟩ | ⟨_, e, z⟩
      · obtain ⟨a, us, h4, h5, h6, h7⟩ := r1.nam j ds h3
        have ha : a ∉ lentA bs vs := fun m => (hA a m).elim (fun o => r1.ownN a (.inl o) (.inr ⟨j, ds, h3, h4⟩)) fun o => r1.ownN a (.inr (List.mem_append_left _ o)) (.inr ⟨j, ds, h3, h4⟩)
        exact ⟨a, us, h4, kp a _ h5 ha, h6.keep ⟨fun nm a o q e => kr.reg nm a o q.2 e, kr.fix⟩ fun nm a q e => ⟨q.1, old nm a q.2 e⟩, h7⟩
      · cases z
    apart := fun i j d e a h1 h2 h3 h4 => by
      obtain ⟨d', g1⟩ : ∃ d', ρ1[i]? = some (.own d') := by
        rcases get i _ h1 with ⟨_, z⟩ | ⟨hj, _⟩
        · exact ⟨d, z⟩
        · exact hown i hj
      obtain ⟨e', g2⟩ : ∃ d', ρ1[j]? = some (.own d') := by
        rcases get j _ h2 with ⟨_, z⟩ | ⟨hj, _⟩
        · exact ⟨e, z⟩
        · exact hown j hj
      exact r1.apart i j d' e' a g1 g2 h3 h4
    ownT := fun a h m => by
      have h' := (ow a).mp h
      rcases List.mem_append.mp m with m | m
      · exact (hEo a m).1 h'
      · exact r1.ownT a h' (List.mem_append_right _ m)
    tmpAt := fun a m => by
      rcases List.mem_append.mp m with m | m
      · exact (hE a m).2
      · obtain ⟨o, e⟩ := r1.tmpAt a (List.mem_append_right _ m)
        exact ⟨o, kp a o e fun z => (hA a z).elim (fun w => r1.ownT a w (List.mem_append_right _ m)) fun w => hT a w m⟩
    ownN := fun a h => by
      rw [nw a]
      rcases h with h | h
      · exact r1.ownN a (.inl ((ow a).mp h))
      · rcases List.mem_append.mp h with m | m
        · exact fun z => z.elim (hEo a m).2.2.2.1 (hEo a m).2.1
        · exact r1.ownN a (.inr (List.mem_append_right _ m))
    new := fun a h => by
      rcases h with h | h
      · exact r1.new a (.inl ((ow a).mp h))
      · rcases List.mem_append.mp h with m | m
        · exact ⟨(hEo a m).2.2.1, .inl (hEo a m).2.2.2.2⟩
        · exact r1.new a (.inr (List.mem_append_right _ m))
    newN := fun a h => r1.newN a ((nw a).mp h)
    frame := fun a o h n => kp a o (r1.frame a o h n) fun m => by
      rcases hA a m with z | z
      · rcases (r1.new a (.inl z)).2 with w | ⟨i, w⟩
        · rw [h] at w; cases w
        · exact n i w
      · rcases (r1.new a (.inr (List.mem_append_left _ z))).2 with w | ⟨i, w⟩
        · rw [h] at w; cases w
        · exact n i w
    cn := r1.cn
    lent := fun i a h => by
      obtain ⟨h1, d, h2⟩ := r1.lent i a h
      refine ⟨h1, ?_⟩
      by_cases hj : i ∈ lentOf xs bs
      · obtain ⟨e, b, h3, _⟩ := at_ i hj
        exact ⟨e, h3⟩
      · exact ⟨d, by rw [backL_not hj]; exact h2⟩ }
/-- THE CALL: what the run says of it is what the callee promises -/
theorem call_sp {f : Nat} {xs : List VR} {vs : List V} {Q : VK} (r0 : Rep C T ρ σ H) (h : After C W T ρ σ H (evCall F f xs ρ1) (EPost C T ρ σ H) Q) (p : LPost C T ρ σ H xs ρ1 vs H1) :
    spOf C.K C.cls (F.lend f) (F.run f) vs H1 Q fun c d H' => W c d σ H' := by
  obtain ⟨s, r1, q1, n1, nd⟩ := p
  unfold evCall at h
  split at h
  case isFalse => exact h.elim
  rename_i hc
  simp only [Bool.and_eq_true, decide_eq_true_eq] at hc
  obtain ⟨ok, nl⟩ := hc
  split at h
  · exact h.elim
  rename_i ds e
  have hT : ∀ a ∈ tmpsL xs vs, a ∉ T := fun a m z => by
    obtain ⟨o, w⟩ := r0.tmpAt a z
    rw [n1 a m] at w; cases w
  have hA : ∀ a ∈ lentA (F.lend f) vs, Owns ρ1 σ a ∨ a ∈ tmpsL xs vs := fun a m => by
    rcases lentA_mem r1 q1 ok a m with ⟨i, _, e1, d, e2⟩ | q
    · exact .inl ⟨i, d, e2, e1⟩
    · exact .inr q
  have nA := lentA_nodup r1 q1 ok nl nd fun _ m => m
  refine ⟨outC C T ρ1 σ (lentA (F.lend f) vs), namC C ρ1 σ, ds, lentA (F.lend f) vs, ar_of r1 hA hT q1 ok e (fun _ m => m) nd (fun _ m => .inl m) (fun _ m => m), nA, fun a m => ?_, fun a m => ?_, ?_⟩
  · constructor
    · rintro (z | z)
      · exact (r1.new a ((hA a m).imp id (List.mem_append_left _))).1 z
      · exact z.2 m
    · exact r1.ownN a ((hA a m).imp id (List.mem_append_left _))
  · rcases m with (m | ⟨m | m, _⟩) | (m | m)
    · exact r1.outAt (.inl m)
    · exact r1.tmpAt a (List.mem_append_right _ m)
    · obtain ⟨o, w, _⟩ := r1.ownAt m
      exact ⟨o, w⟩
    · exact r1.outAt (.inr m)
    · obtain ⟨o, w⟩ := r1.namAt m
      exact ⟨_, w⟩
  -- what a step leaves
  have step : ∀ {H2 : Hp} {ρ2 : Rho}, (∀ a o, H1 a = some o → a ∉ lentA (F.lend f) vs → H2 a = some o) → (∀ a ∈ lentA (F.lend f) vs, ∃ o, H2 a = some o) → (∀ a, Owns ρ2 σ a ↔ Owns ρ1 σ a) → (∀ a, Nams ρ2 σ a ↔ Nams ρ1 σ a) → Step ρ ρ2 σ H H2 := fun {H2 ρ2} kp th ow nw => by
    refine ⟨fun a z => s.own a ((ow a).mp z), fun a => (nw a).trans (s.nam a), fun a o e n => kp a o (s.keep a o e n) fun m => ?_, fun a o e => ?_⟩
    · rcases hA a m with z | z
      · exact n (s.own a z)
      · rw [n1 a z] at e; cases e
    · obtain ⟨o1, e1⟩ := s.there a o e
      by_cases m : a ∈ lentA (F.lend f) vs
      · exact th a m
      · exact ⟨o1, kp a o1 e1 m⟩
  have lr_at : ∀ {R : Bool → Addr → Prop} {H2 : Hp} {A : List Addr} {es : List D}, Lr C.K R H2 A es → ∀ a ∈ A, ∃ o, H2 a = some o := by
    intro R H2 A es q
    induction q with
    | nil => intro a m; cases m
    | cons t _ ih =>
      intro a m
      rcases List.mem_cons.mp m with z | z
      · subst z
        obtain ⟨o, w, _⟩ := t.at
        exact ⟨o, w⟩
      · exact ih a z
  cases hr : F.run f ds with
  | no => rw [hr] at h; exact h
  | ok x es =>
    rw [hr] at h
    intro v H2 ⟨kp, q⟩
    simp only at h
    split at h
    case isFalse => exact h.elim
    cases x with
    | l i => exact q.elim
    | v d =>
      obtain ⟨q2, q3⟩ := q
      obtain ⟨r2, ow, nw, rg⟩ := back_rep (Ex := []) r1 hT q1 (fun _ m => m) ok nl kp (fun _ m => nomatch m) q3
      exact h v H2 ⟨step kp (lr_at q3) ow nw, r2, q2.mono fun nm a z _ => rg nm a z, fun _ m => nomatch m⟩
    | f d =>
      obtain ⟨a, rfl, ha, q2, q3⟩ := q
      obtain ⟨o, w, _⟩ := q2.at
      obtain ⟨r2, ow, nw, rg⟩ := back_rep (Ex := [a]) r1 hT q1 (fun _ m => m) ok nl kp (fun b m => by
        have : b = a := by simpa using m
        subst this
        exact ⟨ha, o, w⟩) q3
      refine h (.ref a) H2 ⟨step kp (lr_at q3) ow nw, r2, ⟨a, rfl, List.mem_cons_self, q2.keep Keep.refl (fun nm b z _ => rg nm b z) fun _ z => z⟩, fun b m => ?_⟩
      have : b = a := by simpa [tmps] using m
      subst this
      exact s.none ha
  | exc c d es =>
    rw [hr] at h
    intro cl dd H2 kp q3 ⟨a, b, v, e1, e2, e3, e4, e5⟩
    obtain ⟨r2, ow, nw, rg⟩ := back_rep (Ex := []) r1 hT q1 (fun _ m => m) ok nl kp (fun _ m => nomatch m) q3
    exact h cl dd H2 ⟨step kp (lr_at q3) ow nw, r2, a, b, v, e1, e2, e3, e4, e5.mono fun nm a z _ => rg nm a z⟩
end
end Own

/-! part Own10 -/
namespace Own
open PySem PySem.Spec L2

section
variable {α β : Type} {C : Cn} {F : Fns} {W : WX} {g : Gi} {T L : List Addr} {ρ ρ1 ρ2 : Rho} {σ : St} {H H1 H2 H3 : Hp} {x y : VR} {v w : V} {d e : D}
theorem okDbg {x : Str} (h : okName x = true) : (x == ("__debug__" : Str)) = false := by
  unfold okName at h
  simp only [Bool.and_eq_true, Bool.not_eq_true'] at h
  exact h.1.1
theorem okNm {x : Str} (h : okName x = true) : x ≠ "__name__" := by
  unfold okName at h
  simp only [Bool.and_eq_true, Bool.not_eq_true'] at h
  simpa using h.2
/-! ### calls of defs -/
theorem call_E {X : Cx} (G : Good X C F W g) {f : Nat} {ms : List ME} {u : Bool} {x : Str} {ps : List Str} {p pos : Pos} {e : Expr} {es : List Expr} (hf : g.fns[f]? = some (x, ps)) (hg : glB X.env.scope x = true) (ho : okName x = true) (hs : noStars (e :: es) = true)
    (ha : PA X (e :: es) (rdL C W (evC F (F.lend f) ms))) : PE X (.Call (.Name x p) (e :: es) [] pos) (rdE C F W u (.call f ms)) := by
  obtain ⟨_, ⟨fa, fd, k, hm, hk, FG, hr, hb, _⟩⟩ := G.fns f x ps hf
  simp only [noStars, Bool.and_eq_true] at hs
  have hst := star_cons (es := es) (env := X.env) hs.1
  have hpl := noStars_plain (es := es) (env := X.env) (pos := pos) hs.2
  refine ⟨fun pins s σ H Q I ⟨T, ρ, r, h⟩ => ?_⟩
  unfold evE at h
  refine wpAny_Call_Name_kw (ld_glob I (gl_of hg) hm ?_ (okDbg ho))
  have q : rdL C W (evC F (F.lend f) ms) σ H fun vs H1 => spOf C.K C.cls (F.lend f) (F.run f) vs H1 Q fun c d H' => W c d σ H' := seq_L (L := []) .refl r h fun xs ρ2 vs H2 p2 h2 => call_sp r h2 p2
  refine PySem.W.callWith_K (h₀ := X.base) I.ok.mod.kin hk (thn (ha.run pos pins s σ H _ I q) fun us s1 ⟨vs, H1, I1, r1, q1⟩ => ⟨I1.kIn, ?_⟩) hst hpl
  have hl : us.length = ps.length := by rw [← r1.length]; exact FG.len _ _ _ _ q1
  have b := hb s1 us I1.kIn (by rw [List.append_nil]; exact hl)
  rw [List.append_nil] at b
  exact call_g FG G.gd hr G.tk I1 b r1 q1
/-! ### several values -/
theorem VReps.len : ∀ {xs : List VR} {vs : List V}, VReps C T ρ σ H xs vs → xs.length = vs.length
  | _, _, .nil => rfl
  | _, _, .cons _ t => by simp [VReps.len t]
theorem VReps.append : ∀ {xs ys : List VR} {vs ws : List V}, VReps C T ρ σ H xs vs → VReps C T ρ σ H ys ws → VReps C T ρ σ H (xs ++ ys) (vs ++ ws)
  | _, _, _, _, .nil, q => q
  | _, _, _, _, .cons h t, q => .cons h (VReps.append t q)
theorem tmpsL_append : ∀ {xs ys : List VR} {vs ws : List V}, xs.length = vs.length → tmpsL (xs ++ ys) (vs ++ ws) = tmpsL ys ws ++ tmpsL xs vs
  | [], ys, [], ws, _ => by simp [tmpsL]
  | x :: xs, ys, v :: vs, ws, h => by
    have h' : xs.length = vs.length := by simpa using h
    show tmpsL (xs ++ ys) (vs ++ ws) ++ tmps x v = tmpsL ys ws ++ (tmpsL xs vs ++ tmps x v)
    rw [tmpsL_append h', List.append_assoc]
  | [], ys, _ :: _, ws, h => by simp at h
  | _ :: _, ys, [], ws, h => by simp at h
theorem LPost.append {xs ys : List VR} {vs ws : List V} (p : LPost C T ρ σ H xs ρ1 vs H1) (q : LPost C (tmpsL xs vs ++ T) ρ1 σ H1 ys ρ2 ws H2) : LPost C T ρ σ H (xs ++ ys) ρ2 (vs ++ ws) H2 := by
  obtain ⟨s1, r1, q1, n1, d1⟩ := p
  obtain ⟨s2, r2, q2, n2, d2⟩ := q
  have e := tmpsL_append (ys := ys) (ws := ws) q1.len
  unfold LPost
  rw [e, List.append_assoc]
  refine ⟨s1.trans s2, r2, (q1.more r1 s2 n2).append q2, fun a m => ?_, List.nodup_append.mpr ⟨d2, d1, fun a ha b hb w => ?_⟩⟩
  · rcases List.mem_append.mp m with m | m
    · exact s1.none (n2 a m)
    · exact n1 a m
  · subst w
    obtain ⟨o, w⟩ := r1.tmpAt a (List.mem_append_left _ hb)
    rw [n2 a ha] at w
    cases w
def tz : List (VR × V) → List Addr
  | [] => []
  | p :: r => tz r ++ tmps p.1 p.2
theorem tz_of : ∀ {xs : List VR} {vs : List V}, tmpsL xs vs = tz (xs.zip vs)
  | [], [] => rfl
  | [], _ :: _ => rfl
  | _ :: _, [] => rfl
  | x :: xs, v :: vs => by
    show tmpsL xs vs ++ _ = tz (xs.zip vs) ++ _
    rw [tz_of]
theorem tz_perm {l l' : List (VR × V)} (h : l.Perm l') : (tz l).Perm (tz l') := by
  induction h with
  | nil => exact .refl _
  | cons x _ ih => exact ih.append_right _
  | swap x y l =>
    show ((tz l ++ tmps x.1 x.2) ++ tmps y.1 y.2).Perm ((tz l ++ tmps y.1 y.2) ++ tmps x.1 x.2)
    rw [List.append_assoc, List.append_assoc]
    exact List.Perm.append_left _ List.perm_append_comm
  | trans _ _ h1 h2 => exact h1.trans h2
theorem pick_cons_none {α : Type} {k : Nat} {inv : List Nat} {xs : List α} (h : xs[k]? = none) : pick (k :: inv) xs = pick inv xs := by
  unfold pick
  rw [List.filterMap_cons_none h]
theorem pick_cons_some {α : Type} {k : Nat} {inv : List Nat} {xs : List α} {x : α} (h : xs[k]? = some x) : pick (k :: inv) xs = x :: pick inv xs := by
  unfold pick
  rw [List.filterMap_cons_some h]
theorem none_len {α β : Type} {xs : List α} {vs : List β} {k : Nat} (e : xs.length = vs.length) (h : xs[k]? = none) : vs[k]? = none := by
  rw [List.getElem?_eq_none_iff] at h ⊢
  omega
theorem some_len {α β : Type} {xs : List α} {vs : List β} {k : Nat} {x : α} (e : xs.length = vs.length) (h : xs[k]? = some x) : ∃ v, vs[k]? = some v := by
  obtain ⟨hk, _⟩ := List.getElem?_eq_some_iff.mp h
  exact ⟨vs[k]'(by omega), List.getElem?_eq_getElem (by omega)⟩
theorem pick_zip {xs : List VR} {vs : List V} (e : xs.length = vs.length) : ∀ inv : List Nat, (pick inv xs).zip (pick inv vs) = pick inv (xs.zip vs)
  | [] => rfl
  | k :: inv => by
    cases h : xs[k]? with
    | none =>
      have h2 := none_len e h
      rw [pick_cons_none h, pick_cons_none h2, pick_zip e inv, pick_cons_none]
      rw [List.getElem?_eq_none_iff] at h ⊢
      rw [List.length_zip]
      omega
    | some x =>
      obtain ⟨v, h2⟩ := some_len e h
      rw [pick_cons_some h, pick_cons_some h2, List.zip_cons_cons, pick_zip e inv, pick_cons_some (x := (x, v))]
      rw [List.getElem?_zip_eq_some]
      exact ⟨h, h2⟩
theorem pick_range {α : Type} : ∀ (l : List α), pick (List.range l.length) l = l
  | [] => rfl
  | x :: l => by
    show (List.range (l.length + 1)).filterMap _ = _
    rw [List.range_succ_eq_map, List.filterMap_cons_some (b := x) (by simp), List.filterMap_map]
    have : ((fun k => (x :: l)[k]?) ∘ Nat.succ) = fun k => l[k]? := by
      funext k
      simp
    rw [this]
    exact congrArg (x :: ·) (pick_range l)
theorem pick_perm {α : Type} {inv : List Nat} {l : List α} (h : inv.Perm (List.range l.length)) : (pick inv l).Perm l := by
  have := h.filterMap fun k => l[k]?
  have e := pick_range l
  unfold pick at e ⊢
  rw [e] at this
  exact this
theorem VReps.pick {xs : List VR} {vs : List V} (q : VReps C T ρ σ H xs vs) : ∀ inv : List Nat, VReps C T ρ σ H (pick inv xs) (pick inv vs)
  | [] => .nil
  | k :: inv => by
    cases h : xs[k]? with
    | none => rw [pick_cons_none h, pick_cons_none (none_len q.len h)]; exact VReps.pick q inv
    | some x =>
      obtain ⟨v, h2⟩ := some_len q.len h
      rw [pick_cons_some h, pick_cons_some h2]
      refine .cons ?_ (VReps.pick q inv)
      have go : ∀ {xs : List VR} {vs : List V} {k : Nat}, VReps C T ρ σ H xs vs → xs[k]? = some x → vs[k]? = some v → VRep C T ρ σ H x v := by
        intro xs
        induction xs with
        | nil => intro vs k _ h; simp at h
        | cons y ys ih =>
          intro vs k q h1 h2
          cases q with
          | cons q1 q2 =>
            cases k with
            | zero => simp at h1 h2; subst h1 h2; exact q1
            | succ k => exact ih q2 (by simpa using h1) (by simpa using h2)
      exact go q h h2
theorem Vals.pick {vs : List V} {us : List Value} (q : Vals vs us) : ∀ inv : List Nat, Vals (pick inv vs) (Own.pick inv us)
  | [] => .nil
  | k :: inv => by
    cases h : vs[k]? with
    | none => rw [pick_cons_none h, pick_cons_none (none_len q.length h)]; exact Vals.pick q inv
    | some v =>
      obtain ⟨u, h2, r⟩ := q.get h
      rw [pick_cons_some h, pick_cons_some h2]
      exact .cons r (Vals.pick q inv)
theorem LPost.pick {xs : List VR} {vs : List V} {inv : List Nat} (h : inv.Perm (List.range xs.length)) (p : LPost C T ρ σ H xs ρ1 vs H1) : LPost C T ρ σ H (pick inv xs) ρ1 (pick inv vs) H1 := by
  obtain ⟨s1, r1, q1, n1, d1⟩ := p
  have e : (tmpsL (Own.pick inv xs) (Own.pick inv vs)).Perm (tmpsL xs vs) := by
    rw [tz_of, tz_of, pick_zip q1.len]
    refine tz_perm (pick_perm ?_)
    rw [List.length_zip, ← q1.len, Nat.min_self]
    exact h
  have m : ∀ a, a ∈ tmpsL (Own.pick inv xs) (Own.pick inv vs) ↔ a ∈ tmpsL xs vs := fun a => e.mem_iff
  have m2 : ∀ a, a ∈ tmpsL (Own.pick inv xs) (Own.pick inv vs) ++ T → a ∈ tmpsL xs vs ++ T := fun a z => by
    rw [List.mem_append] at z ⊢
    rwa [m] at z
  have m3 : ∀ a, a ∈ tmpsL xs vs ++ T → a ∈ tmpsL (Own.pick inv xs) (Own.pick inv vs) ++ T := fun a z => by
    rw [List.mem_append] at z ⊢
    rwa [m]
  have rg : ∀ nm a, Reg C (tmpsL xs vs ++ T) ρ1 σ nm a → Reg C (tmpsL (Own.pick inv xs) (Own.pick inv vs) ++ T) ρ1 σ nm a := fun nm a g => ⟨g.out, fun z => g.tmp (m2 a z), g.own, g.nam⟩
  have mv : ∀ {x v}, VRep C (tmpsL xs vs ++ T) ρ1 σ H1 x v → VRep C (tmpsL (Own.pick inv xs) (Own.pick inv vs) ++ T) ρ1 σ H1 x v := fun {x v} h => by
    cases x with
    | v d => exact Dr.mono (fun nm a g _ => rg nm a g) h
    | f d =>
      obtain ⟨a, e1, e2, e3⟩ := h
      exact ⟨a, e1, m3 a e2, e3.keep Keep.refl (fun nm a g _ => rg nm a g) fun _ z => z⟩
    | l i => exact h
  have mvs : ∀ {xs' vs'}, VReps C (tmpsL xs vs ++ T) ρ1 σ H1 xs' vs' → VReps C (tmpsL (Own.pick inv xs) (Own.pick inv vs) ++ T) ρ1 σ H1 xs' vs' := by
    intro xs' vs' q
    induction q with
    | nil => exact .nil
    | cons a _ ih => exact .cons (mv a) ih
  exact ⟨s1, r1.perm m2, mvs (q1.pick inv), fun a z => n1 a ((m a).mp z), e.nodup_iff.mpr d1⟩
theorem nil_K {X : Cx} {ev : Rho → Rs (List VR)} (he : ∀ ρ, ev ρ = .ok [] ρ) : PK X [] (rdL C W ev) :=
  ⟨fun pos pins s σ H Q I ⟨T, ρ, r, h⟩ => pk_nil.run pos pins s σ H Q I (by
    rw [he] at h
    exact h [] H ⟨.refl, r, .nil, (fun _ z => nomatch z), List.nodup_nil⟩)⟩
theorem cons_K {X : Cx} {u : Bool} {m : ME} {e : Expr} {nm : Option Str} {kp : Pos} {ks : List Keyword} {ev ev' : Rho → Rs (List VR)} (k : VR → Bool) (he : ∀ ρ, ev ρ = (evE F u m ρ).bind fun x ρ1 => if k x then (ev' ρ1).bind fun xs ρ2 => .ok (x :: xs) ρ2 else .no)
    (ha : PE X e (rdE C F W u m)) (hb : PK X ks (rdL C W ev')) : PK X (⟨nm, e, kp⟩ :: ks) (rdL C W ev) :=
  ⟨fun pos pins s σ H Q I h => (pk_cons (nm := nm) (kpos := kp) ha hb).run pos pins s σ H Q I (cons_rd k he σ H Q h)⟩
theorem flagsK_length {lend : List Bool} {inv : List Nat} : ∀ {n from_ : Nat}, (flagsK lend inv from_ n).length = n
  | 0, _ => rfl
  | n + 1, k => by
    show (flagsK lend inv (k + 1) n).length + 1 = n + 1
    rw [flagsK_length]
theorem evC_len : ∀ {ms : List ME} {bs : List Bool} {ρ : Rho} {xs : List VR} {ρ' : Rho}, evC F bs ms ρ = .ok xs ρ' → xs.length = ms.length
  | [], bs, ρ, xs, ρ', h => by
    unfold evC at h
    cases h
    rfl
  | m :: ms, [], ρ, xs, ρ', h => by
    unfold evC at h
    cases h
  | m :: ms, b :: bs, ρ, xs, ρ', h => by
    unfold evC at h
    cases q : evE F b m ρ with
    | no => rw [q] at h; cases h
    | exc c d ρ1 => rw [q] at h; cases h
    | ok x ρ1 =>
      rw [q] at h
      simp only [Rs.bind_ok] at h
      split at h
      · cases q2 : evC F bs ms ρ1 with
        | no => rw [q2] at h; cases h
        | exc c d ρ1 => rw [q2] at h; cases h
        | ok ys ρ2 =>
          rw [q2] at h
          cases h
          simp [evC_len q2]
      · cases h
theorem seq_L2 {bs : List Bool} {ms : List ME} {k : List VR → Rho → Rs α} {P : α → Rho → β → Hp → Prop} {Q : β → Hp → Prop} {R : List V → Hp → Prop} (s : Step ρ ρ1 σ H H1) (r : Rep C (L ++ T) ρ1 σ H1) (h : After C W T ρ σ H ((evC F bs ms ρ1).bind k) P Q)
    (hk : ∀ xs ρ2 vs H2, LPost C (L ++ T) ρ1 σ H1 xs ρ2 vs H2 → xs.length = ms.length → After C W T ρ σ H (k xs ρ2) P Q → R vs H2) : rdL C W (evC F bs ms) σ H1 R := by
  refine ⟨L ++ T, ρ1, r, ?_⟩
  cases q : evC F bs ms ρ1 with
  | ok x ρ2 =>
    rw [q] at h
    exact fun v H2 p => hk x ρ2 v H2 p (evC_len q) h
  | exc c d ρ2 =>
    rw [q] at h
    exact fun cls dd H2 p => h cls dd H2 (p.up s)
  | no =>
    rw [q] at h
    exact h
theorem kw_all {env : PySem.Env} {pos : Pos} : ∀ {ks : List Keyword}, ks.all (·.arg.isSome) = true → (backToKw pos (keywordEach ks env)).all (·.1.isSome) = true
  | [], _ => rfl
  | ⟨nm, e, kp⟩ :: ks, h => by
    simp only [List.all_cons, Bool.and_eq_true] at h
    show ((backToKw pos ((nm, eval e env) :: keywordEach ks env)).all _) = true
    simp only [backToKw, List.map_cons, List.all_cons, Bool.and_eq_true]
    exact ⟨h.1, kw_all h.2⟩
theorem kw_none {env : PySem.Env} {pos : Pos} : ∀ {ks : List Keyword}, ks.all (·.arg.isSome) = true → (backToKw pos (keywordEach ks env)).any (·.1.isNone) = false
  | [], _ => rfl
  | ⟨nm, e, kp⟩ :: ks, h => by
    simp only [List.all_cons, Bool.and_eq_true] at h
    show ((backToKw pos ((nm, eval e env) :: keywordEach ks env)).any _) = false
    simp only [backToKw, List.map_cons, List.any_cons, Bool.or_eq_false_iff]
    refine ⟨?_, kw_none h.2⟩
    have := h.1
    cases nm <;> simp_all
theorem kw_names {env : PySem.Env} {pos : Pos} : ∀ {ks : List Keyword}, (backToKw pos (keywordEach ks env)).filterMap (·.1) = ks.filterMap (·.arg)
  | [] => rfl
  | ⟨nm, e, kp⟩ :: ks => by
    show (backToKw pos ((nm, eval e env) :: keywordEach ks env)).filterMap _ = _
    have ih := kw_names (env := env) (pos := pos) (ks := ks)
    unfold backToKw at ih ⊢
    cases nm with
    | none => simpa using ih
    | some x => simpa using ih
theorem callK_E {X : Cx} (G : Good X C F W g) {f : Nat} {ms kms : List ME} {inv : List Nat} {u : Bool} {x : Str} {ps : List Str} {p pos : Pos} {es : List Expr} {ks : List Keyword} (hf : g.fns[f]? = some (x, ps)) (hg : glB X.env.scope x = true) (ho : okName x = true) (hs : noStars es = true)
    (hme : ms.length = es.length) (hke : kms.length = ks.length) (hall : ks.all (·.arg.isSome) = true) (hp : inv.Perm (List.range (ms.length + kms.length))) (hw : (f, es.length, ks.filterMap (·.arg), inv) ∈ g.kws) (hkl : (ks.filterMap (·.arg)).length = ks.length)
    (ha : PA X es (rdL C W (evC F (flagsK (F.lend f) inv 0 ms.length) ms))) (hk : PK X ks (rdL C W (evC F (flagsK (F.lend f) inv ms.length kms.length) kms))) : PE X (.Call (.Name x p) es ks pos) (rdE C F W u (.callK f ms kms inv)) := by
  obtain ⟨_, ⟨fa, fd, k, hm, hkp, FG, hr, _, hkw⟩⟩ := G.fns f x ps hf
  refine ⟨fun pins s σ H Q I ⟨T, ρ, r, h⟩ => ?_⟩
  unfold evE at h
  have q : rdL C W (evC F (flagsK (F.lend f) inv 0 ms.length) ms) σ H fun vs H1 => rdL C W (evC F (flagsK (F.lend f) inv ms.length kms.length) kms) σ H1 fun zs H2 => vs.length = ms.length ∧ zs.length = kms.length ∧ spOf C.K C.cls (F.lend f) (F.run f) (pick inv (vs ++ zs)) H2 Q fun c d H' => W c d σ H' :=
    seq_L2 (L := []) .refl r h fun xs ρ2 vs H2 p2 l2 h2 => seq_L2 p2.1 p2.2.1 h2 fun ys ρ3 zs H3 p3 l3 h3 => by
      refine ⟨by rw [← p2.2.2.1.len]; exact l2, by rw [← p3.2.2.1.len]; exact l3, call_sp r h3 (LPost.pick ?_ (p2.append p3))⟩
      rw [List.length_append, l2, l3]
      exact hp
  refine wpAny_Call_Name_kw (ld_glob I (gl_of hg) hm ?_ (okDbg ho))
  have fin : ∀ {s1 : Shared} {H1 : Hp} {us ws : List Value} {vs zs : List V}, Inv X pins σ H1 s1 → Vals vs us → Vals zs ws → (vs.length = ms.length ∧ zs.length = kms.length ∧ spOf C.K C.cls (F.lend f) (F.run f) (pick inv (vs ++ zs)) H1 Q fun c d H' => W c d σ H') →
      wpAny (model X.prog X.w) X.A (call (.ref fa) us (((backToKw pos (keywordEach ks X.env)).filterMap (·.1)).zip ws)) (EP X pins σ Q) X.xe s1 := fun {s1 H1 us ws vs zs} I1 r1 r2 ⟨l1, l2, q1⟩ => by
    rw [kw_names]
    have b := hkw _ _ _ hw s1 us ws I1.kIn (by rw [← r1.length, l1, hme]) (by rw [← r2.length, l2, hkl, hke])
    exact call_g (args := ⟨us, (ks.filterMap (·.arg)).zip ws⟩) FG G.gd hr G.tk I1 b (Vals.pick (r1.append r2) inv) q1
  cases es with
  | nil =>
    have q0 : rdL C W (evC F (flagsK (F.lend f) inv ms.length kms.length) kms) σ H fun zs H2 => ([] : List V).length = ms.length ∧ zs.length = kms.length ∧ spOf C.K C.cls (F.lend f) (F.run f) (pick inv ([] ++ zs)) H2 Q fun c d H' => W c d σ H' := by
      have : ms = [] := by cases ms <;> simp at hme <;> rfl
      subst this
      obtain ⟨T', ρ', r', q⟩ := q
      have e : evC F (flagsK (F.lend f) inv 0 ([] : List ME).length) [] ρ' = .ok [] ρ' := by unfold evC; rfl
      rw [e] at q
      exact q [] H ⟨.refl, r', .nil, (fun _ z => nomatch z), List.nodup_nil⟩
    refine PySem.W.callWith_KW0 (h₀ := X.base) I.ok.mod.kin hkp (kw_all hall) (thn (hk.run pos pins s σ H _ I q0) fun ws s2 ⟨zs, H2, I2, rz, q2⟩ => ⟨I2.kIn, ?_⟩) ?_
    · exact fin (us := []) (vs := []) I2 .nil rz q2
    · rw [kw_none hall]
      rfl
  | cons e es =>
    simp only [noStars, Bool.and_eq_true] at hs
    have hst := star_cons (es := es) (env := X.env) hs.1
    have hpl := noStars_plain (es := es) (env := X.env) (pos := pos) hs.2
    refine PySem.W.callWith_KW (h₀ := X.base) I.ok.mod.kin hkp (kw_all hall) (thn (ha.run pos pins s σ H _ I q) fun us s1 ⟨vs, H1, I1, r1, q1⟩ => thn (hk.run pos pins s1 σ H1 _ I1 q1) fun ws s2 ⟨zs, H2, I2, rz, q2⟩ => ⟨I2.kIn, fin I2 r1 rz q2⟩) ?_ hst
    rw [kw_none hall, hst]
    show ((backTo pos ((false, eval e X.env) :: starEach es X.env)).any (·.1) || false) = false
    rw [Bool.or_false]
    exact hpl

/-! ### isinstance, is None, slices -/
theorem isi_E {X : Cx} (G : Good X C F W g) {t : Ty} {a : ME} {u : Bool} {p p2 pos : Pos} {y : Expr} (hg : glB X.env.scope "isinstance" = true) (hg2 : glB X.env.scope (Str.ofString t.name) = true) (hb : g.blts.contains ("isinstance" : Str) = true) (hb2 : g.blts.contains (Str.ofString t.name) = true)
    (hy : notStar y = true) (ha : PE X y (rdE C F W true a)) : PE X (.Call (.Name "isinstance" p) [y, .Name (Str.ofString t.name) p2] [] pos) (rdE C F W u (.isi t a)) := by
  have m1 : X.mg "isinstance" = none := G.blt _ (by simpa using hb)
  have m2 : X.mg (Str.ofString t.name) = none := G.blt _ (by simpa using hb2)
  have e2 : PE X (.Name (Str.ofString t.name) p2) (tC (.ty t.name)) := pe_bltn (u := .type t.name) (gl_of hg2) m2 (by cases t <;> decide +kernel) rfl (by cases t <;> decide +kernel) (by cases t <;> decide +kernel)
  refine imp_E (pe_callB (call_u (f := .builtin "isinstance")) (gl_of hg) m1 (by decide +kernel) (pa_cons ha (pa_cons e2 pa_nil (star_cons (by rfl))) (star_cons hy)) (by decide) (by decide) (star_cons hy) rfl) fun σ H Q ⟨T, ρ, r, h⟩ => ?_
  unfold evE at h
  refine seq_E (L := []) .refl r h fun x ρ1 v H1 p1 h1 => ?_
  split at h1
  · rename_i d e1
    exact isi_ok G.K (derf_dx p1.2.1 p1.2.2.1 e1) (h1 _ _ (fin_v p1.1 p1.2.1 (.bl _)))
  · exact h1.elim
theorem isN_E {X : Cx} {ng : Bool} {a : ME} {u : Bool} {l : Expr} {op : CmpOp} {pos p2 : Pos} {k : Nat} (ho : (match op with | .Is => !ng | .IsNot => ng | _ => false) = true) (ha : PE X l (rdE C F W true a)) :
    PE X (.Compare l [op] [.Constant .none k p2] pos) (rdE C F W u (.isN ng a)) := by
  cases op <;> simp at ho
  · subst ho
    refine imp_E (pe_cmpR op_isN ha pe_non (by rfl)) fun σ H Q h => ?_
    exact isN_rd (X := X) σ H _ h |> fun ⟨T, ρ, r, q⟩ => ⟨T, ρ, r, by
      revert q
      cases evE F true a ρ with
      | no => exact id
      | exc c d ρ' => exact id
      | ok x ρ' => exact fun q v H' p => ⟨rfl, q v H' p⟩⟩
  · subst ho
    refine imp_E (pe_cmpR op_notN ha pe_non (by rfl)) fun σ H Q h => ?_
    exact isN_rd (X := X) σ H _ h |> fun ⟨T, ρ, r, q⟩ => ⟨T, ρ, r, by
      revert q
      cases evE F true a ρ with
      | no => exact id
      | exc c d ρ' => exact id
      | ok x ρ' => exact fun q v H' p => ⟨rfl, q v H' p⟩⟩
end
end Own

/-! part Own11 -/
namespace Own
open PySem PySem.Spec L2

section
variable {α β : Type} {C : Cn} {F : Fns} {W : WX} {g : Gi} {T L : List Addr} {ρ ρ1 ρ2 : Rho} {σ : St} {H H1 H2 H3 : Hp} {x y : VR} {v w : V} {d e : D}
/-! ### constants -/
theorem int_E {X : Cx} {u : Bool} {n : Int} {k : Nat} {p : Pos} : PE X (.Constant (.int n) k p) (rdE C F W u (.int n)) := here_E (fun ρ => by unfold evE; rfl) (fun _ _ => .int n) pe_int
theorem bl_E {X : Cx} {u : Bool} {n : Bool} {k : Nat} {p : Pos} : PE X (.Constant (.bool n) k p) (rdE C F W u (.bl n)) := here_E (fun ρ => by unfold evE; rfl) (fun _ _ => .bl n) pe_bl
theorem non_E {X : Cx} {u : Bool} {k : Nat} {p : Pos} : PE X (.Constant .none k p) (rdE C F W u .non) := here_E (fun ρ => by unfold evE; rfl) (fun _ _ => .non) pe_non
theorem str_E {X : Cx} {u : Bool} {n : Str} {k : Nat} {p : Pos} : PE X (.Constant (.str n) k p) (rdE C F W u (.str n)) := here_E (fun ρ => by unfold evE; rfl) (fun _ _ => .str n) pe_str
theorem glb_E {X : Cx} (G : Good X C F W g) {u : Bool} {k : Nat} {x : Str} {p : Pos} (hk : g.glbs[k]? = some x) (hg : glB X.env.scope x = true) (ho : okName x = true) : PE X (.Name x p) (rdE C F W u (.glb k)) := by
  obtain ⟨uu, v, hm, r, hd⟩ := G.glb k x hk
  exact here_E (fun ρ => by unfold evE; rfl) hd ⟨fun pins s σ H Q I h => ld_glob I (gl_of hg) hm ⟨v, H, I, r, h⟩ (okDbg ho)⟩

/-! ### slices -/
def rdP (C : Cn) (F : Fns) (W : WX) (m : Option ME) : TO := fun σ H Q => ∃ T ρ, Rep C T ρ σ H ∧ After C W T ρ σ H (evP F m ρ) (fun o ρ' o' H' => o' = o ∧ Step ρ ρ' σ H H' ∧ Rep C T ρ' σ H') Q
theorem seq_P {m : Option ME} {k : Option Int → Rho → Rs α} {P : α → Rho → β → Hp → Prop} {Q : β → Hp → Prop} {R : Option Int → Hp → Prop} (s : Step ρ ρ1 σ H H1) (r : Rep C (L ++ T) ρ1 σ H1) (h : After C W T ρ σ H ((evP F m ρ1).bind k) P Q)
    (hk : ∀ o ρ2 H2, Step ρ1 ρ2 σ H1 H2 → Rep C (L ++ T) ρ2 σ H2 → After C W T ρ σ H (k o ρ2) P Q → R o H2) : rdP C F W m σ H1 R := by
  refine ⟨L ++ T, ρ1, r, ?_⟩
  cases q : evP F m ρ1 with
  | ok x ρ2 =>
    rw [q] at h
    exact fun v H2 p => p.1 ▸ hk x ρ2 H2 p.2.1 p.2.2 h
  | exc c d ρ2 =>
    rw [q] at h
    exact fun cls dd H2 p => h cls dd H2 (p.up s)
  | no =>
    rw [q] at h
    exact h
theorem po_E0 {X : Cx} : PO X none (rdP C F W none) := ⟨fun pins s σ H Q I ⟨T, ρ, r, h⟩ => po_none.run pins s σ H Q I (by
  unfold evP at h
  exact h none H ⟨rfl, .refl, r⟩)⟩
theorem po_E1 {X : Cx} {m : ME} {e : Expr} (ha : PE X e (rdE C F W false m)) : PO X (some e) (rdP C F W (some m)) := ⟨fun pins s σ H Q I ⟨T, ρ, r, h⟩ => (po_some ha).run pins s σ H Q I (by
  unfold evP at h
  refine seq_E (L := []) .refl r h fun x ρ1 v H1 p1 h1 => ?_
  match x, h1, p1 with
  | .v (.int i), h1, p1 =>
    have hv : v = .int i := by
      have := p1.2.2.1
      cases this
      rfl
    exact ⟨i, hv, h1 _ _ ⟨rfl, p1.1, p1.2.1⟩⟩
  | .v .non, h, _ => exact h.elim
  | .v (.bl _), h, _ => exact h.elim
  | .v (.str _), h, _ => exact h.elim
  | .v (.tup _), h, _ => exact h.elim
  | .v (.lst _ _), h, _ => exact h.elim
  | .v (.dK _ _), h, _ => exact h.elim
  | .v (.dT _ _), h, _ => exact h.elim
  | .v (.scr _), h, _ => exact h.elim
  | .f _, h, _ => exact h.elim
  | .l _, h, _ => exact h.elim)⟩
theorem sl_E {X : Cx} (G : Good X C F W g) {a : ME} {lo hi : Option ME} {u : Bool} {e : Expr} {l h : Option Expr} {p p2 : Pos} (ha : PE X e (rdE C F W true a)) (hl : PO X l (rdP C F W lo)) (hh : PO X h (rdP C F W hi)) :
    PE X (.Subscript e (.Slice l h none p2) p) (rdE C F W u (.sl a lo hi)) := by
  refine imp_E (pe_slice sl_u ha hl hh) fun σ H Q ⟨T, ρ, r, h⟩ => ?_
  unfold evE at h
  refine seq_E (L := []) .refl r h fun x ρ1 v H1 p1 h1 => ?_
  refine seq_P p1.1 p1.2.1 h1 fun l ρ2 H2 s2 r2 h2 => ?_
  refine seq_P (p1.1.trans s2) r2 h2 fun u ρ3 H3 s3 r3 h3 => ?_
  have hx : VRep C (tmps x v ++ T) ρ3 σ H3 x v := (p1.2.2.1.more (L := []) p1.2.1 s2 (fun _ z => nomatch z)).more (L := []) r2 s3 fun _ z => nomatch z
  split at h3
  · rename_i d e1
    cases q : slop d l u with
    | none => rw [q] at h3; exact h3.elim
    | some z =>
      rw [q] at h3
      exact sl_ok G.K r3 q (derf_dx r3 hx e1) fun u H' p => h3 u H' (EPost.of ((p1.1.trans s2).trans s3) r3 p)
  · exact h3.elim

/-! ### and, or, if -/
def asB (x : VR) (ρ : Rho) : Rs Bool := match x with
  | .v (.bl b) => .ok b ρ
  | _ => .no
theorem rdT_iff {m : ME} {Q : Bool → Hp → Prop} : rdT C F W m σ H Q ↔ ∃ T ρ, Rep C T ρ σ H ∧ After C W T ρ σ H ((evE F false m ρ).bind asB) (fun b ρ' c H' => c = b ∧ Step ρ ρ' σ H H' ∧ Rep C T ρ' σ H') Q := Iff.rfl
/-- a test ahead of a rest -/
theorem seq_T {m : ME} {k : Bool → Rho → Rs α} {P : α → Rho → β → Hp → Prop} {Q : β → Hp → Prop} {R : Bool → Hp → Prop} (s : Step ρ ρ1 σ H H1) (r : Rep C (L ++ T) ρ1 σ H1) (h : After C W T ρ σ H (((evE F false m ρ1).bind asB).bind k) P Q)
    (hk : ∀ b ρ2 H2, Step ρ1 ρ2 σ H1 H2 → Rep C (L ++ T) ρ2 σ H2 → After C W T ρ σ H (k b ρ2) P Q → R b H2) : rdT C F W m σ H1 R := by
  refine rdT_iff.mpr ⟨L ++ T, ρ1, r, ?_⟩
  cases q : (evE F false m ρ1).bind asB with
  | ok x ρ2 =>
    rw [q] at h
    exact fun v H2 p => p.1 ▸ hk x ρ2 H2 p.2.1 p.2.2 h
  | exc c d ρ2 =>
    rw [q] at h
    exact fun cls dd H2 p => h cls dd H2 (p.up s)
  | no =>
    rw [q] at h
    exact h
def rdA (C : Cn) (F : Fns) (W : WX) (ev : Rho → Rs VR) : TE := fun σ H Q => ∃ T ρ, Rep C T ρ σ H ∧ After C W T ρ σ H (ev ρ) (EPost C T ρ σ H) Q
def rdAT (C : Cn) (F : Fns) (W : WX) (ev : Rho → Rs VR) : TT := fun σ H Q => ∃ T ρ, Rep C T ρ σ H ∧ After C W T ρ σ H ((ev ρ).bind asB) (fun b ρ' c H' => c = b ∧ Step ρ ρ' σ H H' ∧ Rep C T ρ' σ H') Q
theorem After.up {P P' : α → Rho → β → Hp → Prop} {Q : β → Hp → Prop} {r : Rs α} (s : Step ρ ρ1 σ H H1) (h : After C W T ρ σ H r P Q) (hp : ∀ x ρ' v H', P' x ρ' v H' → P x ρ' v H') : After C W T ρ1 σ H1 r P' Q := by
  cases r with
  | ok x ρ' => exact fun v H' p => h v H' (hp _ _ _ _ p)
  | exc c d ρ' => exact fun cls dd H' p => h cls dd H' (XPost.up (L := []) s p)
  | no => exact h
theorem EPost.up (s : Step ρ ρ1 σ H H1) (p : EPost C T ρ1 σ H1 x ρ2 v H2) : EPost C T ρ σ H x ρ2 v H2 := ⟨s.trans p.1, p.2.1, p.2.2.1, fun a m => s.none (p.2.2.2 a m)⟩
theorem bind_asB {r : Rs VR} {k : Bool → Rho → Rs α} : (r.bind fun x ρ1 => (asB x ρ1).bind k) = (r.bind asB).bind k := by
  cases r <;> rfl
theorem evAnd_cons {m m2 : ME} {ms : List ME} : evAnd F (m :: m2 :: ms) ρ = ((evE F false m ρ).bind asB).bind fun b ρ1 => if b then evAnd F (m2 :: ms) ρ1 else .ok (.v (.bl false)) ρ1 := by
  rw [evAnd, ← bind_asB]
  congr 1
  funext x ρ1
  cases x with
  | v d => cases d with
    | bl b => cases b <;> rfl
    | _ => rfl
  | _ => rfl
theorem evOr_cons {m m2 : ME} {ms : List ME} : evOr F (m :: m2 :: ms) ρ = ((evE F false m ρ).bind asB).bind fun b ρ1 => if b then .ok (.v (.bl true)) ρ1 else evOr F (m2 :: ms) ρ1 := by
  rw [evOr, ← bind_asB]
  congr 1
  funext x ρ1
  cases x with
  | v d => cases d with
    | bl b => cases b <;> rfl
    | _ => rfl
  | _ => rfl
theorem ife_eq {c a b : ME} {u : Bool} : evE F u (.ife c a b) ρ = ((evE F false c ρ).bind asB).bind fun t ρ1 => if t then evE F u a ρ1 else evE F u b ρ1 := by
  rw [evE, ← bind_asB]
  congr 1
  funext x ρ1
  cases x with
  | v d => cases d with
    | bl b => cases b <;> rfl
    | _ => rfl
  | _ => rfl
theorem ife_E {X : Cx} {c a b : ME} {u : Bool} {x y z : Expr} {p : Pos} (hc : PT X x (rdT C F W c)) (ha : PE X y (rdE C F W u a)) (hb : PE X z (rdE C F W u b)) : PE X (.IfExp x y z p) (rdE C F W u (.ife c a b)) := by
  refine imp_E (pe_ifExp hc ha hb) fun σ H Q ⟨T, ρ, r, h⟩ => ?_
  rw [ife_eq] at h
  refine seq_T (L := []) .refl r h fun t ρ1 H1 s1 r1 h1 => ?_
  cases t with
  | true => exact ⟨T, ρ1, r1, h1.up s1 fun _ _ _ _ p => p.up s1⟩
  | false => exact ⟨T, ρ1, r1, h1.up s1 fun _ _ _ _ p => p.up s1⟩
/-- and, or: as values, as tests -/
theorem rd_asT {ev : Rho → Rs VR} {t : TE} (h : ∀ σ H Q, rdA C F W ev σ H Q → t σ H Q) : ∀ σ H Q, rdAT C F W ev σ H Q → tTest t σ H Q := fun σ H Q ⟨T, ρ, r, q⟩ => by
  refine h σ H _ ⟨T, ρ, r, ?_⟩
  cases e : ev ρ with
  | no => rw [e] at q; exact q
  | exc c d ρ' => rw [e] at q; exact q
  | ok x ρ' =>
    rw [e] at q
    intro v H' p
    have q : After C W T ρ σ H (asB x ρ') (fun b ρ' c H' => c = b ∧ Step ρ ρ' σ H H' ∧ Rep C T ρ' σ H') Q := q
    unfold asB at q
    exact bl_only (k := fun b ρ' => Rs.ok b ρ') (P := fun b _ H' => Q b H') p q fun b hv r1 q1 => q1 b H' ⟨rfl, p.1, r1⟩
theorem and1_E {X : Cx} {m : ME} {e : Expr} {p : Pos} (ha : PE X e (rdE C F W false m)) : PE X (.BoolOp .And [e] p) (rdA C F W (evAnd F [m])) := imp_E (pe_one ha) fun σ H Q ⟨T, ρ, r, h⟩ => ⟨T, ρ, r, by
  unfold evAnd at h
  exact h⟩
theorem or1_E {X : Cx} {m : ME} {e : Expr} {p : Pos} (ha : PE X e (rdE C F W false m)) : PE X (.BoolOp .Or [e] p) (rdA C F W (evOr F [m])) := imp_E (pe_one ha) fun σ H Q ⟨T, ρ, r, h⟩ => ⟨T, ρ, r, by
  unfold evOr at h
  exact h⟩
theorem and_rd {m m2 : ME} {ms : List ME} : ∀ σ H Q, rdA C F W (evAnd F (m :: m2 :: ms)) σ H Q → rdT C F W m σ H fun b H1 => if b = true then rdA C F W (evAnd F (m2 :: ms)) σ H1 Q else Q (.bl false) H1 := fun σ H Q ⟨T, ρ, r, h⟩ => by
  rw [evAnd_cons] at h
  refine seq_T (L := []) .refl r h fun t ρ1 H1 s1 r1 h1 => ?_
  cases t with
  | true => exact ⟨T, ρ1, r1, h1.up s1 fun _ _ _ _ p => p.up s1⟩
  | false => exact h1 _ _ (fin_v (L := []) s1 r1 (.bl _))
theorem or_rd {m m2 : ME} {ms : List ME} : ∀ σ H Q, rdA C F W (evOr F (m :: m2 :: ms)) σ H Q → rdT C F W m σ H fun b H1 => if b = true then Q (.bl true) H1 else rdA C F W (evOr F (m2 :: ms)) σ H1 Q := fun σ H Q ⟨T, ρ, r, h⟩ => by
  rw [evOr_cons] at h
  refine seq_T (L := []) .refl r h fun t ρ1 H1 s1 r1 h1 => ?_
  cases t with
  | true => exact h1 _ _ (fin_v (L := []) s1 r1 (.bl _))
  | false => exact ⟨T, ρ1, r1, h1.up s1 fun _ _ _ _ p => p.up s1⟩
/-- a test's reading as a value's -/
theorem rdT_E {m : ME} {Q : Bool → Hp → Prop} (h : rdT C F W m σ H Q) : rdE C F W false m σ H fun x H1 => ∃ c, x = .bl c ∧ Q c H1 := (test_of (t := rdE C F W false m) fun _ _ _ q => q) σ H Q h
theorem and_E {X : Cx} {m m2 : ME} {ms : List ME} {e e2 : Expr} {es : List Expr} {p : Pos} (ha : PE X e (rdE C F W false m)) (hb : PE X (.BoolOp .And (e2 :: es) p) (rdA C F W (evAnd F (m2 :: ms)))) : PE X (.BoolOp .And (e :: e2 :: es) p) (rdA C F W (evAnd F (m :: m2 :: ms))) :=
  imp_E (pe_and ha hb) fun σ H Q h => rdT_E (and_rd σ H Q h)
theorem or_E {X : Cx} {m m2 : ME} {ms : List ME} {e e2 : Expr} {es : List Expr} {p : Pos} (ha : PE X e (rdE C F W false m)) (hb : PE X (.BoolOp .Or (e2 :: es) p) (rdA C F W (evOr F (m2 :: ms)))) : PE X (.BoolOp .Or (e :: e2 :: es) p) (rdA C F W (evOr F (m :: m2 :: ms))) :=
  imp_E (pe_or ha hb) fun σ H Q h => rdT_E (or_rd σ H Q h)
theorem and1_W {X : Cx} {m : ME} {e : Expr} {p : Pos} (ha : PT X e (rdT C F W m)) : PW X (.BoolOp .And [e] p) (rdAT C F W (evAnd F [m])) := imp_W (pw_and1 ha) fun σ H Q ⟨T, ρ, r, h⟩ => ⟨T, ρ, r, by
  unfold evAnd at h
  exact h⟩
theorem or1_W {X : Cx} {m : ME} {e : Expr} {p : Pos} (ha : PT X e (rdT C F W m)) : PW X (.BoolOp .Or [e] p) (rdAT C F W (evOr F [m])) := imp_W (pw_or1 ha) fun σ H Q ⟨T, ρ, r, h⟩ => ⟨T, ρ, r, by
  unfold evOr at h
  exact h⟩
theorem bind_bind {γ δ : Type} {r : Rs α} {k : α → Rho → Rs γ} {k2 : γ → Rho → Rs δ} : (r.bind k).bind k2 = r.bind fun x ρ => (k x ρ).bind k2 := by
  cases r <;> rfl
theorem and_W {X : Cx} {m m2 : ME} {ms : List ME} {e e2 : Expr} {es : List Expr} {p : Pos} (ha : PT X e (rdT C F W m)) (hb : PW X (.BoolOp .And (e2 :: es) p) (rdAT C F W (evAnd F (m2 :: ms)))) : PW X (.BoolOp .And (e :: e2 :: es) p) (rdAT C F W (evAnd F (m :: m2 :: ms))) :=
  imp_W (pw_and ha hb) fun σ H Q ⟨T, ρ, r, h⟩ => by
    rw [evAnd_cons, bind_bind] at h
    refine seq_T (L := []) .refl r h fun t ρ1 H1 s1 r1 h1 => ?_
    cases t with
    | true => exact ⟨T, ρ1, r1, After.up s1 h1 fun _ _ _ _ p => ⟨p.1, s1.trans p.2.1, p.2.2⟩⟩
    | false => exact h1 _ _ ⟨rfl, s1, r1⟩
theorem or_W {X : Cx} {m m2 : ME} {ms : List ME} {e e2 : Expr} {es : List Expr} {p : Pos} (ha : PT X e (rdT C F W m)) (hb : PW X (.BoolOp .Or (e2 :: es) p) (rdAT C F W (evOr F (m2 :: ms)))) : PW X (.BoolOp .Or (e :: e2 :: es) p) (rdAT C F W (evOr F (m :: m2 :: ms))) :=
  imp_W (pw_or ha hb) fun σ H Q ⟨T, ρ, r, h⟩ => by
    rw [evOr_cons, bind_bind] at h
    refine seq_T (L := []) .refl r h fun t ρ1 H1 s1 r1 h1 => ?_
    cases t with
    | true => exact h1 _ _ ⟨rfl, s1, r1⟩
    | false => exact ⟨T, ρ1, r1, After.up s1 h1 fun _ _ _ _ p => ⟨p.1, s1.trans p.2.1, p.2.2⟩⟩
theorem notv_T {X : Cx} {a : ME} {l : Expr} {p : Pos} (ha : PT X l (rdT C F W a)) : PT X (.UnaryOp .Not l p) (rdT C F W (.notv a)) := by
  refine imp_T (pt_not ha) fun σ H Q ⟨T, ρ, r, h⟩ => ?_
  have e : (evE F false (.notv a) ρ).bind asB = ((evE F false a ρ).bind asB).bind fun b ρ' => .ok (!b) ρ' := by
    rw [evE, bind_bind, bind_bind]
    congr 1
    funext x ρ1
    cases x with
    | v d => cases d with
      | bl b => cases b <;> rfl
      | _ => rfl
    | _ => rfl
  have h : After C W T ρ σ H ((evE F false (.notv a) ρ).bind asB) (fun b ρ' c H' => c = b ∧ Step ρ ρ' σ H H' ∧ Rep C T ρ' σ H') Q := h
  rw [e] at h
  exact seq_T (L := []) .refl r h fun t ρ1 H1 s1 r1 h1 => h1 _ _ ⟨rfl, s1, r1⟩
theorem isN_T {X : Cx} {ng : Bool} {a : ME} {l : Expr} {op : CmpOp} {pos p2 : Pos} {k : Nat} (ho : (match op with | .Is => !ng | .IsNot => ng | _ => false) = true) (ha : PE X l (rdE C F W true a)) :
    PT X (.Compare l [op] [.Constant .none k p2] pos) (rdT C F W (.isN ng a)) := by
  cases op <;> simp at ho
  · subst ho
    refine imp_T (pt_cmpR op_isN ha pe_non (by rfl)) (test_of fun σ H Q h => ?_)
    exact isN_rd (X := X) σ H _ h |> fun ⟨T, ρ, r, q⟩ => ⟨T, ρ, r, by
      revert q
      cases evE F true a ρ with
      | no => exact id
      | exc c d ρ' => exact id
      | ok x ρ' => exact fun q v H' p => ⟨rfl, q v H' p⟩⟩
  · subst ho
    refine imp_T (pt_cmpR op_notN ha pe_non (by rfl)) (test_of fun σ H Q h => ?_)
    exact isN_rd (X := X) σ H _ h |> fun ⟨T, ρ, r, q⟩ => ⟨T, ρ, r, by
      revert q
      cases evE F true a ρ with
      | no => exact id
      | exc c d ρ' => exact id
      | ok x ρ' => exact fun q v H' p => ⟨rfl, q v H' p⟩⟩
/-- any other expression as a test -/
theorem val_T {X : Cx} {m : ME} {e : Expr} (ha : PE X e (rdE C F W false m)) (he : ∀ whole, isTrue e X.env whole = (do let v ← whole; standAt e.pos; holding [v] (truthy v))) : PT X e (rdT C F W m) :=
  imp_T (pt_val ha he) fun σ H Q h => rdT_E h

/-! ### methods of lists -/
theorem Rep.write (r : Rep C T ρ σ H) {i : Nat} {a : Addr} {d : D} (e : ρ[i]? = some (.own d)) (es : σ[i]? = some (some (.ref a))) {ds : List D} {vs : List V} (q : Drs C.K (Reg C T ρ σ) H vs ds) :
    Step ρ (ρ.set i (.own (.lst false ds))) σ H (upd H a (.lst vs)) ∧ Rep C T (ρ.set i (.own (.lst false ds))) σ (upd H a (.lst vs)) := by
  have oa : Owns ρ σ a := ⟨i, d, e, es⟩
  have hi : i < ρ.length := (List.getElem?_eq_some_iff.mp e).1
  have ow : ∀ b, Owns (ρ.set i (.own (.lst false ds))) σ b → Owns ρ σ b := fun b ⟨j, z, h1, h2⟩ => by
    rcases set_get h1 with ⟨h3, h⟩ | ⟨h3, h4⟩
    · subst h3
      exact ⟨j, d, e, h2⟩
    · exact ⟨j, z, h4, h2⟩
  have nw : ∀ b, Nams (ρ.set i (.own (.lst false ds))) σ b ↔ Nams ρ σ b := fun b => by
    constructor
    · rintro ⟨j, z, h1, h2⟩
      rcases set_get h1 with ⟨_, h⟩ | ⟨h3, h4⟩
      · cases h
      · exact ⟨j, z, h4, h2⟩
    · rintro ⟨j, z, h1, h2⟩
      have : i ≠ j := fun q => by
        subst q
        rw [e] at h1
        cases h1
      exact ⟨j, z, by rw [List.getElem?_set_ne this]; exact h1, h2⟩
  have st : Step ρ (ρ.set i (.own (.lst false ds))) σ H (upd H a (.lst vs)) := ⟨ow, nw, fun b o h n => by
    have hb : b ≠ a := fun z => n (by rw [z]; exact oa)
    rw [upd_ne hb]
    exact h, fun b o h => by
    by_cases z : b = a
    · exact ⟨_, by rw [z]; exact upd_same⟩
    · exact ⟨o, by rw [upd_ne z]; exact h⟩⟩
  have kp := st.kept r
  have ne : ∀ j z b, ρ[j]? = some (.own z) → σ[j]? = some (some (.ref b)) → j ≠ i → b ≠ a := fun j z b h1 h2 h3 q => h3 (r.apart j i z d a h1 e (q ▸ h2) es)
  refine ⟨st, ?_⟩
  exact {
    len := by rw [List.length_set]; exact r.len
    val := fun j z h => by
      rcases set_get h with ⟨h1, h2⟩ | ⟨h1, h2⟩
      · cases h2
      · obtain ⟨v, q1, q2⟩ := r.val j z h2
        exact ⟨v, q1, st.dr r q2⟩
    own := fun j z h => by
      rcases set_get h with ⟨h1, h2⟩ | ⟨h1, h2⟩
      · cases h2
        subst h1
        exact ⟨a, es, rfl, vs, upd_same, q.keep kp fun _ _ g _ => st.reg g⟩
      · obtain ⟨b, q1, q2⟩ := r.own j z h2
        refine ⟨b, q1, q2.keep kp (fun _ _ g _ => st.reg g) fun o w => ?_⟩
        rw [upd_ne (ne j z b h2 q1 h1)]
        exact w
    nam := fun j z h => by
      rcases set_get h with ⟨h1, h2⟩ | ⟨h1, h2⟩
      · cases h2
      · obtain ⟨b, us, q1, q2, q3, q4⟩ := r.nam j z h2
        refine ⟨b, us, q1, ?_, q3.keep ⟨fun nm c o w1 w2 => kp.reg nm c o w1.2 w2, kp.fix⟩ fun _ _ g _ => ⟨g.1, st.reg g.2⟩, q4⟩
        have hb : b ≠ a := fun w => r.ownN a (.inl oa) (.inr ⟨j, z, h2, by rw [← w]; exact q1⟩)
        rw [upd_ne hb]
        exact q2
    apart := fun j k z y b h1 h2 h3 h4 => by
      have f : ∀ (j : Nat) (z : D), (ρ.set i (Slot.own (.lst false ds)))[j]? = some (Slot.own z) → ∃ z', ρ[j]? = some (Slot.own z') := fun j z h => by
        rcases set_get h with ⟨h3, _⟩ | ⟨_, h4⟩
        · subst h3
          exact ⟨d, e⟩
        · exact ⟨z, h4⟩
      obtain ⟨z', h1⟩ := f j z h1
      obtain ⟨y', h2⟩ := f k y h2
      exact r.apart j k z' y' b h1 h2 h3 h4
    ownT := fun b h => r.ownT b (ow b h)
    tmpAt := fun b h => let ⟨o, q⟩ := r.tmpAt b h; st.there b o q
    ownN := fun b h => by rw [nw b]; exact r.ownN b (h.imp (ow b) id)
    new := fun b h => r.new b (h.imp (ow b) id)
    newN := fun b h => r.newN b ((nw b).mp h)
    frame := fun b o h n => by
      have hb : b ≠ a := fun z => by
        subst z
        rcases (r.new b (.inl oa)).2 with w | ⟨j, w⟩
        · rw [h] at w; cases w
        · exact n j w
      rw [upd_ne hb]
      exact r.frame b o h n
    cn := r.cn
    lent := fun j b h => by
      obtain ⟨q1, z, q2⟩ := r.lent j b h
      refine ⟨q1, ?_⟩
      by_cases w : i = j
      · subst w
        exact ⟨_, List.getElem?_set_self hi⟩
      · exact ⟨z, by rw [List.getElem?_set_ne w]; exact q2⟩ }
end
end Own

/-! part Own12 -/
namespace Own
open PySem PySem.Spec L2

section
variable {α β : Type} {C : Cn} {F : Fns} {W : WX} {g : Gi} {T L : List Addr} {ρ ρ1 ρ2 : Rho} {σ : St} {H H1 H2 H3 : Hp} {x y : VR} {v w : V} {d e : D}
theorem ownL_at {i : Nat} (r : Rep C T ρ σ H) (h : isOwnL ρ i = true) : ∃ a nm ds vs, ρ[i]? = some (.own (.lst nm ds)) ∧ σ[i]? = some (some (.ref a)) ∧ H a = some (.lst vs) ∧ Drs C.K (Reg C T ρ σ) H vs ds := by
  unfold isOwnL at h
  split at h
  · rename_i nm ds e
    obtain ⟨a, e1, _, vs, e2, e3⟩ := r.own i _ e
    exact ⟨a, nm, ds, vs, e, e1, e2, e3⟩
  · cases h
theorem few_one {cpos : Pos} {y : Expr} {env : PySem.Env} (h : notStar y = true) : ((backTo cpos (starEach [y] env)).all (fun x => !x.1) && (backToKw cpos (keywordEach [] env)).all (fun x => x.1.isSome)
      && decide (([y] : List Expr).length + ([] : List Keyword).length + (if ([] : List Keyword).isEmpty then 0 else 1) < 30)) = true := by
  rw [star_cons h]
  rfl
theorem app_E {X : Cx} (G : Good X C F W g) {i : Nat} {m : ME} {u : Bool} {x : Str} {p p2 q : Pos} {y : Expr} (hN : X.N[i]? = some x) (hv : visB X.env.scope x = true) (ho : okName x = true) (hl : (p.endLine == q.line) = true) (hy : notStar y = true) (ha : PE X y (rdE C F W false m)) :
    PE X (.Call (.Attribute (.Name x p2) "append" p) [y] [] q) (rdE C F W u (.app i m)) := by
  unfold okName at ho
  simp only [Bool.and_eq_true, Bool.not_eq_true'] at ho
  refine imp_E (pe_bm (T := "list") (id := "list.append") (r := rAppend) PySem.F.plainAttrs_list PySem.F.slot_list_append PySem.F.type_list_append mt_append (pe_var hN (vis_of hv) ho.1.1 ho.1.2) (pa_cons ha pa_nil (star_cons hy)) rfl (few_one hy) hl (star_cons hy) rfl) fun σ H Q ⟨T, ρ, r, h⟩ => ?_
  unfold evE at h
  split at h
  · exact h.elim
  rename_i hi
  obtain ⟨a, nm, ds, vs, e1, e2, e3, e4⟩ := ownL_at r (by simpa using hi)
  refine ⟨.ref a, e2, .inl ⟨rfl, vs, .inl (.inl e3)⟩, ?_⟩
  refine seq_E (L := []) .refl r h fun y ρ1 v H1 p1 h1 => ?_
  split at h1
  · rename_i nm' xs d' f1 f2
    split at h1
    · rename_i hk
      simp only [Bool.and_eq_true, decide_eq_true_eq] at hk
      obtain ⟨b, g1, _, us, g2, g3⟩ := p1.2.1.own i _ f1
      rw [e2] at g1
      cases g1
      have dv := keep_v r p1.2.1 p1.2.2.1 (fun a m => p1.2.2.2 a m) (noL_keeps hk.2) f2
      have g3' : Drs C.K (Reg C T ρ1 σ) H1 us xs := g3.mono fun _ _ g _ => g.lessL
      obtain ⟨st, r2⟩ := p1.2.1.lessL.write f1 e2 (g3'.append (Drs.one dv))
      exact ⟨a, us, v, rfl, rfl, g2, by rw [g3'.length]; exact hk.1, h1 _ _ (fin_v (L := []) (p1.1.trans st) r2 .non)⟩
    · exact h1.elim
  · exact h1.elim
theorem ext_E {X : Cx} (G : Good X C F W g) {i : Nat} {m : ME} {u : Bool} {x : Str} {p p2 q : Pos} {y : Expr} (hN : X.N[i]? = some x) (hv : visB X.env.scope x = true) (ho : okName x = true) (hl : (p.endLine == q.line) = true) (hy : notStar y = true) (ha : PE X y (rdE C F W true m)) :
    PE X (.Call (.Attribute (.Name x p2) "extend" p) [y] [] q) (rdE C F W u (.ext i m)) := by
  unfold okName at ho
  simp only [Bool.and_eq_true, Bool.not_eq_true'] at ho
  refine imp_E (pe_bm (T := "list") (id := "list.extend") (r := rExtend) PySem.F.plainAttrs_list PySem.F.slot_list_extend PySem.F.type_list_extend mt_extend (pe_var hN (vis_of hv) ho.1.1 ho.1.2) (pa_cons ha pa_nil (star_cons hy)) rfl (few_one hy) hl (star_cons hy) rfl) fun σ H Q ⟨T, ρ, r, h⟩ => ?_
  unfold evE at h
  split at h
  · exact h.elim
  rename_i hi
  obtain ⟨a, nm, ds, vs, e1, e2, e3, e4⟩ := ownL_at r (by simpa using hi)
  refine ⟨.ref a, e2, .inl ⟨rfl, vs, .inl (.inl e3)⟩, ?_⟩
  refine seq_E (L := []) .refl r h fun y ρ1 v H1 p1 h1 => ?_
  split at h1
  · rename_i nm' xs nm2 ys f1 f2
    split at h1
    · rename_i hk
      obtain ⟨b, g1, _, us, g2, g3⟩ := p1.2.1.own i _ f1
      rw [e2] at g1
      cases g1
      obtain ⟨c, ws, rfl, k1, k2⟩ := derf_dx p1.2.1 p1.2.2.1 f2
      have g3' : Drs C.K (Reg C T ρ1 σ) H1 us xs := g3.mono fun _ _ g _ => g.lessL
      have k2' : Drs C.K (Reg C T ρ1 σ) H1 ws ys := k2.mono fun _ _ g _ => g.lessL
      obtain ⟨st, r2⟩ := p1.2.1.lessL.write f1 e2 (g3'.append k2')
      exact ⟨a, c, us, ws, rfl, rfl, g2, k1, by rw [g3'.length, k2'.length]; exact small_le hk, h1 _ _ (fin_v (L := []) (p1.1.trans st) r2 .non)⟩
    · exact h1.elim
  · exact h1.elim
theorem pop_E {X : Cx} (G : Good X C F W g) {i : Nat} {u : Bool} {x : Str} {p p2 q : Pos} (hN : X.N[i]? = some x) (hv : visB X.env.scope x = true) (ho : okName x = true) (hl : (p.endLine == q.line) = true) :
    PE X (.Call (.Attribute (.Name x p2) "pop" p) [] [] q) (rdE C F W u (.pop i)) := by
  unfold okName at ho
  simp only [Bool.and_eq_true, Bool.not_eq_true'] at ho
  refine imp_E (pe_bm0 (T := "list") (id := "list.pop") (r := rPop) PySem.F.plainAttrs_list PySem.F.slot_list_pop PySem.F.type_list_pop mt_pop (pe_var hN (vis_of hv) ho.1.1 ho.1.2) rfl hl) fun σ H Q ⟨T, ρ, r, h⟩ => ?_
  unfold evE at h
  split at h
  · rename_i nm xs e
    split at h
    · rename_i d e5
      obtain ⟨a, e2, _, vs, e3, e4⟩ := r.own i _ e
      have hl := e4.length
      obtain ⟨y, hy, hd⟩ : ∃ y, vs[vs.length - 1]? = some y ∧ Dr C.K (Reg C T ρ σ) H y d := by
        rw [← hl] at e5
        exact e4.get e5
      obtain ⟨st, r2⟩ := r.write e e2 e4.dropLast
      exact ⟨.ref a, e2, .inl ⟨rfl, vs, .inl (.inl e3)⟩, a, vs, y, rfl, rfl, e3, hy, h _ _ (fin_v (L := []) st r2 (st.dr r hd))⟩
    · exact h.elim
  · exact h.elim
/-! ### a[::-1], is True -/
theorem rev_E {X : Cx} (G : Good X C F W g) {a : ME} {u : Bool} {e : Expr} {k : Nat} {p1 p2 p3 pos : Pos} (ha : PE X e (rdE C F W true a)) :
    PE X (.Subscript e (.Slice none none (some (.UnaryOp .USub (.Constant (.int 1) k p1) p2)) p3) pos) (rdE C F W u (.rev a)) := by
  refine imp_E (pe_revA ha) fun σ H Q ⟨T, ρ, r, h⟩ => ?_
  unfold evE at h
  refine seq_E (L := []) .refl r h fun x ρ1 v H1 p1 h1 => ?_
  split at h1
  case h_3 => exact h1.elim
  · rename_i nm xs e1
    obtain ⟨a, vs, rfl, h2, t1⟩ := derf_dx p1.2.1 p1.2.2.1 e1
    exact ⟨a, vs, rfl, .inl ⟨SqL.of h2, fun p hp => h1 _ _ (EPost.of p1.1 p1.2.1 (.lst p1.2.1 hp t1.reverse))⟩⟩
  · rename_i xs e1
    obtain ⟨a, vs, rfl, h2, t1⟩ := derf_dx p1.2.1 p1.2.2.1 e1
    exact ⟨a, vs, rfl, .inr ⟨by rw [G.K]; exact h2.sq, fun p hp => h1 _ _ (EPost.of p1.1 p1.2.1 (.tup p1.2.1 hp t1.reverse))⟩⟩
theorem isB_rd {ng b : Bool} {a : ME} {u : Bool} : ∀ σ H Q, rdE C F W u (.isB ng b a) σ H Q → rdE C F W true a σ H fun x H1 => ∃ c : Bool, x = .bl c ∧ Q (.bl (if ng then !decide (c = b) else decide (c = b))) H1 := fun σ H Q ⟨T, ρ, r, h⟩ => by
  unfold evE at h
  refine seq_E (L := []) .refl r h fun x ρ1 v H1 p1 h1 => ?_
  split at h1
  case h_2 => exact h1.elim
  rename_i c e1
  obtain rfl : v = .bl c := by
    have := derf_dx p1.2.1 p1.2.2.1 e1
    cases this
    rfl
  exact ⟨c, rfl, h1 _ _ (fin_v p1.1 p1.2.1 (.bl _))⟩
theorem isB_E {X : Cx} {ng b : Bool} {a : ME} {u : Bool} {l : Expr} {op : CmpOp} {pos p2 : Pos} {k : Nat} (ho : (match op with | .Is => !ng | .IsNot => ng | _ => false) = true) (ha : PE X l (rdE C F W true a)) :
    PE X (.Compare l [op] [.Constant (.bool b) k p2] pos) (rdE C F W u (.isB ng b a)) := by
  cases op <;> simp at ho
  · subst ho
    exact imp_E (pe_cmpR op_isBl ha pe_bl (by rfl)) fun σ H Q h => (isB_rd σ H Q h) |> fun ⟨T, ρ, r, q⟩ => ⟨T, ρ, r, by
      revert q
      cases evE F true a ρ with
      | no => exact id
      | exc c d ρ' => exact id
      | ok x ρ' => exact fun q v H' p => (let ⟨c, e, z⟩ := q v H' p; ⟨c, b, e, rfl, z⟩)⟩
  · subst ho
    exact imp_E (pe_cmpR op_notBl ha pe_bl (by rfl)) fun σ H Q h => (isB_rd σ H Q h) |> fun ⟨T, ρ, r, q⟩ => ⟨T, ρ, r, by
      revert q
      cases evE F true a ρ with
      | no => exact id
      | exc c d ρ' => exact id
      | ok x ρ' => exact fun q v H' p => (let ⟨c, e, z⟩ := q v H' p; ⟨c, b, e, rfl, z⟩)⟩
theorem isB_T {X : Cx} {ng b : Bool} {a : ME} {l : Expr} {op : CmpOp} {pos p2 : Pos} {k : Nat} (ho : (match op with | .Is => !ng | .IsNot => ng | _ => false) = true) (ha : PE X l (rdE C F W true a)) :
    PT X (.Compare l [op] [.Constant (.bool b) k p2] pos) (rdT C F W (.isB ng b a)) := by
  cases op <;> simp at ho
  · subst ho
    exact imp_T (pt_cmpR op_isBl ha pe_bl (by rfl)) (test_of fun σ H Q h => (isB_rd σ H _ h) |> fun ⟨T, ρ, r, q⟩ => ⟨T, ρ, r, by
      revert q
      cases evE F true a ρ with
      | no => exact id
      | exc c d ρ' => exact id
      | ok x ρ' => exact fun q v H' p => (let ⟨c, e, z⟩ := q v H' p; ⟨c, b, e, rfl, z⟩)⟩)
  · subst ho
    exact imp_T (pt_cmpR op_notBl ha pe_bl (by rfl)) (test_of fun σ H Q h => (isB_rd σ H _ h) |> fun ⟨T, ρ, r, q⟩ => ⟨T, ρ, r, by
      revert q
      cases evE F true a ρ with
      | no => exact id
      | exc c d ρ' => exact id
      | ok x ρ' => exact fun q v H' p => (let ⟨c, e, z⟩ := q v H' p; ⟨c, b, e, rfl, z⟩)⟩)
/-! ### errors: isinstance(e, C), e.value -/
theorem isx_E {X : Cx} (G : Good X C F W g) {c : Str} {a : ME} {u : Bool} {p p2 pos : Pos} {y : Expr} (hg : glB X.env.scope "isinstance" = true) (hg2 : glB X.env.scope c = true) (ho : okName c = true) (hb : g.blts.contains ("isinstance" : Str) = true) (hc : g.excs.contains c = true)
    (hy : notStar y = true) (ha : PE X y (rdE C F W true a)) : PE X (.Call (.Name "isinstance" p) [y, .Name c p2] [] pos) (rdE C F W u (.isx c a)) := by
  have m1 : X.mg "isinstance" = none := G.blt _ (by simpa using hb)
  have hc' : c ∈ g.excs := by simpa using hc
  obtain ⟨D, fI, fd, _, _, _, hall⟩ := G.ex.ini fun z => by rw [z] at hc'; cases hc'
  obtain ⟨cb, hcb, _⟩ := hall c hc'
  unfold okName at ho
  simp only [Bool.and_eq_true, Bool.not_eq_true'] at ho
  have e2 : PE X (.Name c p2) (tC (.ref cb)) := pe_glob (gl_of hg2) (G.ex.mg c cb hcb) rfl ho.1.1
  refine imp_E (pe_callB (call_u (f := .builtin "isinstance")) (gl_of hg) m1 (by decide +kernel) (pa_cons ha (pa_cons e2 pa_nil (star_cons (by rfl))) (star_cons hy)) (by decide) (by decide) (star_cons hy) rfl) fun σ H Q ⟨T, ρ, r, h⟩ => ?_
  unfold evE at h
  refine seq_E (L := []) .refl r h fun x ρ1 v H1 p1 h1 => ?_
  split at h1
  · rename_i c' d' e1
    cases hs : F.sub c' c with
    | none => rw [hs] at h1; exact h1.elim
    | some bb =>
      rw [hs] at h1
      obtain ⟨a', b', ca, w', rfl, q1, q2, q3, _⟩ := derf_dx p1.2.1 p1.2.2.1 e1
      have k := excOk_k q3.2
      exact ⟨_, call_isX, a', ca, b', _, .ref cb, .ref cb, bb, rfl, q1, q2, by rw [G.K]; exact k, fun u r => r, by rw [G.K]; exact (G.ex.sub c' c ca cb bb hs q3 hcb).2, h1 _ _ (fin_v p1.1 p1.2.1 (.bl _))⟩
  · exact h1.elim
theorem fld_E {X : Cx} (G : Good X C F W g) {i : Nat} {u : Bool} {x : Str} {p pos : Pos} (hN : X.N[i]? = some x) (hv : visB X.env.scope x = true) (ho : okName x = true) : PE X (.Attribute (.Name x p) "value" pos) (rdE C F W u (.fld i)) := by
  unfold okName at ho
  simp only [Bool.and_eq_true, Bool.not_eq_true'] at ho
  refine ⟨fun pins s σ H Q I ⟨T, ρ, r, h⟩ => ?_⟩
  unfold evE at h
  split at h
  case h_2 => exact h.elim
  rename_i c d e1
  obtain ⟨v, e2, dv⟩ := r.val i _ e1
  obtain ⟨a, b, ca, w, rfl, q1, q2, q3, q4⟩ := dv.dx
  have k := excOk_k q3.2
  refine attr_of rfl (thn ((pe_var (pos := p) hN (vis_of hv) ho.1.1 ho.1.2).run pins s σ H (fun z H1 => z = .ref a ∧ H1 = H) I ⟨.ref a, e2, rfl, rfl⟩) fun uu s1 hh => ?_)
  obtain ⟨z, H1, I1, rx, ez, eH⟩ := hh
  subst ez
  subst eH
  obtain rfl : uu = Value.ref a := rx
  obtain ⟨⟨oe, vs, o1, o2, o3, o4⟩, _, _⟩ := I1.hok a _ q1
  have hx : ObjOk X.prog X.w H1 s1.heap b (.xd [("value", w)]) := I1.hok b _ q2
  obtain ⟨mA, hns, hr⟩ := hx
  obtain ⟨od, ho', hl⟩ := lookIn_ns hns
  obtain ⟨u2, hu, ru⟩ := RelO.some_of (v := w) (o := mA "value") (hr "value")
  have J : PySem.W.InstAt s1.heap a oe ca (some od) := ⟨o1, o2, by unfold PySem.W.notCls; rw [o4] <;> rfl, by rw [o3]; exact ho'⟩
  have k' : ExcK X.K ca := by rw [G.K]; exact k
  exact HandSPX.exc_get I1.kIn J k'.ga k'.gg k'.be (PySem.W.findObj_own k'.hd k'.va rfl (by rw [hl, hu])) (handed_of ru) ⟨w, H1, I1.tok _, ru, h w H1 (EPost.of (L := []) .refl r (.here q4))⟩
end
end Own

/-! part OwnT2 -/
namespace Own
open PySem PySem.Spec L2
/-! ### try: .. except C as n: m = (isinstance(n, D), .., n.value) -/
section
variable {Y : Cx} {i : Nat} {n : Str} {a : Addr} {oe : Obj} {cls : Value} {d : Option Addr} {pn : List (Addr × Obj)}
/-- what the clause knows of its exception -/
structure HeK (K : PySem.W.Frag) (i : Nat) (a : Addr) (cls : Value) (d : Option Addr) (σ : St) (H : Hp) (C : Addr) (w : V) : Prop where
  ec : cls = .ref C
  k : ExcK K C
  sl : σ[i]? = some (some (.ref a))
  ed : ∃ dd, d = some dd ∧ H dd = some (.xd [("value", w)])
def itV (zf : Str → Bool) (w : V) : HE → V
  | .isx c => .bl (zf c)
  | .fld => w
/-- an item's reading -/
def tIt (K : PySem.W.Frag) (i : Nat) (a : Addr) (cls : Value) (d : Option Addr) (it : HE) (cb : Addr) : TE := fun σ H Q => ∃ C w, HeK K i a cls d σ H C w ∧ match it with
  | .isx _ => ∃ z, PySem.W.kitOne K (.ref C) (.ref cb) = some z ∧ Q (.bl z) H
  | .fld => Q w H
theorem call_isP (hp : (a, oe) ∈ Y.pn) (hz : Zc cls d oe) (hf : ∃ vs, oe.data = .fields vs) : CallR Y (.builtin "isinstance") (fun xs H Q => ∃ (cb C : Addr) (w : V) (z : Bool), xs = [.ref a, .ref cb] ∧ cls = .ref C ∧ ExcK Y.K C ∧ (∃ dd, d = some dd ∧ H dd = some (.xd [("value", w)])) ∧ PySem.W.kitOne Y.K (.ref C) (.ref cb) = some z ∧ Q (.bl z) H) := by
  intro pins s σ H xs us Q I r h
  obtain ⟨cb, C, w, z, rfl, ec, k, ed, e, q⟩ := h
  cases r with
  | cons rx rr =>
    cases rr with
    | cons rt rr =>
      cases rr
      cases rx
      cases rt
      obtain ⟨hget, _⟩ := I.pin (a, oe) (List.mem_append.mpr (.inl hp))
      obtain ⟨vs, hv⟩ := hf
      obtain ⟨h1, h2⟩ := hz
      obtain ⟨dd, rfl, q2⟩ := ed
      have hx : ObjOk Y.prog Y.w H s.heap dd (.xd [("value", w)]) := I.hok dd _ q2
      obtain ⟨mA, hns, hr⟩ := hx
      obtain ⟨od, ho', hl⟩ := lookIn_ns hns
      have J : PySem.W.InstAt s.heap a oe C (some od) := ⟨hget, by rw [h1, ec], by unfold PySem.W.notCls; rw [hv] <;> rfl, by rw [h2]; exact ho'⟩
      have hcl : (PySem.W.clsIn Y.K C).isSome = true := by
        have := k.hd
        unfold PySem.W.hasDictIn at this
        cases hc : PySem.W.clsIn Y.K C with
        | none => rw [hc] at this; cases this
        | some cd => rfl
      exact PySem.W.kia_one (PySem.W.kitx_exc hcl k.ga k.gg k.be k.cl k.sp k.tk k.ob) I.kIn J e (fun z => nomatch z) fun tk => ⟨.bl z, H, I.tok tk, rfl, q⟩
theorem he_isx (hp : (a, oe) ∈ Y.pn) (hz : Zc cls d oe) (hf : ∃ vs, oe.data = .fields vs) {c : Str} {cb : Addr} {p p1 p2 pos : Pos} (hg : Gl Y "isinstance") (m1 : Y.mg "isinstance" = none) (e1 : PE Y (.Name n p1) (tVar i)) (e2 : PE Y (.Name c p2) (tC (.ref cb))) :
    PE Y (.Call (.Name "isinstance" p) [.Name n p1, .Name c p2] [] pos) (tIt Y.K i a cls d (.isx c) cb) := by
  refine imp_E (pe_callB (call_isP hp hz hf) hg m1 (by decide +kernel) (pa_cons e1 (pa_cons e2 pa_nil rfl) rfl) (by decide) (by decide) rfl rfl) fun σ H Q ⟨C, w, k, z, hk, q⟩ => ?_
  exact ⟨.ref a, k.sl, cb, C, w, z, rfl, k.ec, k.k, k.ed, hk, q⟩
theorem he_fld (hp : (a, oe) ∈ Y.pn) (hz : Zc cls d oe) (hf : ∃ vs, oe.data = .fields vs) {p1 pos : Pos} (e1 : PE Y (.Name n p1) (tVar i)) {cb : Addr} :
    PE Y (.Attribute (.Name n p1) "value" pos) (tIt Y.K i a cls d .fld cb) := by
  refine ⟨fun pins s σ H Q I ⟨C, w, k, h⟩ => ?_⟩
  refine attr_of rfl (thn (e1.run pins s σ H (fun z H1 => z = .ref a ∧ H1 = H) I ⟨.ref a, k.sl, rfl, rfl⟩) fun uu s1 hh => ?_)
  obtain ⟨z, H1, I1, rx, ez, eH⟩ := hh
  subst ez
  subst eH
  obtain rfl : uu = Value.ref a := rx
  obtain ⟨hget, _⟩ := I1.pin (a, oe) (List.mem_append.mpr (.inl hp))
  obtain ⟨vs, hv⟩ := hf
  obtain ⟨h1, h2⟩ := hz
  obtain ⟨dd, rfl, q2⟩ := k.ed
  have hx : ObjOk Y.prog Y.w H1 s1.heap dd (.xd [("value", w)]) := I1.hok dd _ q2
  obtain ⟨mA, hns, hr⟩ := hx
  obtain ⟨od, ho', hl⟩ := lookIn_ns hns
  obtain ⟨u2, hu, ru⟩ := RelO.some_of (v := w) (o := mA "value") (hr "value")
  have J : PySem.W.InstAt s1.heap a oe C (some od) := ⟨hget, by rw [h1, k.ec], by unfold PySem.W.notCls; rw [hv] <;> rfl, by rw [h2]; exact ho'⟩
  exact HandSPX.exc_get I1.kIn J k.k.ga k.k.gg k.k.be (PySem.W.findObj_own k.k.hd k.k.va rfl (by rw [hl, hu])) (handed_of ru) ⟨w, H1, I1.tok _, ru, h⟩
def tIts (K : PySem.W.Frag) (i : Nat) (a : Addr) (cls : Value) (d : Option Addr) (cbf : Str → Addr) : List HE → TA
  | [] => tNil
  | it :: r => tCons (tIt K i a cls d it (match it with | .isx c => cbf c | .fld => 0)) (tIts K i a cls d cbf r)
theorem tIts_of {K : PySem.W.Frag} {σ : St} {H : Hp} {C : Addr} {w : V} {cbf : Str → Addr} {zf : Str → Bool} (k : HeK K i a cls d σ H C w) : ∀ (es : List HE) {R : List V → Hp → Prop}, (∀ c, HE.isx c ∈ es → PySem.W.kitOne K (.ref C) (.ref (cbf c)) = some (zf c)) → R (es.map (itV zf w)) H → tIts K i a cls d cbf es σ H R
  | [], R, _, h => h
  | .isx c :: r, R, hz, h => ⟨C, w, k, zf c, hz c (by simp), tIts_of k r (fun c' hc => hz c' (by simp [hc])) h⟩
  | .fld :: r, R, hz, h => ⟨C, w, k, tIts_of k r (fun c' hc => hz c' (by simp [hc])) h⟩
end
end Own

/-! part OwnE -/
namespace Own
open PySem PySem.Spec L2 PyProof.Rows
open Sem (wp)

set_option maxHeartbeats 1000000 in
theorem meets_enum1 {v : Value} {o : Obj} {P : Heap → Prop} (B : Begins v o P) :
    Meets (Builtin.«enumerate.__new__» ⟨[.type "enumerate", v], []⟩) (fun _ R s => P s.heap ∧
      R (.ok (.ret (.ref (s.heap.push o).objs.size))) { s with heap := (s.heap.push o).push { cls := .type "enumerate", data := .fields #[.none, .bool false, .ref s.heap.objs.size, rawInt 0, .none, .none] } }) :=
  .of_wp fun prog w A R s h => by
    obtain ⟨hp, g, d, tk, os⟩ := s; obtain ⟨h1, h⟩ := h
    have hsub := sub_enumerate
    have q1 : ∀ {A' : Around} {E : Value → Shared → Prop} {Q : Value → Shared → Prop}, Q (.ref hp.objs.size) ⟨hp.push o, g, d, tk, os⟩ → wpAny (model prog w) A' (pyIter v) Q E ⟨hp, g, d, tk, os⟩ :=
      fun q => B.iter prog w _ _ ⟨hp, g, d, tk, os⟩ _ h1 q
    wp_walk using q1
    refine wpAny_stack_any fun st => wpAny_pure ?_
    split
    · rename_i c _ _ _ _ _
      cases (c == Value.type "enumerate")
      · wp_walk using q1
        exact ⟨_, rfl, h⟩
      · wp_walk using q1
        exact ⟨_, rfl, h⟩
    · wp_walk using q1
      exact ⟨_, rfl, h⟩
theorem enum1_begins {prog : Program} {w : World} {A : Around} {E : Value → Shared → Prop} {s : Shared} {v : Value} {o : Obj} {P : Heap → Prop} {Q : Value → Shared → Prop} (B : Begins v o P) (h1 : P s.heap)
    (h : ∀ h', IsEnum h' (s.heap.objs.size + 1) s.heap.objs.size 0 .none → h'.get? s.heap.objs.size = some o → h'.objs.size = s.heap.objs.size + 2 →
      (∀ b o, s.heap.get? b = some o → h'.get? b = some o) → Q (.ref (s.heap.objs.size + 1)) { s with heap := h' }) :
    wpAny (model prog w) A (call (.type "enumerate") [v]) Q E s := by
  refine callType_new F.called_enumerate (by decide) (F.typeCall_enumerate_1 _) (F.newCall_enumerate_1 _) (fun obj => F.args_object_init_2 obj _) F.entry_enumerate_new (meets_enum1 B) ⟨h1, ?_⟩
  have hz : (s.heap.push o).objs.size = s.heap.objs.size + 1 := Heap.size_push ..
  show _ ∧ _
  rw [hz]
  have he : IsEnum ((s.heap.push o).push { cls := .type "enumerate", data := .fields #[.none, .bool false, .ref s.heap.objs.size, rawInt 0, .none, .none] }) (s.heap.objs.size + 1) s.heap.objs.size 0 .none := by
    have := Heap.get?_push_size (s.heap.push o) (o := { cls := .type "enumerate", data := .fields #[.none, .bool false, .ref s.heap.objs.size, rawInt 0, .none, .none] }) rfl
    rw [hz] at this; exact this
  refine ⟨⟨_, he, rfl⟩, h _ he (Heap.get?_push_of_some _ (Heap.get?_push_size _ B.free)) (by rw [Heap.size_push, hz]) fun b o x => Heap.get?_push_of_some _ (Heap.get?_push_of_some _ x)⟩

/-- the tuple at a, each item in a new pair -/
def IteT (K : PySem.W.Frag) (a : Addr) : It :=
  ⟨fun i H => ∃ (xs : List V) (x : V), SqT K H a xs ∧ xs[i]? = some x, fun i H v H' => ∃ T x, v = .ref T ∧ H T = none ∧ H' = upd H T (.tup [.int (i : Nat), x]) ∧ ∀ xs, SqT K H a xs → xs[i]? = some x, fun i H => ∃ xs : List V, SqT K H a xs ∧ xs.length = i⟩
/-- how long the tuple is stands fixed: a tuple does not change -/
theorem turn_enumT {P : Program} {w : World} {K : PySem.W.Frag} {elts : List Expr} {kk : Nat} {tpos : Pos} (a e it : Addr) (items : Array Value) :
    Turn P w K (.Tuple elts kk tpos) (IteT K a) [e, it] e (fun i h => (∃ old, IsEnum h e it ((i : Nat) : Int) old) ∧ h.IsTupleIter it a i ∧ e ≠ it ∧ it ≠ a) where
  mem := by simp
  obj := fun i h st b hb => by
    obtain ⟨⟨old, he⟩, ⟨o, ho, hc, hd⟩, _⟩ := st
    have e' : b = e ∨ b = it := by simpa using hb
    rcases e' with z | z
    · rw [z]; exact ⟨_, he, fun v q => nomatch q⟩
    · rw [z]; exact ⟨o, ho, fun v q => by rw [hd] at q; cases q⟩
  keep := fun i h h' st k => let ⟨⟨old, he⟩, hi, hne⟩ := st; ⟨⟨old, k e (by simp) _ he⟩, hi.at fun o q => k it (by simp) o q, hne⟩
  item := by
    intro X hP hw hK hc i pins s σ H E I hf st hg
    subst hP hw hK
    obtain ⟨⟨old, he⟩, hit, hne, hna⟩ := st
    obtain ⟨xs, x, hq, hx⟩ := hg
    obtain ⟨its, rv, p, hz⟩ := I.tuple hq
    have p : s.heap.IsTuple a its.toArray := p
    obtain ⟨u, hu, ru⟩ := rv.get hx
    have hel : e < s.heap.objs.size := Heap.lt_size he
    have hil : it < s.heap.objs.size := by obtain ⟨_, q, _⟩ := hit; exact Heap.lt_size q
    have hh : X.A.in1.handled = none := I.ok.hd hc
    have hlt : i < its.toArray.size := by
      have := (List.getElem?_eq_some_iff.mp hu).1
      simpa using this
    refine wpAny_pyNext_enum_itemC (Draws.tuple hh it a (Ne.symm hna) its.toArray) he ⟨hit, p⟩ hlt hne ?_ fun x' h' tk hx' ho st' hT hsz hk => ?_
    · intro z
      have z' : e = it ∨ e = a := by simpa using z
      rcases z' with z | z
      · exact hne z
      · subst z
        obtain ⟨o, ho, hcls, _⟩ := p
        have he' : s.heap.get? e = some _ := he
        rw [ho] at he'
        cases he'
        have hc2 : Value.type "enumerate" = Value.type "tuple" := hcls
        injection hc2 with hc3
        exact absurd hc3 (by decide)
    have hxu : x' = u := by
      have : its.toArray[i]? = some x' := hx'
      rw [List.getElem?_toArray, hu] at this
      cases this
      rfl
    subst hxu
    refine ⟨_, rfl, wpAny_letOwnedTupleGo_enum (s := { s with heap := h', toks := tk + 1 }) ho fun h'' he' sb => ?_⟩
    have hT2 : h''.get? s.heap.objs.size = some { cls := .type "tuple", data := .seq #[.int i tk, x'] } := (sb.2 _ (Nat.ne_of_gt hel)).trans hT
    have new : ObjOk X.prog X.w (upd H s.heap.objs.size (.tup [.int (i : Nat), x])) h'' s.heap.objs.size (.tup [.int (i : Nat), x]) :=
      ⟨by show 2 ≤ sizeLine; decide, [.int i tk, x'], .cons ⟨_, rfl⟩ (.cons ru .nil), ⟨_, hT2, rfl, _, rfl⟩⟩
    have I1 : Inv X pins σ (upd H s.heap.objs.size (.tup [.int (i : Nat), x])) { s with heap := h'', toks := tk + 1 } :=
      I.turnedNew (ch := [e, it]) (fun b ob hb q => (sb.2 b (fun z => hb (by simp [z]))).trans (hk b ob (fun z => hb (by simp [z])) (fun z => hb (by simp [z])) q)) hf (Nat.le_refl _) new
    refine ⟨.ref s.heap.objs.size, _, I1, rfl, ⟨_, x, rfl, I.hok.fresh (Nat.le_refl _), rfl, fun ys hy => by rw [I.tuple_inj hy hq]; exact hx⟩, ⟨⟨x', ?_⟩, st'.1.at fun o q => (sb.2 it (Ne.symm hne)).trans q, hne, hna⟩, fun b hb => ?_⟩
    · have e1 : ((i + 1 : Nat) : Int) = (i : Int) + 1 := by omega
      rw [e1]; exact he'
    · have hb' : b < s.heap.objs.size := by
        have e' : b = e ∨ b = it := by simpa using hb
        rcases e' with z | z
        · rw [z]; exact hel
        · rw [z]; exact hil
      rw [upd_ne (Nat.ne_of_lt hb')]
      exact (hf b hb).1
  done := by
    intro X hP hw hK hc i pins s σ H E I hf st hg
    subst hP hw hK
    obtain ⟨⟨old, he⟩, hit, hne, hna⟩ := st
    obtain ⟨xs, hq, hx⟩ := hg
    obtain ⟨its, rv, p, hz⟩ := I.tuple hq
    have p : s.heap.IsTuple a its.toArray := p
    obtain ⟨f0, f1, f2, f3, f4, f5⟩ := hf it (by simp)
    have hl := rv.length
    have hh : X.A.in1.handled = none := I.ok.hd hc
    have hl2 : its.toArray.size = i := by rw [List.size_toArray, ← hl]; exact hx
    refine wpAny_pyNext_enum_endD (Draws.tuple hh it a (Ne.symm hna) its.toArray) he (by rw [hl2]; exact ⟨hit, p⟩) fun h' eb => ⟨rfl, I.turned (t' := s.toks) (fun b o hb q => eb b o hb q) f0 f1 f3 f4 f5⟩
  self := fun A i s Q E st h => let ⟨⟨_, he⟩, _⟩ := st; wpAny_pyIter_enum he h
def iEnumU (K : PySem.W.Frag) (ta : TA) : TI := fun σ H R => ta σ H fun vs H1 => ∃ a, vs = [.ref a] ∧ ((∃ xs, SqL K H1 a xs ∧ R (Ite K a) H1) ∨ ∃ xs, SqT K H1 a xs ∧ R (IteT K a) H1)
theorem pi_enumU {X : Cx} {e : Expr} {ta : TA} {p pos tpos : Pos} {elts : List Expr} {kk : Nat} (hg : Gl X "enumerate") (hm : X.mg "enumerate" = none) (ha : PA X [e] ta) (hs : starEach [e] X.env = [(false, eval e X.env)]) :
    PI X (.Tuple elts kk tpos) (.Call (.Name "enumerate" p) [e] [] pos) (iEnumU X.K ta) := by
  refine ⟨fun pins s σ H R I h => ?_⟩
  refine Call_ (ld_blt I hg hm boot_enumerate (PyProof.Rows.callWith_type1 (thn (ha.run pos pins s σ H _ I h) fun us s1 ⟨vs, H1, I1, r1, q1⟩ => ?_) hs rfl))
  obtain ⟨a, ex, q1⟩ := q1
  subst ex
  cases r1 with
  | cons r rr =>
    cases rr
    cases r
    have fr : ∀ b ∈ [s1.heap.objs.size + 1, s1.heap.objs.size], FpOk X pins H1 b := fun b hb => by
      have e' : b = s1.heap.objs.size + 1 ∨ b = s1.heap.objs.size := by simpa using hb
      have hle : s1.heap.objs.size ≤ b := by
        rcases e' with z | z
        · rw [z]; exact Nat.le_add_right _ _
        · rw [z]; exact Nat.le_refl _
      exact I1.fpOk hle (I1.hok.fresh hle)
    rcases q1 with ⟨xs, hq, q⟩ | ⟨xs, hq, q⟩
    · obtain ⟨its, rv, p', hz⟩ := I1.list hq
      refine call_enumerate_list p'.isList fun h' he hit hsz hk => wpAny_pyIter_enum he ?_
      have I2 : Inv X pins σ H1 { s1 with heap := h' } := I1.kept (t' := s1.toks) hk
      exact ⟨s1.heap.objs.size + 1, [s1.heap.objs.size + 1, s1.heap.objs.size], _, _, H1, rfl, I2, turn_enum a (s1.heap.objs.size + 1) s1.heap.objs.size, ⟨⟨.none, he⟩, hit, Nat.succ_ne_self _⟩, fr, q⟩
    · obtain ⟨its, rv, p', hz⟩ := I1.tuple hq
      have p' : s1.heap.IsTuple a its.toArray := p'
      refine enum1_begins (begins_tuple a its.toArray) p' fun h' he hit hsz hk => wpAny_pyIter_enum he ?_
      have I2 : Inv X pins σ H1 { s1 with heap := h' } := I1.kept (t' := s1.toks) hk
      obtain ⟨o, ho, _⟩ := id p'
      exact ⟨s1.heap.objs.size + 1, [s1.heap.objs.size + 1, s1.heap.objs.size], _, _, H1, rfl, I2, turn_enumT a (s1.heap.objs.size + 1) s1.heap.objs.size its.toArray, ⟨⟨.none, he⟩, ⟨_, hit, rfl, rfl⟩, Nat.succ_ne_self _, fun z => Nat.lt_irrefl _ (z ▸ Heap.lt_size ho)⟩, fr, q⟩
end Own

/-! part Own13 -/
namespace Own
open PySem PySem.Spec L2

/-! ### what a loop walks -/
/-- the iterator draws ds, as long as the values ws stand for cs -/
structure WalkD (C : Cn) (J : It) (ws : List V) (cs ds : List D) : Prop where
  go : ∀ R H i, Drs C.K R H ws cs → i < ds.length → J.go i H
  stop : ∀ R H, Drs C.K R H ws cs → J.stop ds.length H
  yld : ∀ T ρ σ H (i : Nat) x H' d, Rep C T ρ σ H → Drs C.K (Reg C T ρ σ) H ws cs → ds[i]? = some d → J.yld i H x H' → Ext H H' ∧ Dr C.K (Reg C T ρ σ) H' x d
/-- a list, as a value -/
def ListD (d : D) (ds : List D) : Prop := (∃ nm, d = .lst nm ds) ∨ d = .scr ds
section
variable {α β : Type} {C : Cn} {F : Fns} {W : WX} {g : Gi} {T L : List Addr} {ρ ρ1 ρ2 : Rho} {σ : St} {H H1 H2 H3 : Hp} {x y : VR} {v w : V} {d e : D} {R : Bool → Addr → Prop}
theorem ListD.sq {ds : List D} (h : ListD d ds) (q : Dr C.K R H v d) : ∃ a vs, v = .ref a ∧ SqL C.K H a vs ∧ Drs C.K R H vs ds := by
  rcases h with ⟨nm, rfl⟩ | rfl
  · obtain ⟨a, vs, rfl, h1, h2⟩ := q.dx
    exact ⟨a, vs, rfl, SqL.of h1, h2⟩
  · obtain ⟨a, vs, rfl, h1, h2⟩ := q.dx
    exact ⟨a, vs, rfl, h1.sq, h2⟩
theorem some_of_lt {vs : List V} {ds : List D} {i : Nat} (q : Drs C.K R H vs ds) (h : i < ds.length) : ∃ x, vs[i]? = some x := by
  rw [← q.length] at h
  exact ⟨vs[i], List.getElem?_eq_getElem h⟩
theorem get_of {vs : List V} {ds : List D} {i : Nat} {x : V} (q : Drs C.K R H vs ds) (h : vs[i]? = some x) (e : ds[i]? = some d) : Dr C.K R H x d := by
  obtain ⟨d', h1, h2⟩ := q.getV h
  rw [e] at h1
  cases h1
  exact h2
theorem walk_list {a : Addr} {ds : List D} (h : ListD d ds) : WalkD C (Itl C.K a) [.ref a] [d] ds where
  go := fun R H i q hi => by
    cases q with
    | cons q _ =>
      obtain ⟨b, vs, e, h1, h2⟩ := h.sq q
      cases e
      obtain ⟨x, hx⟩ := some_of_lt h2 hi
      exact ⟨vs, x, h1, hx⟩
  stop := fun R H q => by
    cases q with
    | cons q _ =>
      obtain ⟨b, vs, e, h1, h2⟩ := h.sq q
      cases e
      exact ⟨vs, h1, Nat.le_of_eq h2.length⟩
  yld := fun T ρ σ H i x H' d' r q hd ⟨e, hy⟩ => by
    subst e
    cases q with
    | cons q _ =>
      obtain ⟨b, vs, e, h1, h2⟩ := h.sq q
      cases e
      exact ⟨fun _ _ z => z, get_of h2 (hy vs h1) hd⟩
theorem walk_tup {a : Addr} {ds : List D} : WalkD C (Itt C.K a) [.ref a] [.tup ds] ds where
  go := fun R H i q hi => by
    cases q with
    | cons q _ =>
      obtain ⟨b, vs, e, h1, h2⟩ := q.dx.tt
      cases e
      obtain ⟨x, hx⟩ := some_of_lt h2 hi
      exact ⟨vs, x, h1, hx⟩
  stop := fun R H q => by
    cases q with
    | cons q _ =>
      obtain ⟨b, vs, e, h1, h2⟩ := q.dx.tt
      cases e
      exact ⟨vs, h1, Nat.le_of_eq h2.length⟩
  yld := fun T ρ σ H i x H' d' r q hd ⟨e, hy⟩ => by
    subst e
    cases q with
    | cons q _ =>
      obtain ⟨b, vs, e, h1, h2⟩ := q.dx.tt
      cases e
      exact ⟨fun _ _ z => z, get_of h2 (hy vs h1) hd⟩
theorem rngD_length : ∀ {n : Nat} {lo : Int}, (rngD lo n).length = n
  | 0, _ => rfl
  | n + 1, lo => by
    show (rngD (lo + 1) n).length + 1 = n + 1
    rw [rngD_length]
theorem rngD_get : ∀ {n : Nat} {lo : Int} {i : Nat} {d : D}, (rngD lo n)[i]? = some d → d = .int (lo + i)
  | 0, _, _, _, h => by simp [rngD] at h
  | n + 1, lo, 0, d, h => by
    simp [rngD] at h
    simp [h]
  | n + 1, lo, i + 1, d, h => by
    have h' : (rngD (lo + 1) n)[i]? = some d := by simpa [rngD] using h
    rw [rngD_get h']
    congr 1
    omega
theorem walk_rng {lo : Int} {n : Nat} : WalkD C (Itr lo n) [] [] (rngD lo n) where
  go := fun R H i _ hi => by
    rw [rngD_length] at hi
    exact hi
  stop := fun R H _ => by
    show n ≤ _
    rw [rngD_length]
    exact Nat.le_refl _
  yld := fun T ρ σ H i x H' d r _ hd ⟨e, hy⟩ => by
    subst e
    rw [rngD_get hd, hy]
    exact ⟨fun _ _ z => z, .int _⟩
theorem enumD_length : ∀ {ds : List D} {k : Int}, (enumD k ds).length = ds.length
  | [], _ => rfl
  | d :: ds, k => by
    show (enumD (k + 1) ds).length + 1 = ds.length + 1
    rw [enumD_length]
theorem enumD_get : ∀ {ds : List D} {k : Int} {i : Nat} {d : D}, (enumD k ds)[i]? = some d → ∃ e, ds[i]? = some e ∧ d = .tup [.int (k + i), e]
  | [], _, _, _, h => by simp [enumD] at h
  | e :: ds, k, 0, d, h => by
    simp [enumD] at h
    exact ⟨e, by simp, by simp [h]⟩
  | e :: ds, k, i + 1, d, h => by
    have h' : (enumD (k + 1) ds)[i]? = some d := by simpa [enumD] using h
    obtain ⟨e', h1, h2⟩ := enumD_get h'
    refine ⟨e', by simpa using h1, ?_⟩
    rw [h2]
    congr 3
    omega
/-- a new pair -/
theorem pair_new (r : Rep C T ρ σ H) {p : Addr} {v1 v2 : V} {d1 d2 : D} (hp : H p = none) (h1 : Dr C.K (Reg C T ρ σ) H v1 d1) (h2 : Dr C.K (Reg C T ρ σ) H v2 d2) :
    Ext H (upd H p (.tup [v1, v2])) ∧ Dr C.K (Reg C T ρ σ) (upd H p (.tup [v1, v2])) (.ref p) (.tup [d1, d2]) := by
  have hx : Ext H (upd H p (.tup [v1, v2])) := ext_upd hp
  exact ⟨hx, .tup (.inl upd_same) (Drs.alloc0 r hp (.cons h1 (.cons h2 .nil)))⟩
theorem walk_enum {a : Addr} {ds : List D} (h : ListD d ds) : WalkD C (Ite C.K a) [.ref a] [d] (enumD 0 ds) where
  go := fun R H i q hi => by
    rw [enumD_length] at hi
    cases q with
    | cons q _ =>
      obtain ⟨b, vs, e, h1, h2⟩ := h.sq q
      cases e
      obtain ⟨x, hx⟩ := some_of_lt h2 hi
      exact ⟨vs, x, h1, hx⟩
  stop := fun R H q => by
    rw [enumD_length]
    cases q with
    | cons q _ =>
      obtain ⟨b, vs, e, h1, h2⟩ := h.sq q
      cases e
      exact ⟨vs, h1, Nat.le_of_eq h2.length⟩
  yld := fun T ρ σ H i x H' d' r q hd ⟨p, y, e1, e2, e3, hy⟩ => by
    subst e1 e3
    cases q with
    | cons q _ =>
      obtain ⟨b, vs, e, h1, h2⟩ := h.sq q
      cases e
      obtain ⟨d2, k1, k2⟩ := enumD_get hd
      subst k2
      refine pair_new r e2 ?_ (get_of h2 (hy vs h1) k1)
      rw [Int.zero_add]
      exact .int _
theorem walk_enumT {a : Addr} {ds : List D} : WalkD C (IteT C.K a) [.ref a] [.tup ds] (enumD 0 ds) where
  go := fun R H i q hi => by
    rw [enumD_length] at hi
    cases q with
    | cons q _ =>
      obtain ⟨b, vs, e, h1, h2⟩ := q.dx.tt
      cases e
      obtain ⟨x, hx⟩ := some_of_lt h2 hi
      exact ⟨vs, x, h1, hx⟩
  stop := fun R H q => by
    rw [enumD_length]
    cases q with
    | cons q _ =>
      obtain ⟨b, vs, e, h1, h2⟩ := q.dx.tt
      cases e
      exact ⟨vs, h1, h2.length⟩
  yld := fun T ρ σ H i x H' d' r q hd ⟨p, y, e1, e2, e3, hy⟩ => by
    subst e1 e3
    cases q with
    | cons q _ =>
      obtain ⟨b, vs, e, h1, h2⟩ := q.dx.tt
      cases e
      obtain ⟨d2, k1, k2⟩ := enumD_get hd
      subst k2
      refine pair_new r e2 ?_ (get_of h2 (hy vs h1) k1)
      rw [Int.zero_add]
      exact .int _
theorem zipD_get : ∀ {xs ys : List D} {i : Nat} {d : D}, (zipD xs ys)[i]? = some d → ∃ e f, xs[i]? = some e ∧ ys[i]? = some f ∧ d = .tup [e, f]
  | [], ys, i, d, h => by simp [zipD] at h
  | _ :: _, [], i, d, h => by simp [zipD] at h
  | x :: xs, y :: ys, 0, d, h => by
    simp [zipD] at h
    exact ⟨x, y, by simp, by simp, h.symm⟩
  | x :: xs, y :: ys, i + 1, d, h => by
    have h' : (zipD xs ys)[i]? = some d := by simpa [zipD] using h
    obtain ⟨e, f, h1, h2, h3⟩ := zipD_get h'
    exact ⟨e, f, by simpa using h1, by simpa using h2, h3⟩
theorem zipD_length : ∀ {xs ys : List D}, (zipD xs ys).length = min xs.length ys.length
  | [], ys => by simp [zipD]
  | _ :: _, [] => by simp [zipD]
  | x :: xs, y :: ys => by
    show (zipD xs ys).length + 1 = min (xs.length + 1) (ys.length + 1)
    rw [zipD_length]
    omega
theorem walk_zip {a b : Addr} {d1 d2 : D} {xs ys : List D} (h : ListD d1 xs) (h' : ListD d2 ys) : WalkD C (Itz C.K a b) [.ref a, .ref b] [d1, d2] (zipD xs ys) where
  go := fun R H i q hi => by
    rw [zipD_length] at hi
    cases q with
    | cons q q' =>
      cases q' with
      | cons q' _ =>
        obtain ⟨_, vs, e, h1, h2⟩ := h.sq q
        cases e
        obtain ⟨_, vs', e, h1', h2'⟩ := h'.sq q'
        cases e
        obtain ⟨x, hx⟩ := some_of_lt h2 (by omega : i < xs.length)
        obtain ⟨y, hy⟩ := some_of_lt h2' (by omega : i < ys.length)
        exact ⟨vs, vs', x, y, h1, h1', hx, hy⟩
  stop := fun R H q => by
    rw [zipD_length]
    cases q with
    | cons q q' =>
      cases q' with
      | cons q' _ =>
        obtain ⟨_, vs, e, h1, h2⟩ := h.sq q
        cases e
        obtain ⟨_, vs', e, h1', h2'⟩ := h'.sq q'
        cases e
        refine ⟨vs, vs', h1, h1', ?_⟩
        rw [h2.length, h2'.length]
        omega
  yld := fun T ρ σ H i x H' d' r q hd ⟨p, x1, y1, e1, e2, e3, hx, hy⟩ => by
    subst e1 e3
    cases q with
    | cons q q' =>
      cases q' with
      | cons q' _ =>
        obtain ⟨_, vs, e, h1, h2⟩ := h.sq q
        cases e
        obtain ⟨_, vs', e, h1', h2'⟩ := h'.sq q'
        cases e
        obtain ⟨f1, f2, k1, k2, k3⟩ := zipD_get hd
        subst k3
        exact pair_new r e2 (get_of h2 (hx vs h1) k1) (get_of h2' (hy vs' h1') k2)
theorem walk_zipT {a b : Addr} {xs ys : List D} : WalkD C (RZ.ItzT C.K a b) [.ref a, .ref b] [.tup xs, .tup ys] (zipD xs ys) where
  go := fun R H i q hi => by
    rw [zipD_length] at hi
    cases q with
    | cons q q' =>
      cases q' with
      | cons q' _ =>
        obtain ⟨_, vs, e, h1, h2⟩ := q.dx.tt
        cases e
        obtain ⟨_, vs', e, h1', h2'⟩ := q'.dx
        cases e
        obtain ⟨x, hx⟩ := some_of_lt h2 (by omega : i < xs.length)
        obtain ⟨y, hy⟩ := some_of_lt h2' (by omega : i < ys.length)
        exact ⟨vs, vs', x, y, h1, h1'.sq, hx, hy⟩
  stop := fun R H q => by
    rw [zipD_length]
    cases q with
    | cons q q' =>
      cases q' with
      | cons q' _ =>
        obtain ⟨_, vs, e, h1, h2⟩ := q.dx.tt
        cases e
        obtain ⟨_, vs', e, h1', h2'⟩ := q'.dx
        cases e
        refine ⟨vs, vs', h1, h1'.sq, ?_⟩
        rw [h2.length, h2'.length]
        omega
  yld := fun T ρ σ H i x H' d' r q hd ⟨p, x1, y1, e1, e2, e3, hx, hy⟩ => by
    subst e1 e3
    cases q with
    | cons q q' =>
      cases q' with
      | cons q' _ =>
        obtain ⟨_, vs, e, h1, h2⟩ := q.dx.tt
        cases e
        obtain ⟨_, vs', e, h1', h2'⟩ := q'.dx
        cases e
        obtain ⟨f1, f2, k1, k2, k3⟩ := zipD_get hd
        subst k3
        exact pair_new r e2 (get_of h2 (hx vs h1) k1) (get_of h2' (hy vs' h1'.sq) k2)
/-- the walk of a loop, told by the run -/
def IPost (C : Cn) (T : List Addr) (ρ : Rho) (σ : St) (H : Hp) (ds : List D) (ρ' : Rho) (J : It) (H' : Hp) : Prop := ∃ ws cs, Step ρ ρ' σ H H' ∧ Rep C T ρ' σ H' ∧ Drs C.K (Reg C T ρ' σ) H' ws cs ∧ WalkD C J ws cs ds
def rdI (C : Cn) (F : Fns) (W : WX) (it : ME) : TI := fun σ H R => ∃ T ρ, Rep C T ρ σ H ∧ After C W T ρ σ H (evI F it ρ) (IPost C T ρ σ H) R
theorem imp_I {X : Cx} {tg e : Expr} {t t' : TI} (h : PI X tg e t) (hi : ∀ σ H Q, t' σ H Q → t σ H Q) : PI X tg e t' := ⟨fun pins s σ H Q I q => h.run pins s σ H Q I (hi σ H Q q)⟩
/-- a list or a tuple, walked -/
def iSeq (K : PySem.W.Frag) (tl : TE) : TI := fun σ H R => tl σ H fun x H1 => ∃ a, x = .ref a ∧ ((∃ xs, SqL K H1 a xs ∧ R (Itl K a) H1) ∨ ∃ xs, SqT K H1 a xs ∧ R (Itt K a) H1)
theorem pi_seq {X : Cx} {tg l : Expr} {tl : TE} (hl : PE X l tl) : PI X tg l (iSeq X.K tl) := by
  refine ⟨fun pins s σ H R I h => ?_⟩
  refine thn (hl.run pins s σ H _ I h) fun v s1 ⟨x, H1, I1, r1, q1⟩ => ?_
  obtain ⟨a, e, q1⟩ := q1
  subst e
  cases r1
  have fr : ∀ b ∈ [s1.heap.objs.size], FpOk X pins H1 b := fun b hb => by
    have e : b = s1.heap.objs.size := by simpa using hb
    subst e
    exact I1.fpOk (Nat.le_refl _) (I1.hok.fresh (Nat.le_refl _))
  rcases q1 with ⟨xs, hq, q⟩ | ⟨xs, hq, q⟩
  · obtain ⟨its, rv, p, hz⟩ := I1.list hq
    refine PySem.wpAny_pyIter_list p.isList ?_
    exact ⟨s1.heap.objs.size, [s1.heap.objs.size], _, _, H1, rfl, I1.kept (t' := s1.toks) fun b o e => Heap.get?_push_of_some _ e, turn_list a _, ⟨_, Heap.get?_push_size _ rfl, rfl, rfl⟩, fr, q⟩
  · obtain ⟨its, rv, p, hz⟩ := I1.tuple hq
    refine PySem.wpAny_pyIter_tuple (show s1.heap.IsTuple a its.toArray from p) ?_
    exact ⟨s1.heap.objs.size, [s1.heap.objs.size], _, _, H1, rfl, I1.kept (t' := s1.toks) fun b o e => Heap.get?_push_of_some _ e, turn_tuple a _, ⟨_, Heap.get?_push_size _ rfl, rfl, rfl⟩, fr, q⟩
theorem seqOf_cases {ds : List D} (h : seqOf d = some ds) : d = .tup ds ∨ ListD d ds := by
  cases d <;> simp [seqOf] at h
  · subst h; exact .inl rfl
  · subst h; exact .inr (.inl ⟨_, rfl⟩)
  · subst h; exact .inr (.inr rfl)
theorem seq_I {X : Cx} (G : Good X C F W g) {m : ME} {tg e : Expr} (ha : PE X e (rdE C F W false m)) (hm : ∀ ρ, evI F m ρ = (evE F false m ρ).bind seqI) : PI X tg e (rdI C F W m) :=
  imp_I (pi_seq ha) fun σ H Q ⟨T, ρ, r, h⟩ => by
    rw [hm] at h
    refine seq_E (L := []) .refl r h fun x ρ1 v H1 p1 h1 => ?_
    unfold seqI at h1
    split at h1
    case isFalse => exact h1.elim
    rename_i hk
    split at h1
    · rename_i d e1
      have dv := keep_v r p1.2.1 p1.2.2.1 (fun a m => p1.2.2.2 a m) (noL_keeps hk) e1
      cases q : seqOf d with
      | none => rw [q] at h1; exact h1.elim
      | some ds =>
        rw [q] at h1
        rcases seqOf_cases q with rfl | hl
        · obtain ⟨a, vs, rfl, k1, k2⟩ := dv.dx
          exact ⟨a, rfl, .inr ⟨vs, by rw [G.K]; exact k1.sq, by rw [G.K]; exact h1 _ _ ⟨[.ref a], [.tup ds], p1.1, p1.2.1.lessL, .cons dv .nil, walk_tup⟩⟩⟩
        · obtain ⟨a, vs, rfl, k1, k2⟩ := hl.sq dv
          exact ⟨a, rfl, .inl ⟨vs, by rw [G.K]; exact k1, by rw [G.K]; exact h1 _ _ ⟨[.ref a], [d], p1.1, p1.2.1.lessL, .cons dv .nil, walk_list hl⟩⟩⟩
    · exact h1.elim
theorem enum_I {X : Cx} (G : Good X C F W g) {m : ME} {y : Expr} {elts : List Expr} {kk : Nat} {tpos p pos : Pos} (hg : glB X.env.scope "enumerate" = true) (hb : g.blts.contains ("enumerate" : Str) = true) (hy : notStar y = true) (ha : PE X y (rdE C F W false m)) :
    PI X (.Tuple elts kk tpos) (.Call (.Name "enumerate" p) [y] [] pos) (rdI C F W (.enum m)) :=
  imp_I (pi_enumU (gl_of hg) (G.blt _ (by simpa using hb)) (pa_cons ha pa_nil (star_cons hy)) (star_cons hy)) fun σ H Q ⟨T, ρ, r, h⟩ => by
    have h : After C W T ρ σ H ((evE F false m ρ).bind enumI) (IPost C T ρ σ H) Q := h
    refine seq_E (L := []) .refl r h fun x ρ1 v H1 p1 h1 => ?_
    unfold enumI at h1
    split at h1
    case isFalse => exact h1.elim
    rename_i hk
    split at h1
    · rename_i d e1
      have dv := keep_v r p1.2.1 p1.2.2.1 (fun a m => p1.2.2.2 a m) (noL_keeps hk) e1
      cases q : seqOf d with
      | none => rw [q] at h1; exact h1.elim
      | some ds =>
        rw [q] at h1
        rcases seqOf_cases q with rfl | hl
        · obtain ⟨a, vs, rfl, k1, k2⟩ := dv.dx
          exact ⟨a, rfl, .inr ⟨vs, by rw [G.K]; exact k1.sq, by rw [G.K]; exact h1 _ _ ⟨[.ref a], [.tup ds], p1.1, p1.2.1.lessL, .cons dv .nil, walk_enumT⟩⟩⟩
        · obtain ⟨a, vs, rfl, k1, k2⟩ := hl.sq dv
          exact ⟨a, rfl, .inl ⟨vs, by rw [G.K]; exact k1, by rw [G.K]; exact h1 _ _ ⟨[.ref a], [d], p1.1, p1.2.1.lessL, .cons dv .nil, walk_enum hl⟩⟩⟩
    · exact h1.elim
theorem zip_I {X : Cx} (G : Good X C F W g) {m n : ME} {y z : Expr} {elts : List Expr} {kk : Nat} {tpos p pos : Pos} (hg : glB X.env.scope "zip" = true) (hb : g.blts.contains ("zip" : Str) = true) (hy : notStar y = true) (hz : notStar z = true) (ha : PE X y (rdE C F W false m)) (hn : PE X z (rdE C F W false n)) :
    PI X (.Tuple elts kk tpos) (.Call (.Name "zip" p) [y, z] [] pos) (rdI C F W (.zip m n)) :=
  imp_I (RZ.pi_zipA (gl_of hg) (G.blt _ (by simpa using hb)) (pa_cons ha (pa_cons hn pa_nil (star_cons hz)) (star_cons hy)) (star_cons hy) (noStars_plain (es := [z]) (by simp [noStars, hz]))) fun σ H Q ⟨T, ρ, r, h⟩ => by
    have h : After C W T ρ σ H ((evE F false m ρ).bind fun x ρ1 => (evE F false n ρ1).bind (zipI x)) (IPost C T ρ σ H) Q := h
    refine seq_E (L := []) .refl r h fun x ρ1 v H1 p1 h1 => ?_
    refine seq_E p1.1 p1.2.1 h1 fun y ρ2 w H2 p2 h2 => ?_
    obtain ⟨s, r2, hx, hy⟩ := two_of p1 p2
    unfold zipI at h2
    split at h2
    case isFalse => exact h2.elim
    rename_i hk
    simp only [Bool.and_eq_true] at hk
    have fx : ∀ a ∈ tmps x v, H a = none := p1.2.2.2
    have fy : ∀ a ∈ tmps y w, H a = none := fun a m => p1.1.none (p2.2.2.2 a m)
    split at h2
    · rename_i xs ys e1 e2
      have dx := keep_v r r2 hx fx (noL_keeps hk.1) e1
      have dy := keep_v r r2 hy fy (noL_keeps hk.2) e2
      obtain ⟨a, vs, rfl, k1, k2⟩ := dx.dx
      obtain ⟨b, us, rfl, l1, l2⟩ := dy.dx
      exact ⟨a, b, vs, us, rfl, .inr ⟨by rw [G.K]; exact k1.sq, by rw [G.K]; exact l1.sq, by rw [G.K]; exact h2 _ _ ⟨[.ref a, .ref b], [.tup xs, .tup ys], s, r2.lessL, .cons dx (.cons dy .nil), walk_zipT⟩⟩⟩
    · rename_i nm xs nm2 ys e1 e2
      have dx := keep_v r r2 hx fx (noL_keeps hk.1) e1
      have dy := keep_v r r2 hy fy (noL_keeps hk.2) e2
      have lx : ListD (.lst nm xs) xs := .inl ⟨nm, rfl⟩
      have ly : ListD (.lst nm2 ys) ys := .inl ⟨nm2, rfl⟩
      obtain ⟨a, vs, rfl, k1, k2⟩ := lx.sq dx
      obtain ⟨b, us, rfl, l1, l2⟩ := ly.sq dy
      exact ⟨a, b, vs, us, rfl, .inl ⟨by rw [G.K]; exact k1, by rw [G.K]; exact l1, by rw [G.K]; exact h2 _ _ ⟨[.ref a, .ref b], [.lst nm xs, .lst nm2 ys], s, r2.lessL, .cons dx (.cons dy .nil), walk_zip lx ly⟩⟩⟩
    · exact h2.elim
theorem evOs_len : ∀ {ms : List ME} {ρ : Rho} {xs : List VR} {ρ' : Rho}, evOs F ms ρ = .ok xs ρ' → xs.length = ms.length
  | [], ρ, xs, ρ', h => by
    unfold evOs at h
    cases h
    rfl
  | m :: ms, ρ, xs, ρ', h => by
    unfold evOs at h
    cases q : evE F true m ρ with
    | no => rw [q] at h; cases h
    | exc c d ρ1 => rw [q] at h; cases h
    | ok x ρ1 =>
      rw [q] at h
      simp only [Rs.bind_ok] at h
      cases q2 : evOs F ms ρ1 with
      | no => rw [q2] at h; cases h
      | exc c d ρ1 => rw [q2] at h; cases h
      | ok ys ρ2 =>
        rw [q2] at h
        cases h
        simp [evOs_len q2]
theorem derfs_len : ∀ {xs : List VR} {ds : List D}, derfs ρ xs = some ds → xs.length = ds.length
  | [], _, h => by cases h; rfl
  | x :: xs, ds, h => by
    unfold derfs at h
    split at h
    · rename_i d ds' e1 e2
      cases h
      simp [derfs_len e2]
    · cases h
theorem seq_O {ms : List ME} {k : List VR → Rho → Rs α} {P : α → Rho → β → Hp → Prop} {Q : β → Hp → Prop} {R : List V → Hp → Prop} (s : Step ρ ρ1 σ H H1) (r : Rep C (L ++ T) ρ1 σ H1) (h : After C W T ρ σ H ((evOs F ms ρ1).bind k) P Q)
    (hk : ∀ xs ρ2 vs H2, LPost C (L ++ T) ρ1 σ H1 xs ρ2 vs H2 → xs.length = ms.length → After C W T ρ σ H (k xs ρ2) P Q → R vs H2) : rdL C W (evOs F ms) σ H1 R := by
  refine ⟨L ++ T, ρ1, r, ?_⟩
  cases q : evOs F ms ρ1 with
  | ok x ρ2 =>
    rw [q] at h
    exact fun v H2 p => hk x ρ2 v H2 p (evOs_len q) h
  | exc c d ρ2 =>
    rw [q] at h
    exact fun cls dd H2 p => h cls dd H2 (p.up s)
  | no =>
    rw [q] at h
    exact h
theorem rng1_I {X : Cx} (G : Good X C F W g) {m : ME} {tg y : Expr} {p pos : Pos} (hg : glB X.env.scope "range" = true) (hb : g.blts.contains ("range" : Str) = true) (hy : notStar y = true) (ha : PA X [y] (rdL C W (evOs F [m]))) :
    PI X tg (.Call (.Name "range" p) [y] [] pos) (rdI C F W (.rng [m])) :=
  imp_I (pi_range1 (gl_of hg) (G.blt _ (by simpa using hb)) ha (star_cons hy)) fun σ H Q ⟨T, ρ, r, h⟩ => by
    have h : After C W T ρ σ H ((evOs F [m] ρ).bind rngI) (IPost C T ρ σ H) Q := h
    refine seq_O (L := []) .refl r h fun xs ρ1 vs H1 p1 ln h1 => ?_
    obtain ⟨s, r1, q1, n1, f1⟩ := p1
    unfold rngI at h1
    split at h1
    · rename_i n e1
      split at h1
      · rename_i hk
        simp only [intOk, decide_eq_true_eq] at hk
        have := derfs_dx r1 q1 e1
        cases this with
        | cons k1 k2 =>
          cases k2
          cases k1
          exact ⟨n, rfl, hk.1, hk.2, h1 _ _ ⟨[], [], s, r1.lessL, .nil, walk_rng⟩⟩
      · exact h1.elim
    · rename_i a b e1
      have := derfs_len e1
      rw [ln] at this
      simp at this
    · exact h1.elim
theorem rng2_I {X : Cx} (G : Good X C F W g) {m n : ME} {tg y z : Expr} {p pos : Pos} (hg : glB X.env.scope "range" = true) (hb : g.blts.contains ("range" : Str) = true) (hy : notStar y = true) (hz : notStar z = true) (ha : PA X [y, z] (rdL C W (evOs F [m, n]))) :
    PI X tg (.Call (.Name "range" p) [y, z] [] pos) (rdI C F W (.rng [m, n])) :=
  imp_I (pi_range2 (gl_of hg) (G.blt _ (by simpa using hb)) ha (by rw [star_cons hy, star_cons hz]; rfl) (star_cons hz)) fun σ H Q ⟨T, ρ, r, h⟩ => by
    have h : After C W T ρ σ H ((evOs F [m, n] ρ).bind rngI) (IPost C T ρ σ H) Q := h
    refine seq_O (L := []) .refl r h fun xs ρ1 vs H1 p1 ln h1 => ?_
    obtain ⟨s, r1, q1, n1, f1⟩ := p1
    unfold rngI at h1
    split at h1
    · rename_i b e1
      have := derfs_len e1
      rw [ln] at this
      simp at this
    · rename_i a b e1
      split at h1
      · rename_i hk
        simp only [intOk, Bool.and_eq_true, decide_eq_true_eq] at hk
        have := derfs_dx r1 q1 e1
        cases this with
        | cons k1 k2 =>
          cases k2 with
          | cons k2 k3 =>
            cases k3
            cases k1
            cases k2
            exact ⟨a, b, rfl, ⟨hk.1.1, hk.1.2, hk.2.1, hk.2.2⟩, h1 _ _ ⟨[], [], s, r1.lessL, .nil, walk_rng⟩⟩
      · exact h1.elim
    · exact h1.elim
end
end Own

/-! part OwnN -/
namespace Own
open PySem PySem.Spec L2
section
variable {α β : Type} {C : Cn} {F : Fns} {W : WX} {g : Gi} {T L : List Addr} {ρ ρ1 ρ2 : Rho} {σ : St} {H H1 H2 H3 : Hp} {x y : VR} {v w : V} {d e : D}
theorem tupN_E {X : Cx} {ms : List ME} {u : Bool} {es : List Expr} {k : Nat} {pos : Pos} (ha : PA X es (rdL C W (evEs F ms))) : PE X (.Tuple es k pos) (rdE C F W u (.tupN ms)) := by
  refine imp_E (pe_tupN ha) fun σ H Q ⟨T, ρ, r, h⟩ => ?_
  unfold evE at h
  refine ⟨T, ρ, r, ?_⟩
  cases q : evEs F ms ρ with
  | no => rw [q] at h; exact h
  | exc c d ρ1 => rw [q] at h; exact h
  | ok xs ρ1 =>
    rw [q] at h
    intro vs H1 ⟨s, r1, q1, n1, f1⟩
    simp only [Rs.bind_ok] at h
    split at h
    · rename_i ds e
      split at h
      · rename_i hz
        have kd := keep_vs r r1 q1 (frs_of n1) (noL_Es q) e
        have r2 := r1.lessL
        have hl : vs.length ≤ sizeLine := by rw [kd.length]; exact small_le hz
        exact ⟨hl, fun p o hp ho => h _ _ (EPost.of (L := []) s r2 (.tn r2 hp ho kd))⟩
      · exact h.elim
    · exact h.elim
theorem tplN_E {X : Cx} (G : Good X C F W g) {a : ME} {u : Bool} {p pos : Pos} {y : Expr} (hg : glB X.env.scope "tuple" = true) (hb : g.blts.contains ("tuple" : Str) = true) (hy : notStar y = true) (ha : PE X y (rdE C F W true a)) :
    PE X (.Call (.Name "tuple" p) [y] [] pos) (rdE C F W u (.tplN a)) := by
  refine imp_E (pe_callTy call_tupN (gl_of hg) (G.blt _ (by simpa using hb)) (by decide +kernel) (pa_cons ha pa_nil (star_cons hy)) (by decide) (by decide) (star_cons hy) rfl) fun σ H Q ⟨T, ρ, r, h⟩ => ?_
  unfold evE at h
  refine seq_E (L := []) .refl r h fun x ρ1 v H1 p1 h1 => ?_
  split at h1
  · rename_i nm ds e1
    obtain ⟨a, vs, rfl, h2, t1⟩ := derf_dx p1.2.1 p1.2.2.1 e1
    exact ⟨a, vs, rfl, SqL.of h2, fun l o hl ho => h1 _ _ (EPost.of p1.1 p1.2.1 (.tn p1.2.1 hl ho t1))⟩
  · exact h1.elim
theorem base_name {X : Cx} {o : Expr} {m : Str} (h : nameB o = true) : attributeBase o m X.env (eval o X.env) = eval o X.env := by
  unfold nameB at h
  split at h
  · rfl
  · rfl
  · cases h
theorem idx_E {X : Cx} (G : Good X C F W g) {a e : ME} {u : Bool} {p q : Pos} {o y : Expr} (hn : nameB o = true) (hl : (p.endLine == q.line) = true) (hy : notStar y = true) (ha : PE X o (rdE C F W true a)) (he : PE X y (rdE C F W true e)) :
    PE X (.Call (.Attribute o "index" p) [y] [] q) (rdE C F W u (.idx a e)) := by
  have hu : X.A.units + 65 < cLine := Nat.lt_of_le_of_lt (Nat.add_le_add_left (by decide) _) G.hu
  refine imp_E (pe_idx hu ha he (base_name hn) (star_cons hy) (few_one hy) hl) fun σ H Q ⟨T, ρ, r, h⟩ => ?_
  unfold evE at h
  refine seq_E (L := []) .refl r h fun x ρ1 v H1 p1 h1 => ?_
  split at h1
  · rename_i xs e1
    obtain ⟨b, ob, vs, rfl, k1, k2, k3⟩ := derf_dx p1.2.1 p1.2.2.1 e1
    refine ⟨⟨b, rfl⟩, .inr ⟨⟨b, ob, vs, rfl, k1, k2⟩, ?_⟩⟩
    refine seq_E p1.1 p1.2.1 h1 fun y ρ2 w H2 p2 h2 => ?_
    obtain ⟨s, r2, hx, hy⟩ := two_of p1 p2
    split at h2
    · rename_i ys dd f1 f2
      simp only [idxop] at h2
      split at h2
      · rename_i hk
        rw [Bool.and_eq_true] at hk
        cases hi : idxD dd ys with
        | none => rw [hi] at h2; exact h2.elim
        | some i =>
          rw [hi] at h2
          exact idx_tup G.K hk.1 hk.2 hi (derf_dx r2 hy f2) (derf_dx r2 hx f1).tup (h2 _ _ (fin_v s r2 (.int _)))
      · exact h2.elim
    · exact h2.elim
  · rename_i nm xs e1
    obtain ⟨b, vs, rfl, k1, k3⟩ := derf_dx p1.2.1 p1.2.2.1 e1
    refine ⟨⟨b, rfl⟩, .inl ⟨.inl ⟨rfl, vs, SqL.of k1⟩, ?_⟩⟩
    refine seq_E p1.1 p1.2.1 h1 fun y ρ2 w H2 p2 h2 => ?_
    obtain ⟨s, r2, hx, hy⟩ := two_of p1 p2
    split at h2
    · rename_i nm' ys dd f1 f2
      simp only [idxop] at h2
      split at h2
      · rename_i hk
        rw [Bool.and_eq_true] at hk
        cases hi : idxD dd ys with
        | none => rw [hi] at h2; exact h2.elim
        | some i =>
          rw [hi] at h2
          exact idx_lst G.K hk.1 hk.2 hi (derf_dx r2 hy f2) (derf_dx r2 hx f1) (h2 _ _ (fin_v s r2 (.int _)))
      · exact h2.elim
    · exact h2.elim
  · exact h1.elim
theorem drs_rg {K : PySem.W.Frag} {R : Bool → Addr → Prop} {H : Hp} : ∀ (n : Nat) (a : Int), Drs K R H ((List.range n).map fun i => V.int (a + (i : Nat))) (rngD a n)
  | 0, _ => .nil
  | n + 1, a => by
    rw [List.range_succ_eq_map, List.map_cons, List.map_map]
    refine .cons ?_ ?_
    · simp only [Int.natCast_zero, Int.add_zero]
      exact .int a
    · have e : (fun i : Nat => V.int (a + (i : Nat))) ∘ Nat.succ = fun i : Nat => V.int (a + 1 + (i : Nat)) := by
        funext i
        simp only [Function.comp]
        congr 1
        omega
      rw [e]
      exact drs_rg n (a + 1)
theorem rngD_len : ∀ (n : Nat) (a : Int), (rngD a n).length = n
  | 0, _ => rfl
  | n + 1, a => by rw [rngD, List.length_cons, rngD_len]
theorem rg_ok {a b : Int} (ha : intOk a = true) (hb : intOk b = true) (h : small (rngD a (b - a).toNat).length = true) : RgOk a b := by
  simp only [intOk, decide_eq_true_eq] at ha hb
  have := small_le h
  rw [rngD_len, sizeLine_eq] at this
  exact ⟨ha.1, ha.2, hb.1, hb.2, by omega⟩
theorem lrg1_E {X : Cx} (G : Good X C F W g) {m : ME} {u : Bool} {y : Expr} {p p2 q pos : Pos} (hg : glB X.env.scope "list" = true) (hb : g.blts.contains ("list" : Str) = true) (hg2 : glB X.env.scope "range" = true) (hb2 : g.blts.contains ("range" : Str) = true) (hy : notStar y = true) (ha : PE X y (rdE C F W true m)) :
    PE X (.Call (.Name "list" p) [.Call (.Name "range" p2) [y] [] q] [] pos) (rdE C F W u (.lrg [m])) := by
  refine imp_E (pe_listRg G.calm (gl_of hg) (G.blt _ (by simpa using hb)) (prg_1 (gl_of hg2) (G.blt _ (by simpa using hb2)) ha (star_cons hy)) (star_cons (by rfl))) fun σ H Q ⟨T, ρ, r, h⟩ => ?_
  unfold evE at h
  rw [evOs, bind_bind, bind_bind] at h
  refine seq_E (L := []) .refl r h fun x ρ1 v H1 p1 h1 => ?_
  rw [evOs] at h1
  simp only [Rs.bind_ok] at h1
  unfold rngI at h1
  cases hd : derf ρ1 x with
  | none => rw [derfs, hd] at h1; exact h1.elim
  | some d =>
    have e2 : derfs ρ1 [x] = some [d] := by rw [derfs, hd, derfs]
    rw [e2] at h1
    cases d <;> try exact h1.elim
    rename_i n
    simp only at h1
    split at h1
    · rename_i hk
      simp only [Rs.bind_ok] at h1
      split at h1
      · rename_i hz
        obtain rfl : v = .int n := derf_dx p1.2.1 p1.2.2.1 hd
        have e0 : (n - 0).toNat = n.toNat := by rw [Int.sub_zero]
        refine ⟨n, rfl, rg_ok (by decide) hk (by rw [e0]; exact hz), fun q hq => h1 _ _ (EPost.of p1.1 p1.2.1 (.lst p1.2.1 hq ?_))⟩
        unfold rgV
        rw [e0]
        exact drs_rg n.toNat 0
      · exact h1.elim
    · exact h1.elim
theorem lrg2_E {X : Cx} (G : Good X C F W g) {m n : ME} {u : Bool} {y z : Expr} {p p2 q pos : Pos} (hg : glB X.env.scope "list" = true) (hb : g.blts.contains ("list" : Str) = true) (hg2 : glB X.env.scope "range" = true) (hb2 : g.blts.contains ("range" : Str) = true) (hy : notStar y = true) (hz : notStar z = true) (ha : PE X y (rdE C F W true m)) (hc : PE X z (rdE C F W true n)) :
    PE X (.Call (.Name "list" p) [.Call (.Name "range" p2) [y, z] [] q] [] pos) (rdE C F W u (.lrg [m, n])) := by
  refine imp_E (pe_listRg G.calm (gl_of hg) (G.blt _ (by simpa using hb)) (prg_2 (gl_of hg2) (G.blt _ (by simpa using hb2)) ha hc (star_cons hy) (star_cons hz) (by rw [star_cons hz]; rfl)) (star_cons (by rfl))) fun σ H Q ⟨T, ρ, r, h⟩ => ?_
  unfold evE at h
  rw [evOs, bind_bind, bind_bind] at h
  refine seq_E (L := []) .refl r h fun x ρ1 v H1 p1 h1 => ?_
  rw [evOs, bind_bind, bind_bind] at h1
  refine seq_E p1.1 p1.2.1 h1 fun y ρ2 w H2 p2 h2 => ?_
  obtain ⟨s, r2, hx, hy⟩ := two_of p1 p2
  rw [evOs] at h2
  simp only [Rs.bind_ok] at h2
  unfold rngI at h2
  cases hd : derf ρ2 x with
  | none => rw [derfs, hd] at h2; exact h2.elim
  | some d =>
    cases he : derf ρ2 y with
    | none => rw [derfs, hd, derfs, he] at h2; exact h2.elim
    | some e =>
      have e2 : derfs ρ2 [x, y] = some [d, e] := by rw [derfs, hd, derfs, he, derfs]
      rw [e2] at h2
      cases d <;> try exact h2.elim
      rename_i a
      cases e <;> try exact h2.elim
      rename_i b
      simp only at h2
      split at h2
      · rename_i hk
        rw [Bool.and_eq_true] at hk
        simp only [Rs.bind_ok] at h2
        split at h2
        · rename_i hz
          obtain rfl : v = .int a := derf_dx r2 hx hd
          obtain rfl : w = .int b := derf_dx r2 hy he
          exact ⟨a, b, rfl, rfl, rg_ok hk.1 hk.2 hz, fun q hq => h2 _ _ (EPost.of s r2 (.lst r2 hq (drs_rg _ _)))⟩
        · exact h2.elim
      · exact h2.elim
end
end Own

/-! part OwnD -/
namespace Own
open PySem PySem.Spec L2
/-! ### dicts: the plain part -/
section
variable {κ : Type} [DecidableEq κ]
theorem look_zip {k : κ} : ∀ {ks : List κ} {vs : List V}, valV (ks.zip vs) k = dlook k ks vs
  | [], vs => by cases vs <;> rfl
  | j :: ks, [] => rfl
  | j :: ks, v :: vs => by
    rw [List.zip_cons_cons]
    unfold dlook
    by_cases h : j = k
    · rw [valV_pos (p := (j, v)) h, if_pos h]
    · rw [valV_neg (p := (j, v)) h, if_neg h, look_zip]
theorem drepl_len {α : Type} {k : κ} {a : α} : ∀ {ks : List κ} {ds : List α}, ks.length = ds.length → (drepl k a ks ds).length = ds.length
  | [], [], _ => rfl
  | [], _ :: _, h => by cases h
  | _ :: _, [], h => by cases h
  | j :: ks, d :: ds, h => by
    unfold drepl
    rw [List.length_cons, List.length_cons, drepl_len (Nat.succ.inj h)]
theorem dvals_len {α : Type} {k : κ} {a : α} {ks : List κ} {ds : List α} (h : ks.length = ds.length) : (dkeys k ks).length = (dvals k a ks ds).length := by
  unfold dkeys dvals
  split
  · rw [drepl_len h, h]
  · rw [List.length_append, List.length_append, h]
    rfl
theorem any_zip {k : κ} : ∀ {ks : List κ} {vs : List V}, ks.length = vs.length → ((ks.zip vs).any fun kv => decide (kv.1 = k)) = ks.any fun j => decide (j = k)
  | [], [], _ => rfl
  | [], _ :: _, h => by cases h
  | _ :: _, [], h => by cases h
  | j :: ks, v :: vs, h => by
    rw [List.zip_cons_cons, List.any_cons, List.any_cons, any_zip (Nat.succ.inj h)]
theorem map_zip {k : κ} {v : V} : ∀ {ks : List κ} {vs : List V}, ((ks.zip vs).map fun kv => if kv.1 = k then (kv.1, v) else kv) = ks.zip (drepl k v ks vs)
  | [], vs => by cases vs <;> rfl
  | j :: ks, [] => rfl
  | j :: ks, u :: vs => by
    have e : drepl k v (j :: ks) (u :: vs) = (if j = k then v else u) :: drepl k v ks vs := by rw [drepl]
    rw [List.zip_cons_cons, List.map_cons, map_zip, e, List.zip_cons_cons]
    by_cases h : j = k
    · simp [h]
    · simp [h]
theorem put_zip {k : κ} {v : V} {ks : List κ} {vs : List V} (h : ks.length = vs.length) : putK (ks.zip vs) k v = (dkeys k ks).zip (dvals k v ks vs) := by
  unfold putK dkeys dvals
  rw [any_zip h]
  split
  · exact map_zip
  · rw [List.zip_append h]
    rfl
theorem drepl_drs {K : PySem.W.Frag} {R : Bool → Addr → Prop} {H : Hp} {k : κ} {v : V} {d : D} (hv : Dr K R H v d) : ∀ {ks : List κ} {vs : List V} {ds : List D}, Drs K R H vs ds → Drs K R H (drepl k v ks vs) (drepl k d ks ds)
  | [], _, _, .nil => .nil
  | [], _, _, .cons _ _ => .nil
  | _ :: _, _, _, .nil => .nil
  | j :: ks, _, _, .cons h t => by
    unfold drepl
    refine .cons ?_ (drepl_drs hv t)
    split
    · exact hv
    · exact h
theorem dvals_drs {K : PySem.W.Frag} {R : Bool → Addr → Prop} {H : Hp} {k : κ} {v : V} {d : D} (hv : Dr K R H v d) {ks : List κ} {vs : List V} {ds : List D} (t : Drs K R H vs ds) : Drs K R H (dvals k v ks vs) (dvals k d ks ds) := by
  unfold dvals
  split
  · exact drepl_drs hv t
  · exact t.append (Drs.one hv)
theorem dlook_drs {K : PySem.W.Frag} {R : Bool → Addr → Prop} {H : Hp} {k : κ} : ∀ {ks : List κ} {vs : List V} {ds : List D}, Drs K R H vs ds → (dlook k ks vs = none ∧ dlook k ks ds = none) ∨ ∃ v d, dlook k ks vs = some v ∧ dlook k ks ds = some d ∧ Dr K R H v d
  | [], _, _, .nil => .inl ⟨rfl, rfl⟩
  | [], _, _, .cons _ _ => .inl ⟨rfl, rfl⟩
  | _ :: _, _, _, .nil => .inl ⟨rfl, rfl⟩
  | j :: ks, _, _, .cons (v := v) (d := d) h t => by
    by_cases q : j = k
    · exact .inr ⟨v, d, by unfold dlook; rw [if_pos q], by unfold dlook; rw [if_pos q], h⟩
    · rcases dlook_drs (k := k) (ks := ks) t with ⟨h1, h2⟩ | ⟨v', d', h1, h2, h3⟩
      · exact .inl ⟨by unfold dlook; rw [if_neg q]; exact h1, by unfold dlook; rw [if_neg q]; exact h2⟩
      · exact .inr ⟨v', d', by unfold dlook; rw [if_neg q]; exact h1, by unfold dlook; rw [if_neg q]; exact h2, h3⟩
end
theorem keyOf_v {K : PySem.W.Frag} {R : Bool → Addr → Prop} {H : Hp} {v : V} {d : D} {k : Key} (h : Dr K R H v d) (e : keyOf d = some k) : v = kV k := by
  cases h <;> cases e <;> rfl
theorem keysOf_v {K : PySem.W.Frag} {R : Bool → Addr → Prop} {H : Hp} : ∀ {vs : List V} {ds : List D} {k : List Key}, Drs K R H vs ds → keysOf ds = some k → vs = k.map kV
  | _, _, _, .nil, e => by cases e; rfl
  | _, _, _, .cons (ds := ds) (d := d) h t, e => by
    unfold keysOf at e
    split at e
    · rename_i k ks e1 e2
      cases e
      rw [keyOf_v h e1, keysOf_v t e2, List.map_cons]
    · cases e
theorem tkeyOf_v {K : PySem.W.Frag} {R : Bool → Addr → Prop} {H : Hp} {v : V} {d : D} {k : List Key} (h : Dr K R H v d) (e : tkeyOf d = some k) : ∃ b, v = .ref b ∧ H b = some (.tup (k.map kV)) := by
  unfold tkeyOf at e
  split at e
  case h_2 => cases e
  split at e
  · cases e
  · rename_i xs hg
    cases h with
    | tup h t =>
      rw [Bool.not_eq_true] at hg
      rw [← keysOf_v t e]
      exact ⟨_, rfl, h.key hg⟩
section
variable {α β : Type} {C : Cn} {F : Fns} {W : WX} {g : Gi} {T L : List Addr} {ρ ρ1 ρ2 : Rho} {σ : St} {H H1 H2 H3 : Hp} {x y : VR} {v w : V} {d e : D}
/-- an own dict read at a key -/
theorem dget_at {R : Bool → Addr → Prop} {a : Addr} {c : D} {o : Option D} (t : Top C.K R H a d) (hc : Dr C.K R H v c) (e : dgetop d c = some o) : ∃ u, DGet H a v u ∧ ((u = none ∧ o = none) ∨ ∃ z r, u = some z ∧ o = some r ∧ Dr C.K R H z r) := by
  cases d <;> simp only [dgetop] at e <;> try (cases e; done)
  · rename_i ks ds
    obtain ⟨k, hk, rfl⟩ := Option.map_eq_some_iff.mp e
    obtain ⟨vs, h1, h2, h3⟩ := t
    obtain rfl := keyOf_v hc hk
    refine ⟨_, DGet.k h1, ?_⟩
    rw [look_zip]
    exact dlook_drs h3
  · rename_i ks ds
    obtain ⟨k, hk, rfl⟩ := Option.map_eq_some_iff.mp e
    obtain ⟨vs, h1, h2, h3⟩ := t
    obtain ⟨b, rfl, hb⟩ := tkeyOf_v hc hk
    refine ⟨_, DGet.t h1 hb, ?_⟩
    rw [look_zip]
    exact dlook_drs h3
/-- a dict that is a value, read at a key -/
theorem dget_atV {R : Bool → Addr → Prop} {a : Addr} {ks : List Key} {ds : List D} {c : D} {o : Option D} {vs : List V} (h1 : H a = some (.dK (ks.zip vs)) ∨ ∃ o, H a = some (.frz o (.dK (ks.zip vs)))) (h3 : Drs C.K R H vs ds) (hc : Dr C.K R H v c) (e : dgetop (.dK ks ds) c = some o) : ∃ u, DGet H a v u ∧ ((u = none ∧ o = none) ∨ ∃ z r, u = some z ∧ o = some r ∧ Dr C.K R H z r) := by
  simp only [dgetop] at e
  obtain ⟨k, hk, rfl⟩ := Option.map_eq_some_iff.mp e
  obtain rfl := keyOf_v hc hk
  refine ⟨_, .inl ⟨_, k, h1, rfl, rfl⟩, ?_⟩
  rw [look_zip]
  exact dlook_drs h3
/-- a whole dict, as a heap's thing -/
def dHO : D → List V → HO
  | .dK ks _, vs => .dK (ks.zip vs)
  | .dT ks _, vs => .dT (ks.zip vs)
  | _, vs => .lst vs
/-- an own dict written at a key -/
theorem dput_at {R : Bool → Addr → Prop} {a : Addr} {c r z : D} (t : Top C.K R H a d) (hc : Dr C.K R H v c) (hr : Dr C.K R H w r) (e : dputop d c r = some z) : ∃ ho, DPut H a v w (upd H a ho) ∧ ¬ Fx ho ∧ ∀ R' H', H' a = some ho → (∀ vs ds, Drs C.K R H vs ds → Drs C.K R' H' vs ds) → Top C.K R' H' a z := by
  cases d <;> simp only [dputop] at e <;> try (cases e; done)
  · rename_i ks ds
    split at e
    case isFalse => cases e
    rename_i hl
    have hl := of_decide_eq_true hl
    obtain ⟨k, hk, rfl⟩ := Option.map_eq_some_iff.mp e
    obtain ⟨vs, h1, h2, h3⟩ := t
    obtain rfl := keyOf_v hc hk
    refine ⟨_, DPut.k h1 (by rw [List.length_zip]; omega), id, fun R' H' ha hm => ⟨dvals k w ks vs, ?_, dvals_len h2, hm _ _ (dvals_drs hr h3)⟩⟩
    rw [ha, put_zip h2]
  · rename_i ks ds
    split at e
    case isFalse => cases e
    rename_i hl
    have hl := of_decide_eq_true hl
    obtain ⟨k, hk, rfl⟩ := Option.map_eq_some_iff.mp e
    obtain ⟨vs, h1, h2, h3⟩ := t
    obtain ⟨b, rfl, hb⟩ := tkeyOf_v hc hk
    refine ⟨_, DPut.t h1 hb (by rw [List.length_zip]; omega), id, fun R' H' ha hm => ⟨dvals k w ks vs, ?_, dvals_len h2, hm _ _ (dvals_drs hr h3)⟩⟩
    rw [ha, put_zip h2]
/-- an own thing written -/
theorem Rep.writeT (r : Rep C T ρ σ H) {i : Nat} {a : Addr} {d z : D} (e : ρ[i]? = some (.own d)) (es : σ[i]? = some (some (.ref a))) {ho : HO} (q : ∀ R' H', H' a = some ho → (∀ vs ds, Drs C.K (Reg C T ρ σ) H vs ds → Drs C.K R' H' vs ds) → Top C.K R' H' a z) :
    Step ρ (ρ.set i (.own z)) σ H (upd H a ho) ∧ Rep C T (ρ.set i (.own z)) σ (upd H a ho) := by
  have oa : Owns ρ σ a := ⟨i, d, e, es⟩
  have hi : i < ρ.length := (List.getElem?_eq_some_iff.mp e).1
  have ow : ∀ b, Owns (ρ.set i (.own z)) σ b → Owns ρ σ b := fun b ⟨j, z, h1, h2⟩ => by
    rcases set_get h1 with ⟨h3, h⟩ | ⟨h3, h4⟩
    · subst h3
      exact ⟨j, d, e, h2⟩
    · exact ⟨j, z, h4, h2⟩
  have nw : ∀ b, Nams (ρ.set i (.own z)) σ b ↔ Nams ρ σ b := fun b => by
    constructor
    · rintro ⟨j, z, h1, h2⟩
      rcases set_get h1 with ⟨_, h⟩ | ⟨h3, h4⟩
      · cases h
      · exact ⟨j, z, h4, h2⟩
    · rintro ⟨j, z, h1, h2⟩
      have : i ≠ j := fun q => by
        subst q
        rw [e] at h1
        cases h1
      exact ⟨j, z, by rw [List.getElem?_set_ne this]; exact h1, h2⟩
  have st : Step ρ (ρ.set i (.own z)) σ H (upd H a ho) := ⟨ow, nw, fun b o h n => by
    have hb : b ≠ a := fun z => n (by rw [z]; exact oa)
    rw [upd_ne hb]
    exact h, fun b o h => by
    by_cases z : b = a
    · exact ⟨_, by rw [z]; exact upd_same⟩
    · exact ⟨o, by rw [upd_ne z]; exact h⟩⟩
  have kp := st.kept r
  have ne : ∀ j z b, ρ[j]? = some (.own z) → σ[j]? = some (some (.ref b)) → j ≠ i → b ≠ a := fun j z b h1 h2 h3 q => h3 (r.apart j i z d a h1 e (q ▸ h2) es)
  refine ⟨st, ?_⟩
  exact {
    len := by rw [List.length_set]; exact r.len
    val := fun j z h => by
      rcases set_get h with ⟨h1, h2⟩ | ⟨h1, h2⟩
      · cases h2
      · obtain ⟨v, q1, q2⟩ := r.val j z h2
        exact ⟨v, q1, st.dr r q2⟩
    own := fun j z h => by
      rcases set_get h with ⟨h1, h2⟩ | ⟨h1, h2⟩
      · cases h2
        subst h1
        exact ⟨a, es, q _ _ upd_same fun vs ds t => t.keep kp fun _ _ g _ => st.reg g⟩
      · obtain ⟨b, q1, q2⟩ := r.own j z h2
        refine ⟨b, q1, q2.keep kp (fun _ _ g _ => st.reg g) fun o w => ?_⟩
        rw [upd_ne (ne j z b h2 q1 h1)]
        exact w
    nam := fun j z h => by
      rcases set_get h with ⟨h1, h2⟩ | ⟨h1, h2⟩
      · cases h2
      · obtain ⟨b, us, q1, q2, q3, q4⟩ := r.nam j z h2
        refine ⟨b, us, q1, ?_, q3.keep ⟨fun nm c o w1 w2 => kp.reg nm c o w1.2 w2, kp.fix⟩ fun _ _ g _ => ⟨g.1, st.reg g.2⟩, q4⟩
        have hb : b ≠ a := fun w => r.ownN a (.inl oa) (.inr ⟨j, z, h2, by rw [← w]; exact q1⟩)
        rw [upd_ne hb]
        exact q2
    apart := fun j k z' y b h1 h2 h3 h4 => by
      have f : ∀ (j : Nat) (w : D), (ρ.set i (Slot.own z))[j]? = some (Slot.own w) → ∃ z', ρ[j]? = some (Slot.own z') := fun j z h => by
        rcases set_get h with ⟨h3, _⟩ | ⟨_, h4⟩
        · subst h3
          exact ⟨d, e⟩
        · exact ⟨z, h4⟩
      obtain ⟨z', h1⟩ := f j z' h1
      obtain ⟨y', h2⟩ := f k y h2
      exact r.apart j k z' y' b h1 h2 h3 h4
    ownT := fun b h => r.ownT b (ow b h)
    tmpAt := fun b h => let ⟨o, q⟩ := r.tmpAt b h; st.there b o q
    ownN := fun b h => by rw [nw b]; exact r.ownN b (h.imp (ow b) id)
    new := fun b h => r.new b (h.imp (ow b) id)
    newN := fun b h => r.newN b ((nw b).mp h)
    frame := fun b o h n => by
      have hb : b ≠ a := fun z => by
        subst z
        rcases (r.new b (.inl oa)).2 with w | ⟨j, w⟩
        · rw [h] at w; cases w
        · exact n j w
      rw [upd_ne hb]
      exact r.frame b o h n
    cn := r.cn
    lent := fun j b h => by
      obtain ⟨q1, z, q2⟩ := r.lent j b h
      refine ⟨q1, ?_⟩
      by_cases w : i = j
      · subst w
        exact ⟨_, List.getElem?_set_self hi⟩
      · exact ⟨z, by rw [List.getElem?_set_ne w]; exact q2⟩ }
theorem ownD_at {i : Nat} (r : Rep C T ρ σ H) (h : isOwnD ρ i = true) : ∃ a d, ρ[i]? = some (.own d) ∧ σ[i]? = some (some (.ref a)) ∧ IsD H a ∧ Top C.K (Reg C T ρ σ) H a d := by
  unfold isOwnD at h
  split at h
  · rename_i ks ds e
    obtain ⟨a, e1, t⟩ := r.own i _ e
    obtain ⟨vs, e2, e3⟩ := t
    exact ⟨a, _, e, e1, .inl ⟨_, .inl e2⟩, vs, e2, e3⟩
  · rename_i ks ds e
    obtain ⟨a, e1, t⟩ := r.own i _ e
    obtain ⟨vs, e2, e3⟩ := t
    exact ⟨a, _, e, e1, .inr ⟨_, .inl e2⟩, vs, e2, e3⟩
  · cases h
/-! ### the rules -/
theorem dnew_E {X : Cx} {t u : Bool} {pos : Pos} : PE X (.Dict [] [] pos) (rdE C F W u (.dnew t)) := by
  cases t
  · refine imp_E pe_dnewK fun σ H Q ⟨T, ρ, r, h⟩ => ?_
    unfold evE at h
    exact fun p hp => h (.ref p) _ (EPost.of (L := []) .refl r ⟨ext_upd hp, p, rfl, hp, [], upd_same, rfl, .nil⟩)
  · refine imp_E pe_dnewT fun σ H Q ⟨T, ρ, r, h⟩ => ?_
    unfold evE at h
    exact fun p hp => h (.ref p) _ (EPost.of (L := []) .refl r ⟨ext_upd hp, p, rfl, hp, [], upd_same, rfl, .nil⟩)

/-! ### sorted(d.items()) -/
/-- the pairs of a dict, as they are laid -/
theorem zip_entries {ks : List Key} {vs : List V} {kvs : List (Key × Value)} (rel : KV (ks.zip vs) kvs) (hl : ks.length = vs.length) : ∀ (i : Nat) (k : Key) (v : V), ks[i]? = some k → vs[i]? = some v → ∃ u, kvs[i]? = some (k, u) ∧ RelV v u := by
  intro i k v h1 h2
  have hz : (ks.zip vs)[i]? = some (k, v) := List.getElem?_zip_eq_some.mpr ⟨h1, h2⟩
  have go : ∀ {as : List (Key × V)} {bs : List (Key × Value)}, KV as bs → ∀ (i : Nat) (p : Key × V), as[i]? = some p → ∃ u, bs[i]? = some (p.1, u) ∧ RelV p.2 u := by
    intro as bs h
    induction h with
    | nil => intro i p h; simp at h
    | @cons p q ps qs hq t ih =>
      intro i r hr
      cases i with
      | zero =>
        simp at hr
        subst hr
        exact ⟨q.2, by rw [List.getElem?_cons_zero, hq.1], hq.2⟩
      | succ i => exact ih i r (by simpa using hr)
  exact go rel i _ hz
theorem keyIs_v {k : Key} {u : Value} (h : keyIs k u = true) : RelV (kV k) u := by
  rcases keyIs_shape h with ⟨i, t, rfl, rfl⟩ | ⟨x, t, rfl, rfl⟩
  · exact ⟨t, rfl⟩
  · exact ⟨t, rfl⟩
theorem keyD_dr {K : PySem.W.Frag} {R : Bool → Addr → Prop} {H : Hp} (k : Key) : Dr K R H (kV k) (keyD k) := by
  cases k
  · exact .int _
  · exact .str _
theorem pairs_drs {K : PySem.W.Frag} {R : Bool → Addr → Prop} {H : Hp} : ∀ {ks : List Key} {vs : List V} {ds : List D} {as : List Addr}, Drs K R H vs ds → ks.length = vs.length → as.length = ks.length → (∀ (i : Nat) (a : Addr) (k : Key) (v : V), as[i]? = some a → ks[i]? = some k → vs[i]? = some v → H a = some (.tup [kV k, v])) →
    Drs K R H (as.map V.ref) (dpairs ks ds)
  | [], [], _, [], .nil, _, _, _ => .nil
  | k :: ks, v :: vs, _, a :: as, .cons (ds := ds) h t, h1, h2, h3 => by
    refine .cons (.tup (.inl (h3 0 a k v rfl rfl rfl)) (.cons (keyD_dr k) (.cons h .nil))) (pairs_drs t (Nat.succ.inj h1) (Nat.succ.inj h2) fun i a k v e1 e2 e3 => h3 (i + 1) a k v e1 e2 e3)
theorem drs_each {K : PySem.W.Frag} {R : Bool → Addr → Prop} {H : Hp} {ys : List V} {its : List Value} {ds : List D} (r : Vals ys its) (d : Drs K R H ys ds) : PySem.W.EachIs (fun u d => ∃ v, RelV v u ∧ Dr K R H v d) its ds := each_of r d
def rItemsK : V → List V → Hp → VK → Prop := fun x xs H Q => ∃ (a : Addr) (kvs : List (Key × V)), x = .ref a ∧ xs = [] ∧ H a = some (.dK kvs) ∧ ∀ p, H p = none → Q (.ref p) (upd H p (DX.itemsO p a))
theorem mt_itemsK {X : Cx} : MtR X "dict.items" rItemsK := by
  intro pins s σ H x xs v us Q I rx rxs h
  obtain ⟨a, kvs, rfl, rfl, ha, q⟩ := h
  cases rx
  cases rxs
  obtain ⟨z, hd, vs, rel, dd⟩ := dk_of I.hok ha
  obtain ⟨es, ep, hm, _⟩ := PySem.Heap.DictOf.raw dd
  refine DT.callItems (es := es) (ep := ep) hd hm ?_
  have hf : H s.heap.objs.size = none := I.hok.fresh (Nat.le_refl _)
  exact ⟨.ref s.heap.objs.size, upd H s.heap.objs.size (DX.itemsO s.heap.objs.size a), I.laid (t' := s.toks) (fun b u e => Heap.get?_push_of_some _ e) (Nat.le_refl _) (DX.itemsO_ok (Heap.get?_push_size _ rfl)), rfl, q _ hf⟩
theorem vals_refs : ∀ as : List Addr, Vals (as.map V.ref) (as.map Value.ref)
  | [] => .nil
  | a :: as => .cons rfl (vals_refs as)
/-- sorted(d.items()) of data that are alike -/
theorem call_sortedI {X : Cx} {RR : Bool → Addr → Prop} (hc : X.calm = true) (hu : X.A.units + 128 < cLine) : CallR X (.builtin "sorted") (fun us H Q => ∃ p a ks vs ds, us = [.ref p] ∧ H p = some (DX.itemsO p a) ∧ H a = some (.dK (ks.zip vs)) ∧ ks.length = vs.length ∧ Drs X.K RR H vs ds ∧ sortOk (dpairs ks ds) = true ∧
    ∀ H' l ys, Ext H H' → H l = none → H' l = some (.lst ys) → (∀ R', (∀ nm b, RR nm b → (∃ o, H b = some o) → R' nm b) → Drs X.K R' H' ys (sortD (dpairs ks ds))) → Q (.ref l) H') := by
  intro pins s σ H xs us Q I r h
  obtain ⟨p, a, ks, vs, ds, rfl, hp, ha, hl, hd, ho, q⟩ := h
  obtain rfl := Vals.ref1 r
  have view : s.heap.IsItemsView p a := (show ObjOk X.prog X.w H s.heap p (DX.itemsO p a) from I.hok p _ hp).1
  obtain ⟨z, hds, kvs, rel, dd⟩ := dk_of I.hok ha
  obtain ⟨es, ep, hm, hsz, hent⟩ := PySem.Heap.DictOf.raw dd
  have hh : X.A.handled = none := I.ok.hd hc
  have lk : kvs.length = ks.length := by rw [← rel.length, List.length_zip]; omega
  have zk : ks.length ≤ sizeLine := by rw [List.length_zip] at z; omega
  refine DT.sortedI (es := es) (ep := ep) hh view hm (by omega) fun h' tk as hk hlt hla hG => ?_
  have lak : as.length = ks.length := by omega
  have nd : as.Nodup := List.Pairwise.imp (fun h => Nat.ne_of_lt h) hG.rise
  -- the pairs are tracked
  have pr : ∀ (j : Nat) (b : Addr), as[j]? = some b → ∃ (k : Key) (v : V) (u1 u2 : Value), ks[j]? = some k ∧ vs[j]? = some v ∧ RelV (kV k) u1 ∧ RelV v u2 ∧ h'.get? b = some { cls := .type "tuple", data := .seq #[u1, u2] } := by
    intro j b hj
    have hjl : j < as.length := (List.getElem?_eq_some_iff.mp hj).1
    have h1 : ks[j]? = some ks[j] := List.getElem?_eq_getElem (by omega)
    have h2 : vs[j]? = some vs[j] := List.getElem?_eq_getElem (by omega)
    obtain ⟨u, h3, h4⟩ := zip_entries rel hl j _ _ h1 h2
    obtain ⟨en, he, hg⟩ := hG.pairs j b hj
    have hje : j < es.size := by omega
    obtain ⟨h5, h6⟩ := hent j hje _ _ h3
    rw [Array.getElem?_eq_getElem hje] at he
    cases he
    exact ⟨_, _, _, _, h1, h2, keyIs_v h5, by rw [h6]; exact h4, hg⟩
  have I1 : L2.Inv X pins σ H { s with heap := h', toks := tk } := I.kept (t' := tk) hk
  obtain ⟨H2, I2, g2, qt⟩ := DX.takeT (P := fun b ws => ∃ (j : Nat) (k : Key) (v : V), as[j]? = some b ∧ ks[j]? = some k ∧ vs[j]? = some v ∧ ws = [kV k, v]) I as H I1 nd fun b hb => by
    obtain ⟨j, hj⟩ := List.mem_iff_getElem?.mp hb
    obtain ⟨k, v, u1, u2, h1, h2, h3, h4, hg⟩ := pr j b hj
    have hbl : s.heap.objs.size ≤ b := Nat.le_of_lt (hG.above b hb)
    exact ⟨hbl, I.hok.fresh hbl, [kV k, v], ⟨j, k, v, hj, h1, h2, rfl⟩, fun H3 => ⟨(by rw [sizeLine_eq]; show 2 ≤ 16777216; omega), [u1, u2], .cons h3 (.cons h4 .nil), ⟨_, hg, rfl, 0, rfl⟩⟩⟩
  have at2 : ∀ (i : Nat) (b : Addr) (k : Key) (v : V), as[i]? = some b → ks[i]? = some k → vs[i]? = some v → H2 b = some (.tup [kV k, v]) := fun i b k v e1 e2 e3 => by
    obtain ⟨ws, ⟨j, k', v', j1, j2, j3, rfl⟩, hH⟩ := qt b (List.mem_of_getElem? e1)
    have eij : i = j := (List.getElem?_inj (List.getElem?_eq_some_iff.mp e1).1 nd).mp (e1.trans j1.symm)
    subst eij
    rw [e2] at j2
    rw [e3] at j3
    cases j2
    cases j3
    exact hH
  have ext2 : Keep RR H H2 := ⟨fun _ b o _ e => g2 b o e, fun b o _ e => g2 b o e⟩
  have dp2 : Drs X.K RT H2 (as.map V.ref) (dpairs ks ds) := pairs_drs (hd.keep ext2 fun _ _ _ _ => trivial) hl lak at2
  unfold sortOk at ho
  rw [Bool.and_eq_true, Bool.and_eq_true] at ho
  obtain ⟨o1, o2, o3⟩ := ho
  have he := eqables_mem o1
  -- the list of the sort
  have hob : (h'.push { cls := .type "list", data := .seq (as.map Value.ref).toArray }).get? h'.objs.size = some (PyProof.Rows.seqObj "list" (as.map Value.ref).toArray 0) := Heap.get?_push_size _ rfl
  have ka : ∀ b o, h'.get? b = some o → (h'.push { cls := .type "list", data := .seq (as.map Value.ref).toArray }).get? b = some o := fun b o e => Heap.get?_push_of_some _ e
  have ne0 : ∀ b o, h'.get? b = some o → b ≠ h'.objs.size := fun b o e => Nat.ne_of_lt (Heap.lt_size e)
  generalize hh2 : h'.push { cls := .type "list", data := .seq (as.map Value.ref).toArray } = h2 at hob ka ⊢
  have e : PySem.W.EachIs (fun u d => ∃ v, RelV v u ∧ ∀ R', (∀ nm b, RR nm b → (∃ o, H b = some o) → R' nm b) → Dr X.K R' H2 v d) (as.map Value.ref) (dpairs ks ds) := by
    have go : ∀ {ws : List V} {is : List Value} {es : List D}, Vals ws is → (∀ R', (∀ nm b, RR nm b → (∃ o, H b = some o) → R' nm b) → Drs X.K R' H2 ws es) → PySem.W.EachIs (fun u d => ∃ v, RelV v u ∧ ∀ R', (∀ nm b, RR nm b → (∃ o, H b = some o) → R' nm b) → Dr X.K R' H2 v d) is es := by
      intro ws is es rv
      induction rv generalizing es with
      | nil =>
        intro hx
        cases hx RT (fun _ _ _ _ => trivial)
        exact .nil
      | @cons w i ws is hr t ih =>
        intro hx
        cases es with
        | nil => cases hx RT (fun _ _ _ _ => trivial)
        | cons d es =>
          refine .cons ⟨w, hr, fun R' m => ?_⟩ (ih fun R' m => ?_)
          · cases hx R' m with
            | cons a b => exact a
          · cases hx R' m with
            | cons a b => exact b
    refine go (vals_refs as) fun R' m => pairs_drs (hd.keep ext2 m) hl lak at2
  have er : PySem.W.EachIs (fun u d => ∃ bs, Reads h2 u (toPy d) bs ∧ h'.objs.size ∉ bs) (as.map Value.ref) (dpairs ks ds) :=
    each_mono (fun d => eqable 40 d = true) (fun u d pd ⟨v, rv, dv⟩ => by
      obtain ⟨bs, rd⟩ := Dp.reads I2 (toPy d) v u (dp_of 40 d v dv pd) rv
      refine ⟨bs, PyProof.Rows.Reads.keeps ka rd, fun hin => ?_⟩
      obtain ⟨o, ho⟩ := PyProof.On.reads_mem_get rd _ hin
      exact ne0 _ _ ho rfl) he (each_of (vals_refs as) dp2)
  have lp : (dpairs ks ds).length = ks.length := by
    have := dp2.length
    rw [List.length_map] at this
    omega
  refine PySem.W.list_sort_data (s := { s with heap := h2, toks := tk }) hob e er (all_alike o2) (all_sortable o3) (by omega) (fun d hm => ?_) fun out hol eo => ?_
  · have := (py_lay 40 d (he d hm)).2
    show X.A.units + 1 + 1 + (toPy d).depth < cLine
    omega
  · obtain ⟨eF, heF⟩ := PyProof.Rows.sortedHeap_at (vs := as.map Value.ref) (out := List.toArray out) hob
    have kF : ∀ b o, b ≠ h'.objs.size → h2.get? b = some o → (PyProof.Rows.sortedHeap h2 h'.objs.size (as.map Value.ref) (List.toArray out)).get? b = some o := fun b o hb e => (PyProof.Rows.sortedHeap_old hb (Heap.lt_size e)).trans e
    have kS : ∀ b o, h'.get? b = some o → (PyProof.Rows.sortedHeap h2 h'.objs.size (as.map Value.ref) (List.toArray out)).get? b = some o := fun b o e => kF b o (ne0 _ _ e) (ka b o e)
    have hn2 : H2 h'.objs.size = none := I2.hok.fresh (Nat.le_refl _)
    have hn0 : H h'.objs.size = none := I1.hok.fresh (Nat.le_refl _)
    obtain ⟨ys, rv', hd'⟩ : ∃ ys, Vals ys out ∧ ∀ R', (∀ nm b, RR nm b → (∃ o, H b = some o) → R' nm b) → Drs X.K R' H2 ys (sortD (dpairs ks ds)) := by
      have go : ∀ {is : List Value} {es : List D}, PySem.W.EachIs (fun u d => ∃ v, RelV v u ∧ ∀ R', (∀ nm b, RR nm b → (∃ o, H b = some o) → R' nm b) → Dr X.K R' H2 v d) is es → ∃ ys, Vals ys is ∧ ∀ R', (∀ nm b, RR nm b → (∃ o, H b = some o) → R' nm b) → Drs X.K R' H2 ys es := by
        intro is es h
        induction h with
        | nil => exact ⟨[], .nil, fun _ _ => .nil⟩
        | cons hx _ ih =>
          obtain ⟨v, r, hv⟩ := hx
          obtain ⟨ys, a, b⟩ := ih
          exact ⟨v :: ys, .cons r a, fun R' m => .cons (hv R' m) (b R' m)⟩
      exact go eo
    have hz' : ys.length ≤ sizeLine := by rw [rv'.length, hol]; omega
    have I3 : L2.Inv X pins σ (upd H2 h'.objs.size (.lst ys)) { s with heap := PyProof.Rows.sortedHeap h2 h'.objs.size (as.map Value.ref) (List.toArray out), toks := tk } :=
      I2.laid (t' := tk) kS (Nat.le_refl _) ⟨hz', out, eF, rv', heF⟩
    have e3 : Ext H2 (upd H2 h'.objs.size (.lst ys)) := ext_upd hn2
    exact ⟨.ref h'.objs.size, _, I3, rfl, q _ _ ys (fun b o e => e3 b o (g2 b o e)) hn0 upd_same fun R' m => (hd' R' m).keep ⟨fun _ b o _ e => e3 b o e, fun b o _ e => e3 b o e⟩ fun _ _ g _ => g⟩

/-! ### the rules, once more -/
theorem star_two {e f : Expr} {env : PySem.Env} (he : notStar e = true) (hf : notStar f = true) : starEach [e, f] env = [(false, eval e env), (false, eval f env)] := by
  rw [star_cons he, star_cons hf]
  rfl
theorem hu1 {X : Cx} (G : Good X C F W g) : X.A.units + 1 < cLine := Nat.lt_of_le_of_lt (Nat.add_le_add_left (by decide) _) G.hu
theorem dget_E {X : Cx} (G : Good X C F W g) {i : Nat} {k m : ME} {u : Bool} {x : Str} {p p2 q : Pos} {y z : Expr} (hN : X.N[i]? = some x) (hv : visB X.env.scope x = true) (ho : okName x = true) (hl : (p.endLine == q.line) = true) (hy : notStar y = true) (hz : notStar z = true) (ha : PE X y (rdE C F W false k)) (hb : PE X z (rdE C F W false m)) :
    PE X (.Call (.Attribute (.Name x p2) "get" p) [y, z] [] q) (rdE C F W u (.dget i k m)) := by
  unfold okName at ho
  simp only [Bool.and_eq_true, Bool.not_eq_true'] at ho
  refine imp_E (pe_dget2 (hu1 G) (pe_var hN (vis_of hv) ho.1.1 ho.1.2) ha hb ⟨rfl, by rw [star_two hy hz]; rfl, hl, by rw [star_two hy hz]; rfl⟩) fun σ H Q ⟨T, ρ, r, h⟩ => ?_
  unfold evE at h
  split at h
  case isFalse => exact h.elim
  rename_i hi
  obtain ⟨a, d0, e1, e2, e3, _⟩ := ownD_at r hi
  refine ⟨.ref a, e2, a, rfl, e3, ?_⟩
  refine seq_E (L := []) .refl r h fun y ρ1 v H1 p1 h1 => ?_
  refine seq_E p1.1 p1.2.1 h1 fun z ρ2 w H2 p2 h2 => ?_
  obtain ⟨s, r2, hx, hy⟩ := two_of p1 p2
  unfold dgetR at h2
  split at h2
  case h_2 => exact h2.elim
  rename_i d c zz f1
  split at h2
  case h_2 => exact h2.elim
  rename_i o e
  obtain ⟨b, g1, t⟩ := r2.own i _ f1
  rw [e2] at g1
  cases g1
  obtain ⟨uu, q1, q2⟩ := dget_at t hx e
  refine ⟨uu, q1, ?_⟩
  rcases q2 with ⟨rfl, rfl⟩ | ⟨zv, rd, rfl, rfl, q3⟩
  · exact h2 _ _ (fin_v s r2 hy)
  · exact h2 _ _ (fin_v s r2 q3)
theorem nosl_of {y : Expr} (h : notSlice y = true) : NoSl y := fun ov iv => by cases y <;> first | rfl | cases h
theorem dix_E {X : Cx} (G : Good X C F W g) {i : Nat} {k : ME} {u : Bool} {x : Str} {p2 q : Pos} {y : Expr} (hN : X.N[i]? = some x) (hv : visB X.env.scope x = true) (ho : okName x = true) (hs : notSlice y = true) (ha : PE X y (rdE C F W false k)) :
    PE X (.Subscript (.Name x p2) y q) (rdE C F W u (.dix i k)) := by
  unfold okName at ho
  simp only [Bool.and_eq_true, Bool.not_eq_true'] at ho
  refine imp_E (pe_dget (hu1 G) (pe_var hN (vis_of hv) ho.1.1 ho.1.2) ha (nosl_of hs)) fun σ H Q ⟨T, ρ, r, h⟩ => ?_
  unfold evE at h
  split at h
  case isFalse => exact h.elim
  rename_i hi
  obtain ⟨a, e2⟩ : ∃ a, σ[i]? = some (some (.ref a)) := by
    unfold isDic at hi
    split at hi
    · rename_i e
      obtain ⟨a, e1, _⟩ := r.own i _ e
      exact ⟨a, e1⟩
    · rename_i e
      obtain ⟨a, e1, _⟩ := r.own i _ e
      exact ⟨a, e1⟩
    · rename_i e
      obtain ⟨v, e1, q⟩ := r.val i _ e
      obtain ⟨a, vs, rfl, _⟩ := q.dx
      exact ⟨a, e1⟩
    · cases hi
  refine ⟨.ref a, e2, ?_⟩
  refine seq_E (L := []) .refl r h fun y ρ1 v H1 p1 h1 => ?_
  unfold dixR at h1
  split at h1
  · rename_i d c f1
    split at h1
    case h_2 => exact h1.elim
    rename_i z e
    obtain ⟨b, g1, t⟩ := p1.2.1.own i _ f1
    rw [e2] at g1
    cases g1
    obtain ⟨uu, q1, q2⟩ := dget_at t p1.2.2.1 e
    rcases q2 with ⟨_, z⟩ | ⟨zv, rd, rfl, zz, q3⟩
    · cases z
    · cases zz
      exact ⟨a, zv, rfl, q1, h1 _ _ (fin_v p1.1 p1.2.1 q3)⟩
  · rename_i d c f1
    split at h1
    case h_2 => exact h1.elim
    rename_i z e
    obtain ⟨v', g1, t⟩ := p1.2.1.val i _ f1
    rw [e2] at g1
    cases g1
    cases d <;> simp only [dgetop] at e <;> try (cases e; done)
    · rename_i ks ds
      obtain ⟨b, vs, eb, k1, k2, k3⟩ := t.dx
      cases eb
      obtain ⟨uu, q1, q2⟩ := dget_atV (C := C) k1 k3 p1.2.2.1 (show dgetop (.dK ks ds) c = some (some z) from e)
      rcases q2 with ⟨_, z⟩ | ⟨zv, rd, rfl, zz, q3⟩
      · cases z
      · cases zz
        exact ⟨a, zv, rfl, q1, h1 _ _ (fin_v p1.1 p1.2.1 q3)⟩
    · rename_i ks ds
      obtain ⟨b, vs, eb, k1, k2, k3⟩ := t.dx
      cases eb
      obtain ⟨k, hk, e5⟩ := Option.map_eq_some_iff.mp e
      obtain ⟨b2, e6, hb⟩ := tkeyOf_v p1.2.2.1 hk
      subst e6
      have q1 : DGet H1 a (.ref b2) _ := DGet.t k1 hb
      have q2 := dlook_drs (k := k) (ks := ks) k3
      rw [← look_zip, e5] at q2
      rcases q2 with ⟨_, z⟩ | ⟨zv, rd, e7, zz, q3⟩
      · cases z
      · cases zz
        rw [e7] at q1
        exact ⟨a, zv, rfl, q1, h1 _ _ (fin_v p1.1 p1.2.1 q3)⟩
  · exact h1.elim
theorem dhas_rd {ng u : Bool} {i : Nat} {k : ME} : ∀ σ H Q, rdE C F W u (.dhas ng i k) σ H Q → (if ng then tDNotIn (rdE C F W false k) (tVar i) else tDIn (rdE C F W false k) (tVar i)) σ H Q := fun σ H Q ⟨T, ρ, r, h⟩ => by
  unfold evE at h
  have go : rdE C F W false k σ H fun y H1 => tVar i σ H1 fun x H2 => ∃ a o, x = .ref a ∧ DGet H2 a y o ∧ Q (.bl (if ng then !o.isSome else o.isSome)) H2 := by
    refine seq_E (L := []) .refl r h fun y ρ1 v H1 p1 h1 => ?_
    unfold dhasR at h1
    split at h1
    case h_2 => exact h1.elim
    rename_i d c f1
    split at h1
    case h_2 => exact h1.elim
    rename_i o e
    obtain ⟨b, g1, t⟩ := p1.2.1.own i _ f1
    obtain ⟨uu, q1, q2⟩ := dget_at t p1.2.2.1 e
    refine ⟨.ref b, g1, b, uu, rfl, q1, ?_⟩
    have es : uu.isSome = o.isSome := by
      rcases q2 with ⟨rfl, rfl⟩ | ⟨zv, rd, rfl, rfl, q3⟩ <;> rfl
    rw [es]
    exact h1 _ _ (fin_v p1.1 p1.2.1 (.bl _))
  cases ng
  · exact go
  · exact go
theorem dhas_E {X : Cx} (G : Good X C F W g) {ng : Bool} {i : Nat} {k : ME} {u : Bool} {x : Str} {op : CmpOp} {p2 q : Pos} {y : Expr} (hop : (match op with | .In => !ng | .NotIn => ng | _ => false) = true) (hN : X.N[i]? = some x) (hv : visB X.env.scope x = true) (ho : okName x = true) (ha : PE X y (rdE C F W false k)) :
    PE X (.Compare y [op] [.Name x p2] q) (rdE C F W u (.dhas ng i k)) := by
  unfold okName at ho
  simp only [Bool.and_eq_true, Bool.not_eq_true'] at ho
  have hn := pe_var (pos := p2) hN (vis_of hv) ho.1.1 ho.1.2
  cases op <;> simp at hop
  · subst hop
    exact imp_E (pe_cmp (pc_din (hu1 G) ha hn)) dhas_rd
  · subst hop
    exact imp_E (pe_cmp (pc_dnotin (hu1 G) ha hn)) dhas_rd
theorem dhas_T {X : Cx} (G : Good X C F W g) {ng : Bool} {i : Nat} {k : ME} {x : Str} {op : CmpOp} {p2 q : Pos} {y : Expr} (hop : (match op with | .In => !ng | .NotIn => ng | _ => false) = true) (hN : X.N[i]? = some x) (hv : visB X.env.scope x = true) (ho : okName x = true) (ha : PE X y (rdE C F W false k)) :
    PT X (.Compare y [op] [.Name x p2] q) (rdT C F W (.dhas ng i k)) := by
  unfold okName at ho
  simp only [Bool.and_eq_true, Bool.not_eq_true'] at ho
  have hn := pe_var (pos := p2) hN (vis_of hv) ho.1.1 ho.1.2
  cases op <;> simp at hop
  · subst hop
    exact imp_T (pt_cmp (pc_din (hu1 G) ha hn)) (test_of dhas_rd)
  · subst hop
    exact imp_T (pt_cmp (pc_dnotin (hu1 G) ha hn)) (test_of dhas_rd)
theorem dsrt_E {X : Cx} (G : Good X C F W g) {i : Nat} {u : Bool} {x : Str} {p0 p p2 q pos : Pos} (hg : glB X.env.scope "sorted" = true) (hb : g.blts.contains ("sorted" : Str) = true) (hN : X.N[i]? = some x) (hv : visB X.env.scope x = true) (ho : okName x = true) (hl : (p.endLine == q.line) = true) :
    PE X (.Call (.Name "sorted" p0) [.Call (.Attribute (.Name x p2) "items" p) [] [] q] [] pos) (rdE C F W u (.dsrt i)) := by
  unfold okName at ho
  simp only [Bool.and_eq_true, Bool.not_eq_true'] at ho
  have hu : X.A.units + 128 < cLine := Nat.lt_of_le_of_lt (Nat.add_le_add_left (by decide) _) G.hu
  refine ⟨fun pins s σ H Q I ⟨T, ρ, r, h⟩ => ?_⟩
  unfold evE dsrtR at h
  split at h
  case h_2 => exact h.elim
  rename_i ks ds e
  split at h
  case isFalse => exact h.elim
  rename_i hk
  obtain ⟨a, e2, vs, e3, e4, e5⟩ := r.own i _ e
  refine (pe_callB (call_sortedI (RR := Reg C T ρ σ) G.calm hu) (gl_of hg) (G.blt _ (by simpa using hb)) (by decide +kernel) (pa_cons (pe_bm0 (T := "dict") (id := "dict.items") (r := rItemsK) PySem.F.plainAttrs_dict PySem.F.slot_dict_items PySem.F.type_dict_items mt_itemsK (pe_var hN (vis_of hv) ho.1.1 ho.1.2) rfl hl) pa_nil (star_cons (by rfl))) (by decide) (by decide) (star_cons (by rfl)) rfl).run pins s σ H Q I ?_
  refine ⟨.ref a, e2, .inr (.inr (.inl ⟨rfl, .inl ⟨_, e3⟩⟩)), a, _, rfl, rfl, e3, fun p hp => ?_⟩
  have x1 : Ext H (upd H p (DX.itemsO p a)) := ext_upd hp
  refine ⟨p, a, ks, vs, ds, rfl, upd_same, x1 _ _ e3, e4, ?_, hk, fun H' l ys x2 hn hl2 hd => h _ _ (EPost.of (L := []) .refl r ⟨fun b o e => x2 b o (x1 b o e), l, rfl, ?_, rfl, ys, hl2, ?_⟩)⟩
  · rw [G.K]
    exact e5.keep ⟨fun _ b o _ e => x1 b o e, fun b o _ e => x1 b o e⟩ fun _ _ g _ => g
  · cases qq : H l with
    | none => rfl
    | some o =>
      rw [x1 _ _ qq] at hn
      cases hn
  · rw [← G.K]
    refine hd _ fun nm b gr ⟨o, ob⟩ => ⟨gr.out, fun z => ?_, gr.own, gr.nam⟩
    rcases List.mem_cons.mp z with rfl | z
    · rw [ob] at hn
      cases hn
    · exact gr.tmp z
theorem dmd_E {X : Cx} (G : Good X C F W g) {a b : ME} {u : Bool} {p q : Pos} {y z : Expr} (hg : glB X.env.scope "divmod" = true) (hb : g.blts.contains ("divmod" : Str) = true) (hy : notStar y = true) (hz : notStar z = true) (ha : PE X y (rdE C F W true a)) (hc : PE X z (rdE C F W true b)) :
    PE X (.Call (.Name "divmod" p) [y, z] [] q) (rdE C F W u (.dmd a b)) := by
  refine imp_E (pe_callB call_divmodW (gl_of hg) (G.blt _ (by simpa using hb)) (by decide +kernel) (pa_cons ha (pa_cons hc pa_nil (star_cons hz)) (star_cons hy)) (by decide) (by decide) (star_cons hy) (by rw [star_cons hz]; rfl)) fun σ H Q ⟨T, ρ, r, h⟩ => ?_
  unfold evE at h
  refine seq_E (L := []) .refl r h fun x ρ1 v H1 p1 h1 => ?_
  refine seq_E p1.1 p1.2.1 h1 fun y ρ2 w H2 p2 h2 => ?_
  obtain ⟨s, r2, hx, hy⟩ := two_of p1 p2
  unfold dmdR at h2
  split at h2
  case h_2 => exact h2.elim
  rename_i i j f1 f2
  split at h2
  case isFalse => exact h2.elim
  rename_i hk
  have hk := of_decide_eq_true hk
  obtain rfl : v = .int i := derf_dx r2 hx f1
  obtain rfl : w = .int j := derf_dx r2 hy f2
  exact ⟨i, j, rfl, ⟨hk.1, PyProof.noPylong_of_log2 hk.2⟩, fun p hp => h2 _ _ (EPost.of s r2 (.tup r2 hp (.cons (.int _) (.cons (.int _) .nil))))⟩
/-- an own dict is locked for good -/
theorem Rep.lockD (r : Rep C T ρ σ H) {i : Nat} {ks : List Key} {ds : List D} {vs : List V} {a : Addr} {od : Obj} (e : ρ[i]? = some (.own (.dK ks ds))) (es : σ[i]? = some (some (.ref a))) (hl : ∀ a, (i, a) ∉ C.lent) (hH : H a = some (.dK (ks.zip vs))) (hlen : ks.length = vs.length) (hd : Drs C.K (Reg C T ρ σ) H vs ds) :
    Step ρ (ρ.set i (.val (.dK ks ds))) σ H (upd H a (.frz od (.dK (ks.zip vs)))) ∧ Rep C T (ρ.set i (.val (.dK ks ds))) σ (upd H a (.frz od (.dK (ks.zip vs)))) ∧ Dr C.K (Reg C T (ρ.set i (.val (.dK ks ds))) σ) (upd H a (.frz od (.dK (ks.zip vs)))) (.ref a) (.dK ks ds) := by
  obtain ⟨s0, r0, _⟩ := r.freeze e es hl
  have oa : Owns ρ σ a := ⟨i, _, e, es⟩
  have up : ∀ b o, b ≠ a → H b = some o → upd H a (.frz od (.dK (ks.zip vs))) b = some o := fun b o hb h => by rw [upd_ne hb]; exact h
  have st : Step ρ (ρ.set i (.val (.dK ks ds))) σ H (upd H a (.frz od (.dK (ks.zip vs)))) := ⟨s0.own, s0.nam, fun b o h n => up b o (fun z => n (z ▸ oa)) h, fun b o h => by
    by_cases hb : b = a
    · subst hb; exact ⟨_, upd_same⟩
    · exact ⟨o, up b o hb h⟩⟩
  have dr : Dr C.K (Reg C T (ρ.set i (.val (.dK ks ds))) σ) (upd H a (.frz od (.dK (ks.zip vs)))) (.ref a) (.dK ks ds) := .dK (.inr ⟨od, upd_same⟩) hlen (st.drs r hd)
  have na : ∀ (j : Nat) (z : D), (ρ.set i (.val (.dK ks ds)))[j]? = some (Slot.own z) → ∀ b, σ[j]? = some (some (V.ref b)) → b ≠ a := fun j z h b hb q => by
    subst q
    rcases set_get h with ⟨_, h2⟩ | ⟨h1, h2⟩
    · cases h2
    · exact h1 (r.apart _ _ _ _ _ h2 e hb es)
  have nf : C.H0 a = none := by
    rcases (r.new a (.inl oa)).2 with h | ⟨j, h⟩
    · exact h
    · obtain ⟨q1, z, q2⟩ := r.lent j a h
      have := r.apart _ _ _ _ _ q2 e q1 es
      subst this
      exact absurd h (hl a)
  refine ⟨st, ?_, dr⟩
  exact {
    len := r0.len
    val := fun j z h => by
      rcases set_get h with ⟨h1, h2⟩ | ⟨h1, h2⟩
      · cases h2
        subst h1
        exact ⟨.ref a, es, dr⟩
      · obtain ⟨v, q1, q2⟩ := r.val j z h2
        exact ⟨v, q1, st.dr r q2⟩
    own := fun j z h => by
      have na := na j z h
      rcases set_get h with ⟨h1, h2⟩ | ⟨h1, h2⟩
      · cases h2
      · obtain ⟨b, q1, q2⟩ := r.own j z h2
        exact ⟨b, q1, q2.keep (st.kept r) (fun _ _ g _ => st.reg g) fun o z => up _ _ (na b q1) z⟩
    nam := fun j z h => by
      rcases set_get h with ⟨h1, h2⟩ | ⟨h1, h2⟩
      · cases h2
      · obtain ⟨b, us, q1, q2, q3, q4⟩ := r.nam j z h2
        refine ⟨b, us, q1, up _ _ (fun z => ?_) q2, q3.keep ⟨fun nm c o g x => (st.kept r).reg nm c o g.2 x, (st.kept r).fix⟩ (fun _ _ g _ => ⟨g.1, st.reg g.2⟩), q4⟩
        subst z
        rw [hH] at q2
        cases q2
    apart := r0.apart
    ownT := r0.ownT
    tmpAt := fun b h => let ⟨o, q⟩ := r0.tmpAt b h; st.there b o q
    ownN := r0.ownN
    new := r0.new
    newN := r0.newN
    frame := fun b o h n => up _ _ (fun z => by rw [z, nf] at h; cases h) (r.frame b o h n)
    cn := r0.cn
    lent := r0.lent }
/-- the dict is locked and walked -/
def iKeysL (td : TE) : TI := fun σ H R => td σ H fun x H1 => ∃ d kvs, x = .ref d ∧ H1 d = some (.dK kvs) ∧ ∀ o, R (Itk d o kvs) (upd H1 d (.frz o (.dK kvs)))
theorem pi_keysL {X : Cx} {tg e : Expr} {td : TE} (he : PE X e td) : PI X tg e (iKeysL td) := by
  refine ⟨fun pins s σ H R I h => ?_⟩
  refine thn (he.run pins s σ H _ I h) fun u s1 ⟨x, H1, I1, rx, d, kvs, ex, hd, q⟩ => ?_
  subst ex
  obtain rfl : u = Value.ref d := rx
  obtain ⟨o, I2⟩ := I1.lock hd trivial
  obtain ⟨hs, hgd, hx, es, ep, vs, hdt, hsz, kv, hm⟩ := I2.frzK upd_same
  refine iter_keys hs hgd hx hdt (pi_one (tk := s1.toks) I2 _ (turn_keys _ hdt) ⟨_, Heap.get?_push_size _ rfl, rfl, ?_⟩ (q o))
  rw [hsz] <;> rfl
theorem keyD_v {R : Bool → Addr → Prop} {H : Hp} {k : Key} : Dr C.K R H (kV k) (keyD k) := by
  cases k with
  | inl j => exact .int j
  | inr x => exact .str x
theorem zip_at {ks : List Key} {vs : List V} {i : Nat} {k : Key} {v : V} (h : (ks.zip vs)[i]? = some (k, v)) : ks[i]? = some k := by
  rw [List.getElem?_zip_eq_some] at h
  exact h.1
theorem walk_dky {a : Addr} {od : Obj} {ks : List Key} {vs : List V} (hlen : ks.length = vs.length) : WalkD C (Itk a od (ks.zip vs)) [.ref a] [.lk fun u => u = .frz od (.dK (ks.zip vs))] (ks.map keyD) where
  go := fun R H i q hi => by
    rw [List.length_map] at hi
    cases q with
    | cons q _ =>
      obtain ⟨b, u, eb, h, _, rfl⟩ := q.dx
      cases eb
      exact ⟨h, by rw [List.length_zip]; omega⟩
  stop := fun R H q => by
    cases q with
    | cons q _ =>
      obtain ⟨b, u, eb, h, _, rfl⟩ := q.dx
      cases eb
      exact ⟨h, by rw [List.length_zip, List.length_map]; omega⟩
  yld := fun T ρ σ H i x H' d' r q hd ⟨e, k, v, hy, ex⟩ => by
    subst e
    subst ex
    refine ⟨fun _ _ z => z, ?_⟩
    rw [List.getElem?_map, zip_at hy] at hd
    cases hd
    exact keyD_v
theorem dky_I {X : Cx} (G : Good X C F W g) {i : Nat} {x : Str} {p : Pos} {tg : Expr} (hN : X.N[i]? = some x) (hv : visB X.env.scope x = true) (ho : okName x = true) : PI X tg (.Name x p) (rdI C F W (.dky i)) := by
  unfold okName at ho
  simp only [Bool.and_eq_true, Bool.not_eq_true'] at ho
  refine imp_I (pi_keysL (pe_var hN (vis_of hv) ho.1.1 ho.1.2)) fun σ H Q ⟨T, ρ, r, h⟩ => ?_
  have h : After C W T ρ σ H (dkyR F.mine i ρ) (IPost C T ρ σ H) Q := h
  unfold dkyR at h
  split at h
  case h_2 => exact h.elim
  rename_i ks ds e
  split at h
  · exact h.elim
  rename_i hm
  obtain ⟨a, e1, vs, e2, e3, e4⟩ := r.own i _ e
  refine ⟨.ref a, e1, a, ks.zip vs, rfl, e2, fun o => ?_⟩
  obtain ⟨st, r2, dr⟩ := r.lockD (od := o) e e1 (fun b hb => hm (G.mine i b hb)) e2 e3 e4
  exact h _ _ ⟨[.ref a], [.lk fun u => u = .frz o (.dK (ks.zip vs))], st, r2, .cons (.lk upd_same ⟨_, _, rfl⟩ rfl) .nil, walk_dky e3⟩
end
end Own

/-! part Own14 -/
namespace Own
open PySem PySem.Spec L2

/-- the own and named lists are the same ones -/
def OEq (ρ : Rho) (σ : St) (ρ' : Rho) (σ' : St) : Prop := (∀ a, Owns ρ' σ' a ↔ Owns ρ σ a) ∧ ∀ a, Nams ρ' σ' a ↔ Nams ρ σ a
section
variable {α β : Type} {C : Cn} {F : Fns} {W : WX} {g : Gi} {T L : List Addr} {ρ ρ' ρ1 ρ2 ρ3 : Rho} {σ σ' σ1 σ2 : St} {H H' H1 H2 H3 : Hp} {x y : VR} {v w : V} {d e : D}
theorem OEq.refl : OEq ρ σ ρ σ := ⟨fun _ => Iff.rfl, fun _ => Iff.rfl⟩
theorem OEq.trans (a : OEq ρ σ ρ1 σ1) (b : OEq ρ1 σ1 ρ2 σ2) : OEq ρ σ ρ2 σ2 := ⟨fun x => (b.1 x).trans (a.1 x), fun x => (b.2 x).trans (a.2 x)⟩
theorem OEq.symm (a : OEq ρ σ ρ1 σ1) : OEq ρ1 σ1 ρ σ := ⟨fun x => (a.1 x).symm, fun x => (a.2 x).symm⟩
theorem OEq.reg (o : OEq ρ σ ρ' σ') {nm : Bool} {a : Addr} (g : Reg C T ρ σ nm a) : Reg C T ρ' σ' nm a :=
  ⟨g.out, g.tmp, fun h => g.own ((o.1 a).mp h), g.nam.trans (or_congr Iff.rfl (o.2 a).symm)⟩
theorem OEq.dr (o : OEq ρ σ ρ' σ') (h : Dr C.K (Reg C T ρ σ) H v d) : Dr C.K (Reg C T ρ' σ') H v d := h.mono fun _ _ g _ => o.reg g
theorem OEq.drs (o : OEq ρ σ ρ' σ') {vs : List V} {ds : List D} (h : Drs C.K (Reg C T ρ σ) H vs ds) : Drs C.K (Reg C T ρ' σ') H vs ds := h.mono fun _ _ g _ => o.reg g
theorem calm_at {i : Nat} (h : calmS ρ i = true) : ρ[i]? = some .un ∨ ∃ d, ρ[i]? = some (.val d) := by
  unfold calmS at h
  split at h
  · exact .inl (by assumption)
  · rename_i d e
    exact .inr ⟨d, e⟩
  · cases h
/-- a slot without a list of its own is set anew -/
theorem Rep.slot (r : Rep C T ρ σ H) {i : Nat} (hc : calmS ρ i = true) {s : Slot} {o : Option V} (hs : s = .un ∨ ∃ d v, s = .val d ∧ o = some v ∧ Dr C.K (Reg C T ρ σ) H v d) :
    Rep C T (ρ.set i s) (σ.set i o) H ∧ OEq ρ σ (ρ.set i s) (σ.set i o) := by
  have hi : i < ρ.length := by
    rcases calm_at hc with h | ⟨d, h⟩ <;> exact (List.getElem?_eq_some_iff.mp h).1
  have hi2 : i < σ.length := by rw [← r.len]; exact hi
  have no : ∀ d, ρ[i]? ≠ some (.own d) := fun d h => by
    rcases calm_at hc with q | ⟨e, q⟩ <;> (rw [q] at h; cases h)
  have nn : ∀ d, ρ[i]? ≠ some (.nam d) := fun d h => by
    rcases calm_at hc with q | ⟨e, q⟩ <;> (rw [q] at h; cases h)
  have so : ∀ d, s ≠ .own d := fun d h => by
    rcases hs with q | ⟨e, v, q, _⟩ <;> (rw [q] at h; cases h)
  have sn : ∀ d, s ≠ .nam d := fun d h => by
    rcases hs with q | ⟨e, v, q, _⟩ <;> (rw [q] at h; cases h)
  have gn : ∀ {j : Nat}, j ≠ i → (σ.set i o)[j]? = σ[j]? := fun h => List.getElem?_set_ne (Ne.symm h)
  have gr : ∀ {j : Nat}, j ≠ i → (ρ.set i s)[j]? = ρ[j]? := fun h => List.getElem?_set_ne (Ne.symm h)
  have fo : ∀ (j : Nat) d, (ρ.set i s)[j]? = some (.own d) → j ≠ i ∧ ρ[j]? = some (.own d) := fun j d h => by
    rcases set_get h with ⟨_, q⟩ | q
    · exact absurd q.symm (so d)
    · exact q
  have fn : ∀ (j : Nat) d, (ρ.set i s)[j]? = some (.nam d) → j ≠ i ∧ ρ[j]? = some (.nam d) := fun j d h => by
    rcases set_get h with ⟨_, q⟩ | q
    · exact absurd q.symm (sn d)
    · exact q
  have bo : ∀ (j : Nat) d, ρ[j]? = some (.own d) → j ≠ i := fun j d h q => no d (q ▸ h)
  have bn : ∀ (j : Nat) d, ρ[j]? = some (.nam d) → j ≠ i := fun j d h q => nn d (q ▸ h)
  have oe : OEq ρ σ (ρ.set i s) (σ.set i o) := by
    refine ⟨fun a => ⟨?_, ?_⟩, fun a => ⟨?_, ?_⟩⟩
    · rintro ⟨j, d, h1, h2⟩
      obtain ⟨hj, h3⟩ := fo j d h1
      exact ⟨j, d, h3, by rw [← gn hj]; exact h2⟩
    · rintro ⟨j, d, h1, h2⟩
      have hj := bo j d h1
      exact ⟨j, d, by rw [gr hj]; exact h1, by rw [gn hj]; exact h2⟩
    · rintro ⟨j, d, h1, h2⟩
      obtain ⟨hj, h3⟩ := fn j d h1
      exact ⟨j, d, h3, by rw [← gn hj]; exact h2⟩
    · rintro ⟨j, d, h1, h2⟩
      have hj := bn j d h1
      exact ⟨j, d, by rw [gr hj]; exact h1, by rw [gn hj]; exact h2⟩
  refine ⟨?_, oe⟩
  exact {
    len := by rw [List.length_set, List.length_set]; exact r.len
    val := fun j z h => by
      rcases set_get h with ⟨q1, q2⟩ | ⟨q1, q2⟩
      · subst q1
        rcases hs with q | ⟨e, v, q, q3, q4⟩
        · rw [q] at q2; cases q2
        · rw [q] at q2
          cases q2
          exact ⟨v, by rw [List.getElem?_set_self hi2, q3], oe.dr q4⟩
      · obtain ⟨v, k1, k2⟩ := r.val j z q2
        exact ⟨v, by rw [gn q1]; exact k1, oe.dr k2⟩
    own := fun j z h => by
      obtain ⟨hj, h3⟩ := fo j z h
      obtain ⟨a, k1, k2⟩ := r.own j z h3
      exact ⟨a, by rw [gn hj]; exact k1, k2.keep Keep.refl (fun _ _ g _ => oe.reg g) fun _ z => z⟩
    nam := fun j z h => by
      obtain ⟨hj, h3⟩ := fn j z h
      obtain ⟨a, vs, k1, k2, k3, k4⟩ := r.nam j z h3
      exact ⟨a, vs, by rw [gn hj]; exact k1, k2, k3.mono (fun _ _ g _ => ⟨g.1, oe.reg g.2⟩), k4⟩
    apart := fun j k z y b h1 h2 h3 h4 => by
      obtain ⟨a1, b1⟩ := fo j z h1
      obtain ⟨a2, b2⟩ := fo k y h2
      exact r.apart j k z y b b1 b2 (by rw [← gn a1]; exact h3) (by rw [← gn a2]; exact h4)
    ownT := fun b h => r.ownT b ((oe.1 b).mp h)
    tmpAt := r.tmpAt
    ownN := fun b h => by rw [oe.2 b]; exact r.ownN b (h.imp (oe.1 b).mp id)
    new := fun b h => r.new b (h.imp (oe.1 b).mp id)
    newN := fun b h => r.newN b ((oe.2 b).mp h)
    frame := r.frame
    cn := r.cn
    lent := fun j b h => by
      obtain ⟨q1, z, q2⟩ := r.lent j b h
      have hj := bo j z q2
      exact ⟨by rw [gn hj]; exact q1, z, by rw [gr hj]; exact q2⟩ }
/-- the slots of a block's names forgotten -/
theorem Rep.wipe (r : Rep C T ρ σ H) : ∀ {is : List Nat}, canWipe ρ is = true → Rep C T (clearS ρ is) (wipe σ is) H ∧ OEq ρ σ (clearS ρ is) (wipe σ is)
  | [], _ => ⟨r, .refl⟩
  | i :: is, h => by
    simp only [canWipe, Bool.and_eq_true] at h
    obtain ⟨r1, o1⟩ := Rep.wipe r h.2
    have hc : calmS (clearS ρ is) i = true := by
      have : ∀ is : List Nat, calmS (clearS ρ is) i = true := by
        intro is
        induction is with
        | nil => exact h.1
        | cons j is ih =>
          show calmS ((clearS ρ is).set j .un) i = true
          unfold calmS at ih ⊢
          by_cases q : j = i
          · subst q
            have hj : j < (clearS ρ is).length := by
              cases z : (clearS ρ is)[j]? with
              | none => rw [z] at ih; cases ih
              | some _ => exact (List.getElem?_eq_some_iff.mp z).1
            rw [List.getElem?_set_self hj]
          · rw [List.getElem?_set_ne q]
            exact ih
      exact this is
    obtain ⟨r2, o2⟩ := r1.slot (i := i) hc (s := .un) (o := none) (.inl rfl)
    exact ⟨r2, o1.trans o2⟩
/-- the target's names bound -/
def gTg (K : PySem.W.Frag) : MT → TG
  | .nm i => gName i
  | .tp ts => gTup K ts.length (gTgs K ts)
where gTgs (K : PySem.W.Frag) : List MT → TGs
  | [] => gNil
  | t :: ts => gCons (gTg K t) (gTgs K ts)
theorem chkTs_len {N : List Str} {sc : Scope} {c : Bool} : ∀ {ts : List MT} {es : List Expr}, chkTs N sc c ts es = true → ts.length = es.length
  | [], [], _ => rfl
  | [], _ :: _, h => by cases h
  | _ :: _, [], h => by cases h
  | t :: ts, e :: es, h => by
    simp only [chkTs, Bool.and_eq_true] at h
    simp [chkTs_len h.2]
theorem assignEach_len {env : PySem.Env} : ∀ {N : List Str} {sc : Scope} {c : Bool} {ts : List MT} {es : List Expr}, chkTs N sc c ts es = true → (assignEach es env).length = es.length ∧ (assignEach es env).findIdx? (·.1) = none ∧ True
  | N, sc, c, [], [], _ => ⟨rfl, rfl, trivial⟩
  | N, sc, c, [], _ :: _, h => by cases h
  | N, sc, c, _ :: _, [], h => by cases h
  | N, sc, c, t :: ts, e :: es, h => by
    simp only [chkTs, Bool.and_eq_true] at h
    obtain ⟨h1, h2, _⟩ := assignEach_len (env := env) h.2
    have : assignEach (e :: es) env = (false, assign e env) :: assignEach es env := by
      have hs := h.1.2
      cases e <;> first | rfl | simp [notStar] at hs
    rw [this]
    refine ⟨by simp [h1], ?_, trivial⟩
    rw [List.findIdx?_cons]
    simp [h2]
mutual
theorem tg_PG {X : Cx} {c : Bool} {sc' : Scope} (hc : X.calm = true) (hN : X.N.Nodup) (hf : ∀ x, storB sc' c x = true → L2.Loc X.env.scope x ∧ (X.fn x = true ∨ X.env.scope.names.lookup x = some .local)) : ∀ {t : MT} {e : Expr}, chkT X.N sc' c t e = true → PG X e (gTg X.K t)
  | .nm i, e, h => by
    cases e <;> simp only [chkT] at h <;> try (cases h; done)
    rename_i x p
    simp only [Bool.and_eq_true, beq_iff_eq] at h
    obtain ⟨h1, h2⟩ := hf x h.1.2
    exact pg_name hN h.1.1 h1 h2
  | .tp ts, e, h => by
    cases e <;> simp only [chkT] at h <;> try (cases h; done)
    obtain ⟨h1, h2, _⟩ := assignEach_len (env := X.env) h
    exact pg_tup hc (tg_PGs hc hN hf h) (h1.trans (chkTs_len h).symm) h2
theorem tg_PGs {X : Cx} {c : Bool} {sc' : Scope} (hc : X.calm = true) (hN : X.N.Nodup) (hf : ∀ x, storB sc' c x = true → L2.Loc X.env.scope x ∧ (X.fn x = true ∨ X.env.scope.names.lookup x = some .local)) : ∀ {ts : List MT} {es : List Expr}, chkTs X.N sc' c ts es = true → PGs X es (gTg.gTgs X.K ts)
  | [], [], _ => pgs_nil
  | [], _ :: _, h => by cases h
  | _ :: _, [], h => by cases h
  | t :: ts, e :: es, h => by
    simp only [chkTs, Bool.and_eq_true] at h
    refine pgs_cons (tg_PG hc hN hf h.1.1) (tg_PGs hc hN hf h.2) ?_
    have hs := h.1.2
    cases e <;> first | rfl | simp [notStar] at hs
end
/-- a def's own names -/
theorem stor_fn {X : Cx} (hf : ∀ x, X.fn x = true) : ∀ x, storB X.env.scope true x = true → L2.Loc X.env.scope x ∧ (X.fn x = true ∨ X.env.scope.names.lookup x = some .local) := fun x h => by
  unfold storB at h
  split at h
  · rename_i q; exact ⟨.inl q, .inr q⟩
  · rename_i q; exact ⟨.inr q, .inl (hf x)⟩
  · cases h
theorem lookup_mapV {f : Str × NameKind → Str × NameKind} (hf : ∀ n k, (f (n, k)).1 = n) {x : Str} : ∀ {l : List (Str × NameKind)}, (l.map f).lookup x = (l.lookup x).map fun k => (f (x, k)).2
  | [] => rfl
  | (y, k) :: l => by
    have e : f (y, k) = (y, (f (y, k)).2) := Prod.ext (hf y k) rfl
    rw [List.map_cons, e, List.lookup_cons, List.lookup_cons]
    by_cases hx : x = y
    · subst hx
      simp
    · have hb : (x == y) = false := by simpa using hx
      rw [hb]
      exact lookup_mapV hf
theorem relS_lookup {sc2 sc : Scope} {x : Str} : (relS sc2 sc).names.lookup x = (sc2.names.lookup x).map fun k => if (k == .free && sc.kind == .function && sc.names.lookup x == some .cell) then .cell else k := by
  show (sc2.names.map _).lookup x = _
  rw [lookup_mapV (fun n k => by dsimp only; split <;> rfl)]
  congr 1
  funext k
  dsimp only
  split <;> rfl
/-- a block's own names -/
theorem stor_blk {X : Cx} {s : Shared} {H : Hp} {sc2 : Scope} {A : Addr} {cl : List (Str × Addr)} {fp : List Addr} : ∀ x, storB sc2 true x = true → L2.Loc (X.blk s H sc2 (compEnvC sc2 cl A X.env) fp).env.scope x ∧ ((X.blk s H sc2 (compEnvC sc2 cl A X.env) fp).fn x = true ∨ (X.blk s H sc2 (compEnvC sc2 cl A X.env) fp).env.scope.names.lookup x = some .local) := fun x h => by
  have e : (X.blk s H sc2 (compEnvC sc2 cl A X.env) fp).env.scope = relS sc2 X.env.scope := rfl
  have e2 : (X.blk s H sc2 (compEnvC sc2 cl A X.env) fp).fn x = (sc2.names.lookup x == some .cell) := rfl
  rw [e, e2]
  unfold storB at h
  unfold L2.Loc
  rw [relS_lookup]
  split at h
  · rename_i q; rw [q]; exact ⟨.inl rfl, .inr rfl⟩
  · rename_i q; rw [q]; exact ⟨.inr rfl, .inl rfl⟩
  · cases h
theorem bindTs_len : ∀ {ts : List MT} {ds : List D} {ρ ρ' : Rho}, bindTs ts ds ρ = some ρ' → ds.length = ts.length
  | [], [], _, _, _ => rfl
  | [], _ :: _, _, _, h => by simp [bindTs] at h
  | _ :: _, [], _, _, h => by simp [bindTs] at h
  | t :: ts, d :: ds, ρ, ρ', h => by
    simp only [bindTs] at h
    split at h
    · simp [bindTs_len h]
    · cases h
/-- σ' is σ but for some slots -/
def SameBut (is : List Nat) (σ σ' : St) : Prop := σ'.length = σ.length ∧ ∀ j, j ∉ is → σ'[j]? = σ[j]?
mutual
theorem bind_ok : ∀ {t : MT} {d : D} {ρ ρ' : Rho} {σ : St} {v : V} {Q : St → Hp → Prop}, bindT t d ρ = some ρ' → Rep C T ρ σ H → Dr C.K (Reg C T ρ σ) H v d →
    (∀ σ', Rep C T ρ' σ' H → OEq ρ σ ρ' σ' → SameBut (slotsT t) σ σ' → Q σ' H) → gTg C.K t v σ H Q
  | .nm i, d, ρ, ρ', σ, v, Q, h, r, q, k => by
    simp only [bindT] at h
    split at h
    · rename_i hc
      cases h
      obtain ⟨r2, o2⟩ := r.slot hc (s := .val d) (o := some v) (.inr ⟨d, v, rfl, rfl, q⟩)
      exact k _ r2 o2 ⟨List.length_set, fun j hj => List.getElem?_set_ne fun z => hj (by subst z; simp [slotsT])⟩
    · cases h
  | .tp ts, d, ρ, ρ', σ, v, Q, h, r, q, k => by
    cases d <;> simp only [bindT] at h <;> try (cases h; done)
    obtain ⟨a, vs, rfl, h1, h2⟩ := q.dx
    have := binds_ok h r h2 k
    refine ⟨a, vs, rfl, h1.sq, this.1, this.2⟩
theorem binds_ok : ∀ {ts : List MT} {ds : List D} {ρ ρ' : Rho} {σ : St} {vs : List V} {Q : St → Hp → Prop}, bindTs ts ds ρ = some ρ' → Rep C T ρ σ H → Drs C.K (Reg C T ρ σ) H vs ds →
    (∀ σ', Rep C T ρ' σ' H → OEq ρ σ ρ' σ' → SameBut (slotsTs ts) σ σ' → Q σ' H) → vs.length = ts.length ∧ gTg.gTgs C.K ts vs σ H Q
  | [], [], ρ, ρ', σ, vs, Q, h, r, q, k => by
    simp only [bindTs] at h
    cases h
    cases q
    exact ⟨rfl, rfl, k σ r .refl ⟨rfl, fun _ _ => rfl⟩⟩
  | [], _ :: _, ρ, ρ', σ, vs, Q, h, r, q, k => by simp [bindTs] at h
  | _ :: _, [], ρ, ρ', σ, vs, Q, h, r, q, k => by simp [bindTs] at h
  | t :: ts, d :: ds, ρ, ρ', σ, vs, Q, h, r, q, k => by
    simp only [bindTs] at h
    split at h
    · rename_i ρ1 e
      cases q with
      | cons q1 q2 =>
        rename_i v vs
        have len : vs.length = ts.length := by rw [q2.length]; exact bindTs_len h
        refine ⟨by simp [len], v, vs, rfl, bind_ok e r q1 fun σ1 r1 o1 s1 => ?_⟩
        refine (binds_ok h r1 (o1.drs q2) fun σ2 r2 o2 s2 => ?_).2
        refine k σ2 r2 (o1.trans o2) ⟨s2.1.trans s1.1, fun j hj => ?_⟩
        simp only [slotsTs, List.mem_append, not_or] at hj
        exact (s2.2 j hj.2).trans (s1.2 j hj.1)
    · cases h
end
end
end Own

/-! part Own15 -/
namespace Own
open PySem PySem.Spec L2

/-- what is left alone, over a change of the frame's names -/
structure SG (ρ : Rho) (σ : St) (H : Hp) (ρ' : Rho) (σ' : St) (H' : Hp) : Prop where
  own : ∀ a, Owns ρ' σ' a → Owns ρ σ a
  nam : ∀ a, Nams ρ' σ' a ↔ Nams ρ σ a
  keep : ∀ a o, H a = some o → ¬ Owns ρ σ a → H' a = some o
  there : ∀ a o, H a = some o → ∃ o', H' a = some o'
section
variable {α β : Type} {C : Cn} {F : Fns} {W : WX} {g : Gi} {T L : List Addr} {ρ ρ' ρ1 ρ2 ρ3 : Rho} {σ σ' σ1 σ2 : St} {H H' H1 H2 H3 : Hp} {x y : VR} {v w : V} {d e : D}
theorem SG.refl : SG ρ σ H ρ σ H := ⟨fun _ h => h, fun _ => Iff.rfl, fun _ _ h _ => h, fun _ o h => ⟨o, h⟩⟩
theorem SG.trans (a : SG ρ σ H ρ1 σ1 H1) (b : SG ρ1 σ1 H1 ρ2 σ2 H2) : SG ρ σ H ρ2 σ2 H2 :=
  ⟨fun x h => a.own x (b.own x h), fun x => (b.nam x).trans (a.nam x), fun x o e n => b.keep x o (a.keep x o e n) fun h => n (a.own x h), fun x o e => let ⟨o1, e1⟩ := a.there x o e; b.there x o1 e1⟩
theorem Step.sg (s : Step ρ ρ' σ H H') : SG ρ σ H ρ' σ H' := ⟨s.own, s.nam, s.keep, s.there⟩
theorem SG.step (s : SG ρ σ H ρ' σ H') : Step ρ ρ' σ H H' := ⟨s.own, s.nam, s.keep, s.there⟩
theorem OEq.sg (o : OEq ρ σ ρ' σ') : SG ρ σ H ρ' σ' H := ⟨fun a h => (o.1 a).mp h, o.2, fun _ _ h _ => h, fun _ o h => ⟨o, h⟩⟩
theorem Ext.sg (e : Ext H H') : SG ρ σ H ρ σ H' := e.step.sg
theorem SG.wr (s : SG ρ σ H ρ' σ' H') {D : Addr} {o : HO} (h : H D = none) : SG ρ σ H ρ' σ' (upd H' D o) :=
  ⟨s.own, s.nam, fun a u e n => by rw [upd_ne (ne_of_none e h)]; exact s.keep a u e n, fun a u e => by rw [upd_ne (ne_of_none e h)]; exact s.there a u e⟩
theorem SG.kept (s : SG ρ σ H ρ' σ' H') (r : Rep C T ρ σ H) : Keep (Reg C T ρ σ) H H' :=
  ⟨fun _ a o g e => s.keep a o e g.own, fun a o q e => s.keep a o e (r.fixNot q e)⟩
theorem SG.reg (s : SG ρ σ H ρ' σ' H') {nm : Bool} {a : Addr} (g : Reg C T ρ σ nm a) : Reg C T ρ' σ' nm a :=
  ⟨g.out, g.tmp, fun h => g.own (s.own a h), g.nam.trans (or_congr Iff.rfl (s.nam a).symm)⟩
theorem SG.dr (s : SG ρ σ H ρ' σ' H') (r : Rep C T ρ σ H) (h : Dr C.K (Reg C T ρ σ) H v d) : Dr C.K (Reg C T ρ' σ') H' v d := h.keep (s.kept r) fun _ _ g _ => s.reg g
theorem SG.drs (s : SG ρ σ H ρ' σ' H') (r : Rep C T ρ σ H) {vs : List V} {ds : List D} (h : Drs C.K (Reg C T ρ σ) H vs ds) : Drs C.K (Reg C T ρ' σ') H' vs ds := h.keep (s.kept r) fun _ _ g _ => s.reg g
theorem SG.free (s : SG ρ σ H ρ' σ' H') {a : Addr} (h : H' a = none) : H a = none := by
  cases q : H a with
  | none => rfl
  | some o =>
    obtain ⟨o', e⟩ := s.there a o q
    rw [h] at e
    cases e
/-- .. and one more temporary -/
theorem SG.dr1 (s : SG ρ σ H ρ' σ' H') (r : Rep C T ρ σ H) {D : Addr} (hD : H D = none) (h : Dr C.K (Reg C T ρ σ) H v d) : Dr C.K (Reg C (D :: T) ρ' σ') H' v d :=
  h.keep (s.kept r) fun nm a g ⟨o, e⟩ => let g' := s.reg g; ⟨g'.out, fun z => (List.mem_cons.mp z).elim (fun w => by rw [w, hD] at e; cases e) g'.tmp, g'.own, g'.nam⟩
theorem SG.drs1 (s : SG ρ σ H ρ' σ' H') (r : Rep C T ρ σ H) {p : Addr} (hD : H p = none) {vs : List V} {ds : List D} (h : Drs C.K (Reg C T ρ σ) H vs ds) : Drs C.K (Reg C (p :: T) ρ' σ') H' vs ds :=
  h.keep (s.kept r) fun nm a g ⟨o, e⟩ => let g' := s.reg g; ⟨g'.out, fun z => (List.mem_cons.mp z).elim (fun w => by rw [w, hD] at e; cases e) g'.tmp, g'.own, g'.nam⟩
/-- a temporary list is written -/
theorem Rep.tmpW (r : Rep C T ρ σ H) {D : Addr} (hT : D ∈ T) {acc vs : List V} (h : H D = some (.lst acc)) : Rep C T ρ σ (upd H D (.lst vs)) ∧ ∀ {v d}, Dr C.K (Reg C T ρ σ) H v d → Dr C.K (Reg C T ρ σ) (upd H D (.lst vs)) v d := by
  have no : ¬ Owns ρ σ D := fun o => r.ownT D o hT
  have kp : Keep (Reg C T ρ σ) H (upd H D (.lst vs)) := by
    refine ⟨fun nm a o q e => ?_, fun a o q e => ?_⟩
    · have : a ≠ D := fun z => q.tmp (z ▸ hT)
      rw [upd_ne this]; exact e
    · have : a ≠ D := fun z => by subst z; rw [h] at e; cases e; exact q
      rw [upd_ne this]; exact e
  refine ⟨?_, fun {v d} q => q.keep kp fun _ _ g _ => g⟩
  exact {
    len := r.len
    val := fun i d e => let ⟨v, z, q⟩ := r.val i d e; ⟨v, z, q.keep kp fun _ _ g _ => g⟩
    own := fun i d e => by
      obtain ⟨b, z, q⟩ := r.own i d e
      refine ⟨b, z, q.keep kp (fun _ _ g _ => g) fun o w => ?_⟩
      have : b ≠ D := fun z' => no ⟨i, d, e, by rw [← z']; exact z⟩
      rw [upd_ne this]; exact w
    nam := fun i d e => by
      obtain ⟨b, us, z, l, q, w⟩ := r.nam i d e
      refine ⟨b, us, z, ?_, q.keep ⟨fun nm a o x y => kp.reg nm a o x.2 y, kp.fix⟩ (fun _ _ x _ => x), w⟩
      have : b ≠ D := fun z' => r.ownN D (.inr hT) (.inr ⟨i, d, e, by rw [← z']; exact z⟩)
      rw [upd_ne this]; exact l
    apart := r.apart
    ownT := r.ownT
    tmpAt := fun b hb => by
      by_cases z : b = D
      · exact ⟨_, by rw [z]; exact upd_same⟩
      · obtain ⟨o, q⟩ := r.tmpAt b hb
        exact ⟨o, by rw [upd_ne z]; exact q⟩
    ownN := r.ownN
    new := r.new
    newN := r.newN
    frame := fun b o e n => by
      have : b ≠ D := fun z => by
        subst z
        rcases (r.new b (.inr hT)).2 with w | ⟨i, w⟩
        · rw [e] at w; cases w
        · exact n i w
      rw [upd_ne this]
      exact r.frame b o e n
    cn := r.cn
    lent := r.lent }
/-- the names of a block put back -/
def putBackS (old σ : St) : List Nat → St
  | [] => σ
  | i :: is => (putBackS old σ is).set i (old[i]?.getD none)
theorem putBackS_length {old σ : St} : ∀ {is : List Nat}, (putBackS old σ is).length = σ.length
  | [] => rfl
  | i :: is => by
    show ((putBackS old σ is).set i _).length = _
    rw [List.length_set, putBackS_length]
theorem putBackS_at {old σ : St} (hl : old.length = σ.length) : ∀ {is : List Nat} {j : Nat}, (j ∈ is → (putBackS old σ is)[j]? = old[j]?) ∧ (j ∉ is → (putBackS old σ is)[j]? = σ[j]?)
  | [], j => ⟨fun h => (nomatch h), fun _ => rfl⟩
  | i :: is, j => by
    have ih := putBackS_at hl (is := is) (j := j)
    constructor
    · intro h
      show ((putBackS old σ is).set i (old[i]?.getD none))[j]? = _
      by_cases q : i = j
      · subst q
        by_cases hj : i < σ.length
        · rw [List.getElem?_set_self (by rw [putBackS_length]; exact hj)]
          have : i < old.length := by omega
          rw [List.getElem?_eq_getElem this]
          rfl
        · rw [List.getElem?_eq_none (by rw [List.length_set, putBackS_length]; omega), List.getElem?_eq_none (by omega)]
      · rw [List.getElem?_set_ne q]
        exact ih.1 ((List.mem_cons.mp h).elim (fun z => absurd z.symm q) id)
    · intro h
      have h' : j ≠ i ∧ j ∉ is := by simpa using h
      show ((putBackS old σ is).set i (old[i]?.getD none))[j]? = _
      rw [List.getElem?_set_ne (Ne.symm h'.1)]
      exact ih.2 h'.2
theorem putBackS_wipe {σ : St} {is : List Nat} : putBackS σ (L2.wipe σ is) is = σ := by
  have hl : σ.length = (L2.wipe σ is).length := (wipe_length σ is).symm
  refine List.ext_getElem? fun j => ?_
  by_cases h : j ∈ is
  · exact (putBackS_at hl).1 h
  · rw [(putBackS_at hl).2 h, wipe_out h]
theorem Rep.back (r : Rep C T ρ σ H) {ρ0 : Rho} {σ0 : St} : ∀ {is : List Nat}, canWipe ρ is = true → (∀ i ∈ is, ρ0[i]? = some .un ∨ ∃ d v, ρ0[i]? = some (.val d) ∧ σ0[i]? = some (some v) ∧ Dr C.K (Reg C T ρ σ) H v d) →
    Rep C T (putBack ρ0 ρ is) (putBackS σ0 σ is) H ∧ OEq ρ σ (putBack ρ0 ρ is) (putBackS σ0 σ is)
  | [], _, _ => ⟨r, .refl⟩
  | i :: is, h, q => by
    simp only [canWipe, Bool.and_eq_true] at h
    obtain ⟨r1, o1⟩ := Rep.back r (is := is) h.2 fun j hj => q j (List.mem_cons_of_mem _ hj)
    have hc : calmS (putBack ρ0 ρ is) i = true := by
      have : ∀ is : List Nat, (∀ j ∈ is, ρ0[j]? = some .un ∨ ∃ d v, ρ0[j]? = some (.val d) ∧ σ0[j]? = some (some v) ∧ Dr C.K (Reg C T ρ σ) H v d) → calmS (putBack ρ0 ρ is) i = true := by
        intro is
        induction is with
        | nil => exact fun _ => h.1
        | cons j is ih =>
          intro q
          have ih := ih fun k hk => q k (List.mem_cons_of_mem _ hk)
          show calmS ((putBack ρ0 ρ is).set j (ρ0[j]?.getD .un)) i = true
          unfold calmS at ih ⊢
          by_cases z : j = i
          · subst z
            have hj : j < (putBack ρ0 ρ is).length := by
              cases z : (putBack ρ0 ρ is)[j]? with
              | none => rw [z] at ih; cases ih
              | some _ => exact (List.getElem?_eq_some_iff.mp z).1
            rw [List.getElem?_set_self hj]
            rcases q j List.mem_cons_self with k | ⟨d, v, k, _⟩ <;> (rw [k]; rfl)
          · rw [List.getElem?_set_ne z]
            exact ih
      exact this is fun j hj => q j (List.mem_cons_of_mem _ hj)
    rcases q i List.mem_cons_self with k | ⟨d, v, k1, k2, k3⟩
    · obtain ⟨r2, o2⟩ := r1.slot (i := i) hc (s := .un) (o := σ0[i]?.getD none) (.inl rfl)
      refine ⟨?_, ?_⟩
      · show Rep C T ((putBack ρ0 ρ is).set i (ρ0[i]?.getD .un)) _ H
        rw [k]
        exact r2
      · show OEq ρ σ ((putBack ρ0 ρ is).set i (ρ0[i]?.getD .un)) _
        rw [k]
        exact o1.trans o2
    · obtain ⟨r2, o2⟩ := r1.slot (i := i) hc (s := .val d) (o := some v) (.inr ⟨d, v, rfl, rfl, o1.dr k3⟩)
      refine ⟨?_, ?_⟩
      · show Rep C T ((putBack ρ0 ρ is).set i (ρ0[i]?.getD .un)) ((putBackS σ0 σ is).set i (σ0[i]?.getD none)) H
        rw [k1, k2]
        exact r2
      · show OEq ρ σ ((putBack ρ0 ρ is).set i (ρ0[i]?.getD .un)) ((putBackS σ0 σ is).set i (σ0[i]?.getD none))
        rw [k1, k2]
        exact o1.trans o2

/-! ### a clause's tests -/
abbrev WF : WX := fun _ _ _ _ => False
def rdTs (C : Cn) (F : Fns) (W : WX) (ms : List ME) : TT := fun σ H Q => ∃ T ρ, Rep C T ρ σ H ∧ After C W T ρ σ H (evTs F ms ρ) (fun b ρ' c H' => c = b ∧ Step ρ ρ' σ H H' ∧ Rep C T ρ' σ H') Q
theorem nil_Ts {X : Cx} : PTs X [] (rdTs C F W []) := ⟨fun pins s σ H Q I ⟨T, ρ, r, h⟩ => pts_nil.run pins s σ H Q I (by
  unfold evTs at h
  exact h true H ⟨rfl, .refl, r⟩)⟩
theorem one_Ts {X : Cx} {m : ME} {e : Expr} (ha : PT X e (rdT C F W m)) : PTs X [e] (rdTs C F W [m]) := ⟨fun pins s σ H Q I ⟨T, ρ, r, h⟩ => (pts_one ha).run pins s σ H Q I ⟨T, ρ, r, by
  unfold evTs at h
  exact h⟩⟩
/-- two operations' states: the same names but for a block's -/
theorem wipe_same {σ σ' : St} {is : List Nat} (h : SameBut is (L2.wipe σ is) σ') : L2.wipe σ' is = L2.wipe σ is := by
  refine List.ext_getElem? fun j => ?_
  by_cases hj : j ∈ is
  · have key : ∀ {τ : St} {is : List Nat} {j : Nat}, j ∈ is → (L2.wipe τ is)[j]? = if j < τ.length then some none else none := by
      intro τ is
      induction is with
      | nil => intro j h; cases h
      | cons k is ih =>
        intro j hj
        show ((L2.wipe τ is).set k none)[j]? = _
        by_cases q : k = j
        · subst q
          rw [List.getElem?_set]
          simp [wipe_length]
        · rw [List.getElem?_set_ne q]
          exact ih ((List.mem_cons.mp hj).elim (fun z => absurd z.symm q) id)
    rw [key hj, key hj]
    have : σ'.length = σ.length := h.1.trans (wipe_length σ is)
    rw [this]
  · rw [wipe_out hj, wipe_out hj, h.2 j hj, wipe_out hj]
/-- what a loop's turns leave -/
structure LcW (C : Cn) (T : List Addr) (ρ1 : Rho) (σ : St) (H1 : Hp) (is : List Nat) (p : Addr) (ws : List V) (cs acc : List D) (ρi : Rho) (H : Hp) : Prop where
  rep : Rep C (p :: T) ρi (L2.wipe σ is) H
  at_ : ∃ vs, H p = some (.lst vs) ∧ Drs C.K (Reg C (p :: T) ρi (L2.wipe σ is)) H vs acc
  held : Drs C.K (Reg C (p :: T) ρi (L2.wipe σ is)) H ws cs
  sg : SG ρ1 σ H1 ρi (L2.wipe σ is) H
theorem LcW.step {ρ1 : Rho} {H1 : Hp} {is : List Nat} {p : Addr} {ws : List V} {cs acc : List D} {ρi ρi' : Rho} (w : LcW C T ρ1 σ H1 is p ws cs acc ρi H) (s : SG ρi (L2.wipe σ is) H ρi' (L2.wipe σ is) H') (r' : Rep C (p :: T) ρi' (L2.wipe σ is) H') : LcW C T ρ1 σ H1 is p ws cs acc ρi' H' := by
  obtain ⟨vs, k1, k2⟩ := w.at_
  exact ⟨r', ⟨vs, s.keep p _ k1 fun o => w.rep.ownT p o List.mem_cons_self, s.drs w.rep k2⟩, s.drs w.rep w.held, w.sg.trans s⟩
theorem chk_own : ∀ {N : List Str} {is : List Nat}, (∀ i ∈ is, ∃ x, N[i]? = some x) → (ownOf N is).map (·.2) = is
  | N, [], _ => rfl
  | N, i :: is, h => by
    obtain ⟨x, hx⟩ := h i List.mem_cons_self
    unfold ownOf
    rw [List.filterMap_cons_some (b := (x, i)) (by rw [hx]; rfl)]
    show i :: _ = _
    exact congrArg (i :: ·) (chk_own fun j hj => h j (List.mem_cons_of_mem _ hj))
mutual
theorem chkT_slots {N : List Str} {sc : Scope} {c : Bool} : ∀ {t : MT} {e : Expr}, chkT N sc c t e = true → ∀ i ∈ slotsT t, ∃ x, N[i]? = some x
  | .nm i, e, h, j, hj => by
    cases e <;> simp only [chkT] at h <;> try (cases h; done)
    rename_i x p
    simp only [Bool.and_eq_true, beq_iff_eq] at h
    have : j = i := by simpa [slotsT] using hj
    subst this
    exact ⟨x, h.1.1⟩
  | .tp ts, e, h, j, hj => by
    cases e <;> simp only [chkT] at h <;> try (cases h; done)
    exact chkTs_slots h j hj
theorem chkTs_slots {N : List Str} {sc : Scope} {c : Bool} : ∀ {ts : List MT} {es : List Expr}, chkTs N sc c ts es = true → ∀ i ∈ slotsTs ts, ∃ x, N[i]? = some x
  | [], es, h, j, hj => by simp [slotsTs] at hj
  | _ :: _, [], h, j, hj => by cases h
  | t :: ts, e :: es, h, j, hj => by
    simp only [chkTs, Bool.and_eq_true] at h
    simp only [slotsTs, List.mem_append] at hj
    exact hj.elim (chkT_slots h.1.1 j) (chkTs_slots h.2 j)
end
theorem lc_eq {u : Bool} {elt it : ME} {tg : MT} {ifs : List ME} : evE F u (.lc elt tg it ifs) ρ = (evI F it ρ).bind fun ds ρ1 => lcGo (lcTurn (fun ρ => evTs F ifs ρ) (fun ρ => evE F false elt ρ) tg) (slotsT tg) ds (fzS F.mine ρ1 (slotsT tg)) := by
  cases it <;> (rw [evE] <;> first | rfl | (intros; rename_i h; cases h))
theorem fz_ok {mine : List Nat} (hm : ∀ i a, (i, a) ∈ C.lent → mine.contains i = true) (r : Rep C T ρ σ H) : ∀ is : List Nat, Step ρ (fzS mine ρ is) σ H H ∧ Rep C T (fzS mine ρ is) σ H
  | [] => ⟨.refl, r⟩
  | i :: is => by
    obtain ⟨s1, r1⟩ := fz_ok hm r is
    unfold fzS
    split
    · rename_i d e
      split
      · exact ⟨s1, r1⟩
      · rename_i hn
        obtain ⟨a, e1, _⟩ := r1.own i d e
        obtain ⟨st, r2, _⟩ := r1.freeze e e1 fun b hb => hn (hm i b hb)
        exact ⟨s1.trans st, r2⟩
    · exact ⟨s1, r1⟩
theorem lc_rd {N : List Str} {sc : Scope} {c : Bool} {elt it : ME} {tg : MT} {ifs : List ME} {u : Bool} {t : Expr} (hm : ∀ i a, (i, a) ∈ C.lent → F.mine.contains i = true) (ht : chkT N sc c tg t = true) : ∀ σ H Q, rdE C F W u (.lc elt tg it ifs) σ H Q →
    tLc (rdI C F W it) (gTg C.K tg) (rdTs C F WF ifs) (rdE C F WF false elt) ((ownOf N (slotsT tg)).map (·.2)) σ H Q := fun σ H0 Q ⟨T, ρ, r, h⟩ => by
  rw [lc_eq] at h
  rw [chk_own (chkT_slots ht)]
  generalize hset : slotsT tg = is at h
  refine ⟨T, ρ, r, ?_⟩
  cases q : evI F it ρ with
  | no => rw [q] at h; exact h
  | exc c d ρ' => rw [q] at h; exact h
  | ok ds ρ1 =>
    rw [q] at h
    simp only [Rs.bind_ok] at h
    intro J H1 ⟨ws, cs, s1, r1, dcs, wk⟩ p hp
    obtain ⟨sf, rf⟩ := fz_ok hm r1 is
    have dcs := sf.drs r1 dcs
    have s1 := s1.trans sf
    have r1 := rf
    generalize fzS F.mine ρ1 is = ρ1 at h s1 r1 dcs
    unfold lcGo at h
    split at h
    case isFalse => exact h.elim
    rename_i hcw
    -- the new list is laid
    have x1 : Ext H1 (upd H1 p (.lst [])) := ext_upd hp
    have r2 := r1.more x1 hp ⟨_, upd_same⟩
    obtain ⟨r3, o3⟩ := r2.wipe hcw
    have sg0 : SG ρ1 σ H1 (clearS ρ1 is) (L2.wipe σ is) (upd H1 p (.lst [])) := x1.sg.trans o3.sg
    let turn := lcTurn (fun ρ => evTs F ifs ρ) (fun ρ => evE F false elt ρ) tg
    refine ⟨fun k m H => k + m = ds.length ∧ ∃ acc ρi, LcW C T ρ1 σ H1 is p ws cs acc ρi H ∧ After C W T ρ σ H0 ((lcLoop turn (ds.drop k) acc ρi).bind (lcEnd ρ1 is)) (EPost C T ρ σ H0) Q, ⟨ds.length, by omega, [], _, ⟨r3, ⟨[], upd_same, .nil⟩, sg0.drs1 r1 hp dcs, sg0⟩, h⟩, ?_⟩
    rintro k m H ⟨hkm, acc, ρi, w, hr⟩
    cases m with
    | zero =>
      have hk : k = ds.length := by omega
      subst hk
      refine .inl ⟨wk.stop _ _ w.held, ?_⟩
      rw [List.drop_length] at hr
      simp only [lcLoop, Rs.bind_ok] at hr
      unfold lcEnd at hr
      split at hr
      case isFalse => exact hr.elim
      rename_i hcw2
      have old : ∀ i ∈ is, ρ1[i]? = some .un ∨ ∃ d v, ρ1[i]? = some (.val d) ∧ σ[i]? = some (some v) ∧ Dr C.K (Reg C (p :: T) ρi (L2.wipe σ is)) H v d := fun i hi => by
        have : ∀ is : List Nat, canWipe ρ1 is = true → i ∈ is → calmS ρ1 i = true := by
          intro is
          induction is with
          | nil => intro _ h; cases h
          | cons j is ih =>
            intro h hj
            simp only [canWipe, Bool.and_eq_true] at h
            rcases List.mem_cons.mp hj with z | z
            · subst z; exact h.1
            · exact ih h.2 z
        rcases calm_at (this is hcw hi) with z | ⟨d, z⟩
        · exact .inl z
        · obtain ⟨v, k1, k2⟩ := r1.val i d z
          exact .inr ⟨d, v, z, k1, w.sg.dr1 r1 hp k2⟩
      obtain ⟨r5, o5⟩ := w.rep.back (σ0 := σ) hcw2 old
      rw [putBackS_wipe] at r5 o5
      have sg2 : SG ρ1 σ H1 (putBack ρ1 ρi is) σ H := w.sg.trans o5.sg
      obtain ⟨vs, k1, k2⟩ := w.at_
      refine hr (.ref p) H ⟨s1.trans sg2.step, r5, ⟨p, rfl, List.mem_cons_self, rfl, vs, k1, o5.drs k2⟩, fun a ha => ?_⟩
      have : a = p := by simpa [tmps] using ha
      subst this
      exact s1.none hp
    | succ m =>
      have hk : k < ds.length := by omega
      refine .inr ⟨wk.go _ _ _ w.held hk, fun H' => ∃ acc' ρi', LcW C T ρ1 σ H1 is p ws cs acc' ρi' H' ∧ After C W T ρ σ H0 ((lcLoop turn (ds.drop (k + 1)) acc' ρi').bind (lcEnd ρ1 is)) (EPost C T ρ σ H0) Q, fun H' ⟨acc', ρi', w', hr'⟩ => ⟨m, Nat.lt_succ_self m, by omega, acc', ρi', w', hr'⟩, fun x H2 hy => ?_⟩
      have hd : ds[k]? = some ds[k] := List.getElem?_eq_getElem hk
      have hdr : ds.drop k = ds[k] :: ds.drop (k + 1) := List.drop_eq_getElem_cons hk
      generalize ds[k] = dk at hd hdr
      rw [hdr] at hr
      simp only [lcLoop] at hr
      obtain ⟨x2, dx⟩ := wk.yld _ _ _ _ _ _ _ _ w.rep w.held hd hy
      have rr := w.rep.ext x2
      have sgx : SG ρi (L2.wipe σ is) H ρi (L2.wipe σ is) H2 := x2.sg
      -- the names are bound
      cases qb : bindT tg dk ρi with
      | none =>
        have : turn dk ρi = .no := by
          show lcTurn _ _ _ _ _ = _
          unfold lcTurn
          rw [qb]
        rw [this] at hr
        exact hr.elim
      | some ρ2 =>
        have ht2 : turn dk ρi = (evTs F ifs ρ2).bind fun b ρ2 => if b then (evE F false elt ρ2).bind fun y ρ3 => match derf ρ3 y with
            | some d => if y.keeps && canWipe ρ3 (slotsT tg) then .ok (some d) (clearS ρ3 (slotsT tg)) else .no
            | none => .no
          else if canWipe ρ2 (slotsT tg) then .ok none (clearS ρ2 (slotsT tg)) else .no := by
          show lcTurn _ _ _ _ _ = _
          unfold lcTurn
          rw [qb] <;> rfl
        rw [hset] at ht2
        rw [ht2] at hr
        refine bind_ok qb rr dx fun σ2 r6 o6 sb => ?_
        rw [hset] at sb
        have wp := wipe_same sb
        refine ⟨wp, p :: T, ρ2, r6, ?_⟩
        cases qt : evTs F ifs ρ2 with
        | no => rw [qt] at hr; exact hr.elim
        | exc c d ρ' => rw [qt] at hr; exact hr.elim
        | ok b ρ3 =>
          rw [qt] at hr
          simp only [Rs.bind_ok] at hr
          intro b' H3 ⟨eb, s7, r7⟩
          subst eb
          -- what is left alone so far
          have sg7 : SG ρi (L2.wipe σ is) H ρ3 σ2 H3 := (sgx.trans o6.sg).trans s7.sg
          cases b' with
          | false =>
            simp only [Bool.false_eq_true, if_false] at hr ⊢
            by_cases hw3 : canWipe ρ3 is = true
            · rw [if_pos hw3] at hr
              obtain ⟨r9, o9⟩ := r7.wipe hw3
              rw [wp] at r9 o9
              exact ⟨acc, _, w.step (sg7.trans o9.sg) r9, hr⟩
            · rw [if_neg hw3] at hr
              exact hr.elim
          | true =>
            simp only [if_true] at hr ⊢
            refine ⟨p :: T, ρ3, r7, ?_⟩
            cases qe : evE F false elt ρ3 with
            | no => rw [qe] at hr; exact hr.elim
            | exc c d ρ' => rw [qe] at hr; exact hr.elim
            | ok y ρ4 =>
              rw [qe] at hr
              simp only [Rs.bind_ok] at hr
              intro v H4 ⟨s8, r8, q8, f8⟩
              cases qd : derf ρ4 y with
              | none => rw [qd] at hr; exact hr.elim
              | some d =>
                rw [qd] at hr
                simp only at hr
                by_cases hw : (y.keeps && canWipe ρ4 is) = true
                · rw [if_pos hw] at hr
                  simp only [Bool.and_eq_true] at hw
                  have dv := keep_v r7 r8 q8 f8 (noL_keeps hw.1) qd
                  obtain ⟨r9, o9⟩ := r8.lessL.wipe hw.2
                  rw [wp] at r9 o9
                  have w9 := w.step ((sg7.trans s8.sg).trans o9.sg) r9
                  obtain ⟨vs, k1, k2⟩ := w9.at_
                  obtain ⟨r10, kd⟩ := r9.tmpW (vs := vs ++ [v]) List.mem_cons_self k1
                  have kds : ∀ {us : List V} {es : List D}, Drs C.K (Reg C (p :: T) (clearS ρ4 is) (L2.wipe σ is)) H4 us es → Drs C.K (Reg C (p :: T) (clearS ρ4 is) (L2.wipe σ is)) (upd H4 p (.lst (vs ++ [v]))) us es := by
                    intro us
                    induction us with
                    | nil => intro es q; cases q; exact .nil
                    | cons u us ih =>
                      intro es q
                      cases q with
                      | cons q1 q2 => exact .cons (kd q1) (ih q2)
                  simp only at hr
                  split at hr
                  case isFalse => exact hr.elim
                  rename_i hz
                  refine ⟨vs, k1, ?_, acc ++ [d], clearS ρ4 is, ⟨r10, ⟨vs ++ [v], upd_same, (kds k2).append (Drs.one (kd (o9.dr dv)))⟩, kds w9.held, w9.sg.wr hp⟩, hr⟩
                  rw [k2.length]
                  exact of_decide_eq_true hz
                · rw [if_neg hw] at hr
                  exact hr.elim
theorem lc_E {X : Cx} (G : Good X C F W g) {elt it : ME} {tg : MT} {ifs : List ME} {u : Bool} {e t i : Expr} {fs : List Expr} {sc2 : Scope} {pos : Pos} (ht : chkT X.N sc2 true tg t = true) (hb : blkC X.N X.env.scope sc2 (ownOf X.N (slotsT tg)) = true)
    (hi : PI X t i (rdI C F W it)) (hfold : ∀ x, foldedSetIterable i X.env x = pure x)
    (hg : ∀ (s : Shared) (H : Hp) (A : Addr) (cl : List (Str × Addr)) (fp : List Addr), PG (X.blk s H sc2 (compEnvC sc2 cl A X.env) fp) t (gTg C.K tg))
    (hts : ∀ (s : Shared) (H : Hp) (A : Addr) (cl : List (Str × Addr)) (fp : List Addr), PTs (X.blk s H sc2 (compEnvC sc2 cl A X.env) fp) fs (rdTs C F WF ifs))
    (he : ∀ (s : Shared) (H : Hp) (A : Addr) (cl : List (Str × Addr)) (fp : List Addr), PE (X.blk s H sc2 (compEnvC sc2 cl A X.env) fp) e (rdE C F WF false elt)) :
    PE X (.ListComp e [⟨t, i, fs, 0⟩] sc2 pos) (rdE C F W u (.lc elt tg it ifs)) := imp_E (pe_lc G.calm G.nd hi (blkOk_by hb) hg hts he hfold) (lc_rd G.mine ht)
end
end Own

/-! part Own15L -/
namespace Own
open PySem PySem.Spec L2
section
variable {α β γ : Type} {C : Cn} {F : Fns} {W : WX} {g : Gi} {T L : List Addr} {ρ ρ' ρ1 ρ2 ρ3 : Rho} {σ σ' σ1 σ2 : St} {H H' H1 H2 H3 H4 : Hp} {x y : VR} {v w : V} {d e : D}
structure LcV (C : Cn) (T : List Addr) (ρ0 : Rho) (σ0 : St) (H0 : Hp) (τ : St) (p : Addr) (ws : List V) (cs acc : List D) (ρi : Rho) (H : Hp) : Prop where
  rep : Rep C (p :: T) ρi τ H
  at_ : ∃ vs, H p = some (.lst vs) ∧ Drs C.K (Reg C (p :: T) ρi τ) H vs acc
  held : Drs C.K (Reg C (p :: T) ρi τ) H ws cs
  sg : SG ρ0 σ0 H0 ρi τ H
theorem LcV.step {ρ0 : Rho} {σ0 τ τ' : St} {H0 : Hp} {p : Addr} {ws : List V} {cs acc : List D} {ρi ρi' : Rho} (w : LcV C T ρ0 σ0 H0 τ p ws cs acc ρi H) (s : SG ρi τ H ρi' τ' H') (r' : Rep C (p :: T) ρi' τ' H') : LcV C T ρ0 σ0 H0 τ' p ws cs acc ρi' H' := by
  obtain ⟨vs, k1, k2⟩ := w.at_
  exact ⟨r', ⟨vs, s.keep p _ k1 fun o => w.rep.ownT p o List.mem_cons_self, s.drs w.rep k2⟩, s.drs w.rep w.held, w.sg.trans s⟩
/-- the turns of a clause's walk, where the list that is filled stands at p -/
theorem lc_in {elt : ME} {tg1 : MT} {ifs1 : List ME} {is1 : List Nat} {J1 : It} {ws1 : List V} {cs1 ds1 acc0 : List D} {p : Addr} {K : List D → Rho → Rs γ} {Nx : Hp → Prop} {Z : Rs γ → Prop} {ρ0 : Rho} {σ0 : St} {H0 : Hp} (hset : slotsT tg1 = is1) (hp : H0 p = none) (sgA : SG ρ0 σ0 H0 ρ3 σ2 H4)
    (r1 : Rep C (p :: T) ρ3 σ2 H4) (at0 : ∃ vs, H4 p = some (.lst vs) ∧ Drs C.K (Reg C (p :: T) ρ3 σ2) H4 vs acc0) (dcs : Drs C.K (Reg C (p :: T) ρ3 σ2) H4 ws1 cs1) (wk : WalkD C J1 ws1 cs1 ds1) (hcw : canWipe ρ3 is1 = true) (zno : ¬ Z .no)
    (h : Z ((lcLoop (lcTurn (fun ρ => evTs F ifs1 ρ) (fun ρ => evE F false elt ρ) tg1) ds1 acc0 (clearS ρ3 is1)).bind K))
    (fin : ∀ acc ρi H, LcV C T ρ0 σ0 H0 (L2.wipe σ2 is1) p ws1 cs1 acc ρi H → Z (K acc ρi) → Nx H) :
    ∃ W1 : Nat → Nat → Hp → Prop, (∃ m, W1 0 m H4) ∧ ∀ j k H, W1 j k H → (J1.stop j H ∧ Nx H) ∨ (J1.go j H ∧ ∃ Nx1 : Hp → Prop, (∀ H', Nx1 H' → ∃ k', k' < k ∧ W1 (j + 1) k' H') ∧ ∀ x H', J1.yld j H x H' → gTg C.K tg1 x (L2.wipe σ2 is1) H' fun σ3 H5 => L2.wipe σ3 is1 = L2.wipe σ2 is1 ∧ rdTs C F WF ifs1 σ3 H5 fun b H6 =>
        if b = true then rdE C F WF false elt σ3 H6 fun y H7 => ∃ acc, H7 p = some (.lst acc) ∧ acc.length < sizeLine ∧ Nx1 (upd H7 p (.lst (acc ++ [y]))) else Nx1 H6) := by
  obtain ⟨r3, o3⟩ := r1.wipe hcw
  have sg0 : SG ρ0 σ0 H0 (clearS ρ3 is1) (L2.wipe σ2 is1) H4 := sgA.trans o3.sg
  let turn := lcTurn (fun ρ => evTs F ifs1 ρ) (fun ρ => evE F false elt ρ) tg1
  have at1 : ∃ vs, H4 p = some (.lst vs) ∧ Drs C.K (Reg C (p :: T) (clearS ρ3 is1) (L2.wipe σ2 is1)) H4 vs acc0 := by
    obtain ⟨vs, k1, k2⟩ := at0
    exact ⟨vs, k1, o3.drs k2⟩
  refine ⟨fun k m H => k + m = ds1.length ∧ ∃ acc ρi, LcV C T ρ0 σ0 H0 (L2.wipe σ2 is1) p ws1 cs1 acc ρi H ∧ Z ((lcLoop turn (ds1.drop k) acc ρi).bind K), ⟨ds1.length, by omega, acc0, _, ⟨r3, at1, o3.drs dcs, sg0⟩, h⟩, ?_⟩
  rintro k m H ⟨hkm, acc, ρi, w, hr⟩
  cases m with
  | zero =>
    have hk : k = ds1.length := by omega
    subst hk
    refine .inl ⟨wk.stop _ _ w.held, ?_⟩
    rw [List.drop_length] at hr
    simp only [lcLoop, Rs.bind_ok] at hr
    exact fin acc ρi H w hr
  | succ m =>
    have hk : k < ds1.length := by omega
    refine .inr ⟨wk.go _ _ _ w.held hk, fun H' => ∃ acc' ρi', LcV C T ρ0 σ0 H0 (L2.wipe σ2 is1) p ws1 cs1 acc' ρi' H' ∧ Z ((lcLoop turn (ds1.drop (k + 1)) acc' ρi').bind K), fun H' ⟨acc', ρi', w', hr'⟩ => ⟨m, Nat.lt_succ_self m, by omega, acc', ρi', w', hr'⟩, fun x H2 hy => ?_⟩
    have hd : ds1[k]? = some ds1[k] := List.getElem?_eq_getElem hk
    have hdr : ds1.drop k = ds1[k] :: ds1.drop (k + 1) := List.drop_eq_getElem_cons hk
    generalize ds1[k] = dk at hd hdr
    rw [hdr] at hr
    simp only [lcLoop] at hr
    obtain ⟨x2, dx⟩ := wk.yld _ _ _ _ _ _ _ _ w.rep w.held hd hy
    have rr := w.rep.ext x2
    have sgx : SG ρi (L2.wipe σ2 is1) H ρi (L2.wipe σ2 is1) H2 := x2.sg
    cases qb : bindT tg1 dk ρi with
    | none =>
      have : turn dk ρi = .no := by
        show lcTurn _ _ _ _ _ = _
        unfold lcTurn
        rw [qb]
      rw [this] at hr
      exact (zno hr).elim
    | some ρ2 =>
      have ht2 : turn dk ρi = (evTs F ifs1 ρ2).bind fun b ρ2 => if b then (evE F false elt ρ2).bind fun y ρ3 => match derf ρ3 y with
          | some d => if y.keeps && canWipe ρ3 (slotsT tg1) then .ok (some d) (clearS ρ3 (slotsT tg1)) else .no
          | none => .no
        else if canWipe ρ2 (slotsT tg1) then .ok none (clearS ρ2 (slotsT tg1)) else .no := by
        show lcTurn _ _ _ _ _ = _
        unfold lcTurn
        rw [qb] <;> rfl
      rw [hset] at ht2
      rw [ht2] at hr
      refine bind_ok qb rr dx fun σ3 r6 o6 sb => ?_
      rw [hset] at sb
      have wp := wipe_same sb
      refine ⟨wp, p :: T, ρ2, r6, ?_⟩
      cases qt : evTs F ifs1 ρ2 with
      | no => rw [qt] at hr; exact (zno hr).elim
      | exc c d ρ' => rw [qt] at hr; exact (zno hr).elim
      | ok b ρ3' =>
        rw [qt] at hr
        simp only [Rs.bind_ok] at hr
        intro b' H3 ⟨eb, s7, r7⟩
        subst eb
        have sg7 : SG ρi (L2.wipe σ2 is1) H ρ3' σ3 H3 := (sgx.trans o6.sg).trans s7.sg
        cases b' with
        | false =>
          simp only [Bool.false_eq_true, if_false] at hr ⊢
          by_cases hw3 : canWipe ρ3' is1 = true
          · rw [if_pos hw3] at hr
            obtain ⟨r9, o9⟩ := r7.wipe hw3
            rw [wp] at r9 o9
            exact ⟨acc, _, w.step (sg7.trans o9.sg) r9, hr⟩
          · rw [if_neg hw3] at hr
            exact (zno hr).elim
        | true =>
          simp only [if_true] at hr ⊢
          refine ⟨p :: T, ρ3', r7, ?_⟩
          cases qe : evE F false elt ρ3' with
          | no => rw [qe] at hr; exact (zno hr).elim
          | exc c d ρ' => rw [qe] at hr; exact (zno hr).elim
          | ok y ρ4 =>
            rw [qe] at hr
            simp only [Rs.bind_ok] at hr
            intro v H4' ⟨s8, r8, q8, f8⟩
            cases qd : derf ρ4 y with
            | none => rw [qd] at hr; exact (zno hr).elim
            | some d =>
              rw [qd] at hr
              simp only at hr
              by_cases hw : (y.keeps && canWipe ρ4 is1) = true
              · rw [if_pos hw] at hr
                simp only [Bool.and_eq_true] at hw
                have dv := keep_v r7 r8 q8 f8 (noL_keeps hw.1) qd
                obtain ⟨r9, o9⟩ := r8.lessL.wipe hw.2
                rw [wp] at r9 o9
                have w9 := w.step ((sg7.trans s8.sg).trans o9.sg) r9
                obtain ⟨vs, k1, k2⟩ := w9.at_
                obtain ⟨r10, kd⟩ := r9.tmpW (vs := vs ++ [v]) List.mem_cons_self k1
                have kds : ∀ {us : List V} {es : List D}, Drs C.K (Reg C (p :: T) (clearS ρ4 is1) (L2.wipe σ2 is1)) H4' us es → Drs C.K (Reg C (p :: T) (clearS ρ4 is1) (L2.wipe σ2 is1)) (upd H4' p (.lst (vs ++ [v]))) us es := by
                  intro us
                  induction us with
                  | nil => intro es q; cases q; exact .nil
                  | cons u us ih =>
                    intro es q
                    cases q with
                    | cons q1 q2 => exact .cons (kd q1) (ih q2)
                simp only at hr
                split at hr
                case isFalse => exact (zno hr).elim
                rename_i hz
                refine ⟨vs, k1, ?_, acc ++ [d], clearS ρ4 is1, ⟨r10, ⟨vs ++ [v], upd_same, (kds k2).append (Drs.one (kd (o9.dr dv)))⟩, kds w9.held, w9.sg.wr hp⟩, hr⟩
                have : vs.length = acc.length := k2.length
                rw [this]
                exact of_decide_eq_true hz
              · rw [if_neg hw] at hr
                exact (zno hr).elim
theorem lc2_eq {u : Bool} {elt it it1 : ME} {tg tg1 : MT} {ifs ifs1 : List ME} : evE F u (.lc2 elt tg it ifs tg1 it1 ifs1) ρ = (evI F it ρ).bind fun ds ρ1 => lcGo2 (lcTurn2 (fun ρ => evTs F ifs ρ) (fun ρ => evI F it1 ρ) (lcTurn (fun ρ => evTs F ifs1 ρ) (fun ρ => evE F false elt ρ) tg1) tg (slotsT tg ++ slotsT tg1) (slotsT tg1)) (slotsT tg ++ slotsT tg1) ds (fzS F.mine ρ1 (slotsT tg ++ slotsT tg1)) := by
  have key : ∀ (r : Rs (List D)) (f : Rho → Rs (List D)), f = (fun ρ => evI F it1 ρ) → (r.bind fun ds ρ1 => lcGo2 (lcTurn2 (fun ρ => evTs F ifs ρ) f (lcTurn (fun ρ => evTs F ifs1 ρ) (fun ρ => evE F false elt ρ) tg1) tg (slotsT tg ++ slotsT tg1) (slotsT tg1)) (slotsT tg ++ slotsT tg1) ds (fzS F.mine ρ1 (slotsT tg ++ slotsT tg1))) = r.bind fun ds ρ1 => lcGo2 (lcTurn2 (fun ρ => evTs F ifs ρ) (fun ρ => evI F it1 ρ) (lcTurn (fun ρ => evTs F ifs1 ρ) (fun ρ => evE F false elt ρ) tg1) tg (slotsT tg ++ slotsT tg1) (slotsT tg1)) (slotsT tg ++ slotsT tg1) ds (fzS F.mine ρ1 (slotsT tg ++ slotsT tg1)) := fun r f e => by rw [e]
  cases it <;> (rw [evE] <;> first | exact key _ _ (by funext ρ; cases it1 <;> rfl) | (intros; rename_i h; cases h))
theorem SameBut.more {is is' : List Nat} (h : SameBut is σ σ') (l : ∀ i ∈ is, i ∈ is') : SameBut is' σ σ' := ⟨h.1, fun j hj => h.2 j fun z => hj (l j z)⟩
theorem wipe_wipe {is is1 : List Nat} (h : SameBut is (L2.wipe σ is) σ2) (l : ∀ i ∈ is1, i ∈ is) : L2.wipe (L2.wipe σ2 is1) is = L2.wipe σ is := by
  refine wipe_same ⟨?_, fun j hj => ?_⟩
  · rw [wipe_length]; exact h.1
  · rw [wipe_out fun z => hj (l j z), h.2 j hj]
def nextL (turn : D → List D → Rho → Rs (List D)) (rest : List D) (fin : List D → Rho → Rs VR) (rs : Rs (List D)) : Rs VR := (match rs with
  | .ok a ρ => lcLoop2 turn rest a ρ
  | _ => .no).bind fin
theorem lc2_rd {N : List Str} {sc : Scope} {c : Bool} {elt it it1 : ME} {tg tg1 : MT} {ifs ifs1 : List ME} {u : Bool} {t t1 : Expr} (hm : ∀ i a, (i, a) ∈ C.lent → F.mine.contains i = true) (ht : chkT N sc c tg t = true) (ht1 : chkT N sc c tg1 t1 = true) : ∀ σ H Q, rdE C F W u (.lc2 elt tg it ifs tg1 it1 ifs1) σ H Q →
    tLc2 (rdI C F W it) (gTg C.K tg) (rdTs C F WF ifs) (rdI C F WF it1) (gTg C.K tg1) (rdTs C F WF ifs1) (rdE C F WF false elt) ((ownOf N (slotsT tg ++ slotsT tg1)).map (·.2)) (slotsT tg1) σ H Q := fun σ H0 Q ⟨T, ρ, r, h⟩ => by
  rw [lc2_eq] at h
  rw [chk_own (fun i hi => (List.mem_append.mp hi).elim (chkT_slots ht i) (chkT_slots ht1 i))]
  have hsub : ∀ i ∈ slotsT tg, i ∈ slotsT tg ++ slotsT tg1 := fun i hi => List.mem_append_left _ hi
  have hsub1 : ∀ i ∈ slotsT tg1, i ∈ slotsT tg ++ slotsT tg1 := fun i hi => List.mem_append_right _ hi
  generalize hset1 : slotsT tg1 = is1 at h hsub hsub1
  generalize hsett : slotsT tg ++ is1 = is at h hsub hsub1
  refine ⟨T, ρ, r, ?_⟩
  cases q : evI F it ρ with
  | no => rw [q] at h; exact h
  | exc c d ρ' => rw [q] at h; exact h
  | ok ds ρ1 =>
    rw [q] at h
    simp only [Rs.bind_ok] at h
    intro J H1 ⟨ws, cs, s1, r1, dcs, wk⟩ p hp
    obtain ⟨sf, rf⟩ := fz_ok hm r1 is
    have dcs := sf.drs r1 dcs
    have s1 := s1.trans sf
    have r1 := rf
    generalize fzS F.mine ρ1 is = ρ1 at h s1 r1 dcs
    unfold lcGo2 at h
    split at h
    case isFalse => exact h.elim
    rename_i hcw
    have x1 : Ext H1 (upd H1 p (.lst [])) := ext_upd hp
    have r2 := r1.more x1 hp ⟨_, upd_same⟩
    obtain ⟨r3, o3⟩ := r2.wipe hcw
    have sg0 : SG ρ1 σ H1 (clearS ρ1 is) (L2.wipe σ is) (upd H1 p (.lst [])) := x1.sg.trans o3.sg
    let turn1 := lcTurn (fun ρ => evTs F ifs1 ρ) (fun ρ => evE F false elt ρ) tg1
    let turn := lcTurn2 (fun ρ => evTs F ifs ρ) (fun ρ => evI F it1 ρ) turn1 tg is is1
    refine ⟨fun k m H => k + m = ds.length ∧ ∃ acc ρi, LcV C T ρ1 σ H1 (L2.wipe σ is) p ws cs acc ρi H ∧ After C W T ρ σ H0 ((lcLoop2 turn (ds.drop k) acc ρi).bind (lcEnd ρ1 is)) (EPost C T ρ σ H0) Q, ⟨ds.length, by omega, [], _, ⟨r3, ⟨[], upd_same, .nil⟩, sg0.drs1 r1 hp dcs, sg0⟩, h⟩, ?_⟩
    rintro k m H ⟨hkm, acc, ρi, w, hr⟩
    cases m with
    | zero =>
      have hk : k = ds.length := by omega
      subst hk
      refine .inl ⟨wk.stop _ _ w.held, ?_⟩
      rw [List.drop_length] at hr
      simp only [lcLoop2, Rs.bind_ok] at hr
      unfold lcEnd at hr
      split at hr
      case isFalse => exact hr.elim
      rename_i hcw2
      have old : ∀ i ∈ is, ρ1[i]? = some .un ∨ ∃ d v, ρ1[i]? = some (.val d) ∧ σ[i]? = some (some v) ∧ Dr C.K (Reg C (p :: T) ρi (L2.wipe σ is)) H v d := fun i hi => by
        have : ∀ is : List Nat, canWipe ρ1 is = true → i ∈ is → calmS ρ1 i = true := by
          intro is
          induction is with
          | nil => intro _ h; cases h
          | cons j is ih =>
            intro h hj
            simp only [canWipe, Bool.and_eq_true] at h
            rcases List.mem_cons.mp hj with z | z
            · subst z; exact h.1
            · exact ih h.2 z
        rcases calm_at (this is hcw hi) with z | ⟨d, z⟩
        · exact .inl z
        · obtain ⟨v, k1, k2⟩ := r1.val i d z
          exact .inr ⟨d, v, z, k1, w.sg.dr1 r1 hp k2⟩
      obtain ⟨r5, o5⟩ := w.rep.back (σ0 := σ) hcw2 old
      rw [putBackS_wipe] at r5 o5
      have sg2 : SG ρ1 σ H1 (putBack ρ1 ρi is) σ H := w.sg.trans o5.sg
      obtain ⟨vs, k1, k2⟩ := w.at_
      refine hr (.ref p) H ⟨s1.trans sg2.step, r5, ⟨p, rfl, List.mem_cons_self, rfl, vs, k1, o5.drs k2⟩, fun a ha => ?_⟩
      have : a = p := by simpa [tmps] using ha
      subst this
      exact s1.none hp
    | succ m =>
      have hk : k < ds.length := by omega
      refine .inr ⟨wk.go _ _ _ w.held hk, fun H' => ∃ acc' ρi', LcV C T ρ1 σ H1 (L2.wipe σ is) p ws cs acc' ρi' H' ∧ After C W T ρ σ H0 ((lcLoop2 turn (ds.drop (k + 1)) acc' ρi').bind (lcEnd ρ1 is)) (EPost C T ρ σ H0) Q, fun H' ⟨acc', ρi', w', hr'⟩ => ⟨m, Nat.lt_succ_self m, by omega, acc', ρi', w', hr'⟩, fun x H2 hy => ?_⟩
      have hd : ds[k]? = some ds[k] := List.getElem?_eq_getElem hk
      have hdr : ds.drop k = ds[k] :: ds.drop (k + 1) := List.drop_eq_getElem_cons hk
      generalize ds[k] = dk at hd hdr
      rw [hdr] at hr
      simp only [lcLoop2] at hr
      obtain ⟨x2, dx⟩ := wk.yld _ _ _ _ _ _ _ _ w.rep w.held hd hy
      have rr := w.rep.ext x2
      have sgx : SG ρi (L2.wipe σ is) H ρi (L2.wipe σ is) H2 := x2.sg
      cases qb : bindT tg dk ρi with
      | none =>
        have : turn dk acc ρi = .no := by
          show lcTurn2 _ _ _ _ _ _ _ _ _ = _
          unfold lcTurn2
          rw [qb]
        rw [this] at hr
        exact hr.elim
      | some ρ2 =>
        have ht2 : turn dk acc ρi = (evTs F ifs ρ2).bind fun b ρ2 => if b then (evI F it1 ρ2).bind fun ds1 ρ3 => if canWipe ρ3 is1 then (lcLoop turn1 ds1 acc (clearS ρ3 is1)).bind fun acc' ρ4 => if canWipe ρ4 is then .ok acc' (clearS ρ4 is) else .no
              else .no
            else if canWipe ρ2 is then .ok acc (clearS ρ2 is) else .no := by
          show lcTurn2 _ _ _ _ _ _ _ _ _ = _
          unfold lcTurn2
          rw [qb] <;> rfl
        rw [ht2] at hr
        refine bind_ok qb rr dx fun σ2 r6 o6 sb => ?_
        have sb' := sb.more hsub
        have wp := wipe_same sb'
        refine ⟨wp, p :: T, ρ2, r6, ?_⟩
        cases qt : evTs F ifs ρ2 with
        | no => rw [qt] at hr; exact hr.elim
        | exc c d ρ' => rw [qt] at hr; exact hr.elim
        | ok b ρ3 =>
          rw [qt] at hr
          simp only [Rs.bind_ok] at hr
          intro b' H3 ⟨eb, s7, r7⟩
          subst eb
          have sg7 : SG ρi (L2.wipe σ is) H ρ3 σ2 H3 := (sgx.trans o6.sg).trans s7.sg
          cases b' with
          | false =>
            simp only [Bool.false_eq_true, if_false] at hr ⊢
            by_cases hw3 : canWipe ρ3 is = true
            · rw [if_pos hw3] at hr
              obtain ⟨r9, o9⟩ := r7.wipe hw3
              rw [wp] at r9 o9
              exact ⟨acc, _, w.step (sg7.trans o9.sg) r9, hr⟩
            · rw [if_neg hw3] at hr
              exact hr.elim
          | true =>
            simp only [if_true] at hr ⊢
            refine ⟨p :: T, ρ3, r7, ?_⟩
            cases qi : evI F it1 ρ3 with
            | no => rw [qi] at hr; exact hr.elim
            | exc c d ρ' => rw [qi] at hr; exact hr.elim
            | ok ds1 ρ4 =>
              rw [qi] at hr
              simp only [Rs.bind_ok] at hr
              intro J1 H4 ⟨ws1, cs1, s8, r8, dcs1, wk1⟩
              have sg8 : SG ρi (L2.wipe σ is) H ρ4 σ2 H4 := sg7.trans s8.sg
              have w8 : LcV C T ρ1 σ H1 σ2 p ws cs acc ρ4 H4 := w.step sg8 r8
              by_cases hw4 : canWipe ρ4 is1 = true
              · rw [if_pos hw4] at hr
                refine lc_in (Z := fun rs => After C W T ρ σ H0 (nextL turn (ds.drop (k + 1)) (lcEnd ρ1 is) rs) (EPost C T ρ σ H0) Q) (K := fun acc' ρ4 => if canWipe ρ4 is then .ok acc' (clearS ρ4 is) else .no) hset1 hp w8.sg r8 w8.at_ dcs1 wk1 hw4 (fun z => z) hr fun acc' ρ5 H5 w5 hz => ?_
                by_cases hw5 : canWipe ρ5 is = true
                · simp only [if_pos hw5] at hz
                  obtain ⟨r9, o9⟩ := w5.rep.wipe hw5
                  rw [wipe_wipe sb' hsub1] at r9 o9
                  have w9 := w5.step o9.sg r9
                  exact ⟨acc', _, ⟨w9.rep, w9.at_, w9.sg.drs1 r1 hp dcs, w9.sg⟩, hz⟩
                · simp only [if_neg hw5] at hz
                  exact hz.elim
              · rw [if_neg hw4] at hr
                exact hr.elim
end
end Own

/-! part Own16 -/
namespace Own
open PySem PySem.Spec L2

section
variable {α β : Type} {C : Cn} {F : Fns} {W : WX} {g : Gi} {T L : List Addr} {ρ ρ' ρ1 ρ2 ρ3 : Rho} {σ σ' σ1 σ2 : St} {H H' H1 H2 H3 : Hp} {x y : VR} {v w : V} {d e : D}
theorem pt_ifE {X : Cx} {c a b : Expr} {p : Pos} {tc ta tb : TT} (hc : PT X c tc) (ha : PT X a ta) (hb : PT X b tb) : PT X (.IfExp c a b p) (fun σ H Q => tc σ H fun k H1 => if k = true then ta σ H1 Q else tb σ H1 Q) := by
  refine ⟨fun pins s σ H Q I h => ?_⟩
  rw [PySem.isTrue]
  refine wpAny_bind (thn (hc.run pins s σ H _ I h) fun d s1 ⟨H1, I1, q1⟩ => ?_)
  cases d with
  | true => exact ha.run pins s1 σ H1 Q I1 q1
  | false => exact hb.run pins s1 σ H1 Q I1 q1
theorem ife_T {X : Cx} {c a b : ME} {x y z : Expr} {p : Pos} (hc : PT X x (rdT C F W c)) (ha : PT X y (rdT C F W a)) (hb : PT X z (rdT C F W b)) : PT X (.IfExp x y z p) (rdT C F W (.ife c a b)) :=
  imp_T (pt_ifE hc ha hb) fun σ H Q h => by
    obtain ⟨T, ρ, r, h⟩ := rdT_iff.mp h
    rw [ife_eq, bind_bind] at h
    refine seq_T (L := []) .refl r h fun t ρ1 H1 s1 r1 h1 => ?_
    cases t with
    | true => exact rdT_iff.mpr ⟨T, ρ1, r1, After.up s1 h1 fun _ _ _ _ p => ⟨p.1, s1.trans p.2.1, p.2.2⟩⟩
    | false => exact rdT_iff.mpr ⟨T, ρ1, r1, After.up s1 h1 fun _ _ _ _ p => ⟨p.1, s1.trans p.2.1, p.2.2⟩⟩
structure Ok1 (X : Cx) (C : Cn) (F : Fns) (W : WX) (m : ME) (e : Expr) : Prop where
  val : ∀ u, PE X e (rdE C F W u m)
  t : PT X e (rdT C F W m)
theorem Ok1.of {X : Cx} {m : ME} {e : Expr} (h : ∀ u, PE X e (rdE C F W u m)) (he : ∀ whole, isTrue e X.env whole = (do let v ← whole; standAt e.pos; holding [v] (truthy v))) : Ok1 X C F W m e := ⟨h, val_T (h false) he⟩
structure OkL (X : Cx) (C : Cn) (F : Fns) (W : WX) (ms : List ME) (es : List Expr) : Prop where
  s : PA X es (rdL C W (evEs F ms))
  o : PA X es (rdL C W (evOs F ms))
  c : ∀ bs : List Bool, bs.length = ms.length → PA X es (rdL C W (evC F bs ms))
  ns : noStars es = true
  len : ms.length = es.length
  an : ∀ p, es ≠ [] → PE X (.BoolOp .And es p) (rdA C F W (evAnd F ms)) ∧ PW X (.BoolOp .And es p) (rdAT C F W (evAnd F ms))
  or_ : ∀ p, es ≠ [] → PE X (.BoolOp .Or es p) (rdA C F W (evOr F ms)) ∧ PW X (.BoolOp .Or es p) (rdAT C F W (evOr F ms))
  ts : ms.length ≤ 1 → PTs X es (rdTs C F W ms)
  vals : ∀ (i : Nat) (m : ME) (e : Expr), ms[i]? = some m → es[i]? = some e → PE X e (rdE C F W true m)
theorem OkL.one {X : Cx} {m : ME} {e : Expr} (z : OkL X C F W [m] [e]) : PE X e (rdE C F W true m) := z.vals 0 m e rfl rfl
theorem OkL.two {X : Cx} {m m2 : ME} {e e2 : Expr} (z : OkL X C F W [m, m2] [e, e2]) : PE X e (rdE C F W true m) ∧ PE X e2 (rdE C F W true m2) := ⟨z.vals 0 m e rfl rfl, z.vals 1 m2 e2 rfl rfl⟩
abbrev P1 (C : Cn) (F : Fns) (g : Gi) (m : ME) : Prop := ∀ (X : Cx) (W : WX), Good X C F W g → (∀ e, chkE g X.N X.env.scope m e = true → Ok1 X C F W m e) ∧ (∀ t i, chkI g X.N X.env.scope m t i = true → PI X t i (rdI C F W m))
abbrev P2 (C : Cn) (F : Fns) (g : Gi) (ms : List ME) : Prop := ∀ (X : Cx) (W : WX), Good X C F W g → (∀ es, chkEs g X.N X.env.scope ms es = true → OkL X C F W ms es) ∧
  (∀ ks, chkKs g X.N X.env.scope ms ks = true → ms.length = ks.length ∧ ks.all (·.arg.isSome) = true ∧ (ks.filterMap (·.arg)).length = ks.length ∧ ∀ bs : List Bool, bs.length = ms.length → PK X ks (rdL C W (evC F bs ms)))
abbrev P3 (C : Cn) (F : Fns) (g : Gi) (o : Option ME) : Prop := ∀ (X : Cx) (W : WX), Good X C F W g → ∀ e, chkO g X.N X.env.scope o e = true → PO X e (rdP C F W o)
theorem p2_nil : P2 C F g [] := fun X W G => by
  refine ⟨fun es h => ?_, fun ks h => ?_⟩
  · cases es with
    | cons e es => simp [chkEs] at h
    | nil => exact ⟨nil_L fun ρ => by unfold evEs; rfl, nil_L fun ρ => by unfold evOs; rfl, fun bs _ => nil_L fun ρ => by cases bs <;> (unfold evC; rfl), rfl, rfl, fun p h => absurd rfl h, fun p h => absurd rfl h, fun _ => nil_Ts, fun i m e h => by simp at h⟩
  · cases ks with
    | cons k ks => simp [chkKs] at h
    | nil => exact ⟨rfl, rfl, rfl, fun bs _ => nil_K fun ρ => by cases bs <;> (unfold evC; rfl)⟩
theorem p2_cons {m : ME} {ms : List ME} (h1 : P1 C F g m) (h2 : P2 C F g ms) : P2 C F g (m :: ms) := fun X W G => by
  refine ⟨fun es h => ?_, fun ks h => ?_⟩
  · cases es with
    | nil => simp [chkEs] at h
    | cons e es =>
      simp only [chkEs, Bool.and_eq_true] at h
      obtain ⟨⟨h3, h4⟩, h5⟩ := h
      have o1 := (h1 X W G).1 e h3
      have o2 := (h2 X W G).1 es h5
      refine ⟨?_, ?_, fun bs hl => ?_, ?_, ?_, fun p _ => ?_, fun p _ => ?_, fun hl => ?_, fun i m' e' hm he => ?_⟩
      · exact cons_L (u := false) VR.keeps h4 (fun ρ => by rw [evEs]) (o1.val false) o2.s
      · exact cons_L (u := true) (fun _ => true) h4 (fun ρ => by rw [evOs]; rfl) (o1.val true) o2.o
      · cases bs with
        | nil => simp at hl
        | cons b bs =>
          have hl' : bs.length = ms.length := by simpa using hl
          exact cons_L (u := b) (fun x => b || x.keeps) h4 (fun ρ => by rw [evC]) (o1.val b) (o2.c bs hl')
      · simp [noStars, h4, o2.ns]
      · simp [o2.len]
      · cases ms with
        | nil =>
          have : es = [] := by have := o2.len; cases es <;> simp at this <;> rfl
          subst this
          exact ⟨and1_E (o1.val false), and1_W o1.t⟩
        | cons m2 ms =>
          cases es with
          | nil => have := o2.len; simp at this
          | cons e2 es =>
            have z := o2.an p (by simp)
            exact ⟨and_E (o1.val false) z.1, and_W o1.t z.2⟩
      · cases ms with
        | nil =>
          have : es = [] := by have := o2.len; cases es <;> simp at this <;> rfl
          subst this
          exact ⟨or1_E (o1.val false), or1_W o1.t⟩
        | cons m2 ms =>
          cases es with
          | nil => have := o2.len; simp at this
          | cons e2 es =>
            have z := o2.or_ p (by simp)
            exact ⟨or_E (o1.val false) z.1, or_W o1.t z.2⟩
      · have : ms = [] := by cases ms <;> simp at hl <;> rfl
        subst this
        have : es = [] := by have := o2.len; cases es <;> simp at this <;> rfl
        subst this
        exact one_Ts o1.t
      · cases i with
        | zero => cases hm; cases he; exact o1.val true
        | succ i => exact o2.vals i m' e' (by simpa using hm) (by simpa using he)
  · cases ks with
    | nil => simp [chkKs] at h
    | cons k ks =>
      obtain ⟨nm, e, kp⟩ := k
      cases nm with
      | none => simp [chkKs] at h
      | some nm =>
        simp only [chkKs, Bool.and_eq_true] at h
        have o1 := (h1 X W G).1 e h.1
        obtain ⟨l1, l2, l3, o2⟩ := (h2 X W G).2 ks h.2
        refine ⟨by simp [l1], by simp [l2], by simpa using l3, fun bs hl => ?_⟩
        cases bs with
        | nil => simp at hl
        | cons b bs =>
          have hl' : bs.length = ms.length := by simpa using hl
          exact cons_K (u := b) (fun x => b || x.keeps) (fun ρ => by rw [evC]) (o1.val b) (o2 bs hl')
/-- an expression that is no loop's own form -/
def plainI : ME → Bool
  | .rng _ => false | .enum _ => false | .zip _ _ => false | .dky _ => false | _ => true
theorem p1_of {m : ME} (hm : plainI m = true) (h : ∀ (X : Cx) (W : WX), Good X C F W g → ∀ e, chkE g X.N X.env.scope m e = true → Ok1 X C F W m e) : P1 C F g m := fun X W G => by
  refine ⟨h X W G, fun t i hi => ?_⟩
  have hc : chkE g X.N X.env.scope m i = true := by
    unfold chkI at hi
    rw [Bool.and_eq_true] at hi
    exact hi.1
  exact seq_I G ((h X W G i hc).val false) fun ρ => by cases m <;> first | rfl | cases hm
theorem ok_no {X : Cx} {m : ME} {e : Expr} (h : ∀ u ρ, evE F u m ρ = .no) : Ok1 X C F W m e := by
  refine ⟨fun u => ⟨fun pins s σ H Q I ⟨T, ρ, r, q⟩ => ?_⟩, ⟨fun pins s σ H Q I q => ?_⟩⟩
  · rw [h] at q
    exact q.elim
  · obtain ⟨T, ρ, r, q⟩ := rdT_iff.mp q
    rw [h] at q
    exact q.elim
theorem p1_bin {o : Bop} {a b : ME} (ha : P1 C F g a) (hb : P1 C F g b) : P1 C F g (.bin o a b) := p1_of rfl fun X W G e h => by
  cases e <;> (try simp only [chkE] at h) <;> (try (cases h; done))
  simp only [Bool.and_eq_true] at h
  exact .of (fun u => bin_E G h.1.1 (((ha X W G).1 _ h.1.2).val true) (((hb X W G).1 _ h.2).val true)) fun _ => rfl
theorem p1_var {i : Nat} : P1 C F g (.var i) := p1_of rfl fun X W G e h => by
  cases e <;> (try simp only [chkE] at h) <;> (try (cases h; done))
  simp only [Bool.and_eq_true, beq_iff_eq] at h
  exact .of (fun u => var_E G h.1.1 h.1.2 h.2) fun _ => rfl
theorem p1_int {n : Int} : P1 C F g (.int n) := p1_of rfl fun X W G e h => by
  cases e <;> (try simp only [chkE] at h) <;> (try (cases h; done))
  rename_i v k p
  cases v <;> (try simp only [chkE] at h) <;> (try (cases h; done))
  simp only [beq_iff_eq] at h
  subst h
  exact .of (fun u => int_E) fun _ => rfl
theorem p1_bl {n : Bool} : P1 C F g (.bl n) := p1_of rfl fun X W G e h => by
  cases e <;> (try simp only [chkE] at h) <;> (try (cases h; done))
  rename_i v k p
  cases v <;> (try simp only [chkE] at h) <;> (try (cases h; done))
  simp only [beq_iff_eq] at h
  subst h
  exact .of (fun u => bl_E) fun _ => rfl
theorem p1_str {n : Str} : P1 C F g (.str n) := p1_of rfl fun X W G e h => by
  cases e <;> (try simp only [chkE] at h) <;> (try (cases h; done))
  rename_i v k p
  cases v <;> (try simp only [chkE] at h) <;> (try (cases h; done))
  have h := of_decide_eq_true h
  subst h
  exact .of (fun u => str_E) fun _ => rfl
theorem p1_non : P1 C F g .non := p1_of rfl fun X W G e h => by
  cases e <;> (try simp only [chkE] at h) <;> (try (cases h; done))
  rename_i v k p
  cases v <;> (try simp only [chkE] at h) <;> (try (cases h; done))
  exact .of (fun u => non_E) fun _ => rfl
theorem p1_glb {k : Nat} : P1 C F g (.glb k) := p1_of rfl fun X W G e h => by
  cases e <;> (try simp only [chkE] at h) <;> (try (cases h; done))
  simp only [Bool.and_eq_true, beq_iff_eq] at h
  exact .of (fun u => glb_E G h.1.1 h.1.2 h.2) fun _ => rfl
theorem p1_neg {a : ME} (ha : P1 C F g a) : P1 C F g (.neg a) := p1_of rfl fun X W G e h => by
  cases e <;> (try simp only [chkE] at h) <;> (try (cases h; done))
  rename_i o l p
  cases o <;> (try simp only [chkE] at h) <;> (try (cases h; done))
  exact .of (fun u => neg_E (((ha X W G).1 _ h).val true)) fun _ => rfl
theorem p1_notv {a : ME} (ha : P1 C F g a) : P1 C F g (.notv a) := p1_of rfl fun X W G e h => by
  cases e <;> (try simp only [chkE] at h) <;> (try (cases h; done))
  rename_i o l p
  cases o <;> (try simp only [chkE] at h) <;> (try (cases h; done))
  have z := (ha X W G).1 _ h
  exact ⟨fun u => notv_E (z.val false), notv_T z.t⟩
theorem p1_cmp {o : Cop} {a b : ME} (ha : P1 C F g a) (hb : P1 C F g b) : P1 C F g (.cmp o a b) := p1_of rfl fun X W G e h => by
  cases e <;> (try simp only [chkE] at h) <;> (try (cases h; done))
  rename_i l ops cs p
  rcases ops with _ | ⟨op, _ | ⟨op2, ops⟩⟩ <;> (try simp only [chkE] at h) <;> (try (cases h; done))
  rcases cs with _ | ⟨r, _ | ⟨r2, cs⟩⟩ <;> (try simp only [chkE] at h) <;> (try (cases h; done))
  simp only [Bool.and_eq_true] at h
  have z := ((ha X W G).1 _ h.1.1.2).val true
  have z2 := ((hb X W G).1 _ h.1.2).val true
  exact ⟨fun u => cmp_E G h.1.1.1 h.2 z z2, cmp_T G h.1.1.1 h.2 z z2⟩
theorem p1_isN {ng : Bool} {a : ME} (ha : P1 C F g a) : P1 C F g (.isN ng a) := p1_of rfl fun X W G e h => by
  cases e <;> (try simp only [chkE] at h) <;> (try (cases h; done))
  rename_i l ops cs p
  rcases ops with _ | ⟨op, _ | ⟨op2, ops⟩⟩ <;> (try simp only [chkE] at h) <;> (try (cases h; done))
  rcases cs with _ | ⟨r, _ | ⟨r2, cs⟩⟩ <;> (try simp only [chkE] at h) <;> (try (cases h; done))
  cases r <;> (try simp only [chkE] at h) <;> (try (cases h; done))
  rename_i v k p2
  cases v <;> (try simp only [chkE] at h) <;> (try (cases h; done))
  rw [Bool.and_eq_true] at h
  have z := ((ha X W G).1 _ h.2).val true
  exact ⟨fun u => isN_E h.1 z, isN_T h.1 z⟩
theorem p1_chn {o p : Cop} {a b c : ME} (ha : P1 C F g a) (hb : P1 C F g b) (hc : P1 C F g c) : P1 C F g (.chn o p a b c) := p1_of rfl fun X W G e h => by
  cases e <;> (try simp only [chkE] at h) <;> (try (cases h; done))
  rename_i l ops cs p
  rcases ops with _ | ⟨op, _ | ⟨op2, _ | ⟨op3, ops⟩⟩⟩ <;> (try simp only [chkE] at h) <;> (try (cases h; done))
  rcases cs with _ | ⟨r, _ | ⟨r2, _ | ⟨r3, cs⟩⟩⟩ <;> (try simp only [chkE] at h) <;> (try (cases h; done))
  simp only [Bool.and_eq_true] at h
  obtain ⟨⟨⟨⟨⟨h1, h2⟩, h3⟩, h4⟩, h5⟩, h6⟩ := h
  have z := ((ha X W G).1 _ h3).val true
  have z2 := ((hb X W G).1 _ h4).val true
  have z3 := ((hc X W G).1 _ h5).val true
  exact ⟨fun u => chn_E G h1 h2 h6 z z2 z3, chn_T G h1 h2 h6 z z2 z3⟩
theorem es_ne {m : ME} {ms : List ME} {es : List Expr} (h : (m :: ms).length = es.length) : es ≠ [] := fun z => by subst z; simp at h
theorem p1_andv {ms : List ME} (ha : P2 C F g ms) : P1 C F g (.andv ms) := p1_of rfl fun X W G e h => by
  cases e <;> (try simp only [chkE] at h) <;> (try (cases h; done))
  rename_i o es p
  cases o <;> (try simp only [chkE] at h) <;> (try (cases h; done))
  have z := (ha X W G).1 _ h
  by_cases hn : es = []
  · subst hn
    have : ms = [] := by have := z.len; cases ms <;> simp at this <;> rfl
    subst this
    refine ⟨fun u => ⟨fun pins s σ H Q I ⟨T, ρ, r, q⟩ => ?_⟩, ⟨fun pins s σ H Q I ⟨T, ρ, r, q⟩ => ?_⟩⟩ <;> (unfold evE evAnd at q; exact q.elim)
  · have z2 := z.an p hn
    refine ⟨fun u => imp_E z2.1 fun σ H Q ⟨T, ρ, r, q⟩ => ⟨T, ρ, r, ?_⟩, imp_T z2.2.pt fun σ H Q ⟨T, ρ, r, q⟩ => ⟨T, ρ, r, ?_⟩⟩ <;> (unfold evE at q; exact q)
theorem p1_orv {ms : List ME} (ha : P2 C F g ms) : P1 C F g (.orv ms) := p1_of rfl fun X W G e h => by
  cases e <;> (try simp only [chkE] at h) <;> (try (cases h; done))
  rename_i o es p
  cases o <;> (try simp only [chkE] at h) <;> (try (cases h; done))
  have z := (ha X W G).1 _ h
  by_cases hn : es = []
  · subst hn
    have : ms = [] := by have := z.len; cases ms <;> simp at this <;> rfl
    subst this
    refine ⟨fun u => ⟨fun pins s σ H Q I ⟨T, ρ, r, q⟩ => ?_⟩, ⟨fun pins s σ H Q I ⟨T, ρ, r, q⟩ => ?_⟩⟩ <;> (unfold evE evOr at q; exact q.elim)
  · have z2 := z.or_ p hn
    refine ⟨fun u => imp_E z2.1 fun σ H Q ⟨T, ρ, r, q⟩ => ⟨T, ρ, r, ?_⟩, imp_T z2.2.pt fun σ H Q ⟨T, ρ, r, q⟩ => ⟨T, ρ, r, ?_⟩⟩ <;> (unfold evE at q; exact q)
theorem p1_ife {a b c : ME} (ha : P1 C F g a) (hb : P1 C F g b) (hc : P1 C F g c) : P1 C F g (.ife a b c) := p1_of rfl fun X W G e h => by
  cases e <;> (try simp only [chkE] at h) <;> (try (cases h; done))
  simp only [Bool.and_eq_true] at h
  have z := (ha X W G).1 _ h.1.1
  have z2 := (hb X W G).1 _ h.1.2
  have z3 := (hc X W G).1 _ h.2
  exact ⟨fun u => ife_E z.t (z2.val u) (z3.val u), ife_T z.t z2.t z3.t⟩
theorem p1_tup {ms : List ME} (ha : P2 C F g ms) : P1 C F g (.tup ms) := p1_of rfl fun X W G e h => by
  cases e <;> (try simp only [chkE] at h) <;> (try (cases h; done))
  exact .of (fun u => tup_E ((ha X W G).1 _ h).s) fun _ => rfl
theorem p1_lst {ms : List ME} (ha : P2 C F g ms) : P1 C F g (.lst ms) := p1_of rfl fun X W G e h => by
  cases e <;> (try simp only [chkE] at h) <;> (try (cases h; done))
  exact .of (fun u => lst_E ((ha X W G).1 _ h).s) fun _ => rfl
theorem p1_ix {a b : ME} (ha : P1 C F g a) (hb : P1 C F g b) : P1 C F g (.ix a b) := p1_of rfl fun X W G e h => by
  cases e <;> (try simp only [chkE] at h) <;> (try (cases h; done))
  simp only [Bool.and_eq_true] at h
  exact .of (fun u => ix_E G h.2 (((ha X W G).1 _ h.1.1).val true) (((hb X W G).1 _ h.1.2).val true)) fun _ => rfl
theorem p1_sl {a : ME} {lo hi : Option ME} (ha : P1 C F g a) (hl : P3 C F g lo) (hh : P3 C F g hi) : P1 C F g (.sl a lo hi) := p1_of rfl fun X W G e h => by
  cases e <;> (try simp only [chkE] at h) <;> (try (cases h; done))
  rename_i l r p
  cases r <;> (try simp only [chkE] at h) <;> (try (cases h; done))
  rename_i lo' hi' st p2
  cases st <;> (try simp only [chkE] at h) <;> (try (cases h; done))
  simp only [Bool.and_eq_true] at h
  exact .of (fun u => sl_E G (((ha X W G).1 _ h.1.1).val true) (hl X W G _ h.1.2) (hh X W G _ h.2)) fun _ => rfl
theorem p1_call {f : Nat} {ms : List ME} (ha : P2 C F g ms) : P1 C F g (.call f ms) := p1_of rfl fun X W G e h => by
  cases e <;> (try simp only [chkE] at h) <;> (try (cases h; done))
  rename_i fe xs ks p
  cases fe <;> (try simp only [chkE] at h) <;> (try (cases h; done))
  cases ks <;> (try simp only [chkE] at h) <;> (try (cases h; done))
  rename_i x p2
  simp only [Bool.and_eq_true] at h
  obtain ⟨⟨⟨h1, h2⟩, h3⟩, h4⟩ := h
  have z := (ha X W G).1 _ h4
  cases hq : g.fns[f]? with
  | none => rw [hq] at h1; cases h1
  | some yp =>
    obtain ⟨y, ps⟩ := yp
    rw [hq] at h1
    cases xs with
    | nil => cases h1
    | cons e es =>
      have h1 : x = y ∧ ms.length = ps.length := by simpa using h1
      obtain ⟨h1, h5⟩ := h1
      subst h1
      have hl := (G.fns f x ps hq).1
      exact .of (fun u => call_E G hq h2 h3 z.ns (z.c _ (hl.trans h5.symm))) fun _ => rfl
theorem p1_callK {f : Nat} {ms kms : List ME} {inv : List Nat} (ha : P2 C F g ms) (hk : P2 C F g kms) : P1 C F g (.callK f ms kms inv) := p1_of rfl fun X W G e h => by
  cases e <;> (try simp only [chkE] at h) <;> (try (cases h; done))
  rename_i fe xs ks p
  cases fe <;> (try simp only [chkE] at h) <;> (try (cases h; done))
  rename_i x p2
  simp only [Bool.and_eq_true] at h
  obtain ⟨⟨⟨⟨⟨⟨h1, h2⟩, h3⟩, h4⟩, h5⟩, h6⟩, h7⟩ := h
  have z := (ha X W G).1 _ h4
  obtain ⟨l1, l2, l3, z2⟩ := (hk X W G).2 _ h5
  cases hq : g.fns[f]? with
  | none => rw [hq] at h1; cases h1
  | some yp =>
    obtain ⟨y, ps⟩ := yp
    rw [hq] at h1
    have h1 : x = y ∧ ms.length + kms.length = ps.length := by simpa using h1
    obtain ⟨h1, _⟩ := h1
    subst h1
    exact .of (fun u => callK_E G hq h2 h3 z.ns z.len l1 l2 (of_decide_eq_true h6) (by simpa using h7) l3 (z.c _ flagsK_length) (z2 _ flagsK_length)) fun _ => rfl
theorem p1_blt {b : Blt} {ms : List ME} (ha : P2 C F g ms) : P1 C F g (.blt b ms) := p1_of rfl fun X W G e h => by
  cases e <;> (try simp only [chkE] at h) <;> (try (cases h; done))
  rename_i fe xs ks p
  cases fe <;> (try simp only [chkE] at h) <;> (try (cases h; done))
  cases ks <;> (try simp only [chkE] at h) <;> (try (cases h; done))
  rename_i x p2
  simp only [Bool.and_eq_true] at h
  obtain ⟨⟨⟨⟨⟨h1, h2⟩, h3⟩, h4⟩, h5⟩, h6⟩ := h
  have z := (ha X W G).1 _ h4
  cases xs with
  | nil => simp [isEmptyL] at h5
  | cons e es => exact .of (fun u => blt_E G (of_decide_eq_true h1) h2 h3 h6 z.ns z.o) fun _ => rfl
theorem p1_isi {t : Ty} {a : ME} (ha : P1 C F g a) : P1 C F g (.isi t a) := p1_of rfl fun X W G e h => by
  cases e <;> (try simp only [chkE] at h) <;> (try (cases h; done))
  rename_i fe xs ks p
  cases fe <;> (try simp only [chkE] at h) <;> (try (cases h; done))
  rcases xs with _ | ⟨y, _ | ⟨z, _ | ⟨z2, xs⟩⟩⟩ <;> (try simp only [chkE] at h) <;> (try (cases h; done))
  cases z <;> (try simp only [chkE] at h) <;> (try (cases h; done))
  cases ks <;> (try simp only [chkE] at h) <;> (try (cases h; done))
  rename_i x p2 z p3
  simp only [Bool.and_eq_true] at h
  obtain ⟨⟨⟨⟨⟨⟨⟨⟨⟨h1, h2⟩, h3⟩, h4⟩, h5⟩, h6⟩, h7⟩, h8⟩, h9⟩, h10⟩ := h
  have e1 := of_decide_eq_true h1
  have e2 := of_decide_eq_true h2
  subst e1 e2
  exact .of (fun u => isi_E G h3 h4 h9 h10 h8 (((ha X W G).1 _ h7).val true)) fun _ => rfl
theorem p1_app {i : Nat} {a : ME} (ha : P1 C F g a) : P1 C F g (.app i a) := p1_of rfl fun X W G e h => by
  cases e <;> (try simp only [chkE] at h) <;> (try (cases h; done))
  rename_i fe xs ks p
  cases fe <;> (try simp only [chkE] at h) <;> (try (cases h; done))
  rename_i o m p2
  cases o <;> (try simp only [chkE] at h) <;> (try (cases h; done))
  rcases xs with _ | ⟨y, _ | ⟨z, xs⟩⟩ <;> (try simp only [chkE] at h) <;> (try (cases h; done))
  cases ks <;> (try simp only [chkE] at h) <;> (try (cases h; done))
  simp only [Bool.and_eq_true, beq_iff_eq] at h
  obtain ⟨⟨⟨⟨⟨⟨h1, h2⟩, h3⟩, h4⟩, h5⟩, h6⟩, h7⟩ := h
  have e1 := of_decide_eq_true h1
  subst e1
  exact .of (fun u => app_E G h2 h3 h4 (by simpa using h7) h6 (((ha X W G).1 _ h5).val false)) fun _ => rfl
theorem p1_ext {i : Nat} {a : ME} (ha : P1 C F g a) : P1 C F g (.ext i a) := p1_of rfl fun X W G e h => by
  cases e <;> (try simp only [chkE] at h) <;> (try (cases h; done))
  rename_i fe xs ks p
  cases fe <;> (try simp only [chkE] at h) <;> (try (cases h; done))
  rename_i o m p2
  cases o <;> (try simp only [chkE] at h) <;> (try (cases h; done))
  rcases xs with _ | ⟨y, _ | ⟨z, xs⟩⟩ <;> (try simp only [chkE] at h) <;> (try (cases h; done))
  cases ks <;> (try simp only [chkE] at h) <;> (try (cases h; done))
  simp only [Bool.and_eq_true, beq_iff_eq] at h
  obtain ⟨⟨⟨⟨⟨⟨h1, h2⟩, h3⟩, h4⟩, h5⟩, h6⟩, h7⟩ := h
  have e1 := of_decide_eq_true h1
  subst e1
  exact .of (fun u => ext_E G h2 h3 h4 (by simpa using h7) h6 (((ha X W G).1 _ h5).val true)) fun _ => rfl
theorem p1_pop {i : Nat} : P1 C F g (.pop i) := p1_of rfl fun X W G e h => by
  cases e <;> (try simp only [chkE] at h) <;> (try (cases h; done))
  rename_i fe xs ks p
  cases fe <;> (try simp only [chkE] at h) <;> (try (cases h; done))
  rename_i o m p2
  cases o <;> (try simp only [chkE] at h) <;> (try (cases h; done))
  rcases xs with _ | ⟨y, xs⟩ <;> (try simp only [chkE] at h) <;> (try (cases h; done))
  cases ks <;> (try simp only [chkE] at h) <;> (try (cases h; done))
  simp only [Bool.and_eq_true, beq_iff_eq] at h
  obtain ⟨⟨⟨⟨h1, h2⟩, h3⟩, h4⟩, h5⟩ := h
  have e1 := of_decide_eq_true h1
  subst e1
  exact .of (fun u => pop_E G h2 h3 h4 (by simpa using h5)) fun _ => rfl
/-! loops' forms -/
theorem p1_rng {ms : List ME} (ha : P2 C F g ms) : P1 C F g (.rng ms) := fun X W G => by
  refine ⟨fun e h => ok_no fun u ρ => by rw [evE], fun t i h => ?_⟩
  · cases i <;> (try simp only [chkI, chkE] at h) <;> (try (cases h; done))
    rename_i fe xs ks p
    cases fe <;> (try simp only [chkI, chkE] at h) <;> (try (cases h; done))
    cases ks <;> (try simp only [chkI, chkE] at h) <;> (try (cases h; done))
    simp only [Bool.and_eq_true] at h
    obtain ⟨⟨⟨⟨⟨h1, h2⟩, h3⟩, h4⟩, h5⟩, _⟩ := h
    have e1 := of_decide_eq_true h1
    subst e1
    have z := (ha X W G).1 _ h4
    have hn := z.ns
    have hl := z.len
    rcases ms with _ | ⟨m, _ | ⟨m2, _ | ⟨m3, ms⟩⟩⟩
    · exact ⟨fun pins s σ H R I ⟨T, ρ, r, q⟩ => q.elim⟩
    · rcases xs with _ | ⟨y, _ | ⟨y2, xs⟩⟩ <;> simp at hl
      simp only [noStars, Bool.and_eq_true] at hn
      exact rng1_I G h2 h3 hn.1 z.o
    · rcases xs with _ | ⟨y, _ | ⟨y2, _ | ⟨y3, xs⟩⟩⟩ <;> simp at hl
      simp only [noStars, Bool.and_eq_true] at hn
      exact rng2_I G h2 h3 hn.1 hn.2.1 z.o
    · have := of_decide_eq_true h5
      simp at this
theorem p1_enum {a : ME} (ha : P1 C F g a) : P1 C F g (.enum a) := fun X W G => by
  refine ⟨fun e h => ok_no fun u ρ => by rw [evE], fun t i h => ?_⟩
  · cases i <;> (try simp only [chkI, chkE] at h) <;> (try (cases h; done))
    rename_i fe xs ks p
    cases fe <;> (try simp only [chkI, chkE] at h) <;> (try (cases h; done))
    rcases xs with _ | ⟨y, _ | ⟨y2, xs⟩⟩ <;> (try simp only [chkI, chkE] at h) <;> (try (cases h; done))
    cases ks <;> (try simp only [chkI, chkE] at h) <;> (try (cases h; done))
    simp only [Bool.and_eq_true] at h
    obtain ⟨⟨⟨⟨⟨h1, h2⟩, h3⟩, h4⟩, h5⟩, h6⟩ := h
    have e1 := of_decide_eq_true h1
    subst e1
    cases t <;> (try simp only [itT, isTup] at h6) <;> (try (cases h6; done))
    exact enum_I G h2 h3 h5 (((ha X W G).1 _ h4).val false)
theorem p1_zip {a b : ME} (ha : P1 C F g a) (hb : P1 C F g b) : P1 C F g (.zip a b) := fun X W G => by
  refine ⟨fun e h => ok_no fun u ρ => by rw [evE], fun t i h => ?_⟩
  · cases i <;> (try simp only [chkI, chkE] at h) <;> (try (cases h; done))
    rename_i fe xs ks p
    cases fe <;> (try simp only [chkI, chkE] at h) <;> (try (cases h; done))
    rcases xs with _ | ⟨y, _ | ⟨y2, _ | ⟨y3, xs⟩⟩⟩ <;> (try simp only [chkI, chkE] at h) <;> (try (cases h; done))
    cases ks <;> (try simp only [chkI, chkE] at h) <;> (try (cases h; done))
    simp only [Bool.and_eq_true] at h
    obtain ⟨⟨⟨⟨⟨⟨⟨h1, h2⟩, h3⟩, h4⟩, h5⟩, h7⟩, h8⟩, h6⟩ := h
    have e1 := of_decide_eq_true h1
    subst e1
    cases t <;> (try simp only [itT, isTup] at h6) <;> (try (cases h6; done))
    exact zip_I G h2 h3 h7 h8 (((ha X W G).1 _ h4).val false) (((hb X W G).1 _ h5).val false)
theorem p1_dky {i : Nat} : P1 C F g (.dky i) := fun X W G => by
  refine ⟨fun e h => ok_no fun u ρ => by rw [evE], fun t e h => ?_⟩
  · cases e <;> (try simp only [chkI, chkE] at h) <;> (try (cases h; done))
    simp only [Bool.and_eq_true, beq_iff_eq] at h
    exact dky_I G h.1.1.1 h.1.1.2 h.1.2
theorem good_blk {X : Cx} (G : Good X C F W g) {s : Shared} {H : Hp} {sc : Scope} {env : PySem.Env} {fp : List Addr} : Good (X.blk s H sc env fp) C F WF g where
  ex := G.ex
  cls := G.cls
  room := G.room
  K := G.K
  calm := G.calm
  nd := G.nd
  gd := G.gd
  hu := G.hu
  tk := fun u s' ⟨a, B, sI, pins, σ, H, cls, d, e, I, nb, up, sky, na, os, ag, w⟩ => w
  mine := G.mine
  blt := G.blt
  mods := G.mods
  glb := G.glb
  fns := fun f x ps h => ⟨(G.fns f x ps h).1, ⟨(G.fns f x ps h).2.ex⟩⟩
theorem fold_of {i : Expr} {env : PySem.Env} (h : notSet i = true) : ∀ x, foldedSetIterable i env x = pure x := by
  intro x
  cases i <;> first | rfl | simp [notSet] at h
/-- what the parts of a comprehension are -/
structure LcAll (X : Cx) (C : Cn) (F : Fns) (W : WX) (elt it : ME) (tg : MT) (ifs : List ME) (ee t i : Expr) (fs : List Expr) (sc2 : Scope) : Prop where
  ht : chkT X.N sc2 true tg t = true
  hb : blkC X.N X.env.scope sc2 (ownOf X.N (slotsT tg)) = true
  hi : PI X t i (rdI C F W it)
  hf : ∀ x, foldedSetIterable i X.env x = pure x
  hg : ∀ (s : Shared) (H : Hp) (A : Addr) (cl : List (Str × Addr)) (fp : List Addr), PG (X.blk s H sc2 (compEnvC sc2 cl A X.env) fp) t (gTg C.K tg)
  hts : ∀ (s : Shared) (H : Hp) (A : Addr) (cl : List (Str × Addr)) (fp : List Addr), PTs (X.blk s H sc2 (compEnvC sc2 cl A X.env) fp) fs (rdTs C F WF ifs)
  he : ∀ (s : Shared) (H : Hp) (A : Addr) (cl : List (Str × Addr)) (fp : List Addr), PE (X.blk s H sc2 (compEnvC sc2 cl A X.env) fp) ee (rdE C F WF false elt)
theorem lc_all {X : Cx} (G : Good X C F W g) {elt it : ME} {tg : MT} {ifs : List ME} {ee : Expr} {gs : List Comprehension} {sc2 : Scope} {p : Pos} (he : P1 C F g elt) (hi : P1 C F g it) (hf : P2 C F g ifs) (h : chkE g X.N X.env.scope (.lc elt tg it ifs) (.ListComp ee gs sc2 p) = true) :
    ∃ t i fs, gs = [⟨t, i, fs, 0⟩] ∧ LcAll X C F W elt it tg ifs ee t i fs sc2 := by
  rcases gs with _ | ⟨⟨t, i, fs, n⟩, _ | ⟨g2, gs⟩⟩ <;> (try simp only [chkE] at h) <;> (try (cases h; done))
  simp only [Bool.and_eq_true] at h
  obtain ⟨⟨⟨⟨⟨⟨⟨⟨⟨h0, h1⟩, h2⟩, h3⟩, h4⟩, h5a⟩, h5b⟩, h6⟩, h7⟩, h8⟩ := h
  have h5 : chkI g X.N X.env.scope it t i = true := by unfold chkI; rw [h5a, h5b]; rfl
  have h0 := of_decide_eq_true h0
  subst h0
  refine ⟨t, i, fs, rfl, h1, h2, (hi X W G).2 t i h5, fold_of h3, fun s H A cl fp => ?_, fun s H A cl fp => ((hf _ WF (good_blk G)).1 fs h7).ts (of_decide_eq_true h8), fun s H A cl fp => ((he _ WF (good_blk G)).1 ee h6).val false⟩
  rw [← G.K]
  exact tg_PG (X := X.blk s H sc2 (compEnvC sc2 cl A X.env) fp) (c := true) (sc' := sc2) G.calm G.nd stor_blk h1
theorem p1_lc {elt it : ME} {tg : MT} {ifs : List ME} (he : P1 C F g elt) (hi : P1 C F g it) (hf : P2 C F g ifs) : P1 C F g (.lc elt tg it ifs) := p1_of rfl fun X W G e h => by
  cases e <;> (try simp only [chkE] at h) <;> (try (cases h; done))
  rename_i ee gs sc2 p
  obtain ⟨t, i, fs, rfl, L⟩ := lc_all G he hi hf h
  exact .of (fun u => lc_E G L.ht L.hb L.hi L.hf L.hg L.hts L.he) fun _ => rfl
theorem isRevS_is {y : Expr} (h : isRevS y = true) : ∃ k p1 p2 p3, y = .Slice none none (some (.UnaryOp .USub (.Constant (.int 1) k p1) p2)) p3 := by
  unfold isRevS at h
  split at h
  · simp only [beq_iff_eq] at h
    subst h
    exact ⟨_, _, _, _, rfl⟩
  · cases h
theorem isBoolC_is {ng b : Bool} {ops : List CmpOp} {cs : List Expr} (h : isBoolC ng b ops cs = true) : ∃ op k p, ops = [op] ∧ cs = [.Constant (.bool b) k p] ∧ (match op with | .Is => !ng | .IsNot => ng | _ => false) = true := by
  unfold isBoolC at h
  split at h
  · rename_i op c k p
    rw [Bool.and_eq_true, beq_iff_eq] at h
    obtain ⟨h1, h2⟩ := h
    subst h2
    exact ⟨_, _, _, rfl, rfl, h1⟩
  · cases h
theorem p1_rev {a : ME} (ha : P1 C F g a) : P1 C F g (.rev a) := p1_of rfl fun X W G e h => by
  cases e <;> (try simp only [chkE] at h) <;> (try (cases h; done))
  rename_i l r p
  simp only [Bool.and_eq_true] at h
  obtain ⟨k, p1, p2, p3, rfl⟩ := isRevS_is h.1
  exact .of (fun u => rev_E G (((ha X W G).1 _ h.2).val true)) fun _ => rfl
theorem p1_isB {ng b : Bool} {a : ME} (ha : P1 C F g a) : P1 C F g (.isB ng b a) := p1_of rfl fun X W G e h => by
  cases e <;> (try simp only [chkE] at h) <;> (try (cases h; done))
  rename_i l ops cs p
  simp only [Bool.and_eq_true] at h
  obtain ⟨op, k, p2, rfl, rfl, ho⟩ := isBoolC_is h.1
  exact ⟨fun u => isB_E ho (((ha X W G).1 _ h.2).val true), isB_T ho (((ha X W G).1 _ h.2).val true)⟩
theorem p1_isx {c : Str} {a : ME} (ha : P1 C F g a) : P1 C F g (.isx c a) := p1_of rfl fun X W G e h => by
  cases e <;> (try simp only [chkE] at h) <;> (try (cases h; done))
  rename_i fe xs ks p
  cases fe <;> (try simp only [chkE] at h) <;> (try (cases h; done))
  rcases xs with _ | ⟨y, _ | ⟨z, _ | ⟨z2, xs⟩⟩⟩ <;> (try simp only [chkE] at h) <;> (try (cases h; done))
  cases z <;> (try simp only [chkE] at h) <;> (try (cases h; done))
  cases ks <;> (try simp only [chkE] at h) <;> (try (cases h; done))
  rename_i x p2 z p3
  simp only [Bool.and_eq_true] at h
  obtain ⟨⟨⟨⟨⟨⟨⟨⟨⟨h1, h2⟩, h3⟩, h4⟩, h5⟩, h6⟩, h7⟩, h8⟩, h9⟩, h10⟩ := h
  have e1 := of_decide_eq_true h1
  have e2 := of_decide_eq_true h2
  subst e1 e2
  exact .of (fun u => isx_E G h3 h4 h6 h9 h10 h8 (((ha X W G).1 _ h7).val true)) fun _ => rfl
theorem p1_fld {i : Nat} : P1 C F g (.fld i) := p1_of rfl fun X W G e h => by
  cases e <;> (try simp only [chkE] at h) <;> (try (cases h; done))
  rename_i o f p
  cases o <;> (try simp only [chkE] at h) <;> (try (cases h; done))
  rename_i x p2
  simp only [Bool.and_eq_true] at h
  obtain ⟨⟨⟨h1, h2⟩, h3⟩, h4⟩ := h
  have e1 := of_decide_eq_true h1
  subst e1
  exact .of (fun u => fld_E G (by simpa using h2) h3 h4) fun _ => rfl
theorem p1_lc2 {elt it it1 : ME} {tg tg1 : MT} {ifs ifs1 : List ME} (he : P1 C F g elt) (hi : P1 C F g it) (hf : P2 C F g ifs) (hi1 : P1 C F g it1) (hf1 : P2 C F g ifs1) : P1 C F g (.lc2 elt tg it ifs tg1 it1 ifs1) := p1_of rfl fun X W G e h => by
  cases e <;> (try simp only [chkE] at h) <;> (try (cases h; done))
  rename_i ee gs sc2 p
  rcases gs with _ | ⟨⟨t, i, fs, n⟩, _ | ⟨⟨t1, i1, fs1, n1⟩, _ | ⟨g3, gs⟩⟩⟩ <;> (try (cases h; done))
  simp only [Bool.and_eq_true] at h
  obtain ⟨⟨⟨⟨⟨⟨⟨⟨⟨⟨⟨⟨⟨⟨⟨⟨⟨h0, h01⟩, ht⟩, ht1⟩, hb⟩, hs⟩, hst⟩, hs1⟩, hst1⟩, hIa⟩, hIb⟩, hI1a⟩, hI1b⟩, hE⟩, hF⟩, hFl⟩, hF1⟩, hFl1⟩ := h
  have hI : chkI g X.N X.env.scope it t i = true := by unfold chkI; rw [Bool.and_eq_true]; exact ⟨hIa, hIb⟩
  have hI1 : chkI g X.N (relS sc2 X.env.scope) it1 t1 i1 = true := by unfold chkI; rw [Bool.and_eq_true]; exact ⟨hI1a, hI1b⟩
  have h0 : n = 0 := of_decide_eq_true h0
  have h01 : n1 = 0 := of_decide_eq_true h01
  subst h0
  subst h01
  have hg : ∀ (tg : MT) (t : Expr), chkT X.N sc2 true tg t = true → ∀ (s : Shared) (H : Hp) (A : Addr) (cl : List (Str × Addr)) (fp : List Addr), PG (X.blk s H sc2 (compEnvC sc2 cl A X.env) fp) t (gTg C.K tg) := fun tg t ht s H A cl fp => by
    rw [← G.K]
    exact tg_PG (X := X.blk s H sc2 (compEnvC sc2 cl A X.env) fp) (c := true) (sc' := sc2) G.calm G.nd stor_blk ht
  have hb2 := blkOk_by hb
  have hv : ∀ j ∈ slotsT tg1, j ∈ (ownOf X.N (slotsT tg ++ slotsT tg1)).map (·.2) := fun j hj => by
    rw [chk_own (fun i hi => (List.mem_append.mp hi).elim (chkT_slots ht i) (chkT_slots ht1 i))]
    exact List.mem_append_right _ hj
  exact .of (fun u => imp_E (pe_lc2 G.calm G.nd ((hi X W G).2 t i hI) hb2 hv (hg _ _ ht) (fun s H A cl fp => ((hf _ WF (good_blk G)).1 fs hF).ts (of_decide_eq_true hFl))
    (fun s H A cl fp => (hi1 _ WF (good_blk G)).2 t1 i1 hI1) (hg _ _ ht1) (fun s H A cl fp => ((hf1 _ WF (good_blk G)).1 fs1 hF1).ts (of_decide_eq_true hFl1)) (fun s H A cl fp => ((he _ WF (good_blk G)).1 ee hE).val false) (fold_of hs) (fun env => fold_of hs1)) (lc2_rd G.mine ht ht1)) fun _ => rfl
theorem p1_chn3 {o p q : Cop} {a b c d : ME} (ha : P1 C F g a) (hb : P1 C F g b) (hc : P1 C F g c) (hd : P1 C F g d) : P1 C F g (.chn3 o p q a b c d) := p1_of rfl fun X W G e h => by
  cases e <;> (try simp only [chkE] at h) <;> (try (cases h; done))
  rename_i x ops rs pos
  rcases ops with _ | ⟨o1, _ | ⟨o2, _ | ⟨o3, _ | ⟨o4, ops⟩⟩⟩⟩ <;> (try simp only [chkE] at h) <;> (try (cases h; done))
  rcases rs with _ | ⟨y, _ | ⟨z, _ | ⟨w, _ | ⟨w2, rs⟩⟩⟩⟩ <;> (try simp only [chkE] at h) <;> (try (cases h; done))
  simp only [Bool.and_eq_true] at h
  obtain ⟨⟨⟨⟨⟨⟨⟨h1, h2⟩, h3⟩, h4⟩, h5⟩, h6⟩, h7⟩, h8⟩ := h
  have za := ((ha X W G).1 _ h4).val true
  have zb := ((hb X W G).1 _ h5).val true
  have zc := ((hc X W G).1 _ h6).val true
  have zd := ((hd X W G).1 _ h7).val true
  exact ⟨fun u => chn3_E G h1 h2 h3 h8 za zb zc zd, chn3_T G h1 h2 h3 h8 za zb zc zd⟩
theorem p1_idx {a b : ME} (ha : P1 C F g a) (hb : P1 C F g b) : P1 C F g (.idx a b) := p1_of rfl fun X W G e h => by
  cases e <;> (try simp only [chkE] at h) <;> (try (cases h; done))
  rename_i fe xs ks p
  cases fe <;> (try simp only [chkE] at h) <;> (try (cases h; done))
  rename_i o m p2
  rcases xs with _ | ⟨y, _ | ⟨z, xs⟩⟩ <;> (try simp only [chkE] at h) <;> (try (cases h; done))
  cases ks <;> (try simp only [chkE] at h) <;> (try (cases h; done))
  simp only [Bool.and_eq_true] at h
  obtain ⟨⟨⟨⟨⟨h1, h2⟩, h3⟩, h4⟩, h5⟩, h6⟩ := h
  have e1 := of_decide_eq_true h1
  subst e1
  exact .of (fun u => idx_E G h2 h6 h5 (((ha X W G).1 _ h3).val true) (((hb X W G).1 _ h4).val true)) fun _ => rfl
theorem p1_tupN {ms : List ME} (ha : P2 C F g ms) : P1 C F g (.tupN ms) := p1_of rfl fun X W G e h => by
  cases e <;> (try simp only [chkE] at h) <;> (try (cases h; done))
  exact .of (fun u => tupN_E ((ha X W G).1 _ h).s) fun _ => rfl
theorem p1_tplN {a : ME} (ha : P1 C F g a) : P1 C F g (.tplN a) := p1_of rfl fun X W G e h => by
  cases e <;> (try simp only [chkE] at h) <;> (try (cases h; done))
  rename_i fe xs ks p
  cases fe <;> (try simp only [chkE] at h) <;> (try (cases h; done))
  rcases xs with _ | ⟨y, _ | ⟨z, xs⟩⟩ <;> (try simp only [chkE] at h) <;> (try (cases h; done))
  cases ks <;> (try simp only [chkE] at h) <;> (try (cases h; done))
  simp only [Bool.and_eq_true] at h
  obtain ⟨⟨⟨⟨h1, h2⟩, h3⟩, h4⟩, h5⟩ := h
  have e1 := of_decide_eq_true h1
  subst e1
  exact .of (fun u => tplN_E G h2 h3 h5 (((ha X W G).1 _ h4).val true)) fun _ => rfl
theorem p1_lrg {ms : List ME} (ha : P2 C F g ms) : P1 C F g (.lrg ms) := p1_of rfl fun X W G e h => by
  cases e <;> (try simp only [chkE] at h) <;> (try (cases h; done))
  rename_i fe xs ks p
  cases fe <;> (try simp only [chkE] at h) <;> (try (cases h; done))
  rcases xs with _ | ⟨y, _ | ⟨z, xs⟩⟩ <;> (try simp only [chkE] at h) <;> (try (cases h; done))
  · cases y <;> (try simp only [chkE] at h) <;> (try (cases h; done))
    rename_i fe2 ys ks2 p2
    cases fe2 <;> (try simp only [chkE] at h) <;> (try (cases h; done))
    cases ks2 <;> (try simp only [chkE] at h) <;> (try (cases h; done))
    cases ks <;> (try simp only [chkE] at h) <;> (try (cases h; done))
    simp only [Bool.and_eq_true] at h
    obtain ⟨⟨⟨⟨⟨⟨⟨h1, h2⟩, h3⟩, h4⟩, h5⟩, h6⟩, h7⟩, h8⟩ := h
    have e1 := of_decide_eq_true h1
    have e2 := of_decide_eq_true h4
    subst e1 e2
    have z := (ha X W G).1 _ h7
    have hn := z.ns
    have hl := z.len
    rcases ms with _ | ⟨m, _ | ⟨m2, _ | ⟨m3, ms⟩⟩⟩
    · exact ok_no fun u ρ => by rw [evE, evOs]; rfl
    · rcases ys with _ | ⟨y, _ | ⟨y2, ys⟩⟩ <;> simp at hl
      simp only [noStars, Bool.and_eq_true] at hn
      have z1 := z.one
      exact .of (fun u => lrg1_E G h2 h3 h5 h6 hn.1 z1) fun _ => rfl
    · rcases ys with _ | ⟨y, _ | ⟨y2, _ | ⟨y3, ys⟩⟩⟩ <;> simp at hl
      simp only [noStars, Bool.and_eq_true] at hn
      have z2 := z.two
      exact .of (fun u => lrg2_E G h2 h3 h5 h6 hn.1 hn.2.1 z2.1 z2.2) fun _ => rfl
    · have := of_decide_eq_true h8
      simp at this
theorem inName_is {ng : Bool} {ops : List CmpOp} {cs : List Expr} {N : List Str} {i : Nat} {sc : Scope} (h : inName ng ops cs N i sc = true) : ∃ op x p, ops = [op] ∧ cs = [.Name x p] ∧ (match op with | .In => !ng | .NotIn => ng | _ => false) = true ∧ N[i]? = some x ∧ visB sc x = true ∧ okName x = true := by
  unfold inName at h
  split at h
  · rename_i op x p
    simp only [Bool.and_eq_true] at h
    obtain ⟨⟨⟨h1, h2⟩, h3⟩, h4⟩ := h
    exact ⟨op, x, p, rfl, rfl, h1, by simpa using h2, h3, h4⟩
  · cases h
theorem itemsOf_is {N : List Str} {i : Nat} {sc : Scope} {e : Expr} (h : itemsOf N i sc e = true) : ∃ x p2 p q, e = .Call (.Attribute (.Name x p2) "items" p) [] [] q ∧ N[i]? = some x ∧ visB sc x = true ∧ okName x = true ∧ (p.endLine == q.line) = true := by
  unfold itemsOf at h
  split at h
  · rename_i x p2 m p q
    simp only [Bool.and_eq_true] at h
    obtain ⟨⟨⟨⟨h1, h2⟩, h3⟩, h4⟩, h5⟩ := h
    have e1 := of_decide_eq_true h1
    subst e1
    exact ⟨x, p2, p, q, rfl, by simpa using h2, h3, h4, h5⟩
  · cases h
theorem p1_dnew {t : Bool} : P1 C F g (.dnew t) := p1_of rfl fun X W G e h => by
  cases e <;> (try simp only [chkE] at h) <;> (try (cases h; done))
  rename_i ks vs p
  rcases ks with _ | ⟨k, ks⟩ <;> (try simp only [chkE] at h) <;> (try (cases h; done))
  rcases vs with _ | ⟨v, vs⟩ <;> (try simp only [chkE] at h) <;> (try (cases h; done))
  exact .of (fun u => dnew_E) fun _ => rfl
theorem p1_dget {i : Nat} {a b : ME} (ha : P1 C F g a) (hb : P1 C F g b) : P1 C F g (.dget i a b) := p1_of rfl fun X W G e h => by
  cases e <;> (try simp only [chkE] at h) <;> (try (cases h; done))
  rename_i fe xs ks p
  cases fe <;> (try simp only [chkE] at h) <;> (try (cases h; done))
  rename_i o m p2
  cases o <;> (try simp only [chkE] at h) <;> (try (cases h; done))
  rcases xs with _ | ⟨y, _ | ⟨z, _ | ⟨z2, xs⟩⟩⟩ <;> (try simp only [chkE] at h) <;> (try (cases h; done))
  cases ks <;> (try simp only [chkE] at h) <;> (try (cases h; done))
  simp only [Bool.and_eq_true] at h
  obtain ⟨⟨⟨⟨⟨⟨⟨⟨h1, h2⟩, h3⟩, h4⟩, h5⟩, h6⟩, h7⟩, h8⟩, h9⟩ := h
  have e1 := of_decide_eq_true h1
  subst e1
  exact .of (fun u => dget_E G (by simpa using h2) h3 h4 h9 h7 h8 (((ha X W G).1 _ h5).val false) (((hb X W G).1 _ h6).val false)) fun _ => rfl
theorem p1_dix {i : Nat} {a : ME} (ha : P1 C F g a) : P1 C F g (.dix i a) := p1_of rfl fun X W G e h => by
  cases e <;> (try simp only [chkE] at h) <;> (try (cases h; done))
  rename_i o y p
  cases o <;> (try simp only [chkE] at h) <;> (try (cases h; done))
  simp only [Bool.and_eq_true] at h
  obtain ⟨⟨⟨⟨h2, h3⟩, h4⟩, h5⟩, h6⟩ := h
  exact .of (fun u => dix_E G (by simpa using h2) h3 h4 h6 (((ha X W G).1 _ h5).val false)) fun _ => rfl
theorem p1_dhas {ng : Bool} {i : Nat} {a : ME} (ha : P1 C F g a) : P1 C F g (.dhas ng i a) := p1_of rfl fun X W G e h => by
  cases e <;> (try simp only [chkE] at h) <;> (try (cases h; done))
  rename_i l ops cs p
  simp only [Bool.and_eq_true] at h
  obtain ⟨op, x, p2, rfl, rfl, ho, h2, h3, h4⟩ := inName_is h.1
  exact ⟨fun u => dhas_E G ho h2 h3 h4 (((ha X W G).1 _ h.2).val false), dhas_T G ho h2 h3 h4 (((ha X W G).1 _ h.2).val false)⟩
theorem p1_dsrt {i : Nat} : P1 C F g (.dsrt i) := p1_of rfl fun X W G e h => by
  cases e <;> (try simp only [chkE] at h) <;> (try (cases h; done))
  rename_i fe xs ks p
  cases fe <;> (try simp only [chkE] at h) <;> (try (cases h; done))
  rcases xs with _ | ⟨y, _ | ⟨z, xs⟩⟩ <;> (try simp only [chkE] at h) <;> (try (cases h; done))
  cases ks <;> (try simp only [chkE] at h) <;> (try (cases h; done))
  simp only [Bool.and_eq_true] at h
  obtain ⟨⟨⟨h1, h2⟩, h3⟩, h4⟩ := h
  have e1 := of_decide_eq_true h1
  subst e1
  obtain ⟨x, p2, p3, q, rfl, h5, h6, h7, h8⟩ := itemsOf_is h4
  exact .of (fun u => dsrt_E G h2 h3 h5 h6 h7 h8) fun _ => rfl
theorem p1_dmd {a b : ME} (ha : P1 C F g a) (hb : P1 C F g b) : P1 C F g (.dmd a b) := p1_of rfl fun X W G e h => by
  cases e <;> (try simp only [chkE] at h) <;> (try (cases h; done))
  rename_i fe xs ks p
  cases fe <;> (try simp only [chkE] at h) <;> (try (cases h; done))
  rcases xs with _ | ⟨y, _ | ⟨z, _ | ⟨z2, xs⟩⟩⟩ <;> (try simp only [chkE] at h) <;> (try (cases h; done))
  cases ks <;> (try simp only [chkE] at h) <;> (try (cases h; done))
  simp only [Bool.and_eq_true] at h
  obtain ⟨⟨⟨⟨⟨⟨h1, h2⟩, h3⟩, h4⟩, h5⟩, h6⟩, h7⟩ := h
  have e1 := of_decide_eq_true h1
  subst e1
  exact .of (fun u => dmd_E G h2 h3 h6 h7 (((ha X W G).1 _ h4).val true) (((hb X W G).1 _ h5).val true)) fun _ => rfl
theorem p3_none : P3 C F g none := fun X W G e h => by
  cases e <;> (try simp only [chkO] at h) <;> (try (cases h; done))
  exact po_E0
theorem p3_some {m : ME} (hm : P1 C F g m) : P3 C F g (some m) := fun X W G e h => by
  cases e <;> (try simp only [chkO] at h) <;> (try (cases h; done))
  exact po_E1 (((hm X W G).1 _ h).val false)
theorem all_E (C : Cn) (F : Fns) (g : Gi) (m : ME) : P1 C F g m :=
  ME.rec (motive_1 := P1 C F g) (motive_2 := P2 C F g) (motive_3 := P3 C F g) (fun _ => p1_var) (fun _ => p1_int) (fun _ => p1_bl) p1_non (fun _ => p1_str) (fun _ => p1_glb) (fun _ _ _ a b => p1_bin a b) (fun _ a => p1_neg a) (fun _ a => p1_notv a)
    (fun _ _ _ a b => p1_cmp a b) (fun _ _ a => p1_isN a) (fun _ _ _ _ _ a b c => p1_chn a b c) (fun _ a => p1_andv a) (fun _ a => p1_orv a) (fun _ _ _ a b c => p1_ife a b c) (fun _ a => p1_tup a) (fun _ a => p1_lst a) (fun _ _ a b => p1_ix a b)
    (fun _ _ _ a b c => p1_sl a b c) (fun _ _ a => p1_call a) (fun _ _ _ _ a b => p1_callK a b) (fun _ _ a => p1_blt a) (fun _ _ a => p1_isi a) (fun _ _ _ _ a b c => p1_lc a b c) (fun _ a => p1_rng a) (fun _ a => p1_enum a) (fun _ _ a b => p1_zip a b)
    (fun _ _ a => p1_app a) (fun _ _ a => p1_ext a) (fun _ => p1_pop) (fun _ a => p1_rev a) (fun _ _ _ a => p1_isB a) (fun _ _ _ _ _ _ _ a b c d e => p1_lc2 a b c d e) (fun _ _ a => p1_isx a) (fun _ => p1_fld) (fun _ _ _ _ _ _ _ a b c d => p1_chn3 a b c d) (fun _ _ a b => p1_idx a b) (fun _ a => p1_tupN a) (fun _ a => p1_tplN a) (fun _ a => p1_lrg a) (fun _ => p1_dnew) (fun _ _ _ a b => p1_dget a b) (fun _ _ a => p1_dix a) (fun _ _ _ a => p1_dhas a) (fun _ => p1_dsrt) (fun _ _ a b => p1_dmd a b) (fun _ => p1_dky) p2_nil (fun _ _ a b => p2_cons a b) p3_none (fun _ a => p3_some a) m
theorem all_Es (C : Cn) (F : Fns) (g : Gi) : ∀ ms : List ME, P2 C F g ms
  | [] => p2_nil
  | m :: ms => p2_cons (all_E C F g m) (all_Es C F g ms)
end
end Own

/-! part Own17 -/
namespace Own
open PySem PySem.Spec L2

/-! ### the run of statements -/
inductive Oc where
  | nx (ρ : Rho) | bk (ρ : Rho) | ct (ρ : Rho) | rt (x : VR) (ρ : Rho) | exc (c : Str) (d : D) (ρ : Rho) | no
def Rs.oc {α : Type} (r : Rs α) (k : α → Rho → Oc) : Oc := match r with
  | .ok x ρ => k x ρ
  | .exc c d ρ => .exc c d ρ
  | .no => .no
@[simp] theorem Rs.oc_ok {α : Type} (x : α) (ρ : Rho) (k : α → Rho → Oc) : (Rs.ok x ρ).oc k = k x ρ := rfl
@[simp] theorem Rs.oc_exc {α : Type} (c : Str) (d : D) (ρ : Rho) (k : α → Rho → Oc) : (Rs.exc c d ρ : Rs α).oc k = .exc c d ρ := rfl
@[simp] theorem Rs.oc_no {α : Type} (k : α → Rho → Oc) : (Rs.no : Rs α).oc k = .no := rfl
def Oc.andThen (o : Oc) (k : Rho → Oc) : Oc := match o with
  | .nx ρ => k ρ
  | o => o
@[simp] theorem Oc.andThen_nx (ρ : Rho) (k : Rho → Oc) : (Oc.nx ρ).andThen k = k ρ := rfl
def Oc.of (o : Option Rho) : Oc := match o with
  | some ρ => .nx ρ
  | none => .no
def setOk (F : Fns) (ρ : Rho) (i : Nat) : Bool := match ρ[i]? with
  | some .un => true
  | some (.val _) => true
  | some (.own _) => !F.mine.contains i
  | _ => false
def setV (F : Fns) (ρ : Rho) (i : Nat) : VR → Option Rho
  | .v d => if setOk F ρ i then some (ρ.set i (.val d)) else none
  | .f d => if setOk F ρ i then some (ρ.set i (.own d)) else none
  | .l _ => none
/-- x op= y: what == of the two is set -/
def aop : Bop → D → D → Option D
  | .add, .int i, .int j => some (.int (i + j))
  | .sub, .int i, .int j => some (.int (i - j))
  | .mul, .int i, .int j => if decide (i.natAbs < 2 ^ 64) || decide (j.natAbs < 2 ^ 64) then some (.int (i * j)) else none
  | .fdiv, .int i, .int j => if decide (0 < j ∧ j.natAbs.log2 < 9000) then some (.int (i / j)) else none
  | .mod, .int i, .int j => if decide (0 < j) then some (.int (i % j)) else none
  | .add, .str x, .str y => if small (x.length + y.length) then some (.str (x ++ y)) else none
  | _, _, _ => none
def asT (r : Rs VR) : Rs Bool := r.bind asB
/-- a while loop's turns, as many as n -/
def loopN (c : Rho → Rs Bool) (b : Rho → Oc) : Nat → Rho → Option Oc
  | 0, _ => none
  | n + 1, ρ => match c ρ with
    | .ok true ρ1 => match b ρ1 with
      | .nx ρ2 => loopN c b n ρ2
      | .ct ρ2 => loopN c b n ρ2
      | .bk ρ2 => some (.nx ρ2)
      | o => some o
    | .ok false ρ1 => some (.nx ρ1)
    | .exc e d ρ1 => some (.exc e d ρ1)
    | .no => some .no
open Classical in
noncomputable def whileR (c : Rho → Rs Bool) (b : Rho → Oc) (ρ : Rho) : Oc := if h : ∃ o, ∃ n, loopN c b n ρ = some o then h.choose else .no
theorem loopN_up {c : Rho → Rs Bool} {b : Rho → Oc} {o : Oc} : ∀ {n m : Nat} {ρ : Rho}, loopN c b n ρ = some o → n ≤ m → loopN c b m ρ = some o
  | 0, _, _, h, _ => by cases h
  | n + 1, 0, _, _, h => by omega
  | n + 1, m + 1, ρ, h, hl => by
    unfold loopN at h ⊢
    split
    · rename_i ρ1 e
      rw [e] at h
      simp only at h
      split
      · rename_i ρ2 e2
        rw [e2] at h
        exact loopN_up h (by omega)
      · rename_i ρ2 e2
        rw [e2] at h
        exact loopN_up h (by omega)
      · rename_i ρ2 e2
        rw [e2] at h
        exact h
      · rename_i h1 h2 h3
        cases q : b ρ1 with
        | nx ρ2 => exact absurd q (h1 ρ2)
        | ct ρ2 => exact absurd q (h2 ρ2)
        | bk ρ2 => exact absurd q (h3 ρ2)
        | rt x ρ2 => rw [q] at h; exact h
        | exc e d ρ2 => rw [q] at h; exact h
        | no => rw [q] at h; exact h
    · rename_i ρ1 e
      rw [e] at h
      exact h
    · rename_i e' d ρ1 e
      rw [e] at h
      exact h
    · rename_i e
      rw [e] at h
      exact h
theorem whileR_of {c : Rho → Rs Bool} {b : Rho → Oc} {ρ : Rho} {n : Nat} {o : Oc} (h : loopN c b n ρ = some o) : whileR c b ρ = o := by
  have hx : ∃ o, ∃ n, loopN c b n ρ = some o := ⟨o, n, h⟩
  unfold whileR
  rw [dif_pos hx]
  obtain ⟨m, hm⟩ := hx.choose_spec
  have h1 := loopN_up hm (Nat.le_max_left m n)
  have h2 := loopN_up h (Nat.le_max_right m n)
  rw [h1] at h2
  exact Option.some.inj h2
theorem whileR_ex {c : Rho → Rs Bool} {b : Rho → Oc} {ρ : Rho} (h : whileR c b ρ ≠ .no) : ∃ n, loopN c b n ρ = some (whileR c b ρ) := by
  by_cases hx : ∃ o, ∃ n, loopN c b n ρ = some o
  · obtain ⟨o, n, e⟩ := hx
    exact ⟨n, by rw [whileR_of e]; exact e⟩
  · unfold whileR at h
    rw [dif_neg hx] at h
    exact absurd rfl h
def whStep (c : Rho → Rs Bool) (b : Rho → Oc) (k : Rho → Oc) (ρ : Rho) : Oc := match c ρ with
  | .ok true ρ1 => match b ρ1 with
    | .nx ρ2 => k ρ2
    | .ct ρ2 => k ρ2
    | .bk ρ2 => .nx ρ2
    | o => o
  | .ok false ρ1 => .nx ρ1
  | .exc e d ρ1 => .exc e d ρ1
  | .no => .no
theorem loopN_step {c : Rho → Rs Bool} {b : Rho → Oc} {ρ : Rho} {n : Nat} : loopN c b (n + 1) ρ = match c ρ with
    | .ok true ρ1 => match b ρ1 with
      | .nx ρ2 => loopN c b n ρ2
      | .ct ρ2 => loopN c b n ρ2
      | .bk ρ2 => some (.nx ρ2)
      | o => some o
    | .ok false ρ1 => some (.nx ρ1)
    | .exc e d ρ1 => some (.exc e d ρ1)
    | .no => some .no := rfl
/-- one turn of a while loop -/
theorem whileR_eq {c : Rho → Rs Bool} {b : Rho → Oc} {ρ : Rho} : whileR c b ρ = whStep c b (whileR c b) ρ := by
  have go : ∀ ρ2, (∀ n, loopN c b (n + 1) ρ = loopN c b n ρ2) → whileR c b ρ = whileR c b ρ2 := fun ρ2 e => by
    by_cases hx : ∃ o, ∃ n, loopN c b n ρ2 = some o
    · obtain ⟨o, n, h⟩ := hx
      rw [whileR_of h, whileR_of ((e n).trans h)]
    · have hy : ¬ ∃ o, ∃ n, loopN c b n ρ = some o := fun ⟨o, n, h⟩ => by
        cases n with
        | zero => cases h
        | succ n => exact hx ⟨o, n, (e n).symm.trans h⟩
      unfold whileR
      rw [dif_neg hx, dif_neg hy]
  unfold whStep
  cases q : c ρ with
  | no => exact whileR_of (n := 1) (by rw [loopN_step, q])
  | exc e d ρ1 => exact whileR_of (n := 1) (by rw [loopN_step, q])
  | ok t ρ1 =>
    cases t with
    | false => exact whileR_of (n := 1) (by rw [loopN_step, q])
    | true =>
      simp only
      cases q2 : b ρ1 with
      | nx ρ2 => exact go ρ2 fun n => by rw [loopN_step, q]; simp only [q2]
      | ct ρ2 => exact go ρ2 fun n => by rw [loopN_step, q]; simp only [q2]
      | bk ρ2 => exact whileR_of (n := 1) (by rw [loopN_step, q]; simp only [q2])
      | rt x ρ2 => exact whileR_of (n := 1) (by rw [loopN_step, q]; simp only [q2])
      | exc e d ρ2 => exact whileR_of (n := 1) (by rw [loopN_step, q]; simp only [q2])
      | no => exact whileR_of (n := 1) (by rw [loopN_step, q]; simp only [q2])
def forLoop (t : MT) (b : Rho → Oc) : List D → Rho → Oc
  | [], ρ => .nx ρ
  | d :: ds, ρ => match bindT t d ρ with
    | none => .no
    | some ρ1 => match b ρ1 with
      | .nx ρ2 => forLoop t b ds ρ2
      | .ct ρ2 => forLoop t b ds ρ2
      | .bk ρ2 => .nx ρ2
      | o => o
/-- what return hands out: an own list goes with it -/
def evR (F : Fns) (e : ME) (ρ : Rho) : Rs VR := match e with
  | .var i => match ρ[i]? with
    | some (.own d) => if F.mine.contains i then .no else .ok (.f d) (ρ.set i .un)
    | _ => evE F false (.var i) ρ
  | e => evE F false e ρ
def augR (o : Bop) (i : Nat) (ρ1 : Rho) (y : VR) : Oc := match ρ1[i]?, derf ρ1 y with
  | some (.val d), some e => match aop o d e with
    | some z => .nx (ρ1.set i (.val z))
    | none => .no
  | _, _ => .no
def setiR (i : Nat) (ρ2 : Rho) (y z : VR) : Oc := if y.keeps then match ρ2[i]?, derf ρ2 z, derf ρ2 y with
  | some (.own (.lst _ xs)), some (.int k), some d => match ixN xs.length k with
    | some j => .nx (ρ2.set i (.own (.lst false (xs.set j d))))
    | none => .no
  | _, _, _ => .no
  else .no
def setdR (i : Nat) (ρ2 : Rho) (y z : VR) : Oc := if y.keeps then match ρ2[i]?, z, derf ρ2 y with
  | some (.own d), .v c, some v => match dputop d c v with
    | some d' => .nx (ρ2.set i (.own d'))
    | none => .no
  | _, _, _ => .no
  else .no
/-- names set one behind another -/
def setAll (F : Fns) : List Nat → List VR → Rho → Option Rho
  | [], [], ρ => some ρ
  | i :: is, x :: xs, ρ => match setV F ρ i x with
    | some ρ1 => setAll F is xs ρ1
    | none => none
  | _, _, _ => none
def parR (F : Fns) (is : List Nat) (ρ1 : Rho) (xs : List VR) : Oc := .of (setAll F is xs ρ1)
/-- a list's item set at a place -/
def set2K (i : Nat) (d : D) (r : Rho → Rs VR) (ρ : Rho) : Oc := if isOwnL ρ i then (r ρ).oc fun z ρ2 => setiR i ρ2 (.v d) z else .no
/-- the items that a clause makes of its exception -/
def heVs (F : Fns) (c' : Str) (d : D) : List HE → Option (List D)
  | [] => some []
  | .isx c :: r => match F.sub c' c, heVs F c' d r with
    | some b, some ds => some (.bl b :: ds)
    | _, _ => none
  | .fld :: r => match heVs F c' d r with
    | some ds => some (d :: ds)
    | none => none
def set2R (i j : Nat) (r1 r2 : Rho → Rs VR) (x : VR) (ρ1 : Rho) : Oc := if x.keeps then match derf ρ1 x with
  | some (.tup [d, e]) => (set2K i d r1 ρ1).andThen (set2K j e r2)
  | _ => .no
  else .no
mutual
noncomputable def evS (F : Fns) : MS → Rho → Oc
  | .asg i e, ρ => (evE F false e ρ).oc fun x ρ1 => .of (setV F ρ1 i x)
  | .asgT t e, ρ => (evE F false e ρ).oc fun x ρ1 => if x.keeps then match derf ρ1 x with
      | some d => .of (bindT t d ρ1)
      | none => .no
    else .no
  | .par is es, ρ => (evEs F es ρ).oc fun xs ρ1 => parR F is ρ1 xs
  | .aug i o e, ρ => match ρ[i]? with
    | some (.val _) => (evE F true e ρ).oc fun y ρ1 => augR o i ρ1 y
    | _ => .no
  | .seti i k e, ρ => (evE F false e ρ).oc fun y ρ1 => if isOwnL ρ1 i then (evE F true k ρ1).oc fun z ρ2 => setiR i ρ2 y z else .no
  | .setd i k e, ρ => (evE F false e ρ).oc fun y ρ1 => if isOwnD ρ1 i then (evE F false k ρ1).oc fun z ρ2 => setdR i ρ2 y z else .no
  | .asgL ts e, ρ => (evE F false e ρ).oc fun x ρ1 => if x.keeps then match derf ρ1 x with
      | some (.lst _ ds) => .of (bindTs ts ds ρ1)
      | _ => .no
    else .no
  | .set2 i k j l e, ρ => (evE F false e ρ).oc (set2R i j (fun ρ => evE F true k ρ) (fun ρ => evE F true l ρ))
  | .exp e, ρ => (evE F true e ρ).oc fun _ ρ1 => .nx ρ1
  | .iff c a b, ρ => ((evE F false c ρ).bind asB).oc fun t ρ1 => if t then evSs F a ρ1 else evSs F b ρ1
  | .wh c b, ρ => whileR (fun ρ => (evE F false c ρ).bind asB) (fun ρ => evSs F b ρ) ρ
  | .for t it b, ρ => (evI F it ρ).oc fun ds ρ1 => forLoop t (fun ρ => evSs F b ρ) ds ρ1
  | .ret e, ρ => (evR F e ρ).oc fun x ρ1 => if x.keeps then .rt x ρ1 else .no
  | .retN, ρ => .rt (.v .non) ρ
  | .brk, ρ => .bk ρ
  | .cnt, ρ => .ct ρ
  | .pas, ρ => .nx ρ
  | .nev, _ => .no
  | .rai c e, ρ => if decide (2 ≤ F.dep) then (evE F false e ρ).oc fun x ρ1 => if x.keeps then match derf ρ1 x with
        | some d => .exc c d ρ1
        | none => .no
      else .no
    else .no
  | .tryE b c n m, ρ => match evSs F b ρ with
    | .exc c' d ρ1 => match F.sub c' c with
      | some true => if calmS ρ1 n && calmS ρ1 m && decide (n ≠ m) then .nx ((ρ1.set n .un).set m (.val (.exn c' d))) else .no
      | some false => .exc c' d ρ1
      | none => .no
    | o => o
  | .tryT b c n m es, ρ => match evSs F b ρ with
    | .exc c' d ρ1 => match F.sub c' c with
      | some true => if calmS ρ1 n && calmS ρ1 m && decide (n ≠ m) then match heVs F c' d es with
        | some ds => if small ds.length then .nx ((ρ1.set n .un).set m (.val (.tup ds))) else .no
        | none => .no
        else .no
      | some false => .exc c' d ρ1
      | none => .no
    | o => o
noncomputable def evSs (F : Fns) : List MS → Rho → Oc
  | [], ρ => .nx ρ
  | s :: r, ρ => (evS F s ρ).andThen fun ρ1 => evSs F r ρ1
end
end Own

/-! part Own18 -/
namespace Own
open PySem PySem.Spec L2

/-- data are kept -/
def SK (C : Cn) (ρ : Rho) (σ : St) (H : Hp) (ρ' : Rho) (σ' : St) (H' : Hp) : Prop := ∀ v d, Dr C.K (Reg C [] ρ σ) H v d → Dr C.K (Reg C [] ρ' σ') H' v d
def SPost (C : Cn) (ρ : Rho) (σ : St) (H : Hp) (ρ' : Rho) (σ' : St) (H' : Hp) : Prop := SK C ρ σ H ρ' σ' H' ∧ Rep C [] ρ' σ' H'
def AfterS (C : Cn) (W : WX) (ρ : Rho) (σ : St) (H : Hp) (o : Oc) (D : Ends) : Prop := match o with
  | .nx ρ' => ∀ σ' H', SPost C ρ σ H ρ' σ' H' → D.nx σ' H'
  | .bk ρ' => ∀ σ' H', SPost C ρ σ H ρ' σ' H' → D.bk σ' H'
  | .ct ρ' => ∀ σ' H', SPost C ρ σ H ρ' σ' H' → D.ct σ' H'
  | .rt x ρ' => ∀ v σ' H', Rep C (tmps x v) ρ' σ' H' → VRep C (tmps x v) ρ' σ' H' x v → D.rt v H'
  | .exc c d ρ' => ∀ cls dd σ' H', SPost C ρ σ H ρ' σ' H' → ExP C (Reg C [] ρ' σ') H' cls dd c d → W cls dd σ' H'
  | .no => False
def rdS (C : Cn) (W : WX) (ev : Rho → Oc) : TS := fun D σ H => ∃ ρ, Rep C [] ρ σ H ∧ AfterS C W ρ σ H (ev ρ) D
section
variable {α β : Type} {C : Cn} {F : Fns} {W : WX} {g : Gi} {T L : List Addr} {ρ ρ' ρ1 ρ2 ρ3 : Rho} {σ σ' σ1 σ2 : St} {H H' H1 H2 H3 : Hp} {x y : VR} {v w : V} {d e : D} {E : Ends}
theorem SK.refl : SK C ρ σ H ρ σ H := fun _ _ h => h
theorem SK.trans (a : SK C ρ σ H ρ1 σ1 H1) (b : SK C ρ1 σ1 H1 ρ2 σ2 H2) : SK C ρ σ H ρ2 σ2 H2 := fun v d h => b v d (a v d h)
theorem SK.drs (a : SK C ρ σ H ρ1 σ1 H1) : ∀ {vs : List V} {ds : List D}, Drs C.K (Reg C [] ρ σ) H vs ds → Drs C.K (Reg C [] ρ1 σ1) H1 vs ds
  | _, _, .nil => .nil
  | _, _, .cons h t => .cons (a _ _ h) (SK.drs a t)
theorem SG.sk (s : SG ρ σ H ρ1 σ1 H1) (r : Rep C [] ρ σ H) : SK C ρ σ H ρ1 σ1 H1 := fun v d h => s.dr r h
theorem AfterS.up {o : Oc} (s : SK C ρ σ H ρ1 σ1 H1) (h : AfterS C W ρ σ H o E) : AfterS C W ρ1 σ1 H1 o E := by
  cases o with
  | nx ρ' => exact fun σ' H' p => h σ' H' ⟨s.trans p.1, p.2⟩
  | bk ρ' => exact fun σ' H' p => h σ' H' ⟨s.trans p.1, p.2⟩
  | ct ρ' => exact fun σ' H' p => h σ' H' ⟨s.trans p.1, p.2⟩
  | rt x ρ' => exact h
  | exc c d ρ' => exact fun cls dd σ' H' p e => h cls dd σ' H' ⟨s.trans p.1, p.2⟩ e
  | no => exact h
theorem imp_S {X : Cx} {s : Stmt} {t t' : TS} (h : PS X s t) (hi : ∀ D σ H, t' D σ H → t D σ H) : PS X s t' := ⟨fun pins s σ H D I q => h.run pins s σ H D I (hi D σ H q)⟩
theorem imp_Ss {X : Cx} {s : List Stmt} {t t' : TS} (h : PSs X s t) (hi : ∀ D σ H, t' D σ H → t D σ H) : PSs X s t' := ⟨fun pins s σ H D I q => h.run pins s σ H D I (hi D σ H q)⟩
/-- an expression ahead of a statement's rest -/
theorem seq_SE {u : Bool} {m : ME} {k : VR → Rho → Oc} {R : V → Hp → Prop} (sk : SK C ρ σ H ρ1 σ H1) (r : Rep C L ρ1 σ H1) (h : AfterS C W ρ σ H ((evE F u m ρ1).oc k) E)
    (hk : ∀ x ρ2 v H2, EPost C L ρ1 σ H1 x ρ2 v H2 → AfterS C W ρ σ H (k x ρ2) E → R v H2) : rdE C F W u m σ H1 R := by
  refine ⟨L, ρ1, r, ?_⟩
  cases q : evE F u m ρ1 with
  | ok x ρ2 =>
    rw [q] at h
    exact fun v H2 p => hk x ρ2 v H2 p h
  | exc c d ρ2 =>
    rw [q] at h
    intro cls dd H2 ⟨s, r2, a, b, v, e1, e2, e3, e4, e5⟩
    have r3 : Rep C [] ρ2 σ H2 := Rep.lessL (L := L) (by rw [List.append_nil]; exact r2)
    exact h cls dd σ H2 ⟨sk.trans (s.sg.sk (Rep.lessL (L := L) (by rw [List.append_nil]; exact r))), r3⟩ ⟨a, b, v, e1, e2, e3, e4, e5.mono fun _ _ g _ => ⟨g.out, (fun z => nomatch z), g.own, g.nam⟩⟩
  | no =>
    rw [q] at h
    exact h
theorem seq_ST {m : ME} {k : Bool → Rho → Oc} {R : Bool → Hp → Prop} (sk : SK C ρ σ H ρ1 σ H1) (r : Rep C [] ρ1 σ H1) (h : AfterS C W ρ σ H (((evE F false m ρ1).bind asB).oc k) E)
    (hk : ∀ b ρ2 H2, Step ρ1 ρ2 σ H1 H2 → Rep C [] ρ2 σ H2 → AfterS C W ρ σ H (k b ρ2) E → R b H2) : rdT C F W m σ H1 R := by
  refine rdT_iff.mpr ⟨[], ρ1, r, ?_⟩
  cases q : (evE F false m ρ1).bind asB with
  | ok x ρ2 =>
    rw [q] at h
    exact fun v H2 p => p.1 ▸ hk x ρ2 H2 p.2.1 p.2.2 h
  | exc c d ρ2 =>
    rw [q] at h
    exact fun cls dd H2 ⟨s, r2, e⟩ => h cls dd σ H2 ⟨sk.trans (s.sg.sk r), r2⟩ e
  | no =>
    rw [q] at h
    exact h
theorem seq_SL {es : List ME} {k : List VR → Rho → Oc} {R : List V → Hp → Prop} (sk : SK C ρ σ H ρ1 σ H1) (r : Rep C [] ρ1 σ H1) (h : AfterS C W ρ σ H ((evEs F es ρ1).oc k) E)
    (hk : ∀ xs ρ2 vs H2, LPost C [] ρ1 σ H1 xs ρ2 vs H2 → noL xs → AfterS C W ρ σ H (k xs ρ2) E → R vs H2) : rdL C W (evEs F es) σ H1 R := by
  refine ⟨[], ρ1, r, ?_⟩
  cases q : evEs F es ρ1 with
  | ok x ρ2 =>
    rw [q] at h
    exact fun v H2 p => hk x ρ2 v H2 p (noL_Es q) h
  | exc c d ρ2 =>
    rw [q] at h
    exact fun cls dd H2 ⟨s, r2, e⟩ => h cls dd σ H2 ⟨sk.trans (s.sg.sk r), r2⟩ e
  | no =>
    rw [q] at h
    exact h
theorem seq_SI {it : ME} {k : List D → Rho → Oc} {R : It → Hp → Prop} (sk : SK C ρ σ H ρ1 σ H1) (r : Rep C [] ρ1 σ H1) (h : AfterS C W ρ σ H ((evI F it ρ1).oc k) E)
    (hk : ∀ ds ρ2 J H2, IPost C [] ρ1 σ H1 ds ρ2 J H2 → AfterS C W ρ σ H (k ds ρ2) E → R J H2) : rdI C F W it σ H1 R := by
  refine ⟨[], ρ1, r, ?_⟩
  cases q : evI F it ρ1 with
  | ok x ρ2 =>
    rw [q] at h
    exact fun v H2 p => hk x ρ2 v H2 p h
  | exc c d ρ2 =>
    rw [q] at h
    exact fun cls dd H2 ⟨s, r2, e⟩ => h cls dd σ H2 ⟨sk.trans (s.sg.sk r), r2⟩ e
  | no =>
    rw [q] at h
    exact h
/-- a value kept over an expression's run -/
theorem EPost.sk (r : Rep C [] ρ σ H) (p : EPost C [] ρ σ H x ρ1 v H1) {w : V} {d : D} (h : Dr C.K (Reg C [] ρ σ) H w d) : Dr C.K (Reg C (tmps x v) ρ1 σ) H1 w d := by
  have := VRep.more (x := .v d) (v := w) r p.1 p.2.2.2 h
  rw [List.append_nil] at this
  exact this
/-- a name is set -/
theorem Rep.setG (r : Rep C T ρ σ H) {i : Nat} {s : Slot} (hi : ρ[i]? = some .un ∨ (∃ d, ρ[i]? = some (.val d)) ∨ (∃ d, ρ[i]? = some (.own d)) ∧ ∀ a, (i, a) ∉ C.lent)
    (hs : (∃ d, s = .val d ∧ T = [] ∧ Dr C.K (Reg C T ρ σ) H v d) ∨ ∃ d a, s = .own d ∧ v = .ref a ∧ T = [a] ∧ Top C.K (Reg C T ρ σ) H a d) :
    Rep C [] (ρ.set i s) (σ.set i (some v)) H ∧ ∀ {w d}, Dr C.K (Reg C T ρ σ) H w d → Dr C.K (Reg C [] (ρ.set i s) (σ.set i (some v))) H w d := by
  have hl : i < ρ.length := by
    rcases hi with h | ⟨d, h⟩ | ⟨⟨d, h⟩, _⟩ <;> exact (List.getElem?_eq_some_iff.mp h).1
  have hl2 : i < σ.length := by rw [← r.len]; exact hl
  have nn : ∀ d, ρ[i]? ≠ some (.nam d) := fun d h => by
    rcases hi with q | ⟨e, q⟩ | ⟨⟨e, q⟩, _⟩ <;> (rw [q] at h; cases h)
  have sn : ∀ d, s ≠ .nam d := fun d h => by
    rcases hs with ⟨e, q, _⟩ | ⟨e, a, q, _⟩ <;> (rw [q] at h; cases h)
  have gn : ∀ {j : Nat}, j ≠ i → (σ.set i (some v))[j]? = σ[j]? := fun h => List.getElem?_set_ne (Ne.symm h)
  have gr : ∀ {j : Nat}, j ≠ i → (ρ.set i s)[j]? = ρ[j]? := fun h => List.getElem?_set_ne (Ne.symm h)
  have gi : (σ.set i (some v))[i]? = some (some v) := List.getElem?_set_self hl2
  have fn : ∀ (j : Nat) d, (ρ.set i s)[j]? = some (.nam d) → j ≠ i ∧ ρ[j]? = some (.nam d) := fun j d h => by
    rcases set_get h with ⟨_, q⟩ | q
    · exact absurd q.symm (sn d)
    · exact q
  have bn : ∀ (j : Nat) d, ρ[j]? = some (.nam d) → j ≠ i := fun j d h q => nn d (q ▸ h)
  have nw : ∀ a, Nams (ρ.set i s) (σ.set i (some v)) a ↔ Nams ρ σ a := fun a => by
    constructor
    · rintro ⟨j, d, h1, h2⟩
      obtain ⟨hj, h3⟩ := fn j d h1
      exact ⟨j, d, h3, by rw [← gn hj]; exact h2⟩
    · rintro ⟨j, d, h1, h2⟩
      have hj := bn j d h1
      exact ⟨j, d, by rw [gr hj]; exact h1, by rw [gn hj]; exact h2⟩
  -- what is owned now
  have ow : ∀ (j : Nat) d a, (ρ.set i s)[j]? = some (.own d) → (σ.set i (some v))[j]? = some (some (.ref a)) → (j = i ∧ s = .own d ∧ v = .ref a ∧ a ∈ T) ∨ (j ≠ i ∧ ρ[j]? = some (.own d) ∧ σ[j]? = some (some (.ref a))) := fun j d a h1 h2 => by
    rcases set_get h1 with ⟨q1, q2⟩ | ⟨q1, q2⟩
    · subst q1
      rw [gi] at h2
      cases h2
      rcases hs with ⟨e, q, _⟩ | ⟨e, b, q, k1, k2, _⟩
      · rw [q] at q2; cases q2
      · cases k1
        exact .inl ⟨rfl, q2.symm, rfl, by rw [k2]; simp⟩
    · exact .inr ⟨q1, q2, by rw [← gn q1]; exact h2⟩
  have owT : ∀ a, Owns (ρ.set i s) (σ.set i (some v)) a → Owns ρ σ a ∨ a ∈ T := fun a ⟨j, d, h1, h2⟩ => (ow j d a h1 h2).elim (fun z => .inr z.2.2.2) fun z => .inl ⟨j, d, z.2.1, z.2.2⟩
  have rg : ∀ nm a, Reg C T ρ σ nm a → Reg C [] (ρ.set i s) (σ.set i (some v)) nm a := fun nm a g => ⟨g.out, (fun z => nomatch z), fun o => (owT a o).elim g.own g.tmp, g.nam.trans (or_congr Iff.rfl (nw a).symm)⟩
  have dr : ∀ {w d}, Dr C.K (Reg C T ρ σ) H w d → Dr C.K (Reg C [] (ρ.set i s) (σ.set i (some v))) H w d := fun {w d} q => q.mono fun _ _ g _ => rg _ _ g
  refine ⟨?_, dr⟩
  exact {
    len := by rw [List.length_set, List.length_set]; exact r.len
    val := fun j z h => by
      rcases set_get h with ⟨q1, q2⟩ | ⟨q1, q2⟩
      · subst q1
        rcases hs with ⟨e, q, _, k⟩ | ⟨e, a, q, _⟩
        · rw [q] at q2
          cases q2
          exact ⟨v, gi, dr k⟩
        · rw [q] at q2; cases q2
      · obtain ⟨w, k1, k2⟩ := r.val j z q2
        exact ⟨w, by rw [gn q1]; exact k1, dr k2⟩
    own := fun j z h => by
      rcases set_get h with ⟨q1, q2⟩ | ⟨q1, q2⟩
      · subst q1
        rcases hs with ⟨e, q, _⟩ | ⟨e, a, q, k1, _, k⟩
        · rw [q] at q2; cases q2
        · rw [q] at q2
          cases q2
          subst k1
          exact ⟨a, gi, k.keep Keep.refl (fun _ _ g _ => rg _ _ g) fun _ z => z⟩
      · obtain ⟨a, k1, k2⟩ := r.own j z q2
        exact ⟨a, by rw [gn q1]; exact k1, k2.keep Keep.refl (fun _ _ g _ => rg _ _ g) fun _ z => z⟩
    nam := fun j z h => by
      obtain ⟨hj, h3⟩ := fn j z h
      obtain ⟨a, vs, k1, k2, k3, k4⟩ := r.nam j z h3
      exact ⟨a, vs, by rw [gn hj]; exact k1, k2, k3.mono (fun _ _ g _ => ⟨g.1, rg _ _ g.2⟩), k4⟩
    apart := fun j k z y b h1 h2 h3 h4 => by
      rcases ow j z b h1 h3 with ⟨a1, _, _, a2⟩ | ⟨a1, a2, a3⟩
      · rcases ow k y b h2 h4 with ⟨b1, _⟩ | ⟨b1, b2, b3⟩
        · exact a1.trans b1.symm
        · exact absurd a2 (r.ownT b ⟨k, y, b2, b3⟩)
      · rcases ow k y b h2 h4 with ⟨b1, _, _, b2⟩ | ⟨b1, b2, b3⟩
        · exact absurd b2 (r.ownT b ⟨j, z, a2, a3⟩)
        · exact r.apart j k z y b a2 b2 a3 b3
    ownT := fun b _ z => nomatch z
    tmpAt := fun b z => nomatch z
    ownN := fun b h => by
      rw [nw b]
      rcases h with h | h
      · exact r.ownN b (owT b h)
      · cases h
    new := fun b h => by
      rcases h with h | h
      · exact r.new b (owT b h)
      · cases h
    newN := fun b h => r.newN b ((nw b).mp h)
    frame := r.frame
    cn := r.cn
    lent := fun j b h => by
      obtain ⟨q1, z, q2⟩ := r.lent j b h
      have hj : j ≠ i := fun w => by
        subst w
        rcases hi with k | ⟨e, k⟩ | ⟨_, k⟩
        · rw [q2] at k; cases k
        · rw [q2] at k; cases k
        · exact k b h
      exact ⟨by rw [gn hj]; exact q1, z, by rw [gr hj]; exact q2⟩ }
theorem setOk_at {i : Nat} (hm : ∀ i a, (i, a) ∈ C.lent → F.mine.contains i = true) (h : setOk F ρ i = true) : ρ[i]? = some .un ∨ (∃ d, ρ[i]? = some (.val d)) ∨ (∃ d, ρ[i]? = some (.own d)) ∧ ∀ a, (i, a) ∉ C.lent := by
  unfold setOk at h
  split at h
  · exact .inl (by assumption)
  · rename_i d e
    exact .inr (.inl ⟨d, e⟩)
  · rename_i d e
    refine .inr (.inr ⟨⟨d, e⟩, fun a z => ?_⟩)
    rw [hm i a z] at h
    cases h
  · cases h
/-- x = e -/
theorem set_ok {i : Nat} (hm : ∀ i a, (i, a) ∈ C.lent → F.mine.contains i = true) (r : Rep C (tmps x v) ρ σ H) (q : VRep C (tmps x v) ρ σ H x v) (h : setV F ρ i x = some ρ') :
    Rep C [] ρ' (σ.set i (some v)) H ∧ ∀ {w d}, Dr C.K (Reg C (tmps x v) ρ σ) H w d → Dr C.K (Reg C [] ρ' (σ.set i (some v))) H w d := by
  cases x with
  | l j => cases h
  | v d =>
    simp only [setV] at h
    split at h
    · rename_i ho
      cases h
      have e : tmps (.v d) v = [] := by cases v <;> rfl
      rw [e] at r q ⊢
      exact r.setG (setOk_at hm ho) (.inl ⟨d, rfl, rfl, q⟩)
    · cases h
  | f d =>
    simp only [setV] at h
    split at h
    · rename_i ho
      cases h
      obtain ⟨a, rfl, m, t⟩ := q
      exact r.setG (setOk_at hm ho) (.inr ⟨d, a, rfl, rfl, rfl, t⟩)
    · cases h
/-- a name is set, other new lists are still in hand -/
theorem Rep.setT {T' tm : List Addr} (r : Rep C T ρ σ H) {i : Nat} {s : Slot} (hi : ρ[i]? = some .un ∨ (∃ d, ρ[i]? = some (.val d)) ∨ (∃ d, ρ[i]? = some (.own d)) ∧ ∀ a, (i, a) ∉ C.lent)
    (hT : ∀ b, b ∈ T' → b ∈ T) (hn : ∀ b, b ∈ tm → b ∈ T ∧ b ∉ T')
    (hs : (∃ d, s = .val d ∧ Dr C.K (Reg C T ρ σ) H v d) ∨ ∃ d a, s = .own d ∧ v = .ref a ∧ a ∈ tm ∧ Top C.K (Reg C T ρ σ) H a d) :
    Rep C T' (ρ.set i s) (σ.set i (some v)) H ∧ ∀ nm a, Reg C T ρ σ nm a → Reg C T' (ρ.set i s) (σ.set i (some v)) nm a := by
  have hl : i < ρ.length := by
    rcases hi with h | ⟨d, h⟩ | ⟨⟨d, h⟩, _⟩ <;> exact (List.getElem?_eq_some_iff.mp h).1
  have hl2 : i < σ.length := by rw [← r.len]; exact hl
  have nn : ∀ d, ρ[i]? ≠ some (.nam d) := fun d h => by
    rcases hi with q | ⟨e, q⟩ | ⟨⟨e, q⟩, _⟩ <;> (rw [q] at h; cases h)
  have sn : ∀ d, s ≠ .nam d := fun d h => by
    rcases hs with ⟨e, q, _⟩ | ⟨e, a, q, _⟩ <;> (rw [q] at h; cases h)
  have gn : ∀ {j : Nat}, j ≠ i → (σ.set i (some v))[j]? = σ[j]? := fun h => List.getElem?_set_ne (Ne.symm h)
  have gr : ∀ {j : Nat}, j ≠ i → (ρ.set i s)[j]? = ρ[j]? := fun h => List.getElem?_set_ne (Ne.symm h)
  have gi : (σ.set i (some v))[i]? = some (some v) := List.getElem?_set_self hl2
  have fn : ∀ (j : Nat) d, (ρ.set i s)[j]? = some (.nam d) → j ≠ i ∧ ρ[j]? = some (.nam d) := fun j d h => by
    rcases set_get h with ⟨_, q⟩ | q
    · exact absurd q.symm (sn d)
    · exact q
  have bn : ∀ (j : Nat) d, ρ[j]? = some (.nam d) → j ≠ i := fun j d h q => nn d (q ▸ h)
  have nw : ∀ a, Nams (ρ.set i s) (σ.set i (some v)) a ↔ Nams ρ σ a := fun a => by
    constructor
    · rintro ⟨j, d, h1, h2⟩
      obtain ⟨hj, h3⟩ := fn j d h1
      exact ⟨j, d, h3, by rw [← gn hj]; exact h2⟩
    · rintro ⟨j, d, h1, h2⟩
      have hj := bn j d h1
      exact ⟨j, d, by rw [gr hj]; exact h1, by rw [gn hj]; exact h2⟩
  have ow : ∀ (j : Nat) d a, (ρ.set i s)[j]? = some (.own d) → (σ.set i (some v))[j]? = some (some (.ref a)) → (j = i ∧ s = .own d ∧ v = .ref a ∧ a ∈ tm) ∨ (j ≠ i ∧ ρ[j]? = some (.own d) ∧ σ[j]? = some (some (.ref a))) := fun j d a h1 h2 => by
    rcases set_get h1 with ⟨q1, q2⟩ | ⟨q1, q2⟩
    · subst q1
      rw [gi] at h2
      cases h2
      rcases hs with ⟨e, q, _⟩ | ⟨e, b, q, k1, k2, _⟩
      · rw [q] at q2; cases q2
      · cases k1
        exact .inl ⟨rfl, q2.symm, rfl, k2⟩
    · exact .inr ⟨q1, q2, by rw [← gn q1]; exact h2⟩
  have owT : ∀ a, Owns (ρ.set i s) (σ.set i (some v)) a → Owns ρ σ a ∨ a ∈ tm := fun a ⟨j, d, h1, h2⟩ => (ow j d a h1 h2).elim (fun z => .inr z.2.2.2) fun z => .inl ⟨j, d, z.2.1, z.2.2⟩
  have rg : ∀ nm a, Reg C T ρ σ nm a → Reg C T' (ρ.set i s) (σ.set i (some v)) nm a := fun nm a g => ⟨g.out, fun z => g.tmp (hT a z), fun o => (owT a o).elim g.own fun m => g.tmp (hn a m).1, g.nam.trans (or_congr Iff.rfl (nw a).symm)⟩
  have dr : ∀ {w d}, Dr C.K (Reg C T ρ σ) H w d → Dr C.K (Reg C T' (ρ.set i s) (σ.set i (some v))) H w d := fun {w d} q => q.mono fun _ _ g _ => rg _ _ g
  refine ⟨?_, rg⟩
  exact {
    len := by rw [List.length_set, List.length_set]; exact r.len
    val := fun j z h => by
      rcases set_get h with ⟨q1, q2⟩ | ⟨q1, q2⟩
      · subst q1
        rcases hs with ⟨e, q, k⟩ | ⟨e, a, q, _⟩
        · rw [q] at q2
          cases q2
          exact ⟨v, gi, dr k⟩
        · rw [q] at q2; cases q2
      · obtain ⟨w, k1, k2⟩ := r.val j z q2
        exact ⟨w, by rw [gn q1]; exact k1, dr k2⟩
    own := fun j z h => by
      rcases set_get h with ⟨q1, q2⟩ | ⟨q1, q2⟩
      · subst q1
        rcases hs with ⟨e, q, _⟩ | ⟨e, a, q, k1, _, k⟩
        · rw [q] at q2; cases q2
        · rw [q] at q2
          cases q2
          subst k1
          exact ⟨a, gi, k.keep Keep.refl (fun _ _ g _ => rg _ _ g) fun _ z => z⟩
      · obtain ⟨a, k1, k2⟩ := r.own j z q2
        exact ⟨a, by rw [gn q1]; exact k1, k2.keep Keep.refl (fun _ _ g _ => rg _ _ g) fun _ z => z⟩
    nam := fun j z h => by
      obtain ⟨hj, h3⟩ := fn j z h
      obtain ⟨a, vs, k1, k2, k3, k4⟩ := r.nam j z h3
      exact ⟨a, vs, by rw [gn hj]; exact k1, k2, k3.mono (fun _ _ g _ => ⟨g.1, rg _ _ g.2⟩), k4⟩
    apart := fun j k z y b h1 h2 h3 h4 => by
      rcases ow j z b h1 h3 with ⟨a1, _, _, a2⟩ | ⟨a1, a2, a3⟩
      · rcases ow k y b h2 h4 with ⟨b1, _⟩ | ⟨b1, b2, b3⟩
        · exact a1.trans b1.symm
        · exact absurd (hn b a2).1 (r.ownT b ⟨k, y, b2, b3⟩)
      · rcases ow k y b h2 h4 with ⟨b1, _, _, b2⟩ | ⟨b1, b2, b3⟩
        · exact absurd (hn b b2).1 (r.ownT b ⟨j, z, a2, a3⟩)
        · exact r.apart j k z y b a2 b2 a3 b3
    ownT := fun b h z => (owT b h).elim (fun o => r.ownT b o (hT b z)) fun m => (hn b m).2 z
    tmpAt := fun b z => r.tmpAt b (hT b z)
    ownN := fun b h => by
      rw [nw b]
      rcases h with h | h
      · exact r.ownN b ((owT b h).imp id fun m => (hn b m).1)
      · exact r.ownN b (.inr (hT b h))
    new := fun b h => by
      rcases h with h | h
      · exact r.new b ((owT b h).imp id fun m => (hn b m).1)
      · exact r.new b (.inr (hT b h))
    newN := fun b h => r.newN b ((nw b).mp h)
    frame := r.frame
    cn := r.cn
    lent := fun j b h => by
      obtain ⟨q1, z, q2⟩ := r.lent j b h
      have hj : j ≠ i := fun w => by
        subst w
        rcases hi with k | ⟨e, k⟩ | ⟨_, k⟩
        · rw [q2] at k; cases k
        · rw [q2] at k; cases k
        · exact k b h
      exact ⟨by rw [gn hj]; exact q1, z, by rw [gr hj]; exact q2⟩ }
def setsV : List Nat → List V → St → St
  | i :: is, v :: vs, σ => setsV is vs (σ.set i (some v))
  | _, _, σ => σ
theorem VReps.move {T' : List Addr} (rg : ∀ nm a, Reg C T ρ σ nm a → Reg C T' ρ' σ' nm a) : ∀ {xs : List VR} {vs : List V}, noL xs → (∀ b ∈ tmpsL xs vs, b ∈ T') → VReps C T ρ σ H xs vs → VReps C T' ρ' σ' H xs vs
  | _, _, _, _, .nil => .nil
  | x :: xs, v :: vs, nl, ht, .cons h t => by
    refine .cons ?_ (VReps.move rg nl.2 (fun b m => ht b (List.mem_append_left _ m)) t)
    cases x with
    | v d => exact Dr.mono (fun _ _ g _ => rg _ _ g) h
    | f d =>
      obtain ⟨a, rfl, m, k⟩ := h
      exact ⟨a, rfl, ht a (List.mem_append_right _ List.mem_cons_self), k.keep Keep.refl (fun _ _ g _ => rg _ _ g) fun _ z => z⟩
    | l i => exact absurd rfl (nl.1 i)
theorem setAll_ok (hm : ∀ i a, (i, a) ∈ C.lent → F.mine.contains i = true) : ∀ {is : List Nat} {xs : List VR} {vs : List V} {ρ ρ' : Rho} {σ : St} {T : List Addr}, noL xs → Rep C T ρ σ H → VReps C T ρ σ H xs vs → setAll F is xs ρ = some ρ' → (∀ b, b ∈ T ↔ b ∈ tmpsL xs vs) → (tmpsL xs vs).Nodup →
    is.length = vs.length ∧ Rep C [] ρ' (setsV is vs σ) H ∧ ∀ nm b, Reg C T ρ σ nm b → Reg C [] ρ' (setsV is vs σ) nm b
  | [], xs, vs, ρ, ρ', σ, T, nl, r, q, h, ht, nd => by
    cases q with
    | nil =>
      cases h
      have : T = [] := List.eq_nil_iff_forall_not_mem.mpr fun b m => by
        have := (ht b).mp m
        cases this
      subst this
      exact ⟨rfl, r, fun _ _ g => g⟩
    | cons _ _ => cases h
  | i :: is, xs, vs, ρ, ρ', σ, T, nl, r, q, h, ht, nd => by
    cases q with
    | nil => cases h
    | cons q1 q2 =>
      rename_i x xs v vs
      unfold setAll at h
      cases e : setV F ρ i x with
      | none => rw [e] at h; cases h
      | some ρ1 =>
        rw [e] at h
        simp only at h
        have nd2 := List.nodup_append.mp (show (tmpsL xs vs ++ tmps x v).Nodup from nd)
        have ht' : ∀ b, b ∈ T ↔ b ∈ tmpsL xs vs ++ tmps x v := ht
        have hT : ∀ b, b ∈ tmpsL xs vs → b ∈ T := fun b m => (ht' b).mpr (List.mem_append_left _ m)
        have hn : ∀ b, b ∈ tmps x v → b ∈ T ∧ b ∉ tmpsL xs vs := fun b m => ⟨(ht' b).mpr (List.mem_append_right _ m), fun z => nd2.2.2 b z b m rfl⟩
        have go : Rep C (tmpsL xs vs) ρ1 (σ.set i (some v)) H ∧ ∀ nm a, Reg C T ρ σ nm a → Reg C (tmpsL xs vs) ρ1 (σ.set i (some v)) nm a := by
          cases x with
          | l j => cases e
          | v d =>
            simp only [setV] at e
            split at e
            · rename_i ho
              cases e
              exact r.setT (setOk_at hm ho) hT hn (.inl ⟨d, rfl, q1⟩)
            · cases e
          | f d =>
            simp only [setV] at e
            split at e
            · rename_i ho
              cases e
              obtain ⟨a, rfl, m, t⟩ := q1
              exact r.setT (setOk_at hm ho) hT hn (.inr ⟨d, a, rfl, rfl, List.mem_cons_self, t⟩)
            · cases e
        obtain ⟨l1, l2, l3⟩ := setAll_ok hm nl.2 go.1 (q2.move go.2 nl.2 fun b m => m) h (fun b => Iff.rfl) nd2.1
        exact ⟨by simp [l1], l2, fun nm b g => l3 nm b (go.2 nm b g)⟩
end
end Own

/-! part Own19 -/
namespace Own
open PySem PySem.Spec L2

structure GoodS (X : Cx) (C : Cn) (F : Fns) (W : WX) (g : Gi) : Prop where
  G : Good X C F W g
  own : PassesOwn (model X.prog X.w) X.A X.env X.xe
  fn : ∀ x, X.fn x = true
  kind : X.env.scope.kind = .function
  stk : X.stack = X.env :: X.outer
  frm : X.env.frame = some X.env.locals
  exn : X.ex = []
/-- except C as n: m = n -/
def chkH (g : Gi) (N : List Str) (sc : Scope) (c : Str) (i j : Nat) : List ExceptHandler → Bool
  | [.ExceptHandler (some (.Name x _)) (some n) [.Assign [.Name m _] (.Name n2 _) _] _] => decide (x = c) && glB sc x && okName x && g.excs.contains x && N[i]? == some n && N[j]? == some m && decide (n2 = n) && sc.names.lookup n == some .local && sc.names.lookup m == some .local && okName n && decide (i ≠ j)
  | _ => false
def chkHEs (g : Gi) (n : Str) (sc : Scope) : List HE → List Expr → Bool
  | [], [] => true
  | .isx c :: r, .Call (.Name x _) [.Name y _, .Name z _] [] _ :: xs => decide (x = "isinstance") && decide (y = n) && decide (z = c) && glB sc x && glB sc z && okName z && g.blts.contains x && g.excs.contains z && chkHEs g n sc r xs
  | .fld :: r, .Attribute (.Name y _) f _ :: xs => decide (y = n) && decide (f = "value") && chkHEs g n sc r xs
  | _, _ => false
/-- except C as n: m = (..) -/
def chkH2 (g : Gi) (N : List Str) (sc : Scope) (c : Str) (i j : Nat) (es : List HE) : List ExceptHandler → Bool
  | [.ExceptHandler (some (.Name x _)) (some n) [.Assign [.Name m _] (.Tuple xs _ _) _] _] => decide (x = c) && glB sc x && okName x && g.excs.contains x && N[i]? == some n && N[j]? == some m && sc.names.lookup n == some .local && sc.names.lookup m == some .local && okName n && decide (i ≠ j) && chkHEs g n sc es xs
  | _ => false
/-- a comprehension that is set into a local name on one line -/
def swB (e : Expr) (sc : Scope) (x : Str) (p : Pos) : Bool := match e with
  | .ListComp _ _ s p2 => sc.names.lookup x == some .local && p.line == p2.line && !(s.names.any fun (n, k) => n == x && (k == .local || k == .cell))
  | .SetComp .. => true
  | .DictComp .. => true
  | _ => false
def noSD : Expr → Bool
  | .SetComp .. => false | .DictComp .. => false | .ListComp _ [_, _] _ _ => false | _ => true
def notComp : Expr → Bool
  | .ListComp .. => false | .SetComp .. => false | .DictComp .. => false | _ => true
/-- what the stores of a pair's parts become -/
def swS (sc : Scope) (tg e : Expr) : Option (Option (List Str)) := match tg, e with
  | .Tuple ts _ _, .Tuple vs _ _ =>
    if (!(ts.length == 2 || ts.length == 3) || vs.length != ts.length) = true then some none
    else if (vs.any fun | .Starred .. => true | _ => false) = true then some none
    else
      let line := (ts.head?.map (·.pos.line)).getD 0
      let names := ts.filterMap fun
        | .Name id pos => if (sc.names.lookup id == some .local && pos.line == line) = true then some id else none
        | _ => none
      if (names.length != ts.length || names.eraseDups.length != names.length) = true then some none
      else if vs.all (foldedForSure 8) = true then some none
      else if vs.all (constantsAlone 8) = true then none
      else some (some names)
  | .Tuple .., _ => some none
  | .Name .., _ => some none
  | .Subscript .., _ => some none
  | _, _ => none
def tupE : Expr → List Expr
  | .Tuple es _ _ => es
  | _ => []
/-- names that are set together -/
def chkPar (N : List Str) (sc : Scope) (is : List Nat) (tg e : Expr) : Bool := match is, tg, e with
  | [i, j], .Tuple [.Name x px, .Name y py] kt pt, .Tuple [e1, e2] k2 p2 => N[i]? == some x && N[j]? == some y && i != j && decide (sc.names.lookup x = some .local) && decide (sc.names.lookup y = some .local) &&
      decide (swS sc (.Tuple [.Name x px, .Name y py] kt pt) (.Tuple [e1, e2] k2 p2) = some (some [x, y]))
  | [i, j, l], .Tuple [.Name x px, .Name y py, .Name z pz] kt pt, .Tuple [e1, e2, e3] k2 p2 => N[i]? == some x && N[j]? == some y && N[l]? == some z && i != j && i != l && j != l && decide (sc.names.lookup x = some .local) && decide (sc.names.lookup y = some .local) && decide (sc.names.lookup z = some .local) &&
      decide (swS sc (.Tuple [.Name x px, .Name y py, .Name z pz] kt pt) (.Tuple [e1, e2, e3] k2 p2) = some (some [x, y, z]))
  | is, .Tuple ts kt pt, .Tuple es k2 p2 => decide (4 ≤ is.length ∧ is.length ≤ 100) && chkTs N sc true (is.map .nm) ts && decide (es.length = is.length) && (match swS sc (.Tuple ts kt pt) (.Tuple es k2 p2) with | some none => true | _ => false)
  | _, _, _ => false
def key1 : Expr → Expr
  | .Tuple (.Subscript _ k _ :: _) _ _ => k
  | e => e
def key2 : Expr → Expr
  | .Tuple (_ :: .Subscript _ k _ :: _) _ _ => k
  | e => e
def chkSet2 (N : List Str) (sc : Scope) (i j : Nat) (tg e : Expr) : Bool := match tg with
  | .Tuple [.Subscript (.Name x p) ke sp, .Subscript (.Name y q) le sq] kt pt => N[i]? == some x && visB sc x && okName x && N[j]? == some y && visB sc y && okName y && notSlice ke && notSlice le &&
      (match swS sc (.Tuple [.Subscript (.Name x p) ke sp, .Subscript (.Name y q) le sq] kt pt) e with | some none => true | _ => false)
  | _ => false
mutual
def chkS (g : Gi) (N : List Str) (sc : Scope) : MS → Stmt → Bool
  | .asg i m, .Assign [.Name x p] e _ => N[i]? == some x && storB sc true x && okName x && chkE g N sc m e && noSD e
  | .asgT t m, .Assign [tg] e _ => isTup tg && chkT N sc true t tg && chkE g N sc m e && (match swS sc tg e with | some none => true | _ => false)
  | .asgL ts m, .Assign [tg] e _ => isTup tg && chkTs N sc true ts (tupE tg) && chkE g N sc m e && (match swS sc tg e with | some none => true | _ => false)
  | .par is ms, .Assign [tg] e _ => chkPar N sc is tg e && chkEs g N sc ms (tupE e)
  | .aug i o m, .AugAssign (.Name x _) op e _ => N[i]? == some x && storB sc true x && okName x && bopB o op && chkE g N sc m e
  | .setd i k m, .Assign [.Subscript (.Name x _) ke _] e _ => N[i]? == some x && visB sc x && okName x && chkE g N sc k ke && chkE g N sc m e && notSlice ke && notComp e
  | .seti i k m, .Assign [.Subscript (.Name x _) ke _] e _ => N[i]? == some x && visB sc x && okName x && chkE g N sc k ke && chkE g N sc m e && notSlice ke && notComp e
  | .set2 i k j l m, .Assign [tg] e _ => chkSet2 N sc i j tg e && chkE g N sc k (key1 tg) && chkE g N sc l (key2 tg) && chkE g N sc m e && notComp e
  | .exp m, .Expr e _ => chkE g N sc m e && notComp e
  | .iff c a b, .If ce as bs _ => chkE g N sc c ce && chkSs g N sc a as && chkSs g N sc b bs
  | .wh c b, .While ce bs [] _ => chkE g N sc c ce && chkSs g N sc b bs
  | .for t it b, .For tg i bs [] _ => chkT N sc true t tg && chkI g N sc it tg i && notSet i && chkSs g N sc b bs
  | .ret m, .Return (some e) _ => chkE g N sc m e
  | .retN, .Return none _ => true
  | .brk, .Break _ => true
  | .cnt, .Continue _ => true
  | .pas, .Pass _ => true
  | .nev, _ => true
  | .rai c m, .Raise (some (.Call (.Name x _) [y] [] _)) none _ => decide (x = c) && glB sc x && okName x && chkE g N sc m y && notStar y && g.excs.contains x
  | .tryE b c i j, .Try bs hs [] [] _ => chkH g N sc c i j hs && chkSs g N sc b bs
  | .tryT b c i j es, .Try bs hs [] [] _ => chkH2 g N sc c i j es hs && chkSs g N sc b bs
  | _, _ => false
def chkSs (g : Gi) (N : List Str) (sc : Scope) : List MS → List Stmt → Bool
  | [], [] => true
  | m :: ms, s :: ss => chkS g N sc m s && chkSs g N sc ms ss
  | _, _ => false
end
section
variable {α β : Type} {C : Cn} {F : Fns} {W : WX} {g : Gi} {T L : List Addr} {ρ ρ' ρ1 ρ2 ρ3 : Rho} {σ σ' σ1 σ2 : St} {H H' H1 H2 H3 : Hp} {x y : VR} {v w : V} {d e : D} {E : Ends} {X : Cx}
theorem bk_of (h : X.env.scope.kind = .function) : X.env.blockKind = .function := by
  unfold PySem.Env.blockKind
  rw [h]
  rfl
theorem swaps_of {x : Str} {p : Pos} {line : Nat} {e : Expr} (h : X.env.scope.kind = .function) (hc : noSD e = true) : swapsWith e (some (.Name x p)) line X.env = pure (swB e X.env.scope x p) := by
  have hb := bk_of h
  cases e <;> first | rfl | (cases hc; done) | skip
  unfold swapsWith swB
  simp only [hb]
  rfl
theorem swaps_none {e : Expr} {line : Nat} (h : notComp e = true) : swapsWith e none line X.env = pure false := by
  cases e <;> first | rfl | cases h
theorem swaps_tup {tg e : Expr} {line : Nat} (h : notComp e = true) : swapsWithSole [tg] e line X.env = pure false := by
  cases e <;> first | rfl | cases h
theorem swaps_tupT {tg e : Expr} {line : Nat} (h : isTup tg = true) : swapsWithSole [tg] e line X.env = pure false := by
  cases tg <;> first | (cases h; done) | skip
  cases e <;> rfl
theorem swS_of {tg e : Expr} {r : Option (List Str)} (h : X.env.scope.kind = .function) (hs : swS X.env.scope tg e = some r) : swappedStores [tg] e X.env = pure r := by
  have hb := bk_of h
  unfold swS at hs
  split at hs
  · rename_i ts k p vs k2 p2
    unfold swappedStores
    simp only [hb]
    by_cases h1 : (!(ts.length == 2 || ts.length == 3) || vs.length != ts.length) = true
    · rw [if_pos h1] at hs
      cases hs
      have : ((!(ts.length == 2 || ts.length == 3) || vs.length != ts.length || ScopeKind.function != ScopeKind.function) = true) := by rw [h1]; rfl
      simp only [this]
      rfl
    · rw [if_neg h1] at hs
      have : ((!(ts.length == 2 || ts.length == 3) || vs.length != ts.length || ScopeKind.function != ScopeKind.function) = false) := by
        have : (!(ts.length == 2 || ts.length == 3) || vs.length != ts.length) = false := by simpa using h1
        rw [this]; rfl
      simp only [this]
      refine Eq.trans (if_neg (fun z => nomatch z)) ?_
      split at hs
      · rename_i h2
        cases hs
        exact if_pos h2
      · rename_i h2
        refine Eq.trans (if_neg h2) ?_
        simp only at hs
        split at hs
        · rename_i h3
          cases hs
          exact if_pos h3
        · rename_i h3
          refine Eq.trans (if_neg h3) ?_
          split at hs
          · rename_i h4
            cases hs
            exact if_pos h4
          · rename_i h4
            refine Eq.trans (if_neg h4) ?_
            split at hs
            · cases hs
            · rename_i h5
              cases hs
              exact if_neg h5
  · rename_i hn
    cases hs; cases e <;> first | rfl | exact absurd rfl (hn _ _ _)
  · cases hs; cases e <;> rfl
  · cases hs; cases e <;> rfl
  · cases hs
theorem asg_rd (G : GoodS X C F W g) {i : Nat} (r : Rep C [] ρ σ H) (p : EPost C [] ρ σ H x ρ1 v H1) (h : AfterS C W ρ σ H (.of (setV F ρ1 i x)) E) : gName i v σ H1 E.nx := by
  cases q : setV F ρ1 i x with
  | none => rw [q] at h; exact h.elim
  | some ρ2 =>
    rw [q] at h
    have r1 : Rep C (tmps x v) ρ1 σ H1 := by have := p.2.1; rwa [List.append_nil] at this
    have q1 : VRep C (tmps x v) ρ1 σ H1 x v := by have := p.2.2.1; rwa [List.append_nil] at this
    obtain ⟨r2, k⟩ := set_ok G.G.mine r1 q1 q
    exact h _ _ ⟨fun w d hd => k (p.sk r hd), r2⟩
theorem stor_loc {sc : Scope} {x : Str} (h : storB sc true x = true) : L2.Loc sc x := by
  unfold storB at h
  unfold L2.Loc
  split at h
  · rename_i q; exact .inl q
  · rename_i q; exact .inr q
  · cases h
theorem asg_S (G : GoodS X C F W g) {i : Nat} {m : ME} {x : Str} {p pos : Pos} {e : Expr} (hN : X.N[i]? = some x) (hv : storB X.env.scope true x = true) (he : chkE g X.N X.env.scope m e = true) (hc : noSD e = true) :
    PS X (.Assign [.Name x p] e pos) (rdS C W (evS F (.asg i m))) := by
  have red : ∀ E σ H, rdS C W (evS F (.asg i m)) E σ H → tAsg (rdE C F W false m) (gName i) E σ H := fun E σ H ⟨ρ, r, h⟩ => by
    rw [evS] at h
    exact seq_SE .refl r h fun x ρ1 v H1 p h1 => asg_rd G r p h1
  cases hs : swB e X.env.scope x p with
  | false => exact imp_S (ps_set G.G.nd hN (stor_loc hv) (((all_E C F g m X W G.G).1 e he).val false) (by rw [swaps_of G.kind hc, hs]) (.inl (G.fn x))) red
  | true =>
    cases e with
    | SetComp => cases hc
    | DictComp => cases hc
    | ListComp ee gs sc2 p2 =>
      have hl : X.env.scope.names.lookup x = some .local := by
        simp only [swB, Bool.and_eq_true, beq_iff_eq] at hs
        exact hs.1.1
      cases m <;> (try (simp only [chkE] at he; done)) <;> (try (cases he; done))
      case lc2 =>
        simp only [chkE] at he
        split at he
        · cases hc
        · cases he
      rename_i elt tg it ifs
      obtain ⟨t, i', fs, rfl, L⟩ := lc_all G.G (p := p2) (all_E C F g elt) (all_E C F g it) (all_Es C F g ifs) he
      refine imp_S (ps_setLc G.G.calm G.G.nd hN hl (by rw [swaps_of G.kind hc, hs]) L.hi (blkOk_by L.hb) L.hg L.hts L.he L.hf) fun E σ H q => ?_
      exact lc_rd G.G.mine L.ht σ H _ (red E σ H q)
    | _ => cases hs
theorem tup_is {e : Expr} (h : isTup e = true) : ∃ es k p, e = .Tuple es k p := by
  cases e <;> first | exact ⟨_, _, _, rfl⟩ | cases h
theorem asgT_S (G : GoodS X C F W g) {t : MT} {m : ME} {tg e : Expr} {pos : Pos} (ht : isTup tg = true) (hT : chkT X.N X.env.scope true t tg = true) (he : chkE g X.N X.env.scope m e = true) (hs : swS X.env.scope tg e = some none) :
    PS X (.Assign [tg] e pos) (rdS C W (evS F (.asgT t m))) := by
  have h1 : (assignEach [tg] X.env).map (·.2) = [assign tg X.env] := by
    obtain ⟨es, k, p, rfl⟩ := tup_is ht
    rfl
  refine imp_S (ps_asg (((all_E C F g m X W G.G).1 e he).val false) (tg_PG G.G.calm G.G.nd (stor_fn G.fn) hT) (swaps_tupT ht) (swS_of G.kind hs) h1) fun E σ H ⟨ρ, r, h⟩ => ?_
  rw [evS] at h
  refine seq_SE .refl r h fun x ρ1 v H1 p h1 => ?_
  split at h1
  case isFalse => exact h1.elim
  rename_i hk
  split at h1
  case h_2 => exact h1.elim
  rename_i d e1
  cases q : bindT t d ρ1 with
  | none => rw [q] at h1; exact h1.elim
  | some ρ2 =>
    rw [q] at h1
    have dv := keep_v r p.2.1 p.2.2.1 (fun a m => p.2.2.2 a m) (noL_keeps hk) e1
    have r1 := p.2.1.lessL
    rw [G.G.K]
    exact bind_ok q r1 dv fun σ2 r2 o2 sb => h1 σ2 H1 ⟨(p.1.sg.trans o2.sg).sk r, r2⟩
theorem asgL_S (G : GoodS X C F W g) {ts : List MT} {m : ME} {es : List Expr} {kt : Nat} {pt pos : Pos} {e : Expr} (hT : chkTs X.N X.env.scope true ts es = true) (he : chkE g X.N X.env.scope m e = true) (hs : swS X.env.scope (.Tuple es kt pt) e = some none) :
    PS X (.Assign [.Tuple es kt pt] e pos) (rdS C W (evS F (.asgL ts m))) := by
  have h1 : (assignEach [.Tuple es kt pt] X.env).map (·.2) = [assign (.Tuple es kt pt) X.env] := rfl
  obtain ⟨l1, l2, _⟩ := assignEach_len (env := X.env) hT
  refine imp_S (ps_asg (((all_E C F g m X W G.G).1 e he).val false) (pg_lst (n := ts.length) G.G.calm (tg_PGs G.G.calm G.G.nd (stor_fn G.fn) hT) (l1.trans (chkTs_len hT).symm) l2) (swaps_tupT rfl) (swS_of G.kind hs) h1) fun E σ H ⟨ρ, r, h⟩ => ?_
  rw [evS] at h
  refine seq_SE .refl r h fun x ρ1 v H1 p h1 => ?_
  split at h1
  case isFalse => exact h1.elim
  rename_i hk
  split at h1
  case h_2 => exact h1.elim
  rename_i nm ds e1
  cases q : bindTs ts ds ρ1 with
  | none => rw [q] at h1; exact h1.elim
  | some ρ2 =>
    rw [q] at h1
    have rq := keep_v r p.2.1 p.2.2.1 (fun a m => p.2.2.2 a m) (noL_keeps hk) e1
    have r1 := p.2.1.lessL
    obtain ⟨a, vs, rfl, k1, k2⟩ := rq.dx
    rw [G.G.K]
    have := binds_ok q r1 k2 (Q := fun σ2 H2 => E.nx σ2 H2) fun σ2 r2 o2 sb => h1 σ2 H1 ⟨(p.1.sg.trans o2.sg).sk r, r2⟩
    exact ⟨a, vs, rfl, SqL.of k1, this.1, this.2⟩
theorem ext_upd' {H : Hp} {p : Addr} {o : HO} (h : H p = none) : Ext H (upd H p o) := fun b u e => by rw [upd_ne (ne_of_none e h)]; exact e
theorem par_end (G : GoodS X C F W g) {is : List Nat} {xs : List VR} {vs : List V} (ex : Ext H1 H2) (r : Rep C [] ρ σ H) (p : LPost C [] ρ σ H xs ρ1 vs H1) (nl : noL xs) (h1 : AfterS C W ρ σ H (parR F is ρ1 xs) E) : is.length = vs.length ∧ E.nx (setsV is vs σ) H2 := by
  obtain ⟨s1, r1, q1, n1, f1⟩ := p
  unfold parR at h1
  cases e : setAll F is xs ρ1 with
  | none => rw [e] at h1; exact h1.elim
  | some ρ' =>
    rw [e] at h1
    have r2 := r1.ext ex
    have q2 : VReps C (tmpsL xs vs ++ []) ρ1 σ H2 xs vs := VReps.more (L := []) r1 ex.step (fun _ z => nomatch z) q1
    obtain ⟨l1, l2, l3⟩ := setAll_ok G.G.mine nl r2 q2 e (fun b => by simp) f1
    refine ⟨l1, h1 _ _ ⟨fun v d hv => ?_, l2⟩⟩
    have k1 : Dr C.K (Reg C (tmpsL xs vs ++ []) ρ1 σ) H1 v d := VRep.more (x := .v d) (v := v) r s1 n1 hv
    have k2 := (ex.sg (ρ := ρ1) (σ := σ)).dr r1 k1
    exact k2.mono fun _ _ g _ => l3 _ _ g
theorem par_S (G : GoodS X C F W g) {i j : Nat} {ms : List ME} {x y : Str} {px py pt pt2 pos : Pos} {kt k2 : Nat} {e1 e2 : Expr} (hi : X.N[i]? = some x) (hj : X.N[j]? = some y) (hij : i ≠ j) (hx : X.env.scope.names.lookup x = some .local) (hy : X.env.scope.names.lookup y = some .local)
    (he : chkEs g X.N X.env.scope ms [e1, e2] = true) (hs : swS X.env.scope (.Tuple [.Name x px, .Name y py] kt pt) (.Tuple [e1, e2] k2 pt2) = some (some [x, y])) :
    PS X (.Assign [.Tuple [.Name x px, .Name y py] kt pt] (.Tuple [e1, e2] k2 pt2) pos) (rdS C W (evS F (.par [i, j] ms))) := by
  refine imp_S (ps_par G.G.calm G.G.nd hi hj hij hx hy ((all_Es C F g ms X W G.G).1 _ he).s (swS_of G.kind hs) rfl) fun E σ H ⟨ρ, r, h⟩ => ?_
  rw [evS] at h
  refine seq_SL .refl r h fun xs ρ1 vs H1 p nl h1 => ?_
  obtain ⟨l1, l2⟩ := par_end G (fun _ _ z => z) r p nl h1
  match vs, l1, l2 with
  | [v1, v2], _, l2 => exact ⟨v1, v2, rfl, l2⟩
theorem names_g {K : PySem.W.Frag} : ∀ {is : List Nat} {vs : List V} {σ : St} {Q : St → Hp → Prop}, is.length = vs.length → Q (setsV is vs σ) H → gTg.gTgs K (is.map .nm) vs σ H Q
  | [], [], _, _, _, h => ⟨rfl, h⟩
  | [], _ :: _, _, _, l, _ => by cases l
  | _ :: _, [], _, _, l, _ => by cases l
  | i :: is, v :: vs, σ, Q, l, h => ⟨v, vs, rfl, names_g (Nat.succ.inj l) h⟩
theorem parN_S (G : GoodS X C F W g) {is : List Nat} {ms : List ME} {ts es : List Expr} {pt pt2 pos : Pos} {kt k2 : Nat} (hl : is.length ≤ 100) (hT : chkTs X.N X.env.scope true (is.map .nm) ts = true) (he : chkEs g X.N X.env.scope ms es = true)
    (hs : swS X.env.scope (.Tuple ts kt pt) (.Tuple es k2 pt2) = some none) : PS X (.Assign [.Tuple ts kt pt] (.Tuple es k2 pt2) pos) (rdS C W (evS F (.par is ms))) := by
  obtain ⟨l1, l2, _⟩ := assignEach_len (env := X.env) hT
  have tg : PG X (.Tuple ts kt pt) (gTup X.K (is.map MT.nm).length (gTg.gTgs X.K (is.map .nm))) := pg_tup G.G.calm (tg_PGs G.G.calm G.G.nd (stor_fn G.fn) hT) (l1.trans (chkTs_len hT).symm) l2
  refine imp_S (ps_asg (pe_tup ((all_Es C F g ms X W G.G).1 _ he).s) tg (swaps_tupT rfl) (swS_of G.kind hs) rfl) fun E σ H ⟨ρ, r, h⟩ => ?_
  rw [evS] at h
  refine seq_SL .refl r h fun xs ρ1 vs H1 p nl h1 => ?_
  have l0 := (par_end G (fun _ _ z => z) r p nl h1).1
  refine ⟨by rw [← l0]; exact Nat.le_trans hl (by rw [sizeLine_eq]; decide), fun a ha => ⟨a, vs, rfl, .inl (.inl upd_same), by rw [List.length_map]; exact l0.symm, names_g l0 (par_end G (ext_upd' ha) r p nl h1).2⟩⟩
def IpU (X : Cx) (op : Operator) : TIp := fun x y H Q => ∃ r, PIp X op r ∧ r x y H Q
theorem ip_u {op : Operator} : PIp X op (IpU X op) := fun pins s σ H x y v u Q I r1 r2 ⟨_, h, q⟩ => h pins s σ H x y v u Q I r1 r2 q
theorem aop_ok {o : Bop} {z : D} (h : aop o d e = some z) (hv : Dr C.K (Reg C T ρ σ) H v d) (hw : Dx C.K (Reg C T ρ σ) H w e) {Q : VK} (q : ∀ u, (∀ R H, Dr C.K R H u z) → Q u H) : IpU X o.op v w H Q := by
  cases o <;> cases d <;> cases e <;> (try simp only [aop] at h) <;> (try (cases h; done))
  case add.int.int i j =>
    cases h; cases hv; cases hw
    exact ⟨_, iop_add, _, _, rfl, rfl, q _ fun _ _ => .int _⟩
  case sub.int.int i j =>
    cases h; cases hv; cases hw
    exact ⟨_, iop_sub, _, _, rfl, rfl, q _ fun _ _ => .int _⟩
  case mul.int.int i j =>
    split at h <;> cases h
    rename_i hm
    simp only [Bool.or_eq_true, decide_eq_true_eq] at hm
    cases hv; cases hw
    refine ⟨_, iop_mul, _, _, rfl, rfl, ?_, q _ fun _ _ => .int _⟩
    rcases hm with hm | hm
    · exact .inl (by omega)
    · exact .inr (by omega)
  case fdiv.int.int i j =>
    split at h <;> cases h
    rename_i hm
    cases hv; cases hw
    have hm2 := of_decide_eq_true hm
    exact ⟨_, iop_fdivW, _, _, rfl, rfl, hm2, q _ fun _ _ => .int _⟩
  case mod.int.int i j =>
    split at h <;> cases h
    rename_i hm
    cases hv; cases hw
    have hm2 := of_decide_eq_true hm
    exact ⟨_, iop_mod, _, _, rfl, rfl, hm2, q _ fun _ _ => .int _⟩
  case add.str.str i j =>
    split at h <;> cases h
    rename_i hm
    cases hv; cases hw
    exact ⟨_, iop_add_str, _, _, rfl, rfl, small_le hm, q _ fun _ _ => .str _⟩
theorem aug_S (G : GoodS X C F W g) {i : Nat} {o : Bop} {m : ME} {x : Str} {p pos : Pos} {op : Operator} {e : Expr} (hN : X.N[i]? = some x) (hv : storB X.env.scope true x = true) (ho : bopB o op = true) (he : chkE g X.N X.env.scope m e = true) :
    PS X (.AugAssign (.Name x p) op e pos) (rdS C W (evS F (.aug i o m))) := by
  have eo : op = o.op := by cases o <;> cases op <;> simp [bopB] at ho <;> rfl
  subst eo
  refine imp_S (ps_aug G.G.nd hN (stor_loc hv) (((all_E C F g m X W G.G).1 e he).val true) ip_u (.inl (G.fn x))) fun E σ H ⟨ρ, r, h⟩ => ?_
  rw [evS] at h
  split at h
  case h_2 => exact h.elim
  rename_i d0 e0
  obtain ⟨v0, k1, k2⟩ := r.val i d0 e0
  refine ⟨v0, k1, seq_SE .refl r h fun y ρ1 v H1 p h1 => ?_⟩
  unfold augR at h1
  split at h1
  case h_2 => exact h1.elim
  rename_i d e f1 f2
  cases q : aop o d e with
  | none => rw [q] at h1; exact h1.elim
  | some z =>
    rw [q] at h1
    obtain ⟨v1, g1, g2⟩ := p.2.1.val i d f1
    rw [k1] at g1
    cases g1
    refine aop_ok q g2 (derf_dx p.2.1 p.2.2.1 f2) fun u hu => ?_
    have hc : calmS ρ1 i = true := by unfold calmS; rw [f1]
    obtain ⟨r3, o3⟩ := p.2.1.lessL.slot hc (s := .val z) (o := some u) (.inr ⟨z, u, rfl, rfl, hu _ _⟩)
    exact h1 _ _ ⟨(p.1.sg.trans o3.sg).sk r, r3⟩
theorem sub_assign {o i : Expr} {p : Pos} (h : notSlice i = true) : ∀ v, assign (.Subscript o i p) X.env v = (do
      let ov ← holding [v] (eval o X.env)
      let iv ← holding [v, ov] (eval i X.env)
      standAt p
      holding [v, ov, iv] (setItem ov iv v)
      release [v, ov, iv] []) := by
  intro v
  cases i <;> first | rfl | cases h
theorem seti_S (G : GoodS X C F W g) {i : Nat} {k m : ME} {x : Str} {p sp pos : Pos} {ke e : Expr} (hN : X.N[i]? = some x) (hv : visB X.env.scope x = true) (ho : okName x = true) (hk : chkE g X.N X.env.scope k ke = true) (he : chkE g X.N X.env.scope m e = true) (hs : notSlice ke = true) (hc : notComp e = true) :
    PS X (.Assign [.Subscript (.Name x p) ke sp] e pos) (rdS C W (evS F (.seti i k m))) := by
  unfold okName at ho
  simp only [Bool.and_eq_true, Bool.not_eq_true'] at ho
  have sw : swappedStores [.Subscript (.Name x p) ke sp] e X.env = pure none := swS_of G.kind rfl
  refine imp_S (ps_asg (((all_E C F g m X W G.G).1 e he).val false) (pg_sub (pe_var hN (vis_of hv) ho.1.1 ho.1.2) (((all_E C F g k X W G.G).1 ke hk).val true) set_list (sub_assign hs)) (swaps_tup hc) sw rfl) fun E σ H ⟨ρ, r, h⟩ => ?_
  rw [evS] at h
  refine seq_SE .refl r h fun y ρ1 v H1 p1 h1 => ?_
  split at h1
  case isFalse => exact h1.elim
  rename_i hi
  obtain ⟨a, nm, ds, vs, e1, e2, e3, e4⟩ := ownL_at p1.2.1 hi
  refine ⟨.ref a, e2, ?_⟩
  refine seq_SE (p1.1.sg.sk r) p1.2.1 h1 fun z ρ2 w H2 p2 h2 => ?_
  have p2' : EPost C (tmps y v ++ []) ρ1 σ H1 z ρ2 w H2 := p2
  obtain ⟨s, r2, hx, hy⟩ := two_of p1 p2'
  unfold setiR at h2
  split at h2
  case isFalse => exact h2.elim
  rename_i hk
  split at h2
  case h_2 => exact h2.elim
  rename_i nm2 xs kk d f1 f2 f3
  split at h2
  case h_2 => exact h2.elim
  rename_i jj hj
  obtain ⟨b, g1, _, us, g2, g3⟩ := r2.own i _ f1
  rw [e2] at g1
  cases g1
  have hz : w = .int kk := derf_dx r2 hy f2
  have dv := keep_v r r2 hx p1.2.2.2 (noL_keeps hk) f3
  have g3' : Drs C.K (Reg C [] ρ2 σ) H2 us xs := g3.mono fun _ _ g _ => ⟨g.out, (fun z => nomatch z), g.own, g.nam⟩
  have r3 : Rep C [] ρ2 σ H2 := r2.lessL
  obtain ⟨st, r4⟩ := r3.write f1 e2 (g3'.set dv jj)
  exact ⟨a, us, kk, jj, rfl, hz, g2, by rw [g3'.length]; exact hj, h2 _ _ ⟨(s.sg.trans st.sg).sk r, r4⟩⟩
theorem setd_S (G : GoodS X C F W g) {i : Nat} {k m : ME} {x : Str} {p sp pos : Pos} {ke e : Expr} (hN : X.N[i]? = some x) (hv : visB X.env.scope x = true) (ho : okName x = true) (hk : chkE g X.N X.env.scope k ke = true) (he : chkE g X.N X.env.scope m e = true) (hs : notSlice ke = true) (hc : notComp e = true) :
    PS X (.Assign [.Subscript (.Name x p) ke sp] e pos) (rdS C W (evS F (.setd i k m))) := by
  unfold okName at ho
  simp only [Bool.and_eq_true, Bool.not_eq_true'] at ho
  have sw : swappedStores [.Subscript (.Name x p) ke sp] e X.env = pure none := swS_of G.kind rfl
  refine imp_S (ps_asg (((all_E C F g m X W G.G).1 e he).val false) (pg_sub (pe_var hN (vis_of hv) ho.1.1 ho.1.2) (((all_E C F g k X W G.G).1 ke hk).val false) (set_dict (hu1 G.G)) (sub_assign hs)) (swaps_tup hc) sw rfl) fun E σ H ⟨ρ, r, h⟩ => ?_
  rw [evS] at h
  refine seq_SE .refl r h fun y ρ1 v H1 p1 h1 => ?_
  split at h1
  case isFalse => exact h1.elim
  rename_i hi
  obtain ⟨a, d0, e1, e2, e3, e4⟩ := ownD_at p1.2.1 hi
  refine ⟨.ref a, e2, ?_⟩
  refine seq_SE (p1.1.sg.sk r) p1.2.1 h1 fun z ρ2 w H2 p2 h2 => ?_
  have p2' : EPost C (tmps y v ++ []) ρ1 σ H1 z ρ2 w H2 := p2
  obtain ⟨s, r2, hx, hy⟩ := two_of p1 p2'
  unfold setdR at h2
  split at h2
  case isFalse => exact h2.elim
  rename_i hk
  split at h2
  case h_2 => exact h2.elim
  rename_i d c vd f1 f2
  split at h2
  case h_2 => exact h2.elim
  rename_i d' hp
  obtain ⟨b, g1, t⟩ := r2.own i _ f1
  rw [e2] at g1
  cases g1
  have dv := keep_v r r2 hx p1.2.2.2 (noL_keeps hk) f2
  have t' : Top C.K (Reg C [] ρ2 σ) H2 a d := t.keep Keep.refl (fun _ _ g _ => ⟨g.out, (fun z => nomatch z), g.own, g.nam⟩) fun _ z => z
  have hy' : Dr C.K (Reg C [] ρ2 σ) H2 w c := Dr.mono (fun _ _ g _ => ⟨g.out, (fun z => nomatch z), g.own, g.nam⟩) hy
  obtain ⟨ho', q1, q2, q3⟩ := dput_at t' hy' dv hp
  have r3 : Rep C [] ρ2 σ H2 := r2.lessL
  obtain ⟨st, r4⟩ := r3.writeT f1 e2 q3
  exact ⟨a, _, rfl, q1, h2 _ _ ⟨(s.sg.trans st.sg).sk r, r4⟩⟩
theorem par3_S (G : GoodS X C F W g) {i j l : Nat} {ms : List ME} {x y z : Str} {px py pz pt pt2 pos : Pos} {kt k2 : Nat} {e1 e2 e3 : Expr} (hi : X.N[i]? = some x) (hj : X.N[j]? = some y) (hl : X.N[l]? = some z) (hij : i ≠ j) (hil : i ≠ l) (hjl : j ≠ l) (hx : X.env.scope.names.lookup x = some .local) (hy : X.env.scope.names.lookup y = some .local) (hz : X.env.scope.names.lookup z = some .local)
    (he : chkEs g X.N X.env.scope ms [e1, e2, e3] = true) (hs : swS X.env.scope (.Tuple [.Name x px, .Name y py, .Name z pz] kt pt) (.Tuple [e1, e2, e3] k2 pt2) = some (some [x, y, z])) :
    PS X (.Assign [.Tuple [.Name x px, .Name y py, .Name z pz] kt pt] (.Tuple [e1, e2, e3] k2 pt2) pos) (rdS C W (evS F (.par [i, j, l] ms))) := by
  refine imp_S (ps_par3 G.G.calm G.G.nd hi hj hl hij hil hjl hx hy hz ((all_Es C F g ms X W G.G).1 _ he).s (swS_of G.kind hs) rfl) fun E σ H ⟨ρ, r, h⟩ => ?_
  rw [evS] at h
  refine seq_SL .refl r h fun xs ρ1 vs H1 p nl h1 => ?_
  obtain ⟨l1, l2⟩ := par_end G (fun _ _ z => z) r p nl h1
  match vs, l1, l2 with
  | [v1, v2, v3], _, l2 => exact ⟨v1, v2, v3, rfl, l2⟩
theorem set_one {i : Nat} {k : ME} {kk : Rho → Oc} {Q : St → Hp → Prop} (sk : SK C ρ σ H ρ1 σ H1) (r1 : Rep C [] ρ1 σ H1) (dv : Dr C.K (Reg C [] ρ1 σ) H1 v d) (h : AfterS C W ρ σ H ((set2K i d (fun ρ => evE F true k ρ) ρ1).andThen kk) E)
    (fin : ∀ ρ3 H3, SG ρ1 σ H1 ρ3 σ H3 → Rep C [] ρ3 σ H3 → AfterS C W ρ σ H (kk ρ3) E → Q σ H3) : gSub (tVar i) (rdE C F W true k) rSetL v σ H1 Q := by
  unfold set2K at h
  split at h
  case isFalse => exact h.elim
  rename_i hi
  obtain ⟨a, nm, ds, vs, e1, e2, e3, e4⟩ := ownL_at r1 hi
  refine ⟨.ref a, e2, ?_⟩
  have h' : AfterS C W ρ σ H ((evE F true k ρ1).oc fun z ρ2 => (setiR i ρ2 (.v d) z).andThen kk) E := by
    have : ((evE F true k ρ1).oc fun z ρ2 => setiR i ρ2 (.v d) z).andThen kk = (evE F true k ρ1).oc fun z ρ2 => (setiR i ρ2 (.v d) z).andThen kk := by cases evE F true k ρ1 <;> rfl
    rw [this] at h
    exact h
  refine seq_SE sk r1 h' fun z ρ2 w H2 p2 h2 => ?_
  have r2 : Rep C (tmps z w ++ []) ρ2 σ H2 := p2.2.1
  have hy : VRep C (tmps z w ++ []) ρ2 σ H2 z w := p2.2.2.1
  unfold setiR at h2
  rw [if_pos (show (VR.v d).keeps = true from rfl)] at h2
  split at h2
  case h_2 => exact h2.elim
  rename_i nm2 xs kk' d' f1 f2 f3
  cases f3
  split at h2
  case h_2 => exact h2.elim
  rename_i jj hj
  obtain ⟨b, g1, _, us, g2, g3⟩ := r2.own i _ f1
  rw [e2] at g1
  cases g1
  have hz : w = .int kk' := derf_dx r2 hy f2
  have r3 : Rep C [] ρ2 σ H2 := Rep.lessL r2
  have dv2 : Dr C.K (Reg C [] ρ2 σ) H2 v d := p2.1.dr r1 dv
  have g3' : Drs C.K (Reg C [] ρ2 σ) H2 us xs := g3.mono fun _ _ g _ => ⟨g.out, (fun z => nomatch z), g.own, g.nam⟩
  obtain ⟨st, r4⟩ := r3.write f1 e2 (g3'.set dv2 jj)
  exact ⟨a, us, kk', jj, rfl, hz, g2, by rw [g3'.length]; exact hj, fin _ _ (p2.1.sg.trans st.sg) r4 h2⟩
theorem drs_two {R : Bool → Addr → Prop} {vs : List V} {d1 d2 : D} (h : Drs C.K R H vs [d1, d2]) : ∃ v1 v2, vs = [v1, v2] ∧ Dr C.K R H v1 d1 ∧ Dr C.K R H v2 d2 := by
  cases h with
  | cons a t => cases t with
    | cons b u => cases u; exact ⟨_, _, rfl, a, b⟩
theorem set2_S (G : GoodS X C F W g) {i j : Nat} {k l m : ME} {x y : Str} {p sp q sq pt pos : Pos} {kt : Nat} {ke le e : Expr} (hN : X.N[i]? = some x) (hv : visB X.env.scope x = true) (ho : okName x = true) (hN2 : X.N[j]? = some y) (hv2 : visB X.env.scope y = true) (ho2 : okName y = true)
    (hk : chkE g X.N X.env.scope k ke = true) (hs : notSlice ke = true) (hl : chkE g X.N X.env.scope l le = true) (hs2 : notSlice le = true) (he : chkE g X.N X.env.scope m e = true) (hc : notComp e = true)
    (hsw : swS X.env.scope (.Tuple [.Subscript (.Name x p) ke sp, .Subscript (.Name y q) le sq] kt pt) e = some none) :
    PS X (.Assign [.Tuple [.Subscript (.Name x p) ke sp, .Subscript (.Name y q) le sq] kt pt] e pos) (rdS C W (evS F (.set2 i k j l m))) := by
  unfold okName at ho ho2
  simp only [Bool.and_eq_true, Bool.not_eq_true'] at ho ho2
  have ae : ∀ (o i : Expr) (p : Pos) (es : List Expr), assignEach (.Subscript o i p :: es) X.env = (false, assign (.Subscript o i p) X.env) :: assignEach es X.env := fun _ _ _ _ => rfl
  have a0 : assignEach [] X.env = [] := rfl
  have g1 := pg_sub (pos := sp) (pe_var (pos := p) hN (vis_of hv) ho.1.1 ho.1.2) (((all_E C F g k X W G.G).1 ke hk).val true) set_list (sub_assign hs)
  have g2 := pg_sub (pos := sq) (pe_var (pos := q) hN2 (vis_of hv2) ho2.1.1 ho2.1.2) (((all_E C F g l X W G.G).1 le hl).val true) set_list (sub_assign hs2)
  have g3 := pgs_cons g2 pgs_nil (by rw [ae]; rfl)
  have g4 := pgs_cons g1 g3 (by rw [ae]; rfl)
  have g5 := pg_tup (pos := pt) (k := kt) (n := 2) G.G.calm g4 (by rw [ae, ae, a0]; rfl) (by rw [ae, ae, a0]; rfl)
  have h1' : (assignEach [.Tuple [.Subscript (.Name x p) ke sp, .Subscript (.Name y q) le sq] kt pt] X.env).map (·.2) = [assign (.Tuple [.Subscript (.Name x p) ke sp, .Subscript (.Name y q) le sq] kt pt) X.env] := by
    have : assignEach [.Tuple [.Subscript (.Name x p) ke sp, .Subscript (.Name y q) le sq] kt pt] X.env = (false, assign (.Tuple [.Subscript (.Name x p) ke sp, .Subscript (.Name y q) le sq] kt pt) X.env) :: assignEach [] X.env := rfl
    rw [this, a0]
    rfl
  refine imp_S (ps_asg (((all_E C F g m X W G.G).1 e he).val false) g5 (swaps_tup hc) (swS_of G.kind hsw) h1') fun E σ H ⟨ρ, r, h⟩ => ?_
  rw [evS] at h
  refine seq_SE .refl r h fun yv ρ1 v H1 p1 h1 => ?_
  unfold set2R at h1
  split at h1
  case isFalse => exact h1.elim
  rename_i hkp
  split at h1
  case h_2 => exact h1.elim
  rename_i d1 d2 e1
  have dv := keep_v r p1.2.1 p1.2.2.1 (fun a m => p1.2.2.2 a m) (noL_keeps hkp) e1
  have r1 := p1.2.1.lessL
  obtain ⟨a, vs, rfl, h3, t3⟩ := dv.dx
  obtain ⟨v1, v2, rfl, k1, k2⟩ := drs_two t3
  · rw [G.G.K]
    refine ⟨a, [v1, v2], rfl, h3.sq, rfl, v1, [v2], rfl, set_one (p1.1.sg.sk r) r1 k1 h1 fun ρ3 H3 s3 r3 h4 => ?_⟩
    refine ⟨v2, [], rfl, ?_⟩
    have h5 : AfterS C W ρ σ H ((set2K j d2 (fun ρ => evE F true l ρ) ρ3).andThen fun ρ => .nx ρ) E := by
      have : ∀ o : Oc, (o.andThen fun ρ => .nx ρ) = o := fun o => by cases o <;> rfl
      rw [this]
      exact h4
    refine set_one ((p1.1.sg.trans s3).sk r) r3 (s3.dr r1 k2) h5 fun ρ4 H4 s4 r4 h6 => ?_
    exact ⟨rfl, h6 _ _ ⟨((p1.1.sg.trans s3).trans s4).sk r, r4⟩⟩
theorem exp_S (G : GoodS X C F W g) {m : ME} {e : Expr} {pos : Pos} (he : chkE g X.N X.env.scope m e = true) (hc : notComp e = true) : PS X (.Expr e pos) (rdS C W (evS F (.exp m))) :=
  imp_S (ps_expr (((all_E C F g m X W G.G).1 e he).val true) (swaps_none hc)) fun E σ H ⟨ρ, r, h⟩ => by
    rw [evS] at h
    exact seq_SE .refl r h fun x ρ1 v H1 p h1 => h1 σ H1 ⟨p.1.sg.sk r, by have := p.2.1; exact Rep.lessL this⟩
theorem iff_S (G : GoodS X C F W g) {c : ME} {a b : List MS} {ce : Expr} {as bs : List Stmt} {pos : Pos} (hc : chkE g X.N X.env.scope c ce = true) (ha : PSs X as (rdS C W (evSs F a))) (hb : PSs X bs (rdS C W (evSs F b))) :
    PS X (.If ce as bs pos) (rdS C W (evS F (.iff c a b))) :=
  imp_S (ps_if ((all_E C F g c X W G.G).1 ce hc).t ha hb) fun E σ H ⟨ρ, r, h⟩ => by
    rw [evS] at h
    refine seq_ST .refl r h fun t ρ1 H1 s1 r1 h1 => ?_
    cases t with
    | true => exact ⟨ρ1, r1, h1.up (s1.sg.sk r)⟩
    | false => exact ⟨ρ1, r1, h1.up (s1.sg.sk r)⟩
theorem wh_S (G : GoodS X C F W g) {c : ME} {b : List MS} {ce : Expr} {bs : List Stmt} {pos : Pos} (hc : chkE g X.N X.env.scope c ce = true) (hb : PSs X bs (rdS C W (evSs F b))) : PS X (.While ce bs [] pos) (rdS C W (evS F (.wh c b))) :=
  imp_S (ps_while G.own ((all_E C F g c X W G.G).1 ce hc).t hb) fun E σ H ⟨ρ, r, h⟩ => by
    rw [evS] at h
    have hne : whileR (fun ρ => (evE F false c ρ).bind asB) (fun ρ => evSs F b ρ) ρ ≠ .no := fun z => by rw [z] at h; exact h
    obtain ⟨n, hn⟩ := whileR_ex hne
    generalize whileR (fun ρ => (evE F false c ρ).bind asB) (fun ρ => evSs F b ρ) ρ = o at h hn
    refine ⟨fun m σ' H' => ∃ ρ', loopN (fun ρ => (evE F false c ρ).bind asB) (fun ρ => evSs F b ρ) m ρ' = some o ∧ SPost C ρ σ H ρ' σ' H', ⟨n, ρ, hn, .refl, r⟩, ?_⟩
    rintro m σ1 H1 ⟨ρ1, hl, sk1, r1⟩
    cases m with
    | zero => cases hl
    | succ m =>
      rw [loopN_step] at hl
      refine rdT_iff.mpr ⟨[], ρ1, r1, ?_⟩
      cases q : (evE F false c ρ1).bind asB with
      | no =>
        rw [q] at hl
        cases hl
        exact h
      | exc ec d ρ2 =>
        rw [q] at hl
        cases hl
        exact fun cls dd H2 ⟨s, r2, e⟩ => h cls dd σ1 H2 ⟨sk1.trans (s.sg.sk r1), r2⟩ e
      | ok t ρ2 =>
        rw [q] at hl
        intro t' H2 ⟨et, s, r2⟩
        subst et
        have sk2 := sk1.trans (s.sg.sk r1)
        cases t' with
        | false =>
          cases hl
          exact h σ1 H2 ⟨sk2, r2⟩
        | true =>
          simp only at hl
          refine ⟨fun σ' H' => ∃ ρ', loopN (fun ρ => (evE F false c ρ).bind asB) (fun ρ => evSs F b ρ) m ρ' = some o ∧ SPost C ρ σ H ρ' σ' H', fun σ' H' q => ⟨m, Nat.lt_succ_self m, q⟩, ρ2, r2, ?_⟩
          cases q2 : evSs F b ρ2 with
          | nx ρ3 => rw [q2] at hl; exact fun σ' H' p => ⟨ρ3, hl, sk2.trans p.1, p.2⟩
          | ct ρ3 => rw [q2] at hl; exact fun σ' H' p => ⟨ρ3, hl, sk2.trans p.1, p.2⟩
          | bk ρ3 => rw [q2] at hl; cases hl; exact fun σ' H' p => h σ' H' ⟨sk2.trans p.1, p.2⟩
          | rt x ρ3 => rw [q2] at hl; cases hl; exact h
          | exc ec d ρ3 => rw [q2] at hl; cases hl; exact fun cls dd σ' H' p e => h cls dd σ' H' ⟨sk2.trans p.1, p.2⟩ e
          | no => rw [q2] at hl; cases hl; exact h
theorem for_S (G : GoodS X C F W g) {t : MT} {it : ME} {b : List MS} {tg i : Expr} {bs : List Stmt} {pos : Pos} (ht : chkT X.N X.env.scope true t tg = true) (hi : chkI g X.N X.env.scope it tg i = true) (hs : notSet i = true) (hb : PSs X bs (rdS C W (evSs F b))) : PS X (.For tg i bs [] pos) (rdS C W (evS F (.for t it b))) :=
  imp_S (ps_for G.own G.G.calm ((all_E C F g it X W G.G).2 tg i hi) (tg_PG G.G.calm G.G.nd (stor_fn G.fn) ht) hb (fold_of hs)) fun E σ H ⟨ρ, r, h⟩ => by
    rw [evS] at h
    refine seq_SI .refl r h fun ds ρ1 J H1 ⟨ws, cs, s1, r1, dcs, wk⟩ h1 => ?_
    refine ⟨fun k m σ' H' => k + m = ds.length ∧ ∃ ρ', SPost C ρ σ H ρ' σ' H' ∧ Drs C.K (Reg C [] ρ' σ') H' ws cs ∧ AfterS C W ρ σ H (forLoop t (fun ρ => evSs F b ρ) (ds.drop k) ρ') E, ⟨ds.length, by omega, ρ1, ⟨s1.sg.sk r, r1⟩, dcs, h1⟩, ?_⟩
    rintro k m σ2 H2 ⟨hkm, ρ2, ⟨sk2, r2⟩, hd2, hr⟩
    cases m with
    | zero =>
      have hk : k = ds.length := by omega
      subst hk
      rw [List.drop_length] at hr
      exact .inl ⟨wk.stop _ _ hd2, hr σ2 H2 ⟨sk2, r2⟩⟩
    | succ m =>
      have hk : k < ds.length := by omega
      refine .inr ⟨wk.go _ _ _ hd2 hk, fun σ' H' => ∃ ρ', SPost C ρ σ H ρ' σ' H' ∧ Drs C.K (Reg C [] ρ' σ') H' ws cs ∧ AfterS C W ρ σ H (forLoop t (fun ρ => evSs F b ρ) (ds.drop (k + 1)) ρ') E, fun σ' H' q => ⟨m, Nat.lt_succ_self m, by omega, q⟩, fun x H3 hy => ?_⟩
      have hd : ds[k]? = some ds[k] := List.getElem?_eq_getElem hk
      have hdr : ds.drop k = ds[k] :: ds.drop (k + 1) := List.drop_eq_getElem_cons hk
      generalize ds[k] = dk at hd hdr
      rw [hdr] at hr
      unfold forLoop at hr
      obtain ⟨x2, dx⟩ := wk.yld _ _ _ _ _ _ _ _ r2 hd2 hd hy
      cases qb : bindT t dk ρ2 with
      | none => rw [qb] at hr; exact hr.elim
      | some ρ3 =>
        rw [qb] at hr
        simp only at hr
        rw [G.G.K]
        refine bind_ok qb (r2.ext x2) dx fun σ4 r4 o4 sb => ?_
        have sg4 : SG ρ2 σ2 H2 ρ3 σ4 H3 := x2.sg.trans o4.sg
        have sk4 := sg4.sk r2
        have hd4 := sg4.drs r2 hd2
        refine ⟨ρ3, r4, ?_⟩
        cases q2 : evSs F b ρ3 with
        | nx ρ5 => rw [q2] at hr; exact fun σ' H' p => ⟨ρ5, ⟨(sk2.trans sk4).trans p.1, p.2⟩, p.1.drs hd4, hr⟩
        | ct ρ5 => rw [q2] at hr; exact fun σ' H' p => ⟨ρ5, ⟨(sk2.trans sk4).trans p.1, p.2⟩, p.1.drs hd4, hr⟩
        | bk ρ5 => rw [q2] at hr; exact fun σ' H' p => hr σ' H' ⟨(sk2.trans sk4).trans p.1, p.2⟩
        | rt x ρ5 => rw [q2] at hr; exact hr
        | exc ec d ρ5 => rw [q2] at hr; exact fun cls dd σ' H' p e => hr cls dd σ' H' ⟨(sk2.trans sk4).trans p.1, p.2⟩ e
        | no => rw [q2] at hr; exact hr
/-- an own list goes out of the frame -/
theorem Rep.giveUp (r : Rep C [] ρ σ H) {i : Nat} {d : D} {a : Addr} (e : ρ[i]? = some (.own d)) (es : σ[i]? = some (some (.ref a))) (hl : ∀ a, (i, a) ∉ C.lent) :
    Rep C [a] (ρ.set i .un) σ H ∧ Top C.K (Reg C [a] (ρ.set i .un) σ) H a d := by
  have oa : Owns ρ σ a := ⟨i, d, e, es⟩
  have ow : ∀ b, Owns (ρ.set i .un) σ b → Owns ρ σ b ∧ b ≠ a := fun b ⟨j, z, h1, h2⟩ => by
    rcases set_get h1 with ⟨_, h⟩ | ⟨h3, h4⟩
    · cases h
    · refine ⟨⟨j, z, h4, h2⟩, fun q => h3 ?_⟩
      subst q
      exact r.apart _ _ _ _ _ h4 e h2 es
  have nw : ∀ b, Nams (ρ.set i .un) σ b ↔ Nams ρ σ b := fun b => by
    constructor
    · rintro ⟨j, z, h1, h2⟩
      rcases set_get h1 with ⟨_, h⟩ | ⟨h3, h4⟩
      · cases h
      · exact ⟨j, z, h4, h2⟩
    · rintro ⟨j, z, h1, h2⟩
      have : i ≠ j := fun q => by
        subst q
        rw [e] at h1
        cases h1
      exact ⟨j, z, by rw [List.getElem?_set_ne this]; exact h1, h2⟩
  have rg : ∀ nm b, Reg C [] ρ σ nm b → (∃ o, H b = some o) → Reg C [a] (ρ.set i .un) σ nm b := fun nm b g _ =>
    ⟨g.out, fun z => g.own (by rw [List.mem_singleton.mp z]; exact oa), fun o => g.own (ow b o).1, g.nam.trans (or_congr Iff.rfl (nw b).symm)⟩
  refine ⟨?_, ?_⟩
  · exact {
      len := by rw [List.length_set]; exact r.len
      val := fun j z h => by
        rcases set_get h with ⟨_, h2⟩ | ⟨h1, h2⟩
        · cases h2
        · obtain ⟨v, q1, q2⟩ := r.val j z h2
          exact ⟨v, q1, q2.mono rg⟩
      own := fun j z h => by
        rcases set_get h with ⟨_, h2⟩ | ⟨h1, h2⟩
        · cases h2
        · obtain ⟨b, q1, q2⟩ := r.own j z h2
          exact ⟨b, q1, q2.keep Keep.refl rg fun _ z => z⟩
      nam := fun j z h => by
        rcases set_get h with ⟨_, h2⟩ | ⟨h1, h2⟩
        · cases h2
        · obtain ⟨b, vs, q1, q2, q3, q4⟩ := r.nam j z h2
          exact ⟨b, vs, q1, q2, q3.mono fun _ _ g o => ⟨g.1, rg _ _ g.2 o⟩, q4⟩
      apart := fun j k z y b h1 h2 h3 h4 => by
        rcases set_get h1 with ⟨_, h⟩ | ⟨_, h1⟩
        · cases h
        rcases set_get h2 with ⟨_, h⟩ | ⟨_, h2⟩
        · cases h
        exact r.apart j k z y b h1 h2 h3 h4
      ownT := fun b h m => (ow b h).2 (List.mem_singleton.mp m)
      tmpAt := fun b m => by
        rw [List.mem_singleton.mp m]
        obtain ⟨o, q, _⟩ := r.ownAt oa
        exact ⟨o, q⟩
      ownN := fun b h => by
        rw [nw b]
        rcases h with h | h
        · exact r.ownN b (.inl (ow b h).1)
        · rw [List.mem_singleton.mp h]
          exact r.ownN a (.inl oa)
      new := fun b h => by
        rcases h with h | h
        · exact r.new b (.inl (ow b h).1)
        · rw [List.mem_singleton.mp h]
          exact r.new a (.inl oa)
      newN := fun b h => r.newN b ((nw b).mp h)
      frame := r.frame
      cn := r.cn
      lent := fun j b h => by
        obtain ⟨q1, z, q2⟩ := r.lent j b h
        have : i ≠ j := fun q => hl b (q ▸ h)
        exact ⟨q1, z, by rw [List.getElem?_set_ne this]; exact q2⟩ }
  · obtain ⟨b, h1, h2⟩ := r.own i d e
    rw [es] at h1
    cases h1
    exact h2.keep Keep.refl rg fun _ z => z
/-- what a return hands out -/
theorem ret_rd {m : ME} (h0 : ∀ ρ, evR F m ρ = evE F false m ρ) : ∀ E σ H, rdS C W (evS F (.ret m)) E σ H → tRet (rdE C F W false m) E σ H := fun E σ H ⟨ρ, r, h⟩ => by
  rw [evS, h0] at h
  refine seq_SE .refl r h fun x ρ1 v H1 p h1 => ?_
  split at h1
  case isFalse => exact h1.elim
  have r1 : Rep C (tmps x v) ρ1 σ H1 := by have := p.2.1; rwa [List.append_nil] at this
  have q1 : VRep C (tmps x v) ρ1 σ H1 x v := by have := p.2.2.1; rwa [List.append_nil] at this
  exact h1 v σ H1 r1 q1
theorem tmps_v {d : D} {v : V} : tmps (.v d) v = [] := by cases v <;> rfl
theorem ret_S (G : GoodS X C F W g) {m : ME} {e : Expr} {pos : Pos} (he : chkE g X.N X.env.scope m e = true) : PS X (.Return (some e) pos) (rdS C W (evS F (.ret m))) := by
  cases m with
  | var i =>
    cases e <;> (try simp only [chkE] at he) <;> (try (cases he; done))
    simp only [Bool.and_eq_true, beq_iff_eq] at he
    have ho := he.2
    unfold okName at ho
    simp only [Bool.and_eq_true, Bool.not_eq_true'] at ho
    refine imp_S (ps_ret (pe_var he.1.1 (vis_of he.1.2) ho.1.1 ho.1.2)) fun E σ H ⟨ρ, r, h⟩ => ?_
    rw [evS] at h
    unfold evR at h
    simp only at h
    split at h
    · rename_i d e
      by_cases hm : F.mine.contains i = true
      · rw [if_pos hm] at h; exact h.elim
      · rw [if_neg hm] at h
        obtain ⟨a, e1, e2⟩ := r.own i d e
        obtain ⟨r2, t2⟩ := r.giveUp e e1 fun b hb => hm (G.G.mine i b hb)
        exact ⟨.ref a, e1, h (.ref a) σ H r2 ⟨a, rfl, List.mem_cons_self, t2⟩⟩
    · rename_i hno
      rw [evE] at h
      simp only [Bool.false_eq_true, if_false] at h
      unfold evV at h
      split at h
      · rename_i d e
        obtain ⟨v, e1, e2⟩ := r.val i d e
        refine ⟨v, e1, h v σ H ?_ ?_⟩
        · rw [tmps_v]; exact r
        · rw [tmps_v]; exact e2
      · rename_i d e
        exact absurd e (hno d)
      · rename_i ds e
        obtain ⟨a, vs, e1, e2, e3, e4⟩ := r.nam i ds e
        have hn : Nams ρ σ a := ⟨i, ds, e, e1⟩
        refine ⟨.ref a, e1, h (.ref a) σ H r (.lst e2 ⟨r.newN a hn, (fun z => nomatch z), fun z => r.ownN a (.inl z) (.inr hn), ?_⟩ (e3.mono fun _ _ g _ => g.2))⟩
        simp [hn]
      · exact h.elim
  | _ => exact imp_S (ps_ret (((all_E C F g _ X W G.G).1 e he).val false)) (ret_rd fun ρ => rfl)
theorem plain_S {s : Stmt} {m : MS} {t : TS} (h : PS X s t) (hr : ∀ E σ H, rdS C W (evS F m) E σ H → t E σ H) : PS X s (rdS C W (evS F m)) := imp_S h hr
theorem cons_S {m : MS} {ms : List MS} {s : Stmt} {ss : List Stmt} (h1 : PS X s (rdS C W (evS F m))) (h2 : PSs X ss (rdS C W (evSs F ms))) : PSs X (s :: ss) (rdS C W (evSs F (m :: ms))) :=
  imp_Ss (pss_cons h1 h2) fun E σ H ⟨ρ, r, h⟩ => by
    rw [evSs] at h
    refine ⟨ρ, r, ?_⟩
    cases q : evS F m ρ with
    | nx ρ1 =>
      rw [q] at h
      exact fun σ1 H1 p => ⟨ρ1, p.2, AfterS.up p.1 h⟩
    | bk ρ1 => rw [q] at h; exact h
    | ct ρ1 => rw [q] at h; exact h
    | rt x ρ1 => rw [q] at h; exact h
    | exc c d ρ1 => rw [q] at h; exact h
    | no => rw [q] at h; exact h
abbrev Q1 (X : Cx) (C : Cn) (F : Fns) (W : WX) (g : Gi) (m : MS) : Prop := ∀ s, chkS g X.N X.env.scope m s = true → PS X s (rdS C W (evS F m))
abbrev Q2 (X : Cx) (C : Cn) (F : Fns) (W : WX) (g : Gi) (ms : List MS) : Prop := ∀ ss, chkSs g X.N X.env.scope ms ss = true → PSs X ss (rdS C W (evSs F ms))
theorem q_asg (G : GoodS X C F W g) {i : Nat} {m : ME} : Q1 X C F W g (.asg i m) := fun s h => by
  rw [chkS.eq_def] at h
  split at h
  all_goals (try contradiction)
  rename_i heq
  cases heq
  simp only [Bool.and_eq_true, beq_iff_eq] at h
  obtain ⟨⟨⟨⟨h1, h2⟩, h3⟩, h4⟩, h5⟩ := h
  exact asg_S G h1 h2 h4 h5
theorem q_asgT (G : GoodS X C F W g) {t : MT} {m : ME} : Q1 X C F W g (.asgT t m) := fun s h => by
  rw [chkS.eq_def] at h
  split at h
  all_goals (try contradiction)
  rename_i heq
  cases heq
  simp only [Bool.and_eq_true] at h
  obtain ⟨⟨⟨h1, h2⟩, h3⟩, h4⟩ := h
  refine asgT_S G h1 h2 h3 ?_
  split at h4
  · assumption
  · cases h4
theorem q_par (G : GoodS X C F W g) {is : List Nat} {ms : List ME} : Q1 X C F W g (.par is ms) := fun s h => by
  rw [chkS.eq_def] at h
  split at h
  all_goals (try contradiction)
  rename_i heq
  cases heq
  rw [Bool.and_eq_true] at h
  obtain ⟨h, he⟩ := h
  unfold chkPar at h
  split at h
  · simp only [Bool.and_eq_true, beq_iff_eq, bne_iff_ne, decide_eq_true_eq] at h
    obtain ⟨⟨⟨⟨⟨h1, h2⟩, h3⟩, h4⟩, h5⟩, h7⟩ := h
    exact par_S G h1 h2 h3 h4 h5 he h7
  · simp only [Bool.and_eq_true, beq_iff_eq, bne_iff_ne, decide_eq_true_eq] at h
    obtain ⟨⟨⟨⟨⟨⟨⟨⟨⟨h1, h2⟩, h3⟩, h4⟩, h5⟩, h6⟩, h7⟩, h8⟩, h9⟩, h10⟩ := h
    exact par3_S G h1 h2 h3 h4 h5 h6 h7 h8 h9 he h10
  · rename_i is0 ts kt pt es k2 p2 _ _
    simp only [Bool.and_eq_true, decide_eq_true_eq] at h
    obtain ⟨⟨⟨h1, h2⟩, h3⟩, h4⟩ := h
    refine parN_S G h1.2 h2 he ?_
    split at h4
    · assumption
    · cases h4
  · cases h
theorem q_aug (G : GoodS X C F W g) {i : Nat} {o : Bop} {m : ME} : Q1 X C F W g (.aug i o m) := fun s h => by
  rw [chkS.eq_def] at h
  split at h
  all_goals (try contradiction)
  rename_i heq
  cases heq
  simp only [Bool.and_eq_true, beq_iff_eq] at h
  obtain ⟨⟨⟨⟨h1, h2⟩, h3⟩, h4⟩, h5⟩ := h
  exact aug_S G h1 h2 h4 h5
theorem q_seti (G : GoodS X C F W g) {i : Nat} {k m : ME} : Q1 X C F W g (.seti i k m) := fun s h => by
  rw [chkS.eq_def] at h
  split at h
  all_goals (try contradiction)
  rename_i heq
  cases heq
  simp only [Bool.and_eq_true, beq_iff_eq] at h
  obtain ⟨⟨⟨⟨⟨⟨h1, h2⟩, h3⟩, h4⟩, h5⟩, h6⟩, h7⟩ := h
  exact seti_S G h1 h2 h3 h4 h5 h6 h7
theorem q_setd (G : GoodS X C F W g) {i : Nat} {k m : ME} : Q1 X C F W g (.setd i k m) := fun s h => by
  rw [chkS.eq_def] at h
  split at h
  all_goals (try contradiction)
  rename_i heq
  cases heq
  simp only [Bool.and_eq_true, beq_iff_eq] at h
  obtain ⟨⟨⟨⟨⟨⟨h1, h2⟩, h3⟩, h4⟩, h5⟩, h6⟩, h7⟩ := h
  exact setd_S G h1 h2 h3 h4 h5 h6 h7
theorem q_asgL (G : GoodS X C F W g) {ts : List MT} {m : ME} : Q1 X C F W g (.asgL ts m) := fun s h => by
  rw [chkS.eq_def] at h
  split at h
  all_goals (try contradiction)
  rename_i heq
  cases heq
  simp only [Bool.and_eq_true] at h
  obtain ⟨⟨⟨h1, h2⟩, h3⟩, h4⟩ := h
  obtain ⟨es, k, p, rfl⟩ := tup_is h1
  refine asgL_S G h2 h3 ?_
  split at h4
  · assumption
  · cases h4
theorem q_set2 (G : GoodS X C F W g) {i j : Nat} {k l m : ME} : Q1 X C F W g (.set2 i k j l m) := fun s h => by
  rw [chkS.eq_def] at h
  split at h
  all_goals (try contradiction)
  rename_i heq
  cases heq
  simp only [Bool.and_eq_true] at h
  obtain ⟨⟨⟨⟨h0, hk⟩, hl⟩, hm⟩, hc⟩ := h
  unfold chkSet2 at h0
  split at h0
  · simp only [Bool.and_eq_true, beq_iff_eq] at h0
    obtain ⟨⟨⟨⟨⟨⟨⟨⟨h1, h2⟩, h3⟩, h4⟩, h5⟩, h6⟩, h7⟩, h8⟩, h13⟩ := h0
    refine set2_S G h1 h2 h3 h4 h5 h6 hk h7 hl h8 hm hc ?_
    split at h13
    · assumption
    · cases h13
  · cases h0
theorem q_exp (G : GoodS X C F W g) {m : ME} : Q1 X C F W g (.exp m) := fun s h => by
  rw [chkS.eq_def] at h
  split at h
  all_goals (try contradiction)
  rename_i heq
  cases heq
  simp only [Bool.and_eq_true] at h
  exact exp_S G h.1 h.2
theorem q_iff (G : GoodS X C F W g) {c : ME} {a b : List MS} (ha : Q2 X C F W g a) (hb : Q2 X C F W g b) : Q1 X C F W g (.iff c a b) := fun s h => by
  rw [chkS.eq_def] at h
  split at h
  all_goals (try contradiction)
  rename_i heq
  cases heq
  simp only [Bool.and_eq_true] at h
  exact iff_S G h.1.1 (ha _ h.1.2) (hb _ h.2)
theorem q_wh (G : GoodS X C F W g) {c : ME} {b : List MS} (hb : Q2 X C F W g b) : Q1 X C F W g (.wh c b) := fun s h => by
  rw [chkS.eq_def] at h
  split at h
  all_goals (try contradiction)
  rename_i heq
  cases heq
  simp only [Bool.and_eq_true] at h
  exact wh_S G h.1 (hb _ h.2)
theorem q_for (G : GoodS X C F W g) {t : MT} {it : ME} {b : List MS} (hb : Q2 X C F W g b) : Q1 X C F W g (.for t it b) := fun s h => by
  rw [chkS.eq_def] at h
  split at h
  all_goals (try contradiction)
  rename_i heq
  cases heq
  simp only [Bool.and_eq_true] at h
  exact for_S G h.1.1.1 h.1.1.2 h.1.2 (hb _ h.2)
theorem q_ret (G : GoodS X C F W g) {m : ME} : Q1 X C F W g (.ret m) := fun s h => by
  rw [chkS.eq_def] at h
  split at h
  all_goals (try contradiction)
  rename_i heq
  cases heq
  exact ret_S G h
theorem q_retN : Q1 X C F W g .retN := fun s h => by
  rw [chkS.eq_def] at h
  split at h
  all_goals (try contradiction)
  exact plain_S ps_retN fun E σ H ⟨ρ, r, h⟩ => by
    rw [evS] at h
    exact h .non σ H r .non
theorem q_brk : Q1 X C F W g .brk := fun s h => by
  rw [chkS.eq_def] at h
  split at h
  all_goals (try contradiction)
  exact plain_S ps_break fun E σ H ⟨ρ, r, h⟩ => by
    rw [evS] at h
    exact h σ H ⟨.refl, r⟩
theorem q_cnt : Q1 X C F W g .cnt := fun s h => by
  rw [chkS.eq_def] at h
  split at h
  all_goals (try contradiction)
  exact plain_S ps_continue fun E σ H ⟨ρ, r, h⟩ => by
    rw [evS] at h
    exact h σ H ⟨.refl, r⟩
theorem q_pas : Q1 X C F W g .pas := fun s h => by
  rw [chkS.eq_def] at h
  split at h
  all_goals (try contradiction)
  exact plain_S ps_pass fun E σ H ⟨ρ, r, h⟩ => by
    rw [evS] at h
    exact h σ H ⟨.refl, r⟩
theorem q_nev : Q1 X C F W g .nev := fun s h => plain_S ps_never fun E σ H ⟨ρ, r, h⟩ => by
  rw [evS] at h
  exact h
theorem cx_false {P : Program} {w : World} {out : List PySem.Env} {H : Hp} {s s2 : Shared} {u : Value} (h : L2.CX P w out H s (fun _ _ _ => False) u s2) : False := by
  obtain ⟨_, _, _, _, _, _, _, _, _, _, _, _, z⟩ := h
  exact z
theorem rai_S (G : GoodS X C F W g) {c : Str} {m : ME} {y : Expr} {p p1 pos : Pos} (hg : glB X.env.scope c = true) (ho : okName c = true) (hy : notStar y = true) (hc : g.excs.contains c = true) (he : chkE g X.N X.env.scope m y = true) :
    PS X (.Raise (some (.Call (.Name c p) [y] [] p1)) none pos) (rdS C W (evS F (.rai c m))) := by
  by_cases hd : 2 ≤ F.dep
  case neg =>
    refine ⟨fun pins s σ H D I ⟨ρ, r, h⟩ => ?_⟩
    exfalso
    rw [evS, decide_eq_false hd] at h
    exact h
  have hc' : c ∈ g.excs := by simpa using hc
  obtain ⟨D, fI, fd, ini, bnd, tI, hall⟩ := G.G.ex.ini fun z => by rw [z] at hc'; cases hc'
  obtain ⟨ca, hca, mk, iC⟩ := hall c hc'
  unfold okName at ho
  simp only [Bool.and_eq_true, Bool.not_eq_true'] at ho
  have hK := G.G.K
  have hst : starEach [y] X.env = (false, eval y X.env) :: starEach [] X.env := by
    cases y <;> first | rfl | cases hy
  have mkx : PMk X (.Call (.Name c p) [y] [] p1) (tMkO ca (spI C.K D) [] (tCons (rdE C F W false m) tNil)) :=
    pmk_oex (k := 1) (ds := []) (by rw [hK]; exact mk.o) (by rw [hK]; exact iC) (by rw [hK]; exact tI) (by rw [hK]; exact ini_ok ini) (G.G.room hd) (by rw [hK]; exact bnd) .nil (fun _ _ _ _ _ _ _ h => (cx_false h).elim) (gl_of hg) (G.G.ex.mg c ca hca)
      (pa_cons (((all_E C F g m X W G.G).1 y he).val false) pa_nil hst) ho.1.1 hst rfl
  refine imp_S (ps_raise G.G.calm G.G.tk mkx) fun E σ H ⟨ρ, r, h⟩ => ?_
  rw [evS, decide_eq_true hd, if_pos rfl] at h
  refine seq_SE .refl r h fun x ρ1 v H1 q h1 => ?_
  split at h1
  case isFalse => exact h1.elim
  rename_i hk
  split at h1
  case h_2 => exact h1.elim
  rename_i d e1
  have dv := keep_v r q.2.1 q.2.2.1 (fun a m => q.2.2.2 a m) (noL_keeps hk) e1
  have r1 : Rep C [] ρ1 σ H1 := q.2.1.lessL
  refine ⟨Nat.le_of_lt_succ (Nat.lt_succ_of_le (by simp)), fun a ha => ⟨a, ca, v, rfl, mk, upd_same, fun dx hdx hne => ⟨rfl, dx, [("value", v)], upd_same, ?_, ?_, ?_⟩⟩⟩
  · rw [upd_ne hne, upd_same]
  · rw [upd_ne hne] at hdx; exact hdx
  · rw [upd_ne hne] at hdx
    have eh : upd (del (upd (upd (upd H1 a (exo a ca none)) dx (exd dx [("value", v)])) a (exo a ca (some dx))) a) dx (.xd [("value", v)]) = upd H1 dx (.xd [("value", v)]) := by
      funext b
      by_cases hb : b = dx
      · rw [hb, upd_same, upd_same]
      · rw [upd_ne hb, upd_ne hb]
        by_cases hba : b = a
        · rw [hba, del_same, ha]
        · rw [del_ne hba, upd_ne hba, upd_ne hb, upd_ne hba]
    rw [eh]
    have ex : Ext H1 (upd H1 dx (.xd [("value", v)])) := ext_upd' hdx
    have s1 := ex.sg (ρ := ρ1) (σ := σ)
    exact h1 _ _ _ _ ⟨(q.1.sg.trans s1).sk r, r1.ext ex⟩ ⟨ca, dx, v, rfl, (G.G.cls c ca).mpr hca, rfl, upd_same, s1.dr r1 dv⟩
theorem q_rai (G : GoodS X C F W g) {c : Str} {m : ME} : Q1 X C F W g (.rai c m) := fun s h => by
  rw [chkS.eq_def] at h
  split at h
  all_goals (try contradiction)
  rename_i heq
  cases heq
  simp only [Bool.and_eq_true, decide_eq_true_eq] at h
  obtain ⟨⟨⟨⟨⟨h1, h2⟩, h3⟩, h4⟩, h5⟩, h6⟩ := h
  subst h1
  exact rai_S G h2 h3 h5 h6 h4
theorem GoodS.tr (G : GoodS X C F W g) {W' : WX} {pn : List (Addr × Obj)} {xe : Value → Shared → Prop} (tk : Takes (X.tr pn xe) W') (po : PassesOwn (model X.prog X.w) X.A X.env xe) : GoodS (X.tr pn xe) C F W' g :=
  ⟨⟨G.G.ex, G.G.cls, G.G.room, G.G.K, G.G.calm, G.G.nd, G.G.gd, G.G.hu, tk, G.G.mine, G.G.blt, G.G.mods, G.G.glb, fun f x ps h => ⟨(G.G.fns f x ps h).1, ⟨(G.G.fns f x ps h).2.ex⟩⟩⟩, po, G.fn, G.kind, G.stk, G.frm, G.exn⟩
theorem lk_loc {sc : Scope} {x : Str} (h : (sc.names.lookup x == some .local) = true) : sc.names.lookup x = some .local := by
  cases q : sc.names.lookup x with
  | none => rw [q] at h; cases h
  | some k => rw [q] at h; cases k <;> first | rfl | cases h
theorem try_S (G : GoodS X C F W g) {b : List MS} {c : Str} {i j : Nat} {hs : List ExceptHandler} {bs : List Stmt} {pos : Pos} (hb : ∀ X' W', GoodS X' C F W' g → X'.N = X.N → X'.env = X.env → PSs X' bs (rdS C W' (evSs F b)))
    (hh : chkH g X.N X.env.scope c i j hs = true) : PS X (.Try bs hs [] [] pos) (rdS C W (evS F (.tryE b c i j))) := by
  unfold chkH at hh
  split at hh
  case h_2 => cases hh
  rename_i x np n m mp n2 np2 ap hp
  simp only [Bool.and_eq_true, beq_iff_eq, decide_eq_true_eq] at hh
  obtain ⟨⟨⟨⟨⟨⟨⟨⟨⟨⟨h1, h2⟩, h3⟩, h4⟩, h5⟩, h6⟩, h7⟩, h8⟩, h9⟩, h10⟩, h11⟩ := hh
  subst h1
  subst h7
  have hc' : x ∈ g.excs := by simpa using h4
  obtain ⟨D, fI, fd, ini, bnd, tI, hall⟩ := G.G.ex.ini fun z => by rw [z] at hc'; cases hc'
  obtain ⟨cb, hcb, mk, iC⟩ := hall x hc'
  unfold okName at h3 h10
  simp only [Bool.and_eq_true, Bool.not_eq_true'] at h3 h10
  have hK := G.G.K
  have nm : Names X x (.ref cb) := ⟨gl_of h2, h3.1.1, .inl (G.G.ex.mg x cb hcb)⟩
  refine imp_S (ps_try_keep (i := i) (j := j) (tb := fun W' => rdS C W' (evSs F b)) G.stk G.frm G.exn G.G.nd h5 h8 h6 h9 h11 h10.1.1 h10.1.2 (fun Y e => rfl) nm G.G.tk fun W' pn xe tk po => hb _ _ (G.tr tk po) rfl rfl) fun E σ H ⟨ρ, r, h⟩ => ?_
  rw [evS] at h
  refine ⟨ρ, r, ?_⟩
  cases q : evSs F b ρ with
  | nx ρ1 => rw [q] at h; exact h
  | bk ρ1 => rw [q] at h; exact h
  | ct ρ1 => rw [q] at h; exact h
  | rt z ρ1 => rw [q] at h; exact h
  | no => rw [q] at h; exact h
  | exc c' d ρ1 =>
    rw [q] at h
    simp only at h
    intro cls dd σ1 H1 sp ⟨ca, bb, v, e1, hcl, e2, hx, dv⟩
    subst e1
    subst e2
    have hcl' := (G.G.cls c' ca).mp hcl
    cases hsub : F.sub c' x with
    | none => rw [hsub] at h; exact h.elim
    | some z =>
      rw [hsub] at h
      refine ⟨z, by rw [hK]; exact (G.G.ex.sub c' x ca cb z hsub hcl' hcb).1, fun hz => ?_, fun hz => ?_⟩
      · subst hz
        simp only at h
        split at h
        case isFalse => exact h.elim
        rename_i hc
        simp only [Bool.and_eq_true, decide_eq_true_eq] at hc
        obtain ⟨⟨ci, cj⟩, nij⟩ := hc
        refine ⟨ca, bb, rfl, rfl, fun a ha => ?_⟩
        have ex : Ext H1 (upd H1 a (exv a ca bb)) := ext_upd' ha
        have s1 := ex.sg (ρ := ρ1) (σ := σ1)
        obtain ⟨r3, o3⟩ := (sp.2.ext ex).slot ci (s := .un) (o := none) (.inl rfl)
        have hc2 : calmS (ρ1.set i .un) j = true := by
          unfold calmS
          rw [List.getElem?_set_ne nij]
          exact cj
        have nb : bb ≠ a := fun z => by rw [z, ha] at hx; cases hx
        have dx : Dr C.K (Reg C [] (ρ1.set i .un) (σ1.set i none)) (upd H1 a (exv a ca bb)) (.ref a) (.exn c' d) := .exn upd_same (by rw [upd_ne nb]; exact hx) hcl' (o3.dr (s1.dr sp.2 dv))
        obtain ⟨r4, o4⟩ := r3.slot hc2 (s := .val (.exn c' d)) (o := some (.ref a)) (.inr ⟨_, _, rfl, rfl, dx⟩)
        have es : ((σ1.set i (some (V.ref a))).set j (some (.ref a))).set i none = (σ1.set i none).set j (some (.ref a)) := by
          rw [List.set_comm _ _ (Ne.symm nij), List.set_set]
        rw [es]
        exact h _ _ ⟨sp.1.trans (((s1.trans o3.sg).trans o4.sg).sk sp.2), r4⟩
      · subst hz
        exact h _ _ _ _ sp ⟨ca, bb, v, rfl, hcl, rfl, hx, dv⟩
theorem q_try (G : GoodS X C F W g) {b : List MS} {c : Str} {i j : Nat} (hb : ∀ X W, GoodS X C F W g → Q2 X C F W g b) : Q1 X C F W g (.tryE b c i j) := fun s h => by
  rw [chkS.eq_def] at h
  split at h
  all_goals (try contradiction)
  rename_i heq
  cases heq
  rw [Bool.and_eq_true] at h
  exact try_S G (fun X' W' G' e1 e2 => hb X' W' G' _ (by rw [e1, e2]; exact h.2)) h.1
/-- what a clause makes of its exception, as it happens -/
def tHe (K : PySem.W.Frag) (i j : Nat) (cbf : Str → Addr) (es : List HE) (a : Addr) (cls : Value) (d : Option Addr) : TS := fun D σ H => tIts K i a cls d cbf es σ H fun xs H1 => xs.length ≤ sizeLine ∧ ∀ p, H1 p = none → D.nx (σ.set j (some (.ref p))) (upd H1 p (.tup xs))
theorem pa_he {Y : Cx} {i : Nat} {n : Str} {a : Addr} {oe : Obj} {cls : Value} {d : Option Addr} {cbf : Str → Addr} (hp : (a, oe) ∈ Y.pn) (hz : Zc cls d oe) (hf : ∃ vs, oe.data = .fields vs) (hi : Y.N[i]? = some n) (hl : Y.env.kindOf n = some .local) (ho : okName n = true)
    (hb : ∀ x ∈ g.blts, Y.mg x = none) (hc : ∀ c ∈ g.excs, Y.mg c = some (.ref (cbf c))) : ∀ (es : List HE) (xs : List Expr), chkHEs g n Y.env.scope es xs = true → PA Y xs (tIts Y.K i a cls d cbf es)
  | [], xs, h => by
    cases xs with
    | nil => exact pa_nil
    | cons x xs => simp [chkHEs] at h
  | .isx c :: r, xs, h => by
    rcases xs with _ | ⟨e0, xs'⟩ <;> (try simp only [chkHEs] at h) <;> (try (cases h; done))
    cases e0 <;> (try simp only [chkHEs] at h) <;> (try (cases h; done))
    rename_i fe as ks pos
    cases fe <;> (try simp only [chkHEs] at h) <;> (try (cases h; done))
    rename_i x p
    rcases as with _ | ⟨a1, _ | ⟨a2, _ | ⟨a3, as⟩⟩⟩ <;> (try simp only [chkHEs] at h) <;> (try (cases h; done))
    cases a1 <;> (try simp only [chkHEs] at h) <;> (try (cases h; done))
    rename_i y p1
    cases a2 <;> (try simp only [chkHEs] at h) <;> (try (cases h; done))
    rename_i z p2
    cases ks <;> (try simp only [chkHEs] at h) <;> (try (cases h; done))
    simp only [Bool.and_eq_true, decide_eq_true_eq] at h
    obtain ⟨⟨⟨⟨⟨⟨⟨⟨h1, h2⟩, h3⟩, h4⟩, h5⟩, h6⟩, h7⟩, h8⟩, h9⟩ := h
    subst h1 h2 h3
    unfold okName at ho h6
    simp only [Bool.and_eq_true, Bool.not_eq_true'] at ho h6
    have e1 : PE Y (.Name y p1) (tVar i) := pe_var hi (.inl hl) ho.1.1 ho.1.2
    have e2 : PE Y (.Name z p2) (tC (.ref (cbf z))) := pe_glob (gl_of h5) (hc z (by simpa using h8)) rfl h6.1.1
    exact pa_cons (he_isx hp hz hf (gl_of h4) (hb _ (by simpa using h7)) e1 e2) (pa_he hp hz hf hi hl (by unfold okName; simp only [Bool.and_eq_true, Bool.not_eq_true']; exact ho) hb hc r _ h9) (by rfl)
  | .fld :: r, xs, h => by
    rcases xs with _ | ⟨e0, xs'⟩ <;> (try simp only [chkHEs] at h) <;> (try (cases h; done))
    cases e0 <;> (try simp only [chkHEs] at h) <;> (try (cases h; done))
    rename_i oe0 f pos
    cases oe0 <;> (try simp only [chkHEs] at h) <;> (try (cases h; done))
    rename_i y p1
    simp only [Bool.and_eq_true, decide_eq_true_eq] at h
    obtain ⟨⟨h1, h2⟩, h3⟩ := h
    subst h1 h2
    unfold okName at ho
    simp only [Bool.and_eq_true, Bool.not_eq_true'] at ho
    have e1 : PE Y (.Name y p1) (tVar i) := pe_var hi (.inl hl) ho.1.1 ho.1.2
    exact pa_cons (he_fld hp hz hf e1) (pa_he hp hz hf hi hl (by unfold okName; simp only [Bool.and_eq_true, Bool.not_eq_true']; exact ho) hb hc r _ h3) (by rfl)
theorem heVs_map {c' : Str} {d : D} : ∀ {es : List HE} {ds : List D}, heVs F c' d es = some ds → (∀ c, HE.isx c ∈ es → ∃ b, F.sub c' c = some b) ∧ ∀ {K : PySem.W.Frag} {R : Bool → Addr → Prop} {H : Hp} {w : V}, Dr K R H w d → Drs K R H (es.map (itV (fun c => (F.sub c' c).getD false) w)) ds
  | [], ds, h => by cases h; exact ⟨fun c hc => (nomatch hc), fun {K R H w} _ => .nil⟩
  | .isx c :: r, ds, h => by
    unfold heVs at h
    split at h
    · rename_i b ds' e1 e2
      cases h
      obtain ⟨i1, i2⟩ := heVs_map e2
      refine ⟨fun c2 hc => ?_, fun {K R H w} hw => ?_⟩
      · rcases List.mem_cons.mp hc with h | h
        · cases h; exact ⟨b, e1⟩
        · exact i1 c2 h
      · have : itV (fun c => (F.sub c' c).getD false) w (.isx c) = .bl b := by show V.bl ((F.sub c' c).getD false) = _; rw [e1]; rfl
        rw [List.map_cons, this]
        exact .cons (.bl b) (i2 hw)
    · cases h
  | .fld :: r, ds, h => by
    unfold heVs at h
    split at h
    · rename_i ds' e2
      cases h
      obtain ⟨i1, i2⟩ := heVs_map e2
      refine ⟨fun c2 hc => ?_, fun {K R H w} hw => .cons hw (i2 hw)⟩
      rcases List.mem_cons.mp hc with h | h
      · cases h
      · exact i1 c2 h
    · cases h
theorem he_mem {n : Str} {sc : Scope} {c : Str} : ∀ {es : List HE} {xs : List Expr}, chkHEs g n sc es xs = true → HE.isx c ∈ es → c ∈ g.excs
  | [], _, _, hm => nomatch hm
  | .isx c2 :: r, xs, h, hm => by
    rcases xs with _ | ⟨e0, xs'⟩ <;> (try simp only [chkHEs] at h) <;> (try (cases h; done))
    cases e0 <;> (try simp only [chkHEs] at h) <;> (try (cases h; done))
    rename_i fe as ks pos
    cases fe <;> (try simp only [chkHEs] at h) <;> (try (cases h; done))
    rename_i x p
    rcases as with _ | ⟨a1, _ | ⟨a2, _ | ⟨a3, as⟩⟩⟩ <;> (try simp only [chkHEs] at h) <;> (try (cases h; done))
    cases a1 <;> (try simp only [chkHEs] at h) <;> (try (cases h; done))
    rename_i y p1
    cases a2 <;> (try simp only [chkHEs] at h) <;> (try (cases h; done))
    rename_i z p2
    cases ks <;> (try simp only [chkHEs] at h) <;> (try (cases h; done))
    simp only [Bool.and_eq_true, decide_eq_true_eq] at h
    rcases List.mem_cons.mp hm with e | e
    · cases e
      have := h.1.2
      have e3 := h.1.1.1.1.1.1.2
      rw [← e3]
      simpa using this
    · exact he_mem h.2 e
  | .fld :: r, xs, h, hm => by
    rcases xs with _ | ⟨e0, xs'⟩ <;> (try simp only [chkHEs] at h) <;> (try (cases h; done))
    cases e0 <;> (try simp only [chkHEs] at h) <;> (try (cases h; done))
    rename_i oe0 f pos
    cases oe0 <;> (try simp only [chkHEs] at h) <;> (try (cases h; done))
    rename_i y p1
    simp only [Bool.and_eq_true, decide_eq_true_eq] at h
    rcases List.mem_cons.mp hm with e | e
    · cases e
    · exact he_mem h.2 e
open Classical in
theorem tryT_S (G : GoodS X C F W g) {b : List MS} {c : Str} {i j : Nat} {es : List HE} {hs : List ExceptHandler} {bs : List Stmt} {pos : Pos} (hb : ∀ X' W', GoodS X' C F W' g → X'.N = X.N → X'.env = X.env → PSs X' bs (rdS C W' (evSs F b)))
    (hh : chkH2 g X.N X.env.scope c i j es hs = true) : PS X (.Try bs hs [] [] pos) (rdS C W (evS F (.tryT b c i j es))) := by
  unfold chkH2 at hh
  split at hh
  case h_2 => cases hh
  rename_i x np n m mp xs k tp ap hp
  simp only [Bool.and_eq_true, beq_iff_eq, decide_eq_true_eq] at hh
  obtain ⟨⟨⟨⟨⟨⟨⟨⟨⟨⟨h1, h2⟩, h3⟩, h4⟩, h5⟩, h6⟩, h8⟩, h9⟩, h10⟩, h11⟩, h12⟩ := hh
  subst h1
  have hc' : x ∈ g.excs := by simpa using h4
  obtain ⟨D, fI, fd, ini, bnd, tI, hall⟩ := G.G.ex.ini fun z => by rw [z] at hc'; cases hc'
  obtain ⟨cb, hcb, mk, iC⟩ := hall x hc'
  have h10' := h10
  unfold okName at h3 h10'
  simp only [Bool.and_eq_true, Bool.not_eq_true'] at h3 h10'
  have hK := G.G.K
  have nm : Names X x (.ref cb) := ⟨gl_of h2, h3.1.1, .inl (G.G.ex.mg x cb hcb)⟩
  obtain ⟨cbf, hcf⟩ : ∃ cbf : Str → Addr, ∀ c ∈ g.excs, clsK C.K c (cbf c) := by
    refine ⟨fun c => if h : ∃ ca, clsK C.K c ca then h.choose else 0, fun c hc => ?_⟩
    obtain ⟨ca, h, _⟩ := hall c hc
    have hx : ∃ ca, clsK C.K c ca := ⟨ca, h⟩
    show clsK C.K c (if h : ∃ ca, clsK C.K c ca then h.choose else 0)
    rw [dif_pos hx]
    exact hx.choose_spec
  refine imp_S (ps_try_as (i := i) (tb := fun W' => rdS C W' (evSs F b)) (ts := tHe X.K i j cbf es) G.stk G.frm G.G.nd h5 h8 nm G.G.tk (fun W' pn xe tk po => hb _ _ (G.tr tk po) rfl rfl) (fun a oe cls d pn hz hf => ?_)) fun E σ H ⟨ρ, r, h⟩ => ?_
  · have pa := pa_he (Y := X.suite a ((a, oe) :: pn)) (g := g) (i := i) (cbf := cbf) List.mem_cons_self hz hf h5 h8 h10 (fun x hx => G.G.blt x hx) (fun c hc => G.G.ex.mg c _ (hcf c hc)) es xs h12
    have st : PS (X.suite a ((a, oe) :: pn)) (.Assign [.Name m mp] (.Tuple xs k tp) ap) _ := ps_set (X := X.suite a ((a, oe) :: pn)) G.G.nd h6 (.inl h9) (pe_tup pa) (by rfl) (.inr h9)
    refine imp_Ss (pss_cons st (pss_nil (X := X.suite a ((a, oe) :: pn)))) fun D σ H h => ?_
    exact h
  rw [evS] at h
  refine ⟨ρ, r, ?_⟩
  cases q : evSs F b ρ with
  | nx ρ1 => rw [q] at h; exact h
  | bk ρ1 => rw [q] at h; exact h
  | ct ρ1 => rw [q] at h; exact h
  | rt z ρ1 => rw [q] at h; exact h
  | no => rw [q] at h; exact h
  | exc c' d ρ1 =>
    rw [q] at h
    simp only at h
    intro cls dd σ1 H1 sp ⟨ca, bb, v, e1, hcl, e2, hx, dv⟩
    subst e1
    subst e2
    have hcl' := (G.G.cls c' ca).mp hcl
    cases hsub : F.sub c' x with
    | none => rw [hsub] at h; exact h.elim
    | some z =>
      rw [hsub] at h
      refine ⟨z, by rw [hK]; exact (G.G.ex.sub c' x ca cb z hsub hcl' hcb).1, fun hz a ha => ?_, fun hz => ?_⟩
      · subst hz
        simp only at h
        split at h
        case isFalse => exact h.elim
        rename_i hc
        simp only [Bool.and_eq_true, decide_eq_true_eq] at hc
        obtain ⟨⟨ci, cj⟩, nij⟩ := hc
        split at h
        case h_2 => exact h.elim
        rename_i ds hv
        split at h
        case isFalse => exact h.elim
        rename_i hsm
        obtain ⟨v1, v2⟩ := heVs_map hv
        have hil : i < σ1.length := by
          have hln := sp.2.len
          unfold calmS at ci
          by_cases hlt : i < ρ1.length
          · omega
          · rw [List.getElem?_eq_none (by omega)] at ci; cases ci
        have kx : HeK X.K i a (.ref ca) (some bb) (σ1.set i (some (.ref a))) H1 ca v := ⟨rfl, by rw [hK]; exact excOk_k hcl'.2, by rw [List.getElem?_set_self hil], bb, rfl, hx⟩
        refine tIts_of (zf := fun c => (F.sub c' c).getD false) kx es (fun c2 hc2 => ?_) ⟨?_, fun p hpn => ?_⟩
        · obtain ⟨b2, eb⟩ := v1 c2 hc2
          have hex := he_mem h12 hc2
          rw [hK, (G.G.ex.sub c' c2 ca _ b2 eb hcl' (hcf c2 hex)).2, eb]
          rfl
        · rw [(v2 dv).length]
          exact small_le hsm
        · have ex : Ext H1 (upd H1 p (.tup (es.map (itV (fun c => (F.sub c' c).getD false) v)))) := ext_upd' hpn
          have s1 := ex.sg (ρ := ρ1) (σ := σ1)
          obtain ⟨r3, o3⟩ := (sp.2.ext ex).slot ci (s := .un) (o := none) (.inl rfl)
          have hc2 : calmS (ρ1.set i .un) j = true := by
            unfold calmS
            rw [List.getElem?_set_ne nij]
            exact cj
          have dx : Dr C.K (Reg C [] (ρ1.set i .un) (σ1.set i none)) (upd H1 p (.tup (es.map (itV (fun c => (F.sub c' c).getD false) v)))) (.ref p) (.tup ds) := .tup (.inl upd_same) (v2 (o3.dr (s1.dr sp.2 dv)))
          obtain ⟨r4, o4⟩ := r3.slot hc2 (s := .val (.tup ds)) (o := some (.ref p)) (.inr ⟨_, _, rfl, rfl, dx⟩)
          have es' : ((σ1.set i (some (V.ref a))).set j (some (.ref p))).set i none = (σ1.set i none).set j (some (.ref p)) := by
            rw [List.set_comm _ _ (Ne.symm nij), List.set_set]
          show E.nx (((σ1.set i (some (V.ref a))).set j (some (.ref p))).set i none) _
          rw [es']
          exact h _ _ ⟨sp.1.trans (((s1.trans o3.sg).trans o4.sg).sk sp.2), r4⟩
      · subst hz
        exact h _ _ _ _ sp ⟨ca, bb, v, rfl, hcl, rfl, hx, dv⟩
theorem q_tryT (G : GoodS X C F W g) {b : List MS} {c : Str} {i j : Nat} {es : List HE} (hb : ∀ X W, GoodS X C F W g → Q2 X C F W g b) : Q1 X C F W g (.tryT b c i j es) := fun s h => by
  rw [chkS.eq_def] at h
  split at h
  all_goals (try contradiction)
  rename_i heq
  cases heq
  rw [Bool.and_eq_true] at h
  exact tryT_S G (fun X' W' G' e1 e2 => hb X' W' G' _ (by rw [e1, e2]; exact h.2)) h.1
theorem q_nil : Q2 X C F W g [] := fun ss h => by
  cases ss with
  | cons s ss => cases h
  | nil =>
    refine imp_Ss pss_nil fun E σ H ⟨ρ, r, h⟩ => ?_
    rw [evSs] at h
    exact h σ H ⟨.refl, r⟩
theorem q_cons {m : MS} {ms : List MS} (h1 : Q1 X C F W g m) (h2 : Q2 X C F W g ms) : Q2 X C F W g (m :: ms) := fun ss h => by
  cases ss with
  | nil => cases h
  | cons s ss =>
    simp only [chkSs, Bool.and_eq_true] at h
    exact cons_S (h1 s h.1) (h2 ss h.2)
theorem all_S (m : MS) : ∀ (X : Cx) (W : WX), GoodS X C F W g → Q1 X C F W g m :=
  MS.rec (motive_1 := fun m => ∀ (X : Cx) (W : WX), GoodS X C F W g → Q1 X C F W g m) (motive_2 := fun m => ∀ (X : Cx) (W : WX), GoodS X C F W g → Q2 X C F W g m) (fun _ _ _ _ G => q_asg G) (fun _ _ _ _ G => q_asgT G) (fun _ _ _ _ G => q_par G) (fun _ _ _ _ _ G => q_aug G) (fun _ _ _ _ _ G => q_seti G) (fun _ _ _ _ _ G => q_setd G) (fun _ _ _ _ G => q_asgL G)
    (fun _ _ _ _ _ _ _ G => q_set2 G) (fun _ _ _ G => q_exp G) (fun _ _ _ a b X W G => q_iff G (a X W G) (b X W G)) (fun _ _ a X W G => q_wh G (a X W G)) (fun _ _ _ a X W G => q_for G (a X W G)) (fun _ _ _ G => q_ret G)
    (fun _ _ _ => q_retN) (fun _ _ _ => q_brk) (fun _ _ _ => q_cnt) (fun _ _ _ => q_pas) (fun _ _ _ => q_nev) (fun _ _ _ _ G => q_rai G) (fun _ _ _ _ a _ _ G => q_try G a) (fun _ _ _ _ _ a _ _ G => q_tryT G a) (fun _ _ _ => q_nil) (fun _ _ a b X W G => q_cons (a X W G) (b X W G)) m
/-- THE BODY: what the run of the statements says is what happens -/
theorem all_Ss (G : GoodS X C F W g) : ∀ ms : List MS, Q2 X C F W g ms
  | [] => q_nil
  | m :: ms => q_cons (all_S m _ _ G) (all_Ss G ms)
end
end Own

/-! part Own20 -/
namespace Own
open PySem PySem.Spec L2

open PyProof.Rows in
/-- a def by its body, where no repr is under way -/
theorem fnG_of {P : Program} {w : World} {K : PySem.W.Frag} {mg : Str → Option Value} {base : Heap} {k : Nat} {f : Addr} {x qual : Str} {params : Arguments} {body : List Stmt} {scope : Scope} {dvs : List V} {kws : List (Str × V)} {fd : FuncData} {N ps : List Str} {sp : Sp}
    (FD : FunD K x qual params body scope dvs kws f fd) (S : FnScope N ps scope) (len : ∀ vs H Q E, sp vs H Q E → vs.length = ps.length)
    (hbody : ∀ (cdv : Value) (A : Around) (out : List PySem.Env) (s : Shared) (H : Hp) (vs : List V) (Q : VK) (E : XK), A.guards = some [] → Room k (A.deeper (envOfC qual scope s.heap.objs.size f cdv)) → sp vs H Q E →
      ∃ t, PSs (cxOf (L2.CX P w) P w K mg base N qual scope f cdv A out s H E) body t ∧ t { nx := fun _ H2 => Q .non H2, rt := Q } (start N vs) H) : FnG P w K mg base (k + 1) f fd ps sp := by
  obtain ⟨oc, od, dV, kV, doc, pm, an, cdv, ct, osl, rfl, lk, hcd, _, _⟩ := FD.ex
  refine ⟨len, fun A out s H args us vs Q E hgd hrm env0 hbt rl hs => ?_⟩
  have ln := len _ _ _ _ hs
  have kin : K.In s.heap := env0.mod.kin.keeps fun b o e => (env0.bs b o e).1
  have nlim : s.heap.NoLimit := env0.mod.nolimit.keeps fun b o e => (env0.bs b o e).1
  have kinds : ∀ y ∈ ps.zip us, scope.names.lookup y.1 = some .local ∨ (scope.names.lookup y.1 = some .cell ∧ ((cellsFrom (s.heap.objs.size + 1) scope.names []).lookup y.1).isSome = true) := fun ⟨n, v⟩ hy =>
    (S.par n (List.of_mem_zip hy).1).imp id fun q => ⟨q, PySem.W.cellsFrom_some _ _ _ (.inl q)⟩
  refine codeAny_call_function hrm.depth (kin _ _ lk) rfl S.co S.gen rfl (PySem.W.codeRec_of kin hcd) (hbt _ _ _ _ ?_)
  refine wpAny_newFunctionEnv_cells S.kind kinds fun en hen t1 ic => ?_
  subst hen
  refine ⟨nlim.keeps ic.toInCall.keep, codeAny_func ?_⟩
  obtain ⟨t, pt, ht⟩ := hbody cdv A out s H vs Q E hgd (hrm.deeper _) hs
  have J0 : L2.Inv (cxOf (L2.CX P w) P w K mg base N qual scope f cdv A out s H E) [] (start N vs) H t1 := inv_start S hrm.hd env0 ln rl ic
  refine wpAny_mono (pt.run [] t1 (start N vs) H _ J0 ht) (fun fl t2 hf => ?_) fun _ _ z => z
  have fin : ∀ {σ2 : L2.St} {H2 : Hp} {v : V} {u : Value}, L2.Inv (cxOf (L2.CX P w) P w K mg base N qual scope f cdv A out s H E) [] σ2 H2 t2 → RelV v u → Q v H2 → CE out P w H s Q u t2 :=
    fun {σ2 H2 v u} J rv q => ⟨v, H2, J.os, J.bare, J.base, J.hok, rv, q⟩
  match fl, hf with
  | .ret u, ⟨v, σ2, H2, J, rv, q⟩ => exact fin J rv q
  | .next, ⟨σ2, H2, J, q⟩ => exact fin (v := V.non) (u := Value.none) J rfl q
  | .brk, ⟨_, _, _, q⟩ => exact q.elim
  | .cont, ⟨_, _, _, q⟩ => exact q.elim

/-! ### the run of a def -/
/-- a def of the program: which parameters are lent to it, how many names, what it does -/
structure Df where
  lend : List Bool
  n : Nat
  body : List MS
def startR (lend : List Bool) (ds : List D) (n : Nat) : Rho := (List.zipWith (fun b d => if b then Slot.own d else Slot.val d) lend ds) ++ List.replicate (n - ds.length) .un
def mineOf : Nat → List Bool → List Nat
  | _, [] => []
  | k, true :: bs => k :: mineOf (k + 1) bs
  | k, false :: bs => mineOf (k + 1) bs
/-- what is left in the lent names -/
def outsOf (ρ : Rho) : List Nat → Option (List D)
  | [] => some []
  | i :: is => match ρ[i]?, outsOf ρ is with
    | some (.own d), some ds => some (d :: ds)
    | _, _ => none
def noNam : Rho → Bool
  | [] => true
  | .nam _ :: _ => false
  | _ :: r => noNam r
def crOf (lend : List Bool) : Oc → Cr
  | .nx ρ => match outsOf ρ (mineOf 0 lend) with
    | some es => if noNam ρ then .ok (.v .non) es else .no
    | none => .no
  | .rt x ρ => match outsOf ρ (mineOf 0 lend) with
    | some es => if x.keeps && noNam ρ then .ok x es else .no
    | none => .no
  | .exc c d ρ => match outsOf ρ (mineOf 0 lend) with
    | some es => if noNam ρ then .exc c d es else .no
    | none => .no
  | _ => .no
/-- the program: its defs, its constants -/
structure Pg where
  defs : List Df
  glb : List D
  /-- the error classes: each with itself and those above it -/
  exs : List (Str × List Str) := []
def Pg.sub (p : Pg) (c c' : Str) : Option Bool := match p.exs.lookup c, p.exs.lookup c' with
  | some l, some _ => some (l.contains c')
  | _, _ => none
def Pg.lend (p : Pg) (f : Nat) : List Bool := match p.defs[f]? with
  | some d => d.lend
  | none => []
noncomputable def Pg.run (p : Pg) : Nat → Nat → List D → Cr
  | 0, _, _ => .no
  | k + 1, f, ds => match p.defs[f]? with
    | some d => if decide (ds.length = d.lend.length) && decide (ds.length ≤ d.n) then crOf d.lend (evSs ⟨p.lend, p.run k, fun i => p.glb.getD i .non, mineOf 0 d.lend, p.sub, k⟩ d.body (startR d.lend ds d.n)) else .no
    | none => .no
noncomputable abbrev Pg.fns (p : Pg) (k : Nat) (f : Nat) : Fns := ⟨p.lend, p.run k, fun i => p.glb.getD i .non, mineOf 0 (p.lend f), p.sub, k⟩
section
variable {α β : Type} {C : Cn} {F : Fns} {W : WX} {g : Gi} {T L : List Addr} {ρ ρ' ρ1 ρ2 ρ3 : Rho} {σ σ' σ1 σ2 : St} {H H' H1 H2 H3 : Hp} {x y : VR} {v w : V} {d e : D} {K : PySem.W.Frag}
/-- the lent parameters: slot, address -/
def lentIx : Nat → List Bool → List V → List (Nat × Addr)
  | k, true :: bs, .ref a :: vs => (k, a) :: lentIx (k + 1) bs vs
  | k, _ :: bs, _ :: vs => lentIx (k + 1) bs vs
  | _, _, _ => []
theorem lentIx_false {k : Nat} {bs : List Bool} {v : V} {vs : List V} : lentIx k (false :: bs) (v :: vs) = lentIx (k + 1) bs vs := by cases v <;> rfl
theorem lentIx_map {R : Bool → Addr → Prop} : ∀ {bs : List Bool} {vs : List V} {ds : List D} {L : List Addr} {k : Nat}, Ar K R H bs vs ds L → (lentIx k bs vs).map (·.2) = L ∧ (lentIx k bs vs).map (·.1) = mineOf k bs
  | _, _, _, _, _, .nil => ⟨rfl, rfl⟩
  | _, v :: vs, _, _, k, .v h t => by
    obtain ⟨h1, h2⟩ := lentIx_map (k := k + 1) t
    rw [lentIx_false]
    exact ⟨h1, h2⟩
  | _, _, _, _, k, .l h t => by
    obtain ⟨h1, h2⟩ := lentIx_map (k := k + 1) t
    exact ⟨congrArg _ h1, congrArg _ h2⟩
theorem lentIx_get {R : Bool → Addr → Prop} : ∀ {bs : List Bool} {vs : List V} {ds : List D} {L : List Addr} {k i : Nat} {a : Addr}, Ar K R H bs vs ds L → (i, a) ∈ lentIx k bs vs → k ≤ i ∧ vs[i - k]? = some (.ref a) ∧ ∃ d, (List.zipWith (fun b d => if b then Slot.own d else Slot.val d) bs ds)[i - k]? = some (.own d)
  | _, _, _, _, _, _, _, .nil, h => by cases h
  | _, v :: vs, _, _, k, i, a, .v h t, hm => by
    rw [lentIx_false] at hm
    obtain ⟨h1, h2, d, h3⟩ := lentIx_get t hm
    have e2 : i - k = (i - (k + 1)) + 1 := by omega
    refine ⟨by omega, ?_, d, ?_⟩
    · rw [e2]; simpa using h2
    · rw [e2]; simpa using h3
  | _, _, _, _, k, i, a, .l h t, hm => by
    rcases List.mem_cons.mp hm with z | z
    · cases z
      exact ⟨Nat.le_refl _, by simp, _, by simp; rfl⟩
    · obtain ⟨h1, h2, d, h3⟩ := lentIx_get t z
      have e2 : i - k = (i - (k + 1)) + 1 := by omega
      refine ⟨by omega, ?_, d, ?_⟩
      · rw [e2]; simpa using h2
      · rw [e2]; simpa using h3
/-- what the parameters' slots are -/
theorem ar_get {R : Bool → Addr → Prop} : ∀ {bs : List Bool} {vs : List V} {ds : List D} {L : List Addr} {i : Nat} {s : Slot}, Ar K R H bs vs ds L → (List.zipWith (fun b d => if b then Slot.own d else Slot.val d) bs ds)[i]? = some s →
    (∃ d v, s = .val d ∧ vs[i]? = some v ∧ Dr K R H v d) ∨ ∃ d a, s = .own d ∧ vs[i]? = some (.ref a) ∧ a ∈ L ∧ Top K R H a d ∧ ∀ k, (i + k, a) ∈ lentIx k bs vs
  | _, _, _, _, _, _, .nil, h => by simp at h
  | _, v :: vs, _, _, 0, s, .v h t, hs => by
    simp at hs
    exact .inl ⟨_, v, hs.symm, by simp, h⟩
  | _, v :: vs, _, _, i + 1, s, .v h t, hs => by
    rcases ar_get (i := i) t (by simpa using hs) with ⟨d, w, h1, h2, h3⟩ | ⟨d, a, h1, h2, h3, h4, h5⟩
    · exact .inl ⟨d, w, h1, by simpa using h2, h3⟩
    · refine .inr ⟨d, a, h1, by simpa using h2, h3, h4, fun k => ?_⟩
      rw [lentIx_false, show i + 1 + k = i + (k + 1) by omega]
      exact h5 (k + 1)
  | _, _, _, _, 0, s, .l h t, hs => by
    simp at hs
    exact .inr ⟨_, _, hs.symm, by simp, List.mem_cons_self, h, fun k => by simp [lentIx]⟩
  | _, _, _, _, i + 1, s, .l h t, hs => by
    rcases ar_get (i := i) t (by simpa using hs) with ⟨d, w, h1, h2, h3⟩ | ⟨d, a, h1, h2, h3, h4, h5⟩
    · exact .inl ⟨d, w, h1, by simpa using h2, h3⟩
    · refine .inr ⟨d, a, h1, by simpa using h2, List.mem_cons_of_mem _ h3, h4, fun k => ?_⟩
      have := h5 (k + 1)
      rw [show i + (k + 1) = i + 1 + k by omega] at this
      exact List.mem_cons_of_mem _ this
theorem Ar.lens {R : Bool → Addr → Prop} : ∀ {bs : List Bool} {vs : List V} {ds : List D} {L : List Addr}, Ar K R H bs vs ds L → vs.length = bs.length ∧ ds.length = bs.length
  | _, _, _, _, .nil => ⟨rfl, rfl⟩
  | _, _, _, _, .v _ t => by simp [(Ar.lens t).1, (Ar.lens t).2]
  | _, _, _, _, .l _ t => by simp [(Ar.lens t).1, (Ar.lens t).2]
theorem startR_get {lend : List Bool} {ds : List D} {n i : Nat} {s : Slot} (h : (startR lend ds n)[i]? = some s) : s = .un ∨ (List.zipWith (fun b d => if b then Slot.own d else Slot.val d) lend ds)[i]? = some s := by
  unfold startR at h
  by_cases hi : i < (List.zipWith (fun b d => if b then Slot.own d else Slot.val d) lend ds).length
  · rw [List.getElem?_append_left hi] at h
    exact .inr h
  · rw [List.getElem?_append_right (Nat.le_of_not_lt hi), List.getElem?_replicate] at h
    split at h
    · cases h
      exact .inl rfl
    · cases h
theorem startR_zip {lend : List Bool} {ds : List D} {n i : Nat} {s : Slot} (h : (List.zipWith (fun b d => if b then Slot.own d else Slot.val d) lend ds)[i]? = some s) : (startR lend ds n)[i]? = some s := by
  unfold startR
  rw [List.getElem?_append_left (List.getElem?_eq_some_iff.mp h).1]
  exact h
theorem start_get {N : List Str} {vs : List V} {i : Nat} {v : V} (h : vs[i]? = some v) : (start N vs)[i]? = some (some v) := by
  unfold L2.start
  have hi : i < vs.length := (List.getElem?_eq_some_iff.mp h).1
  rw [List.getElem?_append_left (by simpa using hi), List.getElem?_map, h]
  rfl
theorem start_rep {out nam : Addr → Prop} {L : List Addr} {ds : List D} {vs : List V} {N : List Str} {lend : List Bool} {cls : Str → Addr → Prop} (ar : Ar K (RegC out nam L) H lend vs ds L) (nd : L.Nodup) (h1 : ∀ a ∈ L, ¬ out a ∧ ¬ nam a) (h2 : ∀ a, out a ∨ nam a → ∃ o, H a = some o)
    (hn : ds.length ≤ N.length) : Rep ⟨K, out, nam, H, lentIx 0 lend vs, cls⟩ [] (startR lend ds N.length) (start N vs) H := by
  obtain ⟨l1, l2⟩ := ar.lens
  obtain ⟨m1, m2⟩ := lentIx_map (k := 0) ar
  have inL : ∀ {i a}, (i, a) ∈ lentIx 0 lend vs → a ∈ L := fun {i a} h => by rw [← m1]; exact List.mem_map.mpr ⟨(i, a), h, rfl⟩
  have own : ∀ (i : Nat) d a, (startR lend ds N.length)[i]? = some (.own d) → (start N vs)[i]? = some (some (V.ref a)) → a ∈ L ∧ Top K (RegC out nam L) H a d ∧ (i, a) ∈ lentIx 0 lend vs := fun i d a h1 h2 => by
    rcases startR_get h1 with z | z
    · cases z
    · rcases ar_get ar z with ⟨d', v, q, _⟩ | ⟨d', b, q, q2, q3, q4, q5⟩
      · cases q
      · cases q
        rw [start_get q2] at h2
        cases h2
        exact ⟨q3, q4, q5 0⟩
  have noN : ∀ a, ¬ Nams (startR lend ds N.length) (start N vs) a := fun a ⟨i, d, q1, q2⟩ => by
    rcases startR_get q1 with z | z
    · cases z
    · rcases ar_get ar z with ⟨d', v, q, _⟩ | ⟨d', b, q, _⟩ <;> cases q
  have ow : ∀ a, Owns (startR lend ds N.length) (start N vs) a → a ∈ L := fun a ⟨i, d, q1, q2⟩ => (own i d a q1 q2).1
  have rg : ∀ nm a, RegC out nam L nm a → Reg ⟨K, out, nam, H, lentIx 0 lend vs, cls⟩ [] (startR lend ds N.length) (start N vs) nm a := fun nm a g =>
    ⟨g.out, (fun z => nomatch z), fun o => g.lent (ow a o), by rw [g.nam]; exact ⟨.inl, fun z => z.elim id fun z => absurd z (noN a)⟩⟩
  exact {
    len := by
      unfold startR L2.start
      rw [List.length_append, List.length_append, List.length_zipWith, List.length_map, List.length_replicate, List.length_replicate]
      omega
    val := fun i d h => by
      rcases startR_get h with z | z
      · cases z
      · rcases ar_get ar z with ⟨d', v, q, q2, q3⟩ | ⟨d', b, q, _⟩
        · cases q
          exact ⟨v, start_get q2, q3.mono fun _ _ g _ => rg _ _ g⟩
        · cases q
    own := fun i d h => by
      rcases startR_get h with z | z
      · cases z
      · rcases ar_get ar z with ⟨d', v, q, _⟩ | ⟨d', b, q, q2, q3, q4, q5⟩
        · cases q
        · cases q
          exact ⟨b, start_get q2, q4.keep Keep.refl (fun _ _ g _ => rg _ _ g) fun _ z => z⟩
    nam := fun i d h => by
      rcases startR_get h with z | z
      · cases z
      · rcases ar_get ar z with ⟨d', v, q, _⟩ | ⟨d', b, q, _⟩ <;> cases q
    apart := fun i j d e a h1 h2 h3 h4 => by
      have a1 := (own i d a h1 h3).2.2
      have a2 := (own j e a h2 h4).2.2
      have nd' : ((lentIx 0 lend vs).map (·.2)).Nodup := by rw [m1]; exact nd
      have inj : ∀ {l : List (Nat × Addr)}, (l.map (·.2)).Nodup → (i, a) ∈ l → (j, a) ∈ l → i = j := by
        intro l
        induction l with
        | nil => intro _ h; cases h
        | cons q l ih =>
          intro hn hi hj
          have hn' := List.nodup_cons.mp hn
          rcases List.mem_cons.mp hi with z | z <;> rcases List.mem_cons.mp hj with z2 | z2
          · rw [← z] at z2; exact (congrArg Prod.fst z2).symm
          · subst z; exact absurd (List.mem_map.mpr ⟨(j, a), z2, rfl⟩) hn'.1
          · subst z2; exact absurd (List.mem_map.mpr ⟨(i, a), z, rfl⟩) hn'.1
          · exact ih hn'.2 z z2
      exact inj nd' a1 a2
    ownT := fun a _ z => nomatch z
    tmpAt := fun a z => nomatch z
    ownN := fun a h => by
      rcases h with h | h
      · exact fun z => z.elim (h1 a (ow a h)).2 (noN a)
      · cases h
    new := fun a h => by
      rcases h with h | h
      · refine ⟨(h1 a (ow a h)).1, .inr ?_⟩
        obtain ⟨i, d, q1, q2⟩ := h
        exact ⟨i, (own i d a q1 q2).2.2⟩
      · cases h
    newN := fun a h => absurd h (noN a)
    frame := fun a o h _ => h
    cn := fun a h => ⟨h2 a h, fun i hi => h.elim (h1 a (inL hi)).1 (h1 a (inL hi)).2⟩
    lent := fun i a h => by
      obtain ⟨_, q2, d, q3⟩ := lentIx_get ar h
      exact ⟨start_get q2, d, startR_zip q3⟩ }
theorem noNam_of : ∀ {ρ : Rho}, noNam ρ = true → ∀ (i : Nat) d, ρ[i]? ≠ some (.nam d)
  | [], _, i, d => by simp
  | .nam _ :: _, h, i, d => by cases h
  | .un :: r, h, 0, d => by simp
  | .val _ :: r, h, 0, d => by simp
  | .own _ :: r, h, 0, d => by simp
  | .un :: r, h, i + 1, d => by simpa using noNam_of (ρ := r) h i d
  | .val _ :: r, h, i + 1, d => by simpa using noNam_of (ρ := r) h i d
  | .own _ :: r, h, i + 1, d => by simpa using noNam_of (ρ := r) h i d
theorem outs_lr {R : Bool → Addr → Prop} (r : Rep C T ρ σ H) (hR : ∀ nm a, Reg C T ρ σ nm a → (∃ o, H a = some o) → R nm a) : ∀ {l : List (Nat × Addr)} {es : List D}, (∀ p ∈ l, p ∈ C.lent) → outsOf ρ (l.map (·.1)) = some es → Lr C.K R H (l.map (·.2)) es
  | [], es, _, h => by cases h; exact .nil
  | (i, a) :: l, es, hl, h => by
    simp only [List.map_cons, outsOf] at h
    split at h
    · rename_i d ds e1 e2
      cases h
      obtain ⟨q1, _⟩ := r.lent i a (hl _ List.mem_cons_self)
      obtain ⟨b, q2, q3⟩ := r.own i d e1
      rw [q1] at q2
      cases q2
      exact .cons (q3.keep Keep.refl hR fun _ z => z) (outs_lr r hR (fun p hp => hl p (List.mem_cons_of_mem _ hp)) e2)
    · cases h
/-- a def's outcome is what it promises -/
theorem def_end {out nam : Addr → Prop} {L : List Addr} {ds : List D} {vs : List V} {lend : List Bool} {cls : Str → Addr → Prop} {H0 : Hp} {Q : VK} {Ex : XK} {o : Oc} {cr : Cr} (ar : Ar K (RegC out nam L) H0 lend vs ds L) (r0 : Rep ⟨K, out, nam, H0, lentIx 0 lend vs, cls⟩ [] ρ σ H0)
    (h : match cr with
      | .ok x es => ∀ v H', CRes K out nam L H0 H' x es v → Q v H'
      | .exc c d es => ∀ cl dd H', (∀ a o, H0 a = some o → a ∉ L → H' a = some o) → Lr K (RegC out nam L) H' L es → (∃ a b v, cl = .ref a ∧ cls c a ∧ dd = some b ∧ H' b = some (.xd [("value", v)]) ∧ Dr K (RegC out nam L) H' v d) → Ex cl dd H'
      | .no => False) (hc : crOf lend o = cr) :
    AfterS ⟨K, out, nam, H0, lentIx 0 lend vs, cls⟩ (fun c d _ H' => Ex c d H') ρ σ H0 o { nx := fun _ H' => Q .non H', rt := Q } := by
  obtain ⟨m1, m2⟩ := lentIx_map (k := 0) ar
  -- a region's address as the caller sees it
  have rgc : ∀ {T : List Addr} {ρ' : Rho} {σ' : St} {H' : Hp}, Rep ⟨K, out, nam, H0, lentIx 0 lend vs, cls⟩ T ρ' σ' H' → noNam ρ' = true → ∀ nm a, Reg ⟨K, out, nam, H0, lentIx 0 lend vs, cls⟩ T ρ' σ' nm a → RegC out nam (T ++ L) nm a := fun {T ρ' σ' H'} r hn nm a g => by
    refine ⟨g.out, fun m => ?_, g.nam.trans ⟨fun z => z.elim id fun ⟨i, d, q, _⟩ => absurd q (noNam_of hn i d), .inl⟩⟩
    rcases List.mem_append.mp m with m | m
    · exact g.tmp m
    · rw [← m1] at m
      obtain ⟨⟨i, b⟩, hb, e⟩ := List.mem_map.mp m
      cases e
      obtain ⟨q1, d, q2⟩ := r.lent i b hb
      exact g.own ⟨i, d, q2, q1⟩
  have outs : ∀ {T : List Addr} {ρ' : Rho} {σ' : St} {H' : Hp} {es : List D}, Rep ⟨K, out, nam, H0, lentIx 0 lend vs, cls⟩ T ρ' σ' H' → noNam ρ' = true → outsOf ρ' (mineOf 0 lend) = some es → Lr K (RegC out nam (T ++ L)) H' L es := fun {T ρ' σ' H' es} r hn he => by
    have he2 : outsOf ρ' ((lentIx 0 lend vs).map (·.1)) = some es := by rw [m2]; exact he
    have := outs_lr (R := RegC out nam (T ++ L)) r (fun nm a g _ => rgc r hn nm a g) (l := lentIx 0 lend vs) (fun p hp => hp) he2
    rw [m1] at this
    exact this
  have frame : ∀ {T : List Addr} {ρ' : Rho} {σ' : St} {H' : Hp}, Rep ⟨K, out, nam, H0, lentIx 0 lend vs, cls⟩ T ρ' σ' H' → ∀ a o, H0 a = some o → a ∉ L → H' a = some o := fun {T ρ' σ' H'} r a o e hn => r.frame a o e fun i hi => hn (by rw [← m1]; exact List.mem_map.mpr ⟨(i, a), hi, rfl⟩)
  cases o with
  | no => subst hc; exact h
  | bk ρ' => subst hc; exact h.elim
  | ct ρ' => subst hc; exact h.elim
  | nx ρ' =>
    simp only [crOf] at hc
    intro σ' H' ⟨_, r⟩
    split at hc
    case h_2 => subst hc; exact h.elim
    rename_i es he
    split at hc
    case isFalse => subst hc; exact h.elim
    rename_i hn
    subst hc
    have hs := outs r hn he
    exact h .non H' ⟨frame r, .non, by simpa using hs⟩
  | exc c d ρ' =>
    simp only [crOf] at hc
    intro cl dd σ' H' ⟨_, r⟩ ⟨a, b, v, e1, e2, e3, e4, e5⟩
    split at hc
    case h_2 => subst hc; exact h.elim
    rename_i es he
    split at hc
    case isFalse => subst hc; exact h.elim
    rename_i hn
    subst hc
    have hs := outs r hn he
    exact h cl dd H' (frame r) (by simpa using hs) ⟨a, b, v, e1, e2, e3, e4, e5.mono fun nm a g _ => by simpa using rgc r hn nm a g⟩
  | rt x ρ' =>
    simp only [crOf] at hc
    intro v σ' H' r q
    split at hc
    case h_2 => subst hc; exact h.elim
    rename_i es he
    split at hc
    case isFalse => subst hc; exact h.elim
    rename_i hkn
    subst hc
    simp only [Bool.and_eq_true] at hkn
    have hn := hkn.2
    have hs := outs r hn he
    refine h v H' ⟨frame r, ?_⟩
    cases x with
    | l i => cases hkn.1
    | v d =>
      rw [tmps_v] at r q hs
      exact ⟨Dr.mono (fun nm a g _ => by simpa using rgc r hn nm a g) q, by simpa using hs⟩
    | f d =>
      obtain ⟨a, rfl, ma, t⟩ := q
      refine ⟨a, rfl, ?_, t.keep Keep.refl (fun nm b g _ => rgc r hn nm b g) fun _ z => z, hs⟩
      rcases (r.new a (.inr ma)).2 with z | ⟨i, z⟩
      · exact z
      · obtain ⟨q1, d', q2⟩ := r.lent i a z
        exact absurd ma (r.ownT a ⟨i, d', q2, q1⟩)
end
end Own

/-! part Own21 -/
namespace Own
open PySem PySem.Spec L2

/-- a def of the text, and how it is run -/
structure DefT (K : PySem.W.Frag) (mg : Str → Option Value) (g : Gi) (p : Pg) (f : Nat) (x : Str) (ps : List Str) : Prop where
  ex : ∃ (fa : Addr) (fd : FuncData) (y qual : Str) (params : Arguments) (body : List Stmt) (scope : Scope) (dvs : List V) (kws : List (Str × V)) (N : List Str) (dd : Df), mg x = some (.ref fa) ∧ p.defs[f]? = some dd ∧ FunD K y qual params body scope dvs kws fa fd ∧ FnScope N ps scope ∧ N.length = dd.n ∧ dd.lend.length = ps.length ∧
    chkSs g N scope dd.body body = true ∧ Binds K fd ps [] ∧
    ∀ n ks inv, (f, n, ks, inv) ∈ g.kws → ∀ (s : Shared) (us ws : List Value), K.In s.heap → us.length = n → ws.length = ks.length → BindsTo s fd ⟨us, ks.zip ws⟩ (ps.zip (pick inv (us ++ ws)))
structure TextT (P : Program) (K : PySem.W.Frag) (mg : Str → Option Value) (g : Gi) (p : Pg) : Prop where
  ex : Excs P K mg p.sub g.excs
  blt : ∀ x ∈ g.blts, mg x = none
  mods : ∀ x id, (x, id) ∈ g.mods → mg x = some (.builtin id)
  glb : ∀ k x, g.glbs[k]? = some x → ∃ u v, mg x = some u ∧ RelV v u ∧ ∀ R H, Dr K R H v (p.glb.getD k .non)
  fns : ∀ f x ps, g.fns[f]? = some (x, ps) → DefT K mg g p f x ps
section
variable {P : Program} {w : World} {K : PySem.W.Frag} {mg : Str → Option Value} {base : Heap} {g : Gi} {p : Pg}
/-- every def of the text keeps the promise of its run, at every depth -/
theorem all_fn (T : TextT P K mg g p) : ∀ (k f : Nat) (x : Str) (ps : List Str), g.fns[f]? = some (x, ps) → (p.lend f).length = ps.length ∧ ∃ (fa : Addr) (fd : FuncData), mg x = some (.ref fa) ∧ PySem.W.keepIn K (.ref fa) = true ∧ (∃ oc od osl, K.lookup fa = some ⟨oc, od, .func fd, osl⟩) ∧ FnG P w K mg base k fa fd ps (spOf K (clsK K) (p.lend f) (p.run k f)) ∧ Binds K fd ps [] ∧
    ∀ n ks inv, (f, n, ks, inv) ∈ g.kws → ∀ (s : Shared) (us ws : List Value), K.In s.heap → us.length = n → ws.length = ks.length → BindsTo s fd ⟨us, ks.zip ws⟩ (ps.zip (pick inv (us ++ ws)))
  | 0, f, x, ps, hf => by
    obtain ⟨fa, fd, y, qual, params, body, scope, dvs, kws, N, dd, h1, h2, h3, h4, h5, h6, h7, h8, h9⟩ := (T.fns f x ps hf).ex
    have hl : (p.lend f).length = ps.length := by unfold Pg.lend; rw [h2]; exact h6
    have lk : ∃ oc od osl, K.lookup fa = some ⟨oc, od, .func fd, osl⟩ := by
      obtain ⟨oc, od, _, _, _, _, _, _, _, osl, _, q, _⟩ := h3.ex
      exact ⟨oc, od, osl, q⟩
    exact ⟨hl, fa, fd, h1, h3.kp, lk, ⟨fun vs H Q E ⟨_, _, _, _, ar, _⟩ => ar.lens.1.trans hl, fun A out s H args us vs Q E _ _ _ _ _ ⟨_, _, _, _, _, _, _, _, z⟩ => z.elim⟩, h8, h9⟩
  | k + 1, f, x, ps, hf => by
    obtain ⟨fa, fd, y, qual, params, body, scope, dvs, kws, N, dd, h1, h2, h3, h4, h5, h6, h7, h8, h9⟩ := (T.fns f x ps hf).ex
    have hl : (p.lend f).length = ps.length := by unfold Pg.lend; rw [h2]; exact h6
    have he : p.lend f = dd.lend := by unfold Pg.lend; rw [h2]
    have lk : ∃ oc od osl, K.lookup fa = some ⟨oc, od, .func fd, osl⟩ := by
      obtain ⟨oc, od, _, _, _, _, _, _, _, osl, _, q, _⟩ := h3.ex
      exact ⟨oc, od, osl, q⟩
    refine ⟨hl, fa, fd, h1, h3.kp, lk, ?_, h8, h9⟩
    refine fnG_of (N := N) h3 h4 (fun vs H Q E ⟨_, _, _, _, ar, _⟩ => ar.lens.1.trans hl) fun cdv A out s H vs Q E hgd hrm ⟨outp, nam, ds, L, ar, nd, a1, a2, hr⟩ => ?_
    have hlen := ar.lens
    rw [he] at hlen ar
    -- the run, a step in
    have er : p.run (k + 1) f ds = if decide (ds.length = dd.lend.length) && decide (ds.length ≤ dd.n) then crOf dd.lend (evSs ⟨p.lend, p.run k, fun i => p.glb.getD i .non, mineOf 0 dd.lend, p.sub, k⟩ dd.body (startR dd.lend ds dd.n)) else .no := by
      show (match p.defs[f]? with | some d => _ | none => _) = _
      rw [h2]
    by_cases hc : (decide (ds.length = dd.lend.length) && decide (ds.length ≤ dd.n)) = true
    case neg =>
      rw [if_neg hc] at er
      rw [er] at hr
      exact hr.elim
    rw [if_pos hc] at er
    simp only [Bool.and_eq_true, decide_eq_true_eq] at hc
    have hn : ds.length ≤ N.length := by rw [h5]; exact hc.2
    have r0 := start_rep (cls := clsK K) (N := N) ar nd a1 a2 hn
    rw [h5] at r0
    refine ⟨rdS ⟨K, outp, nam, H, lentIx 0 dd.lend vs, clsK K⟩ (fun c d _ H' => E c d H') (evSs ⟨p.lend, p.run k, fun i => p.glb.getD i .non, mineOf 0 dd.lend, p.sub, k⟩ dd.body), ?_, startR dd.lend ds dd.n, r0, def_end ar r0 hr er.symm⟩
    have G : GoodS (cxOf (L2.CX P w) P w K mg base N qual scope fa cdv A out s H E) ⟨K, outp, nam, H, lentIx 0 dd.lend vs, clsK K⟩ ⟨p.lend, p.run k, fun i => p.glb.getD i .non, mineOf 0 dd.lend, p.sub, k⟩ (fun c d _ H' => E c d H') g := {
      G := {
        ex := T.ex
        cls := fun _ _ => Iff.rfl
        room := fun h => hrm.mono h
        K := rfl
        calm := rfl
        nd := h4.nd
        gd := hgd
        hu := by
          have := hrm.un
          show (A.deeper (PyProof.Rows.envOfC qual scope s.heap.objs.size fa cdv)).units + 200 < cLine
          omega
        tk := takes_of rfl rfl rfl rfl
        mine := fun i a hia => by
          have := (lentIx_map (k := 0) ar).2
          show (mineOf 0 dd.lend).contains i = true
          rw [← this]
          simp only [List.contains_eq_mem, decide_eq_true_eq]
          exact List.mem_map.mpr ⟨(i, a), hia, rfl⟩
        blt := T.blt
        mods := T.mods
        glb := T.glb
        fns := fun f2 x2 ps2 hf2 => by
          obtain ⟨q1, fa2, fd2, q2, q3, _, q4, q5, q6⟩ := all_fn T k f2 x2 ps2 hf2
          exact ⟨q1, ⟨fa2, fd2, k, q2, q3, q4, hrm, q5, q6⟩⟩ }
      own := passes_of rfl
      fn := fun _ => rfl
      kind := h4.kind
      stk := rfl
      frm := rfl
      exn := rfl }
    exact all_Ss G dd.body body h7
end
end Own

/-! part Own22 -/
namespace Own
open PySem PySem.Spec L2
section
open PyProof.Rows
theorem law_callG {P : Program} {w : World} {K : PySem.W.Frag} {mg mb : Str → Option Value} {k : Nat} {fa a : Addr} {fd : FuncData} {x : Str} {sp : Sp} {t1 : Shared} {vs : List Value} {ns : List Int}
    (KIn : K.In t1.heap) (nsG : t1.heap.Ns mainGlobals mg) (nsU : t1.heap.Ns builtinsNs mb) (bootU : ∀ x : Str, x ≠ "__name__" → mb x = bootBuiltins x) (limH : t1.heap.NoLimit) (gen0 : t1.gens = #[])
    (objA : t1.heap.get? a = some { cls := .type "list", data := .seq vs.toArray }) (intsA : IntsAre vs ns) (lenA : ns.length ≤ sizeLine) (hr : Room k callerA)
    (F : ∀ base : Heap, K.In base → base.Ns mainGlobals mg → FnG P w K mg base k fa fd [x] sp) (bindA : BindsTo t1 fd ⟨[.ref a], []⟩ [(x, .ref a)])
    (promA : ∀ H : Hp, Only H → SqL K H a (ns.map V.int) → sp [.ref a] H (fun v _ => v = .bl true) fun _ _ _ => False) :
    codeAny (model P w) callerA (.call (.ref fa) ⟨[.ref a], []⟩) (fun r s' => r = .ok (.ret (.bool true)) ∧ OldK t1.heap s'.heap ∧ s'.os = t1.os ∧ AllBare s'.gens) t1 := by
  have rvs := vals_ints intsA
  have lnV := intsA.length
  -- nothing but the script is told of
  have kern : ∀ H : Hp, Only H → SqL K H a (ns.map V.int) → HOk P w H t1.heap → (∀ b, H b ≠ none → b = a) → (H a ≠ none → K.lookup a = none) →
      codeAny (model P w) callerA (.call (.ref fa) ⟨[.ref a], []⟩) (fun r s' => r = .ok (.ret (.bool true)) ∧ OldK t1.heap s'.heap ∧ s'.os = t1.os ∧ AllBare s'.gens) t1 := by
    intro H hOn hSq okH onlyA keyA
    have inBase : ∀ {b : Addr} {o : Obj}, t1.heap.get? b = some o → H b = none → (hidT t1.heap H).get? b = some o := fun e n => hidT_get e n
    have dictNo : ∀ {b : Addr} {o : Obj} {es : Array DictEntry} {ep : Nat}, t1.heap.get? b = some o → o.data = .dict es ep → H b = none := fun {b o es ep} e d => by
      cases q : H b with
      | none => rfl
      | some u =>
        have ev2 : b = a := onlyA b (by rw [q]; simp)
        subst ev2
        rw [objA] at e; cases e
        have dv2 : Data.seq vs.toArray _ = Data.dict es ep := d
        cases dv2
    have nsB : ∀ {b : Addr} {m : Str → Option Value}, t1.heap.Ns b m → (hidT t1.heap H).Ns b m := fun {b m} ⟨o, es, ep, e, d, r⟩ => ⟨o, es, ep, inBase e (dictNo e d), d, r⟩
    have kinB : K.In (hidT t1.heap H) := fun b o e => inBase (KIn b o e) (by
      cases q : H b with
      | none => rfl
      | some u =>
        have ev2 : b = a := onlyA b (by rw [q]; simp)
        subst ev2
        rw [keyA (by rw [q]; simp)] at e; cases e)
    have modB : Mod K mg (hidT t1.heap H) := ⟨kinB, nsB nsG, ⟨mb, nsB nsU, bootU⟩, let ⟨mc, h1, h2⟩ := limH; ⟨mc, nsB h1, h2⟩⟩
    have envB : Env0 P w K mg (hidT t1.heap H) callerA [] t1 H := ⟨rfl, modB, fun b o e => of_hidT e, Nat.le_of_eq (hidT_size _ _), trivial, fun b nsU => absurd (show b ∈ ([] : List Addr) from nsU) (by simp), okH, .of_eq gen0⟩
    refine codeAny_mono ((F _ kinB (nsB nsG)).run callerA [] t1 H ⟨[.ref a], []⟩ [.ref a] [.ref a] _ _ rfl hr envB bindA (.cons rfl .nil) (promA H hOn hSq)) fun r s' h => ?_
    cases r with
    | error e => exact (cx_false h).elim
    | ok fl =>
      cases fl with
      | next => exact False.elim h
      | brk => exact False.elim h
      | cont => exact False.elim h
      | ret u =>
        obtain ⟨v, H', os, bare, un, okH2, rel, q⟩ := h
        have qv : v = .bl true := q
        subst qv
        obtain rfl : u = Value.bool true := rel
        refine ⟨rfl, OldK.of_keep (fun b o e => ?_), os, bare⟩
        cases q : H b with
        | none => exact un.keep b o e q (fun z => absurd (show b ∈ ([] : List Addr) from z) (by simp)) (by simp)
        | some u =>
          rcases hOn b with z | ⟨ob, xs, z⟩
          · rw [q] at z; cases z
          · have z2 := un.frzs b ob _ z
            obtain ⟨e1, _⟩ := okH b _ z
            obtain ⟨e2, _⟩ := okH2 b _ z2
            rw [e] at e1; cases e1
            exact e2
  cases lookA : K.lookup a with
  | some o =>
    -- an object of the module
    have e := KIn a o lookA
    rw [objA] at e
    cases e
    refine kern (fun _ => none) (fun _ => .inl rfl) (.inr ⟨_, vs.toArray, _, lookA, rfl, rfl, rfl, by rw [List.size_toArray, lnV]; exact lenA, by simpa using rvs⟩) (fun b u z => by have zv : (none : Option HO) = some u := z; cases zv) (fun b z => absurd rfl z) fun z => absurd rfl z
  | none =>
    refine kern (fun b => if b = a then some (.frz { cls := .type "list", data := .seq vs.toArray } (.lst (ns.map V.int))) else none) (fun b => ?_) (.inl (.inr ⟨{ cls := .type "list", data := .seq vs.toArray }, if_pos rfl⟩)) (fun b u z => ?_) (fun b z => ?_) fun _ => lookA
    · by_cases nsU : b = a
      · exact .inr ⟨_, _, if_pos nsU⟩
      · exact .inl (if_neg nsU)
    · by_cases nsU : b = a
      · have zv := (if_pos nsU).symm.trans z
        cases zv
        subst nsU
        exact ⟨objA, by rw [List.length_map]; exact lenA, vs, _, rvs, objA⟩
      · have zv := (if_neg nsU).symm.trans z
        cases zv
    · by_cases nsU : b = a
      · exact nsU
      · exact absurd (if_neg nsU) z
end
/-- A LAW, by the run of its program: the goal that a head leaves -/
theorem walk_own {l : PySem.W.OpenLaw} {n k f : Nat} {q : Program} {loose : List Str} {XP : (Str → Option Value) → Heap → Prop} {YP : World → Heap → Prop} {d : DefRec} {x : Str} {g : Gi} {p : Pg}
    (hn : l.most = some n) (hn2 : n ≤ sizeLine) (hdf : d.params.defaults = []) (hr : Room k PySem.callerA)
    (hT : ∀ (w : World) (mg : Str → Option Value) (h : Heap), YP w h → h.Ns mainGlobals mg → ∃ K : PySem.W.Frag, K.In h ∧ TextT l.prog K mg g p)
    (hf : g.fns[f]? = some (d.name, [x])) (hl : p.lend f = [false])
    (hrun : ∀ ns : List Int, ns.length ≤ n → (∀ z ∈ ns, Builtin.Int.intBits z ≤ 1048576) → ∃ es, p.run k f [.scr (ns.map D.int)] = .ok (.v (.bl true)) es) :
    PySem.W.WalkO q loose XP YP l.row.toRowW d [] (fun f vs => PySem.call f vs) := by
  refine Att.attach_callB hn hdf fun w t0 t1 mg mb fa o pm cd doc a vs ns G Y ho hd hcd hmg hobj hints hlen hbits hg => ?_
  obtain ⟨K, KIn, T⟩ := hT w mg _ Y G.T.g
  have F := fun base => all_fn (P := l.prog) (w := w) (base := base) T k f d.name [x] hf
  obtain ⟨_, fa0, fd, hm, _, ⟨oc, od, osl, lk⟩, _, hb, _⟩ := F t1.heap
  have e : fa0 = fa := by
    rw [hmg] at hm
    cases hm
    rfl
  subst e
  refine law_callG (K := K) (fd := fd) (x := x) (sp := spOf K (clsK K) (p.lend f) (p.run k f)) KIn G.T.g G.T.b G.T.builtins G.T.nolimit hg hobj hints (Nat.le_trans hlen hn2) hr (fun base kb nb => ?_) (hb t1 [.ref a] KIn rfl) fun H hO hS => ?_
  · obtain ⟨_, fa1, fd1, hm1, _, ⟨oc1, od1, osl1, lk1⟩, FG, _⟩ := F base
    rw [hmg] at hm1
    cases hm1
    rw [lk] at lk1
    cases lk1
    exact FG
  · obtain ⟨es, hq⟩ := hrun ns hlen hbits
    refine ⟨fun _ => False, fun _ => False, [.scr (ns.map D.int)], [], ?_, List.nodup_nil, (fun _ z => nomatch z), (fun _ z => z.elim False.elim False.elim), ?_⟩
    · rw [hl]
      refine .v (.scr (vs := ns.map V.int) ?_ ?_) .nil
      · rcases hS with (z | z) | z
        · rcases hO a with y | ⟨o, xs, y⟩ <;> (rw [y] at z; cases z)
        · exact .inl z
        · exact .inr z
      · have go : ∀ {R : Bool → Addr → Prop} {l : List Int}, Drs K R H (l.map V.int) (l.map D.int) := by
          intro R l
          induction l with
          | nil => exact .nil
          | cons i l ih => exact .cons (.int i) ih
        exact go
    · rw [hq]
      intro v H' ⟨_, h1, _⟩
      cases h1
      rfl
end Own

/-! part OwnH -/
namespace Own
open PySem PySem.Spec L2
/-! ### the error classes, by a look at the written part -/
theorem argB_ok {p : Arguments} (h : argB p = true) : ∃ a1 a2, p = parI a1 a2 := by
  unfold argB at h
  split at h
  · rename_i a p1 b p2
    simp only [Bool.and_eq_true, decide_eq_true_eq] at h
    obtain ⟨rfl, rfl⟩ := h
    exact ⟨p1, p2, rfl⟩
  · cases h
theorem stB_ok {b : List Stmt} (h : stB b = true) : ∃ msg j p0 p1 p2 p3 p4 p5 q0 q1 q2 q3, b = bodyI msg j p0 p1 p2 p3 p4 p5 q0 q1 q2 q3 ∧ (p2.endLine == p4.line) = true := by
  unfold stB at h
  split at h
  · simp only [Bool.and_eq_true, decide_eq_true_eq] at h
    obtain ⟨⟨⟨⟨⟨rfl, rfl⟩, rfl⟩, rfl⟩, rfl⟩, h⟩ := h
    exact ⟨_, _, _, _, _, _, _, _, _, _, _, _, rfl, h⟩
  · cases h
theorem clB_ok {K : PySem.W.Frag} {D : Addr} {l : List (Str × Addr)} (h : clB K D l = true) : ∃ cc cl cld csl, l = [(("__class__" : Str), cc)] ∧ K.lookup cc = some ⟨cl, cld, .cell (some (.ref D)), csl⟩ := by
  unfold clB at h
  split at h
  · rename_i x cc
    rw [Bool.and_eq_true] at h
    obtain ⟨h1, h2⟩ := h
    have g1 := of_decide_eq_true h1
    clear h1
    subst g1
    split at h2
    · rename_i e
      have g2 := of_decide_eq_true h2
      clear h2
      subst g2
      exact ⟨cc, _, _, _, rfl, e⟩
    · cases h2
  · cases h
theorem cdB_ok {K : PySem.W.Frag} {fl qual : Str} {v : Value} (h : cdB K fl qual v = true) : ∃ cda ccl cdd ccs vs tf, v = .ref cda ∧ PySem.W.codeIn K (.ref cda) qual = true ∧ K.lookup cda = some ⟨ccl, cdd, .fields vs, ccs⟩ ∧ vs[2]? = some (.str fl tf) := by
  unfold cdB at h
  split at h
  · rw [Bool.and_eq_true] at h
    obtain ⟨h1, h2⟩ := h
    split at h2
    · rename_i e
      split at h2
      · rename_i e2
        have g2 := of_decide_eq_true h2
        clear h2
        subst g2
        exact ⟨_, _, _, _, _, _, rfl, h1, e, e2⟩
      · cases h2
    · cases h2
  · cases h
theorem iniB_ok {P : Program} {K : PySem.W.Frag} {fl : Str} {D fI : Addr} {cdD : ClassData} (hD : PySem.W.clsIn K D = some cdD) (hf : ((P.main.file : Str) == fl) = true) (s1 : PySem.W.nsIn K mainGlobals "super" = some none) (s2 : PySem.W.nsIn K PySem.cStatics "thirdparty.any" = some none)
    (s3 : (P.main.scope.names.lookup ("super" : Str)).isSome = false) (h : iniB K fl D fI = true) : ∃ fd, IniK P K D fI fd ∧ Binds K fd ["self", "value"] [] := by
  unfold iniB at h
  split at h
  case h_2 => cases h
  rename_i oc od fd osl e
  obtain ⟨name, qual, params, body, scope, gl, clo, dV, kV, doc, pm, an, code, ct, bi⟩ := fd
  simp only [Bool.and_eq_true] at h
  obtain ⟨⟨⟨⟨⟨⟨⟨h1, h2⟩, h3⟩, h4⟩, h5⟩, h6⟩, h7⟩, h8⟩ := h
  obtain ⟨a1, a2, rfl⟩ := argB_ok h1
  split at h2
  case h_2 => cases h2
  rename_i b
  obtain ⟨msg, j, p0, p1, p2, p3, p4, p5, q0, q1, q2, q3, rfl, hl⟩ := stB_ok h2
  have g3 := of_decide_eq_true h3
  have g4 := of_decide_eq_true h4
  have g5 := of_decide_eq_true h5
  have g8 := of_decide_eq_true h8
  clear h3 h4 h5 h8
  try simp only at g3 g4 g5 g8 h6 h7
  subst g3
  subst g4
  subst g5
  subst g8
  obtain ⟨cc, cl, cld, csl, rfl, lc⟩ := clB_ok h6
  obtain ⟨cda, ccl, cdd, ccs, vs, tf, rfl, hc, lcd, hv⟩ := cdB_ok h7
  refine ⟨_, ⟨⟨oc, od, osl, name, qual, msg, j, a1, a2, p0, p1, p2, p3, p4, p5, q0, q1, q2, q3, .none, kV, doc, pm, ct, an, cda, cc, ccl, cl, cdd, cld, ccs, csl, vs, fl, tf, cdD, rfl, e, hc, lcd, hv, hf, hl, lc, hD⟩, s1, s2, s3⟩, ?_⟩
  exact .all fun us hl => match us, hl with
    | [_, _], _ => rfl
theorem excObjB_ok {C : Addr} {o : Option Obj} (h : excObjB C o = true) : ∃ nm q N bs bm sn sub ab col dd k0 k1 k2 k3 k5, o = some (excClassObj nm q C N bs bm true sn sub ab col dd k0 k1 k2 k3 k5 "ValueError.__new__") ∧ PySem.HandSPX.refsVE bm = true := by
  unfold excObjB at h
  split at h
  case h_2 => cases h
  rename_i t dd cd sl
  obtain ⟨name, bases, mro, ns, qn, hasDict, sn, sub, ab, col, hasDel⟩ := cd
  obtain ⟨sl⟩ := sl
  simp only [Bool.and_eq_true] at h
  obtain ⟨⟨⟨⟨h1, h2⟩, h3⟩, h4⟩, h5⟩ := h
  have g1 := of_decide_eq_true h1
  clear h1
  subst g1
  split at h2
  case h_2 => cases h2
  rename_i c bm
  rw [Bool.and_eq_true] at h2
  obtain ⟨h21, h22⟩ := h2
  have g21 := of_decide_eq_true h21
  clear h21
  subst g21
  subst h3
  cases hasDel
  case true => cases h4
  split at h5
  case h_2 => cases h5
  rename_i k0 k1 k2 k3 n k5
  have g5 := of_decide_eq_true h5
  clear h5
  subst g5
  exact ⟨name, qn, ns, bases, bm, sn, sub, ab, col, dd, k0, k1, k2, k3, k5, rfl, h22⟩
theorem mkB_ok {K : PySem.W.Frag} {D C fI : Addr} (h : mkB K D C fI = true) : excOk K C = true ∧ MkC K D C ∧ PySem.W.findIn K (.ref C) "__init__" = some (some (.ref fI)) := by
  unfold mkB at h
  obtain ⟨h1, h⟩ := Bool.and_eq_true_iff.mp h
  obtain ⟨h2, h⟩ := Bool.and_eq_true_iff.mp h
  obtain ⟨h3, h⟩ := Bool.and_eq_true_iff.mp h
  obtain ⟨h4, h⟩ := Bool.and_eq_true_iff.mp h
  obtain ⟨h5, h⟩ := Bool.and_eq_true_iff.mp h
  obtain ⟨h6, h⟩ := Bool.and_eq_true_iff.mp h
  obtain ⟨h7, h⟩ := Bool.and_eq_true_iff.mp h
  obtain ⟨h8, h9⟩ := Bool.and_eq_true_iff.mp h
  have k := excOk_k h1
  exact ⟨h1, ⟨⟨excObjB_ok h2, of_decide_eq_true h3, k.be, of_decide_eq_true h4, h5⟩, k.va, of_decide_eq_true h6, of_decide_eq_true h7, of_decide_eq_true h8⟩, of_decide_eq_true h9⟩
theorem lookup_mem {β : Type} {x : Str} {b : β} : ∀ {l : List (Str × β)}, l.lookup x = some b → (x, b) ∈ l
  | [], h => by cases h
  | (y, c) :: l, h => by
    rw [List.lookup_cons] at h
    split at h
    · rename_i e
      have e' : x = y := by simpa using e
      cases h
      subst e'
      exact List.mem_cons_self
    · exact List.mem_cons_of_mem _ (lookup_mem h)
theorem excs_none {P : Program} {K : PySem.W.Frag} {mg : Str → Option Value} {h : Heap} {p : Pg} (X : K.In h) (G : h.Ns mainGlobals mg) (hp : p.exs = []) : Excs P K mg p.sub [] where
  mg := fun c ca hc => PySem.W.mg_of X G hc.1
  sub := fun c c' ca cb b hs _ _ => by
    unfold Pg.sub at hs
    rw [hp] at hs
    cases hs
  ini := fun h => absurd rfl h
theorem excs_ok {P : Program} {K : PySem.W.Frag} {mg : Str → Option Value} {h : Heap} {p : Pg} {fl own : Str} {excs : List Str} (X : K.In h) (G : h.Ns mainGlobals mg) (hf : ((P.main.file : Str) == fl) = true) (s3 : (P.main.scope.names.lookup ("super" : Str)).isSome = false)
    (he : ∀ c ∈ excs, ∃ l, (c, l) ∈ p.exs) (hb : excsB K fl own p.exs = true) : Excs P K mg p.sub excs := by
  unfold excsB at hb
  split at hb
  case h_2 => cases hb
  rename_i D e1
  split at hb
  case h_2 => cases hb
  rename_i fI e2
  obtain ⟨h1, hb⟩ := Bool.and_eq_true_iff.mp hb
  obtain ⟨h2, hb⟩ := Bool.and_eq_true_iff.mp hb
  obtain ⟨h3, hb⟩ := Bool.and_eq_true_iff.mp hb
  obtain ⟨h4, hb⟩ := Bool.and_eq_true_iff.mp hb
  obtain ⟨h5, hb⟩ := Bool.and_eq_true_iff.mp hb
  have hb := List.all_eq_true.mp hb
  obtain ⟨cdD, hcd⟩ := Option.isSome_iff_exists.mp h5
  obtain ⟨fd, ik, bd⟩ := iniB_ok (P := P) hcd hf (of_decide_eq_true h3) (of_decide_eq_true h4) s3 h1
  have hcls : ∀ q ∈ p.exs, ∃ C, PySem.W.nsIn K mainGlobals q.1 = some (some (.ref C)) ∧ mkB K D C fI = true ∧ ∀ q' ∈ p.exs, ∀ C', PySem.W.nsIn K mainGlobals q'.1 = some (some (.ref C')) → PySem.W.exmOne K (.ref C) (.ref C') = some (q.2.contains q'.1) ∧ PySem.W.kitOne K (.ref C) (.ref C') = some (q.2.contains q'.1) := fun q hq => by
    have z := hb q hq
    split at z
    case h_2 => cases z
    rename_i C e
    rw [Bool.and_eq_true] at z
    refine ⟨C, e, z.1, fun q' hq' C' e' => ?_⟩
    have y := List.all_eq_true.mp z.2 q' hq'
    rw [e'] at y
    simp only [Bool.and_eq_true] at y
    exact ⟨of_decide_eq_true y.1, of_decide_eq_true y.2⟩
  refine ⟨fun c ca hc => PySem.W.mg_of X G hc.1, fun c c' ca cb b hs k1 k2 => ?_, fun _ => ⟨D, fI, fd, ik, bd, of_decide_eq_true h2, fun c hc => ?_⟩⟩
  · unfold Pg.sub at hs
    split at hs
    · rename_i l l' q1 q2
      cases hs
      obtain ⟨C, z1, _, z3⟩ := hcls _ (lookup_mem q1)
      have w1 := k1.1
      rw [z1] at w1
      cases w1
      exact z3 _ (lookup_mem q2) cb k2.1
    · cases hs
  · obtain ⟨l, hl⟩ := he c hc
    obtain ⟨C, z1, z2, _⟩ := hcls _ hl
    obtain ⟨m1, m2, m3⟩ := mkB_ok z2
    exact ⟨C, ⟨z1, m1⟩, m2, m3⟩
end Own

/-! part Own23 -/
namespace Own
open PySem PySem.Spec L2

theorem isD_go {K : PySem.W.Frag} {f : Value → D → Bool} (hf : ∀ u d, f u d = true → ∃ v, RelV v u ∧ ∀ R H, Dr K R H v d) : ∀ {us : List Value} {ds : List D}, isD.go f us ds = true → ∃ vs, Vals vs us ∧ ∀ R H, Drs K R H vs ds
  | [], [], _ => ⟨[], .nil, fun _ _ => .nil⟩
  | [], _ :: _, h => by cases h
  | _ :: _, [], h => by cases h
  | u :: us, d :: ds, h => by
    simp only [isD.go, Bool.and_eq_true] at h
    obtain ⟨v, h1, h2⟩ := hf u d h.1
    obtain ⟨vs, h3, h4⟩ := isD_go hf h.2
    exact ⟨v :: vs, .cons h1 h3, fun R H => .cons (h2 R H) (h4 R H)⟩
theorem isD_ok {K : PySem.W.Frag} : ∀ {n : Nat} (u : Value) (d : D), isD K n u d = true → ∃ v, RelV v u ∧ ∀ R H, Dr K R H v d
  | n, u, d, h => by
    unfold isD at h
    split at h
    · exact ⟨.non, rfl, fun _ _ => .non⟩
    · rename_i a b
      have : a = b := by simpa using h
      subst this
      exact ⟨.bl a, rfl, fun _ _ => .bl _⟩
    · rename_i i t j
      have : i = j := by simpa using h
      subst this
      exact ⟨.int i, ⟨t, rfl⟩, fun _ _ => .int _⟩
    · rename_i x t y
      have : x = y := of_decide_eq_true h
      subst this
      exact ⟨.str x, ⟨t, rfl⟩, fun _ _ => .str _⟩
    · rename_i n a ds
      split at h
      · rename_i c dc its n' sl e
        obtain ⟨hgc, h⟩ := Bool.and_eq_true_iff.mp h
        simp only [Bool.and_eq_true, decide_eq_true_eq] at h
        obtain ⟨vs, h1, h2⟩ := isD_go (f := isD K n) (fun u d h => isD_ok u d h) h.2
        refine ⟨.ref a, rfl, fun R H => .tup (.inr ⟨hgc, .inr ⟨_, its, n', e, ?_, rfl, h.1.2, h1⟩⟩) (h2 R H)⟩
        show Value.type c = _
        rw [h.1.1]
      · cases h
    · cases h
theorem obO_eq {n : Nat} {fa : List He.Fa} {fn : List He.DefD} {ex : PySem.W.Frag → Bool} (s : PySem.W.SharedT) : obO n fa fn ex s = (hookO n fa fn ex).obs s.abs := by
  have e : HandSHeadRun.getT s = s.abs.heap.get? := funext fun a => HandSHeadRun.getT_eq s a
  unfold obO
  rw [e]
  rfl
section
variable {K : PySem.W.Frag} {mg : Str → Option Value} {h : Heap}
theorem mods_ok {ms : List (Str × String)} {gs : List (Str × D)} (X : K.In h) (G : h.Ns mainGlobals mg) (e : exO ms gs K = true) : ∀ x id, (x, id) ∈ ms → mg x = some (.builtin id) := fun x id hm => by
  unfold exO at e
  have := List.all_eq_true.mp (Bool.and_eq_true_iff.mp e).1 _ hm
  exact PySem.W.mg_of X G (He.eqO_ok this)
theorem glbs_ok {ms : List (Str × String)} {gs : List (Str × D)} (X : K.In h) (G : h.Ns mainGlobals mg) (e : exO ms gs K = true) : ∀ x d, (x, d) ∈ gs → ∃ u v, mg x = some u ∧ RelV v u ∧ ∀ R H, Dr K R H v d := fun x d hm => by
  unfold exO at e
  have := List.all_eq_true.mp (Bool.and_eq_true_iff.mp e).2 _ hm
  simp only at this
  split at this
  · rename_i u q
    obtain ⟨v, h1, h2⟩ := isD_ok u d this
    exact ⟨u, v, PySem.W.mg_of X G q, h1, h2⟩
  · cases this
theorem frees_ok {fa : List He.Fa} {fn : List He.DefD} (X : K.In h) (G : h.Ns mainGlobals mg) (c : He.SaysD fa fn K) {l : List Str} (hl : (l.all fun x => fa.any fun f => match f with | .free y => decide (x = y) | _ => false) = true) : ∀ x ∈ l, mg x = none := fun x hx => by
  have := List.all_eq_true.mp hl x hx
  obtain ⟨f, hf, e⟩ := List.any_eq_true.mp this
  obtain ⟨i, hi, q⟩ := List.mem_iff_getElem.mp hf
  have q2 := c.fact i (f := f) (by rw [List.getElem?_eq_getElem hi, q])
  cases f with
  | free y =>
    have : x = y := of_decide_eq_true e
    subst this
    exact He.free_ok X G q2
  | _ => cases e
end
end Own

/-! part Own24 -/
namespace Own
open PySem PySem.Spec L2
/-! ### the run's equations, for simp -/
section
variable {α : Type} {F : Fns} {ρ : Rho} {u : Bool}
/-- a def's run, a step in -/
theorem run_at {p : Pg} {k f : Nat} {dd : Df} {ds : List D} (h : p.defs[f]? = some dd) (h1 : ds.length = dd.lend.length) (h2 : dd.lend.length ≤ dd.n) :
    p.run (k + 1) f ds = crOf dd.lend (evSs ⟨p.lend, p.run k, fun i => p.glb.getD i .non, mineOf 0 dd.lend, p.sub, k⟩ dd.body (startR dd.lend ds dd.n)) := by
  show (match p.defs[f]? with | some d => _ | none => _) = _
  rw [h]
  simp only
  rw [if_pos (by simp [h1, h2])]
/-! the first part is worked out first -/
theorem bind_cg {α β : Type} {r r' : Rs α} {k : α → Rho → Rs β} (h : r = r') : r.bind k = r'.bind k := by rw [h]
theorem oc_cg {α : Type} {r r' : Rs α} {k : α → Rho → Oc} (h : r = r') : r.oc k = r'.oc k := by rw [h]
theorem at_cg {r r' : Oc} {k : Rho → Oc} (h : r = r') : r.andThen k = r'.andThen k := by rw [h]
@[simp] theorem eE_int {n : Int} : evE F u (.int n) ρ = .ok (.v (.int n)) ρ := by (rw [evE]) <;> rfl
@[simp] theorem eE_bl {n : Bool} : evE F u (.bl n) ρ = .ok (.v (.bl n)) ρ := by (rw [evE]) <;> rfl
@[simp] theorem eE_non : evE F u .non ρ = .ok (.v .non) ρ := by (rw [evE]) <;> rfl
@[simp] theorem eE_str {n : Str} : evE F u (.str n) ρ = .ok (.v (.str n)) ρ := by (rw [evE]) <;> rfl
@[simp] theorem eE_glb {k : Nat} : evE F u (.glb k) ρ = .ok (.v (F.glb k)) ρ := by (rw [evE]) <;> rfl
@[simp] theorem eE_varT {i : Nat} : evE F true (.var i) ρ = evU i ρ := by rw [evE]; rfl
@[simp] theorem eE_varF {i : Nat} : evE F false (.var i) ρ = evV F i ρ := by rw [evE]; rfl
@[simp] theorem eE_bin {o : Bop} {a b : ME} : evE F u (.bin o a b) ρ = (evE F true a ρ).bind fun x ρ1 => (evE F true b ρ1).bind fun y ρ2 => match derf ρ2 x, derf ρ2 y with
    | some d, some e => Rs.of (bop o d e) ρ2
    | _, _ => .no := by (rw [evE]) <;> rfl
@[simp] theorem eE_neg {a : ME} : evE F u (.neg a) ρ = (evE F true a ρ).bind fun x ρ1 => match derf ρ1 x with
    | some (.int i) => .ok (.v (.int (-i))) ρ1
    | _ => .no := by (rw [evE]) <;> rfl
@[simp] theorem eE_notv {a : ME} : evE F u (.notv a) ρ = ((evE F false a ρ).bind asB).bind fun b ρ1 => .ok (.v (.bl (!b))) ρ1 := by
  rw [evE, bind_bind]
  congr 1
  funext x ρ1
  cases x with
  | v d => cases d with
    | bl b => cases b <;> rfl
    | _ => rfl
  | _ => rfl
@[simp] theorem asB_v {b : Bool} : asB (.v (.bl b)) ρ = .ok b ρ := rfl
@[simp] theorem eE_cmp {o : Cop} {a b : ME} : evE F u (.cmp o a b) ρ = (evE F true a ρ).bind fun x ρ1 => (evE F true b ρ1).bind fun y ρ2 => match derf ρ2 x, derf ρ2 y with
    | some d, some e => Rs.of ((cop o d e).map fun b => .v (.bl b)) ρ2
    | _, _ => .no := by (rw [evE]) <;> rfl
@[simp] theorem eE_chn {o p : Cop} {a b c : ME} : evE F u (.chn o p a b c) ρ = (evE F true a ρ).bind fun x ρ1 => (evE F true b ρ1).bind fun y ρ2 => match derf ρ2 x, derf ρ2 y with
    | some d, some e => match cop o d e with
      | some true => (evE F true c ρ2).bind fun z ρ3 => match derf ρ3 y, derf ρ3 z with
        | some e', some g => Rs.of ((cop p e' g).map fun b => .v (.bl b)) ρ3
        | _, _ => .no
      | some false => .ok (.v (.bl false)) ρ2
      | none => .no
    | _, _ => .no := by (rw [evE]) <;> rfl
@[simp] theorem eE_and {es : List ME} : evE F u (.andv es) ρ = evAnd F es ρ := by (rw [evE]) <;> rfl
@[simp] theorem eE_or {es : List ME} : evE F u (.orv es) ρ = evOr F es ρ := by (rw [evE]) <;> rfl
@[simp] theorem eA_one {m : ME} : evAnd F [m] ρ = evE F false m ρ := by (rw [evAnd]) <;> rfl
@[simp] theorem eA_cons {m m2 : ME} {ms : List ME} : evAnd F (m :: m2 :: ms) ρ = ((evE F false m ρ).bind asB).bind fun b ρ1 => if b then evAnd F (m2 :: ms) ρ1 else .ok (.v (.bl false)) ρ1 := evAnd_cons
@[simp] theorem eO_one {m : ME} : evOr F [m] ρ = evE F false m ρ := by (rw [evOr]) <;> rfl
@[simp] theorem eO_cons {m m2 : ME} {ms : List ME} : evOr F (m :: m2 :: ms) ρ = ((evE F false m ρ).bind asB).bind fun b ρ1 => if b then .ok (.v (.bl true)) ρ1 else evOr F (m2 :: ms) ρ1 := evOr_cons
@[simp] theorem eE_ife {c a b : ME} : evE F u (.ife c a b) ρ = ((evE F false c ρ).bind asB).bind fun t ρ1 => if t then evE F u a ρ1 else evE F u b ρ1 := ife_eq
@[simp] theorem eE_tup {es : List ME} : evE F u (.tup es) ρ = (evEs F es ρ).bind fun xs ρ1 => match derfs ρ1 xs with
    | some ds => if small ds.length then .ok (.v (.tup ds)) ρ1 else .no
    | none => .no := by (rw [evE]) <;> rfl
@[simp] theorem eE_lst {es : List ME} : evE F u (.lst es) ρ = (evEs F es ρ).bind fun xs ρ1 => match derfs ρ1 xs with
    | some ds => if small ds.length then .ok (.f (.lst false ds)) ρ1 else .no
    | none => .no := by (rw [evE]) <;> rfl
@[simp] theorem eE_ix {a i : ME} : evE F u (.ix a i) ρ = (evE F true a ρ).bind fun x ρ1 => (evE F true i ρ1).bind fun y ρ2 => match derf ρ2 x, derf ρ2 y with
    | some d, some e => Rs.of ((ixop d e).map .v) ρ2
    | _, _ => .no := by (rw [evE]) <;> rfl
@[simp] theorem eE_call {f : Nat} {es : List ME} : evE F u (.call f es) ρ = (evC F (F.lend f) es ρ).bind fun xs ρ1 => evCall F f xs ρ1 := by (rw [evE]) <;> rfl
@[simp] theorem eE_callK {f : Nat} {es ks : List ME} {inv : List Nat} : evE F u (.callK f es ks inv) ρ = (evC F (flagsK (F.lend f) inv 0 es.length) es ρ).bind fun xs ρ1 => (evC F (flagsK (F.lend f) inv es.length ks.length) ks ρ1).bind fun ys ρ2 => evCall F f (pick inv (xs ++ ys)) ρ2 := by (rw [evE]) <;> rfl
@[simp] theorem eE_blt {b : Blt} {es : List ME} : evE F u (.blt b es) ρ = (evOs F es ρ).bind fun xs ρ1 => match derfs ρ1 xs with
    | some ds => Rs.of (bltop b ds) ρ1
    | none => .no := by (rw [evE]) <;> rfl
@[simp] theorem eE_isi {t : Ty} {a : ME} : evE F u (.isi t a) ρ = (evE F true a ρ).bind fun x ρ1 => match derf ρ1 x with
    | some d => .ok (.v (.bl (isTy t d))) ρ1
    | none => .no := by (rw [evE]) <;> rfl
theorem fz_calm {mine : List Nat} : ∀ {is : List Nat} {ρ : Rho}, canWipe ρ is = true → fzS mine ρ is = ρ
  | [], ρ, _ => rfl
  | i :: is, ρ, h => by
    simp only [canWipe, Bool.and_eq_true] at h
    have e := fz_calm (mine := mine) h.2
    unfold fzS
    rw [e]
    have hc := h.1
    unfold calmS at hc
    split at hc
    · rename_i q; rw [q]
    · rename_i q; rw [q]
    · cases hc
theorem eE_lc {elt it : ME} {tg : MT} {ifs : List ME} : evE F u (.lc elt tg it ifs) ρ = (evI F it ρ).bind fun ds ρ1 => lcGo (lcTurn (fun ρ => evTs F ifs ρ) (fun ρ => evE F false elt ρ) tg) (slotsT tg) ds (fzS F.mine ρ1 (slotsT tg)) := lc_eq
theorem lcGo_ok {turn : D → Rho → Rs (Option D)} {mine is : List Nat} {ds : List D} {ρ1 : Rho} (h : canWipe ρ1 is = true) : lcGo turn is ds (fzS mine ρ1 is) = (lcLoop turn ds [] (clearS ρ1 is)).bind (lcEnd ρ1 is) := by
  rw [fz_calm h]
  unfold lcGo
  rw [if_pos h]
@[simp] theorem eE_app {i : Nat} {e : ME} : evE F u (.app i e) ρ = if !isOwnL ρ i then .no else (evE F false e ρ).bind fun y ρ1 => match ρ1[i]?, derf ρ1 y with
    | some (.own (.lst nm xs)), some d => if decide (xs.length < sizeLine) && y.keeps then .ok (.v .non) (ρ1.set i (.own (.lst false (xs ++ [d])))) else .no
    | _, _ => .no := by (rw [evE]) <;> rfl
@[simp] theorem eEs_nil : evEs F [] ρ = .ok [] ρ := by (rw [evEs]) <;> rfl
@[simp] theorem eEs_cons {e : ME} {r : List ME} : evEs F (e :: r) ρ = (evE F false e ρ).bind fun x ρ1 => if x.keeps then (evEs F r ρ1).bind fun xs ρ2 => .ok (x :: xs) ρ2 else .no := by (rw [evEs]) <;> rfl
@[simp] theorem eOs_nil : evOs F [] ρ = .ok [] ρ := by (rw [evOs]) <;> rfl
@[simp] theorem eOs_cons {e : ME} {r : List ME} : evOs F (e :: r) ρ = (evE F true e ρ).bind fun x ρ1 => (evOs F r ρ1).bind fun xs ρ2 => .ok (x :: xs) ρ2 := by (rw [evOs]) <;> rfl
@[simp] theorem eC_nil {bs : List Bool} : evC F bs [] ρ = .ok [] ρ := by cases bs <;> rw [evC]
@[simp] theorem eC_cons {b : Bool} {bs : List Bool} {e : ME} {r : List ME} : evC F (b :: bs) (e :: r) ρ = (evE F b e ρ).bind fun x ρ1 => if b || x.keeps then (evC F bs r ρ1).bind fun xs ρ2 => .ok (x :: xs) ρ2 else .no := by (rw [evC]) <;> rfl
@[simp] theorem eTs_nil : evTs F [] ρ = .ok true ρ := by (rw [evTs]) <;> rfl
@[simp] theorem eI_rng {es : List ME} : evI F (.rng es) ρ = (evOs F es ρ).bind rngI := rfl
@[simp] theorem eI_enum {a : ME} : evI F (.enum a) ρ = (evE F false a ρ).bind enumI := rfl
@[simp] theorem eI_var {i : Nat} : evI F (.var i) ρ = (evV F i ρ).bind seqI := by
  show (evE F false (.var i) ρ).bind seqI = _
  rw [eE_varF]
@[simp] theorem keeps_v {d : D} : (VR.v d).keeps = true := rfl
@[simp] theorem keeps_f {d : D} : (VR.f d).keeps = true := rfl
@[simp] theorem derf_v {d : D} : derf ρ (.v d) = some d := rfl
@[simp] theorem derf_f {d : D} : derf ρ (.f d) = some d := rfl
@[simp] theorem derf_l {i : Nat} : derf ρ (.l i) = match ρ[i]? with
    | some (.val d) => some d
    | some (.own d) => some d
    | some (.nam ds) => some (.lst true ds)
    | _ => none := rfl
@[simp] theorem derfs_nil : derfs ρ [] = some [] := rfl
@[simp] theorem derfs_cons {x : VR} {r : List VR} : derfs ρ (x :: r) = match derf ρ x, derfs ρ r with
    | some d, some ds => some (d :: ds)
    | _, _ => none := rfl
@[simp] theorem evU_eq {i : Nat} : evU i ρ = match ρ[i]? with
    | some (.val d) => .ok (.v d) ρ
    | some (.own d) => .ok (.l i) ρ
    | some (.nam ds) => .ok (.l i) ρ
    | _ => .no := rfl
@[simp] theorem evV_eq {i : Nat} : evV F i ρ = match ρ[i]? with
    | some (.val d) => .ok (.v d) ρ
    | some (.own d) => if F.mine.contains i then .no else .ok (.v d) (ρ.set i (.val d))
    | some (.nam ds) => .ok (.v (.lst true ds)) ρ
    | _ => .no := rfl
@[simp] theorem eSs_nil : evSs F [] ρ = .nx ρ := by (rw [evSs]) <;> rfl
@[simp] theorem eSs_cons {s : MS} {r : List MS} : evSs F (s :: r) ρ = (evS F s ρ).andThen fun ρ1 => evSs F r ρ1 := by (rw [evSs]) <;> rfl
@[simp] theorem at_rt {x : VR} {k : Rho → Oc} : (Oc.rt x ρ).andThen k = .rt x ρ := rfl
@[simp] theorem at_no {k : Rho → Oc} : Oc.no.andThen k = .no := rfl
@[simp] theorem at_bk {k : Rho → Oc} : (Oc.bk ρ).andThen k = .bk ρ := rfl
@[simp] theorem at_ct {k : Rho → Oc} : (Oc.ct ρ).andThen k = .ct ρ := rfl
@[simp] theorem Oc_some : Oc.of (some ρ) = .nx ρ := rfl
@[simp] theorem eS_asg {i : Nat} {e : ME} : evS F (.asg i e) ρ = (evE F false e ρ).oc fun x ρ1 => .of (setV F ρ1 i x) := by (rw [evS]) <;> rfl
@[simp] theorem eS_asgT {t : MT} {e : ME} : evS F (.asgT t e) ρ = (evE F false e ρ).oc fun x ρ1 => if x.keeps then match derf ρ1 x with
      | some d => .of (bindT t d ρ1)
      | none => .no
    else .no := by (rw [evS]) <;> rfl
@[simp] theorem eS_par {is : List Nat} {es : List ME} : evS F (.par is es) ρ = (evEs F es ρ).oc fun xs ρ1 => parR F is ρ1 xs := by (rw [evS]) <;> rfl
@[simp] theorem pr_eq {is : List Nat} {xs : List VR} : parR F is ρ xs = .of (setAll F is xs ρ) := rfl
@[simp] theorem sa_nil : setAll F [] [] ρ = some ρ := rfl
@[simp] theorem sa_cons {i : Nat} {is : List Nat} {x : VR} {xs : List VR} : setAll F (i :: is) (x :: xs) ρ = match setV F ρ i x with
    | some ρ1 => setAll F is xs ρ1
    | none => none := rfl
@[simp] theorem eS_aug {i : Nat} {o : Bop} {e : ME} : evS F (.aug i o e) ρ = match ρ[i]? with
    | some (.val _) => (evE F true e ρ).oc fun y ρ1 => augR o i ρ1 y
    | _ => .no := by (rw [evS]) <;> rfl
@[simp] theorem eS_seti {i : Nat} {k e : ME} : evS F (.seti i k e) ρ = (evE F false e ρ).oc fun y ρ1 => if isOwnL ρ1 i then (evE F true k ρ1).oc fun z ρ2 => setiR i ρ2 y z else .no := by (rw [evS]) <;> rfl
@[simp] theorem eS_exp {e : ME} : evS F (.exp e) ρ = (evE F true e ρ).oc fun _ ρ1 => .nx ρ1 := by (rw [evS]) <;> rfl
@[simp] theorem eS_iff {c : ME} {a b : List MS} : evS F (.iff c a b) ρ = ((evE F false c ρ).bind asB).oc fun t ρ1 => if t then evSs F a ρ1 else evSs F b ρ1 := by (rw [evS]) <;> rfl
theorem eS_wh {c : ME} {b : List MS} : evS F (.wh c b) ρ = whileR (fun ρ => (evE F false c ρ).bind asB) (fun ρ => evSs F b ρ) ρ := by (rw [evS]) <;> rfl
theorem eS_for {t : MT} {it : ME} {b : List MS} : evS F (.for t it b) ρ = (evI F it ρ).oc fun ds ρ1 => forLoop t (fun ρ => evSs F b ρ) ds ρ1 := by (rw [evS]) <;> rfl
@[simp] theorem eS_ret {e : ME} : evS F (.ret e) ρ = (evR F e ρ).oc fun x ρ1 => if x.keeps then .rt x ρ1 else .no := by (rw [evS]) <;> rfl
@[simp] theorem eS_retN : evS F .retN ρ = .rt (.v .non) ρ := by (rw [evS]) <;> rfl
@[simp] theorem eS_brk : evS F .brk ρ = .bk ρ := by (rw [evS]) <;> rfl
@[simp] theorem eS_cnt : evS F .cnt ρ = .ct ρ := by (rw [evS]) <;> rfl
@[simp] theorem eS_pas : evS F .pas ρ = .nx ρ := by (rw [evS]) <;> rfl
@[simp] theorem eR_var {i : Nat} : evR F (.var i) ρ = match ρ[i]? with
    | some (.own d) => if F.mine.contains i then .no else .ok (.f d) (ρ.set i .un)
    | _ => evE F false (.var i) ρ := rfl
@[simp] theorem eR_int {n : Int} : evR F (.int n) ρ = .ok (.v (.int n)) ρ := by unfold evR; simp
@[simp] theorem eR_bl {n : Bool} : evR F (.bl n) ρ = .ok (.v (.bl n)) ρ := by unfold evR; simp
@[simp] theorem eR_and {es : List ME} : evR F (.andv es) ρ = evAnd F es ρ := by unfold evR; simp
@[simp] theorem eR_or {es : List ME} : evR F (.orv es) ρ = evOr F es ρ := by unfold evR; simp
@[simp] theorem eR_not {a : ME} : evR F (.notv a) ρ = evE F false (.notv a) ρ := rfl
@[simp] theorem eR_bin {o : Bop} {a b : ME} : evR F (.bin o a b) ρ = evE F false (.bin o a b) ρ := rfl
@[simp] theorem eR_cmp {o : Cop} {a b : ME} : evR F (.cmp o a b) ρ = evE F false (.cmp o a b) ρ := rfl
@[simp] theorem eR_tup {es : List ME} : evR F (.tup es) ρ = evE F false (.tup es) ρ := rfl
@[simp] theorem eR_lst {es : List ME} : evR F (.lst es) ρ = evE F false (.lst es) ρ := rfl
@[simp] theorem eR_ife {c a b : ME} : evR F (.ife c a b) ρ = evE F false (.ife c a b) ρ := rfl
@[simp] theorem eR_ix {a b : ME} : evR F (.ix a b) ρ = evE F false (.ix a b) ρ := rfl
@[simp] theorem eR_call {f : Nat} {es : List ME} : evR F (.call f es) ρ = evE F false (.call f es) ρ := rfl
@[simp] theorem eR_blt {b : Blt} {es : List ME} : evR F (.blt b es) ρ = evE F false (.blt b es) ρ := rfl
@[simp] theorem eR_lc {elt it : ME} {tg : MT} {ifs : List ME} : evR F (.lc elt tg it ifs) ρ = evE F false (.lc elt tg it ifs) ρ := rfl
@[simp] theorem eE_rev {a : ME} : evE F u (.rev a) ρ = (evE F true a ρ).bind fun x ρ1 => match derf ρ1 x with
      | some (.lst _ xs) => .ok (.f (.lst false xs.reverse)) ρ1
      | some (.tup xs) => .ok (.v (.tup xs.reverse)) ρ1
      | _ => .no := by (rw [evE]) <;> rfl
@[simp] theorem eE_isB {ng b : Bool} {a : ME} : evE F u (.isB ng b a) ρ = (evE F true a ρ).bind fun x ρ1 => match derf ρ1 x with
      | some (.bl c) => .ok (.v (.bl (if ng then !decide (c = b) else decide (c = b)))) ρ1
      | _ => .no := by (rw [evE]) <;> rfl
@[simp] theorem eS_asgL {ts : List MT} {e : ME} : evS F (.asgL ts e) ρ = (evE F false e ρ).oc fun x ρ1 => if x.keeps then match derf ρ1 x with
      | some (.lst _ ds) => .of (bindTs ts ds ρ1)
      | _ => .no
    else .no := by (rw [evS]) <;> rfl
@[simp] theorem eS_set2 {i j : Nat} {k l e : ME} : evS F (.set2 i k j l e) ρ = (evE F false e ρ).oc (set2R i j (fun ρ => evE F true k ρ) (fun ρ => evE F true l ρ)) := by (rw [evS]) <;> rfl
@[simp] theorem eR_rev {a : ME} : evR F (.rev a) ρ = evE F false (.rev a) ρ := rfl
@[simp] theorem eR_isB {ng b : Bool} {a : ME} : evR F (.isB ng b a) ρ = evE F false (.isB ng b a) ρ := rfl
@[simp] theorem eR_isN {ng : Bool} {a : ME} : evR F (.isN ng a) ρ = evE F false (.isN ng a) ρ := rfl
@[simp] theorem eR_chn {o p : Cop} {a b c : ME} : evR F (.chn o p a b c) ρ = evE F false (.chn o p a b c) ρ := rfl
@[simp] theorem eR_non : evR F .non ρ = evE F false .non ρ := rfl
@[simp] theorem eR_str {x : Str} : evR F (.str x) ρ = evE F false (.str x) ρ := rfl
@[simp] theorem eR_sl {a : ME} {lo hi : Option ME} : evR F (.sl a lo hi) ρ = evE F false (.sl a lo hi) ρ := rfl
@[simp] theorem eR_glb {k : Nat} : evR F (.glb k) ρ = evE F false (.glb k) ρ := rfl
@[simp] theorem eR_callK {f : Nat} {es ks : List ME} {inv : List Nat} : evR F (.callK f es ks inv) ρ = evE F false (.callK f es ks inv) ρ := rfl
@[simp] theorem eR_neg {a : ME} : evR F (.neg a) ρ = evE F false (.neg a) ρ := rfl
@[simp] theorem eR_isi {t : Ty} {a : ME} : evR F (.isi t a) ρ = evE F false (.isi t a) ρ := rfl
@[simp] theorem eE_isN {ng : Bool} {a : ME} : evE F u (.isN ng a) ρ = (evE F true a ρ).bind fun x ρ1 => match derf ρ1 x with
      | some .non => .ok (.v (.bl (!ng))) ρ1
      | some _ => .ok (.v (.bl ng)) ρ1
      | none => .no := by (rw [evE]) <;> rfl
@[simp] theorem eE_sl {a : ME} {lo hi : Option ME} : evE F u (.sl a lo hi) ρ = (evE F true a ρ).bind fun x ρ1 => (evP F lo ρ1).bind fun l ρ2 => (evP F hi ρ2).bind fun h ρ3 =>
      match derf ρ3 x with
      | some d => Rs.of (slop d l h) ρ3
      | _ => .no := by (rw [evE]) <;> rfl
@[simp] theorem eP_none : evP F none ρ = .ok none ρ := by (rw [evP]) <;> rfl
@[simp] theorem eP_some {e : ME} : evP F (some e) ρ = (evE F false e ρ).bind fun x ρ1 => match x with
    | .v (.int i) => .ok (some i) ρ1
    | _ => .no := by (rw [evP]) <;> rfl
@[simp] theorem eE_ext {i : Nat} {e : ME} : evE F u (.ext i e) ρ = if !isOwnL ρ i then .no else (evE F true e ρ).bind fun y ρ1 => match ρ1[i]?, derf ρ1 y with
      | some (.own (.lst nm xs)), some (.lst _ ys) => if small (xs.length + ys.length) then .ok (.v .non) (ρ1.set i (.own (.lst false (xs ++ ys)))) else .no
      | _, _ => .no := by (rw [evE]) <;> rfl
@[simp] theorem eI_zip {a b : ME} : evI F (.zip a b) ρ = (evE F false a ρ).bind fun x ρ1 => (evE F false b ρ1).bind (zipI x) := rfl
@[simp] theorem eTs_one {e : ME} : evTs F [e] ρ = (evE F false e ρ).bind fun x ρ1 => match x with
      | .v (.bl b) => .ok b ρ1
      | _ => .no := by (rw [evTs]) <;> rfl
/-- a call whose callee is known, nothing lent -/
theorem call_v {f : Nat} {xs : List VR} {ds : List D} {d : D} (h1 : lendOk ρ xs (F.lend f) = true) (h2 : lentOf xs (F.lend f) = []) (h3 : derfs ρ xs = some ds) (h4 : F.run f ds = .ok (.v d) []) (h5 : backL ρ xs (F.lend f) [] = ρ) : evCall F f xs ρ = .ok (.v d) ρ := by
  unfold evCall
  rw [if_pos (by simp [h1, h2]), h3]
  simp only
  rw [h4]
  simp [h5]
end
end Own
namespace Own
open PySem PySem.Spec L2
theorem lc_map {turn : D → Rho → Rs (Option D)} {f : D → D} {ρ : Rho} : ∀ {ds acc : List D}, (∀ d ∈ ds, turn d ρ = .ok (some (f d)) ρ) → acc.length + ds.length ≤ sizeLine → lcLoop turn ds acc ρ = .ok (acc ++ ds.map f) ρ
  | [], acc, _, _ => by simp [lcLoop]
  | d :: ds, acc, h, hz => by
    have hl : acc.length < sizeLine := by simp at hz; omega
    unfold lcLoop
    rw [h d List.mem_cons_self]
    simp only [hl, decide_true, if_true]
    rw [lc_map (fun e he => h e (List.mem_cons_of_mem _ he)) (by simp at hz ⊢; omega)]
    simp
theorem blsOf_map {α : Type} {f : α → Bool} : ∀ {l : List α}, blsOf (l.map fun x => D.bl (f x)) = some (l.map f)
  | [] => rfl
  | x :: l => by simp [blsOf, blsOf_map]
theorem intsOf_map {α : Type} {f : α → Int} : ∀ {l : List α}, intsOf (l.map fun x => D.int (f x)) = some (l.map f)
  | [] => rfl
  | x :: l => by simp [intsOf, intsOf_map]
/-- a for loop whose body goes on at every turn: what holds of the names, step by step -/
theorem for_inv {t : MT} {b : Rho → Oc} (st : Nat → Rho) : ∀ {ds : List D} {n : Nat}, (∀ i d, ds[i]? = some d → ∃ ρ', bindT t d (st (n + i)) = some ρ' ∧ (b ρ' = .nx (st (n + i + 1)) ∨ b ρ' = .ct (st (n + i + 1)))) → forLoop t b ds (st n) = .nx (st (n + ds.length))
  | [], n, _ => by simp [forLoop]
  | d :: ds, n, h => by
    obtain ⟨ρ', h1, h2⟩ := h 0 d (by simp)
    have ih := for_inv (t := t) (b := b) st (ds := ds) (n := n + 1) fun i e he => by
      have := h (i + 1) e (by simpa using he)
      have q : n + 1 + i = n + (i + 1) := by omega
      rw [q]
      exact this
    unfold forLoop
    rw [show n + 0 = n by rfl] at h1 h2
    rw [h1]
    simp only
    rcases h2 with h2 | h2 <;> (rw [h2]; simp only; rw [ih]; congr 2; simp; omega)
theorem lc_val {F : Fns} {u : Bool} {elt it : ME} {tg : MT} {ifs : List ME} {ρ ρ1 : Rho} {ds : List D} {f : D → D} (hi : evI F it ρ = .ok ds ρ1) (hw : canWipe ρ1 (slotsT tg) = true) (hc : clearS ρ1 (slotsT tg) = ρ1) (hp : putBack ρ1 ρ1 (slotsT tg) = ρ1) (hz : ds.length ≤ sizeLine)
    (h : ∀ d ∈ ds, lcTurn (fun ρ => evTs F ifs ρ) (fun ρ => evE F false elt ρ) tg d ρ1 = .ok (some (f d)) ρ1) : evE F u (.lc elt tg it ifs) ρ = .ok (.f (.lst false (ds.map f))) ρ1 := by
  rw [eE_lc, hi]
  simp only [Rs.bind_ok]
  rw [lcGo_ok hw, hc, lc_map h (by simpa using hz)]
  simp [lcEnd, hw, hp]
theorem for_val {F : Fns} {t : MT} {it : ME} {b : List MS} {ρ ρ1 : Rho} {ds : List D} {o : Oc} (hi : evI F it ρ = .ok ds ρ1) (h : forLoop t (fun ρ => evSs F b ρ) ds ρ1 = o) : evS F (.for t it b) ρ = o := by
  rw [eS_for, hi]
  exact h
/-! operations at data -/
@[simp] theorem bo_add {i j : Int} : bop .add (.int i) (.int j) = some (.v (.int (i + j))) := rfl
@[simp] theorem bo_sub {i j : Int} : bop .sub (.int i) (.int j) = some (.v (.int (i - j))) := rfl
theorem bo_mul {i j : Int} (h : mulOk i j = true) : bop .mul (.int i) (.int j) = some (.v (.int (i * j))) := by simp [bop, h]
theorem bo_fdiv {i j : Int} (h : divOk j = true) : bop .fdiv (.int i) (.int j) = some (.v (.int (i.fdiv j))) := by simp [bop, h]
theorem bo_mod {i j : Int} (h : j ≠ 0) : bop .mod (.int i) (.int j) = some (.v (.int (i.fmod j))) := by simp [bop, h]
theorem bo_pow {i j : Int} (h : powOk i j = true) : bop .pow (.int i) (.int j) = some (.v (.int (i ^ j.toNat))) := by simp [bop, h]
@[simp] theorem co_lt {i j : Int} : cop .lt (.int i) (.int j) = some (decide (i < j)) := rfl
@[simp] theorem co_le {i j : Int} : cop .le (.int i) (.int j) = some (decide (i ≤ j)) := rfl
@[simp] theorem co_gt {i j : Int} : cop .gt (.int i) (.int j) = some (decide (j < i)) := rfl
@[simp] theorem co_ge {i j : Int} : cop .ge (.int i) (.int j) = some (decide (j ≤ i)) := rfl
@[simp] theorem co_eqI {i j : Int} : cop .eq (.int i) (.int j) = some (i == j) := by simp [cop, eqOk, scalD, deq]
@[simp] theorem co_neI {i j : Int} : cop .ne (.int i) (.int j) = some (!(i == j)) := by simp [cop, eqOk, scalD, deq]
@[simp] theorem co_eqS {i j : Str} : cop .eq (.str i) (.str j) = some (decide (i = j)) := by simp [cop, eqOk, scalD, deq]
@[simp] theorem co_neS {i j : Str} : cop .ne (.str i) (.str j) = some (!decide (i = j)) := by simp [cop, eqOk, scalD, deq]
@[simp] theorem bl_lenT {xs : List D} : bltop .len [.tup xs] = some (.v (.int xs.length)) := rfl
@[simp] theorem bl_lenL {nm : Bool} {xs : List D} : bltop .len [.lst nm xs] = some (.v (.int xs.length)) := rfl
@[simp] theorem bl_lenS {xs : List D} : bltop .len [.scr xs] = some (.v (.int xs.length)) := rfl
@[simp] theorem bl_abs {i : Int} : bltop .abs [.int i] = some (.v (.int (if i < 0 then -i else i))) := rfl
@[simp] theorem bl_min {i j : Int} : bltop .min2 [.int i, .int j] = some (.v (.int (if j < i then j else i))) := rfl
@[simp] theorem bl_max {i j : Int} : bltop .max2 [.int i, .int j] = some (.v (.int (if j > i then j else i))) := rfl
@[simp] theorem bl_sum {nm : Bool} {xs : List D} : bltop .sum [.lst nm xs] = (intsOf xs).map fun ns => .v (.int ns.sum) := rfl
@[simp] theorem bl_all {nm : Bool} {xs : List D} : bltop .all [.lst nm xs] = (blsOf xs).map fun ns => .v (.bl (ns.all id)) := rfl
@[simp] theorem bl_any {nm : Bool} {xs : List D} : bltop .any [.lst nm xs] = (blsOf xs).map fun ns => .v (.bl (ns.any id)) := rfl
@[simp] theorem bl_tupL {nm : Bool} {xs : List D} : bltop .tuple [.lst nm xs] = some (.v (.tup xs)) := rfl
@[simp] theorem bl_tupT {xs : List D} : bltop .tuple [.tup xs] = some (.v (.tup xs)) := rfl
@[simp] theorem bl_int {i : Int} : bltop .int [.int i] = some (.v (.int i)) := rfl
@[simp] theorem bl_intB {i : Bool} : bltop .int [.bl i] = some (.v (.int (if i then 1 else 0))) := rfl
@[simp] theorem bl_gcd {i j : Int} : bltop .gcd [.int i, .int j] = some (.v (.int ((Nat.gcd i.natAbs j.natAbs : Nat) : Int))) := rfl
theorem bl_repr {d : D} (h : (eqable 40 d && (toPy d).showable && small (toPy d).shown.length) = true) : bltop .repr [d] = some (.v (.str (toPy d).shown)) := by
  show (if _ then _ else _) = _
  rw [if_pos h]
@[simp] theorem ix_tup {xs : List D} {i : Int} : ixop (.tup xs) (.int i) = atI xs i := rfl
@[simp] theorem ix_lst {nm : Bool} {xs : List D} {i : Int} : ixop (.lst nm xs) (.int i) = atI xs i := rfl
@[simp] theorem ix_scr {xs : List D} {i : Int} : ixop (.scr xs) (.int i) = atI xs i := rfl
theorem atI_nat {α : Type} {xs : List α} {n : Nat} {x : α} (h : xs[n]? = some x) : atI xs (n : Int) = some x := by
  have hl := (List.getElem?_eq_some_iff.mp h).1
  unfold atI ixN
  rw [if_pos (by omega), if_pos (by omega)]
  simpa using h
@[simp] theorem atI_0 {α : Type} {x : α} {xs : List α} : atI (x :: xs) 0 = some x := by
  have := atI_nat (xs := x :: xs) (n := 0) (x := x) rfl
  simpa using this
@[simp] theorem atI_1 {α : Type} {x y : α} {xs : List α} : atI (x :: y :: xs) 1 = some y := by
  have := atI_nat (xs := x :: y :: xs) (n := 1) (x := y) rfl
  simpa using this
@[simp] theorem atI_2 {α : Type} {x y z : α} {xs : List α} : atI (x :: y :: z :: xs) 2 = some z := by
  have := atI_nat (xs := x :: y :: z :: xs) (n := 2) (x := z) rfl
  simpa using this
@[simp] theorem isTy_int {i : Int} : isTy .int (.int i) = true := rfl
@[simp] theorem isTy_bool {i : Int} : isTy .bool (.int i) = false := rfl
@[simp] theorem isTy_tup {xs : List D} : isTy .tuple (.tup xs) = true := rfl
@[simp] theorem Rs_ofS {α : Type} {x : α} {ρ : Rho} : Rs.of (some x) ρ = .ok x ρ := rfl
theorem small_of {n : Nat} (h : n ≤ sizeLine) : small n = true := by unfold small; exact decide_eq_true h
@[simp] theorem nn_nil : noNam [] = true := rfl
@[simp] theorem nn_un {r : Rho} : noNam (.un :: r) = noNam r := rfl
@[simp] theorem nn_val {d : D} {r : Rho} : noNam (.val d :: r) = noNam r := rfl
@[simp] theorem nn_own {d : D} {r : Rho} : noNam (.own d :: r) = noNam r := rfl
@[simp] theorem mo_nil {k : Nat} : mineOf k [] = [] := rfl
@[simp] theorem mo_t {k : Nat} {l : List Bool} : mineOf k (true :: l) = k :: mineOf (k + 1) l := rfl
@[simp] theorem mo_f {k : Nat} {l : List Bool} : mineOf k (false :: l) = mineOf (k + 1) l := rfl
@[simp] theorem oo_nil {ρ : Rho} : outsOf ρ [] = some [] := rfl
@[simp] theorem oo_cons {ρ : Rho} {i : Nat} {is : List Nat} : outsOf ρ (i :: is) = match ρ[i]?, outsOf ρ is with
  | some (.own d), some ds => some (d :: ds)
  | _, _ => none := rfl
@[simp] theorem cr_rt {l : List Bool} {x : VR} {ρ : Rho} : crOf l (.rt x ρ) = match outsOf ρ (mineOf 0 l) with
  | some es => if x.keeps && noNam ρ then .ok x es else .no
  | none => .no := rfl
@[simp] theorem cr_nx {l : List Bool} {ρ : Rho} : crOf l (.nx ρ) = match outsOf ρ (mineOf 0 l) with
  | some es => if noNam ρ then .ok (.v .non) es else .no
  | none => .no := rfl
@[simp] theorem cs_un {r : Rho} : calmS (.un :: r) 0 = true := rfl
@[simp] theorem cs_val {d : D} {r : Rho} : calmS (.val d :: r) 0 = true := rfl
@[simp] theorem cs_succ {s : Slot} {r : Rho} {i : Nat} : calmS (s :: r) (i + 1) = calmS r i := rfl
@[simp] theorem so_un {F : Fns} {r : Rho} {i : Nat} (h : r[i]? = some .un) : setOk F r i = true := by unfold setOk; rw [h]
@[simp] theorem so_val {F : Fns} {r : Rho} {i : Nat} {d : D} (h : r[i]? = some (.val d)) : setOk F r i = true := by unfold setOk; rw [h]
@[simp] theorem so_own {F : Fns} {r : Rho} {i : Nat} {d : D} (h : r[i]? = some (.own d)) (h2 : F.mine.contains i = false) : setOk F r i = true := by unfold setOk; rw [h]; simp only [h2]; rfl
@[simp] theorem sv_v {F : Fns} {r : Rho} {i : Nat} {d : D} : setV F r i (.v d) = if setOk F r i then some (r.set i (.val d)) else none := rfl
@[simp] theorem sv_f {F : Fns} {r : Rho} {i : Nat} {d : D} : setV F r i (.f d) = if setOk F r i then some (r.set i (.own d)) else none := rfl
@[simp] theorem lo_nil {ρ : Rho} : lendOk ρ [] [] = true := rfl
@[simp] theorem lo_v {ρ : Rho} {d : D} {xs : List VR} {bs : List Bool} : lendOk ρ (.v d :: xs) (false :: bs) = lendOk ρ xs bs := rfl
@[simp] theorem lo_f {ρ : Rho} {d : D} {xs : List VR} {bs : List Bool} : lendOk ρ (.f d :: xs) (false :: bs) = lendOk ρ xs bs := rfl
@[simp] theorem lo_ft {ρ : Rho} {d : D} {xs : List VR} {bs : List Bool} : lendOk ρ (.f d :: xs) (true :: bs) = lendOk ρ xs bs := rfl
@[simp] theorem lo_l {ρ : Rho} {i : Nat} {xs : List VR} {bs : List Bool} : lendOk ρ (.l i :: xs) (true :: bs) = (isOwn ρ i && lendOk ρ xs bs) := rfl
@[simp] theorem li_nil {bs : List Bool} : lentOf [] bs = [] := by cases bs <;> rfl
@[simp] theorem li_v {d : D} {xs : List VR} {b : Bool} {bs : List Bool} : lentOf (.v d :: xs) (b :: bs) = lentOf xs bs := by cases b <;> rfl
@[simp] theorem li_f {d : D} {xs : List VR} {b : Bool} {bs : List Bool} : lentOf (.f d :: xs) (b :: bs) = lentOf xs bs := by cases b <;> rfl
@[simp] theorem li_l {i : Nat} {xs : List VR} {bs : List Bool} : lentOf (.l i :: xs) (true :: bs) = i :: lentOf xs bs := rfl
@[simp] theorem bk_nil {ρ : Rho} {bs : List Bool} {es : List D} : backL ρ [] bs es = ρ := by cases bs <;> rfl
@[simp] theorem bk_v {ρ : Rho} {d : D} {xs : List VR} {bs : List Bool} {es : List D} : backL ρ (.v d :: xs) (false :: bs) es = backL ρ xs bs es := by cases es <;> rfl
@[simp] theorem bk_f {ρ : Rho} {d : D} {xs : List VR} {bs : List Bool} {es : List D} : backL ρ (.f d :: xs) (false :: bs) es = backL ρ xs bs es := by cases es <;> rfl
@[simp] theorem bk_l {ρ : Rho} {i : Nat} {xs : List VR} {bs : List Bool} {e : D} {es : List D} : backL ρ (.l i :: xs) (true :: bs) (e :: es) = backL (ρ.set i (.own e)) xs bs es := rfl
/-- a call, by what the callee's run is -/
@[simp] theorem call_eq {F : Fns} {f : Nat} {xs : List VR} {ρ : Rho} : evCall F f xs ρ = if lendOk ρ xs (F.lend f) && decide (lentOf xs (F.lend f)).Nodup then
    match derfs ρ xs with
    | none => .no
    | some ds => match F.run f ds with
      | .ok x es => if x.keeps then .ok x (backL ρ xs (F.lend f) es) else .no
      | .exc c d es => .exc c d (backL ρ xs (F.lend f) es)
      | .no => .no
  else .no := rfl
@[simp] theorem io_own {ρ : Rho} {i : Nat} : isOwn ρ i = match ρ[i]? with
  | some (.own _) => true
  | _ => false := rfl
@[simp] theorem iol_own {ρ : Rho} {i : Nat} : isOwnL ρ i = match ρ[i]? with
  | some (.own (.lst _ _)) => true
  | _ => false := rfl
@[simp] theorem si_v {d : D} {ρ : Rho} : seqI (.v d) ρ = Rs.of (seqOf d) ρ := rfl
@[simp] theorem si_f {d : D} {ρ : Rho} : seqI (.f d) ρ = Rs.of (seqOf d) ρ := rfl
@[simp] theorem ei_v {d : D} {ρ : Rho} : enumI (.v d) ρ = Rs.of ((seqOf d).map (enumD 0)) ρ := rfl
@[simp] theorem sq_tup {xs : List D} : seqOf (.tup xs) = some xs := rfl
@[simp] theorem sq_lst {nm : Bool} {xs : List D} : seqOf (.lst nm xs) = some xs := rfl
@[simp] theorem sq_scr {xs : List D} : seqOf (.scr xs) = some xs := rfl
@[simp] theorem sT_nm {i : Nat} : slotsT (.nm i) = [i] := by simp [slotsT]
@[simp] theorem bT_nm {i : Nat} {d : D} {ρ : Rho} : bindT (.nm i) d ρ = if calmS ρ i then some (ρ.set i (.val d)) else none := by simp [bindT]
@[simp] theorem cw_nil {ρ : Rho} : canWipe ρ [] = true := rfl
@[simp] theorem cw_cons {ρ : Rho} {i : Nat} {is : List Nat} : canWipe ρ (i :: is) = (calmS ρ i && canWipe ρ is) := rfl
@[simp] theorem cl_nil {ρ : Rho} : clearS ρ [] = ρ := rfl
@[simp] theorem cl_cons {ρ : Rho} {i : Nat} {is : List Nat} : clearS ρ (i :: is) = (clearS ρ is).set i .un := rfl
@[simp] theorem small_1000 {n : Nat} (h : n ≤ 1000) : small n = true := small_of (Nat.le_trans h (by decide))
@[simp] theorem eE_pop {F : Fns} {u : Bool} {ρ : Rho} {i : Nat} : evE F u (.pop i) ρ = match ρ[i]? with
    | some (.own (.lst nm xs)) => match xs[xs.length - 1]? with
      | some d => .ok (.v d) (ρ.set i (.own (.lst false xs.dropLast)))
      | none => .no
    | _ => .no := by (rw [evE]) <;> rfl
/-- a comprehension whose turns leave the names as they are, by the places -/
theorem lc_ix {turn : D → Rho → Rs (Option D)} {ρ : Rho} : ∀ {ds acc : List D} {g : Nat → D}, (∀ i d, ds[i]? = some d → turn d ρ = .ok (some (g i)) ρ) → acc.length + ds.length ≤ sizeLine → lcLoop turn ds acc ρ = .ok (acc ++ (List.range ds.length).map g) ρ
  | [], acc, g, _, _ => by simp [lcLoop]
  | d :: ds, acc, g, h, hz => by
    have hl : acc.length < sizeLine := by simp at hz; omega
    unfold lcLoop
    rw [h 0 d (by simp)]
    simp only [hl, decide_true, if_true]
    rw [lc_ix (g := fun i => g (i + 1)) (fun i e he => h (i + 1) e (by simpa using he)) (by simp at hz ⊢; omega)]
    rw [List.length_cons, List.range_succ_eq_map, List.map_cons, List.map_map, List.append_assoc]
    rfl
theorem lc_vi {F : Fns} {u : Bool} {elt it : ME} {tg : MT} {ifs : List ME} {ρ ρ1 : Rho} {ds : List D} (g : Nat → D) (hi : evI F it ρ = .ok ds ρ1) (hw : canWipe ρ1 (slotsT tg) = true) (hc : clearS ρ1 (slotsT tg) = ρ1) (hp : putBack ρ1 ρ1 (slotsT tg) = ρ1) (hz : ds.length ≤ sizeLine)
    (h : ∀ i d, ds[i]? = some d → lcTurn (fun ρ => evTs F ifs ρ) (fun ρ => evE F false elt ρ) tg d ρ1 = .ok (some (g i)) ρ1) : evE F u (.lc elt tg it ifs) ρ = .ok (.f (.lst false ((List.range ds.length).map g))) ρ1 := by
  rw [eE_lc, hi]
  simp only [Rs.bind_ok]
  rw [lcGo_ok hw, hc, lc_ix h (by simpa using hz)]
  simp [lcEnd, hw, hp]
/-- a for loop whose body goes on at every turn: what holds, turn by turn -/
theorem for_ex {t : MT} {b : Rho → Oc} (P : Nat → Rho → Prop) : ∀ {ds : List D} {n : Nat} {ρ : Rho}, P n ρ → (∀ i d ρ, ds[i]? = some d → P (n + i) ρ → ∃ ρ1 ρ2, bindT t d ρ = some ρ1 ∧ (b ρ1 = .nx ρ2 ∨ b ρ1 = .ct ρ2) ∧ P (n + i + 1) ρ2) → ∃ ρ2, forLoop t b ds ρ = .nx ρ2 ∧ P (n + ds.length) ρ2
  | [], n, ρ, h0, _ => ⟨ρ, rfl, h0⟩
  | d :: ds, n, ρ, h0, h => by
    obtain ⟨ρ1, ρ2, h1, h2, h3⟩ := h 0 d ρ (by simp) h0
    obtain ⟨ρ3, h4, h5⟩ := for_ex (t := t) (b := b) P (ds := ds) (n := n + 1) (ρ := ρ2) h3 fun i e ρ he hp => by
      have q : n + 1 + i = n + (i + 1) := by omega
      rw [q] at hp ⊢
      exact h (i + 1) e ρ (by simpa using he) hp
    refine ⟨ρ3, ?_, ?_⟩
    · unfold forLoop
      rw [h1]
      simp only
      rcases h2 with h2 | h2 <;> (rw [h2]; exact h4)
    · have q : n + (d :: ds).length = n + 1 + ds.length := by simp; omega
      rw [q]
      exact h5
/-- a slot that holds no list of its own -/
def Cm (s : Slot) : Prop := s = .un ∨ ∃ d, s = .val d
theorem cm_un : Cm .un := .inl rfl
theorem cm_val {d : D} : Cm (.val d) := .inr ⟨d, rfl⟩
end Own

/-! part OwnR -/
namespace Own
open PySem PySem.Spec L2
/-! ### sizes -/
def Bd (N : Nat) (i : Int) : Prop := i.natAbs < 2 ^ N
theorem Bd.up {N M : Nat} {i : Int} (h : Bd N i) (l : N ≤ M) : Bd M i := Nat.lt_of_lt_of_le h (Nat.pow_le_pow_right (by decide) l)
theorem Bd.mul {N M : Nat} {i j : Int} (h : Bd N i) (h2 : Bd M j) : Bd (N + M) (i * j) := by
  unfold Bd at *
  rw [Int.natAbs_mul, Nat.pow_add]
  exact Nat.mul_lt_mul'' h h2
theorem Bd.add {N M : Nat} {i j : Int} (h : Bd N i) (h2 : Bd M j) : Bd (max N M + 1) (i + j) := by
  have a : i.natAbs < 2 ^ max N M := h.up (Nat.le_max_left ..)
  have b : j.natAbs < 2 ^ max N M := h2.up (Nat.le_max_right ..)
  have c := Int.natAbs_add_le i j
  unfold Bd
  rw [Nat.pow_succ]
  omega
theorem Bd.log {N : Nat} {i : Int} (h : Bd N i) : i.natAbs.log2 ≤ N := by
  by_cases z : i.natAbs = 0
  · rw [z]; simp
  · exact Nat.le_of_lt ((Nat.log2_lt z).mpr h)
theorem mulOk_of {N M : Nat} {i j : Int} (h : Bd N i) (h2 : Bd M j) (l : N + M < 1000000) : mulOk i j = true := by
  have := h.log
  have := h2.log
  unfold mulOk
  have : i.natAbs.log2 + j.natAbs.log2 < 1000000 := by omega
  simp [this]
theorem divOk_pos {N : Nat} {j : Int} (h0 : 0 < j) (h : Bd N j) (l : N < 9000) : divOk j = true := by
  have := h.log
  unfold divOk
  exact decide_eq_true ⟨by omega, by omega⟩
theorem divOk_ne {N : Nat} {j : Int} (h0 : j ≠ 0) (h : Bd N j) (l : N < 9000) : divOk j = true := by
  have := h.log
  unfold divOk
  exact decide_eq_true ⟨h0, by omega⟩
/-! ### fractions in lowest terms -/
def fr (q : Rat) : D := .tup [.int q.num, .int q.den]
def Rb (N M : Nat) (q : Rat) : Prop := Bd N q.num ∧ q.den < 2 ^ M
theorem Rb.up {N M N' M' : Nat} {q : Rat} (h : Rb N M q) (l : N ≤ N') (l2 : M ≤ M') : Rb N' M' q := ⟨h.1.up l, Nat.lt_of_lt_of_le h.2 (Nat.pow_le_pow_right (by decide) l2)⟩
theorem divInt_num {a b : Int} (h : 0 < b) : (Rat.divInt a b).num = a.fdiv ((Nat.gcd a.natAbs b.natAbs : Nat) : Int) := by
  rw [Rat.num_divInt, Int.sign_eq_one_of_pos h, Int.one_mul, Int.fdiv_eq_ediv_of_nonneg _ (by omega), Int.gcd_comm]
  rfl
theorem divInt_den {a b : Int} (h : 0 < b) : ((Rat.divInt a b).den : Int) = b.fdiv ((Nat.gcd a.natAbs b.natAbs : Nat) : Int) := by
  rw [Rat.den_divInt, if_neg (by omega), Int.fdiv_eq_ediv_of_nonneg _ (by omega), Int.gcd_comm]
  show ((b.natAbs / Int.gcd a b : Nat) : Int) = b / (Int.gcd a b : Int)
  rw [Int.natCast_ediv]
  congr 1
  omega
theorem fr_div {a b : Int} (h : 0 < b) : fr (Rat.divInt a b) = .tup [.int (a.fdiv ((Nat.gcd a.natAbs b.natAbs : Nat) : Int)), .int (b.fdiv ((Nat.gcd a.natAbs b.natAbs : Nat) : Int))] := by
  unfold fr
  rw [divInt_num h, divInt_den h]
theorem rb_div {N M : Nat} {a b : Int} (h : 0 < b) (ha : Bd N a) (hb : Bd M b) : Rb N M (Rat.divInt a b) := by
  constructor
  · rw [divInt_num h, Int.fdiv_eq_ediv_of_nonneg _ (by omega)]
    unfold Bd at *
    exact Nat.lt_of_le_of_lt (Int.natAbs_ediv_le_natAbs _ _) ha
  · have e := divInt_den (a := a) h
    rw [Int.fdiv_eq_ediv_of_nonneg _ (by omega)] at e
    have l := Int.natAbs_ediv_le_natAbs b ((Nat.gcd a.natAbs b.natAbs : Nat) : Int)
    unfold Bd at hb
    have : (Rat.divInt a b).den = (b / ((Nat.gcd a.natAbs b.natAbs : Nat) : Int)).natAbs := by rw [← e]; rfl
    omega
theorem den_pos' (q : Rat) : 0 < (q.den : Int) := by have := q.den_pos; omega
theorem add_div (p q : Rat) : p + q = Rat.divInt (p.num * q.den + q.num * p.den) ((p.den : Int) * q.den) := by
  rw [Rat.add_def', ← Int.natCast_mul, Rat.divInt_ofNat]
theorem mul_div (p q : Rat) : p * q = Rat.divInt (p.num * q.num) ((p.den : Int) * q.den) := by
  rw [Rat.mul_def', ← Int.natCast_mul, Rat.divInt_ofNat]
theorem rb_den {N M : Nat} {q : Rat} (h : Rb N M q) : Bd M (q.den : Int) := h.2
theorem Rb.add {N M N' M' : Nat} {p q : Rat} (h : Rb N M p) (h2 : Rb N' M' q) : Rb (max (N + M') (N' + M) + 1) (M + M') (p + q) := by
  rw [add_div]
  exact rb_div (Int.mul_pos (den_pos' p) (den_pos' q)) ((h.1.mul (rb_den h2)).add (h2.1.mul (rb_den h))) ((rb_den h).mul (rb_den h2))
theorem Rb.mul {N M N' M' : Nat} {p q : Rat} (h : Rb N M p) (h2 : Rb N' M' q) : Rb (N + N') (M + M') (p * q) := by
  rw [mul_div]
  exact rb_div (Int.mul_pos (den_pos' p) (den_pos' q)) (h.1.mul h2.1) ((rb_den h).mul (rb_den h2))
/-! ### vectors by their places -/
theorem rngD_eq : ∀ {n : Nat} {lo : Int}, rngD lo n = (List.range n).map fun i => D.int (lo + (i : Nat))
  | 0, _ => rfl
  | n + 1, lo => by
    rw [List.range_succ_eq_map]
    simp only [rngD, List.map_cons, List.map_map]
    rw [rngD_eq]
    congr 1
    · simp
    · apply List.map_congr_left
      intro i _
      simp only [Function.comp]
      congr 1
      omega
theorem atI_range {α : Type} {n i : Nat} {g : Nat → α} (h : i < n) : atI ((List.range n).map g) (i : Int) = some (g i) := atI_nat (by rw [List.getElem?_map, List.getElem?_range h]; rfl)
def vecD (n : Nat) (p : Nat → Rat) : D := .tup ((List.range n).map fun i => fr (p i))
theorem vec_at {n i : Nat} {p : Nat → Rat} (h : i < n) : ixop (vecD n p) (.int (i : Nat)) = some (fr (p i)) := by
  unfold vecD
  rw [ix_tup, atI_range h]
def sg (n : Nat) (g : Nat → Rat) : Rat := ((List.range n).map g).sum
theorem sg_succ {n : Nat} {g : Nat → Rat} : sg (n + 1) g = g 0 + sg n fun i => g (i + 1) := by
  unfold sg
  rw [List.range_succ_eq_map, List.map_cons, List.sum_cons, List.map_map]
  rfl
theorem sg_zero {g : Nat → Rat} : sg 0 g = 0 := rfl
theorem sg_congr {n : Nat} {g h : Nat → Rat} (e : ∀ i, i < n → g i = h i) : sg n g = sg n h := by
  unfold sg
  congr 1
  apply List.map_congr_left
  intro i hi
  exact e i (List.mem_range.mp hi)
theorem sg_add {g h : Nat → Rat} : ∀ {n : Nat}, (sg n fun i => g i + h i) = sg n g + sg n h
  | 0 => by simp [sg_zero, Rat.add_zero]
  | n + 1 => by rw [sg_succ, sg_succ, sg_succ, sg_add (g := fun i => g (i + 1))]; grind
theorem sg_mul {g : Nat → Rat} {c : Rat} : ∀ {n : Nat}, (sg n fun i => c * g i) = c * sg n g
  | 0 => by simp [sg_zero, Rat.mul_zero]
  | n + 1 => by rw [sg_succ, sg_succ, sg_mul (g := fun i => g (i + 1))]; grind
theorem sg_last {g : Nat → Rat} : ∀ {n : Nat}, sg (n + 1) g = sg n g + g n
  | 0 => by rw [sg_succ, sg_zero, sg_zero]; grind
  | n + 1 => by rw [sg_succ, sg_last (g := fun i => g (i + 1)), sg_succ]; grind
theorem intOk_small {i : Int} (h : -1000000 ≤ i ∧ i ≤ 1000000) : intOk i = true := by
  unfold intOk
  exact decide_eq_true (by omega)
theorem rng1_of {F : Fns} {e : ME} {ρ ρ1 : Rho} {n : Nat} (h : evOs F [e] ρ = .ok [.v (.int (n : Nat))] ρ1) (hn : n ≤ 1000000) : evI F (.rng [e]) ρ = .ok (rngD 0 n) ρ1 := by
  have hk : intOk ((n : Nat) : Int) = true := intOk_small (by omega)
  rw [eI_rng, h, Rs.bind_ok]
  unfold rngI
  simp only [derfs_cons, derf_v, derfs_nil]
  rw [if_pos hk, Int.toNat_natCast]
end Own

/-! part OwnW -/
namespace Own
open PySem PySem.Spec L2
/-! ### what a run ends in, said of the run -/
/-- P of the end, kept from simp's hand -/
def Ends (P : Oc → Prop) (o : Oc) : Prop := P o
theorem Ends_cg {P : Oc → Prop} {o o' : Oc} (h : o = o') : Ends P o = Ends P o' := by rw [h]
theorem Ends.at {P : Oc → Prop} {o : Oc} (h : P o) : Ends P o := h
theorem Ends.get {P : Oc → Prop} {o : Oc} (h : Ends P o) : P o := h
/-- a def's run -/
theorem ends_run {Q : Cr → Prop} {c : Cr} {l : List Bool} {o : Oc} (e : c = crOf l o) (h : ∀ P : Oc → Prop, (∀ o, Q (crOf l o) → P o) → Ends P o) : Q c := by rw [e]; exact h (fun o => Q (crOf l o)) fun _ h => h
/-! the heads come to the front -/
@[simp] theorem bb_as {α β γ : Type} {r : Rs α} {k : α → Rho → Rs β} {k2 : β → Rho → Rs γ} : (r.bind k).bind k2 = r.bind fun x ρ => (k x ρ).bind k2 := bind_bind ..
@[simp] theorem bo_as {α β : Type} {r : Rs α} {k : α → Rho → Rs β} {k2 : β → Rho → Oc} : (r.bind k).oc k2 = r.oc fun x ρ => (k x ρ).oc k2 := by cases r <;> rfl
@[simp] theorem oa_as {α : Type} {r : Rs α} {k : α → Rho → Oc} {k2 : Rho → Oc} : (r.oc k).andThen k2 = r.oc fun x ρ => (k x ρ).andThen k2 := by cases r <;> rfl
@[simp] theorem aa_as {o : Oc} {k k2 : Rho → Oc} : (o.andThen k).andThen k2 = o.andThen fun ρ => (k ρ).andThen k2 := by cases o <;> rfl
theorem evSs_append {F : Fns} : ∀ {a b : List MS} {ρ : Rho}, evSs F (a ++ b) ρ = (evSs F a ρ).andThen fun ρ1 => evSs F b ρ1
  | [], b, ρ => by rw [eSs_nil]; rfl
  | s :: a, b, ρ => by
    rw [List.cons_append, eSs_cons, eSs_cons, aa_as]
    congr 1
    funext ρ1
    exact evSs_append
/-- a block in two parts -/
theorem ends_cut {P : Oc → Prop} {F : Fns} {b : List MS} {ρ : Rho} (n : Nat) (h : ∀ b2, b2 = b.drop n → Ends P ((evSs F (b.take n) ρ).andThen fun ρ1 => evSs F b2 ρ1)) : Ends P (evSs F b ρ) := by
  have := h _ rfl
  rwa [← evSs_append, List.take_append_drop] at this
/-! ways that part -/
theorem ends_if {P : Oc → Prop} {c : Prop} [Decidable c] {a b : Oc} (h1 : c → Ends P a) (h2 : ¬ c → Ends P b) : Ends P (if c then a else b) := by
  by_cases h : c
  · rw [if_pos h]; exact h1 h
  · rw [if_neg h]; exact h2 h
theorem ends_ifk {P : Oc → Prop} {c : Prop} [Decidable c] {a b : Oc} {k : Rho → Oc} (h1 : c → Ends P (a.andThen k)) (h2 : ¬ c → Ends P (b.andThen k)) : Ends P ((if c then a else b).andThen k) := by
  by_cases h : c
  · rw [if_pos h]; exact h1 h
  · rw [if_neg h]; exact h2 h
theorem ends_ifo {P : Oc → Prop} {α : Type} {c : Prop} [Decidable c] {a b : Rs α} {k : α → Rho → Oc} (h1 : c → Ends P (a.oc k)) (h2 : ¬ c → Ends P (b.oc k)) : Ends P ((if c then a else b).oc k) := by
  by_cases h : c
  · rw [if_pos h]; exact h1 h
  · rw [if_neg h]; exact h2 h
/-! loops -/
/-- a turn's end: it goes on, or it ends all -/
def Turn (N : Rho → Prop) (X : Oc → Prop) : Oc → Prop
  | .nx ρ => N ρ
  | .ct ρ => N ρ
  | .bk ρ => X (.nx ρ)
  | o => X o
theorem ends_nx {N : Rho → Prop} {X : Oc → Prop} {ρ : Rho} (h : N ρ) : Ends (Turn N X) (.nx ρ) := h
theorem ends_ct {N : Rho → Prop} {X : Oc → Prop} {ρ : Rho} (h : N ρ) : Ends (Turn N X) (.ct ρ) := h
theorem ends_bk {N : Rho → Prop} {X : Oc → Prop} {ρ : Rho} (h : X (.nx ρ)) : Ends (Turn N X) (.bk ρ) := h
theorem ends_rt {N : Rho → Prop} {X : Oc → Prop} {x : VR} {ρ : Rho} (h : X (.rt x ρ)) : Ends (Turn N X) (.rt x ρ) := h
theorem for_turn {X : Oc → Prop} {t : MT} {b : Rho → Oc} (I : Nat → Rho → Prop) : ∀ {ds : List D} {n : Nat} {ρ : Rho}, I n ρ →
    (∀ i d ρ, ds[i]? = some d → I (n + i) ρ → ∃ ρ1, bindT t d ρ = some ρ1 ∧ Ends (Turn (I (n + i + 1)) X) (b ρ1)) → (∀ ρ, I (n + ds.length) ρ → X (.nx ρ)) → X (forLoop t b ds ρ)
  | [], n, ρ, h0, _, he => he ρ h0
  | d :: ds, n, ρ, h0, hs, he => by
    obtain ⟨ρ1, h1, h2⟩ := hs 0 d ρ (by simp) h0
    unfold forLoop
    rw [h1]
    simp only
    have go : ∀ ρ2, I (n + 1) ρ2 → X (forLoop t b ds ρ2) := fun ρ2 h3 => for_turn I (ds := ds) (n := n + 1) h3 (fun i e ρ he hp => by
      have q : n + 1 + i = n + (i + 1) := by omega
      rw [q] at hp ⊢
      exact hs (i + 1) e ρ (by simpa using he) hp) (fun ρ h => he ρ (by
      have q : n + (d :: ds).length = n + 1 + ds.length := by simp; omega
      rw [q]; exact h))
    cases q : b ρ1 with
    | nx ρ2 => rw [q] at h2; exact go ρ2 h2
    | ct ρ2 => rw [q] at h2; exact go ρ2 h2
    | bk ρ2 => rw [q] at h2; exact h2
    | rt x ρ2 => rw [q] at h2; exact h2
    | exc e d ρ2 => rw [q] at h2; exact h2
    | no => rw [q] at h2; exact h2
/-- a for loop by its invariant I -/
theorem ends_for {P : Oc → Prop} {F : Fns} {t : MT} {it : ME} {b : List MS} {ρ ρ1 : Rho} {ds : List D} {k : Rho → Oc} (I : Nat → Rho → Prop) (hi : evI F it ρ = .ok ds ρ1) (h0 : I 0 ρ1)
    (hs : ∀ i d ρ, ds[i]? = some d → I i ρ → ∃ ρ2, bindT t d ρ = some ρ2 ∧ ∀ (N : Rho → Prop) (X : Oc → Prop), (∀ ρ, I (i + 1) ρ → N ρ) → (∀ o, Ends P (o.andThen k) → X o) → Ends (Turn N X) (evSs F b ρ2)) (he : ∀ ρ, I ds.length ρ → Ends P (k ρ)) : Ends P ((evS F (.for t it b) ρ).andThen k) := by
  rw [eS_for, hi]
  show (fun o => Ends P (o.andThen k)) (forLoop t (fun ρ => evSs F b ρ) ds ρ1)
  refine for_turn (X := fun o => Ends P (o.andThen k)) (n := 0) I h0 (fun i d ρ hd hp => ?_) (fun ρ h => ?_)
  · rw [Nat.zero_add] at hp ⊢
    obtain ⟨ρ2, h1, h2⟩ := hs i d ρ hd hp
    exact ⟨ρ2, h1, h2 _ _ (fun _ h => h) (fun _ h => h)⟩
  · rw [Nat.zero_add] at h
    exact he ρ h
theorem wh_turn {X : Oc → Prop} {c : Rho → Rs Bool} {b : Rho → Oc} (I : Nat → Rho → Prop) (hs : ∀ m ρ, I m ρ → ∃ t ρ1, c ρ = .ok t ρ1 ∧ (t = false → X (.nx ρ1)) ∧ (t = true → Ends (Turn (fun ρ => ∃ m', m' < m ∧ I m' ρ) X) (b ρ1))) : ∀ m ρ, I m ρ → X (whileR c b ρ) := fun m => by
  induction m using Nat.strongRecOn with
  | _ m ih =>
    intro ρ h
    obtain ⟨t, ρ1, e, h1, h2⟩ := hs m ρ h
    rw [whileR_eq]
    unfold whStep
    rw [e]
    cases t with
    | false => exact h1 rfl
    | true =>
      have h3 := h2 rfl
      simp only
      cases q : b ρ1 with
      | nx ρ2 => rw [q] at h3; obtain ⟨m', l, h4⟩ := h3; exact ih m' l ρ2 h4
      | ct ρ2 => rw [q] at h3; obtain ⟨m', l, h4⟩ := h3; exact ih m' l ρ2 h4
      | bk ρ2 => rw [q] at h3; exact h3
      | rt x ρ2 => rw [q] at h3; exact h3
      | exc e d ρ2 => rw [q] at h3; exact h3
      | no => rw [q] at h3; exact h3
/-- a while loop by its invariant, with a measure that falls -/
theorem ends_wh {P : Oc → Prop} {F : Fns} {c : ME} {b : List MS} {ρ : Rho} {k : Rho → Oc} (I : Nat → Rho → Prop) (m : Nat) (h0 : I m ρ)
    (hs : ∀ m ρ, I m ρ → ∃ t ρ1, (evE F false c ρ).bind asB = .ok t ρ1 ∧ (t = false → Ends P (k ρ1)) ∧ (t = true → ∀ (N : Rho → Prop) (X : Oc → Prop), (∀ m' ρ, m' < m → I m' ρ → N ρ) → (∀ o, Ends P (o.andThen k) → X o) → Ends (Turn N X) (evSs F b ρ1))) : Ends P ((evS F (.wh c b) ρ).andThen k) := by
  rw [eS_wh]
  refine wh_turn (X := fun o => Ends P (o.andThen k)) I (fun m ρ h => ?_) m ρ h0
  obtain ⟨t, ρ1, h1, h2, h3⟩ := hs m ρ h
  exact ⟨t, ρ1, h1, h2, fun ht => h3 ht _ _ (fun m' ρ l h => ⟨m', l, h⟩) (fun _ h => h)⟩
/-! comprehensions -/
theorem lc_turn {X : Rs (List D) → Prop} {turn : D → Rho → Rs (Option D)} (I : Nat → List D → Rho → Prop) : ∀ {ds : List D} {n : Nat} {acc : List D} {ρ : Rho}, I n acc ρ → acc.length + ds.length ≤ sizeLine →
    (∀ i d acc ρ, ds[i]? = some d → I (n + i) acc ρ → ∃ y ρ2, turn d ρ = .ok y ρ2 ∧ I (n + i + 1) (acc ++ y.toList) ρ2) → (∀ acc ρ, I (n + ds.length) acc ρ → X (.ok acc ρ)) → X (lcLoop turn ds acc ρ)
  | [], n, acc, ρ, h0, _, _, he => he acc ρ h0
  | d :: ds, n, acc, ρ, h0, hz, hs, he => by
    obtain ⟨y, ρ2, h1, h2⟩ := hs 0 d acc ρ (by simp) h0
    have hl : acc.length < sizeLine := by simp at hz; omega
    unfold lcLoop
    rw [h1]
    have go : ∀ acc2 ρ2, acc2.length ≤ acc.length + 1 → I (n + 1) acc2 ρ2 → X (lcLoop turn ds acc2 ρ2) := fun acc2 ρ2 l2 h3 => lc_turn I (ds := ds) (n := n + 1) h3 (by simp at hz; omega) (fun i e acc ρ he hp => by
      have q : n + 1 + i = n + (i + 1) := by omega
      rw [q] at hp ⊢
      exact hs (i + 1) e acc ρ (by simpa using he) hp) (fun acc ρ h => he acc ρ (by
      have q : n + (d :: ds).length = n + 1 + ds.length := by simp; omega
      rw [q]; exact h))
    cases y with
    | none => exact go acc ρ2 (by omega) (by simpa using h2)
    | some y =>
      simp only [hl, decide_true, if_true]
      exact go _ _ (by simp) h2
/-- a comprehension by its invariant I: the turn, what is gathered, the names -/
theorem ends_lc {P : Oc → Prop} {F : Fns} {u : Bool} {elt it : ME} {tg : MT} {ifs : List ME} {ρ ρ1 : Rho} {ds : List D} {k : VR → Rho → Oc} (I : Nat → List D → Rho → Prop) (hi : evI F it ρ = .ok ds ρ1) (hw : canWipe ρ1 (slotsT tg) = true) (h0 : I 0 [] (clearS ρ1 (slotsT tg))) (hz : ds.length ≤ 1000000)
    (hs : ∀ i d acc ρ, ds[i]? = some d → I i acc ρ → ∃ y ρ2, lcTurn (fun ρ => evTs F ifs ρ) (fun ρ => evE F false elt ρ) tg d ρ = .ok y ρ2 ∧ I (i + 1) (acc ++ y.toList) ρ2) (he : ∀ xs ρ4, I ds.length xs ρ4 → canWipe ρ4 (slotsT tg) = true ∧ Ends P (k (.f (.lst false xs)) (putBack ρ1 ρ4 (slotsT tg)))) : Ends P ((evE F u (.lc elt tg it ifs) ρ).oc k) := by
  rw [eE_lc, hi]
  simp only [Rs.bind_ok]
  rw [lcGo_ok hw]
  show (fun r : Rs (List D) => Ends P ((r.bind (lcEnd ρ1 (slotsT tg))).oc k)) _
  refine lc_turn (X := fun r : Rs (List D) => Ends P ((r.bind (lcEnd ρ1 (slotsT tg))).oc k)) (n := 0) I h0 (by simpa using Nat.le_trans hz (by decide)) (fun i d acc ρ hd hp => ?_) (fun acc ρ h => ?_)
  · rw [Nat.zero_add] at hp ⊢
    exact hs i d acc ρ hd hp
  · rw [Nat.zero_add] at h
    obtain ⟨h1, h2⟩ := he acc ρ h
    simp only [Rs.bind_ok, lcEnd]
    rw [if_pos h1]
    exact h2
/-- a comprehension that maps -/
theorem ends_lcm {P : Oc → Prop} {F : Fns} {u : Bool} {elt it : ME} {tg : MT} {ifs : List ME} {ρ ρ1 : Rho} {ds : List D} {k : VR → Rho → Oc} (f : D → D) (hi : evI F it ρ = .ok ds ρ1) (hw : canWipe ρ1 (slotsT tg) = true) (hc : clearS ρ1 (slotsT tg) = ρ1) (hp : putBack ρ1 ρ1 (slotsT tg) = ρ1) (hz : ds.length ≤ 1000000)
    (h : ∀ d ∈ ds, lcTurn (fun ρ => evTs F ifs ρ) (fun ρ => evE F false elt ρ) tg d ρ1 = .ok (some (f d)) ρ1) (he : Ends P (k (.f (.lst false (ds.map f))) ρ1)) : Ends P ((evE F u (.lc elt tg it ifs) ρ).oc k) := by
  rw [lc_val hi hw hc hp (Nat.le_trans hz (by decide)) h]
  exact he
/-- a call whose end is known by a fact -/
theorem ends_call {P : Oc → Prop} {F : Fns} {f : Nat} {xs : List VR} {ds : List D} {x : VR} {es : List D} {ρ : Rho} {k : VR → Rho → Oc} (h : F.run f ds = .ok x es) (h1 : derfs ρ xs = some ds) (h2 : (lendOk ρ xs (F.lend f) && decide (lentOf xs (F.lend f)).Nodup) = true) (h3 : x.keeps = true) (h4 : Ends P (k x (backL ρ xs (F.lend f) es))) : Ends P ((evCall F f xs ρ).oc k) := by
  unfold evCall
  rw [if_pos h2, h1]
  simp only
  rw [h]
  simp only
  rw [if_pos h3]
  exact h4
/-! sizes by themselves -/
class Bc (N : outParam Nat) (i : Int) : Prop where
  out : Bd N i
theorem Bd.c {N : Nat} {i : Int} (h : Bd N i) : Bc N i := ⟨h⟩
instance {N M : Nat} {i j : Int} [a : Bc N i] [b : Bc M j] : Bc (N + M) (i * j) := ⟨a.out.mul b.out⟩
instance {N M : Nat} {i j : Int} [a : Bc N i] [b : Bc M j] : Bc (max N M + 1) (i + j) := ⟨a.out.add b.out⟩
theorem Bd.neg {N : Nat} {i : Int} (h : Bd N i) : Bd N (-i) := by unfold Bd at *; rwa [Int.natAbs_neg]
theorem Bd.sub {N M : Nat} {i j : Int} (h : Bd N i) (h2 : Bd M j) : Bd (max N M + 1) (i - j) := by rw [Int.sub_eq_add_neg]; exact h.add h2.neg
instance {N M : Nat} {i j : Int} [a : Bc N i] [b : Bc M j] : Bc (max N M + 1) (i - j) := ⟨a.out.sub b.out⟩
instance {N : Nat} {i : Int} [a : Bc N i] : Bc N (-i) := ⟨a.out.neg⟩
instance (priority := low) {n : Nat} : Bc (Nat.log2 n + 1) (no_index (OfNat.ofNat n : Int)) := ⟨by
  show n < 2 ^ (Nat.log2 n + 1)
  exact Nat.lt_log2_self⟩
theorem mulOk_bc {N M : Nat} {i j : Int} (a : Bc N i) (b : Bc M j) (l : N + M < 1000000) : mulOk i j = true := mulOk_of a.out b.out l
theorem bo_mulc {N M : Nat} {i j : Int} [a : Bc N i] [b : Bc M j] (l : N + M < 1000000) : bop .mul (.int i) (.int j) = some (.v (.int (i * j))) := bo_mul (mulOk_of a.out b.out l)
theorem Bd.fmod {N : Nat} {i j : Int} (h0 : 0 < j) (h : Bd N j) : Bd N (i.fmod j) := by
  have a := Int.fmod_nonneg_of_pos i h0
  have b := Int.fmod_lt_of_pos i h0
  unfold Bd at *
  omega
class Ps (j : Int) : Prop where
  out : 0 < j
instance {n : Nat} : Ps (no_index (OfNat.ofNat (n + 1) : Int)) := ⟨by show (0 : Int) < ((n + 1 : Nat) : Int); omega⟩
instance {N : Nat} {i j : Int} [p : Ps j] [b : Bc N j] : Bc N (i.fmod j) := ⟨b.out.fmod p.out⟩
theorem Bd.ediv {N : Nat} {i j : Int} (h : Bd N i) : Bd N (i / j) := Nat.lt_of_le_of_lt (Int.natAbs_ediv_le_natAbs _ _) h
theorem Bd.fdiv {N : Nat} {i j : Int} (h0 : 0 ≤ j) (h : Bd N i) : Bd N (i.fdiv j) := by rw [Int.fdiv_eq_ediv_of_nonneg _ h0]; exact h.ediv
instance {N : Nat} {i j : Int} [a : Bc N i] [p : Ps j] : Bc N (i.fdiv j) := ⟨a.out.fdiv (by have := p.out; omega)⟩
theorem bo_fdivc {N : Nat} {i j : Int} [p : Ps j] [b : Bc N j] (l : N < 9000) : bop .fdiv (.int i) (.int j) = some (.v (.int (i.fdiv j))) := bo_fdiv (divOk_pos p.out b.out l)
theorem bo_modc {i j : Int} [p : Ps j] : bop .mod (.int i) (.int j) = some (.v (.int (i.fmod j))) := bo_mod (by have := p.out; omega)
theorem Bd.of_le {N : Nat} {i : Int} {b : Int} (h : -b ≤ i ∧ i ≤ b) (h2 : b < 2 ^ N) : Bd N i := by
  unfold Bd
  have : ((2 ^ N : Nat) : Int) = (2 : Int) ^ N := by simp
  omega
end Own

/-! part OwnS -/
namespace Own
open PySem PySem.Spec L2
/-! ### texts of data -/
structure Rp (k n : Nat) (d : D) : Prop where
  eq : ∀ j, k ≤ j → eqable j d = true
  sh : (toPy d).showable = true
  lv : (toPy d).leavesShort 1921 = true
  bk : (toPy d).bulk ≤ n
theorem Rp.up {k n k' n' : Nat} {d : D} (h : Rp k n d) (l : k ≤ k') (l2 : n ≤ n') : Rp k' n' d := ⟨fun j hj => h.eq j (by omega), h.sh, h.lv, Nat.le_trans h.bk l2⟩
theorem log_of_bd {N : Nat} {i : Int} (h : Bd N i) (hN : 0 < N) : i.natAbs.log2 < N := by
  by_cases z : i.natAbs = 0
  · rw [z]; simpa using hN
  · exact (Nat.log2_lt z).mpr h
theorem Rp.int {i : Int} (h : Bd 1920 i) : Rp 0 0 (.int i) := by
  have hl := log_of_bd h (by omega)
  refine ⟨fun j _ => by cases j <;> rfl, by unfold toPy PyData.showable; exact decide_eq_true hl, ?_, Nat.le_refl _⟩
  unfold toPy PyData.leavesShort
  exact decide_eq_true (PyProof.Rows.int_text_len_1921 hl)
theorem eqables_of {k : Nat} : ∀ {xs : List D}, (∀ x ∈ xs, eqable k x = true) → eqables k xs = true
  | [], _ => by unfold eqables; rfl
  | x :: xs, h => by
    unfold eqables
    rw [h x List.mem_cons_self, eqables_of fun y hy => h y (List.mem_cons_of_mem _ hy)]
    rfl
theorem showables_of : ∀ {xs : List D}, (∀ x ∈ xs, (toPy x).showable = true) → PyData.showableAll (toPys xs) = true
  | [], _ => by unfold toPys PyData.showableAll; rfl
  | x :: xs, h => by
    unfold toPys PyData.showableAll
    rw [h x List.mem_cons_self, showables_of fun y hy => h y (List.mem_cons_of_mem _ hy)]
    rfl
theorem leaves_of : ∀ {xs : List D}, (∀ x ∈ xs, (toPy x).leavesShort 1921 = true) → PyData.leavesShortAll 1921 (toPys xs) = true
  | [], _ => by unfold toPys PyData.leavesShortAll; rfl
  | x :: xs, h => by
    unfold toPys PyData.leavesShortAll
    rw [h x List.mem_cons_self, leaves_of fun y hy => h y (List.mem_cons_of_mem _ hy)]
    rfl
theorem bulks_of {n : Nat} : ∀ {xs : List D}, (∀ x ∈ xs, (toPy x).bulk ≤ n) → PyData.bulkAll (toPys xs) ≤ xs.length * (n + 1)
  | [], _ => by unfold toPys PyData.bulkAll; omega
  | x :: xs, h => by
    unfold toPys PyData.bulkAll
    have a := h x List.mem_cons_self
    have b := bulks_of (n := n) (xs := xs) fun y hy => h y (List.mem_cons_of_mem _ hy)
    rw [List.length_cons, Nat.succ_mul]
    omega
theorem Rp.tup {k n : Nat} {xs : List D} (h : ∀ x ∈ xs, Rp k n x) : Rp (k + 1) (xs.length * (n + 1)) (.tup xs) := by
  refine ⟨fun j hj => ?_, ?_, ?_, ?_⟩
  · match j, hj with
    | j + 1, hj =>
      unfold eqable
      exact eqables_of fun x hx => (h x hx).eq j (by omega)
  · unfold toPy PyData.showable
    exact showables_of fun x hx => (h x hx).sh
  · unfold toPy PyData.leavesShort
    exact leaves_of fun x hx => (h x hx).lv
  · unfold toPy PyData.bulk
    exact bulks_of fun x hx => (h x hx).bk
/-- the text of a datum -/
def rpr (d : D) : Str := (toPy d).shown
theorem bl_rpr {d : D} {k n : Nat} (h : Rp k n d) (hk : k ≤ 40) (hn : n ≤ 8000) : bltop .repr [d] = some (.v (.str (rpr d))) := by
  refine bl_repr ?_
  have a := PyData.shown_le_bulk 1921 (by omega) _ h.lv
  have b : 1923 * (toPy d).bulk ≤ 1923 * 8000 := Nat.mul_le_mul_left _ (Nat.le_trans h.bk hn)
  have c : small (toPy d).shown.length = true := small_of (by
    have : sizeLine = 16777216 := by decide
    omega)
  rw [h.eq 40 hk, h.sh, c]
  rfl
/-! ### a common denominator -/
theorem den_ne (q : Rat) : (((q.den : Nat) : Int) : Rat) ≠ 0 := fun hc => by
  have := Rat.intCast_inj (a := (q.den : Int)) (b := 0) |>.mp (by simpa using hc)
  have := q.den_pos
  omega
theorem num_of (q : Rat) : q * ((q.den : Int) : Rat) = (q.num : Rat) := by
  have h := Rat.num_divInt_den q
  rw [Rat.divInt_eq_div] at h
  conv => lhs; lhs; rw [← h]
  exact Rat.div_mul_cancel (den_ne q)
theorem common {p : Nat → Rat} {N M : Nat} : ∀ {n : Nat}, (∀ i, i < n → Rb N M (p i)) → ∃ (d : Nat) (x : Nat → Int), 0 < d ∧ d ≤ 2 ^ (M * n) ∧ ∀ i, i < n → p i * ((d : Int) : Rat) = (x i : Rat) ∧ Bd (N + M * n) (x i)
  | 0, _ => ⟨1, fun _ => 0, by omega, by simp, fun i hi => by omega⟩
  | n + 1, h => by
    obtain ⟨d, x, h0, h1, h2⟩ := common (n := n) fun i hi => h i (by omega)
    have hn := h n (by omega)
    have hd := (p n).den_pos
    have e : 2 ^ (M * (n + 1)) = 2 ^ (M * n) * 2 ^ M := by rw [Nat.mul_add, Nat.mul_one, Nat.pow_add]
    refine ⟨d * (p n).den, fun i => if i < n then x i * (p n).den else (p n).num * d, Nat.mul_pos h0 hd, ?_, fun i hi => ?_⟩
    · rw [e]
      exact Nat.mul_le_mul h1 (Nat.le_of_lt hn.2)
    · by_cases hl : i < n
      · obtain ⟨a, b⟩ := h2 i hl
        simp only [if_pos hl]
        refine ⟨?_, ?_⟩
        · rw [Int.natCast_mul, Rat.intCast_mul, Rat.intCast_mul, ← Rat.mul_assoc, a]
        · have := b.mul (rb_den hn)
          refine this.up ?_
          rw [Nat.mul_add]
          omega
      · have hz : i = n := by omega
        subst hz
        simp only [if_neg hl]
        refine ⟨?_, ?_⟩
        · rw [Int.natCast_mul, Rat.intCast_mul, Rat.intCast_mul]
          have q : p i * (((p i).den : Int) : Rat) = ((p i).num : Rat) := num_of (p i)
          rw [Rat.mul_comm (((d : Nat) : Int) : Rat), ← Rat.mul_assoc, q]
        · unfold Bd
          rw [Int.natAbs_mul]
          have hdd : ((d : Int)).natAbs = d := rfl
          rw [hdd]
          have : (p i).num.natAbs * d < 2 ^ N * 2 ^ (M * (i + 1)) := by
            have a1 : (p i).num.natAbs * d < 2 ^ N * d := Nat.mul_lt_mul_of_pos_right hn.1 h0
            have a2 : d ≤ 2 ^ (M * (i + 1)) := Nat.le_trans h1 (Nat.pow_le_pow_right (by decide) (Nat.mul_le_mul_left _ (by omega)))
            exact Nat.lt_of_lt_of_le a1 (Nat.mul_le_mul_left _ a2)
          rw [Nat.pow_add]
          exact this
/-- a fraction that a positive integer makes an integer -/
theorem rb_of_int {q : Rat} {d : Nat} {z : Int} {N M : Nat} (h : q * ((d : Int) : Rat) = (z : Rat)) (h0 : 0 < d) (hz : Bd N z) (hd : d < 2 ^ M) : Rb N M q := by
  have e : q = Rat.divInt z d := by
    rw [Rat.divInt_eq_div, ← h]
    have hne : (((d : Nat) : Int) : Rat) ≠ 0 := by
      intro hc
      have := Rat.intCast_inj (a := (d : Int)) (b := 0) |>.mp (by simpa using hc)
      omega
    rw [Rat.mul_div_cancel hne]
  rw [e]
  exact rb_div (by omega) hz hd
end Own

/-! part OwnX -/
namespace Own
open PySem PySem.Spec L2
theorem dep {N m : Nat} (h : m ≤ N) : ∃ k, N = k + m := ⟨N - m, by omega⟩
section
variable {F : Fns} {ρ : Rho}
@[simp] theorem eI_sl {a : ME} {lo hi : Option ME} : evI F (.sl a lo hi) ρ = (evE F false (.sl a lo hi) ρ).bind seqI := rfl
@[simp] theorem eI_ix {a b : ME} : evI F (.ix a b) ρ = (evE F false (.ix a b) ρ).bind seqI := rfl
@[simp] theorem eI_call {f : Nat} {es : List ME} : evI F (.call f es) ρ = (evE F false (.call f es) ρ).bind seqI := rfl
@[simp] theorem eI_lc {e i : ME} {t : MT} {fs : List ME} : evI F (.lc e t i fs) ρ = (evE F false (.lc e t i fs) ρ).bind seqI := rfl
@[simp] theorem eI_lst {es : List ME} : evI F (.lst es) ρ = (evE F false (.lst es) ρ).bind seqI := rfl
@[simp] theorem eI_tup {es : List ME} : evI F (.tup es) ρ = (evE F false (.tup es) ρ).bind seqI := rfl
@[simp] theorem eI_glb {k : Nat} : evI F (.glb k) ρ = (evE F false (.glb k) ρ).bind seqI := rfl
@[simp] theorem eI_blt {b : Blt} {es : List ME} : evI F (.blt b es) ρ = (evE F false (.blt b es) ρ).bind seqI := rfl
@[simp] theorem eI_rev {a : ME} : evI F (.rev a) ρ = (evE F false (.rev a) ρ).bind seqI := rfl
@[simp] theorem eI_bin {o : Bop} {a b : ME} : evI F (.bin o a b) ρ = (evE F false (.bin o a b) ρ).bind seqI := rfl
end
/-! comprehensions that choose -/
theorem lc_fmap {turn : D → Rho → Rs (Option D)} {g : D → Option D} {ρ : Rho} : ∀ {ds acc : List D}, (∀ d ∈ ds, turn d ρ = .ok (g d) ρ) → acc.length + ds.length ≤ sizeLine → lcLoop turn ds acc ρ = .ok (acc ++ ds.filterMap g) ρ
  | [], acc, _, _ => by simp [lcLoop]
  | d :: ds, acc, h, hz => by
    have hl : acc.length < sizeLine := by simp at hz; omega
    unfold lcLoop
    rw [h d List.mem_cons_self]
    cases q : g d with
    | none =>
      simp only
      rw [lc_fmap (fun e he => h e (List.mem_cons_of_mem _ he)) (by simp at hz ⊢; omega), List.filterMap_cons_none q]
    | some y =>
      simp only [hl, decide_true, if_true]
      rw [lc_fmap (fun e he => h e (List.mem_cons_of_mem _ he)) (by simp at hz ⊢; omega), List.filterMap_cons_some q]
      simp
theorem lc_fval {F : Fns} {u : Bool} {elt it : ME} {tg : MT} {ifs : List ME} {ρ ρ1 : Rho} {ds : List D} {g : D → Option D} (hi : evI F it ρ = .ok ds ρ1) (hw : canWipe ρ1 (slotsT tg) = true) (hc : clearS ρ1 (slotsT tg) = ρ1) (hp : putBack ρ1 ρ1 (slotsT tg) = ρ1) (hz : ds.length ≤ 1000000)
    (h : ∀ d ∈ ds, lcTurn (fun ρ => evTs F ifs ρ) (fun ρ => evE F false elt ρ) tg d ρ1 = .ok (g d) ρ1) : evE F u (.lc elt tg it ifs) ρ = .ok (.f (.lst false (ds.filterMap g))) ρ1 := by
  rw [eE_lc, hi]
  simp only [Rs.bind_ok]
  rw [lcGo_ok hw, hc, lc_fmap h (by simpa using Nat.le_trans hz (by decide))]
  simp [lcEnd, hw, hp]
theorem ends_lcf {P : Oc → Prop} {F : Fns} {u : Bool} {elt it : ME} {tg : MT} {ifs : List ME} {ρ ρ1 : Rho} {ds : List D} {k : VR → Rho → Oc} (g : D → Option D) (hi : evI F it ρ = .ok ds ρ1) (hw : canWipe ρ1 (slotsT tg) = true) (hc : clearS ρ1 (slotsT tg) = ρ1) (hp : putBack ρ1 ρ1 (slotsT tg) = ρ1) (hz : ds.length ≤ 1000000)
    (h : ∀ d ∈ ds, lcTurn (fun ρ => evTs F ifs ρ) (fun ρ => evE F false elt ρ) tg d ρ1 = .ok (g d) ρ1) (he : Ends P (k (.f (.lst false (ds.filterMap g))) ρ1)) : Ends P ((evE F u (.lc elt tg it ifs) ρ).oc k) := by
  rw [lc_fval hi hw hc hp hz h]
  exact he
theorem rng_get {n i : Nat} {d : D} (h : (rngD 0 n)[i]? = some d) : i < n ∧ d = .int (i : Nat) := by
  have := (List.getElem?_eq_some_iff.mp h).1
  rw [rngD_length] at this
  have e := rngD_get h
  rw [Int.zero_add] at e
  exact ⟨this, e⟩
theorem enumD_at {ds : List D} {i : Nat} {d : D} (h : (enumD 0 ds)[i]? = some d) : ∃ e, ds[i]? = some e ∧ d = .tup [.int (i : Nat), e] := by
  obtain ⟨e, h1, h2⟩ := enumD_get h
  rw [Int.zero_add] at h2
  exact ⟨e, h1, h2⟩
theorem bT2 {i j : Nat} {a b : D} {ρ : Rho} (h : calmS ρ i = true) (h2 : calmS (ρ.set i (.val a)) j = true) : bindT (.tp [.nm i, .nm j]) (.tup [a, b]) ρ = some ((ρ.set i (.val a)).set j (.val b)) := by
  simp [bindT, bindTs, h, h2]
theorem bT3 {i j l : Nat} {a b c : D} {ρ : Rho} (h : calmS ρ i = true) (h2 : calmS (ρ.set i (.val a)) j = true) (h3 : calmS ((ρ.set i (.val a)).set j (.val b)) l = true) : bindT (.tp [.nm i, .nm j, .nm l]) (.tup [a, b, c]) ρ = some (((ρ.set i (.val a)).set j (.val b)).set l (.val c)) := by
  simp [bindT, bindTs, h, h2, h3]
theorem bTs3 {i j l : Nat} {a b c : D} {ρ : Rho} (h : calmS ρ i = true) (h2 : calmS (ρ.set i (.val a)) j = true) (h3 : calmS ((ρ.set i (.val a)).set j (.val b)) l = true) : bindTs [.nm i, .nm j, .nm l] [a, b, c] ρ = some (((ρ.set i (.val a)).set j (.val b)).set l (.val c)) := by
  simp [bindT, bindTs, h, h2, h3]
theorem bTs2 {i j : Nat} {a b : D} {ρ : Rho} (h : calmS ρ i = true) (h2 : calmS (ρ.set i (.val a)) j = true) : bindTs [.nm i, .nm j] [a, b] ρ = some ((ρ.set i (.val a)).set j (.val b)) := by
  simp [bindT, bindTs, h, h2]
theorem range_snoc {α : Type} {g : Nat → α} {i : Nat} : (List.range i).map g ++ [g i] = (List.range (i + 1)).map g := by
  rw [List.range_succ, List.map_append]
  rfl
theorem map_getD {α β : Type} {l : List α} {d : α} {g : α → β} : (List.range l.length).map (fun i => g (l.getD i d)) = l.map g := by
  apply List.ext_getElem?
  intro i
  by_cases h : i < l.length
  · rw [List.getElem?_map, List.getElem?_range h, List.getElem?_map, List.getElem?_eq_getElem h]
    simp [List.getD_eq_getElem?_getD, List.getElem?_eq_getElem h]
  · rw [List.getElem?_eq_none (by simp; omega), List.getElem?_eq_none (by simp; omega)]
theorem fr_at0 {q : Rat} : ixop (fr q) (.int 0) = some (.int q.num) := by simp [fr]
theorem fr_at1 {q : Rat} : ixop (fr q) (.int 1) = some (.int q.den) := by simp [fr]
/-- a comprehension whose names may hide others: ρ0 is the state in it -/
theorem lc_gval {F : Fns} {u : Bool} {elt it : ME} {tg : MT} {ifs : List ME} {ρ ρ1 : Rho} (ρ0 : Rho) {ds : List D} {g : D → Option D} (hi : evI F it ρ = .ok ds ρ1) (hw : canWipe ρ1 (slotsT tg) = true) (hc : clearS ρ1 (slotsT tg) = ρ0) (hw0 : canWipe ρ0 (slotsT tg) = true) (hp : putBack ρ1 ρ0 (slotsT tg) = ρ1) (hz : ds.length ≤ 1000000)
    (h : ∀ d ∈ ds, lcTurn (fun ρ => evTs F ifs ρ) (fun ρ => evE F false elt ρ) tg d ρ0 = .ok (g d) ρ0) : evE F u (.lc elt tg it ifs) ρ = .ok (.f (.lst false (ds.filterMap g))) ρ1 := by
  rw [eE_lc, hi]
  simp only [Rs.bind_ok]
  rw [lcGo_ok hw, hc, lc_fmap h (by simpa using Nat.le_trans hz (by decide))]
  simp [lcEnd, hw0, hp]
theorem ends_lcg {P : Oc → Prop} {F : Fns} {u : Bool} {elt it : ME} {tg : MT} {ifs : List ME} {ρ ρ1 : Rho} (ρ0 : Rho) {ds : List D} {k : VR → Rho → Oc} (g : D → Option D) (hi : evI F it ρ = .ok ds ρ1) (hw : canWipe ρ1 (slotsT tg) = true) (hc : clearS ρ1 (slotsT tg) = ρ0) (hw0 : canWipe ρ0 (slotsT tg) = true) (hp : putBack ρ1 ρ0 (slotsT tg) = ρ1) (hz : ds.length ≤ 1000000)
    (h : ∀ d ∈ ds, lcTurn (fun ρ => evTs F ifs ρ) (fun ρ => evE F false elt ρ) tg d ρ0 = .ok (g d) ρ0) (he : Ends P (k (.f (.lst false (ds.filterMap g))) ρ1)) : Ends P ((evE F u (.lc elt tg it ifs) ρ).oc k) := by
  rw [lc_gval ρ0 hi hw hc hw0 hp hz h]
  exact he
/-- a block whose first part is known -/
theorem ends_seq {P : Oc → Prop} {F : Fns} {s b : List MS} {ρ ρ2 : Rho} {kk : Rho → Oc} (h : evSs F s ρ = .nx ρ2) (h2 : Ends P ((evSs F b ρ2).andThen kk)) : Ends P ((evSs F (s ++ b) ρ).andThen kk) := by
  rw [evSs_append, h, Oc.andThen_nx]
  exact h2
/-! looks at any datum -/
def isInt : D → Bool
  | .int _ => true
  | _ => false
def btw (lo hi : Int) : D → Bool
  | .int i => decide (lo ≤ i) && decide (i ≤ hi)
  | _ => false
def tupB (lo hi : Int) : D → Bool
  | .tup xs => decide (lo ≤ xs.length) && decide ((xs.length : Int) ≤ hi)
  | _ => false
def intsB (n : Int) : D → Bool
  | .tup xs => decide ((xs.length : Int) = n) && xs.all isInt
  | _ => false
theorem isInt_is {d : D} (h : isInt d = true) : ∃ i, d = .int i := by
  cases d <;> simp [isInt] at h
  exact ⟨_, rfl⟩
end Own

/-! part OwnV -/
namespace Own
open PySem PySem.Spec L2
/-! ### errors: equations, for simp -/
section
variable {F : Fns} {ρ : Rho} {u : Bool}
@[simp] theorem at_exc {c : Str} {d : D} {k : Rho → Oc} : (Oc.exc c d ρ).andThen k = .exc c d ρ := rfl
theorem eS_rai {c : Str} {e : ME} (h : 2 ≤ F.dep) : evS F (.rai c e) ρ = (evE F false e ρ).oc fun x ρ1 => if x.keeps then match derf ρ1 x with
        | some d => .exc c d ρ1
        | none => .no
      else .no := by
  rw [evS, decide_eq_true h]
  rfl
/-- what a try makes of its body's end -/
def tryR (F : Fns) (c : Str) (n m : Nat) : Oc → Oc
  | .exc c' d ρ1 => match F.sub c' c with
      | some true => if calmS ρ1 n && calmS ρ1 m && decide (n ≠ m) then .nx ((ρ1.set n .un).set m (.val (.exn c' d))) else .no
      | some false => .exc c' d ρ1
      | none => .no
  | o => o
@[simp] theorem tr_exc {c c' : Str} {n m : Nat} {d : D} : tryR F c n m (.exc c' d ρ) = match F.sub c' c with
      | some true => if calmS ρ n && calmS ρ m && decide (n ≠ m) then .nx ((ρ.set n .un).set m (.val (.exn c' d))) else .no
      | some false => .exc c' d ρ
      | none => .no := rfl
@[simp] theorem tr_nx {c : Str} {n m : Nat} : tryR F c n m (.nx ρ) = .nx ρ := rfl
@[simp] theorem tr_rt {c : Str} {n m : Nat} {x : VR} : tryR F c n m (.rt x ρ) = .rt x ρ := rfl
@[simp] theorem tr_no {c : Str} {n m : Nat} : tryR F c n m .no = .no := rfl
@[simp] theorem eS_try {b : List MS} {c : Str} {n m : Nat} : evS F (.tryE b c n m) ρ = tryR F c n m (evSs F b ρ) := by
  rw [evS]
  cases evSs F b ρ <;> rfl
@[simp] theorem eE_isx {c : Str} {a : ME} : evE F u (.isx c a) ρ = (evE F true a ρ).bind fun x ρ1 => match derf ρ1 x with
      | some (.exn c' _) => Rs.of ((F.sub c' c).map fun b => .v (.bl b)) ρ1
      | _ => .no := by (rw [evE]) <;> rfl
@[simp] theorem eE_fld {i : Nat} : evE F u (.fld i) ρ = match ρ[i]? with
      | some (.val (.exn _ d)) => .ok (.v d) ρ
      | _ => .no := by (rw [evE]) <;> rfl
@[simp] theorem eR_isx {c : Str} {a : ME} : evR F (.isx c a) ρ = evE F false (.isx c a) ρ := rfl
@[simp] theorem eR_fld {i : Nat} : evR F (.fld i) ρ = evE F false (.fld i) ρ := rfl
@[simp] theorem cr_exc {l : List Bool} {c : Str} {d : D} : crOf l (.exc c d ρ) = match outsOf ρ (mineOf 0 l) with
  | some es => if noNam ρ then .exc c d es else .no
  | none => .no := rfl
end
/-! ### texts of more data -/
theorem Rp.bl {b : Bool} : Rp 0 0 (.bl b) := ⟨fun j _ => by cases j <;> rfl, by unfold toPy PyData.showable; rfl, by cases b <;> decide, Nat.le_refl _⟩
theorem Rp.non : Rp 0 0 .non := ⟨fun j _ => by cases j <;> rfl, by unfold toPy PyData.showable; rfl, by decide, Nat.le_refl _⟩
theorem Rp.lst {k n : Nat} {nm : Bool} {xs : List D} (h : ∀ x ∈ xs, Rp k n x) : Rp (k + 1) (xs.length * (n + 1)) (.lst nm xs) := by
  refine ⟨fun j hj => ?_, ?_, ?_, ?_⟩
  · match j, hj with
    | j + 1, hj =>
      unfold eqable
      exact eqables_of fun x hx => (h x hx).eq j (by omega)
  · unfold toPy PyData.showable
    exact showables_of fun x hx => (h x hx).sh
  · unfold toPy PyData.leavesShort
    exact leaves_of fun x hx => (h x hx).lv
  · unfold toPy PyData.bulk
    exact bulks_of fun x hx => (h x hx).bk
end Own

/-! part OwnU -/
namespace Own
open PySem PySem.Spec L2
section
variable {F : Fns} {ρ : Rho} {u : Bool}
@[simp] theorem eE_chn3 {o p q : Cop} {a b c d : ME} : evE F u (.chn3 o p q a b c d) ρ = (evE F true a ρ).bind fun x ρ1 => (evE F true b ρ1).bind fun y ρ2 =>
      match derf ρ2 x, derf ρ2 y with
      | some d1, some e1 => match cop o d1 e1 with
        | some true => (evE F true c ρ2).bind fun z ρ3 => match derf ρ3 y, derf ρ3 z with
          | some e', some g => match cop p e' g with
            | some true => (evE F true d ρ3).bind fun w ρ4 => match derf ρ4 z, derf ρ4 w with
              | some g', some h => Rs.of ((cop q g' h).map fun b => .v (.bl b)) ρ4
              | _, _ => .no
            | some false => .ok (.v (.bl false)) ρ3
            | none => .no
          | _, _ => .no
        | some false => .ok (.v (.bl false)) ρ2
        | none => .no
      | _, _ => .no := by (rw [evE]) <;> rfl
@[simp] theorem eE_idx {a e : ME} : evE F u (.idx a e) ρ = (evE F true a ρ).bind fun x ρ1 => match derf ρ1 x with
      | some (.tn _) => (evE F true e ρ1).bind fun y ρ2 => match derf ρ2 x, derf ρ2 y with
        | some (.tn ys), some d => Rs.of ((idxop (.tn ys) d).map fun i => .v (.int i)) ρ2
        | _, _ => .no
      | some (.lst _ _) => (evE F true e ρ1).bind fun y ρ2 => match derf ρ2 x, derf ρ2 y with
        | some (.lst nm ys), some d => Rs.of ((idxop (.lst nm ys) d).map fun i => .v (.int i)) ρ2
        | _, _ => .no
      | _ => .no := by (rw [evE]) <;> rfl
@[simp] theorem eE_tupN {es : List ME} : evE F u (.tupN es) ρ = (evEs F es ρ).bind fun xs ρ1 => match derfs ρ1 xs with
      | some ds => if small ds.length then .ok (.v (.tn ds)) ρ1 else .no
      | none => .no := by (rw [evE]) <;> rfl
@[simp] theorem eE_tplN {a : ME} : evE F u (.tplN a) ρ = (evE F true a ρ).bind fun x ρ1 => match derf ρ1 x with
      | some (.lst _ ds) => .ok (.v (.tn ds)) ρ1
      | _ => .no := by (rw [evE]) <;> rfl
@[simp] theorem eE_lrg {es : List ME} : evE F u (.lrg es) ρ = ((evOs F es ρ).bind rngI).bind fun ds ρ1 => if small ds.length then .ok (.f (.lst false ds)) ρ1 else .no := by (rw [evE]) <;> rfl
@[simp] theorem eR_chn3 {o p q : Cop} {a b c d : ME} : evR F (.chn3 o p q a b c d) ρ = evE F false (.chn3 o p q a b c d) ρ := rfl
@[simp] theorem eR_idx {a e : ME} : evR F (.idx a e) ρ = evE F false (.idx a e) ρ := rfl
@[simp] theorem eR_tupN {es : List ME} : evR F (.tupN es) ρ = evE F false (.tupN es) ρ := rfl
@[simp] theorem eR_tplN {a : ME} : evR F (.tplN a) ρ = evE F false (.tplN a) ρ := rfl
@[simp] theorem eR_lrg {es : List ME} : evR F (.lrg es) ρ = evE F false (.lrg es) ρ := rfl
@[simp] theorem eI_idx {a e : ME} : evI F (.idx a e) ρ = (evE F false (.idx a e) ρ).bind seqI := rfl
@[simp] theorem eI_lrg {es : List ME} : evI F (.lrg es) ρ = (evE F false (.lrg es) ρ).bind seqI := rfl
/-- what a try with a clause of items makes of its body's end -/
def tryTR (F : Fns) (c : Str) (n m : Nat) (es : List HE) : Oc → Oc
  | .exc c' d ρ1 => match F.sub c' c with
      | some true => if calmS ρ1 n && calmS ρ1 m && decide (n ≠ m) then match heVs F c' d es with
        | some ds => if small ds.length then .nx ((ρ1.set n .un).set m (.val (.tup ds))) else .no
        | none => .no
        else .no
      | some false => .exc c' d ρ1
      | none => .no
  | o => o
@[simp] theorem trT_exc {c c' : Str} {n m : Nat} {es : List HE} {d : D} : tryTR F c n m es (.exc c' d ρ) = match F.sub c' c with
      | some true => if calmS ρ n && calmS ρ m && decide (n ≠ m) then match heVs F c' d es with
        | some ds => if small ds.length then .nx ((ρ.set n .un).set m (.val (.tup ds))) else .no
        | none => .no
        else .no
      | some false => .exc c' d ρ
      | none => .no := rfl
@[simp] theorem trT_nx {c : Str} {n m : Nat} {es : List HE} : tryTR F c n m es (.nx ρ) = .nx ρ := rfl
@[simp] theorem trT_rt {c : Str} {n m : Nat} {es : List HE} {x : VR} : tryTR F c n m es (.rt x ρ) = .rt x ρ := rfl
@[simp] theorem trT_no {c : Str} {n m : Nat} {es : List HE} : tryTR F c n m es .no = .no := rfl
@[simp] theorem eS_tryT {b : List MS} {c : Str} {n m : Nat} {es : List HE} : evS F (.tryT b c n m es) ρ = tryTR F c n m es (evSs F b ρ) := by
  rw [evS]
  cases evSs F b ρ <;> rfl
@[simp] theorem hev_nil {c' : Str} {d : D} : heVs F c' d [] = some [] := rfl
@[simp] theorem hev_isx {c' c : Str} {d : D} {r : List HE} : heVs F c' d (.isx c :: r) = match F.sub c' c, heVs F c' d r with
    | some b, some ds => some (.bl b :: ds)
    | _, _ => none := rfl
@[simp] theorem hev_fld {c' : Str} {d : D} {r : List HE} : heVs F c' d (.fld :: r) = match heVs F c' d r with
    | some ds => some (d :: ds)
    | none => none := rfl
@[simp] theorem ix_tn {xs : List D} {i : Int} : ixop (.tn xs) (.int i) = atI xs i := rfl
@[simp] theorem sl_tn {xs : List D} {lo hi : Option Int} : slop (.tn xs) lo hi = if gcon (cutD xs lo hi) then some (.v (.tup (cutD xs lo hi))) else none := rfl
@[simp] theorem eE_dnew {t : Bool} : evE F u (.dnew t) ρ = .ok (.f (if t then .dT [] [] else .dK [] [])) ρ := by (rw [evE]) <;> rfl
@[simp] theorem eE_dget {i : Nat} {k e : ME} : evE F u (.dget i k e) ρ = if isOwnD ρ i then (evE F false k ρ).bind fun x ρ1 => (evE F false e ρ1).bind fun y ρ2 => dgetR i x y ρ2 else .no := by (rw [evE]) <;> rfl
@[simp] theorem eE_dix {i : Nat} {k : ME} : evE F u (.dix i k) ρ = if isDic ρ i then (evE F false k ρ).bind fun x ρ1 => dixR i x ρ1 else .no := by (rw [evE]) <;> rfl
@[simp] theorem eE_dhas {ng : Bool} {i : Nat} {k : ME} : evE F u (.dhas ng i k) ρ = (evE F false k ρ).bind fun x ρ1 => dhasR ng i x ρ1 := by (rw [evE]) <;> rfl
@[simp] theorem eE_dsrt {i : Nat} : evE F u (.dsrt i) ρ = dsrtR i ρ := by (rw [evE]) <;> rfl
@[simp] theorem eE_dmd {a b : ME} : evE F u (.dmd a b) ρ = (evE F true a ρ).bind fun x ρ1 => (evE F true b ρ1).bind fun y ρ2 => dmdR x y ρ2 := by (rw [evE]) <;> rfl
@[simp] theorem eR_dnew {t : Bool} : evR F (.dnew t) ρ = evE F false (.dnew t) ρ := rfl
@[simp] theorem eR_dget {i : Nat} {k e : ME} : evR F (.dget i k e) ρ = evE F false (.dget i k e) ρ := rfl
@[simp] theorem eR_dix {i : Nat} {k : ME} : evR F (.dix i k) ρ = evE F false (.dix i k) ρ := rfl
@[simp] theorem eR_dhas {ng : Bool} {i : Nat} {k : ME} : evR F (.dhas ng i k) ρ = evE F false (.dhas ng i k) ρ := rfl
@[simp] theorem eR_dsrt {i : Nat} : evR F (.dsrt i) ρ = evE F false (.dsrt i) ρ := rfl
@[simp] theorem eR_dmd {a b : ME} : evR F (.dmd a b) ρ = evE F false (.dmd a b) ρ := rfl
@[simp] theorem eI_dsrt {i : Nat} : evI F (.dsrt i) ρ = (evE F false (.dsrt i) ρ).bind seqI := rfl
@[simp] theorem eS_setd {i : Nat} {k e : ME} : evS F (.setd i k e) ρ = (evE F false e ρ).oc fun y ρ1 => if isOwnD ρ1 i then (evE F false k ρ1).oc fun z ρ2 => setdR i ρ2 y z else .no := by (rw [evS]) <;> rfl
@[simp] theorem eI_dky {i : Nat} : evI F (.dky i) ρ = dkyR F.mine i ρ := rfl
/-! operations on dicts, where the slot is known -/
@[simp] theorem isd_eq {i : Nat} : isDic ρ i = match ρ[i]? with
  | some (.own (.dK _ _)) => true
  | some (.own (.dT _ _)) => true
  | some (.val (.dK _ _)) => true
  | _ => false := rfl
@[simp] theorem dkyR_eq {i : Nat} {m : List Nat} : dkyR m i ρ = match ρ[i]? with
  | some (.own (.dK ks ds)) => if m.contains i then .no else .ok (ks.map keyD) (ρ.set i (.val (.dK ks ds)))
  | _ => .no := rfl
@[simp] theorem iod_own {i : Nat} : isOwnD ρ i = match ρ[i]? with
  | some (.own (.dK _ _)) => true
  | some (.own (.dT _ _)) => true
  | _ => false := rfl
@[simp] theorem dgetR_eq {i : Nat} {x y : VR} : dgetR i x y ρ = match ρ[i]?, x, y with
  | some (.own d), .v c, .v z => match dgetop d c with
    | some o => .ok (.v (o.getD z)) ρ
    | none => .no
  | _, _, _ => .no := rfl
@[simp] theorem dixR_eq {i : Nat} {x : VR} : dixR i x ρ = match ρ[i]?, x with
  | some (.own d), .v c => match dgetop d c with
    | some (some z) => .ok (.v z) ρ
    | _ => .no
  | some (.val d), .v c => match dgetop d c with
    | some (some z) => .ok (.v z) ρ
    | _ => .no
  | _, _ => .no := rfl
@[simp] theorem dhasR_eq {ng : Bool} {i : Nat} {x : VR} : dhasR ng i x ρ = match ρ[i]?, x with
  | some (.own d), .v c => match dgetop d c with
    | some o => .ok (.v (.bl (if ng then !o.isSome else o.isSome))) ρ
    | _ => .no
  | _, _ => .no := rfl
@[simp] theorem dsrtR_eq {i : Nat} : dsrtR i ρ = match ρ[i]? with
  | some (.own (.dK ks ds)) => if sortOk (dpairs ks ds) then .ok (.f (.lst false (sortD (dpairs ks ds)))) ρ else .no
  | _ => .no := rfl
@[simp] theorem dmdR_eq {x y : VR} : dmdR x y ρ = match derf ρ x, derf ρ y with
  | some (.int i), some (.int j) => if decide (0 < j ∧ j.natAbs.log2 < 9000) then .ok (.v (.tup [.int (i / j), .int (i % j)])) ρ else .no
  | _, _ => .no := rfl
@[simp] theorem setdR_eq {i : Nat} {y z : VR} : setdR i ρ y z = if y.keeps then match ρ[i]?, z, derf ρ y with
  | some (.own d), .v c, some v => match dputop d c v with
    | some d' => .nx (ρ.set i (.own d'))
    | none => .no
  | _, _, _ => .no
  else .no := rfl
theorem isOwnD_K {i : Nat} {ks : List Key} {ds : List D} (h : ρ[i]? = some (.own (.dK ks ds))) : isOwnD ρ i = true := by unfold isOwnD; rw [h]
theorem isOwnD_T {i : Nat} {ks : List (List Key)} {ds : List D} (h : ρ[i]? = some (.own (.dT ks ds))) : isOwnD ρ i = true := by unfold isOwnD; rw [h]
@[simp] theorem kO_int {j : Int} : keyOf (.int j) = some (.inl j) := rfl
@[simp] theorem kO_str {x : Str} : keyOf (.str x) = some (.inr x) := rfl
@[simp] theorem kO_nil : keysOf [] = some [] := rfl
@[simp] theorem kO_cons {d : D} {ds : List D} : keysOf (d :: ds) = match keyOf d, keysOf ds with
    | some k, some ks => some (k :: ks)
    | _, _ => none := rfl
@[simp] theorem tK_3 {a b c : Int} : tkeyOf (.tup [.int a, .int b, .int c]) = some [.inl a, .inl b, .inl c] := rfl
@[simp] theorem dg_K {ks : List Key} {ds : List D} {c : D} : dgetop (.dK ks ds) c = (keyOf c).map fun k => dlook k ks ds := rfl
@[simp] theorem dg_T {ks : List (List Key)} {ds : List D} {c : D} : dgetop (.dT ks ds) c = (tkeyOf c).map fun k => dlook k ks ds := rfl
@[simp] theorem dp_K {ks : List Key} {ds : List D} {c v : D} : dputop (.dK ks ds) c v = if decide (ks.length < sizeLine) then (keyOf c).map fun k => .dK (dkeys k ks) (dvals k v ks ds) else none := rfl
@[simp] theorem dp_T {ks : List (List Key)} {ds : List D} {c v : D} : dputop (.dT ks ds) c v = if decide (ks.length < sizeLine) then (tkeyOf c).map fun k => .dT (dkeys k ks) (dvals k v ks ds) else none := rfl
@[simp] theorem bl_lenN {xs : List D} : bltop .min1 [.tn xs] = match xs with
      | x :: r => if minOk (x :: r) then some (.v (minDD x r)) else none
      | [] => none := rfl
end
mutual
theorem deq_rfl : ∀ (n : Nat) (d : D), eqable n d = true → deq d d = true
  | _, .non, _ => by unfold deq; rfl
  | _, .bl b, _ => by unfold deq; simp
  | _, .int i, _ => by unfold deq; simp
  | _, .str x, _ => by unfold deq; simp
  | n + 1, .tup xs, h => by unfold deq; exact deqs_rfl n xs (by unfold eqable at h; exact h)
  | n + 1, .lst _ xs, h => by unfold deq; exact deqs_rfl n xs (by unfold eqable at h; exact h)
  | 0, .tup _, h => by unfold eqable at h; cases h
  | 0, .lst _ _, h => by unfold eqable at h; cases h
  | 0, .dK _ _, h => by unfold eqable at h; cases h
  | 0, .dT _ _, h => by unfold eqable at h; cases h
  | 0, .scr _, h => by unfold eqable at h; cases h
  | 0, .tn _, h => by unfold eqable at h; cases h
  | 0, .exn _ _, h => by unfold eqable at h; cases h
  | _ + 1, .dK _ _, h => by unfold eqable at h; cases h
  | _ + 1, .dT _ _, h => by unfold eqable at h; cases h
  | _ + 1, .scr _, h => by unfold eqable at h; cases h
  | _ + 1, .tn _, h => by unfold eqable at h; cases h
  | _ + 1, .exn _ _, h => by unfold eqable at h; cases h
theorem deqs_rfl : ∀ (n : Nat) (ds : List D), eqables n ds = true → deqs ds ds = true
  | _, [], _ => by unfold deqs; rfl
  | n, d :: ds, h => by
    unfold eqables at h
    obtain ⟨h1, h2⟩ := Bool.and_eq_true_iff.mp h
    unfold deqs
    rw [deq_rfl n d h1, deqs_rfl n ds h2]
    rfl
end
theorem ne_self {d : D} (h : eqable 40 d = true) : cop .ne d d = some false := by
  have e : eqOk d d = true := by unfold eqOk; rw [h]; simp
  have q := deq_rfl 40 d h
  cases d <;> simp [cop, e, q]
theorem eq_self {d : D} (h : eqable 40 d = true) : cop .eq d d = some true := by
  have e : eqOk d d = true := by unfold eqOk; rw [h]; simp
  have q := deq_rfl 40 d h
  cases d <;> simp [cop, e, q]
end Own

/-! part K04P -/
namespace K04
open PySem PySem.Spec L2 Own
def fnsL0 : List (Str × List Str) := [("jacobi", ["a", "n"]), ("_law_pool", ["script", "many"]), ("_law_take", ["pool", "limit"]), ("_law_far", ["pool", "limit"]), ("_law_is_prime", ["number"]), ("_law_prime_from", ["number"]), ("_law_drawn_factors", ["pool", "limit"]), ("_law_product", ["parts"]), ("_law_power", ["base", "exponent", "modulus"]), ("_law_symbol", ["a", "prime"]), ("_law_jacobi", ["a", "parts"]), ("_law_refused", ["a", "n"]), ("law", ["script"])]
def fnsL : List (Str × List Str) := fnsL0
def gi : Gi := { fns := fnsL, glbs := [], blts := ["abs", "bool", "int", "isinstance", "len", "range", "sorted"], mods := [], kws := [(0, 0, ["n", "a"], [1, 0])], excs := exsL.map (·.1) }
/-- jacobi -/
def N0 : List Str := ["a", "n", "found"]
def b0 : List MS := [.iff (.orv [(.cmp .lt (.var 1) (.int 1)), (.cmp .eq (.bin .mod (.var 1) (.int 2)) (.int 0))]) [.rai "InvalidNumber" (.var 1)] [], .par [2, 0] [(.int 1), (.bin .mod (.var 0) (.var 1))], .wh (.cmp .ne (.var 0) (.int 0)) [.wh (.cmp .eq (.bin .mod (.var 0) (.int 2)) (.int 0)) [.aug 0 .fdiv (.int 2), .iff (.cmp .inn (.bin .mod (.var 1) (.int 8)) (.tup [(.int 3), (.int 5)])) [.asg 2 (.neg (.var 2))] []], .par [0, 1] [(.var 1), (.var 0)], .iff (.andv [(.cmp .eq (.bin .mod (.var 0) (.int 4)) (.int 3)), (.cmp .eq (.bin .mod (.var 1) (.int 4)) (.int 3))]) [.asg 2 (.neg (.var 2))] [], .aug 0 .mod (.var 1)], .ret (.ife (.cmp .eq (.var 1) (.int 1)) (.var 2) (.int 0))]
/-- _law_pool -/
def N1 : List Str := ["script", "many", "pool", "seed", "cell", "k", "left"]
def b1 : List MS := [.asg 2 (.lst []), .asg 3 (.int 50551), .for (.nm 4) (.sl (.var 0) none (some (.int 63))) [.asg 6 (.blt .abs [(.blt .int [(.var 4)])]), .asg 3 (.bin .mod (.bin .add (.bin .add (.bin .add (.bin .mul (.var 3) (.int 48271)) (.bin .mod (.blt .int [(.var 6)]) (.int 2147483629))) (.bin .mul (.int 7) (.blt .len [(.var 2)]))) (.blt .int [(.cmp .lt (.var 4) (.int 0))])) (.int 2147483647)), .iff (.cmp .ge (.var 6) (.bin .pow (.int 10) (.int 18))) [.for (.nm 5) (.rng [(.int 60)]) [.iff (.cmp .gt (.var 6) (.int 0)) [.exp (.app 2 (.bin .mod (.blt .int [(.var 6)]) (.int 1000))), .asg 6 (.bin .fdiv (.var 6) (.int 1000))] []]] []], .for (.nm 5) (.rng [(.var 1)]) [.asg 3 (.bin .mod (.bin .add (.bin .add (.bin .mul (.var 3) (.int 69621)) (.int 12347)) (.var 5)) (.int 2147483647)), .exp (.app 2 (.bin .mod (.bin .fdiv (.bin .mod (.blt .int [(.bin .mul (.var 3) (.bin .add (.bin .add (.var 3) (.bin .mul (.int 2) (.var 5))) (.int 1)))]) (.int 2147483629)) (.int 1009)) (.int 1000)))], .ret (.rev (.var 2))]
/-- _law_take -/
def N2 : List Str := ["pool", "limit"]
def b2 : List MS := [.iff (.cmp .eq (.var 0) (.lst [])) [.ret (.int 0)] [], .ret (.bin .mod (.blt .int [(.pop 0)]) (.var 1))]
/-- _law_far -/
def N3 : List Str := ["pool", "limit", "number", "k"]
def b3 : List MS := [.asg 2 (.int 0), .for (.nm 3) (.rng [(.int 4)]) [.asg 2 (.bin .add (.bin .mul (.var 2) (.int 1000)) (.call 2 [(.var 0), (.int 1000)]))], .ret (.bin .mod (.blt .int [(.var 2)]) (.var 1))]
/-- _law_is_prime -/
def N4 : List Str := ["number", "divisor"]
def b4 : List MS := [.iff (.cmp .lt (.var 0) (.int 2)) [.ret (.bl false)] [], .asg 1 (.int 2), .wh (.cmp .le (.bin .mul (.var 1) (.var 1)) (.var 0)) [.iff (.cmp .eq (.bin .mod (.blt .int [(.var 0)]) (.var 1)) (.int 0)) [.ret (.bl false)] [], .asg 1 (.bin .add (.var 1) (.int 1))], .ret (.bl true)]
/-- _law_prime_from -/
def N5 : List Str := ["number"]
def b5 : List MS := [.wh (.notv (.call 4 [(.var 0)])) [.asg 0 (.bin .add (.var 0) (.int 1))], .ret (.var 0)]
/-- _law_drawn_factors -/
def N6 : List Str := ["pool", "limit", "found", "product", "k", "kind", "number", "prime", "turn"]
def b6 : List MS := [.asg 2 (.dnew false), .asg 3 (.int 1), .for (.nm 4) (.rng [(.bin .add (.int 1) (.call 2 [(.var 0), (.int 7)]))]) [.asg 5 (.call 2 [(.var 0), (.int 4)]), .asg 6 (.ix (.lst [(.call 2 [(.var 0), (.int 6)]), (.call 2 [(.var 0), (.int 60)]), (.call 2 [(.var 0), (.int 1000)]), (.call 3 [(.var 0), (.int 900000)])]) (.var 5)), .asg 7 (.call 5 [(.var 6)]), .for (.nm 8) (.rng [(.ix (.lst [(.int 1), (.int 1), (.int 2), (.bin .add (.int 1) (.call 2 [(.var 0), (.int 6)]))]) (.call 2 [(.var 0), (.int 4)]))]) [.iff (.cmp .le (.bin .mul (.var 3) (.var 7)) (.var 1)) [.asg 3 (.bin .mul (.var 3) (.var 7)), .setd 2 (.var 7) (.bin .add (.dget 2 (.var 7) (.int 0)) (.int 1))] []]], .ret (.blt .sorted [(.lc (.tup [(.var 7), (.dix 2 (.var 7))]) (.nm 7) (.dky 2) [])])]
/-- _law_product -/
def N7 : List Str := ["parts", "number", "prime", "exponent", "turn"]
def b7 : List MS := [.asg 1 (.int 1), .for (.tp [(.nm 2), (.nm 3)]) (.var 0) [.for (.nm 4) (.rng [(.var 3)]) [.asg 1 (.bin .mul (.var 1) (.var 2))]], .ret (.var 1)]
/-- _law_power -/
def N8 : List Str := ["base", "exponent", "modulus", "found"]
def b8 : List MS := [.asg 3 (.int 1), .asg 0 (.bin .mod (.blt .int [(.var 0)]) (.var 2)), .wh (.cmp .gt (.var 1) (.int 0)) [.iff (.cmp .eq (.bin .mod (.blt .int [(.var 1)]) (.int 2)) (.int 1)) [.asg 3 (.bin .mod (.blt .int [(.bin .mul (.var 3) (.var 0))]) (.var 2))] [], .asg 0 (.bin .mod (.blt .int [(.bin .mul (.var 0) (.var 0))]) (.var 2)), .asg 1 (.bin .fdiv (.var 1) (.int 2))], .ret (.var 3)]
/-- _law_symbol -/
def N9 : List Str := ["a", "prime", "x"]
def b9 : List MS := [.iff (.cmp .eq (.bin .mod (.blt .int [(.var 0)]) (.var 1)) (.int 0)) [.ret (.int 0)] [], .iff (.cmp .lt (.var 1) (.int 60)) [.ret (.bin .sub (.bin .mul (.int 2) (.blt .int [(.cmp .inn (.bin .mod (.blt .int [(.var 0)]) (.var 1)) (.lc (.bin .mod (.blt .int [(.bin .mul (.var 2) (.var 2))]) (.var 1)) (.nm 2) (.rng [(.int 1), (.var 1)]) []))])) (.int 1))] [], .ret (.ix (.lst [(.neg (.int 1)), (.int 1)]) (.blt .int [(.cmp .eq (.call 8 [(.var 0), (.bin .fdiv (.bin .sub (.var 1) (.int 1)) (.int 2)), (.var 1)]) (.int 1))]))]
/-- _law_jacobi -/
def N10 : List Str := ["a", "parts", "found", "prime", "exponent", "turn"]
def b10 : List MS := [.asg 2 (.int 1), .for (.tp [(.nm 3), (.nm 4)]) (.var 1) [.for (.nm 5) (.rng [(.var 4)]) [.asg 2 (.bin .mul (.var 2) (.call 9 [(.var 0), (.var 3)]))]], .ret (.var 2)]
/-- _law_refused -/
def N11 : List Str := ["a", "n", "caught", "e"]
def b11 : List MS := [.asg 2 .non, .tryE [.exp (.call 0 [(.var 0), (.var 1)])] "FormError" 3 2, .ret (.andv [(.isx "InvalidNumber" (.var 2)), (.cmp .eq (.fld 2) (.var 1))])]
/-- law -/
def N12 : List Str := ["script", "pool", "k", "parts", "n", "numbers", "a", "b", "bad", "due", "told", "part"]
def b12 : List MS := [.asg 1 (.call 1 [(.var 0), (.int 200)]), .for (.nm 2) (.rng [(.int 4)]) [.asg 3 (.lc (.var 11) (.nm 11) (.call 6 [(.var 1), (.bin .pow (.int 10) (.int 12))]) [(.cmp .ne (.ix (.var 11) (.int 0)) (.int 2))]), .asg 4 (.call 7 [(.var 3)]), .asg 5 (.lst [(.int 0), (.int 1), (.neg (.int 1)), (.int 2), (.bin .sub (.call 2 [(.var 1), (.int 1000)]) (.int 500)), (.call 3 [(.var 1), (.bin .pow (.int 10) (.int 12))]), (.bin .sub (.int 0) (.call 3 [(.var 1), (.bin .pow (.int 10) (.int 12))]))]), .iff (.cmp .ne (.var 3) (.lst [])) [.exp (.app 5 (.bin .mul (.ix (.ix (.var 3) (.call 2 [(.var 1), (.blt .len [(.var 3)])])) (.int 0)) (.bin .add (.int 1) (.call 2 [(.var 1), (.int 9)]))))] [], .for (.nm 6) (.var 5) [.asg 9 (.call 10 [(.var 6), (.var 3)]), .asg 10 (.call 0 [(.var 6), (.var 4)]), .iff (.orv [(.notv (.isi .int (.var 10))), (.isi .bool (.var 10)), (.cmp .ne (.var 10) (.var 9))]) [.ret (.bl false)] [], .iff (.cmp .ne (.callK 0 [] [(.var 4), (.bin .add (.var 6) (.ix (.lst [(.var 4), (.bin .sub (.int 0) (.var 4))]) (.blt .int [(.cmp .gt (.var 6) (.int 0))])))] [1, 0]) (.var 9)) [.ret (.bl false)] []], .par [6, 7] [(.ix (.var 5) (.int 4)), (.bin .add (.int 1) (.call 2 [(.var 1), (.int 900)]))], .iff (.cmp .ne (.call 0 [(.bin .mul (.var 6) (.var 7)), (.var 4)]) (.bin .mul (.call 10 [(.var 6), (.var 3)]) (.call 10 [(.var 7), (.var 3)]))) [.ret (.bl false)] [], .asg 8 (.ix (.lst [(.int 0), (.bin .add (.var 4) (.int 1)), (.bin .sub (.int 0) (.var 4)), (.bin .mul (.int 2) (.call 3 [(.var 1), (.bin .pow (.int 10) (.int 9))])), (.neg (.int 1))]) (.call 2 [(.var 1), (.int 5)])), .iff (.notv (.call 11 [(.ix (.var 5) (.int 4)), (.var 8)])) [.ret (.bl false)] []], .ret (.bl true)]
def defsL : List Df := [⟨[false, false], 3, b0⟩, ⟨[false, false], 7, b1⟩, ⟨[true, false], 2, b2⟩, ⟨[true, false], 4, b3⟩, ⟨[false], 2, b4⟩, ⟨[false], 1, b5⟩, ⟨[true, false], 9, b6⟩, ⟨[false], 5, b7⟩, ⟨[false, false, false], 4, b8⟩, ⟨[false, false], 3, b9⟩, ⟨[false, false], 6, b10⟩, ⟨[false, false], 4, b11⟩, ⟨[false], 12, b12⟩]
def pg : Pg := ⟨defsL, [], exsL⟩
theorem chk0 : chkSs gi N0 (defScope st0) b0 (defBody st0) = true := by decide +kernel
theorem sc0 : FnScope N0 ["a", "n"] (defScope st0) := ⟨rfl, rfl, rfl, by decide +kernel, rfl, by decide +kernel, by decide +kernel⟩
theorem chk1 : chkSs gi N1 (defScope st1) b1 (defBody st1) = true := by decide +kernel
theorem sc1 : FnScope N1 ["script", "many"] (defScope st1) := ⟨rfl, rfl, rfl, by decide +kernel, rfl, by decide +kernel, by decide +kernel⟩
theorem chk2 : chkSs gi N2 (defScope st2) b2 (defBody st2) = true := by decide +kernel
theorem sc2 : FnScope N2 ["pool", "limit"] (defScope st2) := ⟨rfl, rfl, rfl, by decide +kernel, rfl, by decide +kernel, by decide +kernel⟩
theorem chk3 : chkSs gi N3 (defScope st3) b3 (defBody st3) = true := by decide +kernel
theorem sc3 : FnScope N3 ["pool", "limit"] (defScope st3) := ⟨rfl, rfl, rfl, by decide +kernel, rfl, by decide +kernel, by decide +kernel⟩
theorem chk4 : chkSs gi N4 (defScope st4) b4 (defBody st4) = true := by decide +kernel
theorem sc4 : FnScope N4 ["number"] (defScope st4) := ⟨rfl, rfl, rfl, by decide +kernel, rfl, by decide +kernel, by decide +kernel⟩
theorem chk5 : chkSs gi N5 (defScope st5) b5 (defBody st5) = true := by decide +kernel
theorem sc5 : FnScope N5 ["number"] (defScope st5) := ⟨rfl, rfl, rfl, by decide +kernel, rfl, by decide +kernel, by decide +kernel⟩
theorem chk6 : chkSs gi N6 (defScope st6) b6 (defBody st6) = true := by decide +kernel
theorem sc6 : FnScope N6 ["pool", "limit"] (defScope st6) := ⟨rfl, rfl, rfl, by decide +kernel, rfl, by decide +kernel, by decide +kernel⟩
theorem chk7 : chkSs gi N7 (defScope st7) b7 (defBody st7) = true := by decide +kernel
theorem sc7 : FnScope N7 ["parts"] (defScope st7) := ⟨rfl, rfl, rfl, by decide +kernel, rfl, by decide +kernel, by decide +kernel⟩
theorem chk8 : chkSs gi N8 (defScope st8) b8 (defBody st8) = true := by decide +kernel
theorem sc8 : FnScope N8 ["base", "exponent", "modulus"] (defScope st8) := ⟨rfl, rfl, rfl, by decide +kernel, rfl, by decide +kernel, by decide +kernel⟩
theorem chk9 : chkSs gi N9 (defScope st9) b9 (defBody st9) = true := by decide +kernel
theorem sc9 : FnScope N9 ["a", "prime"] (defScope st9) := ⟨rfl, rfl, rfl, by decide +kernel, rfl, by decide +kernel, by decide +kernel⟩
theorem chk10 : chkSs gi N10 (defScope st10) b10 (defBody st10) = true := by decide +kernel
theorem sc10 : FnScope N10 ["a", "parts"] (defScope st10) := ⟨rfl, rfl, rfl, by decide +kernel, rfl, by decide +kernel, by decide +kernel⟩
theorem chk11 : chkSs gi N11 (defScope st11) b11 (defBody st11) = true := by decide +kernel
theorem sc11 : FnScope N11 ["a", "n"] (defScope st11) := ⟨rfl, rfl, rfl, by decide +kernel, rfl, by decide +kernel, by decide +kernel⟩
theorem chk12 : chkSs gi N12 (defScope st12) b12 (defBody st12) = true := by decide +kernel
theorem sc12 : FnScope N12 ["script"] (defScope st12) := ⟨rfl, rfl, rfl, by decide +kernel, rfl, by decide +kernel, by decide +kernel⟩
section
variable {K : PySem.W.Frag} {mg : Str → Option Value} {h : Heap}
theorem dt0 (X : K.In h) (G : h.Ns mainGlobals mg) (c : He.SaysD fa fn K) : DefT K mg gi pg 0 "jacobi" ["a", "n"] := by
  obtain ⟨fd, FD⟩ := c.def_ 0 (d := defD "jacobi" st0) rfl
  refine ⟨_, fd, _, _, _, _, _, _, _, N0, _, He.glo_ok X G (c.fact 0 (f := .glo "jacobi") rfl), rfl, FD, sc0, rfl, rfl, chk0, ?_, ?_⟩
  · exact FD.bindsN fun _ _ _ _ _ _ us hl => match us, hl with | [_, _], _ => rfl
  · intro n ks inv hm s us ws X hl hw
    simp [gi] at hm
    obtain ⟨rfl, rfl, rfl⟩ := hm
    obtain ⟨oc, od, dV, kV, doc, pm, an, cdv, ct, osl, rfl, lk, hcd, hD, hK⟩ := FD.ex
    rcases hD with ⟨_, rfl⟩ | ⟨e, _⟩
    · match us, ws, hl, hw with
      | [], [w0, w1], _, _ => exact .of_eq rfl
    · exact absurd rfl e
theorem dt1 (X : K.In h) (G : h.Ns mainGlobals mg) (c : He.SaysD fa fn K) : DefT K mg gi pg 1 "_law_pool" ["script", "many"] := by
  obtain ⟨fd, FD⟩ := c.def_ 1 (d := defD "_law_pool" st1) rfl
  refine ⟨_, fd, _, _, _, _, _, _, _, N1, _, He.glo_ok X G (c.fact 1 (f := .glo "_law_pool") rfl), rfl, FD, sc1, rfl, rfl, chk1, ?_, ?_⟩
  · exact FD.bindsN fun _ _ _ _ _ _ us hl => match us, hl with | [_, _], _ => rfl
  · exact fun n ks inv hm => absurd hm (by simp [gi])
theorem dt2 (X : K.In h) (G : h.Ns mainGlobals mg) (c : He.SaysD fa fn K) : DefT K mg gi pg 2 "_law_take" ["pool", "limit"] := by
  obtain ⟨fd, FD⟩ := c.def_ 2 (d := defD "_law_take" st2) rfl
  refine ⟨_, fd, _, _, _, _, _, _, _, N2, _, He.glo_ok X G (c.fact 2 (f := .glo "_law_take") rfl), rfl, FD, sc2, rfl, rfl, chk2, ?_, ?_⟩
  · exact FD.bindsN fun _ _ _ _ _ _ us hl => match us, hl with | [_, _], _ => rfl
  · exact fun n ks inv hm => absurd hm (by simp [gi])
theorem dt3 (X : K.In h) (G : h.Ns mainGlobals mg) (c : He.SaysD fa fn K) : DefT K mg gi pg 3 "_law_far" ["pool", "limit"] := by
  obtain ⟨fd, FD⟩ := c.def_ 3 (d := defD "_law_far" st3) rfl
  refine ⟨_, fd, _, _, _, _, _, _, _, N3, _, He.glo_ok X G (c.fact 3 (f := .glo "_law_far") rfl), rfl, FD, sc3, rfl, rfl, chk3, ?_, ?_⟩
  · exact FD.bindsN fun _ _ _ _ _ _ us hl => match us, hl with | [_, _], _ => rfl
  · exact fun n ks inv hm => absurd hm (by simp [gi])
theorem dt4 (X : K.In h) (G : h.Ns mainGlobals mg) (c : He.SaysD fa fn K) : DefT K mg gi pg 4 "_law_is_prime" ["number"] := by
  obtain ⟨fd, FD⟩ := c.def_ 4 (d := defD "_law_is_prime" st4) rfl
  refine ⟨_, fd, _, _, _, _, _, _, _, N4, _, He.glo_ok X G (c.fact 4 (f := .glo "_law_is_prime") rfl), rfl, FD, sc4, rfl, rfl, chk4, ?_, ?_⟩
  · exact FD.bindsN fun _ _ _ _ _ _ us hl => match us, hl with | [_], _ => rfl
  · exact fun n ks inv hm => absurd hm (by simp [gi])
theorem dt5 (X : K.In h) (G : h.Ns mainGlobals mg) (c : He.SaysD fa fn K) : DefT K mg gi pg 5 "_law_prime_from" ["number"] := by
  obtain ⟨fd, FD⟩ := c.def_ 5 (d := defD "_law_prime_from" st5) rfl
  refine ⟨_, fd, _, _, _, _, _, _, _, N5, _, He.glo_ok X G (c.fact 5 (f := .glo "_law_prime_from") rfl), rfl, FD, sc5, rfl, rfl, chk5, ?_, ?_⟩
  · exact FD.bindsN fun _ _ _ _ _ _ us hl => match us, hl with | [_], _ => rfl
  · exact fun n ks inv hm => absurd hm (by simp [gi])
theorem dt6 (X : K.In h) (G : h.Ns mainGlobals mg) (c : He.SaysD fa fn K) : DefT K mg gi pg 6 "_law_drawn_factors" ["pool", "limit"] := by
  obtain ⟨fd, FD⟩ := c.def_ 6 (d := defD "_law_drawn_factors" st6) rfl
  refine ⟨_, fd, _, _, _, _, _, _, _, N6, _, He.glo_ok X G (c.fact 6 (f := .glo "_law_drawn_factors") rfl), rfl, FD, sc6, rfl, rfl, chk6, ?_, ?_⟩
  · exact FD.bindsN fun _ _ _ _ _ _ us hl => match us, hl with | [_, _], _ => rfl
  · exact fun n ks inv hm => absurd hm (by simp [gi])
theorem dt7 (X : K.In h) (G : h.Ns mainGlobals mg) (c : He.SaysD fa fn K) : DefT K mg gi pg 7 "_law_product" ["parts"] := by
  obtain ⟨fd, FD⟩ := c.def_ 7 (d := defD "_law_product" st7) rfl
  refine ⟨_, fd, _, _, _, _, _, _, _, N7, _, He.glo_ok X G (c.fact 7 (f := .glo "_law_product") rfl), rfl, FD, sc7, rfl, rfl, chk7, ?_, ?_⟩
  · exact FD.bindsN fun _ _ _ _ _ _ us hl => match us, hl with | [_], _ => rfl
  · exact fun n ks inv hm => absurd hm (by simp [gi])
theorem dt8 (X : K.In h) (G : h.Ns mainGlobals mg) (c : He.SaysD fa fn K) : DefT K mg gi pg 8 "_law_power" ["base", "exponent", "modulus"] := by
  obtain ⟨fd, FD⟩ := c.def_ 8 (d := defD "_law_power" st8) rfl
  refine ⟨_, fd, _, _, _, _, _, _, _, N8, _, He.glo_ok X G (c.fact 8 (f := .glo "_law_power") rfl), rfl, FD, sc8, rfl, rfl, chk8, ?_, ?_⟩
  · exact FD.bindsN fun _ _ _ _ _ _ us hl => match us, hl with | [_, _, _], _ => rfl
  · exact fun n ks inv hm => absurd hm (by simp [gi])
theorem dt9 (X : K.In h) (G : h.Ns mainGlobals mg) (c : He.SaysD fa fn K) : DefT K mg gi pg 9 "_law_symbol" ["a", "prime"] := by
  obtain ⟨fd, FD⟩ := c.def_ 9 (d := defD "_law_symbol" st9) rfl
  refine ⟨_, fd, _, _, _, _, _, _, _, N9, _, He.glo_ok X G (c.fact 9 (f := .glo "_law_symbol") rfl), rfl, FD, sc9, rfl, rfl, chk9, ?_, ?_⟩
  · exact FD.bindsN fun _ _ _ _ _ _ us hl => match us, hl with | [_, _], _ => rfl
  · exact fun n ks inv hm => absurd hm (by simp [gi])
theorem dt10 (X : K.In h) (G : h.Ns mainGlobals mg) (c : He.SaysD fa fn K) : DefT K mg gi pg 10 "_law_jacobi" ["a", "parts"] := by
  obtain ⟨fd, FD⟩ := c.def_ 10 (d := defD "_law_jacobi" st10) rfl
  refine ⟨_, fd, _, _, _, _, _, _, _, N10, _, He.glo_ok X G (c.fact 10 (f := .glo "_law_jacobi") rfl), rfl, FD, sc10, rfl, rfl, chk10, ?_, ?_⟩
  · exact FD.bindsN fun _ _ _ _ _ _ us hl => match us, hl with | [_, _], _ => rfl
  · exact fun n ks inv hm => absurd hm (by simp [gi])
theorem dt11 (X : K.In h) (G : h.Ns mainGlobals mg) (c : He.SaysD fa fn K) : DefT K mg gi pg 11 "_law_refused" ["a", "n"] := by
  obtain ⟨fd, FD⟩ := c.def_ 11 (d := defD "_law_refused" st11) rfl
  refine ⟨_, fd, _, _, _, _, _, _, _, N11, _, He.glo_ok X G (c.fact 11 (f := .glo "_law_refused") rfl), rfl, FD, sc11, rfl, rfl, chk11, ?_, ?_⟩
  · exact FD.bindsN fun _ _ _ _ _ _ us hl => match us, hl with | [_, _], _ => rfl
  · exact fun n ks inv hm => absurd hm (by simp [gi])
theorem dt12 (X : K.In h) (G : h.Ns mainGlobals mg) (c : He.SaysD fa fn K) : DefT K mg gi pg 12 "law" ["script"] := by
  obtain ⟨fd, FD⟩ := c.def_ 12 (d := defD "law" st12) rfl
  refine ⟨_, fd, _, _, _, _, _, _, _, N12, _, He.glo_ok X G (c.fact 12 (f := .glo "law") rfl), rfl, FD, sc12, rfl, rfl, chk12, ?_, ?_⟩
  · exact FD.bindsN fun _ _ _ _ _ _ us hl => match us, hl with | [_], _ => rfl
  · exact fun n ks inv hm => absurd hm (by simp [gi])
theorem exX_iff {ms : List (PySem.Str × String)} {gs : List (PySem.Str × D)} {fl own : PySem.Str} {exs : List (PySem.Str × List PySem.Str)} {K : PySem.W.Frag} : exX ms gs fl own exs K = true ↔ exO ms gs K = true ∧ excsB K fl own exs = true := by
  unfold exX
  rw [Bool.and_eq_true]
theorem text (X : K.In h) (G : h.Ns mainGlobals mg) (c : He.SaysD fa fn K) (e : ex K = true) : TextT prog K mg gi pg where
  ex := excs_ok X G (fl := fl) (beq_self_eq_true _) (by decide +kernel) (fun c hc => let ⟨q, h1, h2⟩ := List.mem_map.mp hc; ⟨q.2, h2 ▸ h1⟩) (exX_iff.mp e).2
  blt := frees_ok X G c (by decide +kernel)
  mods := mods_ok X G (exX_iff.mp e).1
  glb := fun k x hk => by
    have hz : ∃ d, (x, d) ∈ gi.glbs.zip pg.glb ∧ pg.glb.getD k .non = d := by
      exact absurd hk (by simp [gi])
    obtain ⟨d, h1, h2⟩ := hz
    rw [h2]
    exact glbs_ok X G (exX_iff.mp e).1 x d h1
  fns := fun f x ps hf => by
    match f, hf with
    | 0, hf => cases hf; exact dt0 X G c
    | 1, hf => cases hf; exact dt1 X G c
    | 2, hf => cases hf; exact dt2 X G c
    | 3, hf => cases hf; exact dt3 X G c
    | 4, hf => cases hf; exact dt4 X G c
    | 5, hf => cases hf; exact dt5 X G c
    | 6, hf => cases hf; exact dt6 X G c
    | 7, hf => cases hf; exact dt7 X G c
    | 8, hf => cases hf; exact dt8 X G c
    | 9, hf => cases hf; exact dt9 X G c
    | 10, hf => cases hf; exact dt10 X G c
    | 11, hf => cases hf; exact dt11 X G c
    | 12, hf => cases hf; exact dt12 X G c
    | n + 13, hf => exact absurd hf (by simp [gi, fnsL, fnsL0])
end
end K04
section
open PySem PySem.W PySem.Calls PyProof.Rows
theorem K04_of (hrun : ∀ ns : List Int, ns.length ≤ 63 → (∀ z ∈ ns, PySem.Builtin.Int.intBits z ≤ 1048576) → ∃ es, K04.pg.run 20 12 [.scr (ns.map Own.D.int)] = .ok (.v (.bl true)) es) : PySem.Challenge.rw_formsatone_k04_jacobi_symbols.Holds := by
  w_on; o_law
  refine HandSHeadRun.head_any (r := OpenLaw.row PySem.Challenge.rw_formsatone_k04_jacobi_symbols) (q := view (OpenLaw.row PySem.Challenge.rw_formsatone_k04_jacobi_symbols).prog [17]) (H := K04.hk) (ob := K04.ob) (M := 3000) (loose := K04.loose) (d := HandSHeadRun.topDef (OpenLaw.row PySem.Challenge.rw_formsatone_k04_jacobi_symbols).prog 17) (kwd := []) Own.obO_eq (by kernel_rfl) (fun s => by kernel_rfl)
    K04.run (by kernel_rfl) (by kernel_rfl) (by kernel_rfl) (by rfl) (by first | assumption | decide +kernel) (by decide +kernel) ⟨rfl, rfl, rfl, rfl, rfl, by decide +kernel⟩ ?hw ?hc
  case hw => w_witness2
  case hc =>
    refine Own.walk_own (l := PySem.Challenge.rw_formsatone_k04_jacobi_symbols) (n := 63) (k := 20) (f := 12) (x := "script") (g := K04.gi) (p := K04.pg) rfl (by decide) (by kernel_rfl) ⟨rfl, by decide, by decide⟩ (fun w mg h Y G => ?_) (by rfl) rfl hrun
    obtain ⟨K, KX, c, e⟩ := Y
    exact ⟨K, KX, K04.text KX G c e⟩
end

/-! part NT1 -/
namespace NT
/-! ### primes -/
def Pri (p : Nat) : Prop := 2 ≤ p ∧ ∀ d, d ∣ p → d = 1 ∨ d = p
theorem Pri.pos {p : Nat} (h : Pri p) : 0 < p := by have := h.1; omega
theorem Pri.cop {p a : Nat} (h : Pri p) (n : ¬ p ∣ a) : Nat.Coprime p a := by
  rcases h.2 (Nat.gcd p a) (Nat.gcd_dvd_left p a) with e | e
  · exact e
  · exact absurd (e ▸ Nat.gcd_dvd_right p a) n
theorem Pri.dvd_mul {p a b : Nat} (h : Pri p) (d : p ∣ a * b) : p ∣ a ∨ p ∣ b := by
  by_cases ha : p ∣ a
  · exact .inl ha
  · exact .inr ((h.cop ha).dvd_of_dvd_mul_left d)
theorem Pri.dvd_muli {p : Nat} {a b : Int} (h : Pri p) (d : (p : Int) ∣ a * b) : (p : Int) ∣ a ∨ (p : Int) ∣ b := by
  rw [Int.ofNat_dvd_left, Int.natAbs_mul] at d
  rw [Int.ofNat_dvd_left, Int.ofNat_dvd_left]
  exact h.dvd_mul d
/-! ### products of lists -/
def prd : List Nat → Nat
  | [] => 1
  | p :: ps => p * prd ps
theorem prd_perm {l m : List Nat} (h : l.Perm m) : prd l = prd m := by
  induction h with
  | nil => rfl
  | cons x _ ih => unfold prd; rw [ih]
  | swap x y l => unfold prd; unfold prd; rw [Nat.mul_left_comm]
  | trans _ _ h1 h2 => rw [h1, h2]
theorem perm_of : ∀ {l m : List Nat}, l.Nodup → (∀ x ∈ l, x ∈ m) → m.length ≤ l.length → l.Perm m
  | [], m, _, _, hl => by
    cases m with
    | nil => exact .nil
    | cons x m => simp at hl
  | x :: l, m, hn, hs, hl => by
    rw [List.nodup_cons] at hn
    have hx := hs x List.mem_cons_self
    have p := perm_of (l := l) (m := m.erase x) hn.2 (fun y hy => (List.mem_erase_of_ne (fun e => hn.1 (by rw [← e]; exact hy))).mpr (hs y (List.mem_cons_of_mem _ hy))) (by
      rw [List.length_erase_of_mem hx]
      rw [List.length_cons] at hl
      omega)
    exact (p.cons x).trans (List.perm_cons_erase hx).symm
def rg (n : Nat) : List Nat := (List.range n).map (· + 1)
theorem mem_rg {n x : Nat} : x ∈ rg n ↔ 1 ≤ x ∧ x ≤ n := by
  unfold rg
  rw [List.mem_map]
  constructor
  · rintro ⟨y, hy, rfl⟩
    rw [List.mem_range] at hy
    omega
  · rintro ⟨h1, h2⟩
    exact ⟨x - 1, List.mem_range.mpr (by omega), by omega⟩
theorem rg_len {n : Nat} : (rg n).length = n := by simp [rg]
theorem rg_nd {n : Nat} : (rg n).Nodup := by
  unfold rg
  rw [List.nodup_iff_pairwise_ne, List.pairwise_map]
  exact List.nodup_range.imp fun h e => h (by omega)
/-! ### congruence -/
def Cg (p x y : Int) : Prop := p ∣ x - y
section
variable {p x y z u v : Int}
theorem Cg.refl : Cg p x x := ⟨0, by omega⟩
theorem Cg.of (e : x = y) : Cg p x y := e ▸ .refl
theorem Cg.symm (h : Cg p x y) : Cg p y x := by
  obtain ⟨c, e⟩ := h
  exact ⟨-c, by rw [Int.mul_neg, ← e]; omega⟩
theorem Cg.trans (h : Cg p x y) (g : Cg p y z) : Cg p x z := by
  obtain ⟨c, e⟩ := h
  obtain ⟨d, f⟩ := g
  exact ⟨c + d, by rw [Int.mul_add, ← e, ← f]; omega⟩
theorem Cg.mul (h : Cg p x y) (g : Cg p u v) : Cg p (x * u) (y * v) := by
  obtain ⟨c, e⟩ := h
  obtain ⟨d, f⟩ := g
  refine ⟨c * u + y * d, ?_⟩
  have e1 : x = y + p * c := by omega
  have e2 : u = v + p * d := by omega
  rw [e1, e2]
  grind
theorem Cg.neg (h : Cg p x y) : Cg p (-x) (-y) := by
  obtain ⟨c, e⟩ := h
  exact ⟨-c, by rw [Int.mul_neg, ← e]; omega⟩
theorem Cg.pow (h : Cg p x y) : ∀ n : Nat, Cg p (x ^ n) (y ^ n)
  | 0 => .of (by rw [Int.pow_zero, Int.pow_zero])
  | n + 1 => by rw [Int.pow_succ, Int.pow_succ]; exact (Cg.pow h n).mul h
theorem Cg.mod {n : Int} : Cg n (x % n) x := ⟨-(x / n), by have := Int.emod_add_mul_ediv x n; rw [Int.mul_neg]; omega⟩
theorem Cg.dvd (h : Cg p x y) : p ∣ x ↔ p ∣ y := by
  obtain ⟨c, e⟩ := h
  constructor
  · rintro ⟨d, f⟩; exact ⟨d - c, by rw [Int.mul_sub, ← e, ← f]; omega⟩
  · rintro ⟨d, f⟩; exact ⟨c + d, by rw [Int.mul_add, ← e, ← f]; omega⟩
theorem Cg.mod_eq {n : Int} (h : Cg n x y) : x % n = y % n := Int.emod_eq_emod_iff_emod_sub_eq_zero.mpr (Int.emod_eq_zero_of_dvd h)
end
/-- small ones that are congruent are equal -/
theorem Cg.small {p : Nat} {x y : Int} (hp : 3 ≤ p) (h : Cg p x y) (hx : x = -1 ∨ x = 0 ∨ x = 1) (hy : y = -1 ∨ y = 0 ∨ y = 1) : x = y := by
  have d : (x - y) = 0 ∨ (p : Int) ≤ (x - y).natAbs := by
    by_cases e : x - y = 0
    · exact .inl e
    · refine .inr ?_
      have := Nat.le_of_dvd (by omega) (Int.ofNat_dvd_left.mp h)
      omega
  rcases d with d | d
  · omega
  · omega
/-- a factor that the prime does not divide goes away -/
theorem Cg.cancel {p : Nat} {x y c : Int} (hp : Pri p) (hc : ¬ (p : Int) ∣ c) (h : Cg p (x * c) (y * c)) : Cg p x y := by
  have : (p : Int) ∣ (x - y) * c := by rw [Int.sub_mul]; exact h
  rcases hp.dvd_muli this with h | h
  · exact h
  · exact absurd h hc
/-! ### sums and products over 1 .. n -/
def sm (f : Nat → Nat) : Nat → Nat
  | 0 => 0
  | n + 1 => sm f n + f (n + 1)
def pd (f : Nat → Int) : Nat → Int
  | 0 => 1
  | n + 1 => pd f n * f (n + 1)
theorem sm_congr {f g : Nat → Nat} : ∀ {n : Nat}, (∀ k, 1 ≤ k → k ≤ n → f k = g k) → sm f n = sm g n
  | 0, _ => rfl
  | n + 1, h => by unfold sm; rw [sm_congr fun k a b => h k a (by omega), h (n + 1) (by omega) (by omega)]
theorem sm_add {f g : Nat → Nat} : ∀ {n : Nat}, sm (fun k => f k + g k) n = sm f n + sm g n
  | 0 => rfl
  | n + 1 => by unfold sm; rw [sm_add]; omega
theorem sm_zero : ∀ {n : Nat}, sm (fun _ => 0) n = 0
  | 0 => rfl
  | n + 1 => by unfold sm; rw [sm_zero]
theorem sm_swap {f : Nat → Nat → Nat} : ∀ {n m : Nat}, sm (fun k => sm (fun l => f k l) m) n = sm (fun l => sm (fun k => f k l) n) m
  | 0, m => by
    show 0 = sm (fun l => 0) m
    exact sm_zero.symm
  | n + 1, m => by
    have e : sm (fun l => sm (fun k => f k l) (n + 1)) m = sm (fun l => sm (fun k => f k l) n + f (n + 1) l) m := rfl
    rw [e, sm_add]
    show sm (fun k => sm (fun l => f k l) m) n + _ = _
    rw [sm_swap]
theorem sm_const {c : Nat} : ∀ {n : Nat}, sm (fun _ => c) n = n * c
  | 0 => by unfold sm; first | omega | exact (Nat.zero_min _).symm
  | n + 1 => by unfold sm; rw [sm_const, Nat.succ_mul]
theorem sm_list {f : Nat → Nat} : ∀ {n : Nat}, sm f n = ((rg n).map f).sum
  | 0 => rfl
  | n + 1 => by
    have e : rg (n + 1) = rg n ++ [n + 1] := by unfold rg; rw [List.range_succ, List.map_append]; rfl
    rw [e, List.map_append, List.sum_append]
    unfold sm
    rw [sm_list]
    simp
theorem pd_mul {f g : Nat → Int} : ∀ {n : Nat}, pd (fun k => f k * g k) n = pd f n * pd g n
  | 0 => rfl
  | n + 1 => by unfold pd; rw [pd_mul]; grind
theorem pd_const {c : Int} : ∀ {n : Nat}, pd (fun _ => c) n = c ^ n
  | 0 => by unfold pd; rw [Int.pow_zero]
  | n + 1 => by unfold pd; rw [pd_const, Int.pow_succ]
theorem pd_cg {p : Int} {f g : Nat → Int} : ∀ {n : Nat}, (∀ k, 1 ≤ k → k ≤ n → Cg p (f k) (g k)) → Cg p (pd f n) (pd g n)
  | 0, _ => .refl
  | n + 1, h => (pd_cg fun k a b => h k a (by omega)).mul (h (n + 1) (by omega) (by omega))
theorem pd_list {f : Nat → Nat} : ∀ {n : Nat}, pd (fun k => (f k : Int)) n = (prd ((rg n).map f) : Int)
  | 0 => rfl
  | n + 1 => by
    have e : rg (n + 1) = rg n ++ [n + 1] := by unfold rg; rw [List.range_succ, List.map_append]; rfl
    have pa : ∀ {l : List Nat} {x : Nat}, prd (l ++ [x]) = prd l * x := fun {l x} => by
      induction l with
      | nil => show x * 1 = 1 * x; omega
      | cons y l ih => show y * prd (l ++ [x]) = y * prd l * x; rw [ih, Nat.mul_assoc]
    rw [e, List.map_append]
    show pd _ n * _ = ((prd (_ ++ [f (n + 1)]) : Nat) : Int)
    rw [pa, Int.natCast_mul, pd_list]
/-! ### the lemma of Gauss -/
section
variable {p h a : Nat}
/-- what is left of a k -/
def rs (p a k : Nat) : Nat := a * k % p
def rr (p h a k : Nat) : Nat := if h < rs p a k then p - rs p a k else rs p a k
def ov (p h a k : Nat) : Nat := if h < rs p a k then 1 else 0
theorem rs_pos (hp : Pri p) (ha : ¬ p ∣ a) {k : Nat} (k1 : 1 ≤ k) (k2 : k < p) : 0 < rs p a k ∧ rs p a k < p := by
  refine ⟨Nat.pos_of_ne_zero fun e => ?_, Nat.mod_lt _ hp.pos⟩
  rcases hp.dvd_mul (Nat.dvd_of_mod_eq_zero e) with d | d
  · exact ha d
  · have := Nat.le_of_dvd (by omega) d
    omega
theorem rr_cg (hp : Pri p) {k : Nat} : Cg p ((a : Int) * k) ((-1) ^ ov p h a k * (rr p h a k : Int)) := by
  have e : (a : Int) * k = (rs p a k : Int) + p * ((a * k / p : Nat) : Int) := by
    have := Nat.mod_add_div (a * k) p
    unfold rs
    omega
  have l : rs p a k < p := Nat.mod_lt _ hp.pos
  unfold ov rr
  rw [e]
  split
  · refine ⟨1 + ((a * k / p : Nat) : Int), ?_⟩
    rw [Int.pow_one, Int.mul_add, Int.natCast_sub (by omega)]
    omega
  · refine ⟨((a * k / p : Nat) : Int), ?_⟩
    rw [Int.pow_zero]
    omega
theorem rr_in (hp : Pri p) (h2 : p = 2 * h + 1) (ha : ¬ p ∣ a) {k : Nat} (k1 : 1 ≤ k) (k2 : k ≤ h) : 1 ≤ rr p h a k ∧ rr p h a k ≤ h := by
  have := rs_pos hp ha k1 (by omega)
  unfold rr
  split <;> omega
theorem rr_inj (hp : Pri p) (h2 : p = 2 * h + 1) (ha : ¬ p ∣ a) {j k : Nat} (j1 : 1 ≤ j) (j2 : j ≤ h) (k1 : 1 ≤ k) (k2 : k ≤ h) (e : rr p h a j = rr p h a k) : j = k := by
  have cj := rr_cg (p := p) (h := h) (a := a) hp (k := j)
  have ck := rr_cg (p := p) (h := h) (a := a) hp (k := k)
  rw [e] at cj
  have hs : ∀ n : Nat, n = 0 ∨ n = 1 → ((-1 : Int) ^ n = 1 ∨ (-1 : Int) ^ n = -1) := fun n hn => by rcases hn with rfl | rfl <;> simp
  have o : ∀ k, ov p h a k = 0 ∨ ov p h a k = 1 := fun k => by unfold ov; split <;> omega
  have hh : Cg p ((a : Int) * j) ((a : Int) * k) ∨ Cg p ((a : Int) * j) (-((a : Int) * k)) := by
    rcases hs _ (o j) with e1 | e1 <;> rcases hs _ (o k) with e2 | e2 <;> rw [e1] at cj <;> rw [e2] at ck
    · exact .inl (cj.trans ck.symm)
    · exact .inr (cj.trans (by have := ck.symm.neg; rw [Int.neg_mul, Int.neg_neg] at this; rw [Int.one_mul] at *; exact this))
    · exact .inr (cj.trans (by have := ck.symm.neg; rw [Int.neg_mul]; exact this))
    · exact .inl (cj.trans ck.symm)
  have ha' : ¬ (p : Int) ∣ (a : Int) := fun d => ha (Int.natCast_dvd_natCast.mp d)
  rcases hh with c | c
  · have : (p : Int) ∣ (a : Int) * ((j : Int) - k) := by rw [Int.mul_sub]; exact c
    rcases hp.dvd_muli this with d | d
    · exact absurd d ha'
    · by_cases z : (j : Int) - k = 0
      · omega
      · have := Nat.le_of_dvd (by omega) (Int.ofNat_dvd_left.mp d)
        omega
  · have : (p : Int) ∣ (a : Int) * ((j : Int) + k) := by
      rw [Int.mul_add]
      have c' : (p : Int) ∣ (a : Int) * j - -((a : Int) * k) := c
      rwa [Int.sub_neg] at c'
    rcases hp.dvd_muli this with d | d
    · exact absurd d ha'
    · have := Nat.le_of_dvd (by omega) (Int.ofNat_dvd_left.mp d)
      omega
theorem rr_perm (hp : Pri p) (h2 : p = 2 * h + 1) (ha : ¬ p ∣ a) : ((rg h).map (rr p h a)).Perm (rg h) := by
  refine perm_of ?_ (fun x hx => ?_) (by rw [List.length_map]; omega)
  · rw [List.nodup_iff_pairwise_ne, List.pairwise_map]
    refine List.Pairwise.imp_of_mem (fun {x y} hx hy hne e => hne ?_) rg_nd
    rw [mem_rg] at hx hy
    exact rr_inj hp h2 ha hx.1 hx.2 hy.1 hy.2 e
  · obtain ⟨k, hk, rfl⟩ := List.mem_map.mp hx
    rw [mem_rg] at hk ⊢
    exact rr_in hp h2 ha hk.1 hk.2
def mu (p h a : Nat) : Nat := sm (ov p h a) h
theorem pd_sign {f : Nat → Nat} : ∀ {n : Nat}, pd (fun k => (-1 : Int) ^ f k) n = (-1) ^ sm f n
  | 0 => rfl
  | n + 1 => by unfold pd sm; rw [pd_sign, Int.pow_add]
theorem fact_nd (hp : Pri p) : ∀ {n : Nat}, n < p → ¬ (p : Int) ∣ pd (fun k => ((k : Nat) : Int)) n
  | 0, _, d => by
    have := Nat.le_of_dvd (by decide) (Int.ofNat_dvd_left.mp (show (p : Int) ∣ 1 from d))
    have := hp.1
    omega
  | n + 1, hn, d => by
    rcases hp.dvd_muli (show (p : Int) ∣ pd _ n * ((n + 1 : Nat) : Int) from d) with d | d
    · exact fact_nd hp (by omega) d
    · have := Nat.le_of_dvd (by omega) (Int.natCast_dvd_natCast.mp d)
      omega
/-- the lemma of Gauss -/
theorem gauss (hp : Pri p) (h2 : p = 2 * h + 1) (ha : ¬ p ∣ a) : Cg p ((a : Int) ^ h) ((-1) ^ mu p h a) := by
  have c := pd_cg (p := (p : Int)) (n := h) (f := fun k => (a : Int) * k) (g := fun k => (-1) ^ ov p h a k * (rr p h a k : Int)) fun k _ _ => rr_cg hp
  rw [pd_mul (f := fun _ => (a : Int)) (g := fun k => (k : Int)), pd_const, pd_mul (f := fun k => (-1 : Int) ^ ov p h a k) (g := fun k => ((rr p h a k : Nat) : Int)), pd_sign, pd_list (f := rr p h a), prd_perm (rr_perm hp h2 ha)] at c
  have e : pd (fun k => ((k : Nat) : Int)) h = (prd (rg h) : Int) := by
    have := pd_list (f := fun k => k) (n := h)
    rwa [List.map_id'] at this
  rw [← e] at c
  exact Cg.cancel hp (fact_nd hp (by omega)) c
/-! ### the lemma of Eisenstein -/
theorem perm_sum {l m : List Nat} (h : l.Perm m) : l.sum = m.sum := by
  induction h with
  | nil => rfl
  | cons x _ ih => simp [ih]
  | swap x y l => simp; omega
  | trans _ _ h1 h2 => rw [h1, h2]
theorem sm_mod2 {f g : Nat → Nat} : ∀ {n : Nat}, (∀ k, 1 ≤ k → k ≤ n → f k % 2 = g k % 2) → sm f n % 2 = sm g n % 2
  | 0, _ => rfl
  | n + 1, h => by
    have := sm_mod2 (n := n) fun k a b => h k a (by omega)
    have := h (n + 1) (by omega) (by omega)
    unfold sm
    omega
theorem eisen (hp : Pri p) (h2 : p = 2 * h + 1) (ha : ¬ p ∣ a) (ho : a % 2 = 1) : mu p h a % 2 = sm (fun k => a * k / p) h % 2 := by
  have e1 : sm (fun k => k) h = sm (rr p h a) h := by
    rw [sm_list, sm_list, perm_sum (rr_perm hp h2 ha), List.map_id']
  have e2 : sm (fun k => k) h % 2 = sm (fun k => (a * k / p + ov p h a k) + rr p h a k) h % 2 := sm_mod2 fun k k1 k2 => by
    have d := Nat.mod_add_div (a * k) p
    have l := rs_pos hp ha k1 (show k < p by omega)
    unfold ov rr
    obtain ⟨q, hq⟩ : ∃ q, q = a * k / p := ⟨_, rfl⟩
    obtain ⟨r, hr⟩ : ∃ r, r = rs p a k := ⟨_, rfl⟩
    have hr' : a * k % p = r := hr.symm
    rw [← hq, hr'] at d
    rw [← hq, ← hr]
    rw [← hr] at l
    have m1 : (a * k) % 2 = k % 2 := by rw [Nat.mul_mod, ho, Nat.one_mul, Nat.mod_mod]
    have m2 : (p * q) % 2 = q % 2 := by rw [Nat.mul_mod, show p % 2 = 1 by omega, Nat.one_mul, Nat.mod_mod]
    split <;> omega
  rw [sm_add, sm_add, ← e1] at e2
  unfold mu
  omega
/-! ### points under a line -/
theorem cnt_le {p x : Nat} (hp : 0 < p) : ∀ {m : Nat}, sm (fun l => if l * p ≤ x then 1 else 0) m = min m (x / p)
  | 0 => by unfold sm; first | omega | exact (Nat.zero_min _).symm
  | m + 1 => by
    unfold sm
    rw [cnt_le hp]
    by_cases h : (m + 1) * p ≤ x
    · rw [if_pos h]
      have := (Nat.le_div_iff_mul_le hp).mpr h
      omega
    · rw [if_neg h]
      have : ¬ m + 1 ≤ x / p := fun q => h ((Nat.le_div_iff_mul_le hp).mp q)
      omega
theorem points {p q h m : Nat} (h2 : p = 2 * h + 1) (m2 : q = 2 * m + 1) (hc : Nat.Coprime p q) : sm (fun k => q * k / p) h + sm (fun l => p * l / q) m = h * m := by
  have e1 : sm (fun k => q * k / p) h = sm (fun k => sm (fun l => if l * p ≤ q * k then 1 else 0) m) h := sm_congr fun k k1 k2 => by
    rw [cnt_le (by omega)]
    have : q * k / p ≤ m := by
      have : q * k < p * (m + 1) := by
        rw [h2, m2]
        have a1 : (2 * m + 1) * k = 2 * (m * k) + k := by grind
        have a2 : (2 * h + 1) * (m + 1) = 2 * (h * m) + 2 * h + m + 1 := by grind
        have a3 : m * k ≤ h * m := by rw [Nat.mul_comm h m]; exact Nat.mul_le_mul_left m k2
        omega
      have := (Nat.div_lt_iff_lt_mul (show 0 < p by omega)).mpr (show q * k < (m + 1) * p by rw [Nat.mul_comm (m + 1)]; exact this)
      omega
    omega
  have e2 : sm (fun l => p * l / q) m = sm (fun l => sm (fun k => if k * q ≤ p * l then 1 else 0) h) m := sm_congr fun l l1 l2 => by
    rw [cnt_le (by omega)]
    have : p * l / q ≤ h := by
      have : p * l < q * (h + 1) := by
        rw [h2, m2]
        have a1 : (2 * h + 1) * l = 2 * (h * l) + l := by grind
        have a2 : (2 * m + 1) * (h + 1) = 2 * (m * h) + 2 * m + h + 1 := by grind
        have a3 : h * l ≤ m * h := by rw [Nat.mul_comm m h]; exact Nat.mul_le_mul_left h l2
        omega
      have := (Nat.div_lt_iff_lt_mul (show 0 < q by omega)).mpr (show p * l < (h + 1) * q by rw [Nat.mul_comm (h + 1)]; exact this)
      omega
    omega
  rw [e1, e2, sm_swap (f := fun l k => if k * q ≤ p * l then 1 else 0), ← sm_add]
  have e3 : sm (fun k => sm (fun l => if l * p ≤ q * k then 1 else 0) m + sm (fun l => if k * q ≤ p * l then 1 else 0) m) h = sm (fun _ => m) h := sm_congr fun k k1 k2 => by
    rw [← sm_add]
    have : sm (fun l => (if l * p ≤ q * k then 1 else 0) + (if k * q ≤ p * l then 1 else 0)) m = sm (fun _ => 1) m := sm_congr fun l l1 l2 => by
      have ne : l * p ≠ q * k := fun e => by
        have d : p ∣ q * k := ⟨l, by rw [← e, Nat.mul_comm]⟩
        have := Nat.le_of_dvd (by omega) (hc.dvd_of_dvd_mul_left d)
        omega
      have c1 : k * q = q * k := Nat.mul_comm _ _
      have c2 : p * l = l * p := Nat.mul_comm _ _
      rw [c1, c2]
      by_cases h : l * p ≤ q * k
      · rw [if_pos h, if_neg (by omega)]
      · rw [if_neg h, if_pos (by omega)]
    rw [this, sm_const]
    omega
  rw [e3, sm_const]
end
end NT

/-! part NT2 -/
namespace NT
/-! ### the symbol of Legendre -/
instance {p x y : Int} : Decidable (Cg p x y) := inferInstanceAs (Decidable (p ∣ x - y))
def leg (a : Int) (p : Nat) : Int := if (p : Int) ∣ a then 0 else if Cg p (a ^ ((p - 1) / 2)) 1 then 1 else -1
def Odp (p : Nat) : Prop := Pri p ∧ p % 2 = 1
theorem leg_val {a : Int} {p : Nat} : leg a p = -1 ∨ leg a p = 0 ∨ leg a p = 1 := by
  unfold leg
  split
  · exact .inr (.inl rfl)
  · split
    · exact .inr (.inr rfl)
    · exact .inl rfl
theorem small_mul {x y : Int} (hx : x = -1 ∨ x = 0 ∨ x = 1) (hy : y = -1 ∨ y = 0 ∨ y = 1) : x * y = -1 ∨ x * y = 0 ∨ x * y = 1 := by
  rcases hx with rfl | rfl | rfl <;> rcases hy with rfl | rfl | rfl <;> decide
theorem sgn_val {n : Nat} : (-1 : Int) ^ n = if n % 2 = 1 then -1 else 1 := by
  induction n with
  | zero => rfl
  | succ n ih =>
    rw [Int.pow_succ, ih]
    split <;> split <;> first | rfl | omega
theorem dvd_pow0 {p : Nat} {a : Int} (hp : Pri p) : ∀ {n : Nat}, (p : Int) ∣ a ^ n → (p : Int) ∣ a
  | 0, d => by
    have := Nat.le_of_dvd (by decide) (Int.ofNat_dvd_left.mp (show (p : Int) ∣ 1 by rwa [Int.pow_zero] at d))
    have := hp.1
    omega
  | n + 1, d => by
    rw [Int.pow_succ] at d
    rcases hp.dvd_muli d with d | d
    · exact dvd_pow0 hp d
    · exact d
section
variable {p q : Nat} {a b : Int}
theorem Odp.half (h : Odp p) : p = 2 * ((p - 1) / 2) + 1 := by have := h.1.1; have := h.2; omega
theorem Odp.three (h : Odp p) : 3 ≤ p := by have := h.1.1; have := h.2; omega
theorem rep (h : Odp p) (n : ¬ (p : Int) ∣ a) : ∃ b : Nat, Cg p a b ∧ ¬ p ∣ b := by
  have hp := h.1.pos
  refine ⟨(a % p).toNat, ?_, fun d => n ?_⟩
  · rw [Int.toNat_of_nonneg (Int.emod_nonneg _ (by omega))]
    exact Cg.mod.symm
  · have : (p : Int) ∣ a % p := by
      rw [← Int.toNat_of_nonneg (Int.emod_nonneg a (show (p : Int) ≠ 0 by omega))]
      exact Int.natCast_dvd_natCast.mpr d
    exact (Cg.dvd (Cg.mod (n := (p : Int)) (x := a))).mp this
theorem leg_cg (h : Odp p) : Cg p (leg a p) (a ^ ((p - 1) / 2)) := by
  have h2 := h.half
  have h3 := h.three
  obtain ⟨m, hm⟩ : ∃ m, m = (p - 1) / 2 := ⟨_, rfl⟩
  unfold leg
  rw [← hm] at h2 ⊢
  by_cases d : (p : Int) ∣ a
  · rw [if_pos d]
    refine Cg.symm ?_
    have : (p : Int) ∣ a ^ m := by
      obtain ⟨n, rfl⟩ : ∃ n, m = n + 1 := ⟨m - 1, by omega⟩
      rw [Int.pow_succ]
      exact Int.dvd_mul_of_dvd_right d
    show (p : Int) ∣ _ - 0
    rwa [Int.sub_zero]
  · rw [if_neg d]
    split
    · rename_i c
      exact c.symm
    · rename_i c
      obtain ⟨b, c1, nb⟩ := rep h d
      have g := (c1.pow m).trans (gauss h.1 h2 nb)
      rw [sgn_val] at g
      split at g
      · exact g.symm
      · exact absurd g c
theorem leg_eq (h : Odp p) {x : Int} (hx : x = -1 ∨ x = 0 ∨ x = 1) (c : Cg p x (a ^ ((p - 1) / 2))) : leg a p = x :=
  Cg.small h.three ((leg_cg h).trans c.symm) leg_val hx
theorem leg_mul (h : Odp p) : leg (a * b) p = leg a p * leg b p :=
  leg_eq h (small_mul leg_val leg_val) (by rw [Int.mul_pow]; exact (leg_cg h).mul (leg_cg h))
theorem leg_mod (h : Odp p) (c : Cg p a b) : leg a p = leg b p := leg_eq h leg_val ((leg_cg h).trans (c.symm.pow _))
theorem leg_mu (h : Odp p) {a : Nat} (n : ¬ p ∣ a) : leg a p = (-1) ^ mu p ((p - 1) / 2) a := by
  refine leg_eq h ?_ (gauss h.1 h.half n).symm
  rw [sgn_val]
  split
  · exact .inl rfl
  · exact .inr (.inr rfl)
theorem leg_zero (d : (p : Int) ∣ a) : leg a p = 0 := if_pos d
theorem leg_one (h : Odp p) : leg 1 p = 1 := leg_eq h (.inr (.inr rfl)) (by rw [Int.one_pow]; exact .refl)
theorem leg_nz (h : Odp p) (n : ¬ (p : Int) ∣ a) : leg a p = 1 ∨ leg a p = -1 := by
  unfold leg
  rw [if_neg n]
  split
  · exact .inl rfl
  · exact .inr rfl
/-- signs by 8 and by 4 -/
def x8 (n : Nat) : Int := if n % 8 = 3 ∨ n % 8 = 5 then -1 else 1
def s4 (m n : Nat) : Int := if m % 4 = 3 ∧ n % 4 = 3 then -1 else 1
theorem mu_two (h2 : p = 2 * q + 1) : mu p q 2 = q - q / 2 := by
  have e : ∀ n, n ≤ q → sm (ov p q 2) n = n - min n (q / 2) := fun n => by
    induction n with
    | zero => intro _; unfold sm; rw [Nat.zero_min]
    | succ n ih =>
      intro hn
      have := ih (by omega)
      have r : rs p 2 (n + 1) = 2 * (n + 1) := by unfold rs; exact Nat.mod_eq_of_lt (by omega)
      have : ov p q 2 (n + 1) = if q < 2 * (n + 1) then 1 else 0 := by unfold ov; rw [r]
      have l : sm (ov p q 2) (n + 1) = sm (ov p q 2) n + ov p q 2 (n + 1) := rfl
      rw [l, this]
      split <;> omega
  show sm (ov p q 2) q = _
  rw [e q (Nat.le_refl _)]
  omega
theorem leg_two (h : Odp p) : leg 2 p = x8 p := by
  have h2 := h.half
  have h3 := h.three
  have n : ¬ p ∣ 2 := fun d => by have := Nat.le_of_dvd (by decide) d; omega
  have := leg_mu h n
  rw [mu_two h2, sgn_val] at this
  rw [show ((2 : Nat) : Int) = 2 from rfl] at this
  rw [this]
  unfold x8
  split <;> split <;> first | rfl | omega
theorem recip (hp : Odp p) (hq : Odp q) (ne : p ≠ q) : leg q p = s4 q p * leg p q := by
  have n1 : ¬ p ∣ q := fun d => by
    rcases hq.1.2 p d with e | e
    · have := hp.1.1; omega
    · exact ne e
  have n2 : ¬ q ∣ p := fun d => by
    rcases hp.1.2 q d with e | e
    · have := hq.1.1; omega
    · exact ne e.symm
  rw [leg_mu hp n1, leg_mu hq n2]
  have e1 := eisen hp.1 hp.half n1 hq.2
  have e2 := eisen hq.1 hq.half n2 hp.2
  have pt := points hp.half hq.half (hp.1.cop n1)
  obtain ⟨h, hh⟩ : ∃ h, h = (p - 1) / 2 := ⟨_, rfl⟩
  obtain ⟨m, hm⟩ : ∃ m, m = (q - 1) / 2 := ⟨_, rfl⟩
  rw [← hh] at e1 pt ⊢
  rw [← hm] at e2 pt ⊢
  have par : (h * m) % 2 = (h % 2) * (m % 2) % 2 := Nat.mul_mod ..
  have o1 := hp.2
  have o2 := hq.2
  have t1 := hp.three
  have t2 := hq.three
  have s : s4 q p = (-1) ^ (h * m) := by
    rw [sgn_val, par]
    unfold s4
    have a1 : h % 2 = 0 ∨ h % 2 = 1 := by omega
    have a2 : m % 2 = 0 ∨ m % 2 = 1 := by omega
    rcases a1 with a1 | a1 <;> rcases a2 with a2 | a2 <;> rw [a1, a2] <;> split <;> first | rfl | omega
  rw [s, ← Int.pow_add, sgn_val, sgn_val]
  split <;> split <;> first | rfl | omega
end
theorem x8_mul {m n : Nat} (hm : m % 2 = 1) (hn : n % 2 = 1) : x8 (m * n) = x8 m * x8 n := by
  have e : (m * n) % 8 = (m % 8) * (n % 8) % 8 := Nat.mul_mod ..
  unfold x8
  rw [e]
  have a : m % 8 = 1 ∨ m % 8 = 3 ∨ m % 8 = 5 ∨ m % 8 = 7 := by omega
  have b : n % 8 = 1 ∨ n % 8 = 3 ∨ n % 8 = 5 ∨ n % 8 = 7 := by omega
  rcases a with a | a | a | a <;> rcases b with b | b | b | b <;> rw [a, b] <;> decide
theorem s4_mul {m k n : Nat} (hm : m % 2 = 1) (hk : k % 2 = 1) : s4 (m * k) n = s4 m n * s4 k n := by
  have e : (m * k) % 4 = (m % 4) * (k % 4) % 4 := Nat.mul_mod ..
  unfold s4
  rw [e]
  have a : m % 4 = 1 ∨ m % 4 = 3 := by omega
  have b : k % 4 = 1 ∨ k % 4 = 3 := by omega
  by_cases c : n % 4 = 3
  · rcases a with a | a <;> rcases b with b | b <;> rw [a, b, c] <;> decide
  · simp [c]
theorem s4_comm {m n : Nat} : s4 m n = s4 n m := by unfold s4; simp only [And.comm]
theorem s4_sq {m n : Nat} : s4 m n * s4 m n = 1 := by unfold s4; split <;> rfl
theorem s4_one {n : Nat} : s4 1 n = 1 := by unfold s4; simp
/-! ### the symbol of Jacobi -/
def Ops (ps : List Nat) : Prop := ∀ p ∈ ps, Odp p
def jl (a : Int) : List Nat → Int
  | [] => 1
  | p :: ps => leg a p * jl a ps
theorem Ops.head {p : Nat} {ps : List Nat} (h : Ops (p :: ps)) : Odp p := h p List.mem_cons_self
theorem Ops.tail {p : Nat} {ps : List Nat} (h : Ops (p :: ps)) : Ops ps := fun q hq => h q (List.mem_cons_of_mem _ hq)
section
variable {a b : Int} {ps qs : List Nat}
theorem Ops.odd : ∀ {ps : List Nat}, Ops ps → prd ps % 2 = 1
  | [], _ => rfl
  | p :: ps, h => by
    show p * prd ps % 2 = 1
    rw [Nat.mul_mod, h.head.2, Ops.odd h.tail]
theorem Ops.pos (h : Ops ps) : 0 < prd ps := by have := h.odd; omega
theorem jl_mul : ∀ {ps : List Nat}, Ops ps → jl (a * b) ps = jl a ps * jl b ps
  | [], _ => rfl
  | p :: ps, h => by
    unfold jl
    rw [leg_mul h.head, jl_mul h.tail]
    grind
theorem jl_mod : ∀ {ps : List Nat}, Ops ps → Cg (prd ps) a b → jl a ps = jl b ps
  | [], _, _ => rfl
  | p :: ps, h, c => by
    have e : ((prd (p :: ps) : Nat) : Int) = (p : Int) * prd ps := Int.natCast_mul ..
    unfold jl
    unfold Cg at c
    rw [e] at c
    rw [leg_mod h.head (show Cg p a b from Int.dvd_trans ⟨_, rfl⟩ c), jl_mod h.tail (show Cg (prd ps) a b from Int.dvd_trans ⟨_, Int.mul_comm ..⟩ c)]
theorem jl_one : ∀ {ps : List Nat}, Ops ps → jl 1 ps = 1
  | [], _ => rfl
  | p :: ps, h => by unfold jl; rw [leg_one h.head, jl_one h.tail]; rfl
theorem jl_zero : ∀ {ps : List Nat} {p : Nat}, p ∈ ps → (p : Int) ∣ a → jl a ps = 0
  | q :: ps, p, hm, d => by
    unfold jl
    rcases List.mem_cons.mp hm with rfl | hm
    · rw [leg_zero d, Int.zero_mul]
    · rw [jl_zero hm d, Int.mul_zero]
theorem jl_two : ∀ {ps : List Nat}, Ops ps → jl 2 ps = x8 (prd ps)
  | [], _ => rfl
  | p :: ps, h => by
    show leg 2 p * jl 2 ps = x8 (p * prd ps)
    rw [leg_two h.head, jl_two h.tail, x8_mul h.head.2 h.tail.odd]
theorem jl_perm (h : ps.Perm qs) : jl a ps = jl a qs := by
  induction h with
  | nil => rfl
  | cons x _ ih => unfold jl; rw [ih]
  | swap x y l => unfold jl; unfold jl; grind
  | trans _ _ h1 h2 => rw [h1, h2]
theorem dvd_prd {p : Nat} (hp : Pri p) : ∀ {ps : List Nat}, p ∣ prd ps → ∃ q ∈ ps, p ∣ q
  | [], d => by
    have := Nat.le_of_dvd (by decide) (show p ∣ 1 from d)
    have := hp.1
    omega
  | q :: ps, d => by
    rcases hp.dvd_mul (show p ∣ q * prd ps from d) with d | d
    · exact ⟨q, List.mem_cons_self, d⟩
    · obtain ⟨r, hr, hd⟩ := dvd_prd hp d
      exact ⟨r, List.mem_cons_of_mem _ hr, hd⟩
theorem mem_dvd {p : Nat} : ∀ {ps : List Nat}, p ∈ ps → p ∣ prd ps
  | q :: ps, hm => by
    show p ∣ q * prd ps
    rcases List.mem_cons.mp hm with rfl | hm
    · exact ⟨_, rfl⟩
    · exact Nat.dvd_trans (mem_dvd hm) ⟨q, Nat.mul_comm ..⟩
theorem uniq : ∀ {ps qs : List Nat}, (∀ p ∈ ps, Pri p) → (∀ q ∈ qs, Pri q) → prd ps = prd qs → ps.Perm qs
  | [], qs, _, hq, e => by
    cases qs with
    | nil => exact .nil
    | cons q qs =>
      have d : q ∣ 1 := ⟨prd qs, e⟩
      have := Nat.le_of_dvd (by decide) d
      have := (hq q List.mem_cons_self).1
      omega
  | p :: ps, qs, hp, hq, e => by
    have pp := hp p List.mem_cons_self
    obtain ⟨q, mq, d⟩ := dvd_prd pp (ps := qs) ⟨prd ps, e.symm⟩
    have epq : p = q := by
      rcases (hq q mq).2 p d with h | h
      · have := pp.1; omega
      · exact h
    subst epq
    have pm := List.perm_cons_erase mq
    have e2 : prd qs = p * prd (qs.erase p) := prd_perm pm
    have e3 : prd ps = prd (qs.erase p) := by
      have : p * prd ps = p * prd (qs.erase p) := by rw [← e2]; exact e
      exact Nat.eq_of_mul_eq_mul_left pp.pos this
    exact ((uniq (fun x hx => hp x (List.mem_cons_of_mem _ hx)) (fun x hx => hq x (List.mem_of_mem_erase hx)) e3).cons p).trans pm.symm
theorem jl_rec1 {q : Nat} (hq : Odp q) : ∀ {ps : List Nat}, Ops ps → ¬ q ∈ ps → jl q ps = s4 q (prd ps) * leg (prd ps : Nat) q
  | [], _, _ => by
    show 1 = s4 q 1 * leg 1 q
    rw [leg_one hq, s4_comm, s4_one]
    rfl
  | p :: ps, h, n => by
    show leg q p * jl q ps = s4 q (p * prd ps) * leg ((p * prd ps : Nat) : Int) q
    rw [Int.natCast_mul, leg_mul hq, recip h.head hq (fun e => n (by rw [e]; exact List.mem_cons_self)), jl_rec1 hq h.tail (fun m => n (List.mem_cons_of_mem _ m)), s4_comm (n := p * prd ps), s4_mul h.head.2 h.tail.odd, s4_comm (m := p), s4_comm (m := prd ps)]
    grind
theorem jl_rec : ∀ {qs : List Nat}, Ops ps → Ops qs → jl (prd qs : Nat) ps = s4 (prd qs) (prd ps) * jl (prd ps : Nat) qs
  | [], hp, _ => by
    show jl 1 ps = s4 1 (prd ps) * 1
    rw [jl_one hp, s4_one]
    rfl
  | q :: qs, hp, hq => by
    by_cases m : q ∈ ps
    · have d1 : (q : Int) ∣ ((prd (q :: qs) : Nat) : Int) := Int.natCast_dvd_natCast.mpr (mem_dvd List.mem_cons_self)
      have d2 : (q : Int) ∣ ((prd ps : Nat) : Int) := Int.natCast_dvd_natCast.mpr (mem_dvd m)
      rw [jl_zero m d1, jl_zero List.mem_cons_self d2, Int.mul_zero]
    · show jl ((q * prd qs : Nat) : Int) ps = s4 (q * prd qs) (prd ps) * (leg (prd ps : Nat) q * jl (prd ps : Nat) qs)
      rw [Int.natCast_mul, jl_mul hp, jl_rec1 hq.head hp m, jl_rec hp hq.tail, s4_mul hq.head.2 hq.tail.odd]
      grind
end
/-- a prime that divides -/
theorem some_prime : ∀ n : Nat, 2 ≤ n → ∃ p, Pri p ∧ p ∣ n := fun n => by
  induction n using Nat.strongRecOn with
  | _ n ih =>
    intro h
    by_cases hp : ∀ d, d ∣ n → d = 1 ∨ d = n
    · exact ⟨n, ⟨h, hp⟩, Nat.dvd_refl n⟩
    · obtain ⟨d, hd⟩ := Classical.not_forall.mp hp
      have hd : d ∣ n ∧ ¬ (d = 1 ∨ d = n) := by
        by_cases h1 : d ∣ n
        · exact ⟨h1, fun h2 => hd fun _ => h2⟩
        · exact absurd (fun h => absurd h h1) hd
      have l := Nat.le_of_dvd (by omega) hd.1
      have z : d ≠ 0 := fun z => by
        rw [z] at hd
        have := Nat.eq_zero_of_zero_dvd hd.1
        omega
      obtain ⟨p, h1, h2⟩ := ih d (by omega) (by omega)
      exact ⟨p, h1, Nat.dvd_trans h2 hd.1⟩
theorem fac_ex : ∀ n : Nat, 1 ≤ n → ∃ ps : List Nat, (∀ p ∈ ps, Pri p) ∧ prd ps = n := fun n => by
  induction n using Nat.strongRecOn with
  | _ n ih =>
    intro h
    by_cases h1 : n = 1
    · exact ⟨[], (fun p hp => by cases hp), h1.symm⟩
    · obtain ⟨p, hp, c, e⟩ := some_prime n (by omega)
      have c0 : 1 ≤ c := Nat.pos_of_ne_zero fun z => by rw [z] at e; omega
      have cl : c < n := by
        rw [e]
        have := Nat.mul_le_mul_right c hp.1
        omega
      obtain ⟨ps, h1, h2⟩ := ih c cl c0
      refine ⟨p :: ps, fun q hq => ?_, by show p * prd ps = n; rw [h2, e]⟩
      rcases List.mem_cons.mp hq with rfl | hq
      · exact hp
      · exact h1 q hq
theorem fac_odd {n : Nat} (h : n % 2 = 1) : ∃ ps : List Nat, Ops ps ∧ prd ps = n := by
  obtain ⟨ps, h1, h2⟩ := fac_ex n (by omega)
  refine ⟨ps, fun p hp => ⟨h1 p hp, ?_⟩, h2⟩
  have d := mem_dvd hp
  rw [h2] at d
  obtain ⟨c, e⟩ := d
  rw [e, Nat.mul_mod] at h
  have a : p % 2 = 0 ∨ p % 2 = 1 := by omega
  rcases a with a | a
  · rw [a, Nat.zero_mul] at h; cases h
  · exact a
open Classical in
noncomputable def jac (a : Int) (n : Nat) : Int := if h : ∃ ps : List Nat, Ops ps ∧ prd ps = n then jl a h.choose else 0
theorem jac_of {a : Int} {ps : List Nat} {n : Nat} (h : Ops ps) (e : prd ps = n) : jac a n = jl a ps := by
  have hx : ∃ ps : List Nat, Ops ps ∧ prd ps = n := ⟨ps, h, e⟩
  unfold jac
  rw [dif_pos hx]
  obtain ⟨h1, h2⟩ := hx.choose_spec
  exact jl_perm (uniq (fun p hp => (h1 p hp).1) (fun p hp => (h p hp).1) (by rw [h2, e]))
section
variable {a b : Int} {n m : Nat}
theorem jac_mod (h : n % 2 = 1) (c : Cg n a b) : jac a n = jac b n := by
  obtain ⟨ps, o, rfl⟩ := fac_odd h
  rw [jac_of o rfl, jac_of o rfl, jl_mod o c]
theorem jac_two (h : n % 2 = 1) : jac (2 * a) n = x8 n * jac a n := by
  obtain ⟨ps, o, rfl⟩ := fac_odd h
  rw [jac_of o rfl, jac_of o rfl, jl_mul o, jl_two o]
theorem jac_rec (h : n % 2 = 1) (hm : m % 2 = 1) : jac m n = s4 m n * jac n m := by
  obtain ⟨ps, o, rfl⟩ := fac_odd h
  obtain ⟨qs, o', rfl⟩ := fac_odd hm
  rw [jac_of o rfl, jac_of o' rfl, jl_rec o o']
theorem jac_zero (h : n % 2 = 1) : jac 0 n = if n = 1 then 1 else 0 := by
  obtain ⟨ps, o, rfl⟩ := fac_odd h
  rw [jac_of o rfl]
  cases ps with
  | nil => rfl
  | cons p ps =>
    rw [jl_zero List.mem_cons_self ⟨0, by omega⟩, if_neg]
    intro e
    have d : p ∣ 1 := ⟨prd ps, e.symm⟩
    have := Nat.le_of_dvd (by decide) d
    have := o.head.1.1
    omega
end
/-! ### primes below 60 -/
def sqB (p r : Nat) : Bool := (List.range p).any fun x => decide (1 ≤ x) && decide (x * x % p = r)
theorem sq60 : ∀ p, p < 60 → p % 2 = 1 → 3 ≤ p → (∃ d, d < 60 ∧ d ∣ p ∧ d ≠ 1 ∧ d ≠ p) ∨ ∀ r, r < p → r ≠ 0 → (sqB p r = true ↔ r ^ ((p - 1) / 2) % p = 1) := by
  have h : ((List.range 60).all fun p => !(decide (p % 2 = 1) && decide (3 ≤ p)) || ((List.range 60).any fun d => decide (p % d = 0) && (decide (d ≠ 1) && decide (d ≠ p))) || (List.range p).all fun r => decide (r = 0) || (sqB p r == decide (r ^ ((p - 1) / 2) % p = 1))) = true := by decide +kernel
  intro p hp ho h3
  have := List.all_eq_true.mp h p (List.mem_range.mpr hp)
  rw [decide_eq_true ho, decide_eq_true h3] at this
  simp only [Bool.and_self, Bool.not_true, Bool.false_or, Bool.or_eq_true] at this
  rcases this with t | t
  · obtain ⟨d, hd, e⟩ := List.any_eq_true.mp t
    rw [Bool.and_eq_true, Bool.and_eq_true] at e
    exact .inl ⟨d, List.mem_range.mp hd, Nat.dvd_of_mod_eq_zero (of_decide_eq_true e.1), of_decide_eq_true e.2.1, of_decide_eq_true e.2.2⟩
  · refine .inr fun r hr h0 => ?_
    have := List.all_eq_true.mp t r (List.mem_range.mpr hr)
    rw [decide_eq_false h0, Bool.false_or, beq_iff_eq] at this
    rw [this, decide_eq_true_iff]
theorem leg_sq {p : Nat} {a : Int} (h : Odp p) (hl : p < 60) (n : ¬ (p : Int) ∣ a) : leg a p = if sqB p (a % p).toNat then 1 else -1 := by
  have h3 := h.three
  have nn := Int.emod_nonneg a (show (p : Int) ≠ 0 by omega)
  have lt := Int.emod_lt_of_pos a (show (0 : Int) < p by omega)
  obtain ⟨r, hr⟩ : ∃ r, r = (a % p).toNat := ⟨_, rfl⟩
  have hr' : (r : Int) = a % p := by omega
  have r0 : r ≠ 0 := fun e => n (Int.dvd_of_emod_eq_zero (by omega))
  rw [← hr]
  rcases sq60 p hl h.2 h3 with ⟨d, _, dd, d1, d2⟩ | k
  · rcases h.1.2 d dd with e | e
    · exact absurd e d1
    · exact absurd e d2
  · have k := k r (by omega) r0
    have c : Cg p (a ^ ((p - 1) / 2)) ((r : Int) ^ ((p - 1) / 2)) := Cg.pow (by rw [hr']; exact Cg.mod.symm) _
    unfold leg
    rw [if_neg n]
    have iff : Cg p (a ^ ((p - 1) / 2)) 1 ↔ r ^ ((p - 1) / 2) % p = 1 := by
      constructor
      · intro g
        have := (c.symm.trans g).mod_eq
        have e : (((r ^ ((p - 1) / 2) % p : Nat)) : Int) = (r : Int) ^ ((p - 1) / 2) % p := by rw [Int.natCast_emod, Int.natCast_pow]
        have o : (1 : Int) % p = 1 := Int.emod_eq_of_lt (by omega) (by omega)
        omega
      · intro g
        have e : (((r ^ ((p - 1) / 2) % p : Nat)) : Int) = (r : Int) ^ ((p - 1) / 2) % p := by rw [Int.natCast_emod, Int.natCast_pow]
        rw [g] at e
        have m : Cg p ((r : Int) ^ ((p - 1) / 2) % p) ((r : Int) ^ ((p - 1) / 2)) := Cg.mod
        rw [← e] at m
        exact c.trans m.symm
    by_cases z : sqB p r = true
    · rw [if_pos z, if_pos (iff.mpr (k.mp z))]
    · rw [if_neg z, if_neg (fun g => z (k.mpr (iff.mp g)))]
end NT

/-! part K04A -/
namespace K04
open PySem PySem.Spec L2 Own
noncomputable def gF (k : Nat) (mine : List Nat) : Fns := ⟨pg.lend, pg.run k, fun i => pg.glb.getD i .non, mine, pg.sub, k⟩
@[simp] theorem gF_run {k : Nat} {m : List Nat} : (gF k m).run = pg.run k := rfl
@[simp] theorem gF_sub {k : Nat} {m : List Nat} : (gF k m).sub = pg.sub := rfl
@[simp] theorem gF_dep {k : Nat} {m : List Nat} : (gF k m).dep = k := rfl
@[simp] theorem sub_InvalidNumber_InvalidNumber : pg.sub "InvalidNumber" "InvalidNumber" = some true := rfl
@[simp] theorem sub_InvalidNumber_FormError : pg.sub "InvalidNumber" "FormError" = some true := rfl
@[simp] theorem sub_FormError_InvalidNumber : pg.sub "FormError" "InvalidNumber" = some false := rfl
@[simp] theorem sub_FormError_FormError : pg.sub "FormError" "FormError" = some true := rfl
@[simp] theorem gF_mine {k : Nat} {m : List Nat} : (gF k m).mine = m := rfl
@[simp] theorem gF_lend {k f : Nat} {m : List Nat} : (gF k m).lend f = pg.lend f := rfl
@[simp] theorem lend0 : pg.lend 0 = [false, false] := rfl
@[simp] theorem lend1 : pg.lend 1 = [false, false] := rfl
@[simp] theorem lend2 : pg.lend 2 = [true, false] := rfl
@[simp] theorem lend3 : pg.lend 3 = [true, false] := rfl
@[simp] theorem lend4 : pg.lend 4 = [false] := rfl
@[simp] theorem lend5 : pg.lend 5 = [false] := rfl
@[simp] theorem lend6 : pg.lend 6 = [true, false] := rfl
@[simp] theorem lend7 : pg.lend 7 = [false] := rfl
@[simp] theorem lend8 : pg.lend 8 = [false, false, false] := rfl
@[simp] theorem lend9 : pg.lend 9 = [false, false] := rfl
@[simp] theorem lend10 : pg.lend 10 = [false, false] := rfl
@[simp] theorem lend11 : pg.lend 11 = [false, false] := rfl
@[simp] theorem lend12 : pg.lend 12 = [false] := rfl
/-- jacobi -/
theorem go0 (k : Nat) (d0 d1 : D) : pg.run (k + 1) 0 [d0, d1] = crOf [false, false] (evSs (gF k []) b0 [.val d0, .val d1, .un]) := run_at (dd := ⟨[false, false], 3, b0⟩) rfl rfl (by decide)
/-- _law_pool -/
theorem go1 (k : Nat) (d0 d1 : D) : pg.run (k + 1) 1 [d0, d1] = crOf [false, false] (evSs (gF k []) b1 [.val d0, .val d1, .un, .un, .un, .un, .un]) := run_at (dd := ⟨[false, false], 7, b1⟩) rfl rfl (by decide)
/-- _law_take -/
theorem go2 (k : Nat) (d0 d1 : D) : pg.run (k + 1) 2 [d0, d1] = crOf [true, false] (evSs (gF k [0]) b2 [.own d0, .val d1]) := run_at (dd := ⟨[true, false], 2, b2⟩) rfl rfl (by decide)
/-- _law_far -/
theorem go3 (k : Nat) (d0 d1 : D) : pg.run (k + 1) 3 [d0, d1] = crOf [true, false] (evSs (gF k [0]) b3 [.own d0, .val d1, .un, .un]) := run_at (dd := ⟨[true, false], 4, b3⟩) rfl rfl (by decide)
/-- _law_is_prime -/
theorem go4 (k : Nat) (d0 : D) : pg.run (k + 1) 4 [d0] = crOf [false] (evSs (gF k []) b4 [.val d0, .un]) := run_at (dd := ⟨[false], 2, b4⟩) rfl rfl (by decide)
/-- _law_prime_from -/
theorem go5 (k : Nat) (d0 : D) : pg.run (k + 1) 5 [d0] = crOf [false] (evSs (gF k []) b5 [.val d0]) := run_at (dd := ⟨[false], 1, b5⟩) rfl rfl (by decide)
/-- _law_drawn_factors -/
theorem go6 (k : Nat) (d0 d1 : D) : pg.run (k + 1) 6 [d0, d1] = crOf [true, false] (evSs (gF k [0]) b6 [.own d0, .val d1, .un, .un, .un, .un, .un, .un, .un]) := run_at (dd := ⟨[true, false], 9, b6⟩) rfl rfl (by decide)
/-- _law_product -/
theorem go7 (k : Nat) (d0 : D) : pg.run (k + 1) 7 [d0] = crOf [false] (evSs (gF k []) b7 [.val d0, .un, .un, .un, .un]) := run_at (dd := ⟨[false], 5, b7⟩) rfl rfl (by decide)
/-- _law_power -/
theorem go8 (k : Nat) (d0 d1 d2 : D) : pg.run (k + 1) 8 [d0, d1, d2] = crOf [false, false, false] (evSs (gF k []) b8 [.val d0, .val d1, .val d2, .un]) := run_at (dd := ⟨[false, false, false], 4, b8⟩) rfl rfl (by decide)
/-- _law_symbol -/
theorem go9 (k : Nat) (d0 d1 : D) : pg.run (k + 1) 9 [d0, d1] = crOf [false, false] (evSs (gF k []) b9 [.val d0, .val d1, .un]) := run_at (dd := ⟨[false, false], 3, b9⟩) rfl rfl (by decide)
/-- _law_jacobi -/
theorem go10 (k : Nat) (d0 d1 : D) : pg.run (k + 1) 10 [d0, d1] = crOf [false, false] (evSs (gF k []) b10 [.val d0, .val d1, .un, .un, .un, .un]) := run_at (dd := ⟨[false, false], 6, b10⟩) rfl rfl (by decide)
/-- _law_refused -/
theorem go11 (k : Nat) (d0 d1 : D) : pg.run (k + 1) 11 [d0, d1] = crOf [false, false] (evSs (gF k []) b11 [.val d0, .val d1, .un, .un]) := run_at (dd := ⟨[false, false], 4, b11⟩) rfl rfl (by decide)
/-- law -/
theorem go12 (k : Nat) (d0 : D) : pg.run (k + 1) 12 [d0] = crOf [false] (evSs (gF k []) b12 [.val d0, .un, .un, .un, .un, .un, .un, .un, .un, .un, .un, .un]) := run_at (dd := ⟨[false], 12, b12⟩) rfl rfl (by decide)
theorem deqs_int : ∀ {xs ys : List Int}, deqs (xs.map .int) (ys.map .int) = decide (xs = ys)
  | [], [] => by simp [deqs]
  | [], y :: ys => by simp [deqs]
  | x :: xs, [] => by simp [deqs]
  | x :: xs, y :: ys => by
    rw [List.map_cons, List.map_cons]
    unfold deqs
    rw [deqs_int]
    by_cases h : x = y
    · subst h
      simp [deq]
    · simp [deq, h]
theorem eqables_int {n : Nat} : ∀ {xs : List Int}, eqables n (xs.map .int) = true
  | [] => by simp [eqables]
  | x :: xs => by
    rw [List.map_cons]
    unfold eqables
    rw [eqables_int]
    cases n <;> rfl
theorem eq_tupI {xs ys : List Int} : cop .eq (.tup (xs.map .int)) (.tup (ys.map .int)) = some (decide (xs = ys)) := by
  have h : eqOk (.tup (xs.map .int)) (.tup (ys.map .int)) = true := by
    unfold eqOk
    have : ∀ zs : List Int, eqable 40 (.tup (zs.map .int)) = true := fun zs => by unfold eqable; exact eqables_int
    rw [this, this]
    rfl
  show (if eqOk (.tup (xs.map .int)) (.tup (ys.map .int)) = true then some (deq (.tup (xs.map .int)) (.tup (ys.map .int))) else none) = _
  rw [if_pos h]
  unfold deq
  rw [deqs_int]
theorem ne_tupI {xs ys : List Int} : cop .ne (.tup (xs.map .int)) (.tup (ys.map .int)) = some (!decide (xs = ys)) := by
  have h : eqOk (.tup (xs.map .int)) (.tup (ys.map .int)) = true := by
    unfold eqOk
    have : ∀ zs : List Int, eqable 40 (.tup (zs.map .int)) = true := fun zs => by unfold eqable; exact eqables_int
    rw [this, this]
    rfl
  show (if eqOk (.tup (xs.map .int)) (.tup (ys.map .int)) = true then some (!deq (.tup (xs.map .int)) (.tup (ys.map .int))) else none) = _
  rw [if_pos h]
  unfold deq
  rw [deqs_int]
def forBody : MS → List MS
  | .for _ _ b => b
  | _ => []
end K04

/-! part K04B -/
namespace K04
open PySem PySem.Spec L2 Own
/-! the pool -/
def plD (xs : List Int) : D := .lst false (xs.map .int)
def Pool (xs : List Int) : Prop := ∀ x ∈ xs, 0 ≤ x
theorem pl_nil {xs : List Int} : cop .eq (plD xs) (.lst false []) = some (decide (xs = [])) := by
  have h : eqOk (plD xs) (.lst false []) = true := by
    unfold eqOk plD
    have : eqable 40 (.lst false (xs.map .int)) = true := by unfold eqable; exact eqables_int
    rw [this]
    rfl
  show (if eqOk (plD xs) (.lst false []) = true then some (deq (plD xs) (.lst false [])) else none) = _
  rw [if_pos h]
  cases xs with
  | nil => rfl
  | cons x xs => rfl
def tkV (xs : List Int) (m : Int) : Int := match xs.getLast? with
  | some x => x.fmod m
  | none => 0
theorem tkV_lt {xs : List Int} {m : Int} (h : 0 < m) : 0 ≤ tkV xs m ∧ tkV xs m < m := by
  unfold tkV
  split
  · exact ⟨Int.fmod_nonneg_of_pos _ h, Int.fmod_lt_of_pos _ h⟩
  · omega
theorem r_take {K : Nat} (hK : 1 ≤ K) {xs : List Int} {m : Int} (hm : 0 < m) : pg.run K 2 [plD xs, .int m] = .ok (.v (.int (tkV xs m))) [plD xs.dropLast] := by
  obtain ⟨k, rfl⟩ := dep (show 1 ≤ K by omega)
  have hn := pl_nil (xs := xs)
  have hmz : m ≠ 0 := by omega
  rw [go2]
  cases hx : xs.getLast? with
  | none =>
    have : xs = [] := by simpa using hx
    subst this
    have hn0 : cop .eq (.lst false []) (.lst false []) = some true := hn
    show _ = Cr.ok (.v (.int 0)) [.lst false []]
    unfold plD
    simp -implicitDefEqProofs (decide := true) [b2, hn0, small_of]
  | some x =>
    have hne : xs ≠ [] := fun z => by rw [z] at hx; cases hx
    rw [decide_eq_false hne] at hn
    have hl : (xs.map D.int)[(xs.map D.int).length - 1]? = some (.int x) := by
      rw [List.length_map, List.getElem?_map, ← List.getLast?_eq_getElem?, hx]
      rfl
    have hdl : (xs.map D.int).dropLast = xs.dropLast.map D.int := by rw [List.map_dropLast]
    unfold plD at hn ⊢
    rw [← hdl]
    unfold tkV
    rw [hx]
    generalize xs.map D.int = X at hn hl ⊢
    simp -implicitDefEqProofs (decide := true) [b2, hn, hl, small_of, bo_mod hmz]
end K04

/-! part K04C -/
namespace K04
open PySem PySem.Spec L2 Own
theorem cutD_len {xs : List D} {lo hi : Option Int} : (Own.cutD xs lo hi).length ≤ xs.length := by
  unfold Own.cutD
  rw [List.length_take, List.length_drop]
  omega
theorem cutD_mem {xs : List D} {lo hi : Option Int} {i : Nat} {d : D} (h : (Own.cutD xs lo hi)[i]? = some d) : d ∈ xs := by
  have := List.mem_of_getElem? h
  unfold Own.cutD at this
  exact List.mem_of_mem_drop (List.mem_of_mem_take this)
theorem plD_app {xs : List Int} {x : Int} : (D.lst false (xs.map D.int ++ [.int x])) = plD (xs ++ [x]) := by simp [plD]
theorem r_law_pool {K : Nat} (hK : 1 ≤ K) {ns : List Int} {m : Nat} (hn : ns.length ≤ 63) (hm : m ≤ 1000) : ∃ xs, pg.run K 1 [.scr (ns.map .int), .int m] = .ok (.f (plD xs)) [] := by
  obtain ⟨k, rfl⟩ := dep (show 1 ≤ K by omega)
  refine ends_run (Q := fun c => ∃ xs, c = .ok (.f (plD xs)) []) (go1 ..) fun P hP => ?_
  have zl : sizeLine = 16777216 := by decide
  simp -implicitDefEqProofs (decide := true) [b1]
  generalize hSC : D.scr (ns.map .int) = SC at hP ⊢
  have hs : evI (gF k []) (.sl (.var 0) none (some (.int 63))) [.val SC, .val (.int m), .own (.lst false []), .val (.int 50551), .un, .un, .un] = .ok (Own.cutD (ns.map .int) none (some 63)) [.val SC, .val (.int m), .own (.lst false []), .val (.int 50551), .un, .un, .un] := by
    subst hSC
    simp -implicitDefEqProofs (decide := true) [slop]
  have hlen : (Own.cutD (ns.map D.int) none (some 63)).length ≤ 63 := Nat.le_trans cutD_len (by rw [List.length_map]; exact hn)
  refine ends_for (fun i ρ => ∃ xs seed s4 s5 s6, xs.length ≤ 60 * i ∧ 0 ≤ seed ∧ seed < 2147483647 ∧ Cm s4 ∧ Cm s5 ∧ Cm s6 ∧ ρ = [.val SC, .val (.int m), .own (plD xs), .val (.int seed), s4, s5, s6]) hs ⟨[], 50551, .un, .un, .un, by simp, by omega, by omega, cm_un, cm_un, cm_un, rfl⟩ (fun i d ρ hd ⟨xs, seed, s4, s5, s6, hx, h0, h1, c4, c5, c6, e⟩ => ?_) (fun ρ ⟨xs, seed, s4, s5, s6, hx, h0, h1, c4, c5, c6, e⟩ => ?_)
  · obtain ⟨z, _, rfl⟩ := List.mem_map.mp (cutD_mem hd)
    have hi : i < 63 := by
      have := (List.getElem?_eq_some_iff.mp hd).1
      omega
    subst e
    refine ⟨[.val SC, .val (.int m), .own (plD xs), .val (.int seed), .val (.int z), s5, s6], ?_, fun N X hN hX => ?_⟩
    · rcases c4 with rfl | ⟨z, rfl⟩ <;> rfl
    have Bs : Bc 31 seed := ⟨by unfold Bd; omega⟩
    have Bl : Bc 31 ((xs.length : Nat) : Int) := ⟨by unfold Bd; omega⟩
    have hl : bltop .len [plD xs] = some (.v (.int (xs.length : Nat))) := by simp [plD]
    generalize hp : plD xs = PL at hl hN ⊢
    have c6' : setOk (gF k []) [.val SC, .val (.int m), .own PL, .val (.int seed), .val (.int z), s5, s6] 6 = true := by rcases c6 with rfl | ⟨z, rfl⟩ <;> rfl
    simp -implicitDefEqProofs (decide := true) [bo_mulc, bo_modc, hl, c6', bo_pow, -bl_lenL]
    generalize hsd : Int.fmod _ 2147483647 = sd
    have g0 : 0 ≤ sd := by rw [← hsd]; exact Int.fmod_nonneg_of_pos _ (by decide)
    have g1 : sd < 2147483647 := by rw [← hsd]; exact Int.fmod_lt_of_pos _ (by decide)
    generalize (if z < 0 then -z else z : Int) = left
    subst hp
    refine ends_ifk (fun hb => ?_) (fun hb => ?_)
    · simp -implicitDefEqProofs (decide := true)
      refine ends_for (ds := rngD 0 60) (fun j ρ => ∃ ys left s5, ys.length ≤ 60 * i + j ∧ Cm s5 ∧ ρ = [.val SC, .val (.int m), .own (plD ys), .val (.int sd), .val (.int z), s5, .val (.int left)]) (rng1_of (n := 60) (by simp -implicitDefEqProofs (decide := true)) (by omega)) ⟨xs, left, s5, by omega, c5, rfl⟩ (fun j d ρ hd ⟨ys, left, s5, hy, c5, e⟩ => ?_) (fun ρ ⟨ys, left, s5, hy, c5, e⟩ => ?_)
      · obtain ⟨hj, rfl⟩ := rng_get hd
        subst e
        refine ⟨[.val SC, .val (.int m), .own (plD ys), .val (.int sd), .val (.int z), .val (.int (j : Nat)), .val (.int left)], ?_, fun N2 X2 hN2 hX2 => ?_⟩
        · rcases c5 with rfl | ⟨z, rfl⟩ <;> rfl
        simp -implicitDefEqProofs (decide := true)
        refine ends_ifk (fun hl => ?_) (fun hl => ?_)
        · have hlt : (ys.map D.int).length < sizeLine := by rw [List.length_map]; omega
          have nx := hN2 _ ⟨ys ++ [left.fmod 1000], left.fdiv 1000, .val (.int (j : Nat)), by simp; omega, cm_val, rfl⟩
          rw [← plD_app] at nx
          unfold plD
          generalize ys.map D.int = Y at hlt nx ⊢
          simp -implicitDefEqProofs (decide := true) [bo_modc, bo_fdivc, hlt]
          exact ends_nx nx
        · simp -implicitDefEqProofs (decide := true)
          exact ends_nx (hN2 _ ⟨ys, left, _, by omega, cm_val, rfl⟩)
      · subst e
        rw [rngD_length] at hy
        exact ends_nx (hN _ ⟨ys, sd, _, s5, _, by omega, g0, g1, cm_val, c5, cm_val, rfl⟩)
    · simp -implicitDefEqProofs (decide := true)
      exact ends_nx (hN _ ⟨xs, sd, _, s5, _, by omega, g0, g1, cm_val, c5, cm_val, rfl⟩)
  · subst e
    have hx' : xs.length ≤ 3780 := by omega
    refine ends_for (ds := rngD 0 m) (fun j ρ => ∃ ys seed s5, ys.length ≤ 3780 + j ∧ 0 ≤ seed ∧ seed < 2147483647 ∧ Cm s5 ∧ ρ = [.val SC, .val (.int m), .own (plD ys), .val (.int seed), s4, s5, s6]) (rng1_of (n := m) (by simp -implicitDefEqProofs (decide := true)) (by omega)) ⟨xs, seed, s5, by omega, h0, h1, c5, rfl⟩ (fun j d ρ hd ⟨ys, seed, s5, hy, h0, h1, c5, e⟩ => ?_) (fun ρ ⟨ys, seed, s5, hy, h0, h1, c5, e⟩ => ?_)
    · obtain ⟨hj, rfl⟩ := rng_get hd
      subst e
      refine ⟨[.val SC, .val (.int m), .own (plD ys), .val (.int seed), s4, .val (.int (j : Nat)), s6], ?_, fun N2 X2 hN2 hX2 => ?_⟩
      · rcases c5 with rfl | ⟨z, rfl⟩ <;> rfl
      have Bs : Bc 31 seed := ⟨by unfold Bd; omega⟩
      have Bj : Bc 31 ((j : Nat) : Int) := ⟨by unfold Bd; omega⟩
      have hlt : (ys.map D.int).length < sizeLine := by rw [List.length_map]; omega
      have nx := fun v sd hs0 hs1 => hN2 _ ⟨ys ++ [v], sd, .val (.int (j : Nat)), by simp; omega, hs0, hs1, cm_val, rfl⟩
      have nx2 : ∀ v sd, 0 ≤ sd → sd < 2147483647 → N2 [.val SC, .val (.int m), .own (.lst false (ys.map D.int ++ [.int v])), .val (.int sd), s4, .val (.int (j : Nat)), s6] := fun v sd a b => by rw [plD_app]; exact nx v sd a b
      unfold plD
      generalize ys.map D.int = Y at hlt nx2 ⊢
      have q0 := Int.fmod_nonneg_of_pos (seed * 69621 + 12347 + (j : Int)) (b := 2147483647) (by decide)
      have q1 := Int.fmod_lt_of_pos (seed * 69621 + 12347 + (j : Int)) (b := 2147483647) (by decide)
      simp -implicitDefEqProofs (decide := true) [bo_mulc, bo_modc]
      generalize (seed * 69621 + 12347 + (j : Int)).fmod 2147483647 = sd at q0 q1 ⊢
      have Bs : Bc 31 sd := ⟨by unfold Bd; omega⟩
      simp -implicitDefEqProofs (decide := true) [bo_mulc, bo_modc, bo_fdivc, hlt]
      exact ends_nx (nx2 _ _ q0 q1)
    · subst e
      unfold plD
      simp -implicitDefEqProofs (decide := true)
      refine Ends.at (hP _ ⟨ys.reverse, ?_⟩)
      have go : ∀ (s : Own.Slot) (r : Rho), Cm s → noNam (s :: r) = noNam r := fun s r c => by rcases c with rfl | ⟨z, rfl⟩ <;> rfl
      have hn2 : noNam [s4, s5, s6] = true := by
        rw [go _ _ c4, go _ _ c5, go _ _ c6]; rfl
      simp [plD, hn2]
end K04

/-! part K04E -/
-- lacks: ['_law_is_row', '_law_root']
namespace K04
open PySem PySem.Spec L2 Own
theorem mulS {i j : Int} (h : j.natAbs < 2 ^ 64) : bop .mul (.int i) (.int j) = some (.v (.int (i * j))) := bo_mul (by unfold mulOk; rw [decide_eq_true h]; simp)
theorem mulS' {i j : Int} (h : i.natAbs < 2 ^ 64) : bop .mul (.int i) (.int j) = some (.v (.int (i * j))) := bo_mul (by unfold mulOk; rw [decide_eq_true h]; simp)
theorem cm_set {F : Fns} {s : Own.Slot} {i : Nat} (h : Cm s) : ∀ r : Rho, r[i]? = some s → setOk F r i = true := fun r e => by
  rcases h with rfl | ⟨z, rfl⟩
  · exact so_un e
  · exact so_val e
theorem r_far {K : Nat} (hK : 2 ≤ K) (xs : List Int) {m : Int} (hm : 0 < m) : ∃ v xs', pg.run K 3 [plD xs, .int m] = .ok (.v (.int v)) [plD xs'] ∧ 0 ≤ v ∧ v < m := by
  obtain ⟨k, rfl⟩ := dep (show 1 ≤ K by omega)
  refine ends_run (Q := fun cr => ∃ v xs', cr = .ok (.v (.int v)) [plD xs'] ∧ 0 ≤ v ∧ v < m) (go3 ..) fun P hP => ?_
  simp -implicitDefEqProofs (decide := true) [b3]
  refine ends_for (ρ1 := [.own (plD xs), .val (.int m), .val (.int 0), .un]) (ds := rngD 0 4) (fun i ρ => ∃ (xs : List Int) (v : Int) (s3 : Own.Slot), Cm s3 ∧ ρ = [.own (plD xs), .val (.int m), .val (.int v), s3])
    (rng1_of (n := 4) (by simp -implicitDefEqProofs (decide := true)) (by omega)) ⟨xs, 0, _, cm_un, rfl⟩ (fun i t ρ hd ⟨xs, v, s3, c3, e⟩ => ?_) (fun ρ ⟨xs, v, s3, c3, e⟩ => ?_)
  · obtain ⟨hi, rfl⟩ := rng_get hd
    subst e
    have u := r_take (K := k) (by omega) (xs := xs) (m := 1000) (by omega)
    have m1 := mulS (i := v) (j := 1000) (by decide)
    refine ⟨[.own (plD xs), .val (.int m), .val (.int v), .val (.int (i : Nat))], ?_, fun N X hN hX => ?_⟩
    · rcases c3 with rfl | ⟨z, rfl⟩ <;> rfl
    have nx := hN [.own (plD xs.dropLast), .val (.int m), .val (.int (v * 1000 + tkV xs 1000)), .val (.int (i : Nat))] ⟨_, _, _, cm_val, rfl⟩
    generalize tkV xs 1000 = tv at *
    generalize plD xs.dropLast = P1 at *
    generalize plD xs = P0 at *
    simp -implicitDefEqProofs (decide := true) [u, m1]
    exact ends_nx nx
  · subst e
    have hz : m ≠ 0 := by omega
    have md := bo_mod (i := v) hz
    have c1 : 0 ≤ v.fmod m := Int.fmod_nonneg_of_pos v hm
    have c2 : v.fmod m < m := Int.fmod_lt_of_pos v hm
    generalize v.fmod m = w at *
    simp -implicitDefEqProofs (decide := true) [md]
    refine Ends.at (hP _ ⟨w, xs, ?_, c1, c2⟩)
    rcases c3 with rfl | ⟨z, rfl⟩ <;> simp -implicitDefEqProofs (decide := true)
end K04

/-! part K04F -/
namespace K04
open PySem PySem.Spec L2 Own NT
theorem pri_of {n d : Nat} (h2 : 2 ≤ n) (h : ∀ e, 2 ≤ e → e < d → ¬ e ∣ n) (hd : n < d * d) : Pri n := by
  refine ⟨h2, fun x hx => ?_⟩
  obtain ⟨y, hy⟩ := hx
  by_cases x1 : x = 1
  · exact .inl x1
  · by_cases xn : x = n
    · exact .inr xn
    · exfalso
      have x0 : x ≠ 0 := fun z => by rw [z, Nat.zero_mul] at hy; omega
      have y0 : y ≠ 0 := fun z => by rw [z, Nat.mul_zero] at hy; omega
      have y1 : y ≠ 1 := fun z => by rw [z, Nat.mul_one] at hy; exact xn hy.symm
      have a : ¬ x < d := fun l => h x (by omega) l ⟨y, hy⟩
      have b : ¬ y < d := fun l => h y (by omega) l ⟨x, by rw [hy, Nat.mul_comm]⟩
      have := Nat.mul_le_mul (show d ≤ x by omega) (show d ≤ y by omega)
      omega
theorem r_is_prime {K : Nat} (hK : 1 ≤ K) {n : Int} (hn : n ≤ 2000000) : ∃ b, pg.run K 4 [.int n] = .ok (.v (.bl b)) [] ∧ (b = true ↔ Pri n.toNat) := by
  obtain ⟨k, rfl⟩ := dep hK
  refine ends_run (Q := fun cr => ∃ b, cr = .ok (.v (.bl b)) [] ∧ (b = true ↔ Pri n.toNat)) (go4 ..) fun P hP => ?_
  by_cases h2 : n < 2
  · simp -implicitDefEqProofs (decide := true) [b4, h2]
    refine Ends.at (hP _ ⟨false, by simp -implicitDefEqProofs (decide := true), ?_⟩)
    constructor
    · intro h; cases h
    · intro h; have := h.1; omega
  · have hb : b4 = b4.take 2 ++ b4.drop 2 := rfl
    have main : Ends P (evSs (gF k []) (b4.drop 2) [.val (.int n), .val (.int 2)]) := by
      have hb : b4.drop 2 = .wh (.cmp .le (.bin .mul (.var 1) (.var 1)) (.var 0)) [.iff (.cmp .eq (.bin .mod (.blt .int [(.var 0)]) (.var 1)) (.int 0)) [.ret (.bl false)] [], .asg 1 (.bin .add (.var 1) (.int 1))] :: b4.drop 3 := rfl
      rw [hb, eSs_cons]
      clear hb
      refine ends_wh (fun m ρ => ∃ d : Nat, 2 ≤ d ∧ d ≤ 2000001 ∧ m = 2000001 - d ∧ (∀ e, 2 ≤ e → e < d → ¬ e ∣ n.toNat) ∧ ρ = [.val (.int n), .val (.int (d : Nat))]) (2000001 - 2)
        ⟨2, by omega, by omega, rfl, fun e h1 h2 => by omega, rfl⟩ fun m ρ ⟨d, d2, dl, hm, hd, e⟩ => ?_
      subst e
      have mu : bop .mul (.int (d : Nat)) (.int (d : Nat)) = some (.v (.int ((d : Nat) * (d : Nat)))) := mulS (by omega)
      obtain ⟨dd, hdd⟩ : ∃ dd : Nat, dd = d * d := ⟨_, rfl⟩
      have hdd' : ((d : Nat) : Int) * (d : Nat) = (dd : Nat) := by rw [hdd, Int.natCast_mul]
      rw [hdd'] at mu
      by_cases hl : ((dd : Nat) : Int) ≤ n
      · refine ⟨true, [.val (.int n), .val (.int (d : Nat))], by simp -implicitDefEqProofs (decide := true) [mu, hl], (fun h => by cases h), fun _ N X hN hX => ?_⟩
        have md : bop .mod (.int n) (.int (d : Nat)) = some (.v (.int (n.fmod (d : Nat)))) := bo_mod (by omega)
        have nm : n.fmod (d : Nat) = ((n.toNat % d : Nat) : Int) := by
          rw [Int.fmod_eq_emod_of_nonneg _ (by omega), Int.natCast_emod, Int.toNat_of_nonneg (by omega)]
        rw [nm] at md
        by_cases h0 : n.toNat % d = 0
        · rw [h0] at md
          have hd1 : d ≤ dd := by rw [hdd]; exact Nat.le_mul_of_pos_left d (by omega)
          have np : ¬ Pri n.toNat := fun hp => by
            rcases hp.2 d (Nat.dvd_of_mod_eq_zero h0) with h | h
            · omega
            · have := Nat.mul_le_mul (show 2 ≤ d by omega) (Nat.le_refl d)
              omega
          have q := hX (.rt (.v (.bl false)) [.val (.int n), .val (.int (d : Nat))]) (Ends.at (hP _ ⟨false, by simp -implicitDefEqProofs (decide := true), by simp [np]⟩))
          simp -implicitDefEqProofs (decide := true) [md]
          exact ends_rt q
        · have h0' : ¬ ((n.toNat % d : Nat) : Int) = 0 := by omega
          have hd1 : d ≤ dd := by rw [hdd]; exact Nat.le_mul_of_pos_left d (by omega)
          have nx := hN (2000001 - (d + 1)) [.val (.int n), .val (.int ((d + 1 : Nat) : Int))] (by omega) ⟨d + 1, by omega, by omega, rfl, fun e e1 e2 => by
            by_cases hed : e = d
            · rw [hed]; exact fun hx => h0 (Nat.mod_eq_zero_of_dvd hx)
            · exact hd e e1 (by omega), rfl⟩
          have e1 : ((d + 1 : Nat) : Int) = (d : Nat) + 1 := by omega
          rw [e1] at nx
          generalize n.toNat % d = M at *
          simp -implicitDefEqProofs (decide := true) [md, h0, h0']
          exact ends_nx nx
      · refine ⟨false, [.val (.int n), .val (.int (d : Nat))], by simp -implicitDefEqProofs (decide := true) [mu, hl], (fun _ => ?_), (fun h => by cases h)⟩
        have pr : Pri n.toNat := pri_of (by omega) hd (by omega)
        simp -implicitDefEqProofs (decide := true) [b4]
        exact Ends.at (hP _ ⟨true, by simp -implicitDefEqProofs (decide := true), by simp [pr]⟩)
    rw [hb]
    clear hb
    generalize b4.drop 2 = BB at *
    simp -implicitDefEqProofs (decide := true) [b4, h2]
    exact main
theorem big_prime : Pri 1000003 := by
  have h : ((List.range 1001).all fun e => decide (e < 2) || decide (1000003 % e ≠ 0)) = true := by decide +kernel
  refine pri_of (d := 1001) (by omega) (fun e h1 h2 hd => ?_) (by omega)
  have := List.all_eq_true.mp h e (List.mem_range.mpr h2)
  rw [Bool.or_eq_true, decide_eq_true_iff, decide_eq_true_iff] at this
  rcases this with t | t
  · omega
  · exact t (Nat.mod_eq_zero_of_dvd hd)
theorem r_prime_from {K : Nat} (hK : 2 ≤ K) {n : Int} (h0 : 0 ≤ n) (hn : n ≤ 1000003) : ∃ p : Nat, pg.run K 5 [.int n] = .ok (.v (.int (p : Nat))) [] ∧ Pri p ∧ p ≤ 1000003 := by
  obtain ⟨k, rfl⟩ := dep (show 1 ≤ K by omega)
  refine ends_run (Q := fun cr => ∃ p : Nat, cr = .ok (.v (.int (p : Nat))) [] ∧ Pri p ∧ p ≤ 1000003) (go5 ..) fun P hP => ?_
  have hb : b5 = .wh (.notv (.call 4 [(.var 0)])) [.asg 0 (.bin .add (.var 0) (.int 1))] :: b5.drop 1 := rfl
  rw [hb, eSs_cons]
  clear hb
  refine ends_wh (fun m ρ => ∃ d : Nat, d ≤ 1000003 ∧ m = 1000003 - d ∧ ρ = [.val (.int (d : Nat))]) (1000003 - n.toNat) ⟨n.toNat, by omega, rfl, by rw [Int.toNat_of_nonneg h0]⟩ fun m ρ ⟨d, dl, hm, e⟩ => ?_
  subst e
  obtain ⟨b, r1, hb⟩ := r_is_prime (K := k) (n := (d : Nat)) (by omega) (by omega)
  rw [Int.toNat_natCast] at hb
  cases b with
  | true =>
    refine ⟨false, [.val (.int (d : Nat))], by simp -implicitDefEqProofs (decide := true) [r1], (fun _ => ?_), (fun h => by cases h)⟩
    simp -implicitDefEqProofs (decide := true) [b5]
    exact Ends.at (hP _ ⟨d, by simp -implicitDefEqProofs (decide := true), hb.mp rfl, dl⟩)
  | false =>
    refine ⟨true, [.val (.int (d : Nat))], by simp -implicitDefEqProofs (decide := true) [r1], (fun h => by cases h), fun _ N X hN hX => ?_⟩
    have nd : d ≠ 1000003 := fun h => by
      have := hb.mpr (h ▸ big_prime)
      cases this
    have nx := hN (1000003 - (d + 1)) [.val (.int ((d + 1 : Nat) : Int))] (by omega) ⟨d + 1, by omega, rfl, rfl⟩
    have e1 : ((d + 1 : Nat) : Int) = (d : Nat) + 1 := by omega
    rw [e1] at nx
    simp -implicitDefEqProofs (decide := true)
    exact ends_nx nx
end K04

/-! part K04H -/
namespace K04
open PySem PySem.Spec L2 Own NT
/-! ### parts: pairs of a prime and an exponent -/
def pD (q : Nat × Nat) : D := .tup [.int (q.1 : Nat), .int (q.2 : Nat)]
def ptD (l : List (Nat × Nat)) : D := .lst false (l.map pD)
/-- the primes, as often as they occur -/
def exl : List (Nat × Nat) → List Nat
  | [] => []
  | q :: l => List.replicate q.2 q.1 ++ exl l
def Pts (l : List (Nat × Nat)) : Prop := ∀ q ∈ l, Pri q.1 ∧ q.1 ≤ 1000003 ∧ q.2 ≤ 1000
theorem Pts.tail {q : Nat × Nat} {l : List (Nat × Nat)} (h : Pts (q :: l)) : Pts l := fun x hx => h x (List.mem_cons_of_mem _ hx)
theorem prd_app : ∀ {l m : List Nat}, prd (l ++ m) = prd l * prd m
  | [], m => by show prd m = 1 * prd m; omega
  | x :: l, m => by show x * prd (l ++ m) = x * prd l * prd m; rw [prd_app, Nat.mul_assoc]
theorem jl_app {a : Int} : ∀ {l m : List Nat}, jl a (l ++ m) = jl a l * jl a m
  | [], m => by show jl a m = 1 * jl a m; omega
  | x :: l, m => by show leg a x * jl a (l ++ m) = leg a x * jl a l * jl a m; rw [jl_app, Int.mul_assoc]
theorem exl_snoc {l : List (Nat × Nat)} {q : Nat × Nat} : exl (l ++ [q]) = exl l ++ List.replicate q.2 q.1 := by
  induction l with
  | nil => show List.replicate _ _ ++ [] = [] ++ _; simp
  | cons x l ih => show List.replicate _ _ ++ exl (l ++ [q]) = List.replicate _ _ ++ exl l ++ _; rw [ih, List.append_assoc]
theorem rep_snoc {n p : Nat} : List.replicate (n + 1) p = List.replicate n p ++ [p] := List.replicate_succ'
theorem take_snoc {l : List (Nat × Nat)} {i : Nat} {q : Nat × Nat} (h : l[i]? = some q) : l.take (i + 1) = l.take i ++ [q] := by rw [List.take_add_one, h]; rfl
theorem bT2p {i j : Nat} {q : Nat × Nat} {ρ : Rho} (h : calmS ρ i = true) (h2 : calmS (ρ.set i (.val (.int (q.1 : Nat)))) j = true) : bindT (.tp [.nm i, .nm j]) (pD q) ρ = some ((ρ.set i (.val (.int (q.1 : Nat)))).set j (.val (.int (q.2 : Nat)))) := bT2 h h2
def prB : List MS := [.for (.nm 4) (.rng [(.var 3)]) [.asg 1 (.bin .mul (.var 1) (.var 2))]]
theorem pr_turn {k : Nat} {bd : List MS} (hbd : bd = prB) {P : Oc → Prop} {q : Nat × Nat} {l : List Nat} {s0 s4 : Own.Slot} (c4 : Cm s4) (q1 : q.1 ≤ 1000003) (q2 : q.2 ≤ 1000)
    (h : ∀ s4, Cm s4 → P (.nx [s0, .val (.int ((prd (l ++ List.replicate q.2 q.1) : Nat) : Int)), .val (.int (q.1 : Nat)), .val (.int (q.2 : Nat)), s4])) :
    Ends P (evSs (gF k []) bd [s0, .val (.int (prd l : Nat)), .val (.int (q.1 : Nat)), .val (.int (q.2 : Nat)), s4]) := by
  rw [hbd]
  unfold prB
  rw [eSs_cons]
  refine ends_for (ds := rngD 0 q.2) (ρ1 := [s0, .val (.int (prd l : Nat)), .val (.int (q.1 : Nat)), .val (.int (q.2 : Nat)), s4]) (fun j ρ => ∃ s4, Cm s4 ∧ ρ = [s0, .val (.int ((prd (l ++ List.replicate j q.1) : Nat) : Int)), .val (.int (q.1 : Nat)), .val (.int (q.2 : Nat)), s4])
    (rng1_of (by simp -implicitDefEqProofs (decide := true)) (by omega)) ⟨s4, c4, by rw [List.replicate_zero, List.append_nil]⟩ (fun j d ρ hd ⟨s4, c4, e⟩ => ?_) (fun ρ ⟨s4, c4, e⟩ => ?_)
  · obtain ⟨hj, rfl⟩ := rng_get hd
    subst e
    refine ⟨[s0, .val (.int ((prd (l ++ List.replicate j q.1) : Nat) : Int)), .val (.int (q.1 : Nat)), .val (.int (q.2 : Nat)), .val (.int (j : Nat))], by rcases c4 with rfl | ⟨z, rfl⟩ <;> rfl, fun N2 X2 hN2 hX2 => ?_⟩
    have e3 : prd (l ++ List.replicate (j + 1) q.1) = prd (l ++ List.replicate j q.1) * q.1 := by
      rw [rep_snoc, ← List.append_assoc, prd_app]
      show _ * (q.1 * 1) = _
      rw [Nat.mul_one]
    have nx := hN2 [s0, .val (.int ((prd (l ++ List.replicate (j + 1) q.1) : Nat) : Int)), .val (.int (q.1 : Nat)), .val (.int (q.2 : Nat)), .val (.int (j : Nat))] ⟨_, cm_val, rfl⟩
    rw [e3, Int.natCast_mul] at nx
    clear e3 h hN2 hX2
    generalize ((prd (l ++ List.replicate j q.1) : Nat) : Int) = A at *
    have mu : bop .mul (.int A) (.int (q.1 : Nat)) = some (.v (.int (A * (q.1 : Nat)))) := mulS (by omega)
    simp -implicitDefEqProofs (decide := true) [mu]
    exact ends_nx nx
  · subst e
    rw [rngD_length]
    simp -implicitDefEqProofs (decide := true)
    exact Ends.at (h s4 c4)
theorem r_law_product {K : Nat} (hK : 1 ≤ K) {l : List (Nat × Nat)} (h : Pts l) : pg.run K 7 [ptD l] = .ok (.v (.int (prd (exl l) : Nat))) [] := by
  obtain ⟨k, rfl⟩ := dep hK
  obtain ⟨L, hL⟩ : ∃ L, L = ptD l := ⟨_, rfl⟩
  obtain ⟨A, hA⟩ : ∃ A : Int, A = (prd (exl l) : Nat) := ⟨_, rfl⟩
  rw [← hL, ← hA]
  refine ends_run (Q := fun cr => cr = .ok (.v (.int A)) []) (go7 ..) fun P hP => ?_
  have hb : b7 = b7.take 1 ++ b7.drop 1 := rfl
  have main : Ends P (evSs (gF k []) (b7.drop 1) [.val L, .val (.int 1), .un, .un, .un]) := by
    have hb : b7.drop 1 = .for (.tp [(.nm 2), (.nm 3)]) (.var 0) prB :: b7.drop 2 := rfl
    obtain ⟨bd, hbd⟩ : ∃ bd, bd = prB := ⟨_, rfl⟩
    rw [hb, ← hbd, eSs_cons]
    clear hb
    refine ends_for (ds := l.map pD) (ρ1 := [.val L, .val (.int 1), .un, .un, .un]) (fun i ρ => ∃ s2 s3 s4, Cm s2 ∧ Cm s3 ∧ Cm s4 ∧ ρ = [.val L, .val (.int (prd (exl (l.take i)) : Nat)), s2, s3, s4])
      (by rw [hL]; unfold ptD; generalize l.map pD = L; simp -implicitDefEqProofs (decide := true)) ⟨_, _, _, cm_un, cm_un, cm_un, rfl⟩ (fun i d ρ hd ⟨s2, s3, s4, c2, c3, c4, e⟩ => ?_) (fun ρ ⟨s2, s3, s4, c2, c3, c4, e⟩ => ?_)
    · subst e
      rw [List.getElem?_map] at hd
      obtain ⟨q, hq, rfl⟩ := Option.map_eq_some_iff.mp hd
      obtain ⟨_, q1, q2⟩ := h q (List.mem_of_getElem? hq)
      refine ⟨[.val L, .val (.int (prd (exl (l.take i)) : Nat)), .val (.int (q.1 : Nat)), .val (.int (q.2 : Nat)), s4], by rcases c2 with rfl | ⟨z, rfl⟩ <;> rcases c3 with rfl | ⟨z, rfl⟩ <;> rfl, fun N X hN hX => ?_⟩
      refine pr_turn hbd c4 q1 q2 fun s4 c4 => ?_
      have e3 : exl (l.take (i + 1)) = exl (l.take i) ++ List.replicate q.2 q.1 := by rw [take_snoc hq, exl_snoc]
      rw [← e3]
      exact hN _ ⟨_, _, s4, cm_val, cm_val, c4, rfl⟩
    · subst e
      rw [List.length_map, List.take_length, ← hA]
      have n2 : ∀ r, noNam (s2 :: r) = noNam r := fun r => by rcases c2 with rfl | ⟨z, rfl⟩ <;> rfl
      have n3 : ∀ r, noNam (s3 :: r) = noNam r := fun r => by rcases c3 with rfl | ⟨z, rfl⟩ <;> rfl
      have n4 : ∀ r, noNam (s4 :: r) = noNam r := fun r => by rcases c4 with rfl | ⟨z, rfl⟩ <;> rfl
      clear hL hA h
      simp -implicitDefEqProofs (decide := true) [b7]
      exact Ends.at (hP _ (by simp -implicitDefEqProofs (decide := true) [n2, n3, n4]))
  rw [hb]
  clear hb hL hA h
  generalize b7.drop 1 = BB at *
  simp -implicitDefEqProofs (decide := true) [b7]
  exact main
end K04

/-! part K04I -/
namespace K04
open PySem PySem.Spec L2 Own NT
theorem fmod_e {x : Int} {m : Nat} : x.fmod (m : Nat) = x % (m : Int) := Int.fmod_eq_emod_of_nonneg _ (by omega)
theorem r_law_power {K : Nat} (hK : 1 ≤ K) {a : Int} {e m : Nat} (m2 : 2 ≤ m) (ml : m ≤ 2000000) : pg.run K 8 [.int a, .int (e : Nat), .int (m : Nat)] = .ok (.v (.int (a ^ e % m))) [] := by
  obtain ⟨k, rfl⟩ := dep hK
  obtain ⟨A, hA⟩ : ∃ A : Int, A = a ^ e % m := ⟨_, rfl⟩
  rw [← hA]
  refine ends_run (Q := fun cr => cr = .ok (.v (.int A)) []) (go8 ..) fun P hP => ?_
  have hb : b8 = b8.take 2 ++ b8.drop 2 := rfl
  have mdp : ∀ x : Int, bop .mod (.int x) (.int (m : Nat)) = some (.v (.int (x % m))) := fun x => by rw [← fmod_e]; exact bo_mod (by omega)
  have rng : ∀ x : Int, 0 ≤ x % (m : Int) ∧ x % (m : Int) < m := fun x => ⟨Int.emod_nonneg _ (by omega), Int.emod_lt_of_pos _ (by omega)⟩
  have main : Ends P (evSs (gF k []) (b8.drop 2) [.val (.int (a % m)), .val (.int (e : Nat)), .val (.int (m : Nat)), .val (.int 1)]) := by
    have hb : b8.drop 2 = .wh (.cmp .gt (.var 1) (.int 0)) [.iff (.cmp .eq (.bin .mod (.blt .int [(.var 1)]) (.int 2)) (.int 1)) [.asg 3 (.bin .mod (.blt .int [(.bin .mul (.var 3) (.var 0))]) (.var 2))] [], .asg 0 (.bin .mod (.blt .int [(.bin .mul (.var 0) (.var 0))]) (.var 2)), .asg 1 (.bin .fdiv (.var 1) (.int 2))] :: b8.drop 3 := rfl
    rw [hb, eSs_cons]
    clear hb
    refine ends_wh (fun t ρ => ∃ f b : Int, 0 ≤ f ∧ f < m ∧ 0 ≤ b ∧ b < m ∧ Cg m (f * b ^ t) (a ^ e) ∧ ρ = [.val (.int b), .val (.int (t : Nat)), .val (.int (m : Nat)), .val (.int f)]) e
      ⟨1, a % m, by omega, by omega, (rng a).1, (rng a).2, by rw [Int.one_mul]; exact Cg.mod.pow e, rfl⟩ fun t ρ ⟨f, b, f0, f1, b0, b1, c, e1⟩ => ?_
    subst e1
    by_cases ht : 0 < t
    · have ht' : ((t : Nat) : Int) > 0 := by omega
      refine ⟨true, [.val (.int b), .val (.int (t : Nat)), .val (.int (m : Nat)), .val (.int f)], by simp -implicitDefEqProofs (decide := true) [ht', ht], (fun h => by cases h), fun _ N X hN hX => ?_⟩
      have md2 : bop .mod (.int (t : Nat)) (.int 2) = some (.v (.int ((t % 2 : Nat) : Int))) := by
        have : ((t % 2 : Nat) : Int) = ((t : Nat) : Int).fmod 2 := by rw [Int.fmod_eq_emod_of_nonneg _ (by omega)]; omega
        rw [this]; exact bo_mod (by omega)
      have fd : bop .fdiv (.int (t : Nat)) (.int 2) = some (.v (.int ((t / 2 : Nat) : Int))) := by
        have : ((t / 2 : Nat) : Int) = ((t : Nat) : Int).fdiv 2 := by rw [Int.fdiv_eq_ediv_of_nonneg _ (by omega)]; omega
        rw [this]; exact bo_fdiv (by decide)
      have mu1 : bop .mul (.int f) (.int b) = some (.v (.int (f * b))) := mulS (by omega)
      have mu2 : bop .mul (.int b) (.int b) = some (.v (.int (b * b))) := mulS (by omega)
      have eo : b ^ t = (b * b) ^ (t / 2) * b ^ (t % 2) := by
        have b2 : b * b = b ^ 2 := by grind
        rw [b2, ← Int.pow_mul, ← Int.pow_add]
        congr 1
        omega
      have ho : t % 2 = 0 ∨ t % 2 = 1 := by omega
      rcases ho with ho | ho
      · have nx := hN (t / 2) [.val (.int (b * b % m)), .val (.int ((t / 2 : Nat) : Int)), .val (.int (m : Nat)), .val (.int f)] (by omega) ⟨f, b * b % m, f0, f1, (rng _).1, (rng _).2, by
          rw [eo, ho, Int.pow_zero, Int.mul_one] at c
          exact (Cg.mul .refl (Cg.mod.pow _)).trans c, rfl⟩
        rw [ho] at md2
        clear eo c hA hP ht
        generalize t / 2 = T at *
        simp -implicitDefEqProofs (decide := true) [md2, fd, mu2, mdp]
        exact ends_nx nx
      · have nx := hN (t / 2) [.val (.int (b * b % m)), .val (.int ((t / 2 : Nat) : Int)), .val (.int (m : Nat)), .val (.int (f * b % m))] (by omega) ⟨f * b % m, b * b % m, (rng _).1, (rng _).2, (rng _).1, (rng _).2, by
          rw [eo, ho, Int.pow_one] at c
          refine Cg.trans (Cg.mul Cg.mod (Cg.mod.pow _)) (Cg.trans (Cg.of ?_) c)
          grind, rfl⟩
        rw [ho] at md2
        clear eo c hA hP ht
        generalize t / 2 = T at *
        simp -implicitDefEqProofs (decide := true) [md2, fd, mu1, mu2, mdp]
        exact ends_nx nx
    · have t0 : t = 0 := by omega
      subst t0
      refine ⟨false, [.val (.int b), .val (.int ((0 : Nat) : Int)), .val (.int (m : Nat)), .val (.int f)], by simp -implicitDefEqProofs (decide := true), (fun _ => ?_), (fun h => by cases h)⟩
      rw [Int.pow_zero, Int.mul_one] at c
      have fA : f = A := by
        rw [hA, ← c.mod_eq, Int.emod_eq_of_lt f0 f1]
      rw [fA]
      simp -implicitDefEqProofs (decide := true) [b8]
      exact Ends.at (hP _ (by simp -implicitDefEqProofs (decide := true)))
  have md0 := mdp a
  rw [hb]
  clear hb hA hP mdp rng
  generalize b8.drop 2 = BB at *
  simp -implicitDefEqProofs (decide := true) [b8, md0]
  exact main
theorem rng2_of {F : Fns} {e f : ME} {ρ ρ1 : Rho} {a b : Int} (h : evOs F [e, f] ρ = .ok [.v (.int a), .v (.int b)] ρ1) (ha : -1000000 ≤ a ∧ a ≤ 1000000) (hb : -1000000 ≤ b ∧ b ≤ 1000000) : evI F (.rng [e, f]) ρ = .ok (rngD a (b - a).toNat) ρ1 := by
  rw [eI_rng, h, Rs.bind_ok]
  unfold rngI
  simp only [derfs_cons, derf_v, derfs_nil]
  rw [intOk_small ha, intOk_small hb]
  rfl
/-! ### squares modulo a small prime -/
def sqF (p : Nat) : D → D
  | .int x => .int (x * x % p)
  | d => d
theorem sq_any {p : Nat} (hp : 2 ≤ p) {r : Int} (h0 : 0 ≤ r) : (((rngD 1 (p - 1)).map (sqF p)).any fun y => deq y (.int r)) = sqB p r.toNat := by
  rw [Bool.eq_iff_iff, List.any_eq_true, sqB, List.any_eq_true]
  constructor
  · rintro ⟨y, hy, e⟩
    obtain ⟨d, hd, rfl⟩ := List.mem_map.mp hy
    obtain ⟨i, hi⟩ := List.getElem?_of_mem hd
    have hl := (List.getElem?_eq_some_iff.mp hi).1
    rw [rngD_length] at hl
    have := rngD_get hi
    subst this
    refine ⟨1 + i, List.mem_range.mpr (by omega), ?_⟩
    rw [Bool.and_eq_true, decide_eq_true_iff, decide_eq_true_iff]
    refine ⟨by omega, ?_⟩
    unfold sqF deq at e
    have e : ((1 : Int) + i) * (1 + i) % p = r := by simpa using e
    have e2 : (((1 + i) * (1 + i) % p : Nat) : Int) = ((1 : Int) + i) * (1 + i) % p := by rw [Int.natCast_emod, Int.natCast_mul]; rfl
    omega
  · rintro ⟨x, hx, e⟩
    rw [Bool.and_eq_true, decide_eq_true_iff, decide_eq_true_iff] at e
    rw [List.mem_range] at hx
    refine ⟨sqF p (.int (x : Nat)), List.mem_map.mpr ⟨.int (x : Nat), ?_, rfl⟩, ?_⟩
    · have hl : x - 1 < (rngD 1 (p - 1)).length := by rw [rngD_length]; omega
      have := rngD_get (List.getElem?_eq_getElem hl)
      have e3 : (1 : Int) + ((x - 1 : Nat) : Int) = (x : Nat) := by omega
      rw [e3] at this
      rw [← this]
      exact List.getElem_mem hl
    · unfold sqF deq
      have e2 : ((x * x % p : Nat) : Int) = (x : Int) * x % p := by rw [Int.natCast_emod, Int.natCast_mul]
      have : (x : Int) * x % p = r := by omega
      simp [this]
theorem sq_flat {p : Nat} : ∀ {n : Nat} {lo : Int}, ((rngD lo n).map (sqF p)).all flatD = true
  | 0, _ => rfl
  | n + 1, lo => by
    show ((sqF p (.int lo) :: (rngD (lo + 1) n).map (sqF p)).all flatD) = true
    rw [List.all_cons, sq_flat]
    rfl
theorem r_law_symbol {K : Nat} (hK : 2 ≤ K) {a : Int} {p : Nat} (hp : Odp p) (pl : p ≤ 1000003) : pg.run K 9 [.int a, .int (p : Nat)] = .ok (.v (.int (leg a p))) [] := by
  obtain ⟨k, rfl⟩ := dep (show 1 ≤ K by omega)
  have p3 := hp.three
  have mdp : ∀ x : Int, bop .mod (.int x) (.int (p : Nat)) = some (.v (.int (x % p))) := fun x => by rw [← fmod_e]; exact bo_mod (by omega)
  have md0 := mdp a
  by_cases hd : a % (p : Int) = 0
  · have e : leg a p = 0 := leg_zero (Int.dvd_of_emod_eq_zero hd)
    rw [e, go9]
    rw [hd] at md0
    simp -implicitDefEqProofs (decide := true) [b9, md0]
  · have nd : ¬ (p : Int) ∣ a := fun h => hd (Int.emod_eq_zero_of_dvd h)
    by_cases h60 : p < 60
    · have h60' : ((p : Nat) : Int) < 60 := by omega
      have r0 := Int.emod_nonneg a (show (p : Int) ≠ 0 by omega)
      have an := sq_any (p := p) (by omega) r0
      have ci : cop .inn (.int (a % (p : Int))) (.lst false ((rngD 1 (p - 1)).map (sqF p))) = some (sqB p (a % (p : Int)).toNat) := by
        show (if inOk (.int (a % (p : Int))) ((rngD 1 (p - 1)).map (sqF p)) then some (((rngD 1 (p - 1)).map (sqF p)).any fun y => deq y (.int (a % (p : Int)))) else none) = _
        rw [an]
        have : inOk (.int (a % (p : Int))) ((rngD 1 (p - 1)).map (sqF p)) = true := by
          unfold inOk
          rw [sq_flat]
          rfl
        rw [if_pos this]
      have lv : evE (gF k []) true (.lc (.bin .mod (.blt .int [(.bin .mul (.var 2) (.var 2))]) (.var 1)) (.nm 2) (.rng [(.int 1), (.var 1)]) []) [.val (.int a), .val (.int (p : Nat)), .un] = .ok (.f (.lst false ((rngD 1 (p - 1)).map (sqF p)))) [.val (.int a), .val (.int (p : Nat)), .un] := by
        refine lc_val (ρ1 := [.val (.int a), .val (.int (p : Nat)), .un]) (f := sqF p) ?_ rfl rfl rfl (by rw [rngD_length]; exact Nat.le_trans (show p - 1 ≤ 1000003 by omega) (by decide)) fun d hd => ?_
        · have := rng2_of (F := gF k []) (e := .int 1) (f := .var 1) (ρ := [.val (.int a), .val (.int (p : Nat)), .un]) (ρ1 := [.val (.int a), .val (.int (p : Nat)), .un]) (a := 1) (b := (p : Nat)) (by simp -implicitDefEqProofs (decide := true)) (by omega) (by omega)
          have e8 : (((p : Nat) : Int) - 1).toNat = p - 1 := by omega
          rw [this, e8]
        · obtain ⟨i, hi⟩ := List.getElem?_of_mem hd
          have hl := (List.getElem?_eq_some_iff.mp hi).1
          rw [rngD_length] at hl
          have e := rngD_get hi
          subst e
          have mu : bop .mul (.int (1 + (i : Nat))) (.int (1 + (i : Nat))) = some (.v (.int ((1 + (i : Nat)) * (1 + (i : Nat))))) := mulS (by omega)
          have e9 : sqF p (.int (1 + (i : Nat))) = .int ((1 + (i : Nat)) * (1 + (i : Nat)) % (p : Int)) := rfl
          rw [e9]
          clear e9 hi hd hl an ci
          generalize (1 + ((i : Nat) : Int)) = z at *
          simp -implicitDefEqProofs (decide := true) [lcTurn, mu, mdp]
      have le := leg_sq hp h60 nd
      rw [go9, le]
      generalize (rngD 1 (p - 1)).map (sqF p) = LL at *
      have m2 : ∀ x : Int, bop .mul (.int 2) (.int x) = some (.v (.int (2 * x))) := fun x => mulS' (by decide)
      cases hs : sqB p (a % (p : Int)).toNat with
      | true =>
        rw [hs] at ci
        generalize a % (p : Int) = R at *
        simp -implicitDefEqProofs (decide := true) [b9, md0, hd, h60', lv, ci, m2]
      | false =>
        rw [hs] at ci
        generalize a % (p : Int) = R at *
        simp -implicitDefEqProofs (decide := true) [b9, md0, hd, h60', lv, ci, m2]
    · have h60' : ¬ ((p : Nat) : Int) < 60 := by omega
      have pw := r_law_power (K := k) (by omega) (a := a) (e := (p - 1) / 2) (m := p) (by omega) (by omega)
      have fd : bop .fdiv (.int (((p : Nat) : Int) - 1)) (.int 2) = some (.v (.int (((p - 1) / 2 : Nat) : Int))) := by
        have : (((p - 1) / 2 : Nat) : Int) = (((p : Nat) : Int) - 1).fdiv 2 := by rw [Int.fdiv_eq_ediv_of_nonneg _ (by omega)]; omega
        rw [this]; exact bo_fdiv (by decide)
      have le : leg a p = if a ^ ((p - 1) / 2) % (p : Int) = 1 then 1 else -1 := by
        unfold leg
        rw [if_neg nd]
        have iff : Cg p (a ^ ((p - 1) / 2)) 1 ↔ a ^ ((p - 1) / 2) % (p : Int) = 1 := by
          constructor
          · intro c
            have := c.mod_eq
            rw [this]
            exact Int.emod_eq_of_lt (by omega) (by omega)
          · intro c
            have := Cg.mod (n := (p : Int)) (x := a ^ ((p - 1) / 2))
            rw [c] at this
            exact this.symm
        by_cases c : a ^ ((p - 1) / 2) % (p : Int) = 1
        · rw [if_pos c, if_pos (iff.mpr c)]
        · rw [if_neg c, if_neg (fun h => c (iff.mp h))]
      rw [le, go9]
      generalize a ^ ((p - 1) / 2) % (p : Int) = R at *
      generalize (((p - 1) / 2 : Nat) : Int) = HH at *
      generalize a % (p : Int) = R0 at *
      by_cases c : R = 1
      · simp -implicitDefEqProofs (decide := true) [b9, md0, hd, h60', pw, fd, c, small_of]
      · simp -implicitDefEqProofs (decide := true) [b9, md0, hd, h60', pw, fd, c, small_of]
end K04

/-! part K04J -/
namespace K04
open PySem PySem.Spec L2 Own NT
def ljB : List MS := [.for (.nm 5) (.rng [(.var 4)]) [.asg 2 (.bin .mul (.var 2) (.call 9 [(.var 0), (.var 3)]))]]
theorem lj_turn {k : Nat} (hk : 2 ≤ k) {bd : List MS} (hbd : bd = ljB) {P : Oc → Prop} {q : Nat × Nat} {l : List Nat} {a : Int} {s1 s5 : Own.Slot} (c5 : Cm s5) (o : Odp q.1) (q1 : q.1 ≤ 1000003) (q2 : q.2 ≤ 1000)
    (h : ∀ s5, Cm s5 → P (.nx [.val (.int a), s1, .val (.int (jl a (l ++ List.replicate q.2 q.1))), .val (.int (q.1 : Nat)), .val (.int (q.2 : Nat)), s5])) :
    Ends P (evSs (gF k []) bd [.val (.int a), s1, .val (.int (jl a l)), .val (.int (q.1 : Nat)), .val (.int (q.2 : Nat)), s5]) := by
  have r1 := r_law_symbol (K := k) hk (a := a) o q1
  rw [hbd]
  unfold ljB
  rw [eSs_cons]
  refine ends_for (ds := rngD 0 q.2) (ρ1 := [.val (.int a), s1, .val (.int (jl a l)), .val (.int (q.1 : Nat)), .val (.int (q.2 : Nat)), s5]) (fun j ρ => ∃ s5, Cm s5 ∧ ρ = [.val (.int a), s1, .val (.int (jl a (l ++ List.replicate j q.1))), .val (.int (q.1 : Nat)), .val (.int (q.2 : Nat)), s5])
    (rng1_of (by simp -implicitDefEqProofs (decide := true)) (by omega)) ⟨s5, c5, by rw [List.replicate_zero, List.append_nil]⟩ (fun j d ρ hd ⟨s5, c5, e⟩ => ?_) (fun ρ ⟨s5, c5, e⟩ => ?_)
  · obtain ⟨hj, rfl⟩ := rng_get hd
    subst e
    refine ⟨[.val (.int a), s1, .val (.int (jl a (l ++ List.replicate j q.1))), .val (.int (q.1 : Nat)), .val (.int (q.2 : Nat)), .val (.int (j : Nat))], by rcases c5 with rfl | ⟨z, rfl⟩ <;> rfl, fun N2 X2 hN2 hX2 => ?_⟩
    have e3 : jl a (l ++ List.replicate (j + 1) q.1) = jl a (l ++ List.replicate j q.1) * leg a q.1 := by
      rw [rep_snoc, ← List.append_assoc, jl_app]
      show _ * (leg a q.1 * 1) = _
      rw [Int.mul_one]
    have nx := hN2 [.val (.int a), s1, .val (.int (jl a (l ++ List.replicate (j + 1) q.1))), .val (.int (q.1 : Nat)), .val (.int (q.2 : Nat)), .val (.int (j : Nat))] ⟨_, cm_val, rfl⟩
    rw [e3] at nx
    have lv := leg_val (a := a) (p := q.1)
    have mu : ∀ A, bop .mul (.int A) (.int (leg a q.1)) = some (.v (.int (A * leg a q.1))) := fun A => mulS (by rcases lv with e | e | e <;> rw [e] <;> decide)
    clear e3 h hN2 hX2 lv
    generalize jl a (l ++ List.replicate j q.1) = A at *
    generalize leg a q.1 = B at *
    simp -implicitDefEqProofs (decide := true) [r1, mu]
    exact ends_nx nx
  · subst e
    rw [rngD_length]
    simp -implicitDefEqProofs (decide := true)
    exact Ends.at (h s5 c5)
def OPts (l : List (Nat × Nat)) : Prop := ∀ q ∈ l, Odp q.1 ∧ q.1 ≤ 1000003 ∧ q.2 ≤ 1000
theorem OPts.pts {l : List (Nat × Nat)} (h : OPts l) : Pts l := fun q hq => ⟨(h q hq).1.1, (h q hq).2⟩
theorem OPts.ops {l : List (Nat × Nat)} (h : OPts l) : Ops (exl l) := by
  induction l with
  | nil => intro p hp; cases hp
  | cons q l ih =>
    intro p hp
    rcases List.mem_append.mp (show p ∈ List.replicate q.2 q.1 ++ exl l from hp) with hp | hp
    · rw [List.eq_of_mem_replicate hp]
      exact (h q List.mem_cons_self).1
    · exact ih (fun x hx => h x (List.mem_cons_of_mem _ hx)) p hp
theorem r_law_jacobi {K : Nat} (hK : 3 ≤ K) {a : Int} {l : List (Nat × Nat)} (h : OPts l) : pg.run K 10 [.int a, ptD l] = .ok (.v (.int (jl a (exl l)))) [] := by
  obtain ⟨k, rfl⟩ := dep (show 1 ≤ K by omega)
  obtain ⟨L, hL⟩ : ∃ L, L = ptD l := ⟨_, rfl⟩
  obtain ⟨A, hA⟩ : ∃ A : Int, A = jl a (exl l) := ⟨_, rfl⟩
  rw [← hL, ← hA]
  refine ends_run (Q := fun cr => cr = .ok (.v (.int A)) []) (go10 ..) fun P hP => ?_
  have hb : b10 = b10.take 1 ++ b10.drop 1 := rfl
  have main : Ends P (evSs (gF k []) (b10.drop 1) [.val (.int a), .val L, .val (.int 1), .un, .un, .un]) := by
    have hb : b10.drop 1 = .for (.tp [(.nm 3), (.nm 4)]) (.var 1) ljB :: b10.drop 2 := rfl
    obtain ⟨bd, hbd⟩ : ∃ bd, bd = ljB := ⟨_, rfl⟩
    rw [hb, ← hbd, eSs_cons]
    clear hb
    refine ends_for (ds := l.map pD) (ρ1 := [.val (.int a), .val L, .val (.int 1), .un, .un, .un]) (fun i ρ => ∃ s3 s4 s5, Cm s3 ∧ Cm s4 ∧ Cm s5 ∧ ρ = [.val (.int a), .val L, .val (.int (jl a (exl (l.take i)))), s3, s4, s5])
      (by rw [hL]; unfold ptD; generalize l.map pD = L; simp -implicitDefEqProofs (decide := true)) ⟨_, _, _, cm_un, cm_un, cm_un, rfl⟩ (fun i d ρ hd ⟨s2, s3, s4, c2, c3, c4, e⟩ => ?_) (fun ρ ⟨s2, s3, s4, c2, c3, c4, e⟩ => ?_)
    · subst e
      rw [List.getElem?_map] at hd
      obtain ⟨q, hq, rfl⟩ := Option.map_eq_some_iff.mp hd
      obtain ⟨q0, q1, q2⟩ := h q (List.mem_of_getElem? hq)
      refine ⟨[.val (.int a), .val L, .val (.int (jl a (exl (l.take i)))), .val (.int (q.1 : Nat)), .val (.int (q.2 : Nat)), s4], by rcases c2 with rfl | ⟨z, rfl⟩ <;> rcases c3 with rfl | ⟨z, rfl⟩ <;> rfl, fun N X hN hX => ?_⟩
      refine lj_turn (by omega) hbd c4 q0 q1 q2 fun s4 c4 => ?_
      have e3 : exl (l.take (i + 1)) = exl (l.take i) ++ List.replicate q.2 q.1 := by rw [take_snoc hq, exl_snoc]
      rw [← e3]
      exact hN _ ⟨_, _, s4, cm_val, cm_val, c4, rfl⟩
    · subst e
      rw [List.length_map, List.take_length, ← hA]
      have n2 : ∀ r, noNam (s2 :: r) = noNam r := fun r => by rcases c2 with rfl | ⟨z, rfl⟩ <;> rfl
      have n3 : ∀ r, noNam (s3 :: r) = noNam r := fun r => by rcases c3 with rfl | ⟨z, rfl⟩ <;> rfl
      have n4 : ∀ r, noNam (s4 :: r) = noNam r := fun r => by rcases c4 with rfl | ⟨z, rfl⟩ <;> rfl
      clear hL hA h
      simp -implicitDefEqProofs (decide := true) [b10]
      exact Ends.at (hP _ (by simp -implicitDefEqProofs (decide := true) [n2, n3, n4]))
  rw [hb]
  clear hb hL hA h
  generalize b10.drop 1 = BB at *
  simp -implicitDefEqProofs (decide := true) [b10]
  exact main
/-! ### the program's symbol -/
def jwB : List MS := [.aug 0 .fdiv (.int 2), .iff (.cmp .inn (.bin .mod (.var 1) (.int 8)) (.tup [(.int 3), (.int 5)])) [.asg 2 (.neg (.var 2))] []]
theorem in35 {x : Int} : cop .inn (.int x) (.tup [.int 3, .int 5]) = some (decide (x = 3 ∨ x = 5)) := by
  have : inOk (.int x) [.int 3, .int 5] = true := rfl
  show (if inOk (.int x) [.int 3, .int 5] then some ([D.int 3, .int 5].any fun y => deq y (.int x)) else none) = _
  rw [if_pos this]
  simp only [List.any_cons, List.any_nil, deq, Bool.or_false]
  congr 1
  rw [Bool.eq_iff_iff]
  simp
  omega
/-- one turn of the inner loop: a = 2 x -/
theorem jw_turn {k : Nat} {bd : List MS} (hbd : bd = jwB) {P : Oc → Prop} {x n : Nat} {f : Int}
    (h : P (.nx [.val (.int (x : Nat)), .val (.int (n : Nat)), .val (.int (x8 n * f))])) :
    Ends P (evSs (gF k []) bd [.val (.int ((2 * x : Nat) : Int)), .val (.int (n : Nat)), .val (.int f)]) := by
  rw [hbd]
  unfold jwB
  have md : bop .mod (.int (n : Nat)) (.int 8) = some (.v (.int ((n % 8 : Nat) : Int))) := by
    have : ((n % 8 : Nat) : Int) = ((n : Nat) : Int).fmod 8 := by rw [Int.fmod_eq_emod_of_nonneg _ (by omega)]; omega
    rw [this]; exact bo_mod (by omega)
  have fd : aop .fdiv (.int ((2 * x : Nat) : Int)) (.int 2) = some (.int (x : Nat)) := by
    show (if decide ((0 : Int) < 2 ∧ (2 : Int).natAbs.log2 < 9000) = true then some (D.int (((2 * x : Nat) : Int) / 2)) else none) = _
    rw [if_pos (by decide)]
    congr 2
    omega
  have i3 := in35 (x := ((n % 8 : Nat) : Int))
  have e2 : ((2 * x : Nat) : Int) = 2 * (x : Nat) := by omega
  rw [e2] at fd ⊢
  have hx : x8 n = if n % 8 = 3 ∨ n % 8 = 5 then -1 else 1 := rfl
  rw [hx] at h
  by_cases c : n % 8 = 3 ∨ n % 8 = 5
  · rw [if_pos c] at h
    have c' : ((n % 8 : Nat) : Int) = 3 ∨ ((n % 8 : Nat) : Int) = 5 := by omega
    rw [decide_eq_true c'] at i3
    have e1 : (-1 : Int) * f = -f := by omega
    rw [e1] at h
    clear c c' hx
    generalize ((n % 8 : Nat) : Int) = R at *
    simp -implicitDefEqProofs (decide := true) [Own.augR, fd, md, i3, small_of]
    exact Ends.at h
  · rw [if_neg c] at h
    have c' : ¬ (((n % 8 : Nat) : Int) = 3 ∨ ((n % 8 : Nat) : Int) = 5) := by omega
    rw [decide_eq_false c'] at i3
    rw [Int.one_mul] at h
    clear c c' hx
    generalize ((n % 8 : Nat) : Int) = R at *
    simp -implicitDefEqProofs (decide := true) [Own.augR, fd, md, i3, small_of]
    exact Ends.at h
/-- the factors 2 go -/
theorem j_twos {k : Nat} {P : Oc → Prop} {kk : Rho → Oc} {a n : Nat} (ho : n % 2 = 1) (ha : 0 < a) {f : Int}
    (h : ∀ (x : Nat) (g : Int), 0 < x → x ≤ a → x % 2 = 1 → g * jac (x : Nat) n = f * jac (a : Nat) n → Ends P (kk [.val (.int (x : Nat)), .val (.int (n : Nat)), .val (.int g)])) :
    Ends P ((evS (gF k []) (.wh (.cmp .eq (.bin .mod (.var 0) (.int 2)) (.int 0)) jwB) [.val (.int (a : Nat)), .val (.int (n : Nat)), .val (.int f)]).andThen kk) := by
  obtain ⟨bd, hbd⟩ : ∃ bd, bd = jwB := ⟨_, rfl⟩
  rw [← hbd]
  refine ends_wh (fun m ρ => ∃ (x : Nat) (g : Int), 0 < x ∧ x ≤ a ∧ m = x ∧ g * jac (x : Nat) n = f * jac (a : Nat) n ∧ ρ = [.val (.int (x : Nat)), .val (.int (n : Nat)), .val (.int g)]) a
    ⟨a, f, ha, Nat.le_refl _, rfl, rfl, rfl⟩ fun m ρ ⟨x, g, x0, x1, hm, hj, e⟩ => ?_
  subst e
  have md : bop .mod (.int (x : Nat)) (.int 2) = some (.v (.int ((x % 2 : Nat) : Int))) := by
    have : ((x % 2 : Nat) : Int) = ((x : Nat) : Int).fmod 2 := by rw [Int.fmod_eq_emod_of_nonneg _ (by omega)]; omega
    rw [this]; exact bo_mod (by omega)
  rcases (show x % 2 = 0 ∨ x % 2 = 1 by omega) with h2 | h2
  · rw [h2] at md
    refine ⟨true, [.val (.int (x : Nat)), .val (.int (n : Nat)), .val (.int g)], by simp -implicitDefEqProofs (decide := true) [md], (fun h => by cases h), fun _ N X hN hX => ?_⟩
    obtain ⟨y, hy⟩ : ∃ y, x = 2 * y := ⟨x / 2, by omega⟩
    have nx := hN y [.val (.int (y : Nat)), .val (.int (n : Nat)), .val (.int (x8 n * g))] (by omega) ⟨y, x8 n * g, by omega, by omega, rfl, by
      rw [← hj, hy]
      have : (((2 * y : Nat)) : Int) = 2 * (y : Nat) := by omega
      rw [this, jac_two ho]
      grind, rfl⟩
    rw [hy]
    exact jw_turn hbd nx
  · rw [h2] at md
    refine ⟨false, [.val (.int (x : Nat)), .val (.int (n : Nat)), .val (.int g)], by simp -implicitDefEqProofs (decide := true) [md], (fun _ => h x g x0 x1 h2 hj), (fun h => by cases h)⟩
end K04

/-! part K04L -/
namespace K04
open PySem PySem.Spec L2 Own NT
def jcB : List MS := [.wh (.cmp .eq (.bin .mod (.var 0) (.int 2)) (.int 0)) jwB, .par [0, 1] [(.var 1), (.var 0)], .iff (.andv [(.cmp .eq (.bin .mod (.var 0) (.int 4)) (.int 3)), (.cmp .eq (.bin .mod (.var 1) (.int 4)) (.int 3))]) [.asg 2 (.neg (.var 2))] [], .aug 0 .mod (.var 1)]
theorem mod4 {n : Nat} : bop .mod (.int (n : Nat)) (.int 4) = some (.v (.int ((n % 4 : Nat) : Int))) := by
  have : ((n % 4 : Nat) : Int) = ((n : Nat) : Int).fmod 4 := by rw [Int.fmod_eq_emod_of_nonneg _ (by omega)]; omega
  rw [this]; exact bo_mod (by omega)
theorem jc_turn {k : Nat} {bd : List MS} (hbd : bd = jcB) {P : Oc → Prop} {x n : Nat} (ho : n % 2 = 1) (hx : 0 < x) {f : Int}
    (h : ∀ (x' n' : Nat) (f' : Int), n' % 2 = 1 → x' < x → f' * jac (x' : Nat) n' = f * jac (x : Nat) n → P (.nx [.val (.int (x' : Nat)), .val (.int (n' : Nat)), .val (.int f')])) :
    Ends P (evSs (gF k []) bd [.val (.int (x : Nat)), .val (.int (n : Nat)), .val (.int f)]) := by
  rw [hbd]
  unfold jcB
  rw [eSs_cons]
  refine j_twos ho hx fun y g y0 y1 yo hj => ?_
  have am : aop .mod (.int (n : Nat)) (.int (y : Nat)) = some (.int ((n % y : Nat) : Int)) := by
    show (if decide ((0 : Int) < (y : Nat)) = true then some (D.int (((n : Nat) : Int) % ((y : Nat) : Int))) else none) = _
    rw [if_pos (decide_eq_true (by omega)), Int.natCast_emod]
  have h4 : n % 4 = 1 ∨ n % 4 = 3 := by omega
  have k4 : y % 4 = 1 ∨ y % 4 = 3 := by omega
  have hh := h (n % y) y (g * s4 y n) yo (Nat.lt_of_lt_of_le (Nat.mod_lt _ y0) y1) (by
    rw [← hj, jac_rec ho yo, jac_mod (a := ((n % y : Nat) : Int)) (b := (n : Nat)) yo (by rw [Int.natCast_emod]; exact Cg.mod)]
    grind)
  have m1 := mod4 (n := n)
  have m2 := mod4 (n := y)
  have so : ∀ s : Int, g * s4 y n = if n % 4 = 3 ∧ y % 4 = 3 then -g else g := fun _ => by
    unfold s4
    by_cases c : y % 4 = 3 ∧ n % 4 = 3
    · rw [if_pos c, if_pos ⟨c.2, c.1⟩]; omega
    · rw [if_neg c, if_neg (fun z => c ⟨z.2, z.1⟩)]; omega
  rw [so 0] at hh
  clear so hj h
  rcases h4 with h4 | h4 <;> rcases k4 with k4 | k4 <;> rw [h4] at m1 hh <;> rw [k4] at m2 hh
  · rw [if_neg (by decide)] at hh
    generalize ((n % y : Nat) : Int) = R at *
    simp -implicitDefEqProofs (decide := true) [m1, m2, Own.augR, am]
    exact Ends.at hh
  · rw [if_neg (by decide)] at hh
    generalize ((n % y : Nat) : Int) = R at *
    simp -implicitDefEqProofs (decide := true) [m1, m2, Own.augR, am]
    exact Ends.at hh
  · rw [if_neg (by decide)] at hh
    generalize ((n % y : Nat) : Int) = R at *
    simp -implicitDefEqProofs (decide := true) [m1, m2, Own.augR, am]
    exact Ends.at hh
  · rw [if_pos (by decide)] at hh
    generalize ((n % y : Nat) : Int) = R at *
    simp -implicitDefEqProofs (decide := true) [m1, m2, Own.augR, am]
    exact Ends.at hh
theorem r_jacobi {K : Nat} (hK : 1 ≤ K) {a : Int} {n : Nat} (ho : n % 2 = 1) : pg.run K 0 [.int a, .int (n : Nat)] = .ok (.v (.int (jac a n))) [] := by
  obtain ⟨k, rfl⟩ := dep hK
  obtain ⟨J, hJ⟩ : ∃ J, J = jac a n := ⟨_, rfl⟩
  rw [← hJ]
  refine ends_run (Q := fun cr => cr = .ok (.v (.int J)) []) (go0 ..) fun P hP => ?_
  have hb : b0 = b0.take 2 ++ b0.drop 2 := rfl
  have main : ∀ x : Nat, jac (x : Nat) n = J → Ends P (evSs (gF k []) (b0.drop 2) [.val (.int (x : Nat)), .val (.int (n : Nat)), .val (.int 1)]) := fun x hx => by
    have hb : b0.drop 2 = .wh (.cmp .ne (.var 0) (.int 0)) jcB :: b0.drop 3 := rfl
    obtain ⟨bd, hbd⟩ : ∃ bd, bd = jcB := ⟨_, rfl⟩
    rw [hb, ← hbd, eSs_cons]
    clear hb
    refine ends_wh (fun m ρ => ∃ (y n' : Nat) (f : Int), n' % 2 = 1 ∧ m = y ∧ f * jac (y : Nat) n' = J ∧ ρ = [.val (.int (y : Nat)), .val (.int (n' : Nat)), .val (.int f)]) x ⟨x, n, 1, ho, rfl, by rw [Int.one_mul]; exact hx, rfl⟩ fun m ρ ⟨y, n', f, on, hm, hf, e⟩ => ?_
    subst e
    by_cases y0 : y = 0
    · subst y0
      refine ⟨false, [.val (.int ((0 : Nat) : Int)), .val (.int (n' : Nat)), .val (.int f)], by simp -implicitDefEqProofs (decide := true), (fun _ => ?_), (fun h => by cases h)⟩
      rw [show ((0 : Nat) : Int) = 0 from rfl, jac_zero on] at hf
      by_cases n1 : n' = 1
      · subst n1
        rw [if_pos rfl, Int.mul_one] at hf
        subst hf
        simp -implicitDefEqProofs (decide := true) [b0]
        exact Ends.at (hP _ (by simp -implicitDefEqProofs (decide := true)))
      · rw [if_neg n1, Int.mul_zero] at hf
        have n1' : ¬ ((n' : Nat) : Int) = 1 := by omega
        rw [← hf] at hP
        simp -implicitDefEqProofs (decide := true) [b0, n1, n1']
        exact Ends.at (hP _ (by simp -implicitDefEqProofs (decide := true)))
    · have y0' : ¬ ((y : Nat) : Int) = 0 := by omega
      refine ⟨true, [.val (.int (y : Nat)), .val (.int (n' : Nat)), .val (.int f)], by simp -implicitDefEqProofs (decide := true) [y0, y0'], (fun h => by cases h), fun _ N X hN hX => ?_⟩
      exact jc_turn hbd on (by omega) fun x' n2 f' o2 l2 e2 => hN x' _ (by omega) ⟨x', n2, f', o2, rfl, by rw [e2, hf], rfl⟩
  have md : bop .mod (.int a) (.int (n : Nat)) = some (.v (.int (((a % n).toNat : Nat) : Int))) := by
    have : (((a % n).toNat : Nat) : Int) = a.fmod (n : Nat) := by
      rw [Int.fmod_eq_emod_of_nonneg _ (by omega)]
      exact Int.toNat_of_nonneg (Int.emod_nonneg _ (by omega))
    rw [this]; exact bo_mod (by omega)
  have md2 : bop .mod (.int (n : Nat)) (.int 2) = some (.v (.int 1)) := by
    have : (1 : Int) = ((n : Nat) : Int).fmod 2 := by rw [Int.fmod_eq_emod_of_nonneg _ (by omega)]; omega
    rw [this]; exact bo_mod (by omega)
  have mm := main (a % n).toNat (by
    rw [hJ]
    exact jac_mod ho (by rw [Int.toNat_of_nonneg (Int.emod_nonneg _ (by omega))]; exact Cg.mod))
  have n1 : ¬ ((n : Nat) : Int) < 1 := by omega
  have n1' : ¬ n < 1 := by omega
  have n0 : ¬ n = 0 := by omega
  rw [hb]
  clear hb hJ hP main
  generalize (((a % n).toNat : Nat) : Int) = R at *
  generalize b0.drop 2 = BB at *
  simp -implicitDefEqProofs (decide := true) [b0, md, md2, n1, n1', n0]
  exact mm
theorem r_jacobi_bad {K : Nat} (hK : 3 ≤ K) {a n : Int} (hn : n < 1 ∨ n % 2 = 0) : pg.run K 0 [.int a, .int n] = .exc "InvalidNumber" (.int n) [] := by
  obtain ⟨k, rfl⟩ := dep (show 1 ≤ K by omega)
  have hd : 2 ≤ (gF k []).dep := by show 2 ≤ k; omega
  have md2 : bop .mod (.int n) (.int 2) = some (.v (.int (n % 2))) := by
    have : n % 2 = n.fmod 2 := by rw [Int.fmod_eq_emod_of_nonneg _ (by omega)]
    rw [this]; exact bo_mod (by omega)
  rw [go0]
  by_cases h : n < 1
  · simp -implicitDefEqProofs (decide := true) [b0, h, eS_rai hd]
  · have h2 : n % 2 = 0 := by omega
    rw [h2] at md2
    simp -implicitDefEqProofs (decide := true) [b0, h, md2, eS_rai hd]
theorem r_refused {K : Nat} (hK : 4 ≤ K) {a n : Int} (hn : n < 1 ∨ n % 2 = 0) : pg.run K 11 [.int a, .int n] = .ok (.v (.bl true)) [] := by
  obtain ⟨k, rfl⟩ := dep (show 1 ≤ K by omega)
  have r1 := r_jacobi_bad (K := k) (by omega) (a := a) hn
  rw [go11]
  simp -implicitDefEqProofs (decide := true) [b11, r1]
end K04

/-! part K04M -/
namespace K04
open PySem PySem.Spec L2 Own NT
/-! ### drawn factors -/
def pI (p : Int × Int) : D := .tup [.int p.1, .int p.2]
theorem alikes_int : ∀ {xs ys : List Int}, PySem.W.alikeAll (toPys (xs.map D.int)) (toPys (ys.map D.int)) = true
  | [], _ => by rw [List.map_nil, toPys, PySem.W.alikeAll]
  | _ :: _, [] => by rw [List.map_nil, List.map_cons, toPys, toPys, PySem.W.alikeAll]
  | x :: xs, y :: ys => by
    rw [List.map_cons, List.map_cons, toPys, toPys, PySem.W.alikeAll, alikes_int, toPy, toPy, PySem.W.alike]
    rfl
theorem sort_okP {l : List (Int × Int)} : sortOk (l.map pI) = true := by
  unfold sortOk
  rw [Bool.and_eq_true, Bool.and_eq_true, Bool.or_eq_true]
  refine ⟨eqables_of fun x hx => ?_, List.all_eq_true.mpr fun x hx => List.all_eq_true.mpr fun y hy => ?_, .inl (List.all_eq_true.mpr fun x hx => ?_)⟩
  · obtain ⟨v, _, rfl⟩ := List.mem_map.mp hx
    rfl
  · obtain ⟨v, _, rfl⟩ := List.mem_map.mp hx
    obtain ⟨w, _, rfl⟩ := List.mem_map.mp hy
    unfold pI
    rw [toPy, toPy, PySem.W.alike]
    exact alikes_int (xs := [v.1, v.2]) (ys := [w.1, w.2])
  · obtain ⟨v, hv, rfl⟩ := List.mem_map.mp hx
    rfl
theorem r_take' {K : Nat} (hK : 1 ≤ K) (xs : List Int) {m : Int} (hm : 0 < m) : ∃ v xs', pg.run K 2 [plD xs, .int m] = .ok (.v (.int v)) [plD xs'] ∧ 0 ≤ v ∧ v < m := ⟨_, _, r_take hK hm, tkV_lt hm⟩
/-- the dict of primes with their numbers -/
structure Dc (N : Nat) (ks : List Key) (ds : List D) : Prop where
  len : ks.length = ds.length
  key : ∀ k ∈ ks, ∃ p : Nat, k = .inl (p : Int) ∧ Pri p ∧ p ≤ 1000003
  val : ∀ d ∈ ds, ∃ e : Nat, d = .int (e : Nat) ∧ e ≤ N
  size : ks.length ≤ N
theorem look_mem {k : Key} : ∀ {ks : List Key} {ds : List D}, ks.length = ds.length → k ∈ ks → ∃ d, dlook k ks ds = some d ∧ d ∈ ds
  | [], _, _, h => by cases h
  | j :: ks, [], hl, _ => by simp at hl
  | j :: ks, d :: ds, hl, h => by
    unfold dlook
    by_cases e : j = k
    · rw [if_pos e]
      exact ⟨d, rfl, List.mem_cons_self⟩
    · rw [if_neg e]
      obtain ⟨z, h1, h2⟩ := look_mem (k := k) (ks := ks) (ds := ds) (by simpa using hl) ((List.mem_cons.mp h).resolve_left fun q => e q.symm)
      exact ⟨z, h1, List.mem_cons_of_mem _ h2⟩
theorem look_some {k : Key} {z : D} : ∀ {ks : List Key} {ds : List D}, dlook k ks ds = some z → z ∈ ds
  | [], _, h => by cases h
  | j :: ks, [], h => by cases h
  | j :: ks, d :: ds, h => by
    unfold dlook at h
    by_cases e : j = k
    · rw [if_pos e] at h
      cases h
      exact List.mem_cons_self
    · rw [if_neg e] at h
      exact List.mem_cons_of_mem _ (look_some h)
theorem repl_len {k : Key} {a : D} : ∀ {ks : List Key} {ds : List D}, ks.length = ds.length → (drepl k a ks ds).length = ks.length
  | [], _, h => rfl
  | _ :: _, [], h => by simp at h
  | j :: ks, d :: ds, h => by
    show (drepl k a ks ds).length + 1 = ks.length + 1
    rw [repl_len (by simpa using h)]
theorem repl_mem {k : Key} {a z : D} : ∀ {ks : List Key} {ds : List D}, z ∈ drepl k a ks ds → z = a ∨ z ∈ ds
  | [], _, h => by cases h
  | _ :: _, [], h => by cases h
  | j :: ks, d :: ds, h => by
    rcases List.mem_cons.mp (show z ∈ (if j = k then a else d) :: drepl k a ks ds from h) with h | h
    · split at h
      · exact .inl h
      · exact .inr (h ▸ List.mem_cons_self)
    · exact (repl_mem h).imp id fun h => List.mem_cons_of_mem _ h
theorem Dc.put {N : Nat} {ks : List Key} {ds : List D} (h : Dc N ks ds) {p : Nat} (hp : Pri p) (pl : p ≤ 1000003) (hN : N < 1000000) :
    ∃ e ks' ds', dgetop (.dK ks ds) (.int (p : Nat)) = some e ∧ ∃ c : Nat, e.getD (.int 0) = .int (c : Nat) ∧ dputop (.dK ks ds) (.int (p : Nat)) (.int (c + 1 : Int)) = some (.dK ks' ds') ∧ Dc (N + 1) ks' ds' := by
  have zl : sizeLine = 16777216 := by decide
  have hs := h.size
  obtain ⟨c, hc, hcN⟩ : ∃ c : Nat, (dlook (.inl (p : Int)) ks ds).getD (.int 0) = .int (c : Nat) ∧ c ≤ N := by
    cases hl : dlook (.inl (p : Int)) ks ds with
    | none => exact ⟨0, rfl, Nat.zero_le _⟩
    | some z =>
      obtain ⟨e, he, hN⟩ := h.val z (look_some hl)
      exact ⟨e, he, hN⟩
  refine ⟨dlook (.inl (p : Int)) ks ds, dkeys (.inl (p : Int)) ks, dvals (.inl (p : Int)) (.int (c + 1 : Int)) ks ds, rfl, c, hc, (if_pos (decide_eq_true (by omega))).trans rfl, ?_⟩
  unfold dkeys dvals
  by_cases ha : (ks.any fun j => decide (j = .inl (p : Int))) = true
  · rw [if_pos ha, if_pos ha]
    refine ⟨(repl_len h.len).symm, h.key, fun d hd => ?_, by omega⟩
    rcases repl_mem hd with rfl | hd
    · exact ⟨c + 1, rfl, by omega⟩
    · obtain ⟨e, he, hN⟩ := h.val d hd
      exact ⟨e, he, by omega⟩
  · rw [if_neg ha, if_neg ha]
    have hl := h.len
    refine ⟨by simp [hl], fun k hk => ?_, fun d hd => ?_, by simp; omega⟩
    · rcases List.mem_append.mp hk with hk | hk
      · exact h.key k hk
      · exact ⟨p, List.mem_singleton.mp hk, hp, pl⟩
    · rcases List.mem_append.mp hd with hd | hd
      · obtain ⟨e, he, hN⟩ := h.val d hd
        exact ⟨e, he, by omega⟩
      · exact ⟨c + 1, List.mem_singleton.mp hd, by omega⟩
def dfI : List MS := [.iff (.cmp .le (.bin .mul (.var 3) (.var 7)) (.var 1)) [.asg 3 (.bin .mul (.var 3) (.var 7)), .setd 2 (.var 7) (.bin .add (.dget 2 (.var 7) (.int 0)) (.int 1))] []]
theorem df_in {k : Nat} {bd : List MS} (hbd : bd = dfI) {P : Oc → Prop} {N : Nat} {ks : List Key} {ds : List D} (h : Dc N ks ds) {p : Nat} (hp : Pri p) (pl : p ≤ 1000003) (hN : N < 1000000) {s0 s4 s5 s6 s8 : Own.Slot} {L q : Int}
    (hh : ∀ ks ds q, Dc (N + 1) ks ds → P (.nx [s0, .val (.int L), .own (.dK ks ds), .val (.int q), s4, s5, s6, .val (.int (p : Nat)), s8])) :
    Ends P (evSs (gF k [0]) bd [s0, .val (.int L), .own (.dK ks ds), .val (.int q), s4, s5, s6, .val (.int (p : Nat)), s8]) := by
  rw [hbd]
  unfold dfI
  obtain ⟨e, ks', ds', g1, c, g2, g3, dc⟩ := h.put hp pl hN
  have mu : bop .mul (.int q) (.int (p : Nat)) = some (.v (.int (q * (p : Nat)))) := mulS (by omega)
  have h1 := hh ks' ds' (q * (p : Nat)) dc
  have h2 := hh ks ds q ⟨h.len, h.key, fun d hd => let ⟨e, he, hl⟩ := h.val d hd; ⟨e, he, by omega⟩, by have := h.size; omega⟩
  have g1' : dgetop (.dK ks ds) (.int (p : Nat)) = some e := g1
  clear hh h dc g1
  generalize ((p : Nat) : Int) = pp at *
  by_cases hl : q * pp ≤ L
  · generalize hD : (D.dK ks ds) = DD at *
    have io : ∀ ρ : Rho, ρ[2]? = some (.own DD) → isOwnD ρ 2 = true := fun ρ h => by
      rw [← hD] at h
      exact isOwnD_K h
    generalize (D.dK ks' ds') = DD' at *
    clear hD
    generalize ((c : Nat) : Int) = cc at *
    have e3 : isOwnD [s0, .val (.int L), .own DD, .val (.int (q * pp)), s4, s5, s6, .val (.int pp), s8] 2 = true := io _ rfl
    clear io
    generalize q * pp = QQ at *
    simp -implicitDefEqProofs (decide := true) [mu, hl, e3, g1', g2, g3, -iod_own]
    exact Ends.at h1
  · simp -implicitDefEqProofs (decide := true) [mu, hl]
    exact Ends.at h2
end K04

/-! part K04O -/
namespace K04
open PySem PySem.Spec L2 Own NT
theorem at4 {a b c d : Int} {t : Int} (h0 : 0 ≤ t) (h1 : t < 4) : ∃ n, atI [D.int a, .int b, .int c, .int d] t = some (.int n) ∧ (n = a ∨ n = b ∨ n = c ∨ n = d) := by
  have : t = 0 ∨ t = 1 ∨ t = 2 ∨ t = 3 := by omega
  rcases this with rfl | rfl | rfl | rfl
  · exact ⟨a, rfl, .inl rfl⟩
  · exact ⟨b, rfl, .inr (.inl rfl)⟩
  · exact ⟨c, rfl, .inr (.inr (.inl rfl))⟩
  · exact ⟨d, rfl, .inr (.inr (.inr rfl))⟩
theorem rng1_own {F : Fns} {e : ME} {ρ ρ1 : Rho} {n : Int} (h : evOs F [e] ρ = .ok [.v (.int n)] ρ1) (h0 : 0 ≤ n) (hn : n ≤ 1000000) : evI F (.rng [e]) ρ = .ok (rngD 0 n.toNat) ρ1 := by
  have e' : n = ((n.toNat : Nat) : Int) := by omega
  rw [e'] at h
  have := rng1_of h (by omega)
  simpa using this
def dfN : ME := .ix (.lst [(.int 1), (.int 1), (.int 2), (.bin .add (.int 1) (.call 2 [(.var 0), (.int 6)]))]) (.call 2 [(.var 0), (.int 4)])
theorem df_loop {k : Nat} (hk : 1 ≤ k) {bd : List MS} (hbd : bd = dfI) {P : Oc → Prop} {N : Nat} {ks : List Key} {ds : List D} (h : Dc N ks ds) {p : Nat} (hp : Pri p) (pl : p ≤ 1000003) (hN : N < 900000) {s4 s5 s6 s8 : Own.Slot} (c8 : Cm s8) {xs : List Int} {L q : Int} {kk : Rho → Oc}
    (hh : ∀ xs ks ds q s8, Cm s8 → Dc (N + 6) ks ds → Ends P (kk [.own (plD xs), .val (.int L), .own (.dK ks ds), .val (.int q), s4, s5, s6, .val (.int (p : Nat)), s8])) :
    Ends P ((evS (gF k [0]) (.for (.nm 8) (.rng [dfN]) bd) [.own (plD xs), .val (.int L), .own (.dK ks ds), .val (.int q), s4, s5, s6, .val (.int (p : Nat)), s8]).andThen kk) := by
  obtain ⟨t, xs1, r1, t0, t1⟩ := r_take' (K := k) hk xs (m := 6) (by omega)
  obtain ⟨u, xs2, r2, u0, u1⟩ := r_take' (K := k) hk xs1 (m := 4) (by omega)
  obtain ⟨m, am, hm⟩ := at4 (a := 1) (b := 1) (c := 2) (d := 1 + t) u0 u1
  have m0 : 0 ≤ m ∧ m ≤ 6 := by omega
  have hi : evOs (gF k [0]) [dfN] [.own (plD xs), .val (.int L), .own (.dK ks ds), .val (.int q), s4, s5, s6, .val (.int (p : Nat)), s8] = .ok [.v (.int m)] [.own (plD xs2), .val (.int L), .own (.dK ks ds), .val (.int q), s4, s5, s6, .val (.int (p : Nat)), s8] := by
    unfold dfN
    generalize D.dK ks ds = DD at *
    generalize plD xs = X0 at *
    generalize plD xs1 = X1 at *
    generalize plD xs2 = X2 at *
    simp -implicitDefEqProofs (decide := true) [r1, r2, am, small_of]
  refine ends_for (ds := rngD 0 m.toNat) (ρ1 := [.own (plD xs2), .val (.int L), .own (.dK ks ds), .val (.int q), s4, s5, s6, .val (.int (p : Nat)), s8]) (fun j ρ => ∃ ks ds q s8, Cm s8 ∧ Dc (N + j) ks ds ∧ ρ = [.own (plD xs2), .val (.int L), .own (.dK ks ds), .val (.int q), s4, s5, s6, .val (.int (p : Nat)), s8])
    (rng1_own hi m0.1 (by omega)) ⟨ks, ds, q, s8, c8, h, rfl⟩ (fun j d ρ hd ⟨ks, ds, q, s8, c8, dc, e⟩ => ?_) (fun ρ ⟨ks, ds, q, s8, c8, dc, e⟩ => ?_)
  · obtain ⟨hj, rfl⟩ := rng_get hd
    subst e
    refine ⟨[.own (plD xs2), .val (.int L), .own (.dK ks ds), .val (.int q), s4, s5, s6, .val (.int (p : Nat)), .val (.int (j : Nat))], by rcases c8 with rfl | ⟨z, rfl⟩ <;> rfl, fun N2 X2 hN2 hX2 => ?_⟩
    exact df_in hbd dc hp pl (by omega) fun ks ds q dc => hN2 _ ⟨ks, ds, q, _, cm_val, dc, rfl⟩
  · subst e
    rw [rngD_length] at dc
    exact hh xs2 ks ds q s8 c8 ⟨dc.len, dc.key, fun d hd => let ⟨e, he, hl⟩ := dc.val d hd; ⟨e, he, by omega⟩, by have := dc.size; omega⟩
def dfO : List MS := [.asg 5 (.call 2 [(.var 0), (.int 4)]), .asg 6 (.ix (.lst [(.call 2 [(.var 0), (.int 6)]), (.call 2 [(.var 0), (.int 60)]), (.call 2 [(.var 0), (.int 1000)]), (.call 3 [(.var 0), (.int 900000)])]) (.var 5)), .asg 7 (.call 5 [(.var 6)]), .for (.nm 8) (.rng [dfN]) dfI]
theorem df_turn {k : Nat} (hk : 3 ≤ k) {bd : List MS} (hbd : bd = dfO) {P : Oc → Prop} {N : Nat} {ks : List Key} {ds : List D} (h : Dc N ks ds) (hN : N < 900000) {s4 s5 s6 s7 s8 : Own.Slot} (c5 : Cm s5) (c6 : Cm s6) (c7 : Cm s7) (c8 : Cm s8) {xs : List Int} {L q : Int}
    (hh : ∀ xs ks ds q s5 s6 s7 s8, Cm s5 → Cm s6 → Cm s7 → Cm s8 → Dc (N + 6) ks ds → P (.nx [.own (plD xs), .val (.int L), .own (.dK ks ds), .val (.int q), s4, s5, s6, s7, s8])) :
    Ends P (evSs (gF k [0]) bd [.own (plD xs), .val (.int L), .own (.dK ks ds), .val (.int q), s4, s5, s6, s7, s8]) := by
  obtain ⟨v, xs1, r1, v0, v1⟩ := r_take' (K := k) (by omega) xs (m := 4) (by omega)
  obtain ⟨a, xs2, r2, a0, a1⟩ := r_take' (K := k) (by omega) xs1 (m := 6) (by omega)
  obtain ⟨b, xs3, r3, b0, b1⟩ := r_take' (K := k) (by omega) xs2 (m := 60) (by omega)
  obtain ⟨c, xs4, r4, c0, c1⟩ := r_take' (K := k) (by omega) xs3 (m := 1000) (by omega)
  obtain ⟨e, xs5, r5, e0, e1⟩ := r_far (K := k) (by omega) xs4 (m := 900000) (by omega)
  obtain ⟨n, an, hn⟩ := at4 (a := a) (b := b) (c := c) (d := e) v0 v1
  obtain ⟨p, r6, hp, pl⟩ := r_prime_from (K := k) (by omega) (n := n) (by omega) (by omega)
  have so5 := fun r => cm_set (F := gF k [0]) (i := 5) c5 r
  have so6 := fun r => cm_set (F := gF k [0]) (i := 6) c6 r
  have so7 := fun r => cm_set (F := gF k [0]) (i := 7) c7 r
  obtain ⟨bi, hbi⟩ : ∃ bi, bi = dfI := ⟨_, rfl⟩
  have lp := df_loop (k := k) (by omega) hbi (P := P) h hp pl hN (s4 := s4) (s5 := .val (.int v)) (s6 := .val (.int n)) (s8 := s8) c8 (xs := xs5) (L := L) (q := q) (kk := fun ρ => .nx ρ) fun xs ks ds q s8 c8 dc => Ends.at (hh xs ks ds q _ _ _ s8 cm_val cm_val cm_val c8 dc)
  rw [hbd]
  unfold dfO
  rw [← hbi]
  clear hbd hbi hh h hn
  generalize MS.for (.nm 8) (.rng [dfN]) bi = BB at *
  generalize D.dK ks ds = DD at *
  generalize plD xs = X0 at *
  generalize plD xs1 = X1 at *
  generalize plD xs2 = X2 at *
  generalize plD xs3 = X3 at *
  generalize plD xs4 = X4 at *
  generalize plD xs5 = X5 at *
  generalize ((p : Nat) : Int) = pp at *
  simp -implicitDefEqProofs (decide := true) [r1, r2, r3, r4, r5, an, r6, so5, so6, so7, small_of]
  exact lp
/-! ### the list of the parts -/
def pgF (ks : List Key) (ds : List D) : D → Option D
  | .int p => (dlook (.inl p) ks ds).map fun e => .tup [.int p, e]
  | _ => none
theorem pg_list {N : Nat} {ks : List Key} {ds : List D} (h : Dc N ks ds) : ∀ {ks' : List Key}, (∀ k ∈ ks', k ∈ ks) → ∃ l : List (Nat × Nat), (ks'.map keyD).filterMap (pgF ks ds) = l.map pD ∧ (∀ q ∈ l, Pri q.1 ∧ q.1 ≤ 1000003 ∧ q.2 ≤ N) ∧ l.length = ks'.length
  | [], _ => ⟨[], rfl, (fun q hq => by cases hq), rfl⟩
  | k :: ks', hs => by
    obtain ⟨l, h1, h2, h3⟩ := pg_list h (ks' := ks') fun x hx => hs x (List.mem_cons_of_mem _ hx)
    have hk := hs k List.mem_cons_self
    obtain ⟨p, rfl, hp, pl⟩ := h.key k hk
    obtain ⟨d, hd, md⟩ := look_mem h.len hk
    obtain ⟨e, rfl, he⟩ := h.val d md
    refine ⟨(p, e) :: l, ?_, fun q hq => ?_, by simp [h3]⟩
    · have e1 : pgF ks ds (keyD (.inl (p : Int))) = some (pD (p, e)) := by
        show (dlook (.inl (p : Int)) ks ds).map _ = _
        rw [hd]
        rfl
      rw [List.map_cons, List.filterMap_cons, e1, h1]
      rfl
    · rcases List.mem_cons.mp hq with rfl | hq
      · exact ⟨hp, pl, he⟩
      · exact h2 q hq
theorem of_sub {l : List (Nat × Nat)} : ∀ {xs : List D}, (∀ x ∈ xs, x ∈ l.map pD) → ∃ m : List (Nat × Nat), xs = m.map pD ∧ ∀ q ∈ m, q ∈ l
  | [], _ => ⟨[], rfl, fun q hq => by cases hq⟩
  | x :: xs, h => by
    obtain ⟨m, h1, h2⟩ := of_sub (l := l) (xs := xs) fun y hy => h y (List.mem_cons_of_mem _ hy)
    obtain ⟨q, hq, e⟩ := List.mem_map.mp (h x List.mem_cons_self)
    refine ⟨q :: m, by rw [List.map_cons, h1, e], fun z hz => ?_⟩
    rcases List.mem_cons.mp hz with rfl | hz
    · exact hq
    · exact h2 z hz
theorem sort_parts {l : List (Nat × Nat)} : ∃ m : List (Nat × Nat), bltop .sorted [.lst false (l.map pD)] = some (.f (ptD m)) ∧ (∀ q ∈ m, q ∈ l) ∧ m.length = l.length := by
  have e : l.map pD = (l.map fun q => ((q.1 : Int), (q.2 : Int))).map pI := by rw [List.map_map]; rfl
  have ok : sortOk (l.map pD) = true := by rw [e]; exact sort_okP
  obtain ⟨m, h1, h2⟩ := of_sub (l := l) (xs := sortD (l.map pD)) fun x hx => (List.mergeSort_perm _ _).mem_iff.mp hx
  refine ⟨m, ?_, h2, by
    have := (List.mergeSort_perm (l.map pD) (PySem.W.dataLe false toPy)).length_eq
    have e2 : (sortD (l.map pD)).length = (l.map pD).length := this
    rw [h1, List.length_map, List.length_map] at e2
    exact e2⟩
  show (if sortOk (l.map pD) then some (VR.f (.lst false (sortD (l.map pD)))) else none) = _
  rw [if_pos ok, h1]
  rfl
end K04

/-! part K04R -/
namespace K04
open PySem PySem.Spec L2 Own NT
theorem parts_lc {k : Nat} {N : Nat} {ks : List Key} {ds : List D} (h : Dc N ks ds) (hN : N ≤ 1000) {s0 s1 s3 s4 s5 s6 s7 s8 : Own.Slot} (c7 : Cm s7) : ∃ l : List (Nat × Nat), Pts l ∧ l.length ≤ 1000 ∧
    evE (gF k [0]) true (.lc (.tup [(.var 7), (.dix 2 (.var 7))]) (.nm 7) (.dky 2) []) [s0, s1, .own (.dK ks ds), s3, s4, s5, s6, s7, s8] = .ok (.f (.lst false (l.map pD))) [s0, s1, .val (.dK ks ds), s3, s4, s5, s6, s7, s8] := by
  obtain ⟨l, h1, h2, h3⟩ := pg_list h (ks' := ks) fun k hk => hk
  refine ⟨l, fun q hq => ⟨(h2 q hq).1, (h2 q hq).2.1, Nat.le_trans (h2 q hq).2.2 hN⟩, by have := h.size; omega, ?_⟩
  rw [← h1]
  have hs := h.size
  refine lc_gval [s0, s1, .val (.dK ks ds), s3, s4, s5, s6, .un, s8] (ρ1 := [s0, s1, .val (.dK ks ds), s3, s4, s5, s6, s7, s8]) ?_ (by rcases c7 with rfl | ⟨z, rfl⟩ <;> rfl) rfl rfl rfl (by rw [List.length_map]; omega) fun d hd => ?_
  · simp -implicitDefEqProofs (decide := true)
  · obtain ⟨k', hk', rfl⟩ := List.mem_map.mp hd
    obtain ⟨p, rfl, _⟩ := h.key k' hk'
    obtain ⟨e, he, _⟩ := look_mem h.len hk'
    have e1 : pgF ks ds (keyD (.inl (p : Int))) = some (.tup [.int (p : Nat), e]) := by
      show (dlook (.inl (p : Int)) ks ds).map _ = _
      rw [he]
      rfl
    have e2 : keyD (.inl (p : Int)) = .int (p : Nat) := rfl
    rw [e1, e2]
    have g : dgetop (.dK ks ds) (.int (p : Nat)) = some (some e) := by
      show some (dlook (.inl (p : Int)) ks ds) = _
      rw [he]
    clear e1 e2 he hd hk' h h1 h2 hs
    generalize ((p : Nat) : Int) = pp at *
    simp -implicitDefEqProofs (decide := true) [lcTurn, g, -dg_K, small_of]
theorem r_drawn {K : Nat} (hK : 5 ≤ K) (xs : List Int) {L : Int} : ∃ l xs', pg.run K 6 [plD xs, .int L] = .ok (.f (ptD l)) [plD xs'] ∧ Pts l ∧ l.length ≤ 1000 := by
  obtain ⟨k, rfl⟩ := dep (show 1 ≤ K by omega)
  refine ends_run (Q := fun cr => ∃ l xs', cr = .ok (.f (ptD l)) [plD xs'] ∧ Pts l ∧ l.length ≤ 1000) (go6 ..) fun P hP => ?_
  obtain ⟨v, xs1, r1, v0, v1⟩ := r_take' (K := k) (by omega) xs (m := 7) (by omega)
  have main : Ends P (evSs (gF k [0]) (b6.drop 2) [.own (plD xs), .val (.int L), .own (.dK [] []), .val (.int 1), .un, .un, .un, .un, .un]) := by
    obtain ⟨bd, hbd⟩ : ∃ bd, bd = dfO := ⟨_, rfl⟩
    have hb : b6.drop 2 = .for (.nm 4) (.rng [(.bin .add (.int 1) (.call 2 [(.var 0), (.int 7)]))]) dfO :: b6.drop 3 := rfl
    rw [hb, ← hbd, eSs_cons]
    clear hb
    have hi : evOs (gF k [0]) [(.bin .add (.int 1) (.call 2 [(.var 0), (.int 7)]))] [.own (plD xs), .val (.int L), .own (.dK [] []), .val (.int 1), .un, .un, .un, .un, .un] = .ok [.v (.int (1 + v))] [.own (plD xs1), .val (.int L), .own (.dK [] []), .val (.int 1), .un, .un, .un, .un, .un] := by
      generalize plD xs = X0 at *
      generalize plD xs1 = X1 at *
      simp -implicitDefEqProofs (decide := true) [r1]
    refine ends_for (ds := rngD 0 (1 + v).toNat) (ρ1 := [.own (plD xs1), .val (.int L), .own (.dK [] []), .val (.int 1), .un, .un, .un, .un, .un]) (fun j ρ => ∃ xs ks ds q s4 s5 s6 s7 s8, Cm s4 ∧ Cm s5 ∧ Cm s6 ∧ Cm s7 ∧ Cm s8 ∧ Dc (6 * j) ks ds ∧ ρ = [.own (plD xs), .val (.int L), .own (.dK ks ds), .val (.int q), s4, s5, s6, s7, s8])
      (rng1_own hi (by omega) (by omega)) ⟨xs1, [], [], 1, _, _, _, _, _, cm_un, cm_un, cm_un, cm_un, cm_un, ⟨rfl, (fun k hk => by cases hk), (fun k hk => by cases hk), Nat.le_refl _⟩, rfl⟩ (fun j d ρ hd ⟨xs, ks, ds, q, s4, s5, s6, s7, s8, c4, c5, c6, c7, c8, dc, e⟩ => ?_) (fun ρ ⟨xs, ks, ds, q, s4, s5, s6, s7, s8, c4, c5, c6, c7, c8, dc, e⟩ => ?_)
    · obtain ⟨hj, rfl⟩ := rng_get hd
      subst e
      refine ⟨[.own (plD xs), .val (.int L), .own (.dK ks ds), .val (.int q), .val (.int (j : Nat)), s5, s6, s7, s8], by rcases c4 with rfl | ⟨z, rfl⟩ <;> rfl, fun N2 X2 hN2 hX2 => ?_⟩
      exact df_turn (by omega) hbd dc (by omega) c5 c6 c7 c8 fun xs ks ds q s5 s6 s7 s8 c5 c6 c7 c8 dc => hN2 _ ⟨xs, ks, ds, q, _, s5, s6, s7, s8, cm_val, c5, c6, c7, c8, dc, rfl⟩
    · subst e
      rw [rngD_length] at dc
      obtain ⟨l, pl, ll, lv⟩ := parts_lc (k := k) dc (by omega) c7 (s0 := .own (plD xs)) (s1 := .val (.int L)) (s3 := .val (.int q)) (s4 := s4) (s5 := s5) (s6 := s6) (s8 := s8)
      obtain ⟨m, so, sm, sl⟩ := sort_parts (l := l)
      have hq := fun o h => hP o ⟨m, xs, h, fun q hq => pl q (sm q hq), by omega⟩
      have n4 : ∀ r, noNam (s4 :: r) = noNam r := fun r => by rcases c4 with rfl | ⟨z, rfl⟩ <;> rfl
      have n5 : ∀ r, noNam (s5 :: r) = noNam r := fun r => by rcases c5 with rfl | ⟨z, rfl⟩ <;> rfl
      have n6 : ∀ r, noNam (s6 :: r) = noNam r := fun r => by rcases c6 with rfl | ⟨z, rfl⟩ <;> rfl
      have n7 : ∀ r, noNam (s7 :: r) = noNam r := fun r => by rcases c7 with rfl | ⟨z, rfl⟩ <;> rfl
      have n8 : ∀ r, noNam (s8 :: r) = noNam r := fun r => by rcases c8 with rfl | ⟨z, rfl⟩ <;> rfl
      clear hP sm pl dc ll sl
      unfold ptD at *
      generalize D.dK ks ds = DD at *
      generalize l.map pD = LL at *
      generalize m.map pD = MM at *
      generalize plD xs = X0 at *
      simp -implicitDefEqProofs (decide := true) [b6, lv, so]
      exact Ends.at (hq _ (by simp -implicitDefEqProofs (decide := true) [n4, n5, n6, n7, n8]))
  have hb : b6 = b6.take 2 ++ b6.drop 2 := rfl
  rw [hb]
  clear hb hP r1
  generalize b6.drop 2 = BB at *
  generalize plD xs = X0 at *
  simp -implicitDefEqProofs (decide := true) [b6]
  exact main
end K04

/-! part K04S -/
namespace K04
open PySem PySem.Spec L2 Own NT
theorem at5 {a b c d e : Int} {t : Int} (h0 : 0 ≤ t) (h1 : t < 5) : ∃ n, atI [D.int a, .int b, .int c, .int d, .int e] t = some (.int n) ∧ (n = a ∨ n = b ∨ n = c ∨ n = d ∨ n = e) := by
  have : t = 0 ∨ t = 1 ∨ t = 2 ∨ t = 3 ∨ t = 4 := by omega
  rcases this with rfl | rfl | rfl | rfl | rfl
  · exact ⟨a, rfl, .inl rfl⟩
  · exact ⟨b, rfl, .inr (.inl rfl)⟩
  · exact ⟨c, rfl, .inr (.inr (.inl rfl))⟩
  · exact ⟨d, rfl, .inr (.inr (.inr (.inl rfl)))⟩
  · exact ⟨e, rfl, .inr (.inr (.inr (.inr rfl)))⟩
theorem jl_val {a : Int} : ∀ {ps : List Nat}, jl a ps = -1 ∨ jl a ps = 0 ∨ jl a ps = 1
  | [] => .inr (.inr rfl)
  | p :: ps => small_mul leg_val jl_val
theorem pow12 : bop .pow (.int 10) (.int 12) = some (.v (.int 1000000000000)) := rfl
theorem pow9 : bop .pow (.int 10) (.int 9) = some (.v (.int 1000000000)) := rfl
theorem fk2a : flagsK [false, false] [1, 0] 0 0 = [] := rfl
theorem fk2b : flagsK [false, false] [1, 0] 0 2 = [false, false] := rfl
theorem pk2 {x y : VR} : pick [1, 0] [x, y] = [y, x] := rfl
theorem ne_int {i : Int} : cop .ne (.int i) (.int i) = some false := by simp [cop, eqOk, scalD, deq]
/-- odd parts -/
def odF : D → Option D
  | .tup [.int p, e] => if p = 2 then none else some (.tup [.int p, e])
  | _ => none
theorem od_map : ∀ {l : List (Nat × Nat)}, (l.map pD).filterMap odF = (l.filter fun q => decide (q.1 ≠ 2)).map pD
  | [] => rfl
  | q :: l => by
    rw [List.map_cons, List.filterMap_cons, od_map, List.filter_cons]
    by_cases h : q.1 = 2
    · have h' : ((q.1 : Nat) : Int) = 2 := by omega
      have : odF (pD q) = none := if_pos h'
      rw [this, h]
      rfl
    · have h' : ¬ ((q.1 : Nat) : Int) = 2 := by omega
      have : odF (pD q) = some (pD q) := if_neg h'
      rw [this, decide_eq_true h]
      rfl
theorem od_ok {l : List (Nat × Nat)} (h : Pts l) : OPts (l.filter fun q => decide (q.1 ≠ 2)) := fun q hq => by
  obtain ⟨h1, h2⟩ := List.mem_filter.mp hq
  have h2 := of_decide_eq_true h2
  obtain ⟨a, b, c⟩ := h q h1
  refine ⟨⟨a, ?_⟩, b, c⟩
  have : q.1 % 2 = 0 ∨ q.1 % 2 = 1 := by omega
  rcases this with e | e
  · rcases a.2 2 (Nat.dvd_of_mod_eq_zero e) with z | z
    · omega
    · exact absurd z.symm h2
  · exact e
def ptsE : ME := .lc (.var 11) (.nm 11) (.call 6 [(.var 1), (.bin .pow (.int 10) (.int 12))]) [(.cmp .ne (.ix (.var 11) (.int 0)) (.int 2))]
theorem pts_lc {k : Nat} (hk : 5 ≤ k) (xs : List Int) : ∃ (l : List (Nat × Nat)) (xs' : List Int), OPts l ∧ l.length ≤ 1000 ∧ ∀ {s0 s2 s3 s4 s5 s6 s7 s8 s9 s10 s11 : Own.Slot}, Cm s11 →
    evE (gF k []) false ptsE [s0, .own (plD xs), s2, s3, s4, s5, s6, s7, s8, s9, s10, s11] = .ok (.f (ptD l)) [s0, .own (plD xs'), s2, s3, s4, s5, s6, s7, s8, s9, s10, s11] := by
  obtain ⟨l, xs', r1, pl, ll⟩ := r_drawn (K := k) hk xs (L := 1000000000000)
  refine ⟨l.filter fun q => decide (q.1 ≠ 2), xs', od_ok pl, Nat.le_trans (List.length_filter_le _ _) ll, fun {s0 s2 s3 s4 s5 s6 s7 s8 s9 s10 s11} c11 => ?_⟩
  unfold ptD
  rw [← od_map]
  refine lc_gval [s0, .own (plD xs'), s2, s3, s4, s5, s6, s7, s8, s9, s10, .un] (ρ1 := [s0, .own (plD xs'), s2, s3, s4, s5, s6, s7, s8, s9, s10, s11]) ?_ (by rcases c11 with rfl | ⟨z, rfl⟩ <;> rfl) rfl rfl rfl ?_ fun d hd => ?_
  · unfold ptD at r1
    generalize l.map pD = LL at *
    generalize plD xs = X0 at *
    generalize plD xs' = X1 at *
    simp -implicitDefEqProofs (decide := true) [pow12, r1]
  · rw [List.length_map]
    omega
  · obtain ⟨q, hq, rfl⟩ := List.mem_map.mp hd
    have ix : ixop (pD q) (.int 0) = some (.int (q.1 : Nat)) := rfl
    have e0 : odF (pD q) = if ((q.1 : Nat) : Int) = 2 then none else some (pD q) := rfl
    rw [e0]
    generalize ((q.1 : Nat) : Int) = p at *
    generalize pD q = Q at *
    have cn : cop .ne (.int p) (.int 2) = some (!decide (p = 2)) := by
      have : deq (.int p) (.int 2) = decide (p = 2) := by unfold deq; rw [Bool.eq_iff_iff]; simp
      show (if eqOk (.int p) (.int 2) then some (!deq (.int p) (.int 2)) else none) = _
      rw [this]
      rfl
    by_cases h : p = 2
    · rw [decide_eq_true h] at cn
      rw [if_pos h]
      simp -implicitDefEqProofs (decide := true) [lcTurn, ix, cn]
    · rw [decide_eq_false h] at cn
      rw [if_neg h]
      simp -implicitDefEqProofs (decide := true) [lcTurn, ix, cn]
end K04

/-! part K04T -/
namespace K04
open PySem PySem.Spec L2 Own NT
def lwI : List MS := [.asg 9 (.call 10 [(.var 6), (.var 3)]), .asg 10 (.call 0 [(.var 6), (.var 4)]), .iff (.orv [(.notv (.isi .int (.var 10))), (.isi .bool (.var 10)), (.cmp .ne (.var 10) (.var 9))]) [.ret (.bl false)] [], .iff (.cmp .ne (.callK 0 [] [(.var 4), (.bin .add (.var 6) (.ix (.lst [(.var 4), (.bin .sub (.int 0) (.var 4))]) (.blt .int [(.cmp .gt (.var 6) (.int 0))])))] [1, 0]) (.var 9)) [.ret (.bl false)] []]
theorem lw_in {k : Nat} (hk : 3 ≤ k) {bd : List MS} (hbd : bd = lwI) {P : Oc → Prop} {l : List (Nat × Nat)} (h : OPts l) {n : Nat} (hn : n = prd (exl l)) {a : Int} {s0 s1 s2 s5 s7 s8 s9 s10 s11 : Own.Slot} (c9 : Cm s9) (c10 : Cm s10)
    (hh : ∀ s9 s10, Cm s9 → Cm s10 → P (.nx [s0, s1, s2, .val (ptD l), .val (.int (n : Nat)), s5, .val (.int a), s7, s8, s9, s10, s11])) :
    Ends P (evSs (gF k []) bd [s0, s1, s2, .val (ptD l), .val (.int (n : Nat)), s5, .val (.int a), s7, s8, s9, s10, s11]) := by
  have o := h.ops
  have no : n % 2 = 1 := by rw [hn]; exact o.odd
  have r1 := r_law_jacobi (K := k) (by omega) (a := a) h
  have r2 : ∀ b : Int, Cg n b a → pg.run k 0 [.int b, .int (n : Nat)] = .ok (.v (.int (jl a (exl l)))) [] := fun b c => by
    rw [r_jacobi (by omega) no, jac_mod no c, jac_of o hn.symm]
  have q1 := r2 a .refl
  have q2 := r2 (a + (n : Nat)) ⟨1, by omega⟩
  have q3 := r2 (a + -(n : Nat)) ⟨-1, by omega⟩
  have so9 := fun r => cm_set (F := gF k []) (i := 9) c9 r
  have so10 := fun r => cm_set (F := gF k []) (i := 10) c10 r
  have g := hh _ _ (cm_val (d := .int (jl a (exl l)))) (cm_val (d := .int (jl a (exl l))))
  have nn := ne_int (i := jl a (exl l))
  rw [hbd]
  unfold lwI
  clear hh r2 o no hn h hbd
  generalize jl a (exl l) = J at *
  generalize ptD l = L at *
  generalize ((n : Nat) : Int) = nI at *
  by_cases ha : a > 0
  · simp -implicitDefEqProofs (decide := true) [r1, q1, q3, so9, so10, nn, isTy, fk2a, fk2b, pk2, ha, small_of]
    exact Ends.at g
  · simp -implicitDefEqProofs (decide := true) [r1, q1, q2, so9, so10, nn, isTy, fk2a, fk2b, pk2, ha, small_of]
    exact Ends.at g
def lwD : List MS := [.par [6, 7] [(.ix (.var 5) (.int 4)), (.bin .add (.int 1) (.call 2 [(.var 1), (.int 900)]))], .iff (.cmp .ne (.call 0 [(.bin .mul (.var 6) (.var 7)), (.var 4)]) (.bin .mul (.call 10 [(.var 6), (.var 3)]) (.call 10 [(.var 7), (.var 3)]))) [.ret (.bl false)] [], .asg 8 (.ix (.lst [(.int 0), (.bin .add (.var 4) (.int 1)), (.bin .sub (.int 0) (.var 4)), (.bin .mul (.int 2) (.call 3 [(.var 1), (.bin .pow (.int 10) (.int 9))])), (.neg (.int 1))]) (.call 2 [(.var 1), (.int 5)])), .iff (.notv (.call 11 [(.ix (.var 5) (.int 4)), (.var 8)])) [.ret (.bl false)] []]
theorem lw_end {k : Nat} (hk : 5 ≤ k) {bd : List MS} (hbd : bd = lwD) {P : Oc → Prop} {l : List (Nat × Nat)} (h : OPts l) {n : Nat} (hn : n = prd (exl l)) {a : Int} {NU : D} (h4 : ixop NU (.int 4) = some (.int a)) (xs : List Int) {s0 s2 s6 s7 s8 s9 s10 s11 : Own.Slot} (c6 : Cm s6) (c7 : Cm s7) (c8 : Cm s8)
    (hh : ∀ xs s6 s7 s8, Cm s6 → Cm s7 → Cm s8 → P (.nx [s0, .own (plD xs), s2, .val (ptD l), .val (.int (n : Nat)), .val NU, s6, s7, s8, s9, s10, s11])) :
    Ends P (evSs (gF k []) bd [s0, .own (plD xs), s2, .val (ptD l), .val (.int (n : Nat)), .val NU, s6, s7, s8, s9, s10, s11]) := by
  have o := h.ops
  have no : n % 2 = 1 := by rw [hn]; exact o.odd
  obtain ⟨v, xs1, r1, v0, v1⟩ := r_take' (K := k) (by omega) xs (m := 900) (by omega)
  obtain ⟨f, xs2, r2, f0, f1⟩ := r_far (K := k) (by omega) xs1 (m := 1000000000) (by omega)
  obtain ⟨u, xs3, r3, u0, u1⟩ := r_take' (K := k) (by omega) xs2 (m := 5) (by omega)
  obtain ⟨z, az, hz⟩ := at5 (a := 0) (b := (n : Nat) + 1) (c := -(n : Nat)) (d := 2 * f) (e := -1) u0 u1
  have r4 := r_refused (K := k) (by omega) (a := a) (n := z) (by omega)
  have j1 := r_law_jacobi (K := k) (by omega) (a := a) h
  have j2 := r_law_jacobi (K := k) (by omega) (a := 1 + v) h
  have j3 : pg.run k 0 [.int (a * (1 + v)), .int (n : Nat)] = .ok (.v (.int (jl a (exl l) * jl (1 + v) (exl l)))) [] := by
    rw [r_jacobi (by omega) no, jac_of o hn.symm, jl_mul o]
  have m1 : bop .mul (.int a) (.int (1 + v)) = some (.v (.int (a * (1 + v)))) := mulS (by omega)
  have jv := jl_val (a := a) (ps := exl l)
  have m2 : ∀ y : Int, bop .mul (.int (jl a (exl l))) (.int y) = some (.v (.int (jl a (exl l) * y))) := fun y => mulS' (by rcases jv with e | e | e <;> rw [e] <;> decide)
  have m3 : bop .mul (.int 2) (.int f) = some (.v (.int (2 * f))) := mulS' (by decide)
  have so6 := fun r => cm_set (F := gF k []) (i := 6) c6 r
  have so7 := fun r => cm_set (F := gF k []) (i := 7) c7 r
  have so8 := fun r => cm_set (F := gF k []) (i := 8) c8 r
  have g := hh xs3 (.val (.int a)) (.val (.int (1 + v))) (.val (.int z)) cm_val cm_val cm_val
  have nn := ne_int (i := jl a (exl l) * jl (1 + v) (exl l))
  rw [hbd]
  unfold lwD
  clear hh o no hn h hbd hz jv
  generalize jl a (exl l) = J at *
  generalize jl (1 + v) (exl l) = J2 at *
  generalize ptD l = L at *
  generalize ((n : Nat) : Int) = nI at *
  generalize a * (1 + v) = AV at *
  generalize plD xs = X0 at *
  generalize plD xs1 = X1 at *
  generalize plD xs2 = X2 at *
  generalize plD xs3 = X3 at *
  simp -implicitDefEqProofs (decide := true) [r1, r2, r3, r4, az, h4, j1, j2, j3, m1, m2, m3, so6, so7, so8, nn, pow9, small_of]
  exact Ends.at g
/-- the numbers -/
def NuOk (xs : List Int) : Prop := 7 ≤ xs.length ∧ xs.length ≤ 8
theorem nu_at {xs : List Int} (h : NuOk xs) : ∃ a, ixop (.lst false (xs.map D.int)) (.int 4) = some (.int a) := by
  have hl : 4 < xs.length := by have := h.1; omega
  refine ⟨xs[4], ?_⟩
  show atI (xs.map D.int) ((4 : Nat) : Int) = _
  exact Own.atI_nat (by rw [List.getElem?_map, List.getElem?_eq_getElem hl]; rfl)
theorem lw_for {k : Nat} (hk : 5 ≤ k) {b1 b2 : List MS} (hb1 : b1 = lwI) (hb2 : b2 = lwD) {P : Oc → Prop} {l : List (Nat × Nat)} (h : OPts l) {n : Nat} (hn : n = prd (exl l)) {nu : List Int} (hnu : NuOk nu) (xs : List Int) {s0 s2 s6 s7 s8 s9 s10 s11 : Own.Slot} (c6 : Cm s6) (c7 : Cm s7) (c8 : Cm s8) (c9 : Cm s9) (c10 : Cm s10)
    (hh : ∀ xs s6 s7 s8 s9 s10, Cm s6 → Cm s7 → Cm s8 → Cm s9 → Cm s10 → P (.nx [s0, .own (plD xs), s2, .val (ptD l), .val (.int (n : Nat)), .val (.lst false (nu.map D.int)), s6, s7, s8, s9, s10, s11])) :
    Ends P (evSs (gF k []) (.for (.nm 6) (.var 5) b1 :: b2) [s0, .own (plD xs), s2, .val (ptD l), .val (.int (n : Nat)), .own (.lst false (nu.map D.int)), s6, s7, s8, s9, s10, s11]) := by
  rw [eSs_cons]
  refine ends_for (ds := nu.map D.int) (ρ1 := [s0, .own (plD xs), s2, .val (ptD l), .val (.int (n : Nat)), .val (.lst false (nu.map D.int)), s6, s7, s8, s9, s10, s11]) (fun j ρ => ∃ s6 s9 s10, Cm s6 ∧ Cm s9 ∧ Cm s10 ∧ ρ = [s0, .own (plD xs), s2, .val (ptD l), .val (.int (n : Nat)), .val (.lst false (nu.map D.int)), s6, s7, s8, s9, s10, s11])
    (by generalize nu.map D.int = N0; generalize ptD l = L; simp -implicitDefEqProofs (decide := true)) ⟨s6, s9, s10, c6, c9, c10, rfl⟩ (fun j d ρ hd ⟨s6, s9, s10, c6, c9, c10, e⟩ => ?_) (fun ρ ⟨s6, s9, s10, c6, c9, c10, e⟩ => ?_)
  · subst e
    rw [List.getElem?_map] at hd
    obtain ⟨a, _, rfl⟩ := Option.map_eq_some_iff.mp hd
    refine ⟨[s0, .own (plD xs), s2, .val (ptD l), .val (.int (n : Nat)), .val (.lst false (nu.map D.int)), .val (.int a), s7, s8, s9, s10, s11], by rcases c6 with rfl | ⟨z, rfl⟩ <;> rfl, fun N2 X2 hN2 hX2 => ?_⟩
    exact lw_in (by omega) hb1 h hn c9 c10 fun s9 s10 c9 c10 => hN2 _ ⟨_, s9, s10, cm_val, c9, c10, rfl⟩
  · subst e
    obtain ⟨a, ha⟩ := nu_at hnu
    exact lw_end hk hb2 h hn ha xs c6 c7 c8 fun xs s6 s7 s8 c6 c7 c8 => hh xs s6 s7 s8 s9 s10 c6 c7 c8 c9 c10
end K04

/-! part K04U -/
namespace K04
open PySem PySem.Spec L2 Own NT
theorem ne_pts {l : List (Nat × Nat)} : cop .ne (ptD l) (.lst false []) = some (decide (l ≠ [])) := by
  have e : eqable 40 (ptD l) = true := by
    unfold ptD eqable
    exact eqables_of fun x hx => by
      obtain ⟨q, _, rfl⟩ := List.mem_map.mp hx
      rfl
  have e2 : eqable 40 (.lst false []) = true := rfl
  show (if eqOk (ptD l) (.lst false []) then some (!deq (ptD l) (.lst false [])) else none) = _
  unfold eqOk
  rw [e, e2, Bool.and_self, Bool.or_true, if_pos rfl]
  cases l with
  | nil => rfl
  | cons q l => rfl
def lwA : List MS := [.asg 3 ptsE, .asg 4 (.call 7 [(.var 3)]), .asg 5 (.lst [(.int 0), (.int 1), (.neg (.int 1)), (.int 2), (.bin .sub (.call 2 [(.var 1), (.int 1000)]) (.int 500)), (.call 3 [(.var 1), (.bin .pow (.int 10) (.int 12))]), (.bin .sub (.int 0) (.call 3 [(.var 1), (.bin .pow (.int 10) (.int 12))]))]), .iff (.cmp .ne (.var 3) (.lst [])) [.exp (.app 5 (.bin .mul (.ix (.ix (.var 3) (.call 2 [(.var 1), (.blt .len [(.var 3)])])) (.int 0)) (.bin .add (.int 1) (.call 2 [(.var 1), (.int 9)]))))] []]
def lwB : List MS := lwA ++ (.for (.nm 6) (.var 5) lwI :: lwD)
theorem lw_turn {k : Nat} (hk : 6 ≤ k) {bd : List MS} (hbd : bd = lwB) {P : Oc → Prop} (xs : List Int) {s0 s2 s3 s4 s5 s6 s7 s8 s9 s10 s11 : Own.Slot} (c3 : Cm s3) (c4 : Cm s4) (c5 : Cm s5) (c6 : Cm s6) (c7 : Cm s7) (c8 : Cm s8) (c9 : Cm s9) (c10 : Cm s10) (c11 : Cm s11)
    (hh : ∀ xs s3 s4 s5 s6 s7 s8 s9 s10, Cm s3 → Cm s4 → Cm s5 → Cm s6 → Cm s7 → Cm s8 → Cm s9 → Cm s10 → P (.nx [s0, .own (plD xs), s2, s3, s4, s5, s6, s7, s8, s9, s10, s11])) :
    Ends P (evSs (gF k []) bd [s0, .own (plD xs), s2, s3, s4, s5, s6, s7, s8, s9, s10, s11]) := by
  obtain ⟨l, xs1, op, ll, lc⟩ := pts_lc (k := k) (by omega) xs
  have r1 := r_law_product (K := k) (by omega) op.pts
  obtain ⟨v, xs2, r2, v0, v1⟩ := r_take' (K := k) (by omega) xs1 (m := 1000) (by omega)
  obtain ⟨f, xs3, r3, f0, f1⟩ := r_far (K := k) (by omega) xs2 (m := 1000000000000) (by omega)
  obtain ⟨g, xs4, r4, g0, g1⟩ := r_far (K := k) (by omega) xs3 (m := 1000000000000) (by omega)
  obtain ⟨n, hn⟩ : ∃ n, n = prd (exl l) := ⟨_, rfl⟩
  rw [← hn] at r1
  obtain ⟨b1, hb1⟩ : ∃ b1, b1 = lwI := ⟨_, rfl⟩
  obtain ⟨b2, hb2⟩ : ∃ b2, b2 = lwD := ⟨_, rfl⟩
  have ne := ne_pts (l := l)
  have lv := lc (s0 := s0) (s2 := s2) (s3 := s3) (s4 := s4) (s5 := s5) (s6 := s6) (s7 := s7) (s8 := s8) (s9 := s9) (s10 := s10) c11
  have so3 := fun r => cm_set (F := gF k []) (i := 3) c3 r
  have so4 := fun r => cm_set (F := gF k []) (i := 4) c4 r
  have so5 := fun r => cm_set (F := gF k []) (i := 5) c5 r
  have fin : ∀ xs nu, NuOk nu → Ends P (evSs (gF k []) (.for (.nm 6) (.var 5) b1 :: b2) [s0, .own (plD xs), s2, .val (ptD l), .val (.int (n : Nat)), .own (.lst false (nu.map D.int)), s6, s7, s8, s9, s10, s11]) := fun xs nu hnu =>
    lw_for (by omega) hb1 hb2 op hn hnu xs c6 c7 c8 c9 c10 fun xs s6 s7 s8 s9 s10 c6 c7 c8 c9 c10 => hh xs _ _ _ s6 s7 s8 s9 s10 cm_val cm_val cm_val c6 c7 c8 c9 c10
  have hb : lwB = lwA ++ (.for (.nm 6) (.var 5) b1 :: b2) := by rw [hb1, hb2]; rfl
  rw [hbd, hb]
  clear hb hb1 hb2 hbd hh lc
  unfold lwA
  by_cases hl : l = []
  · have f1 := fin xs4 [0, 1, -1, 2, v - 500, f, -g] ⟨by simp, by simp⟩
    have el : (List.map D.int [0, 1, -1, 2, v - 500, f, -g]) = [.int 0, .int 1, .int (-1), .int 2, .int (v - 500), .int f, .int (-g)] := rfl
    rw [el] at f1
    rw [decide_eq_false (by simp [hl])] at ne
    clear fin hl op
    generalize (MS.for (.nm 6) (.var 5) b1 :: b2) = BB at *
    generalize ptsE = PE at *
    generalize ptD l = L at *
    generalize ((n : Nat) : Int) = nI at *
    generalize plD xs = X0 at *
    generalize plD xs1 = X1 at *
    generalize plD xs2 = X2 at *
    generalize plD xs3 = X3 at *
    generalize plD xs4 = X4 at *
    simp -implicitDefEqProofs (decide := true) [lv, r1, r2, r3, r4, ne, so3, so4, so5, pow12, small_of]
    exact f1
  · have lpos : 0 < l.length := List.length_pos_iff.mpr hl
    obtain ⟨w, xs5, r5, w0, w1⟩ := r_take' (K := k) (by omega) xs4 (m := (l.length : Nat)) (by omega)
    obtain ⟨t, xs6, r6, t0, t1⟩ := r_take' (K := k) (by omega) xs5 (m := 9) (by omega)
    have hw : w.toNat < l.length := by omega
    obtain ⟨q, hq⟩ : ∃ q, l[w.toNat]? = some q := ⟨_, List.getElem?_eq_getElem hw⟩
    have x1 : ixop (ptD l) (.int w) = some (pD q) := by
      show atI (l.map pD) w = _
      have ew : w = ((w.toNat : Nat) : Int) := by omega
      rw [ew]
      exact Own.atI_nat (by rw [List.getElem?_map, hq]; rfl)
    have x2 : ixop (pD q) (.int 0) = some (.int (q.1 : Nat)) := rfl
    have mu : bop .mul (.int (q.1 : Nat)) (.int (1 + t)) = some (.v (.int ((q.1 : Nat) * (1 + t)))) := mulS (by omega)
    have bl : bltop .len [ptD l] = some (.v (.int (l.length : Nat))) := by
      show some (VR.v (.int ((l.map pD).length : Nat))) = _
      rw [List.length_map]
    have f1 := fin xs6 [0, 1, -1, 2, v - 500, f, -g, (q.1 : Nat) * (1 + t)] ⟨by simp, by simp⟩
    have el : (List.map D.int [0, 1, -1, 2, v - 500, f, -g, (q.1 : Nat) * (1 + t)]) = [.int 0, .int 1, .int (-1), .int 2, .int (v - 500), .int f, .int (-g), .int ((q.1 : Nat) * (1 + t))] := rfl
    rw [el] at f1
    rw [decide_eq_true hl] at ne
    clear fin hl op hq hw el
    generalize (MS.for (.nm 6) (.var 5) b1 :: b2) = BB at *
    generalize ptsE = PE at *
    generalize pD q = Q at *
    generalize ptD l = L at *
    generalize ((n : Nat) : Int) = nI at *
    generalize ((q.1 : Nat) : Int) = qI at *
    generalize ((l.length : Nat) : Int) = lI at *
    generalize plD xs = X0 at *
    generalize plD xs1 = X1 at *
    generalize plD xs2 = X2 at *
    generalize plD xs3 = X3 at *
    generalize plD xs4 = X4 at *
    generalize plD xs5 = X5 at *
    generalize plD xs6 = X6 at *
    simp -implicitDefEqProofs (decide := true) [lv, r1, r2, r3, r4, r5, r6, x1, x2, mu, bl, ne, so3, so4, so5, pow12, small_of]
    exact f1
theorem r_law (k : Nat) (hk : 8 ≤ k) (ns : List Int) (hns : ns.length ≤ 63) : pg.run (k + 1) 12 [.scr (ns.map Own.D.int)] = .ok (.v (.bl true)) [] := by
  refine ends_run (Q := fun cr => cr = .ok (.v (.bl true)) []) (go12 ..) fun P hP => ?_
  obtain ⟨xs, pl0⟩ := r_law_pool (K := k) (by omega) (m := 200) hns (by omega)
  have pl : pg.run k 1 [.scr (ns.map .int), .int 200] = .ok (.f (plD xs)) [] := pl0
  clear pl0
  generalize ns.map Own.D.int = DS at *
  have main : Ends P (evSs (gF k []) (b12.drop 1) [.val (.scr DS), .own (plD xs), .un, .un, .un, .un, .un, .un, .un, .un, .un, .un]) := by
    obtain ⟨bd, hbd⟩ : ∃ bd, bd = lwB := ⟨_, rfl⟩
    have hb : b12.drop 1 = [.for (.nm 2) (.rng [(.int 4)]) lwB, .ret (.bl true)] := rfl
    rw [hb, ← hbd, eSs_cons]
    clear hb
    refine ends_for (ds := rngD 0 4) (ρ1 := [.val (.scr DS), .own (plD xs), .un, .un, .un, .un, .un, .un, .un, .un, .un, .un]) (fun i ρ => ∃ xs s2 s3 s4 s5 s6 s7 s8 s9 s10, Cm s2 ∧ Cm s3 ∧ Cm s4 ∧ Cm s5 ∧ Cm s6 ∧ Cm s7 ∧ Cm s8 ∧ Cm s9 ∧ Cm s10 ∧ ρ = [.val (.scr DS), .own (plD xs), s2, s3, s4, s5, s6, s7, s8, s9, s10, .un])
      (rng1_of (by simp -implicitDefEqProofs (decide := true)) (by omega)) ⟨xs, _, _, _, _, _, _, _, _, _, cm_un, cm_un, cm_un, cm_un, cm_un, cm_un, cm_un, cm_un, cm_un, rfl⟩ (fun i t ρ hd ⟨xs, s2, s3, s4, s5, s6, s7, s8, s9, s10, c2, c3, c4, c5, c6, c7, c8, c9, c10, e⟩ => ?_) (fun ρ ⟨xs, s2, s3, s4, s5, s6, s7, s8, s9, s10, c2, c3, c4, c5, c6, c7, c8, c9, c10, e⟩ => ?_)
    · obtain ⟨hi, rfl⟩ := rng_get hd
      subst e
      refine ⟨[.val (.scr DS), .own (plD xs), .val (.int (i : Nat)), s3, s4, s5, s6, s7, s8, s9, s10, .un], by rcases c2 with rfl | ⟨z, rfl⟩ <;> rfl, fun N X hN hX => ?_⟩
      exact lw_turn (by omega) hbd xs c3 c4 c5 c6 c7 c8 c9 c10 cm_un fun xs s3 s4 s5 s6 s7 s8 s9 s10 c3 c4 c5 c6 c7 c8 c9 c10 => hN _ ⟨xs, _, s3, s4, s5, s6, s7, s8, s9, s10, cm_val, c3, c4, c5, c6, c7, c8, c9, c10, rfl⟩
    · subst e
      have n2 : ∀ r, noNam (s2 :: r) = noNam r := fun r => by rcases c2 with rfl | ⟨z, rfl⟩ <;> rfl
      have n3 : ∀ r, noNam (s3 :: r) = noNam r := fun r => by rcases c3 with rfl | ⟨z, rfl⟩ <;> rfl
      have n4 : ∀ r, noNam (s4 :: r) = noNam r := fun r => by rcases c4 with rfl | ⟨z, rfl⟩ <;> rfl
      have n5 : ∀ r, noNam (s5 :: r) = noNam r := fun r => by rcases c5 with rfl | ⟨z, rfl⟩ <;> rfl
      have n6 : ∀ r, noNam (s6 :: r) = noNam r := fun r => by rcases c6 with rfl | ⟨z, rfl⟩ <;> rfl
      have n7 : ∀ r, noNam (s7 :: r) = noNam r := fun r => by rcases c7 with rfl | ⟨z, rfl⟩ <;> rfl
      have n8 : ∀ r, noNam (s8 :: r) = noNam r := fun r => by rcases c8 with rfl | ⟨z, rfl⟩ <;> rfl
      have n9 : ∀ r, noNam (s9 :: r) = noNam r := fun r => by rcases c9 with rfl | ⟨z, rfl⟩ <;> rfl
      have n10 : ∀ r, noNam (s10 :: r) = noNam r := fun r => by rcases c10 with rfl | ⟨z, rfl⟩ <;> rfl
      generalize plD xs = X0 at *
      simp -implicitDefEqProofs (decide := true)
      exact Ends.at (hP _ (by simp -implicitDefEqProofs (decide := true) [n2, n3, n4, n5, n6, n7, n8, n9, n10]))
  have hb : b12 = b12.take 1 ++ b12.drop 1 := rfl
  rw [hb]
  clear hb hP
  generalize b12.drop 1 = BB at *
  generalize plD xs = X0 at *
  simp -implicitDefEqProofs (decide := true) [b12, pl]
  exact main
theorem hrun (ns : List Int) (h : ns.length ≤ 63) : ∃ es, pg.run 20 12 [.scr (ns.map .int)] = .ok (.v (.bl true)) es := ⟨[], r_law 19 (by omega) ns h⟩
end K04

theorem PySem.Challenge.cw_formsatone_k04_jacobi_symbols_holds : PySem.Challenge.rw_formsatone_k04_jacobi_symbols.Holds :=
  K04_of fun ns h _ => K04.hrun ns h
