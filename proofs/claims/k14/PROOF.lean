import PyProof.Rows.All
import Wide.All
import OpenK.AllK
import Wide.FinOn
import KE.KStateDown
import HandS.ForSpec
import HandS.ForMost
import HandS.More
import HandS.Words
import HandS.WordsExc
import HandS.Defaults
import HandS.Flow
import HandS.Style
import HandS.TupAny
import HandS.TupMul
import HandS.SortInts
import HandS.SortOrd
import HandS.StrMore
import HandS.IsInst
import HandS.Deep
import HandS.Wide
import HandS.WideBits
import HandS.Head0
import HandS.Head1
import HandS.Head2
import HandS.HeadEnd
import HandS.HeadHook1
import HandS.HeadHook2
import PyProof.TupleOfSeq
import KE.KTupSum
import HandS.Zip
import KE.GoesMore
import KE.GoesEnum
import KE.KIndexOf
import KE.Datum
import HandS.Star
import KE.DataMinMax
import HandS.SortKw
import ObjForm.LawKit
import KE.KMathGC
import HandS.Small
import HandS.TryOnly
import HandS.ExcOwn
import HandS.MakeKwOnly
import HandS.Head3
import PySem.Challenge.RW_gentlerounds_k14_whole_tidied_limits_let
set_option Elab.async false
set_option linter.all false
set_option maxRecDepth 100000
set_option maxHeartbeats 4000000
namespace Vm
open PySem PySem.Spec PyProof.Rows L2
abbrev D := PyData
/-! ### data and what stands for it -/
def kD : Key → D
  | .inl i => .int i
  | .inr x => .str x
section
variable (K : PySem.W.Frag) (L : Addr → Prop) (H : Hp)
def KL (a : Addr) (vs : List V) : Prop := ∃ (its : List Value) (n : Nat), K.lookup a = some { cls := .type "list", data := .seq its.toArray n } ∧ its.length ≤ sizeLine ∧ Vals vs its
def SL (a : Addr) (vs : List V) : Prop := (¬ L a ∧ L2.Rd H a (.lst vs)) ∨ KL K a vs
def LL (a : Addr) (vs : List V) : Prop := L2.Rd H a (.lst vs) ∨ KL K a vs
def ST (a : Addr) (vs : List V) : Prop := (¬ L a ∧ L2.Rd H a (.tup vs)) ∨
  ∃ (o : Obj) (its : Array Value) (n : Nat), K.lookup a = some o ∧ o.cls = .type "tuple" ∧ o.data = .seq its n ∧ its.size ≤ sizeLine ∧ Vals vs its.toList
mutual
def Rd : D → V → Prop
  | .none, v => v = .non
  | .bool b, v => v = .bl b
  | .int i, v => v = .int i
  | .str s, v => v = .str s
  | .list ds, v => ∃ a vs, v = .ref a ∧ SL K L H a vs ∧ RdA ds vs
  | .tuple ds, v => ∃ a vs, v = .ref a ∧ ST K L H a vs ∧ RdA ds vs
  | .dict kvs, v => ∃ a hv, v = .ref a ∧ ¬ L a ∧ H a = some (.dK hv) ∧ RdK kvs hv
def RdA : List D → List V → Prop
  | [], vs => vs = []
  | d :: ds, vs => ∃ v r, vs = v :: r ∧ Rd d v ∧ RdA ds r
def RdK : List (D × D) → List (Key × V) → Prop
  | [], hv => hv = []
  | (k, d) :: ds, hv => ∃ kk v r, hv = (kk, v) :: r ∧ kD kk = k ∧ Rd d v ∧ RdK ds r
end
end
/-- what one step leaves: the tracked things that are not owned stay, and stay not owned -/
def Ext (L : Addr → Prop) (H : Hp) (L' : Addr → Prop) (H' : Hp) : Prop := ∀ a o, H a = some o → ¬ L a → H' a = some o ∧ ¬ L' a
theorem Ext.refl {L H} : Ext L H L H := fun _ _ e n => ⟨e, n⟩
theorem Ext.trans {L1 H1 L2 H2 L3 H3} (x : Ext L1 H1 L2 H2) (y : Ext L2 H2 L3 H3) : Ext L1 H1 L3 H3 := fun a o e n => let ⟨e2, n2⟩ := x a o e n; y a o e2 n2
section
variable {K : PySem.W.Frag} {L L' : Addr → Prop} {H H' : Hp}
theorem SL.ext {a : Addr} {vs : List V} (x : Ext L H L' H') (h : SL K L H a vs) : SL K L' H' a vs := by
  rcases h with ⟨n, h | ⟨o, h⟩⟩ | h
  · obtain ⟨e, n'⟩ := x _ _ h n; exact .inl ⟨n', .inl e⟩
  · obtain ⟨e, n'⟩ := x _ _ h n; exact .inl ⟨n', .inr ⟨o, e⟩⟩
  · exact .inr h
theorem ST.ext {a : Addr} {vs : List V} (x : Ext L H L' H') (h : ST K L H a vs) : ST K L' H' a vs := by
  rcases h with ⟨n, h | ⟨o, h⟩⟩ | h
  · obtain ⟨e, n'⟩ := x _ _ h n; exact .inl ⟨n', .inl e⟩
  · obtain ⟨e, n'⟩ := x _ _ h n; exact .inl ⟨n', .inr ⟨o, e⟩⟩
  · exact .inr h
theorem LL.sq {a : Addr} {vs : List V} (h : LL K H a vs) : SqL K H a vs := h.imp id fun ⟨its, n, h1, h2, h3⟩ => ⟨_, its.toArray, n, h1, rfl, rfl, rfl, by simpa using h2, by simpa using h3⟩
theorem SL.ll {a : Addr} {vs : List V} (h : SL K L H a vs) : LL K H a vs := h.imp (fun x => x.2) id
theorem SL.sq {a : Addr} {vs : List V} (h : SL K L H a vs) : SqL K H a vs := h.ll.sq
theorem LL.obj {X : Cx} {pins : List (Addr × Obj)} {σ : L2.St} {s : Shared} {a : Addr} {vs : List V} (I : Inv X pins σ H s) (h : LL X.K H a vs) : vs.length ≤ sizeLine ∧ ∃ (its : List Value) (n : Nat), Vals vs its ∧ s.heap.get? a = some { cls := .type "list", data := .seq its.toArray n } := by
  rcases h with h | ⟨its, n, h1, h2, h3⟩
  · obtain ⟨z, its, n, r, e⟩ := h.ok I.hok
    exact ⟨z, its, n, r, e⟩
  · exact ⟨by rw [h3.length]; exact h2, its, n, h3, I.kIn _ _ h1⟩
theorem ST.sq {a : Addr} {vs : List V} (h : ST K L H a vs) : SqT K H a vs := h.imp (fun x => x.2) id
mutual
theorem Rd.ext (x : Ext L H L' H') : ∀ {d : D} {v : V}, Rd K L H d v → Rd K L' H' d v
  | .none, _, h => h
  | .bool _, _, h => h
  | .int _, _, h => h
  | .str _, _, h => h
  | .list _, _, h => by
    unfold Rd at h ⊢
    obtain ⟨a, vs, e, s, r⟩ := h
    exact ⟨a, vs, e, s.ext x, RdA.ext x r⟩
  | .tuple _, _, h => by
    unfold Rd at h ⊢
    obtain ⟨a, vs, e, s, r⟩ := h
    exact ⟨a, vs, e, s.ext x, RdA.ext x r⟩
  | .dict _, _, h => by
    unfold Rd at h ⊢
    obtain ⟨a, hv, e, n, s, r⟩ := h
    obtain ⟨s', n'⟩ := x _ _ s n
    exact ⟨a, hv, e, n', s', RdK.ext x r⟩
theorem RdA.ext (x : Ext L H L' H') : ∀ {ds : List D} {vs : List V}, RdA K L H ds vs → RdA K L' H' ds vs
  | [], _, h => h
  | _ :: _, _, h => by
    unfold RdA at h ⊢
    obtain ⟨v, r, e, h1, h2⟩ := h
    exact ⟨v, r, e, Rd.ext x h1, RdA.ext x h2⟩
theorem RdK.ext (x : Ext L H L' H') : ∀ {ds : List (D × D)} {vs : List (Key × V)}, RdK K L H ds vs → RdK K L' H' ds vs
  | [], _, h => h
  | (_, _) :: _, _, h => by
    unfold RdK at h ⊢
    obtain ⟨kk, v, r, e, ek, h1, h2⟩ := h
    exact ⟨kk, v, r, e, ek, Rd.ext x h1, RdK.ext x h2⟩
end
theorem RdA.len : ∀ {ds : List D} {vs : List V}, RdA K L H ds vs → vs.length = ds.length
  | [], _, h => by unfold RdA at h; subst h; rfl
  | _ :: _, _, h => by
    unfold RdA at h
    obtain ⟨v, r, e, _, h2⟩ := h
    subst e
    simp [RdA.len h2]
theorem RdA.get : ∀ {ds : List D} {vs : List V} {i : Nat} {d : D}, RdA K L H ds vs → ds[i]? = some d → ∃ v, vs[i]? = some v ∧ Rd K L H d v
  | [], _, _, _, _, e => by simp at e
  | _ :: _, _, 0, _, h, e => by
    unfold RdA at h
    obtain ⟨v, r, e1, h1, _⟩ := h
    subst e1
    simp at e; subst e
    exact ⟨v, rfl, h1⟩
  | _ :: _, _, i + 1, _, h, e => by
    unfold RdA at h
    obtain ⟨v, r, e1, _, h2⟩ := h
    subst e1
    simp at e
    obtain ⟨w, q1, q2⟩ := RdA.get h2 e
    exact ⟨w, by simpa using q1, q2⟩
theorem RdA.app : ∀ {ds es : List D} {vs us : List V}, RdA K L H ds vs → RdA K L H es us → RdA K L H (ds ++ es) (vs ++ us)
  | [], _, _, _, h, h' => by unfold RdA at h; subst h; exact h'
  | _ :: _, _, _, _, h, h' => by
    unfold RdA at h
    obtain ⟨v, r, e1, h1, h2⟩ := h
    subst e1
    show RdA K L H (_ :: (_ ++ _)) (v :: (r ++ _))
    unfold RdA
    exact ⟨v, _, rfl, h1, RdA.app h2 h'⟩
theorem RdA.one {d : D} {v : V} (h : Rd K L H d v) : RdA K L H [d] [v] := by
  unfold RdA; exact ⟨v, [], rfl, h, by unfold RdA; rfl⟩
theorem RdA.nil : RdA K L H [] [] := by unfold RdA; rfl
theorem RdA.cons {d : D} {v : V} {ds : List D} {vs : List V} (h : Rd K L H d v) (h2 : RdA K L H ds vs) : RdA K L H (d :: ds) (v :: vs) := by
  unfold RdA; exact ⟨v, vs, rfl, h, h2⟩
theorem RdA.mem : ∀ {ds : List D} {vs : List V}, RdA K L H ds vs → ∀ v ∈ vs, ∃ d ∈ ds, Rd K L H d v
  | [], _, h, v, hv => by unfold RdA at h; subst h; cases hv
  | _ :: _, _, h, v, hv => by
    unfold RdA at h
    obtain ⟨w, r, e1, h1, h2⟩ := h
    subst e1
    rcases List.mem_cons.mp hv with e | hv
    · subst e; exact ⟨_, List.mem_cons_self .., h1⟩
    · obtain ⟨d, hd, q⟩ := RdA.mem h2 v hv
      exact ⟨d, List.mem_cons_of_mem _ hd, q⟩
theorem RdA.drop : ∀ {ds : List D} {vs : List V} (n : Nat), RdA K L H ds vs → RdA K L H (ds.drop n) (vs.drop n)
  | _, _, 0, h => h
  | [], _, n + 1, h => by unfold RdA at h; subst h; exact RdA.nil
  | _ :: _, _, n + 1, h => by
    unfold RdA at h
    obtain ⟨v, r, e1, _, h2⟩ := h
    subst e1
    exact RdA.drop n h2
theorem RdA.take : ∀ {ds : List D} {vs : List V} (n : Nat), RdA K L H ds vs → RdA K L H (ds.take n) (vs.take n)
  | _, _, 0, _ => by simp; exact RdA.nil
  | [], _, n + 1, h => by unfold RdA at h; subst h; exact RdA.nil
  | _ :: _, _, n + 1, h => by
    unfold RdA at h
    obtain ⟨v, r, e1, h1, h2⟩ := h
    subst e1
    exact RdA.cons h1 (RdA.take n h2)
theorem RdA.set : ∀ {ds : List D} {vs : List V} (n : Nat) {d : D} {v : V}, RdA K L H ds vs → Rd K L H d v → RdA K L H (ds.set n d) (vs.set n v)
  | [], _, n, _, _, h, _ => by unfold RdA at h; subst h; exact RdA.nil
  | _ :: _, _, 0, _, _, h, hd => by
    unfold RdA at h
    obtain ⟨v, r, e1, h1, h2⟩ := h
    subst e1
    exact RdA.cons hd h2
  | _ :: _, _, n + 1, _, _, h, hd => by
    unfold RdA at h
    obtain ⟨v, r, e1, h1, h2⟩ := h
    subst e1
    exact RdA.cons h1 (RdA.set n h2 hd)
theorem RdA.ints : ∀ {ns : List Int} {vs : List V}, RdA K L H (ns.map .int) vs → vs = ns.map V.int
  | [], _, h => by simpa [RdA] using h
  | n :: ns, _, h => by
    simp only [List.map_cons] at h
    unfold RdA at h
    obtain ⟨v, r, e1, h1, h2⟩ := h
    unfold Rd at h1
    subst e1; subst h1
    rw [RdA.ints h2]; rfl
theorem RdA.strs : ∀ {ns : List Str} {vs : List V}, RdA K L H (ns.map .str) vs → vs = ns.map V.str
  | [], _, h => by simpa [RdA] using h
  | n :: ns, _, h => by
    simp only [List.map_cons] at h
    unfold RdA at h
    obtain ⟨v, r, e1, h1, h2⟩ := h
    unfold Rd at h1
    subst e1; subst h1
    rw [RdA.strs h2]; rfl
theorem RdA.bools : ∀ {ns : List Bool} {vs : List V}, RdA K L H (ns.map .bool) vs → vs = ns.map V.bl
  | [], _, h => by simpa [RdA] using h
  | n :: ns, _, h => by
    simp only [List.map_cons] at h
    unfold RdA at h
    obtain ⟨v, r, e1, h1, h2⟩ := h
    unfold Rd at h1
    subst e1; subst h1
    rw [RdA.bools h2]; rfl
end
end Vm
set_option maxRecDepth 100000
set_option maxHeartbeats 4000000
namespace Vm
open PySem PySem.Spec PyProof.Rows L2
/-! ### the small language -/
/-- an object that is changed in place -/
inductive Ob where
  | lst (xs : List D)
  | dct (kvs : List (Key × D))
def Ob.d : Ob → D
  | .lst xs => .list xs
  | .dct kvs => .dict (kvs.map fun p => (kD p.1, p.2))
/-- a slot: nothing known; data; an object of the slot's own; the object of the n-th argument that came by reference -/
inductive LV where
  | no | d (x : D) | own (o : Ob) | c (n : Nat)
/-- an object that came by reference: it may still be changed, or not any more -/
inductive SV where
  | no | d (x : D) | own (o : Ob)
/-- what an expression gives: data; a new object; the object in a slot; an object that came by reference -/
inductive RV where
  | d (x : D) | fr (o : Ob) | vr (i : Nat) | ce (n : Nat)
/-- an argument -/
inductive Arg where
  | d (x : D) | o (o : Ob) | r (o : Ob)
/-- what a def hands back -/
inductive RR where
  | d (x : D) | fr (o : Ob)
  /-- an exception of a class without fields leaves -/
  | ex (c : Str)
def RR.rv : RR → RV
  | .d x => .d x
  | .fr o => .fr o
  | .ex _ => .d .none
def RR.val : RR → Option RV
  | .d x => some (.d x)
  | .fr o => some (.fr o)
  | .ex _ => none
structure F where
  ρ : List LV
  S : List SV
inductive Res (α : Type) where
  | ok (a : α) | bad
def Res.bind {α β : Type} (x : Res α) (f : α → Res β) : Res β := match x with
  | .ok a => f a
  | .bad => .bad
def ofOpt {α : Type} : Option α → Res α
  | some a => .ok a
  | none => .bad
/-- a tuple of which it is known that it is laid as it is (without a dict), at the top of a value alone -/
def pl (ds : List D) : D := .dict [(.none, .tuple ds)]
def norm : D → D
  | .dict [(.none, .tuple ds)] => .tuple ds
  | x => x
def isPl : D → Bool
  | .dict [(.none, .tuple _)] => true
  | _ => false
def slotD : Option LV → Option D
  | some (.d x) => some (norm x)
  | some (.own o) => some o.d
  | _ => none
def cellD : Option SV → Option D
  | some (.d x) => some x
  | some (.own o) => some o.d
  | _ => none
/-- what is to be seen -/
def view (f : F) : RV → Option D
  | .d x => some (norm x)
  | .fr o => some o.d
  | .vr i => slotD f.ρ[i]?
  | .ce n => cellD f.S[n]?
/-- .. to be kept: nobody changes it from here on -/
def frz (f : F) : RV → Option (D × F)
  | .d x => some (norm x, f)
  | .fr o => some (o.d, f)
  | .vr i => match f.ρ[i]? with
    | some (.own o) => some (o.d, { f with ρ := f.ρ.set i (.d o.d) })
    | some (.d x) => some (norm x, f)
    | _ => none
  | .ce n => match f.S[n]? with
    | some (.own o) => some (o.d, { f with S := f.S.set n (.d o.d) })
    | some (.d x) => some (x, f)
    | _ => none
def views (f : F) : List RV → Option (List D)
  | [] => some []
  | r :: rs => (view f r).bind fun x => (views f rs).bind fun xs => some (x :: xs)
def frzs (f : F) : List RV → Option (List D × F)
  | [] => some ([], f)
  | r :: rs => (frz f r).bind fun p => (frzs p.2 rs).bind fun q => some (p.1 :: q.1, q.2)
/-- truth -/
def truth : D → Option Bool
  | .none => some false
  | .bool b => some b
  | .int i => some (i != 0)
  | .str s => if s.length ≤ 16777216 then some ((s.length : Int) != 0) else none
  | .list xs => some (!xs.isEmpty)
  | .tuple xs => some (!xs.isEmpty)
  | .dict kvs => some (!kvs.isEmpty)
/-- targets -/
inductive Tg where
  | name (i : Nat) | tup (ts : List Tg)
/-- strict operations: by the values that are seen -/
inductive Op where
  | add | sub | mul | fdiv | mod | pow | neg | not
  | lt | le | gt | ge | eq | ne | isn | isnn | mem | nmem | isb | isnb
  | item | slice (lo hi : Bool)
  | len | lcm | int | abs | min2 | max2 | repr | tuple | list | any | all | sum | sorted | divmod | ord | min1 | max1 | str | bool
  | isI (t : String) | rev | ptuple
  | mreplace | mcount | mstartswith | mfind | mjoin | msplit | mindex | mget1 | mget2 | lindex | tindex | lcount | tcount | mendswith | maxd | mind
inductive Mu where
  | append | extend | pop0 | pop1 | insert | add
mutual
inductive Ex where
  | k (x : D)
  | v (i : Nat)
  | op (o : Op) (es : List Ex)
  | tup (es : List Ex)
  | lst (es : List Ex)
  | dct (ks : List Key) (es : List Ex)
  | and (a b : Ex) | or (a b : Ex) | ife (c a b : Ex)
  | ch (o o' : Op) (a b c : Ex)
  | sl2 (a lo hi : Ex)
  | tups (fl : List Bool) (es : List Ex)
  | me (nm : Str) (a : Ex) (es : List Ex)
  | call (g : Nat) (es : List Ex)
  | callk (g : Nat) (pm : List Nat) (es : List Ex)
  | mu (m : Mu) (a : Ex) (es : List Ex)
  | lc (t : Tg) (it : It) (ifs : List Ex) (e : Ex) (own : List Nat)
  /-- .. over a list in a slot, which stays as it is -/
  | lck (t : Tg) (j : Nat) (ifs : List Ex) (e : Ex) (own : List Nat)
  | lc2 (t : Tg) (it : It) (ifs : List Ex) (t1 : Tg) (it1 : It) (ifs1 : List Ex) (e : Ex) (own own1 : List Nat)
inductive It where
  | seq (e : Ex) | rng (es : List Ex) | enum (e : Ex) | zip (a b : Ex) | items (e : Ex)
end
mutual
inductive Sm where
  | ex (e : Ex)
  | asg (t : Tg) (e : Ex)
  | par (is : List Nat) (es : List Ex)
  | sub (a : Ex) (i : Ex) (e : Ex)
  | tsub (a : Ex) (i : Ex) (j : Nat) (e : Ex)
  | aug (i : Nat) (o : Op) (e : Ex)
  | ret (e : Ex) | retN
  | ifs (c : Ex) (a b : List Sm)
  | for (t : Tg) (it : It) (b : List Sm)
  /-- over a list that came by reference in slot j and stays as it is -/
  | fork (t : Tg) (j : Nat) (b : List Sm)
  | whl (c : Ex) (b : List Sm)
  | brk | cont | pass | never
  /-- an exception leaves; a call that may let one out: f(..), return f(..), i = f(..), t = f(..); try: b / except: h for these classes -/
  | raise (c : Str)
  | clx (e : Ex) | clr (e : Ex) | cla (i : Nat) (e : Ex) | clt (ts : List Tg) (e : Ex)
  | trys (b : List Sm) (cs all : List Str) (h : List Sm)
end
end Vm
set_option maxRecDepth 100000
set_option maxHeartbeats 4000000
namespace Vm
open PySem PySem.Spec L2
abbrev ASet := Addr → Prop
/-! ### the frame and its heap -/
def Own (f : F) (as : List Addr) (σ : St) (a : Addr) : Prop :=
  (∃ (i : Nat) (o : Ob), f.ρ[i]? = some (.own o) ∧ σ[i]? = some (some (.ref a))) ∨ (∃ (n : Nat) (o : Ob), f.S[n]? = some (.own o) ∧ as[n]? = some a)
def Lv (A : ASet) (f : F) (as : List Addr) (σ : St) : ASet := fun a => A a ∨ Own f as σ a
def kvD (kvs : List (Key × D)) : List (D × D) := kvs.map fun p => (kD p.1, p.2)
def ObR (K : PySem.W.Frag) (L : ASet) (H : Hp) (a : Addr) : Ob → Prop
  | .lst xs => ∃ vs, H a = some (.lst vs) ∧ RdA K L H xs vs
  | .dct kvs => ∃ hv, H a = some (.dK hv) ∧ RdK K L H (kvD kvs) hv
/-- what came by reference and is not changed any more -/
def Cd (K : PySem.W.Frag) (L : ASet) (H : Hp) (x : D) (a : Addr) : Prop := Rd K L H x (.ref a) ∧ ¬ L a ∧ ∃ o, H a = some o
theorem Cd.ext {K : PySem.W.Frag} {L L' : ASet} {H H' : Hp} {x : D} {a : Addr} (e : Ext L H L' H') (h : Cd K L H x a) : Cd K L' H' x a := by
  obtain ⟨h1, h2, o, h3⟩ := h
  obtain ⟨q1, q2⟩ := e a o h3 h2
  exact ⟨h1.ext e, q2, o, q1⟩
/-- a tuple that is laid as it is -/
def PlT (L : ASet) (H : Hp) (v : V) : Prop := ∃ (a : Addr) (o : Obj) (vs : List V), v = .ref a ∧ ¬ L a ∧ H a = some (.frz o (.tup vs)) ∧ o.dict = none
def RdP (K : PySem.W.Frag) (L : ASet) (H : Hp) (x : D) (v : V) : Prop := Rd K L H x v ∨ ∃ ds, x = pl ds ∧ Rd K L H (.tuple ds) v ∧ PlT L H v
theorem PlT.ext {L L' : ASet} {H H' : Hp} {v : V} (x : Ext L H L' H') (h : PlT L H v) : PlT L' H' v := by
  obtain ⟨a, o, vs, e, n, h1, h2⟩ := h
  obtain ⟨q1, q2⟩ := x a _ h1 n
  exact ⟨a, o, vs, e, q2, q1, h2⟩
theorem RdP.ext {K : PySem.W.Frag} {L L' : ASet} {H H' : Hp} {x : D} {v : V} (e : Ext L H L' H') (h : RdP K L H x v) : RdP K L' H' x v := by
  rcases h with h | ⟨ds, h1, h2, h3⟩
  · exact .inl (h.ext e)
  · exact .inr ⟨ds, h1, h2.ext e, h3.ext e⟩
theorem Rd.norm {K : PySem.W.Frag} {L : ASet} {H : Hp} : ∀ {x : D} {v : V}, Rd K L H x v → Vm.norm x = x
  | .none, _, _ => rfl
  | .bool _, _, _ => rfl
  | .int _, _, _ => rfl
  | .str _, _, _ => rfl
  | .list _, _, _ => rfl
  | .tuple _, _, _ => rfl
  | .dict kvs, v, h => by
    unfold Vm.norm
    split
    · rename_i ds e
      exfalso
      cases e
      unfold Rd at h
      obtain ⟨a, hv, _, _, _, r⟩ := h
      unfold RdK at r
      obtain ⟨kk, _, _, _, ek, _⟩ := r
      cases kk <;> cases ek
    · rfl
theorem RdP.rd {K : PySem.W.Frag} {L : ASet} {H : Hp} {x : D} {v : V} (h : RdP K L H x v) : Rd K L H (Vm.norm x) v := by
  rcases h with h | ⟨ds, rfl, h2, _⟩
  · rw [h.norm]; exact h
  · exact h2
theorem norm_ob (o : Ob) : Vm.norm o.d = o.d := by
  cases o with
  | lst xs => rfl
  | dct kvs =>
    match kvs with
    | [] => rfl
    | [(k, x)] => cases k <;> rfl
    | p :: q :: r =>
      obtain ⟨k, x⟩ := p
      cases k <;> rfl
structure Rel (K : PySem.W.Frag) (A : ASet) (as : List Addr) (f : F) (σ : St) (H : Hp) : Prop where
  lenσ : σ.length = f.ρ.length
  lenS : as.length = f.S.length
  sd : ∀ (i : Nat) (x : D), f.ρ[i]? = some (.d x) → ∃ v, σ[i]? = some (some v) ∧ RdP K (Lv A f as σ) H x v
  so : ∀ (i : Nat) (o : Ob), f.ρ[i]? = some (.own o) → ∃ a, σ[i]? = some (some (.ref a)) ∧ ObR K (Lv A f as σ) H a o ∧ ¬ A a
  sc : ∀ (i n : Nat), f.ρ[i]? = some (.c n) → ∃ a, as[n]? = some a ∧ σ[i]? = some (some (.ref a))
  cd : ∀ (n : Nat) (x : D) (a : Addr), f.S[n]? = some (.d x) → as[n]? = some a → Cd K (Lv A f as σ) H x a
  co : ∀ (n : Nat) (o : Ob) (a : Addr), f.S[n]? = some (.own o) → as[n]? = some a → ObR K (Lv A f as σ) H a o ∧ ¬ A a
  i1 : ∀ (i j : Nat) (a : Addr) (o o' : Ob), f.ρ[i]? = some (.own o) → f.ρ[j]? = some (.own o') → σ[i]? = some (some (.ref a)) → σ[j]? = some (some (.ref a)) → i = j
  i2 : ∀ (i n : Nat) (a : Addr) (o o' : Ob), f.ρ[i]? = some (.own o) → f.S[n]? = some (.own o') → σ[i]? = some (some (.ref a)) → as[n]? = some a → False
  i3 : ∀ (n m : Nat) (a : Addr) (o o' : Ob), f.S[n]? = some (.own o) → f.S[m]? = some (.own o') → as[n]? = some a → as[m]? = some a → n = m
  al : ∀ a, A a → ∃ o, H a = some o
/-- what an expression's value is to what it gives -/
def RVR (K : PySem.W.Frag) (L A : ASet) (as : List Addr) (σ : St) (H : Hp) : RV → V → Prop
  | .d x, v => RdP K L H x v
  | .fr o, v => ∃ p, v = .ref p ∧ A p ∧ ObR K L H p o
  | .vr i, v => ∃ a, v = .ref a ∧ σ[i]? = some (some (.ref a))
  | .ce n, v => ∃ a, v = .ref a ∧ as[n]? = some a
def Rd1 (K : PySem.W.Frag) (L : ASet) (H : Hp) : D → V → Prop
  | .list ds, v => ∃ a vs, v = .ref a ∧ LL K H a vs ∧ RdA K L H ds vs
  | .dict kvs, v => ∃ a hv, v = .ref a ∧ H a = some (.dK hv) ∧ RdK K L H kvs hv
  | d, v => Rd K L H d v
section
variable {K : PySem.W.Frag} {L L' A A' : ASet} {H H' : Hp} {as : List Addr} {σ : St} {f f' : F}
theorem Rd.one : ∀ {d : D} {v : V}, Rd K L H d v → Rd1 K L H d v
  | .none, _, h => h
  | .bool _, _, h => h
  | .int _, _, h => h
  | .str _, _, h => h
  | .list _, _, h => by
    unfold Rd at h
    obtain ⟨a, vs, e, s, r⟩ := h
    exact ⟨a, vs, e, s.ll, r⟩
  | .tuple _, _, h => h
  | .dict _, _, h => by
    unfold Rd at h
    obtain ⟨a, hv, e, n, s, r⟩ := h
    exact ⟨a, hv, e, s, r⟩
theorem ObR.one {a : Addr} {o : Ob} (h : ObR K L H a o) : Rd1 K L H o.d (.ref a) := by
  cases o with
  | lst xs => obtain ⟨vs, e, r⟩ := h; exact ⟨a, vs, rfl, .inl (.inl e), r⟩
  | dct kvs => obtain ⟨hv, e, r⟩ := h; exact ⟨a, hv, rfl, e, r⟩
theorem ObR.rd {a : Addr} {o : Ob} (h : ObR K L H a o) (n : ¬ L a) : Rd K L H o.d (.ref a) := by
  cases o with
  | lst xs =>
    obtain ⟨vs, e, r⟩ := h
    show Rd K L H (.list xs) _
    unfold Rd
    exact ⟨a, vs, rfl, .inl ⟨n, .inl e⟩, r⟩
  | dct kvs =>
    obtain ⟨hv, e, r⟩ := h
    show Rd K L H (.dict _) _
    unfold Rd
    exact ⟨a, hv, rfl, n, e, r⟩
theorem ObR.ext {a : Addr} {o : Ob} (x : Ext L H L' H') (e : H' a = H a) (h : ObR K L H a o) : ObR K L' H' a o := by
  cases o with
  | lst xs => obtain ⟨vs, e', r⟩ := h; exact ⟨vs, e.trans e', r.ext x⟩
  | dct kvs => obtain ⟨hv, e', r⟩ := h; exact ⟨hv, e.trans e', r.ext x⟩
theorem ObR.some {a : Addr} {o : Ob} (h : ObR K L H a o) : ∃ u, H a = .some u := by
  cases o with
  | lst xs => obtain ⟨vs, e, _⟩ := h; exact ⟨_, e⟩
  | dct kvs => obtain ⟨hv, e, _⟩ := h; exact ⟨_, e⟩
/-- fewer owned ones: nothing else changes -/
theorem Ext.less (h : ∀ a, L' a → L a) : Ext L H L' H := fun a _ e n => ⟨e, fun z => n (h a z)⟩
theorem RVR.ext {rv : RV} {v : V} (x : Ext L H L' H') (k : ∀ a, A a → H' a = H a) (ha : ∀ a, A a → A' a) (h : RVR K L A as σ H rv v) : RVR K L' A' as σ H' rv v := by
  cases rv with
  | d y => exact RdP.ext x h
  | fr o => obtain ⟨p, e, q, r⟩ := h; exact ⟨p, e, ha p q, r.ext x (k p q)⟩
  | vr i => exact h
  | ce n => exact h
theorem view_rd1 {rv : RV} {v : V} {y : D} (R : Rel K A as f σ H) (h : RVR K (Lv A f as σ) A' as σ H rv v) (e : view f rv = some y) : Rd1 K (Lv A f as σ) H y v := by
  cases rv with
  | d x => cases e; exact Rd.one (RdP.rd h)
  | fr o =>
    cases e
    obtain ⟨p, e, _, r⟩ := h
    subst e
    exact r.one
  | vr i =>
    obtain ⟨a, e1, e2⟩ := h
    subst e1
    have e : slotD f.ρ[i]? = some y := e
    cases q : f.ρ[i]? with
    | none => rw [q] at e; cases e
    | some l =>
      rw [q] at e
      cases l with
      | no => cases e
      | d x =>
        cases e
        obtain ⟨v, h1, h2⟩ := R.sd i x q
        rw [e2] at h1; cases h1
        exact Rd.one h2.rd
      | own o =>
        cases e
        obtain ⟨b, h1, h2, _⟩ := R.so i o q
        rw [e2] at h1; cases h1
        exact h2.one
      | c n => cases e
  | ce n =>
    obtain ⟨a, e1, e2⟩ := h
    subst e1
    have e : cellD f.S[n]? = some y := e
    cases q : f.S[n]? with
    | none => rw [q] at e; cases e
    | some l =>
      rw [q] at e
      cases l with
      | no => cases e
      | d x => cases e; exact Rd.one (R.cd n y a q e2).1
      | own o => cases e; exact (R.co n o a q e2).1.one
/-- the frame stands, whatever its heap's other parts do -/
theorem Rel.step (R : Rel K A as f σ H) (hA : ∀ a, A' a → ∃ o, H' a = some o) (x : Ext (Lv A f as σ) H (Lv A' f as σ) H') (ko : ∀ a, Own f as σ a → H' a = H a) (nA : ∀ a, Own f as σ a → ¬ A' a) : Rel K A' as f σ H' where
  lenσ := R.lenσ
  lenS := R.lenS
  sd := fun i y e => let ⟨v, h1, h2⟩ := R.sd i y e; ⟨v, h1, h2.ext x⟩
  so := fun i o e => let ⟨a, h1, h2, h3⟩ := R.so i o e; ⟨a, h1, h2.ext x (ko a (.inl ⟨i, o, e, h1⟩)), nA a (.inl ⟨i, o, e, h1⟩)⟩
  sc := R.sc
  cd := fun n y a e e' => (R.cd n y a e e').ext x
  co := fun n o a e e' => ⟨(R.co n o a e e').1.ext x (ko a (.inr ⟨n, o, e, e'⟩)), nA a (.inr ⟨n, o, e, e'⟩)⟩
  i1 := R.i1
  i2 := R.i2
  i3 := R.i3
  al := hA
theorem Rel.nA (R : Rel K A as f σ H) {a : Addr} (h : Own f as σ a) : ¬ A a := by
  rcases h with ⟨i, o, e, e'⟩ | ⟨n, o, e, e'⟩
  · obtain ⟨b, h1, _, h3⟩ := R.so i o e
    rw [e'] at h1; cases h1; exact h3
  · exact (R.co n o a e e').2
theorem Rel.own_some (R : Rel K A as f σ H) {a : Addr} (h : Own f as σ a) : ∃ o, H a = some o := by
  rcases h with ⟨i, o, e, e'⟩ | ⟨n, o, e, e'⟩
  · obtain ⟨b, h1, h2, _⟩ := R.so i o e
    rw [e'] at h1; cases h1; exact h2.some
  · exact (R.co n o a e e').1.some
theorem Rel.less (R : Rel K A as f σ H) (h : ∀ a, A' a → A a) : Rel K A' as f σ H :=
  R.step (fun a q => R.al a (h a q)) (Ext.less fun a q => q.imp (h a) id) (fun _ _ => rfl) fun a q z => R.nA q (h a z)
theorem ext_less (h : ∀ a, A' a → A a) : Ext (Lv A f as σ) H (Lv A' f as σ) H := Ext.less fun a q => q.imp (h a) id
/-- a new thing is laid -/
theorem Rel.laid (R : Rel K A as f σ H) {p : Addr} {o : HO} (hp : H p = none) : Rel K (fun a => A a ∨ a = p) as f σ (upd H p o) ∧ Ext (Lv A f as σ) H (Lv (fun a => A a ∨ a = p) f as σ) (upd H p o) ∧ ∀ a, Lv A f as σ a → upd H p o a = H a := by
  have ne : ∀ a u, H a = some u → a ≠ p := fun a u e z => by subst z; rw [hp] at e; cases e
  have x : Ext (Lv A f as σ) H (Lv (fun a => A a ∨ a = p) f as σ) (upd H p o) := fun a u e n => ⟨by rw [upd_ne (ne a u e)]; exact e, fun z => by
    rcases z with (z | z) | z
    · exact n (.inl z)
    · exact ne a u e z
    · exact n (.inr z)⟩
  refine ⟨R.step (fun a q => ?_) x (fun a q => ?_) fun a q z => ?_, x, fun a q => ?_⟩
  · rcases q with q | q
    · obtain ⟨u, e⟩ := R.al a q
      exact ⟨u, by rw [upd_ne (ne a u e)]; exact e⟩
    · subst q; exact ⟨o, upd_same⟩
  · obtain ⟨u, e⟩ := R.own_some q
    exact upd_ne (ne a u e)
  · rcases z with z | z
    · exact R.nA q z
    · obtain ⟨u, e⟩ := R.own_some q
      exact ne a u e z
  · rcases q with q | q
    · obtain ⟨u, e⟩ := R.al a q
      exact upd_ne (ne a u e)
    · obtain ⟨u, e⟩ := R.own_some q
      exact upd_ne (ne a u e)
/-- .. and kept as data (a tuple) -/
theorem Rel.laid' (R : Rel K A as f σ H) {p : Addr} {o : HO} (hp : H p = none) : Rel K A as f σ (upd H p o) ∧ Ext (Lv A f as σ) H (Lv A f as σ) (upd H p o) ∧ (∀ a, Lv A f as σ a → upd H p o a = H a) ∧ ¬ Lv A f as σ p := by
  obtain ⟨R1, x1, k⟩ := R.laid (o := o) hp
  have n : ¬ Lv A f as σ p := fun z => by
    rcases z with z | z
    · obtain ⟨u, e⟩ := R.al p z; rw [hp] at e; cases e
    · obtain ⟨u, e⟩ := R.own_some z; rw [hp] at e; cases e
  exact ⟨R1.less fun a q => .inl q, x1.trans (ext_less fun a q => .inl q), k, n⟩
end
end Vm
set_option maxRecDepth 100000
set_option maxHeartbeats 4000000
namespace Vm
open PySem PySem.Spec L2
/-! ### the strict operations on data -/
def inS (x y : Str) : Bool := match x.cps.toList with
  | [c] => decide (c ∈ y.cps.toList)
  | _ => !(Builtin.Str.occurrences y x 0 y.length 1).isEmpty
def flatD : D → Bool
  | .none => true
  | .bool _ => true
  | .int _ => true
  | .str _ => true
  | _ => false
/-- two scalars, as == has them -/
def eqF : D → D → Bool
  | .none, .none => true
  | .bool a, .bool b => a == b
  | .bool a, .int b => (if a then 1 else 0) == b
  | .int a, .bool b => a == (if b then 1 else 0)
  | .int a, .int b => a == b
  | .str a, .str b => a == b
  | _, _ => false
def sign (c : Nat) : Str := ⟨#[c]⟩
def signs (s : Str) : List D := s.cps.toList.map fun c => PyData.str (sign c)
def itemsD : D → Option (List D)
  | .list ds => some ds
  | .tuple ds => some ds
  | .str s => if s.length ≤ 16777216 then some (signs s) else none
  | _ => none
def cutD (xs : List D) (lo hi : Option Int) : List D := (xs.drop (HT.sIx xs.length 0 lo)).take (HT.sIx xs.length xs.length hi - HT.sIx xs.length 0 lo)
def keyD : D → Option Key
  | .int i => some (.inl i)
  | .str s => some (.inr s)
  | _ => none
def intsD : List D → Option (List Int)
  | [] => some []
  | .int i :: r => (intsD r).map (i :: ·)
  | _ => none
def boolsD : List D → Option (List Bool)
  | [] => some []
  | .bool i :: r => (boolsD r).map (i :: ·)
  | _ => none
def strsD : List D → Option (List Str)
  | [] => some []
  | .str i :: r => (strsD r).map (i :: ·)
  | _ => none
def insI (x : Int) : List Int → List Int
  | [] => [x]
  | y :: r => if x ≤ y then x :: y :: r else y :: insI x r
def sortI : List Int → List Int
  | [] => []
  | x :: r => insI x (sortI r)
def tyD : D → String
  | .none => "NoneType"
  | .bool _ => "bool"
  | .int _ => "int"
  | .str _ => "str"
  | .list _ => "list"
  | .tuple _ => "tuple"
  | .dict _ => "dict"
def findK (kvs : List (D × D)) (k : D) : Option D := (kvs.find? fun p => eqF p.1 k).map (·.2)
def sliceD (x : D) (lo hi : Option Int) : Option RR := match x with
  | .list ds => some (.fr (.lst (cutD ds lo hi)))
  | .tuple ds => some (.d (.tuple (cutD ds lo hi)))
  | .str s => if s.length ≤ 16777216 then some (.d (.str (cutS s lo hi))) else none
  | _ => none
def maxI (m : Int) : List Int → Int
  | [] => m
  | x :: r => maxI (if x > m then x else m) r
def minI (m : Int) : List Int → Int
  | [] => m
  | x :: r => minI (if x < m then x else m) r
def runAdd : D → D → Option RR
  | .int i, .int j => some (.d (.int (i + j)))
  | .str i, .str j => if i.length + j.length ≤ 16777216 then some (.d (.str (i ++ j))) else none
  | .tuple i, .tuple j => if i.length + j.length ≤ 16777216 then some (.d (.tuple (i ++ j))) else none
  | .list i, .list j => if i.length + j.length ≤ 16777216 then some (.fr (.lst (i ++ j))) else none
  | _, _ => none
def runMul : D → D → Option RR
  | .int i, .int j => if (-(2 ^ 64) < i ∧ i < 2 ^ 64) ∨ (-(2 ^ 64) < j ∧ j < 2 ^ 64) then some (.d (.int (i * j))) else none
  | .list xs, .int k => if -(2 ^ 63) ≤ k ∧ k < 2 ^ 63 ∧ xs.length * k.toNat ≤ 16777216 then some (.fr (.lst (List.replicate k.toNat xs).flatten)) else none
  | .tuple xs, .int k => if -1000 ≤ k ∧ k ≤ 1000 ∧ xs.length ≤ 1000 then some (.d (.tuple (List.replicate k.toNat xs).flatten)) else none
  | _, _ => none
def runInts (c : Int → Int → Bool) (g : Int → Int → D) : D → D → Option RR
  | .int i, .int j => if c i j = true then some (.d (g i j)) else none
  | _, _ => none
def runLt : D → D → Option RR
  | .int i, .int j => some (.d (.bool (decide (i < j))))
  | .str i, .str j => some (.d (.bool (decide (i.cps.toList < j.cps.toList))))
  | .tuple i, .tuple j => (intsD i).bind fun a => (intsD j).bind fun b => some (.d (.bool (HT.lexLt a b)))
  | _, _ => none
def isNone : D → Bool
  | .none => true
  | _ => false
/-- x in y -/
def memD : D → D → Option Bool
  | .str x, .str y => some (inS x y)
  | x, .list ds => if (flatD x && ds.all flatD) = true then some (ds.any fun y => eqF y x) else none
  | x, .tuple ds => if (flatD x && ds.all flatD) = true then some (ds.any fun y => eqF y x) else none
  | _, _ => none
def itemD : D → D → Option D
  | .list ds, .int i => atI ds i
  | .tuple ds, .int i => atI ds i
  | .str s, .int i => if s.length ≤ 16777216 then (atI s.cps.toList i).map fun c => .str (sign c) else none
  | _, _ => none
def lenD : D → Option Nat
  | .list ds => some ds.length
  | .tuple ds => some ds.length
  | .str s => if s.length ≤ 16777216 then some s.length else none
  | .dict kvs => some kvs.length
  | _ => none
def runInt : D → Option RR
  | .int i => some (.d (.int i))
  | .bool b => some (.d (.int (if b then 1 else 0)))
  | _ => none
def runSeq (g : List D → RR) : D → Option RR
  | .list ds => some (g ds)
  | .tuple ds => some (g ds)
  | _ => none
def runInts1 (g : List Int → Option RR) : D → Option RR
  | .list ds => (intsD ds).bind g
  | _ => none
def runSum : D → Option RR
  | .list ds => (intsD ds).bind fun ns => some (.d (.int ns.sum))
  | .tuple ds => (intsD ds).bind fun ns => some (.d (.int ns.sum))
  | _ => none
def runBools1 (g : List Bool → Bool) : D → Option RR
  | .list ds => (boolsD ds).map fun bs => .d (.bool (g bs))
  | _ => none
def runSorted : D → Option RR
  | .list ds => (intsD ds).map fun ns => .fr (.lst ((sortI ns).map .int))
  | .tuple ds => (intsD ds).map fun ns => .fr (.lst ((sortI ns).map .int))
  | .dict kvs => if kvs.length < 64 then (intsD (kvs.map (·.1))).map fun ns => .fr (.lst ((sortI ns).map .int)) else none
  | _ => none
def runRepr (x : D) : Option RR := if x.canLay0 = true ∧ x.showable = true ∧ x.depth ≤ 64 ∧ x.shown.length ≤ 16777216 then some (.d (.str x.shown)) else none
def runNeg : D → Option RR
  | .int i => some (.d (.int (-i)))
  | _ => none
def runAbs : D → Option RR
  | .int i => some (.d (.int (if i < 0 then -i else i)))
  | _ => none
def twoStr : D → D → Bool
  | .str _, .str _ => true
  | _, _ => false
def runEq (neg : Bool) (x y : D) : Option RR := if (twoStr x y || (SeqAt.shaped x && SeqAt.shaped y)) = true then some (.d (.bool (if neg then !PyData.eqv x y else PyData.eqv x y))) else none
def intD : D → Option Int
  | .int i => some i
  | _ => none
def runMin1 : List Int → Option RR
  | [] => none
  | n :: r => some (.d (.int (minI n r)))
def runMax1 : List Int → Option RR
  | [] => none
  | n :: r => some (.d (.int (maxI n r)))
def dgetD (kvs : List (D × D)) (k : Key) : Option D := (kvs.find? fun kv => decide (keyD kv.1 = some k)).map (·.2)
/-- data that may be handed on as it is -/
def flat1 : D → Bool
  | .list _ => false
  | .dict _ => false
  | _ => true
def runGet1 : D → D → Option RR
  | .dict kvs, k => (keyD k).map fun k => .d ((dgetD kvs k).getD .none)
  | _, _ => none
def runGet2 : D → D → D → Option RR
  | .dict kvs, k, z => (keyD k).bind fun k => if flat1 z = true then some (.d ((dgetD kvs k).getD z)) else none
  | _, _, _ => none
def idxD (ds : List D) : D → Option RR
  | .int k => (intsD ds).bind fun ns => if k ∈ ns then some (.d (.int ((ns.idxOf k : Nat) : Int))) else none
  | _ => none
def runTIdx : D → D → Option RR
  | .tuple ds, k => idxD ds k
  | _, _ => none
def scD : D → Option RR
  | .int i => some (.d (.int i))
  | .none => some (.d .none)
  | _ => none
/-- max(xs, default=d), min(xs, default=d) -/
def runMaxd : D → D → Option RR
  | .list ds, d => (intsD ds).bind fun ns => match ns with
    | [] => scD d
    | n :: r => some (.d (.int (maxI n r)))
  | _, _ => none
def runMind : D → D → Option RR
  | .list ds, d => (intsD ds).bind fun ns => match ns with
    | [] => scD d
    | n :: r => some (.d (.int (minI n r)))
  | _, _ => none
def runLIdx : D → D → Option RR
  | .list ds, k => idxD ds k
  | _, _ => none
def cntD (ds : List D) : D → Option RR
  | .int k => (intsD ds).bind fun ns => some (.d (.int ((ns.count k : Nat) : Int)))
  | _ => none
def runTCnt : D → D → Option RR
  | .tuple ds, k => cntD ds k
  | _, _ => none
def runLCnt : D → D → Option RR
  | .list ds, k => cntD ds k
  | _, _ => none
/-- tuple(l), laid as it is -/
def runPtup : D → Option RR
  | .list ds => some (.d (pl ds))
  | _ => none
def runRev : D → Option RR
  | .list ds => some (.fr (.lst ds.reverse))
  | .tuple ds => some (.d (.tuple ds.reverse))
  | _ => none
def Op.run : Op → List D → Option RR
  | .add, [a, b] => runAdd a b
  | .sub, [a, b] => runInts (fun _ _ => true) (fun i j => .int (i - j)) a b
  | .mul, [a, b] => runMul a b
  | .fdiv, [a, b] => runInts (fun _ j => decide (0 < j) && decide (j < 1073741824)) (fun i j => .int (i / j)) a b
  | .mod, [a, b] => runInts (fun _ j => decide (0 < j)) (fun i j => .int (i % j)) a b
  | .pow, [a, b] => runInts (fun i j => decide (0 ≤ j) && decide (j ≤ 1000000) && decide (i.natAbs < 2 ^ 64)) (fun i j => .int (i ^ j.toNat)) a b
  | .neg, [a] => runNeg a
  | .not, [x] => (truth x).map fun b => .d (.bool (!b))
  | .lt, [a, b] => runLt a b
  | .le, [a, b] => runInts (fun _ _ => true) (fun i j => .bool (decide (i ≤ j))) a b
  | .gt, [a, b] => runInts (fun _ _ => true) (fun i j => .bool (decide (j < i))) a b
  | .ge, [a, b] => runInts (fun _ _ => true) (fun i j => .bool (decide (j ≤ i))) a b
  | .eq, [x, y] => runEq false x y
  | .ne, [x, y] => runEq true x y
  | .isn, [x] => some (.d (.bool (isNone x)))
  | .isnn, [x] => some (.d (.bool (!isNone x)))
  | .mem, [x, y] => (memD x y).map fun b => .d (.bool b)
  | .nmem, [x, y] => (memD x y).map fun b => .d (.bool (!b))
  | .item, [x, y] => (itemD x y).map .d
  | .slice false false, [x] => sliceD x none none
  | .slice true false, [x, a] => (intD a).bind fun a => sliceD x (some a) none
  | .slice false true, [x, b] => (intD b).bind fun b => sliceD x none (some b)
  | .slice true true, [x, a, b] => (intD a).bind fun a => (intD b).bind fun b => sliceD x (some a) (some b)
  | .len, [x] => (lenD x).map fun n : Nat => RR.d (.int (n : Int))
  | .int, [x] => runInt x
  | .abs, [x] => runAbs x
  | .min2, [a, b] => runInts (fun _ _ => true) (fun i j => .int (if j < i then j else i)) a b
  | .max2, [a, b] => runInts (fun _ _ => true) (fun i j => .int (if j > i then j else i)) a b
  | .min1, [x] => runInts1 runMin1 x
  | .max1, [x] => runInts1 runMax1 x
  | .repr, [x] => runRepr x
  | .tuple, [x] => runSeq (fun ds => .d (.tuple ds)) x
  | .list, [x] => runSeq (fun ds => .fr (.lst ds)) x
  | .any, [x] => runBools1 (fun bs => bs.any id) x
  | .all, [x] => runBools1 (fun bs => bs.all id) x
  | .sum, [x] => runSum x
  | .sorted, [x] => runSorted x
  | .lcm, [x, y] => runInts (fun i j => decide (i.natAbs < 2 ^ 64) && decide (j.natAbs < 2 ^ 64)) (fun i j => .int ((i.natAbs.lcm j.natAbs : Nat) : Int)) x y
  | .divmod, [a, b] => runInts (fun _ j => decide (0 < j) && decide (j < 1073741824)) (fun i j => .tuple [.int (i / j), .int (i % j)]) a b
  | .rev, [x] => runRev x
  | .mget1, [x, k] => runGet1 x k
  | .mget2, [x, k, z] => runGet2 x k z
  | .tindex, [x, k] => runTIdx x k
  | .tcount, [x, k] => runTCnt x k
  | .lcount, [x, k] => runLCnt x k
  | .ptuple, [x] => runPtup x
  | .lindex, [x, k] => runLIdx x k
  | .maxd, [x, d] => runMaxd x d
  | .mind, [x, d] => runMind x d
  | .isI t, [x] => (kitB (tyD x) t).map fun b => .d (.bool b)
  | _, _ => none
def Mu.run : Mu → Ob → List D → Option (Ob × D)
  | .append, .lst xs, [y] => if xs.length < 16777216 then some (.lst (xs ++ [y]), .none) else none
  | .extend, .lst xs, [.list ys] => if xs.length + ys.length ≤ 16777216 then some (.lst (xs ++ ys), .none) else none
  | .pop0, .lst xs, [] => (xs[xs.length - 1]?).map fun y => (.lst xs.dropLast, y)
  | _, _, _ => none
def putD (kvs : List (Key × D)) (k : Key) (y : D) : List (Key × D) :=
  if (kvs.any fun kv => decide (kv.1 = k)) = true then kvs.map (fun kv => if kv.1 = k then (kv.1, y) else kv) else kvs ++ [(k, y)]
/-- o[i] = y -/
def putO : Ob → D → D → Option Ob
  | .lst xs, .int i, y => (ixN xs.length i).map fun j => .lst (xs.set j y)
  | .dct kvs, k, y => (keyD k).bind fun k => if kvs.length < 16777216 then some (.dct (putD kvs k y)) else none
  | _, _, _ => none
/-! ### expressions -/
abbrev Call := Nat → List Arg → Res (RR × List SV)
def toArg (f : F) : RV → Option Arg
  | .d x => some (.d x)
  | .fr o => some (.o o)
  | .vr i => match f.ρ[i]? with
    | some (.own o) => some (.r o)
    | some (.d x) => some (.d x)
    | _ => none
  | .ce n => match f.S[n]? with
    | some (.own o) => some (.r o)
    | some (.d x) => some (.d x)
    | _ => none
def toArgs (f : F) : List RV → Option (List Arg)
  | [] => some []
  | r :: rs => (toArg f r).bind fun a => (toArgs f rs).bind fun l => some (a :: l)
/-- what goes by reference: slots, arguments -/
abbrev Loc := Sum Nat Nat
def locs (f : F) : List RV → List Loc
  | [] => []
  | .vr i :: rs => match f.ρ[i]? with
    | some (.own _) => .inl i :: locs f rs
    | _ => locs f rs
  | .ce n :: rs => match f.S[n]? with
    | some (.own _) => .inr n :: locs f rs
    | _ => locs f rs
  | _ :: rs => locs f rs
def SV.lv : SV → LV
  | .no => .no
  | .d x => .d x
  | .own o => .own o
def put1 (f : F) : Loc → SV → F
  | .inl i, u => { f with ρ := f.ρ.set i u.lv }
  | .inr n, u => { f with S := f.S.set n u }
def clr1 (f : F) : Loc → F
  | .inl i => { f with ρ := f.ρ.set i .no }
  | .inr n => { f with S := f.S.set n .no }
def clr (f : F) : List Loc → F
  | [] => f
  | l :: ls => clr (clr1 f l) ls
def putB (f : F) : List Loc → List SV → Option F
  | [], [] => some f
  | l :: ls, u :: us => putB (put1 f l u) ls us
  | _, _ => none
def doCallR (G : Call) (g : Nat) (f : F) (rvs : List RV) : Res (RR × F) :=
  (ofOpt (toArgs f rvs)).bind fun as => if (locs f rvs).Nodup then (G g as).bind fun p => (ofOpt (putB (clr f (locs f rvs)) (locs f rvs) p.2)).bind fun f2 => .ok (p.1, f2) else .bad
def doCall (G : Call) (g : Nat) (f : F) (rvs : List RV) : Res (RV × F) := (doCallR G g f rvs).bind fun p => (ofOpt p.1.val).bind fun r => .ok (r, p.2)
/-- the object at a place, if it is still to be changed -/
def ownAt (f : F) : RV → Option (Loc × Ob)
  | .vr i => match f.ρ[i]? with
    | some (.own o) => some (.inl i, o)
    | _ => none
  | .ce n => match f.S[n]? with
    | some (.own o) => some (.inr n, o)
    | _ => none
  | _ => none
mutual
def bindT : Tg → D → List LV → Option (List LV)
  | .name i, x, ρ => some (ρ.set i (.d x))
  | .tup ts, .tuple ds, ρ => bindTs ts ds ρ
  | .tup _, _, _ => none
def bindTs : List Tg → List D → List LV → Option (List LV)
  | [], [], ρ => some ρ
  | t :: ts, d :: ds, ρ => (bindT t d ρ).bind fun ρ1 => bindTs ts ds ρ1
  | _, _, _ => none
end
def wipeL (ρ : List LV) : List Nat → List LV
  | [] => ρ
  | v :: vs => (wipeL ρ vs).set v .no
def backL (ρ0 ρ : List LV) : List Nat → List LV
  | [] => ρ
  | v :: vs => (backL ρ0 ρ vs).set v (ρ0.getD v .no)
def permR {α : Type} (rs : List α) (pm : List Nat) : List α := pm.filterMap fun i => rs[i]?
def noOwn (ρ : List LV) (vs : List Nat) : Bool := vs.all fun v => match ρ[v]? with
  | some (.own _) => false
  | some _ => true
  | none => false
/-- the slots of a comprehension's names are kept as data first -/
def frz1 (f : F) (v : Nat) : F := match f.ρ[v]? with
  | some (.own o) => { f with ρ := f.ρ.set v (.d o.d) }
  | _ => f
def frzV (f : F) : List Nat → F
  | [] => f
  | v :: vs => frzV (frz1 f v) vs
def kFz (own : List Nat) (p : List D × F) : Res (List D × F) := .ok (p.1, frzV p.2 own)
mutual
def eqD : D → D → Bool
  | .none, .none => true
  | .bool a, .bool b => a == b
  | .int a, .int b => a == b
  | .str a, .str b => decide (a = b)
  | .list a, .list b => eqDs a b
  | .tuple a, .tuple b => eqDs a b
  | _, _ => false
def eqDs : List D → List D → Bool
  | [], [] => true
  | x :: xs, y :: ys => eqD x y && eqDs xs ys
  | _, _ => false
end
/-- the list in a slot -/
def lstAt (f : F) (j : Nat) : Option (List D) := match f.ρ[j]? with
  | some (.own (.lst xs)) => some xs
  | some (.c n) => (match f.S[n]? with
    | some (.own (.lst xs)) => some xs
    | some (.d (.list xs)) => some xs
    | _ => none)
  | _ => none
def keepB (j : Nat) (ds : List D) (f : F) : Bool := match lstAt f j with
  | some xs => eqDs xs ds
  | none => false
def isDat (f : F) (j : Nat) : Option D := match f.ρ[j]? with
  | some (.d x) => some x
  | _ => none
def evK (j : Nat) (ds : List D) (T : F → Res (Bool × F)) (f : F) : Res (Bool × F) := if keepB j ds f = true then T f else .bad
/-- the turns of a comprehension -/
def lcLoop (T : F → Res (Bool × F)) (E : F → Res (RV × F)) (t : Tg) (own : List Nat) : List D → List D → F → Res (List D × F)
  | [], acc, f => .ok (acc, f)
  | x :: xs, acc, f => (ofOpt (bindT t x f.ρ)).bind fun ρ1 => (T { f with ρ := ρ1 }).bind fun p =>
    if p.1 = true then (E p.2).bind fun q => (ofOpt (frz q.2 q.1)).bind fun r => if acc.length < 16777216 then lcLoop T E t own xs (acc ++ [r.1]) { r.2 with ρ := wipeL r.2.ρ own } else .bad
    else lcLoop T E t own xs acc { p.2 with ρ := wipeL p.2.ρ own }
/-- the turns of a comprehension of two clauses -/
def lc2Loop (T : F → Res (Bool × F)) (I1 : F → Res (List D × F)) (T1 : F → Res (Bool × F)) (E : F → Res (RV × F)) (t t1 : Tg) (own own1 : List Nat) : List D → List D → F → Res (List D × F)
  | [], acc, f => .ok (acc, f)
  | x :: xs, acc, f => (ofOpt (bindT t x f.ρ)).bind fun ρ1 => (T { f with ρ := ρ1 }).bind fun p =>
    if p.1 = true then (I1 p.2).bind fun q => (lcLoop T1 E t1 own1 q.1 acc { q.2 with ρ := wipeL q.2.ρ own1 }).bind fun r => lc2Loop T I1 T1 E t t1 own own1 xs r.1 { r.2 with ρ := wipeL r.2.ρ own }
    else lc2Loop T I1 T1 E t t1 own own1 xs acc { p.2 with ρ := wipeL p.2.ρ own }
/-- a, a - 1, .. , b + 1 -/
def rangeD (a b : Int) : List D := (List.range (a - b).toNat).map fun i : Nat => PyData.int (a - (i : Int))
def rangeL (a b : Int) : List D := (List.range (b - a).toNat).map fun i : Nat => PyData.int (a + (i : Int))
def rangeR (a : Int) (n : Nat) (c : Int) : List D := (List.range n).map fun i : Nat => PyData.int (a + (i : Int) * c)
def bnd (i : Int) : Bool := decide (-(2 ^ 62) ≤ i) && decide (i < 2 ^ 62)
def enumL : Nat → List D → List D
  | _, [] => []
  | n, x :: r => .tuple [.int n, x] :: enumL (n + 1) r
def zipL : List D → List D → List D
  | x :: r, y :: s => .tuple [x, y] :: zipL r s
  | _, _ => []
/-- a method: by its name, the object's type, how many arguments -/
def meTab : List ((String × String × Nat) × Op) := [(("get", "dict", 1), .mget1), (("get", "dict", 2), .mget2), (("index", "list", 1), .lindex), (("count", "list", 1), .lcount)]
def plT (nm : Str) (n : Nat) : Option Op := if nm = "index" ∧ n = 1 then some .tindex else if nm = "count" ∧ n = 1 then some .tcount else none
def meT (nm : Str) (T : String) (n : Nat) : Option Op := (meTab.find? fun r => decide (Str.ofString r.1.1 = nm) && (r.1.2.1 == T) && (r.1.2.2 == n)).map (·.2)
/-- the method's operation; of a tuple only where it is known how it is laid -/
def meR (f : F) (nm : Str) (n : Nat) : RV → Option Op
  | .d x => if isPl x = true then plT nm n else meT nm (tyD (norm x)) n
  | r => (view f r).bind fun y => meT nm (tyD y) n
mutual
def tgI : Tg → List Nat
  | .name i => [i]
  | .tup ts => tgIs ts
def tgIs : List Tg → List Nat
  | [] => []
  | t :: ts => tgI t ++ tgIs ts
end
mutual
def evE (G : Call) : Ex → F → Res (RV × F)
  | .k x, f => .ok (.d x, f)
  | .v i, f => match f.ρ[i]? with
    | some (.d x) => .ok (.d x, f)
    | some (.own _) => .ok (.vr i, f)
    | some (.c n) => .ok (.ce n, f)
    | _ => .bad
  | .op o es, f => (evEs G es f).bind fun p => (ofOpt ((views p.2 p.1).bind o.run)).bind fun r => .ok (r.rv, p.2)
  | .tup es, f => (evEs G es f).bind fun p => (ofOpt (frzs p.2 p.1)).bind fun q => if q.1.length ≤ 16777216 then .ok (.d (.tuple q.1), q.2) else .bad
  | .lst es, f => (evEs G es f).bind fun p => (ofOpt (frzs p.2 p.1)).bind fun q => if q.1.length ≤ 16777216 then .ok (.fr (.lst q.1), q.2) else .bad
  | .dct ks es, f => match ks, es with
    | [], [] => .ok (.fr (.dct []), f)
    | _, _ => .bad
  | .sl2 a lo hi, f => (evE G a f).bind fun p => (evE G lo p.2).bind fun q => match q.1 with
    | .d (.int i) => (evE G hi q.2).bind fun r => match r.1 with
      | .d (.int j) => (ofOpt ((view r.2 p.1).bind fun x => sliceD x (some i) (some j))).bind fun rr => .ok (rr.rv, r.2)
      | _ => .bad
    | _ => .bad
  | .tups fl es, f => (evSt G es fl f).bind fun p => (ofOpt (frzs p.2 p.1)).bind fun q => if q.1.length ≤ 16777216 then .ok (.d (.tuple q.1), q.2) else .bad
  | .and a b, f => (evE G a f).bind fun p => (ofOpt ((view p.2 p.1).bind truth)).bind fun t => if t = true then evE G b p.2 else .ok p
  | .or a b, f => (evE G a f).bind fun p => (ofOpt ((view p.2 p.1).bind truth)).bind fun t => if t = true then .ok p else evE G b p.2
  | .ife c a b, f => (evE G c f).bind fun p => (ofOpt ((view p.2 p.1).bind truth)).bind fun t => if t = true then evE G a p.2 else evE G b p.2
  | .ch o o' a b c, f => (evE G a f).bind fun p => (evE G b p.2).bind fun q => (ofOpt ((views q.2 [p.1, q.1]).bind o.run)).bind fun r => match r with
    | .d (.bool true) => (evE G c q.2).bind fun u => (ofOpt ((views u.2 [q.1, u.1]).bind o'.run)).bind fun r2 => .ok (r2.rv, u.2)
    | .d (.bool false) => .ok (.d (.bool false), q.2)
    | _ => .bad
  | .call g es, f => (evEs G es f).bind fun p => doCall G g p.2 p.1
  | .callk g pm es, f => (evEs G es f).bind fun p => doCall G g p.2 (permR p.1 pm)
  | .me nm a es, f => (evE G a f).bind fun p => (ofOpt (meR p.2 nm es.length p.1)).bind fun o => (evEs G es p.2).bind fun q => (ofOpt ((views q.2 (p.1 :: q.1)).bind o.run)).bind fun r => .ok (r.rv, q.2)
  | .mu m a es, f => (evE G a f).bind fun p => (ofOpt ((view p.2 p.1).bind fun y => if tyD y = "list" then some () else none)).bind fun _ => (evEs G es p.2).bind fun q => (ofOpt (frzs q.2 q.1)).bind fun r => (ofOpt (ownAt r.2 p.1)).bind fun l => (ofOpt (m.run l.2 r.1)).bind fun u => .ok (.d u.2, put1 r.2 l.1 (.own u.1))
  | .lc t it ifs e own, f => ((evI G it f).bind (kFz own)).bind fun p => if noOwn p.2.ρ own = true ∧ (tgI t).all (own.contains ·) = true then
      (lcLoop (evT G ifs) (evE G e) t own p.1 [] { p.2 with ρ := wipeL p.2.ρ own }).bind fun q => .ok (.fr (.lst q.1), { q.2 with ρ := backL p.2.ρ q.2.ρ own })
    else .bad
  | .lck t j ifs e own, f => match isDat f j with
    | some x => (((ofOpt (itemsD (norm x))).bind fun l => .ok (l, f)).bind (kFz own)).bind fun p => if noOwn p.2.ρ own = true ∧ (tgI t).all (own.contains ·) = true then
      (lcLoop (evT G ifs) (evE G e) t own p.1 [] { p.2 with ρ := wipeL p.2.ρ own }).bind fun q => .ok (.fr (.lst q.1), { q.2 with ρ := backL p.2.ρ q.2.ρ own })
      else .bad
    | none => (ofOpt (lstAt f j)).bind fun ds => if noOwn (frzV f own).ρ own = true ∧ (tgI t).all (own.contains ·) = true ∧ own.contains j = false then
      (lcLoop (evK j ds (evT G ifs)) (evE G e) t own ds [] { (frzV f own) with ρ := wipeL (frzV f own).ρ own }).bind fun q => if keepB j ds q.2 = true then .ok (.fr (.lst q.1), { q.2 with ρ := backL (frzV f own).ρ q.2.ρ own }) else .bad
    else .bad
  | .lc2 t it ifs t1 it1 ifs1 e own own1, f => ((evI G it f).bind (kFz own)).bind fun p => if noOwn p.2.ρ own = true ∧ (tgI t).all (own.contains ·) = true ∧ (tgI t1).all (own1.contains ·) = true ∧ own1.all (own.contains ·) = true then
      (lc2Loop (evT G ifs) (evI G it1) (evT G ifs1) (evE G e) t t1 own own1 p.1 [] { p.2 with ρ := wipeL p.2.ρ own }).bind fun q => .ok (.fr (.lst q.1), { q.2 with ρ := backL p.2.ρ q.2.ρ own })
    else .bad
def evEs (G : Call) : List Ex → F → Res (List RV × F)
  | [], f => .ok ([], f)
  | e :: es, f => (evE G e f).bind fun p => (evEs G es p.2).bind fun q => .ok (p.1 :: q.1, q.2)
/-- .. some with a star -/
def evSt (G : Call) : List Ex → List Bool → F → Res (List RV × F)
  | [], _, f => .ok ([], f)
  | e :: es, fl, f => (evE G e f).bind fun p => match fl.headD false, p.1 with
    | false, r => (evSt G es fl.tail p.2).bind fun q => .ok (r :: q.1, q.2)
    | true, .d (.tuple ds) => (evSt G es fl.tail p.2).bind fun q => .ok (ds.map RV.d ++ q.1, q.2)
    | true, .d (.list ds) => (evSt G es fl.tail p.2).bind fun q => .ok (ds.map RV.d ++ q.1, q.2)
    | true, _ => .bad
/-- all tests of a comprehension -/
def evT (G : Call) : List Ex → F → Res (Bool × F)
  | [], f => .ok (true, f)
  | e :: es, f => (evE G e f).bind fun p => (ofOpt ((view p.2 p.1).bind truth)).bind fun t => if t = true then evT G es p.2 else .ok (false, p.2)
def evI (G : Call) : It → F → Res (List D × F)
  | .seq e, f => (evE G e f).bind fun p => (ofOpt (frz p.2 p.1)).bind fun q => (ofOpt (itemsD q.1)).bind fun l => .ok (l, q.2)
  | .rng es, f => (evEs G es f).bind fun p => (ofOpt (views p.2 p.1)).bind fun ds => match ds with
    | [.int b] => if bnd b = true ∧ b ≤ 16777216 then .ok (rangeL 0 b, p.2) else .bad
    | [.int a, .int b] => if bnd a = true ∧ bnd b = true ∧ b - a ≤ 16777216 then .ok (rangeL a b, p.2) else .bad
    | [.int a, .int b, .int c] => if bnd a = true ∧ bnd b = true ∧ c = -1 ∧ a - b ≤ 16777216 then .ok (rangeD a b, p.2) else .bad
    | _ => .bad
  | .enum e, f => (evE G e f).bind fun p => (ofOpt (frz p.2 p.1)).bind fun q => match q.1 with
    | .list ds => .ok (enumL 0 ds, q.2)
    | .tuple ds => .ok (enumL 0 ds, q.2)
    | _ => .bad
  | .zip a b, f => (evE G a f).bind fun p => (evE G b p.2).bind fun q => (ofOpt (frzs q.2 [p.1, q.1])).bind fun r => match r.1 with
    | [.list xs, .list ys] => .ok (zipL xs ys, r.2)
    | [.tuple xs, .tuple ys] => .ok (zipL xs ys, r.2)
    | _ => .bad
  | .items e, f => .bad
end
/-- a call that may let an exception out -/
def evX (G : Call) : Ex → F → Res (RR × F)
  | .call g es, f => (evEs G es f).bind fun p => doCallR G g p.2 p.1
  | .callk g pm es, f => (evEs G es f).bind fun p => doCallR G g p.2 (permR p.1 pm)
  | _, _ => .bad
/-! ### statements -/
inductive Out where
  | nx (f : F) | rt (r : RR) (f : F) | bk (f : F) | ct (f : F) | bad
def Out.of {α : Type} (x : Res α) (g : α → Out) : Out := match x with
  | .ok a => g a
  | .bad => .bad
def Out.seq (x : Out) (g : F → Out) : Out := match x with
  | .nx f => g f
  | y => y
/-- a name takes what an expression gives -/
def bindN (f : F) (i : Nat) : RV → Option F
  | .d x => some { f with ρ := f.ρ.set i (.d x) }
  | .fr o => some { f with ρ := f.ρ.set i (.own o) }
  | .ce n => some { f with ρ := f.ρ.set i (.c n) }
  | r => (frz f r).map fun p => { p.2 with ρ := p.2.ρ.set i (.d p.1) }
/-- slots' objects are kept as data -/
def prepN (f : F) : List RV → Option (List RV × F)
  | [] => some ([], f)
  | .vr i :: rs => (frz f (.vr i)).bind fun p => (prepN p.2 rs).bind fun q => some (.d p.1 :: q.1, q.2)
  | r :: rs => (prepN f rs).bind fun q => some (r :: q.1, q.2)
def bindNs (f : F) : List Nat → List RV → Option F
  | [], [] => some f
  | i :: is, r :: rs => (bindN f i r).bind fun f1 => bindNs f1 is rs
  | _, _ => none
/-- what a def hands back -/
def retR (f : F) : RV → Option (RR × F)
  | .d x => some (.d x, f)
  | .fr o => some (.fr o, f)
  | .vr i => match f.ρ[i]? with
    | some (.own o) => some (.fr o, { f with ρ := f.ρ.set i .no })
    | some (.d x) => some (.d x, f)
    | _ => none
  | r => (frz f r).map fun p => (.d p.1, p.2)
def forLoop (B : F → Out) (t : Tg) : List D → F → Out
  | [], f => .nx f
  | x :: xs, f => match bindT t x f.ρ with
    | none => .bad
    | some ρ1 => match B { f with ρ := ρ1 } with
      | .nx f2 => forLoop B t xs f2
      | .ct f2 => forLoop B t xs f2
      | .bk f2 => .nx f2
      | .rt r f2 => .rt r f2
      | .bad => .bad
/-- the list that came by reference as the n-th -/
def lstS (f : F) (n : Nat) : Option (List D) := match f.S[n]? with
  | some (.own (.lst xs)) => some xs
  | some (.d (.list xs)) => some xs
  | _ => none
def keepS (n : Nat) (ds : List D) (f : F) : Bool := match lstS f n with
  | some xs => eqDs xs ds
  | none => false
def refAt (f : F) (j : Nat) : Option Nat := match f.ρ[j]? with
  | some (.c n) => some n
  | _ => none
def forLoopK (n : Nat) (ds : List D) (B : F → Out) (t : Tg) : List D → F → Out
  | [], f => if keepS n ds f = true then .nx f else .bad
  | x :: xs, f => if keepS n ds f = true then (match bindT t x f.ρ with
    | none => .bad
    | some ρ1 => match B { f with ρ := ρ1 } with
      | .nx f2 => forLoopK n ds B t xs f2
      | .ct f2 => forLoopK n ds B t xs f2
      | .bk f2 => .nx f2
      | .rt r f2 => .rt r f2
      | .bad => .bad) else .bad
def whlLoop (C : F → Res (Bool × F)) (B : F → Out) : Nat → F → Out
  | 0, _ => .bad
  | n + 1, f => Out.of (C f) fun p => if p.1 = true then match B p.2 with
      | .nx f2 => whlLoop C B n f2
      | .ct f2 => whlLoop C B n f2
      | .bk f2 => .nx f2
      | .rt r f2 => .rt r f2
      | .bad => .bad
    else .nx p.2
def fuel : Nat := 1000000
def evC (G : Call) (e : Ex) (f : F) : Res (Bool × F) := (evE G e f).bind fun p => (ofOpt ((view p.2 p.1).bind truth)).bind fun t => .ok (t, p.2)
def augI : Op → Int → D → Option Int
  | .add, a, .int b => some (a + b)
  | .sub, a, .int b => some (a - b)
  | _, _, _ => none
def kClx (p : RR × F) : Out := match p.1 with
  | .ex c => .rt (.ex c) p.2
  | _ => .nx p.2
def kClr (p : RR × F) : Out := .rt p.1 p.2
def kCla (i : Nat) (p : RR × F) : Out := match p.1 with
  | .ex c => .rt (.ex c) p.2
  | .d x => Out.of (ofOpt (bindN p.2 i (.d x))) .nx
  | .fr o => Out.of (ofOpt (bindN p.2 i (.fr o))) .nx
def kClt (ts : List Tg) (p : RR × F) : Out := match p.1 with
  | .ex c => .rt (.ex c) p.2
  | .d x => Out.of (ofOpt (bindT (.tup ts) x p.2.ρ)) fun ρ1 => .nx { p.2 with ρ := ρ1 }
  | .fr o => Out.of (ofOpt (bindT (.tup ts) o.d p.2.ρ)) fun ρ1 => .nx { p.2 with ρ := ρ1 }
/-- what a try makes of its body's end; h: the clause's suite -/
def noEx : Out → Out
  | .rt (.ex _) _ => .bad
  | o => o
def kTry (cs all : List Str) (h : F → Out) : Out → Out
  | .rt (.ex c) f => if all.contains c = true then (if cs.contains c = true then noEx (h f) else .rt (.ex c) f) else .bad
  | o => o
mutual
def xS (G : Call) : Sm → F → Out
  | .ex e, f => Out.of (evE G e f) fun p => .nx p.2
  | .asg (.name i) e, f => Out.of (evE G e f) fun p => Out.of (ofOpt (bindN p.2 i p.1)) .nx
  | .asg t e, f => Out.of (evE G e f) fun p => Out.of (ofOpt (frz p.2 p.1)) fun q => Out.of (ofOpt (bindT t q.1 q.2.ρ)) fun ρ1 => .nx { q.2 with ρ := ρ1 }
  | .par is es, f => Out.of (evEs G es f) fun p => Out.of (ofOpt (prepN p.2 p.1)) fun q => Out.of (ofOpt (bindNs q.2 is q.1)) .nx
  | .sub a i e, f => Out.of (evE G e f) fun p => Out.of (ofOpt (frz p.2 p.1)) fun y => Out.of (evE G a y.2) fun q => Out.of (evE G i q.2) fun r => Out.of (ofOpt (view r.2 r.1)) fun k =>
      Out.of (ofOpt (ownAt r.2 q.1)) fun l => Out.of (ofOpt (putO l.2 k y.1)) fun o => .nx (put1 r.2 l.1 (.own o))
  | .tsub a i j e, f => Out.of (evE G e f) fun p => Out.of (ofOpt (frz p.2 p.1)) fun y => match y.1 with
    | .tuple [y1, y2] => Out.of (evE G a y.2) fun q => Out.of (evE G i q.2) fun r => Out.of (ofOpt (view r.2 r.1)) fun k =>
      Out.of (ofOpt (ownAt r.2 q.1)) fun l => Out.of (ofOpt (putO l.2 k y1)) fun o => let f3 := put1 r.2 l.1 (.own o); .nx { f3 with ρ := f3.ρ.set j (.d y2) }
    | _ => .bad
  | .aug i o e, f => match f.ρ[i]? with
    | some (.d (.int a)) => Out.of (evE G e f) fun p => Out.of (ofOpt ((view p.2 p.1).bind fun y => augI o a y)) fun z => .nx { p.2 with ρ := p.2.ρ.set i (.d (.int z)) }
    | _ => .bad
  | .ret e, f => Out.of (evE G e f) fun p => Out.of (ofOpt (retR p.2 p.1)) fun q => .rt q.1 q.2
  | .retN, f => .rt (.d .none) f
  | .ifs c a b, f => Out.of (evC G c f) fun p => if p.1 = true then xSs G a p.2 else xSs G b p.2
  | .for t it b, f => Out.of (evI G it f) fun p => forLoop (xSs G b) t p.1 p.2
  | .fork t j b, f => match isDat f j with
    | some x => Out.of (ofOpt (itemsD (norm x))) fun ds => forLoop (xSs G b) t ds f
    | none => Out.of (ofOpt (refAt f j)) fun n => Out.of (ofOpt (lstS f n)) fun ds => forLoopK n ds (xSs G b) t ds f
  | .whl c b, f => whlLoop (evC G c) (xSs G b) fuel f
  | .brk, f => .bk f
  | .cont, f => .ct f
  | .pass, f => .nx f
  | .never, _ => .bad
  | .raise c, f => .rt (.ex c) f
  | .clx e, f => Out.of (evX G e f) kClx
  | .clr e, f => Out.of (evX G e f) kClr
  | .cla i e, f => Out.of (evX G e f) (kCla i)
  | .clt ts e, f => Out.of (evX G e f) (kClt ts)
  | .trys b cs all h, f => kTry cs all (xSs G h) (xSs G b f)
def xSs (G : Call) : List Sm → F → Out
  | [], f => .nx f
  | s :: ss, f => (xS G s f).seq (xSs G ss)
end
/-- a def: parameters, slots, body -/
structure Df where
  np : Nat
  ns : Nat
  body : List Sm
def entR : Nat → List Arg → List LV
  | _, [] => []
  | n, .d x :: r => .d x :: entR n r
  | n, .o o :: r => .own o :: entR n r
  | n, .r _ :: r => .c n :: entR (n + 1) r
def entS : List Arg → List SV
  | [] => []
  | .r o :: r => .own o :: entS r
  | _ :: r => entS r
def entry (d : Df) (args : List Arg) : F := ⟨entR 0 args ++ List.replicate (d.ns - d.np) .no, entS args⟩
def SV.ok : SV → Bool
  | .no => false
  | _ => true
def runD (defs : List Df) : Nat → Call
  | 0, _, _ => .bad
  | n + 1, g, args => match defs[g]? with
    | none => .bad
    | some d => if args.length = d.np then match xSs (runD defs n) d.body (entry d args) with
        | .rt r f => if f.S.all SV.ok = true then .ok (r, f.S) else .bad
        | .nx f => if f.S.all SV.ok = true then .ok (.d .none, f.S) else .bad
        | _ => .bad
      else .bad
end Vm
set_option maxRecDepth 100000
set_option maxHeartbeats 4000000
namespace Vm
open PySem PySem.Spec L2
section
variable {K : PySem.W.Frag} {A A' : ASet} {H H' : Hp} {as : List Addr} {σ σ' : L2.St} {f : F}
/-- what a slot's new content asks -/
def SlotNew (K : PySem.W.Frag) (A A' : ASet) (as : List Addr) (f : F) (σ σ' : L2.St) (H H' : Hp) (i : Nat) : LV → Prop
  | .no => True
  | .d x => ∃ v, σ'[i]? = some (some v) ∧ RdP K (fun b => Lv A f as σ b ∧ ¬ ∃ o0, f.ρ[i]? = some (.own o0) ∧ σ[i]? = some (some (.ref b))) H' x v
  | .own o => ∃ a, σ'[i]? = some (some (.ref a)) ∧ ObR K (Lv A f as σ) H' a o ∧ ¬ A' a ∧ (A a ∨ ∃ o0, f.ρ[i]? = some (.own o0) ∧ σ[i]? = some (some (.ref a)))
  | .c n => ∃ a, as[n]? = some a ∧ σ'[i]? = some (some (.ref a))
theorem Rel.setSlot {i : Nat} {l : LV} (R : Rel K A as f σ H) (hi : i < f.ρ.length) (hσ : ∀ j, j ≠ i → σ'[j]? = σ[j]?) (hl : σ'.length = σ.length) (hA : ∀ a, A' a → A a)
    (hk : ∀ a, Own f as σ a → ¬ (∃ o, f.ρ[i]? = some (.own o) ∧ σ[i]? = some (some (.ref a))) → H' a = H a) (hn : ∀ a o, H a = some o → ¬ Lv A f as σ a → H' a = some o)
    (al : ∀ a, A' a → ∃ o, H' a = some o) (hx : SlotNew K A A' as f σ σ' H H' i l) :
    Rel K A' as { f with ρ := f.ρ.set i l } σ' H' ∧ Ext (Lv A f as σ) H (Lv A' { f with ρ := f.ρ.set i l } as σ') H' := by
  have get : ∀ j, (f.ρ.set i l)[j]? = if j = i then some l else f.ρ[j]? := fun j => by
    by_cases h : j = i
    · subst h; rw [if_pos rfl, List.getElem?_set_self hi]
    · rw [if_neg h, List.getElem?_set_ne (Ne.symm h)]
  have own : ∀ a, Own { f with ρ := f.ρ.set i l } as σ' a → Lv A f as σ a := fun a h => by
    rcases h with ⟨j, o, e, e'⟩ | ⟨n, o, e, e'⟩
    · have e : (f.ρ.set i l)[j]? = some (.own o) := e
      rw [get] at e
      by_cases h : j = i
      · rw [if_pos h] at e; cases e
        obtain ⟨b, h1, _, _, h4⟩ := hx
        rw [h, h1] at e'; cases e'
        rcases h4 with h4 | ⟨o0, h4, h5⟩
        · exact .inl h4
        · exact .inr (.inl ⟨i, o0, h4, h5⟩)
      · rw [if_neg h] at e
        rw [hσ j h] at e'
        exact .inr (.inl ⟨j, o, e, e'⟩)
    · exact .inr (.inr ⟨n, o, e, e'⟩)
  have less : ∀ a, Lv A' { f with ρ := f.ρ.set i l } as σ' a → Lv A f as σ a := fun a h => h.elim (fun z => .inl (hA a z)) (own a)
  have x : Ext (Lv A f as σ) H (Lv A' { f with ρ := f.ρ.set i l } as σ') H' := fun a o e n => ⟨hn a o e n, fun z => n (less a z)⟩
  have x' : Ext (Lv A f as σ) H' (Lv A' { f with ρ := f.ρ.set i l } as σ') H' := Ext.less less
  refine ⟨⟨?_, R.lenS, fun j y e => ?_, fun j o e => ?_, fun j n e => ?_, fun n y a e e' => ?_, fun n o a e e' => ?_, fun j k a o o' e1 e2 e3 e4 => ?_, fun j n a o o' e1 e2 e3 e4 => ?_, R.i3, al⟩, x⟩
  · show _ = (f.ρ.set i l).length
    rw [List.length_set, hl, R.lenσ]
  · have e : (f.ρ.set i l)[j]? = some (.d y) := e
    rw [get] at e
    by_cases h : j = i
    · rw [if_pos h] at e; cases e; subst h
      obtain ⟨v, h1, h2⟩ := hx
      refine ⟨v, h1, h2.ext (Ext.less fun b z => ⟨less b z, ?_⟩)⟩
      rintro ⟨o0, z1, z2⟩
      rcases z with z | ⟨k, o, e, e'⟩ | ⟨n, o, e, e'⟩
      · exact R.nA (.inl ⟨j, o0, z1, z2⟩) (hA b z)
      · have e : (f.ρ.set j (.d y))[k]? = some (.own o) := e
        rw [get] at e
        by_cases hk' : k = j
        · rw [if_pos hk'] at e; cases e
        · rw [if_neg hk'] at e
          rw [hσ k hk'] at e'
          exact hk' (R.i1 k j b o o0 e z1 e' z2)
      · exact R.i2 j n b o0 o z1 e z2 e'
    · rw [if_neg h] at e
      obtain ⟨v, h1, h2⟩ := R.sd j y e
      exact ⟨v, by rw [hσ j h]; exact h1, h2.ext x⟩
  · have e : (f.ρ.set i l)[j]? = some (.own o) := e
    rw [get] at e
    by_cases h : j = i
    · rw [if_pos h] at e; cases e; subst h
      obtain ⟨a, h1, h2, h3, _⟩ := hx
      exact ⟨a, h1, h2.ext x' rfl, h3⟩
    · rw [if_neg h] at e
      obtain ⟨a, h1, h2, h3⟩ := R.so j o e
      refine ⟨a, by rw [hσ j h]; exact h1, h2.ext x (hk a (.inl ⟨j, o, e, h1⟩) ?_), fun z => h3 (hA a z)⟩
      rintro ⟨o0, z1, z2⟩
      exact h (R.i1 j i a o o0 e z1 h1 z2)
  · have e : (f.ρ.set i l)[j]? = some (.c n) := e
    rw [get] at e
    by_cases h : j = i
    · rw [if_pos h] at e; cases e; subst h
      exact hx
    · rw [if_neg h] at e
      obtain ⟨a, h1, h2⟩ := R.sc j n e
      exact ⟨a, h1, by rw [hσ j h]; exact h2⟩
  · exact (R.cd n y a e e').ext x
  · obtain ⟨h1, h2⟩ := R.co n o a e e'
    refine ⟨h1.ext x (hk a (.inr ⟨n, o, e, e'⟩) ?_), fun z => h2 (hA a z)⟩
    rintro ⟨o0, z1, z2⟩
    exact R.i2 i n a o0 o z1 e z2 e'
  · have g1 : (f.ρ.set i l)[j]? = some (.own o) := e1
    have g2 : (f.ρ.set i l)[k]? = some (.own o') := e2
    rw [get] at g1 g2
    clear e1 e2
    by_cases h : j = i
    · by_cases h' : k = i
      · rw [h, h']
      · exfalso
        rw [if_neg h'] at g2
        rw [if_pos h] at g1; cases g1
        rw [hσ k h'] at e4
        obtain ⟨b, q1, _, _, q4⟩ := hx
        rw [h, q1] at e3; cases e3
        rcases q4 with q4 | ⟨o0, q4, q5⟩
        · exact R.nA (.inl ⟨k, o', g2, e4⟩) q4
        · exact h' (R.i1 k i a o' o0 g2 q4 e4 q5)
    · rw [if_neg h] at g1
      rw [hσ j h] at e3
      by_cases h' : k = i
      · exfalso
        rw [if_pos h'] at g2; cases g2
        obtain ⟨b, q1, _, _, q4⟩ := hx
        rw [h', q1] at e4; cases e4
        rcases q4 with q4 | ⟨o0, q4, q5⟩
        · exact R.nA (.inl ⟨j, o, g1, e3⟩) q4
        · exact h (R.i1 j i a o o0 g1 q4 e3 q5)
      · rw [if_neg h'] at g2
        rw [hσ k h'] at e4
        exact R.i1 j k a o o' g1 g2 e3 e4
  · have e1 : (f.ρ.set i l)[j]? = some (.own o) := e1
    rw [get] at e1
    by_cases h : j = i
    · rw [if_pos h] at e1; cases e1
      obtain ⟨b, q1, _, _, q4⟩ := hx
      rw [h, q1] at e3; cases e3
      rcases q4 with q4 | ⟨o0, q4, q5⟩
      · exact R.nA (.inr ⟨n, o', e2, e4⟩) q4
      · exact R.i2 i n a o0 o' q4 e2 q5 e4
    · rw [if_neg h] at e1
      rw [hσ j h] at e3
      exact R.i2 j n a o o' e1 e2 e3 e4
/-- .. an argument's object's -/
def CellNew (K : PySem.W.Frag) (A A' : ASet) (as : List Addr) (f : F) (σ : L2.St) (H H' : Hp) (n : Nat) (a : Addr) : SV → Prop
  | .no => True
  | .d x => Rd K (fun b => Lv A f as σ b ∧ b ≠ a) H' x (.ref a) ∧ ∃ o, H' a = some o
  | .own o => ObR K (Lv A f as σ) H' a o ∧ ¬ A' a ∧ ∃ o0, f.S[n]? = some (.own o0)
theorem Rel.setCell {n : Nat} {u : SV} {a : Addr} (R : Rel K A as f σ H) (hn0 : as[n]? = some a) (hA : ∀ a, A' a → A a)
    (hk : ∀ b, Own f as σ b → b ≠ a → H' b = H b) (hn : ∀ a o, H a = some o → ¬ Lv A f as σ a → H' a = some o)
    (al : ∀ a, A' a → ∃ o, H' a = some o) (ho : ∃ o0, f.S[n]? = some (.own o0)) (hx : CellNew K A A' as f σ H H' n a u) :
    Rel K A' as { f with S := f.S.set n u } σ H' ∧ Ext (Lv A f as σ) H (Lv A' { f with S := f.S.set n u } as σ) H' := by
  obtain ⟨o0, ho⟩ := ho
  have hi : n < f.S.length := (List.getElem?_eq_some_iff.mp ho).1
  have get : ∀ j, (f.S.set n u)[j]? = if j = n then some u else f.S[j]? := fun j => by
    by_cases h : j = n
    · subst h; rw [if_pos rfl, List.getElem?_set_self hi]
    · rw [if_neg h, List.getElem?_set_ne (Ne.symm h)]
  have own : ∀ b, Own { f with S := f.S.set n u } as σ b → Own f as σ b := fun b h => by
    rcases h with h | ⟨j, o, e, e'⟩
    · exact .inl h
    · have e : (f.S.set n u)[j]? = some (.own o) := e
      rw [get] at e
      by_cases h : j = n
      · subst h; exact .inr ⟨j, o0, ho, e'⟩
      · rw [if_neg h] at e
        exact .inr ⟨j, o, e, e'⟩
  have less : ∀ b, Lv A' { f with S := f.S.set n u } as σ b → Lv A f as σ b := fun b h => h.imp (hA b) (own b)
  have x : Ext (Lv A f as σ) H (Lv A' { f with S := f.S.set n u } as σ) H' := fun b o e q => ⟨hn b o e q, fun z => q (less b z)⟩
  have x' : Ext (Lv A f as σ) H' (Lv A' { f with S := f.S.set n u } as σ) H' := Ext.less less
  have oa : Own f as σ a := .inr ⟨n, o0, ho, hn0⟩
  refine ⟨⟨R.lenσ, ?_, fun j y e => ?_, fun j o e => ?_, R.sc, fun m y b e e' => ?_, fun m o b e e' => ?_, R.i1, fun j m b o o' e1 e2 e3 e4 => ?_, fun m k b o o' e1 e2 e3 e4 => ?_, al⟩, x⟩
  · show _ = (f.S.set n u).length
    rw [List.length_set, R.lenS]
  · obtain ⟨v, h1, h2⟩ := R.sd j y e
    exact ⟨v, h1, h2.ext x⟩
  · obtain ⟨b, h1, h2, h3⟩ := R.so j o e
    have nb : b ≠ a := fun z => by subst z; exact R.i2 j n b o o0 e ho h1 hn0
    exact ⟨b, h1, h2.ext x (hk b (.inl ⟨j, o, e, h1⟩) nb), fun z => h3 (hA b z)⟩
  · have e : (f.S.set n u)[m]? = some (.d y) := e
    rw [get] at e
    by_cases h : m = n
    · rw [if_pos h] at e; cases e; subst h
      rw [hn0] at e'; cases e'
      have nl : ¬ Lv A' { f with S := f.S.set m (.d y) } as σ a := fun z => by
        rcases z with z | z
        · exact R.nA oa (hA a z)
        · rcases z with ⟨j, o, e, e'⟩ | ⟨k, o, e, e'⟩
          · exact R.i2 j m a o o0 e ho e' hn0
          · have e : (f.S.set m (.d y))[k]? = some (.own o) := e
            rw [get] at e
            by_cases hk' : k = m
            · rw [if_pos hk'] at e; cases e
            · rw [if_neg hk'] at e
              exact hk' (R.i3 k m a o o0 e ho e' hn0)
      exact ⟨Rd.ext (Ext.less fun b z => ⟨less b z, fun zb => nl (by rw [← zb]; exact z)⟩) hx.1, nl, hx.2⟩
    · rw [if_neg h] at e
      exact (R.cd m y b e e').ext x
  · have e : (f.S.set n u)[m]? = some (.own o) := e
    rw [get] at e
    by_cases h : m = n
    · rw [if_pos h] at e; cases e; subst h
      rw [hn0] at e'; cases e'
      obtain ⟨q1, q2, _⟩ := hx
      exact ⟨q1.ext x' rfl, q2⟩
    · rw [if_neg h] at e
      obtain ⟨q1, q2⟩ := R.co m o b e e'
      have nb : b ≠ a := fun z => by subst z; exact h (R.i3 m n b o o0 e ho e' hn0)
      exact ⟨q1.ext x (hk b (.inr ⟨m, o, e, e'⟩) nb), fun z => q2 (hA b z)⟩
  · have e2 : (f.S.set n u)[m]? = some (.own o') := e2
    rw [get] at e2
    by_cases h : m = n
    · rw [h] at e4; exact R.i2 j n b o o0 e1 ho e3 e4
    · rw [if_neg h] at e2; exact R.i2 j m b o o' e1 e2 e3 e4
  · have e1 : (f.S.set n u)[m]? = some (.own o) := e1
    have e2 : (f.S.set n u)[k]? = some (.own o') := e2
    rw [get] at e1 e2
    have q : ∀ j, (∃ o, (if j = n then some u else f.S[j]?) = some (.own o)) → ∃ o, f.S[j]? = some (.own o) := fun j ⟨o, z⟩ => by
      by_cases h : j = n
      · rw [h]; exact ⟨o0, ho⟩
      · rw [if_neg h] at z; exact ⟨o, z⟩
    obtain ⟨p1, z1⟩ := q m ⟨o, e1⟩
    obtain ⟨p2, z2⟩ := q k ⟨o', e2⟩
    exact R.i3 m k b p1 p2 z1 z2 e3 e4
end
end Vm
set_option maxRecDepth 100000
set_option maxHeartbeats 4000000
namespace Vm
open PySem PySem.Spec L2
section
variable {K : PySem.W.Frag} {A A' : ASet} {H H' : Hp} {as : List Addr} {σ σ' : L2.St} {f f' : F} {rv : RV} {v : V} {x : D}
/-- what pends without this value -/
def lessF (A : ASet) : RV → V → ASet
  | .fr _, v => fun a => A a ∧ V.ref a ≠ v
  | _, _ => A
theorem lessF_sub : ∀ {rv : RV} {a : Addr}, lessF A rv v a → A a
  | .d _, _, h => h
  | .fr _, _, h => h.1
  | .vr _, _, h => h
  | .ce _, _, h => h
theorem lessF_mem {P : ASet} (hP : ∀ a, P a → A a) (hn : ∀ o, rv = .fr o → ∀ a, v = .ref a → ¬ P a) : ∀ a, P a → lessF A rv v a := fun a h => by
  cases rv with
  | d _ => exact hP a h
  | fr o => exact ⟨hP a h, fun z => hn o rfl a z.symm h⟩
  | vr _ => exact hP a h
  | ce _ => exact hP a h
theorem lt_of_get {α : Type} {l : List α} {i : Nat} {a : α} (h : l[i]? = some a) : i < l.length := (List.getElem?_eq_some_iff.mp h).1
theorem frz_ok (R : Rel K A as f σ H) (h : RVR K (Lv A f as σ) A as σ H rv v) (e : frz f rv = some (x, f')) :
    Rel K (lessF A rv v) as f' σ H ∧ Rd K (Lv (lessF A rv v) f' as σ) H x v ∧ Ext (Lv A f as σ) H (Lv (lessF A rv v) f' as σ) H := by
  cases rv with
  | d y => cases e; exact ⟨R, RdP.rd h, Ext.refl⟩
  | fr o =>
    cases e
    obtain ⟨p, e1, e2, e3⟩ := h
    subst e1
    have sub : ∀ a, lessF A (.fr o) (.ref p) a → A a := fun a h => h.1
    have x : Ext (Lv A f as σ) H (Lv (lessF A (.fr o) (.ref p)) f as σ) H := ext_less sub
    refine ⟨R.less sub, (e3.ext x rfl).rd fun z => ?_, x⟩
    rcases z with z | z
    · exact z.2 rfl
    · exact R.nA z e2
  | vr i =>
    obtain ⟨a, e1, e2⟩ := h
    subst e1
    unfold frz at e
    simp only at e
    cases q : f.ρ[i]? with
    | none => rw [q] at e; cases e
    | some l =>
      rw [q] at e
      cases l with
      | no => cases e
      | c n => cases e
      | d y =>
        cases e
        obtain ⟨w, h1, h2⟩ := R.sd i y q
        rw [e2] at h1; cases h1
        exact ⟨R, h2.rd, Ext.refl⟩
      | own o =>
        cases e
        obtain ⟨b, h1, h2, h3⟩ := R.so i o q
        rw [e2] at h1; cases h1
        have fz : Rd K (fun b => Lv A f as σ b ∧ ¬ ∃ o0, f.ρ[i]? = some (.own o0) ∧ σ[i]? = some (some (.ref b))) H o.d (.ref a) := (h2.ext (Ext.less fun b z => z.1) rfl).rd fun z => z.2 ⟨o, q, e2⟩
        obtain ⟨R2, x2⟩ := R.setSlot (i := i) (l := .d o.d) (σ' := σ) (A' := A) (H' := H) (lt_of_get q) (fun _ _ => rfl) rfl (fun _ z => z) (fun _ _ _ => rfl) (fun _ _ e _ => e) R.al ⟨_, e2, .inl fz⟩
        obtain ⟨w, h4, h5⟩ := R2.sd i o.d (by show (f.ρ.set i (.d o.d))[i]? = _; rw [List.getElem?_set_self (lt_of_get q)])
        rw [e2] at h4; cases h4
        have h6 := h5.rd
        rw [norm_ob] at h6
        exact ⟨R2, h6, x2⟩
  | ce n =>
    obtain ⟨a, e1, e2⟩ := h
    subst e1
    unfold frz at e
    simp only at e
    cases q : f.S[n]? with
    | none => rw [q] at e; cases e
    | some l =>
      rw [q] at e
      cases l with
      | no => cases e
      | d y => cases e; exact ⟨R, (R.cd n x a q e2).1, Ext.refl⟩
      | own o =>
        cases e
        obtain ⟨h2, h3⟩ := R.co n o a q e2
        have fz : Rd K (fun b => Lv A f as σ b ∧ b ≠ a) H o.d (.ref a) := (h2.ext (Ext.less fun b z => z.1) rfl).rd fun z => z.2 rfl
        obtain ⟨R2, x2⟩ := R.setCell (n := n) (u := .d o.d) (A' := A) (H' := H) e2 (fun _ z => z) (fun _ _ _ => rfl) (fun _ _ e _ => e) R.al ⟨o, q⟩ ⟨fz, h2.some⟩
        exact ⟨R2, (R2.cd n o.d a (by show (f.S.set n (.d o.d))[n]? = _; rw [List.getElem?_set_self (lt_of_get q)]) e2).1, x2⟩
/-! ### several values -/
def RVRs (K : PySem.W.Frag) (L A : ASet) (as : List Addr) (σ : L2.St) (H : Hp) : List RV → List V → Prop
  | [], vs => vs = []
  | r :: rs, vs => ∃ v ws, vs = v :: ws ∧ RVR K L A as σ H r v ∧ RVRs K L A as σ H rs ws
def frs : List RV → List V → List V
  | .fr _ :: rs, v :: vs => v :: frs rs vs
  | _ :: rs, _ :: vs => frs rs vs
  | _, _ => []
structure FrOk (P : ASet) (rvs : List RV) (vs : List V) : Prop where
  nd : (frs rvs vs).Nodup
  np : ∀ a, V.ref a ∈ frs rvs vs → ¬ P a
theorem RVRs.ext {L L' : ASet} (x : Ext L H L' H') (k : ∀ a, A a → H' a = H a) (ha : ∀ a, A a → A' a) : ∀ {rvs : List RV} {vs : List V}, RVRs K L A as σ H rvs vs → RVRs K L' A' as σ H' rvs vs
  | [], _, h => h
  | _ :: _, _, ⟨v, ws, e, h1, h2⟩ => ⟨v, ws, e, h1.ext x k ha, RVRs.ext x k ha h2⟩
theorem Rd1.ext {L L' : ASet} {H : Hp} (x : Ext L H L' H) : ∀ {d : D} {v : V}, Rd1 K L H d v → Rd1 K L' H d v
  | .none, _, h => Rd.ext x h
  | .bool _, _, h => Rd.ext x h
  | .int _, _, h => Rd.ext x h
  | .str _, _, h => Rd.ext x h
  | .tuple _, _, h => Rd.ext x h
  | .list _, _, ⟨a, vs, e, s, r⟩ => ⟨a, vs, e, s, r.ext x⟩
  | .dict _, _, ⟨a, hv, e, s, r⟩ => ⟨a, hv, e, s, r.ext x⟩
def Rd1s (K : PySem.W.Frag) (L : ASet) (H : Hp) : List D → List V → Prop
  | [], vs => vs = []
  | d :: ds, vs => ∃ v ws, vs = v :: ws ∧ Rd1 K L H d v ∧ Rd1s K L H ds ws
theorem Rd1s.ext {L L' : ASet} {H : Hp} (x : Ext L H L' H) : ∀ {ds : List D} {vs : List V}, Rd1s K L H ds vs → Rd1s K L' H ds vs
  | [], _, h => h
  | _ :: _, _, ⟨v, ws, e, h1, h2⟩ => ⟨v, ws, e, h1.ext x, Rd1s.ext x h2⟩
theorem views_rd1 (R : Rel K A as f σ H) : ∀ {rvs : List RV} {vs : List V} {ys : List D}, RVRs K (Lv A f as σ) A' as σ H rvs vs → views f rvs = some ys → Rd1s K (Lv A f as σ) H ys vs
  | [], _, _, h, e => by cases e; exact h
  | r :: rs, _, _, ⟨v, ws, e0, h1, h2⟩, e => by
    unfold views at e
    cases q : view f r with
    | none => rw [q] at e; cases e
    | some y =>
      rw [q] at e
      cases q2 : views f rs with
      | none => simp [q2] at e
      | some ys' =>
        simp only [q2, Option.bind_some] at e
        cases e
        exact ⟨v, ws, e0, view_rd1 R h1 q, views_rd1 R h2 q2⟩
theorem frs_sub : ∀ {rvs : List RV} {vs : List V} {w : V}, RVRs K L A as σ H rvs vs → w ∈ frs rvs vs → ∃ a, w = .ref a ∧ A a
  | [], _, _, _, h => by simp [frs] at h
  | r :: rs, _, w, ⟨v, ws, e0, h1, h2⟩, h => by
    subst e0
    cases r with
    | fr o =>
      rcases List.mem_cons.mp (show w ∈ v :: frs rs ws from h) with e | h
      · subst e
        obtain ⟨p, e, q, _⟩ := h1
        exact ⟨p, e, q⟩
      · exact frs_sub h2 h
    | d _ => exact frs_sub h2 h
    | vr _ => exact frs_sub h2 h
    | ce _ => exact frs_sub h2 h
/-- all of them are kept -/
theorem frzs_ok : ∀ {rvs : List RV} {vs : List V} {ys : List D} {A : ASet} {P : ASet} {f f' : F}, Rel K A as f σ H → RVRs K (Lv A f as σ) A as σ H rvs vs → (∀ a, P a → A a) → FrOk P rvs vs → frzs f rvs = some (ys, f') →
    ∃ A', (∀ a, P a → A' a) ∧ (∀ a, A' a → A a) ∧ Rel K A' as f' σ H ∧ RdA K (Lv A' f' as σ) H ys vs ∧ Ext (Lv A f as σ) H (Lv A' f' as σ) H
  | [], _, _, A, _, _, _, R, h, hP, _, e => by
    cases e
    have h : _ = [] := h
    subst h
    exact ⟨A, hP, fun _ z => z, R, RdA.nil, Ext.refl⟩
  | r :: rs, _, _, A, P, f, f', R, ⟨v, ws, e0, h1, h2⟩, hP, hF, e => by
    subst e0
    unfold frzs at e
    cases q : frz f r with
    | none => rw [q] at e; cases e
    | some p =>
      obtain ⟨y, f1⟩ := p
      rw [q] at e
      cases q2 : frzs f1 rs with
      | none => simp [q2] at e
      | some p2 =>
        obtain ⟨ys', f2⟩ := p2
        simp only [q2, Option.bind_some] at e
        cases e
        obtain ⟨R1, d1, x1⟩ := frz_ok R h1 q
        have hP1 : ∀ a, P a → lessF A r v a := lessF_mem hP fun o eo a ea => by
          subst eo; subst ea
          exact hF.np a (by show V.ref a ∈ V.ref a :: frs rs ws; exact List.mem_cons_self ..)
        have keep : RVRs K (Lv (lessF A r v) f1 as σ) (lessF A r v) as σ H rs ws := by
          have hnd := hF.nd
          clear q q2 d1 hP1 hF
          have go : ∀ (l : List RV) (us : List V), (∀ o, r = .fr o → v ∉ frs l us) → RVRs K (Lv A f as σ) A as σ H l us → RVRs K (Lv (lessF A r v) f1 as σ) (lessF A r v) as σ H l us := by
            intro l
            induction l with
            | nil => intro us _ h; exact h
            | cons r' l ih =>
              rintro us hn ⟨u, us', e0, g1, g2⟩
              subst e0
              refine ⟨u, us', rfl, ?_, ih us' (fun o eo hm => ?_) g2⟩
              · cases r' with
                | d z => exact RdP.ext x1 g1
                | fr o =>
                  obtain ⟨p, ep, ap, op⟩ := g1
                  refine ⟨p, ep, ?_, op.ext x1 rfl⟩
                  cases r with
                  | d _ => exact ap
                  | fr o' =>
                    refine ⟨ap, fun z => ?_⟩
                    have := hn o' rfl
                    rw [ep] at this
                    exact this (by show v ∈ V.ref p :: frs l us'; rw [z]; exact List.mem_cons_self ..)
                  | vr _ => exact ap
                  | ce _ => exact ap
                | vr i => exact g1
                | ce n => exact g1
              · refine hn o eo ?_
                cases r' with
                | d _ => exact hm
                | fr _ => exact List.mem_cons_of_mem _ hm
                | vr _ => exact hm
                | ce _ => exact hm
          refine go rs ws (fun o eo => ?_) h2
          subst eo
          exact (List.nodup_cons.mp (show (v :: frs rs ws).Nodup from hnd)).1
        have hF2 : FrOk P rs ws := by
          refine ⟨?_, fun a ha => hF.np a ?_⟩
          · have := hF.nd
            cases r with
            | d _ => exact this
            | fr _ => exact (List.nodup_cons.mp this).2
            | vr _ => exact this
            | ce _ => exact this
          · cases r with
            | d _ => exact ha
            | fr _ => exact List.mem_cons_of_mem _ ha
            | vr _ => exact ha
            | ce _ => exact ha
        obtain ⟨A2, p1, p2, R2, d2, x2⟩ := frzs_ok R1 keep hP1 hF2 q2
        exact ⟨A2, p1, fun a z => lessF_sub (p2 a z), R2, RdA.cons (d1.ext x2) d2, x1.trans x2⟩
end
end Vm
set_option maxRecDepth 100000
set_option maxHeartbeats 4000000
namespace Vm
open PySem PySem.Spec PyProof.Rows L2
/-! ### a def's promise where no repr runs around it; an exception may leave -/
abbrev SpG := List V → Hp → VK → XK → Prop
abbrev noX : XK := fun _ _ _ => False
def CRG (outer : List Env) (P : Program) (w : World) (H : Hp) (s : Shared) (Q : VK) (E : XK) (r : Result) (s' : Shared) : Prop := (∃ u, r = .ok (.ret u) ∧ CE outer P w H s Q u s') ∨ ∃ u, r = .error u ∧ L2.CX P w outer H s E u s'
structure FnG (P : Program) (w : World) (K : PySem.W.Frag) (mg : Str → Option Value) (base : Heap) (k : Nat) (f : Addr) (fd : FuncData) (ps : List Str) (sp : SpG) : Prop where
  len : ∀ vs H Q E, sp vs H Q E → vs.length = ps.length
  run : ∀ (A : Around) (outer : List Env) (s : Shared) (H : Hp) (args : Args) (us : List Value) (vs : List V) (Q : VK) (E : XK),
    Room k A → A.guards = some [] → Env0 P w K mg base A outer s H → BindsTo s fd args (ps.zip us) → Vals vs us → sp vs H Q E → codeAny (model P w) A (.call (.ref f) args) (CRG outer P w H s Q E) s
section
variable {P : Program} {w : World} {K : PySem.W.Frag} {mg : Str → Option Value} {base : Heap}
/-- the context of a body -/
abbrev bodyCx (P : Program) (w : World) (K : PySem.W.Frag) (mg : Str → Option Value) (base : Heap) (N : List Str) (q : Str) (sc : Scope) (f : Addr) (cd : Value) (A : Around) (outer : List Env) (s : Shared) (H : Hp) (E : XK) : Cx :=
  cxOf (L2.CX P w) P w K mg base N q sc f cd A outer s H E
theorem fnG_of {x q : Str} {pa : Arguments} {bd : List Stmt} {sc : Scope} {dvs : List V} {kws : List (Str × V)} {f : Addr} {fd : FuncData} {N ps : List Str} {k : Nat} {sp : SpG}
    (Fd : FunD K x q pa bd sc dvs kws f fd) (S : FnScope N ps sc) (len : ∀ vs H Q E, sp vs H Q E → vs.length = ps.length)
    (body : ∀ (cd : Value) (A : Around) (outer : List Env) (s : Shared) (H : Hp) (vs : List V) (Q : VK) (E : XK), Room k (A.deeper (envOfC q sc s.heap.objs.size f cd)) → A.guards = some [] → sp vs H Q E →
      ∃ t, PSs (bodyCx P w K mg base N q sc f cd A outer s H E) bd t ∧ t { nx := fun _ H' => Q .non H', rt := Q } (start N vs) H) :
    FnG P w K mg base (k + 1) f fd ps sp := by
  obtain ⟨oc, od, dV, kV, doc, pm, an, cd, ct, osl, efd, lk, hcd, _, _⟩ := Fd.ex
  subst efd
  constructor
  · exact len
  intro A outer s H args us vs Q E room hg ev hb rel hs
  have hlen := len vs H Q E hs
  have KH : K.In s.heap := ev.mod.kin.keeps (fun b o e => (ev.bs b o e).1)
  have lim : s.heap.NoLimit := ev.mod.nolimit.keeps (fun b o e => (ev.bs b o e).1)
  have kinds : ∀ y ∈ ps.zip us, sc.names.lookup y.1 = some .local ∨ (sc.names.lookup y.1 = some .cell ∧ ((cellsFrom (s.heap.objs.size + 1) sc.names []).lookup y.1).isSome = true) := by
    rintro ⟨n, v⟩ hy
    have hp := S.par n (List.of_mem_zip hy).1
    exact hp.imp id fun z => ⟨z, PySem.W.cellsFrom_some _ _ _ (.inl z)⟩
  apply codeAny_call_function room.depth (KH _ _ lk) rfl S.co S.gen rfl (PySem.W.codeRec_of KH hcd)
  apply hb
  apply wpAny_newFunctionEnv_cells S.kind kinds
  intro env he s1 x
  subst he
  refine ⟨lim.keeps x.toInCall.keep, ?_⟩
  apply codeAny_func
  obtain ⟨t, ht, hq⟩ := body cd A outer s H vs Q E (room.deeper _) hg hs
  have I := inv_start (CX := L2.CX P w) (E := E) (f := f) (cd := cd) (A := A) (outer := outer) (P := P) (w := w) (K := K) (mg := mg) (base := base) (qual := q) S room.hd ev hlen rel x
  apply wpAny_mono (ht.run [] s1 (start N vs) H _ I hq)
  · intro fl s' h
    have close : ∀ {σ' : L2.St} {H' : Hp} {v : V} {u : Value}, Inv (bodyCx P w K mg base N q sc f cd A outer s H E) [] σ' H' s' → RelV v u → Q v H' → CRG outer P w H s Q E (.ok (.ret u)) s' := by
      intro σ' H' v u J r z
      exact .inl ⟨u, rfl, v, H', J.os, J.bare, J.base, J.hok, r, z⟩
    cases fl with
    | ret u => obtain ⟨v, σ', H', J, r, z⟩ := h; exact close J r z
    | next => obtain ⟨σ', H', J, z⟩ := h; exact close (v := .non) (u := .none) J rfl z
    | brk => obtain ⟨_, _, _, z⟩ := h; exact z.elim
    | cont => obtain ⟨_, _, _, z⟩ := h; exact z.elim
  · intro e s' h
    exact wpAny_mono h (fun _ _ z => .inr ⟨_, rfl, z⟩) fun _ _ z => .inr ⟨_, rfl, z⟩
end
section
variable {X : Cx} {k : Nat} {f : Addr} {fd : FuncData} {ps : List Str} {sp : SpG} {x : Str} {p pos : Pos} {e : Expr} {es : List Expr} {t : TA}
def tCallG (sp : SpG) (t : TA) : TE := fun σ H Q => t σ H fun vs H1 => sp vs H1 Q noX
/-- .. where an exception is taken as W says -/
def tCallX (sp : SpG) (W : WX) (t : TA) : TE := fun σ H Q => t σ H fun vs H1 => sp vs H1 Q fun cls d H2 => W cls d σ H2
theorem run_gx {pins : List (Addr × Obj)} {σ : L2.St} {H : Hp} {s : Shared} {Q : VK} {W : WX} {us us' : List Value} {kw : List (Str × Value)} {vs : List V} (G : FnG X.prog X.w X.K X.mg X.base k f fd ps sp) (hr : Room k X.A) (hgd : X.A.guards = some [])
    (tk : Takes X W) (hb : us'.length = ps.length → BindsTo s fd ⟨us, kw⟩ (ps.zip us')) (I : Inv X pins σ H s) (r : Vals vs us') (h : sp vs H Q fun cls d H2 => W cls d σ H2) : wpAny (model X.prog X.w) X.A (call (.ref f) us kw) (EP X pins σ Q) X.xe s := by
  have l := G.len _ _ _ _ h
  have hl : us'.length = ps.length := r.length.symm.trans l
  apply wpAny_call
  apply codeAny_mono (G.run X.A X.stack s H ⟨us, kw⟩ us' vs Q _ hr hgd I.env0 (hb hl) r h)
  rintro res s' (⟨u, rfl, q⟩ | ⟨u, rfl, q⟩)
  · exact I.after q
  · exact tk u s' (XE.of_call I (fun _ _ _ h => h) q)
theorem run_g {pins : List (Addr × Obj)} {σ : L2.St} {H : Hp} {s : Shared} {Q : VK} {us us' : List Value} {kw : List (Str × Value)} {vs : List V} (G : FnG X.prog X.w X.K X.mg X.base k f fd ps sp) (hr : Room k X.A) (hgd : X.A.guards = some [])
    (hb : us'.length = ps.length → BindsTo s fd ⟨us, kw⟩ (ps.zip us')) (I : Inv X pins σ H s) (r : Vals vs us') (h : sp vs H Q noX) : wpAny (model X.prog X.w) X.A (call (.ref f) us kw) (EP X pins σ Q) X.xe s :=
  run_gx (W := fun _ _ _ _ => False) G hr hgd takes0 hb I r h
theorem pe_callG (G : FnG X.prog X.w X.K X.mg X.base k f fd ps sp) (hr : Room k X.A) (hgd : X.A.guards = some []) (hg : Gl X x) (hm : X.mg x = some (.ref f)) (hk : PySem.W.keepIn X.K (.ref f) = true)
    (hb : ∀ us : List Value, us.length = ps.length → bindArgs fd ⟨us, []⟩ = pure (ps.zip us)) (ha : PA X (e :: es) t) (hdb : (x == ("__debug__" : Str)) = false)
    (he : starEach (e :: es) X.env = (false, eval e X.env) :: starEach es X.env) (hpl : (backTo pos (starEach es X.env)).any (·.1) = false) : PE X (.Call (.Name x p) (e :: es) [] pos) (tCallG sp t) := by
  constructor
  intro pins s σ H Q I h
  apply wpAny_Call_Name_kw
  apply ld_glob I hg hm _ hdb
  refine PySem.W.callWith_K (h₀ := X.base) I.ok.mod.kin hk (thn (ha.run pos pins s σ H _ I h) ?_) he hpl
  rintro us s1 ⟨vs, H1, I1, r, q⟩
  exact ⟨I1.kIn, run_g G hr hgd (fun hl => .of_eq (hb us hl)) I1 r q⟩
theorem pe_callX {W : WX} (G : FnG X.prog X.w X.K X.mg X.base k f fd ps sp) (hr : Room k X.A) (hgd : X.A.guards = some []) (tk : Takes X W) (hg : Gl X x) (hm : X.mg x = some (.ref f)) (hk : PySem.W.keepIn X.K (.ref f) = true)
    (hb : ∀ us : List Value, us.length = ps.length → bindArgs fd ⟨us, []⟩ = pure (ps.zip us)) (ha : PA X (e :: es) t) (hdb : (x == ("__debug__" : Str)) = false)
    (he : starEach (e :: es) X.env = (false, eval e X.env) :: starEach es X.env) (hpl : (backTo pos (starEach es X.env)).any (·.1) = false) : PE X (.Call (.Name x p) (e :: es) [] pos) (tCallX sp W t) := by
  constructor
  intro pins s σ H Q I h
  apply wpAny_Call_Name_kw
  apply ld_glob I hg hm _ hdb
  refine PySem.W.callWith_K (h₀ := X.base) I.ok.mod.kin hk (thn (ha.run pos pins s σ H _ I h) ?_) he hpl
  rintro us s1 ⟨vs, H1, I1, r, q⟩
  exact ⟨I1.kIn, run_gx G hr hgd tk (fun hl => .of_eq (hb us hl)) I1 r q⟩
theorem pe_callX0 {W : WX} (G : FnG X.prog X.w X.K X.mg X.base k f fd ps sp) (hr : Room k X.A) (hgd : X.A.guards = some []) (tk : Takes X W) (hg : Gl X x) (hm : X.mg x = some (.ref f)) (hk : PySem.W.keepIn X.K (.ref f) = true)
    (hb : ∀ us : List Value, us.length = ps.length → bindArgs fd ⟨us, []⟩ = pure (ps.zip us)) (hdb : (x == ("__debug__" : Str)) = false) : PE X (.Call (.Name x p) [] [] pos) (tCallX sp W tNil) := by
  constructor
  intro pins s σ H Q I h
  apply wpAny_Call_Name_kw
  apply ld_glob I hg hm _ hdb
  exact PySem.W.callWith_K0 I.kIn hk (run_gx G hr hgd tk (fun hl => .of_eq (hb [] hl)) I .nil h)
theorem pe_callG0 (G : FnG X.prog X.w X.K X.mg X.base k f fd ps sp) (hr : Room k X.A) (hgd : X.A.guards = some []) (hg : Gl X x) (hm : X.mg x = some (.ref f)) (hk : PySem.W.keepIn X.K (.ref f) = true)
    (hb : ∀ us : List Value, us.length = ps.length → bindArgs fd ⟨us, []⟩ = pure (ps.zip us)) (hdb : (x == ("__debug__" : Str)) = false) : PE X (.Call (.Name x p) [] [] pos) (tCallG sp tNil) := by
  constructor
  intro pins s σ H Q I h
  apply wpAny_Call_Name_kw
  apply ld_glob I hg hm _ hdb
  exact PySem.W.callWith_K0 I.kIn hk (run_g G hr hgd (fun hl => .of_eq (hb [] hl)) I .nil h)
end
end Vm
set_option maxRecDepth 100000
set_option maxHeartbeats 4000000
namespace Vm
open PySem PySem.Spec L2
theorem bind_ok {α β : Type} {x : Res α} {g : α → Res β} {b : β} (h : x.bind g = .ok b) : ∃ a, x = .ok a ∧ g a = .ok b := by
  cases x with
  | ok a => exact ⟨a, rfl, h⟩
  | bad => cases h
theorem ofOpt_ok {α : Type} {x : Option α} {a : α} (h : ofOpt x = .ok a) : x = some a := by
  cases x with
  | some b => cases h; rfl
  | none => cases h
/-- behind an expression -/
def Post (K : PySem.W.Frag) (A : ASet) (as : List Addr) (f : F) (σ : L2.St) (H : Hp) (rv : RV) (f' : F) (v : V) (H' : Hp) : Prop :=
  ∃ A' : ASet, (∀ a, A a → A' a) ∧ Rel K A' as f' σ H' ∧ RVR K (Lv A' f' as σ) A' as σ H' rv v ∧ (∀ o, rv = .fr o → ∀ a, v = .ref a → ¬ A a) ∧ Ext (Lv A f as σ) H (Lv A' f' as σ) H' ∧ ∀ a, A a → H' a = H a
def PostA (K : PySem.W.Frag) (A : ASet) (as : List Addr) (f : F) (σ : L2.St) (H : Hp) (rvs : List RV) (f' : F) (vs : List V) (H' : Hp) : Prop :=
  ∃ A' : ASet, (∀ a, A a → A' a) ∧ Rel K A' as f' σ H' ∧ RVRs K (Lv A' f' as σ) A' as σ H' rvs vs ∧ FrOk A rvs vs ∧ Ext (Lv A f as σ) H (Lv A' f' as σ) H' ∧ ∀ a, A a → H' a = H a
/-- behind what gives nothing to hold -/
def PostN (K : PySem.W.Frag) (A : ASet) (as : List Addr) (f : F) (σ : L2.St) (H : Hp) (f' : F) (H' : Hp) : Prop :=
  Rel K A as f' σ H' ∧ Ext (Lv A f as σ) H (Lv A f' as σ) H' ∧ ∀ a, A a → H' a = H a
def tD (K : PySem.W.Frag) (G : Call) (e : Ex) : TE := fun σ H Q => ∃ A as f rv f', Rel K A as f σ H ∧ evE G e f = .ok (rv, f') ∧ ∀ v H', Post K A as f σ H rv f' v H' → Q v H'
def tDs (K : PySem.W.Frag) (G : Call) (es : List Ex) : TA := fun σ H Q => ∃ A as f rvs f', Rel K A as f σ H ∧ evEs G es f = .ok (rvs, f') ∧ ∀ vs H', PostA K A as f σ H rvs f' vs H' → Q vs H'
def tB (K : PySem.W.Frag) (G : Call) (e : Ex) : TT := fun σ H Q => ∃ A as f b f', Rel K A as f σ H ∧ evC G e f = .ok (b, f') ∧ ∀ H', PostN K A as f σ H f' H' → Q b H'
theorem PE.imp {X : Cx} {e : Expr} {t t' : TE} (h : PE X e t) (i : ∀ σ H Q, t' σ H Q → t σ H Q) : PE X e t' := ⟨fun pins s σ H Q I q => h.run pins s σ H Q I (i σ H Q q)⟩
theorem PT.imp {X : Cx} {e : Expr} {t t' : TT} (h : PT X e t) (i : ∀ σ H Q, t' σ H Q → t σ H Q) : PT X e t' := ⟨fun pins s σ H Q I q => h.run pins s σ H Q I (i σ H Q q)⟩
theorem PA.imp {X : Cx} {e : List Expr} {t t' : TA} (h : PA X e t) (i : ∀ σ H Q, t' σ H Q → t σ H Q) : PA X e t' := ⟨fun pos pins s σ H Q I q => h.run pos pins s σ H Q I (i σ H Q q)⟩
section
variable {K : PySem.W.Frag} {G : Call} {A A' : ASet} {H H' H1 H2 : Hp} {as : List Addr} {σ : L2.St} {f f' f1 f2 : F} {rv : RV} {rvs : List RV} {v : V} {vs : List V}
theorem Post.nil (R : Rel K A as f σ H) (h : RVR K (Lv A f as σ) A as σ H rv v) (n : ∀ o, rv ≠ .fr o) : Post K A as f σ H rv f v H :=
  ⟨A, fun _ z => z, R, h, fun o e => absurd e (n o), Ext.refl, fun _ _ => rfl⟩
theorem PostA.nil (R : Rel K A as f σ H) : PostA K A as f σ H [] f [] H := ⟨A, fun _ z => z, R, rfl, ⟨List.nodup_nil, fun a h => by simp [frs] at h⟩, Ext.refl, fun _ _ => rfl⟩
theorem tDs_cons {e : Ex} {es : List Ex} {Q : List V → Hp → Prop} (h : tDs K G (e :: es) σ H Q) : tCons (tD K G e) (tDs K G es) σ H Q := by
  obtain ⟨A, as, f, rvs, f2, R, he, hQ⟩ := h
  unfold evEs at he
  obtain ⟨⟨r, f1⟩, e1, he⟩ := bind_ok he
  obtain ⟨⟨rs, f3⟩, e2, he⟩ := bind_ok he
  cases he
  refine ⟨A, as, f, r, f1, R, e1, fun v H1 p1 => ?_⟩
  obtain ⟨A1, s1, R1, r1, n1, x1, k1⟩ := id p1
  refine ⟨A1, as, f1, rs, f3, R1, e2, fun vs H2 p2 => hQ _ _ ?_⟩
  -- the witnesses are the ones of p1
  obtain ⟨A2, s2, R2, r2, n2, x2, k2⟩ := p2
  refine ⟨A2, fun a z => s2 a (s1 a z), R2, ⟨v, vs, rfl, r1.ext x2 (fun a z => k2 a z) s2, r2⟩, ?_, x1.trans x2, fun a z => (k2 a (s1 a z)).trans (k1 a z)⟩
  have old : ∀ a, V.ref a ∈ frs rs vs → ¬ A a := fun a z q => n2.np a z (s1 a q)
  cases r with
  | fr o =>
    obtain ⟨p, ep, ap, _⟩ := r1
    subst ep
    refine ⟨List.nodup_cons.mpr ⟨fun z => n2.np p z ap, n2.nd⟩, fun a z => ?_⟩
    rcases List.mem_cons.mp (show V.ref a ∈ V.ref p :: frs rs vs from z) with e | z
    · cases e; exact n1 o rfl p rfl
    · exact old a z
  | d _ => exact ⟨n2.nd, old⟩
  | vr _ => exact ⟨n2.nd, old⟩
  | ce _ => exact ⟨n2.nd, old⟩
theorem tDs_nil {Q : List V → Hp → Prop} (h : tDs K G [] σ H Q) : tNil σ H Q := by
  obtain ⟨A, as, f, rvs, f2, R, he, hQ⟩ := h
  cases he
  exact hQ [] H (.nil R)
/-- what an operation leaves -/
def OpPost (K : PySem.W.Frag) (L : ASet) (H : Hp) : RR → V → Hp → Prop
  | .d x, v, H2 => (H2 = H ∧ Rd K L H x v) ∨ (∃ p vs ds, x = .tuple ds ∧ H p = none ∧ v = .ref p ∧ H2 = upd H p (.tup vs) ∧ RdA K L H ds vs) ∨ ∃ p vs ds o, x = pl ds ∧ H p = none ∧ v = .ref p ∧ H2 = upd H p (.frz o (.tup vs)) ∧ o.dict = none ∧ RdA K L H ds vs
  | .fr (.lst xs), v, H2 => ∃ p vs, H p = none ∧ v = .ref p ∧ H2 = upd H p (.lst vs) ∧ RdA K L H xs vs
  | .fr (.dct kvs), v, H2 => ∃ p hv, H p = none ∧ v = .ref p ∧ H2 = upd H p (.dK hv) ∧ RdK K L H (kvD kvs) hv
  | .ex _, _, _ => False
theorem op_post {rr : RR} {H2 : Hp} (R : Rel K A as f σ H) (h : OpPost K (Lv A f as σ) H rr v H2) : Post K A as f σ H rr.rv f v H2 := by
  cases rr with
  | ex c => exact h.elim
  | d x =>
    rcases h with ⟨e, h⟩ | ⟨p, vs, ds, ex, hp, ev, e, h⟩ | ⟨p, vs, ds, ob, ex, hp, ev, e, hd, h⟩
    · subst e
      exact Post.nil R (.inl h) fun o e => by cases e
    · subst e; subst ex; subst ev
      obtain ⟨R1, x1, k, n⟩ := R.laid' (o := .tup vs) hp
      refine ⟨A, fun _ z => z, R1, ?_, (fun o e => by cases e), x1, fun a z => k a (.inl z)⟩
      refine .inl ?_
      show Rd K _ _ (.tuple ds) _
      unfold Rd
      exact ⟨p, vs, rfl, .inl ⟨n, .inl upd_same⟩, h.ext x1⟩
    · subst e; subst ex; subst ev
      obtain ⟨R1, x1, k, n⟩ := R.laid' (o := .frz ob (.tup vs)) hp
      refine ⟨A, fun _ z => z, R1, .inr ⟨ds, rfl, ?_, p, ob, vs, rfl, n, upd_same, hd⟩, (fun o e => by cases e), x1, fun a z => k a (.inl z)⟩
      unfold Rd
      exact ⟨p, vs, rfl, .inl ⟨n, .inr ⟨ob, upd_same⟩⟩, h.ext x1⟩
  | fr o =>
    cases o with
    | lst xs =>
      obtain ⟨p, vs, hp, ev, e, h⟩ := h
      subst e; subst ev
      obtain ⟨R1, x1, k⟩ := R.laid (o := .lst vs) hp
      refine ⟨_, fun _ z => .inl z, R1, ⟨p, rfl, .inr rfl, vs, upd_same, h.ext x1⟩, fun o _ a ea z => ?_, x1, fun a z => k a (.inl z)⟩
      cases ea
      obtain ⟨u, q⟩ := R.al p z
      rw [hp] at q; cases q
    | dct kvs =>
      obtain ⟨p, vs, hp, ev, e, h⟩ := h
      subst e; subst ev
      obtain ⟨R1, x1, k⟩ := R.laid (o := .dK vs) hp
      refine ⟨_, fun _ z => .inl z, R1, ⟨p, rfl, .inr rfl, vs, upd_same, h.ext x1⟩, fun o _ a ea z => ?_, x1, fun a z => k a (.inl z)⟩
      cases ea
      obtain ⟨u, q⟩ := R.al p z
      rw [hp] at q; cases q
/-- the values are seen, then let go -/
theorem PostA.seen {ys : List D} (h : PostA K A as f σ H rvs f' vs H') (e : views f' rvs = some ys) : PostN K A as f σ H f' H' ∧ Rd1s K (Lv A f' as σ) H' ys vs := by
  obtain ⟨A', s, R, r, n, x, k⟩ := h
  have y := ext_less (H := H') (f := f') (as := as) (σ := σ) s
  exact ⟨⟨R.less s, x.trans y, k⟩, (views_rd1 R r e).ext y⟩
theorem Post.seen {y : D} (h : Post K A as f σ H rv f' v H') (e : view f' rv = some y) : PostN K A as f σ H f' H' ∧ Rd1 K (Lv A f' as σ) H' y v := by
  obtain ⟨A', s, R, r, n, x, k⟩ := h
  have z := ext_less (H := H') (f := f') (as := as) (σ := σ) s
  exact ⟨⟨R.less s, x.trans z, k⟩, (view_rd1 R r e).ext z⟩
theorem PostN.then {f'' : F} {H'' : Hp} (a : PostN K A as f σ H f' H') (b : Post K A as f' σ H' rv f'' v H'') : Post K A as f σ H rv f'' v H'' := by
  obtain ⟨R, x, k⟩ := a
  obtain ⟨A', s, R', r, n, x', k'⟩ := b
  exact ⟨A', s, R', r, n, x.trans x', fun a z => (k' a z).trans (k a z)⟩
theorem PostN.thenN {f'' : F} {H'' : Hp} (a : PostN K A as f σ H f' H') (b : PostN K A as f' σ H' f'' H'') : PostN K A as f σ H f'' H'' :=
  ⟨b.1, a.2.1.trans b.2.1, fun p z => (b.2.2 p z).trans (a.2.2 p z)⟩
theorem tD_op {o : Op} {es : List Ex} {Q : VK} (h : tD K G (.op o es) σ H Q) : tDs K G es σ H fun vs H1 => ∃ L ys rr, Rd1s K L H1 ys vs ∧ o.run ys = some rr ∧ ∀ v H2, OpPost K L H1 rr v H2 → Q v H2 := by
  obtain ⟨A, as, f, rv, f', R, he, hQ⟩ := h
  unfold evE at he
  obtain ⟨⟨rs, f1⟩, e1, he⟩ := bind_ok he
  obtain ⟨rr, e2, he⟩ := bind_ok he
  cases he
  have e2 := ofOpt_ok e2
  cases q : views f1 rs with
  | none => simp [q] at e2
  | some ys =>
    simp only [q, Option.bind_some] at e2
    refine ⟨A, as, f, rs, f1, R, e1, fun vs H1 p => ?_⟩
    obtain ⟨pn, rd⟩ := p.seen q
    exact ⟨_, ys, rr, rd, e2, fun v H2 hp => hQ v H2 (pn.then (op_post pn.1 hp))⟩
/-- .. kept, in a tuple or a list -/
theorem PostA.kept {ys : List D} {f'' : F} (h : PostA K A as f σ H rvs f' vs H') (e : frzs f' rvs = some (ys, f'')) : PostN K A as f σ H f'' H' ∧ RdA K (Lv A f'' as σ) H' ys vs := by
  obtain ⟨A', s, R, r, n, x, k⟩ := h
  obtain ⟨A2, s2, t2, R2, d2, x2⟩ := frzs_ok R r s n e
  have y := ext_less (H := H') (f := f'') (as := as) (σ := σ) s2
  exact ⟨⟨R2.less s2, (x.trans x2).trans y, k⟩, d2.ext y⟩
theorem Post.kept {y : D} {f'' : F} (h : Post K A as f σ H rv f' v H') (e : frz f' rv = some (y, f'')) : PostN K A as f σ H f'' H' ∧ Rd K (Lv A f'' as σ) H' y v := by
  obtain ⟨A', s, R, r, n, x, k⟩ := h
  obtain ⟨R2, d2, x2⟩ := frz_ok R r e
  have s2 : ∀ a, A a → lessF A' rv v a := lessF_mem s n
  have y := ext_less (H := H') (f := f'') (as := as) (σ := σ) s2
  exact ⟨⟨R2.less s2, (x.trans x2).trans y, k⟩, d2.ext y⟩
theorem tD_tup {es : List Ex} {Q : VK} (h : tD K G (.tup es) σ H Q) : tTup (tDs K G es) σ H Q := by
  obtain ⟨A, as, f, rv, f', R, he, hQ⟩ := h
  unfold evE at he
  obtain ⟨⟨rs, f1⟩, e1, he⟩ := bind_ok he
  obtain ⟨⟨ys, f2⟩, e2, he⟩ := bind_ok he
  have e2 := ofOpt_ok e2
  dsimp only at e2 he
  split at he
  · rename_i hl
    cases he
    refine ⟨A, as, f, rs, f1, R, e1, fun vs H1 p => ?_⟩
    obtain ⟨pn, rd⟩ := p.kept e2
    refine ⟨by rw [rd.len, sizeLine_eq]; exact hl, fun q hq => hQ _ _ (pn.then (op_post (rr := .d (.tuple ys)) pn.1 (.inr (.inl ⟨q, vs, ys, rfl, hq, rfl, rfl, rd⟩))))⟩
  · cases he
theorem tD_lst {es : List Ex} {Q : VK} (h : tD K G (.lst es) σ H Q) : tLst (tDs K G es) σ H Q := by
  obtain ⟨A, as, f, rv, f', R, he, hQ⟩ := h
  unfold evE at he
  obtain ⟨⟨rs, f1⟩, e1, he⟩ := bind_ok he
  obtain ⟨⟨ys, f2⟩, e2, he⟩ := bind_ok he
  have e2 := ofOpt_ok e2
  dsimp only at e2 he
  split at he
  · rename_i hl
    cases he
    refine ⟨A, as, f, rs, f1, R, e1, fun vs H1 p => ?_⟩
    obtain ⟨pn, rd⟩ := p.kept e2
    refine ⟨by rw [rd.len, sizeLine_eq]; exact hl, fun q hq => hQ _ _ (pn.then (op_post (rr := .fr (.lst ys)) pn.1 ⟨q, vs, hq, rfl, rfl, rd⟩))⟩
  · cases he
theorem tD_k {x : D} {Q : VK} {v : V} (h : tD K G (.k x) σ H Q) (hx : ∀ L H, Rd K L H x v) : Q v H := by
  obtain ⟨A, as, f, rv, f', R, he, hQ⟩ := h
  unfold evE at he
  cases he
  exact hQ v H (Post.nil R (.inl (hx _ _)) fun o e => by cases e)
theorem tD_v {i : Nat} {Q : VK} (h : tD K G (.v i) σ H Q) : tVar i σ H Q := by
  obtain ⟨A, as, f, rv, f', R, he, hQ⟩ := h
  unfold evE at he
  cases q : f.ρ[i]? with
  | none => rw [q] at he; cases he
  | some l =>
    rw [q] at he
    cases l with
    | no => cases he
    | d x =>
      cases he
      obtain ⟨v, h1, h2⟩ := R.sd i x q
      exact ⟨v, h1, hQ v H (Post.nil R h2 fun o e => by cases e)⟩
    | own o =>
      cases he
      obtain ⟨a, h1, h2, h3⟩ := R.so i o q
      exact ⟨.ref a, h1, hQ _ H (Post.nil R ⟨a, rfl, h1⟩ fun o e => by cases e)⟩
    | c n =>
      cases he
      obtain ⟨a, h1, h2⟩ := R.sc i n q
      exact ⟨.ref a, h2, hQ _ H (Post.nil R ⟨a, rfl, h1⟩ fun o e => by cases e)⟩
end
end Vm
set_option maxRecDepth 100000
set_option maxHeartbeats 4000000
namespace Vm
open PySem PySem.Spec PyProof.Rows L2
/-! ### t * k, any small k -/
theorem tup_mul1 (l : Addr) (items : Array Value) (n : Nat) (dd : Option Addr) (sl : Array (Option Value)) (x : Int) (u : Tok) (c0 : (decide (x < -(2 ^ 63)) || decide (x ≥ 2 ^ 63)) = false) (c1 : (items.isEmpty || x == 1) = true) :
    Meets (Builtin.«tuple.__mul__» ⟨[.ref l, .int x u], []⟩) (fun _ R s => s.heap.get? l = some { cls := .type "tuple", dict := dd, data := .seq items n, slots := sl } ∧ R (.ok (.ret (Value.ref l))) s) :=
  .of_wp fun prog w A R s h => by
    obtain ⟨hp, g, d, tk, os⟩ := s
    obtain ⟨hl, h⟩ := h
    have f1 := AutoSeq1.idx_int
    wp_walk using wpAny_loadPart' hl
    repeat (first
      | (refine wpAny_ite_false (decide_eq_false (by rw [c0]; exact Bool.false_ne_true)) ?_; wp_walk using wpAny_loadPart' hl)
      | (refine wpAny_ite_true (decide_eq_true (by rw [c1])) ?_; wp_walk using wpAny_loadPart' hl))
    exact ⟨_, rfl, h⟩
theorem tup_mul0 (l : Addr) (items : Array Value) (n : Nat) (dd : Option Addr) (sl : Array (Option Value)) (x : Int) (u : Tok) (c0 : (decide (x < -(2 ^ 63)) || decide (x ≥ 2 ^ 63)) = false) (c1 : (items.isEmpty || x == 1) = false) (c2 : (decide (x ≤ 0) || items.isEmpty) = true) :
    Meets (Builtin.«tuple.__mul__» ⟨[.ref l, .int x u], []⟩) (fun _ R s => s.heap.get? l = some { cls := .type "tuple", dict := dd, data := .seq items n, slots := sl } ∧
      R (.ok (.ret (Value.ref s.heap.objs.size))) { s with heap := s.heap.push { cls := Value.type "tuple", data := Data.seq #[] }, toks := s.toks }) :=
  .of_wp fun prog w A R s h => by
    obtain ⟨hp, g, d, tk, os⟩ := s
    obtain ⟨hl, h⟩ := h
    have f1 := AutoSeq1.idx_int
    wp_walk using wpAny_loadPart' hl
    repeat (first
      | (refine wpAny_ite_false (decide_eq_false (by rw [c0]; exact Bool.false_ne_true)) ?_; wp_walk using wpAny_loadPart' hl)
      | (refine wpAny_ite_false (decide_eq_false (by rw [c1]; exact Bool.false_ne_true)) ?_; wp_walk using wpAny_loadPart' hl)
      | (refine wpAny_ite_true (decide_eq_true (by rw [c2])) ?_; wp_walk using wpAny_loadPart' hl))
    exact ⟨_, rfl, h⟩
section
variable {X : Cx}
/-- t * k: what comes -/
def rMulT (K : PySem.W.Frag) : R2 := fun x y H Q => ∃ l k xs, x = .ref l ∧ y = .int k ∧ SqT K H l xs ∧ -1000 ≤ k ∧ k ≤ 1000 ∧ xs.length ≤ 1000 ∧ ((List.replicate k.toNat xs).flatten = xs → Q (.ref l) H) ∧
  ∀ p, H p = none → Q (.ref p) (upd H p (.tup (List.replicate k.toNat xs).flatten))
theorem op_mulT : OpR X (binaryOp .Mult) (rMulT X.K) := by
  intro pins s σ H x y v u Q I rx ry h
  obtain ⟨l, k, xs, rfl, rfl, hT, h0, h2, hz, qs, q⟩ := h
  by_cases hne : xs ≠ [] ∧ 2 ≤ k
  · exact op_repT pins s σ H _ _ v u Q I rx ry ⟨l, k, xs, rfl, rfl, hT, hne.1, hne.2, h2, hz, q⟩
  cases rx
  obtain ⟨t, rfl⟩ := ry
  obtain ⟨its, r, ⟨⟨cls, dd, data, sl⟩, ho, hc, n, hd⟩, hs⟩ := I.tuple hT
  simp only at hc hd
  subst hc hd
  have hle : its.length = xs.length := r.length.symm
  have c0 : (decide (k < -(2 ^ 63)) || decide (k ≥ 2 ^ 63)) = false := by
    rw [decide_eq_false (by omega), decide_eq_false (by omega)] <;> rfl
  cases c1 : (its.toArray.isEmpty || k == 1) with
  | true =>
    refine wpAny_binaryOp_repeat_ref (T := "tuple") (U := "int") (by decide) ⟨_, ho, rfl⟩ (fun s' => typeIs_int s' k t) noFill_tuple_mul F.fills_int_mul F.slot_int_rmul repeat_tuple F.slot_int_index.lookup
      (call_meets F.slot_int_rmul (typeIs_int s k t) F.entry_int_rmul (F.args_int_rmul_2 _ _) (int_rmul_tuple k t l its.toArray n dd sl)
        ⟨ho, rfl, ⟨_, ho, rfl⟩, call_meets F.slot_tuple_mul ⟨_, ho, rfl⟩ F.entry_tuple_mul (F.args_tuple_mul_2 _ _) (tup_mul1 l its.toArray n dd sl k t c0 c1) ⟨ho, ?_⟩⟩)
    refine ⟨.ref l, H, I, rfl, qs ?_⟩
    rw [Bool.or_eq_true] at c1
    rcases c1 with c1 | c1
    · have e : its = [] := by cases its with | nil => rfl | cons a b => cases c1
      have e2 : xs = [] := List.eq_nil_of_length_eq_zero (by rw [← hle, e]; rfl)
      subst e2
      rw [List.flatten_eq_nil_iff]
      intro y hy
      exact (List.mem_replicate.mp hy).2
    · have e : k = 1 := by simpa using c1
      subst e
      simp
  | false =>
    have c2 : (decide (k ≤ 0) || its.toArray.isEmpty) = true := by
      rw [Bool.or_eq_false_iff] at c1
      have hn : xs ≠ [] := fun e => by
        rw [e] at hle
        have : its = [] := List.eq_nil_of_length_eq_zero hle
        rw [this] at c1
        cases c1.1
      have hk1 : k ≠ 1 := fun e => by rw [e] at c1; cases c1.2
      have : ¬ 2 ≤ k := fun z => hne ⟨hn, z⟩
      rw [decide_eq_true (by omega)]
      rfl
    refine wpAny_binaryOp_repeat_ref (T := "tuple") (U := "int") (by decide) ⟨_, ho, rfl⟩ (fun s' => typeIs_int s' k t) noFill_tuple_mul F.fills_int_mul F.slot_int_rmul repeat_tuple F.slot_int_index.lookup
      (call_meets F.slot_int_rmul (typeIs_int s k t) F.entry_int_rmul (F.args_int_rmul_2 _ _) (int_rmul_tuple k t l its.toArray n dd sl)
        ⟨ho, rfl, ⟨_, ho, rfl⟩, call_meets F.slot_tuple_mul ⟨_, ho, rfl⟩ F.entry_tuple_mul (F.args_tuple_mul_2 _ _) (tup_mul0 l its.toArray n dd sl k t c0 c1 c2) ⟨ho, ?_⟩⟩)
    have e : (List.replicate k.toNat xs).flatten = [] := by
      rw [Bool.or_eq_true] at c2
      rcases c2 with c2 | c2
      · have : k.toNat = 0 := by have := of_decide_eq_true c2; omega
        rw [this]; rfl
      · have e : its = [] := by cases its with | nil => rfl | cons a b => cases c2
        have e2 : xs = [] := List.eq_nil_of_length_eq_zero (by rw [← hle, e]; rfl)
        subst e2
        rw [List.flatten_eq_nil_iff]
        intro y hy
        exact (List.mem_replicate.mp hy).2
    rw [e] at q
    refine ⟨.ref s.heap.objs.size, _, I.laid (t' := s.toks) (o := .tup []) (fun b ob q => Heap.get?_push_of_some _ q) (Nat.le_refl _) ?_, rfl, q _ (I.hok.fresh (Nat.le_refl _))⟩
    exact ⟨by simp, [], .nil, IsTup.new _ _⟩
end
end Vm
set_option maxRecDepth 100000
set_option maxHeartbeats 4000000
namespace Vm
open PySem PySem.Spec PyProof.Rows L2
section
variable {K : PySem.W.Frag} {L : ASet} {H : Hp}
mutual
theorem Rd.dp : ∀ {d : D} {v : V}, Rd K L H d v → d.canLay0 = true → Dp K H v d
  | .none, _, h, _ => by unfold Rd at h; subst h; exact .non
  | .bool b, _, h, _ => by unfold Rd at h; subst h; exact .bl b
  | .int i, _, h, _ => by unfold Rd at h; subst h; exact .int i
  | .str x, _, h, _ => by unfold Rd at h; subst h; exact .str x
  | .list ds, _, h, c => by
    unfold Rd at h
    obtain ⟨a, vs, e, s, r⟩ := h
    subst e
    exact .lst s.sq (RdA.dp r (by simpa [PyData.canLay0] using c))
  | .tuple ds, _, h, c => by
    unfold Rd at h
    obtain ⟨a, vs, e, s, r⟩ := h
    subst e
    exact .tup s.sq (RdA.dp r (by simpa [PyData.canLay0] using c))
  | .dict _, _, _, c => by simp [PyData.canLay0] at c
theorem RdA.dp : ∀ {ds : List D} {vs : List V}, RdA K L H ds vs → PyData.canLayAll0 ds = true → DpAll K H vs ds
  | [], _, h, _ => by unfold RdA at h; subst h; exact .nil
  | d :: ds, _, h, c => by
    unfold RdA at h
    obtain ⟨v, r, e, h1, h2⟩ := h
    subst e
    have c' : d.canLay0 = true ∧ PyData.canLayAll0 ds = true := by simpa [PyData.canLayAll0] using c
    exact .cons (Rd.dp h1 c'.1) (RdA.dp h2 c'.2)
end
theorem Rd1.dp : ∀ {d : D} {v : V}, Rd1 K L H d v → d.canLay0 = true → Dp K H v d
  | .none, _, h, c => Rd.dp (L := L) h c
  | .bool b, _, h, c => Rd.dp (L := L) h c
  | .int i, _, h, c => Rd.dp (L := L) h c
  | .str x, _, h, c => Rd.dp (L := L) h c
  | .tuple ds, _, h, c => Rd.dp (L := L) h c
  | .list ds, _, h, c => by
    obtain ⟨a, vs, e, s, r⟩ := h
    subst e
    exact .lst s.sq (r.dp (by simpa [PyData.canLay0] using c))
  | .dict _, _, _, c => by simp [PyData.canLay0] at c
theorem Rd1.i {i : Int} {v : V} (h : Rd1 K L H (.int i) v) : v = .int i := h
theorem Rd1.b {i : Bool} {v : V} (h : Rd1 K L H (.bool i) v) : v = .bl i := h
theorem Rd1.s {i : Str} {v : V} (h : Rd1 K L H (.str i) v) : v = .str i := h
theorem Rd1.n {v : V} (h : Rd1 K L H .none v) : v = .non := h
theorem Rd1.t {ds : List D} {v : V} (h : Rd1 K L H (.tuple ds) v) : ∃ a vs, v = .ref a ∧ ST K L H a vs ∧ RdA K L H ds vs := by
  have h : Rd K L H (.tuple ds) v := h
  unfold Rd at h; exact h
theorem Rd1.l {ds : List D} {v : V} (h : Rd1 K L H (.list ds) v) : ∃ a vs, v = .ref a ∧ LL K H a vs ∧ RdA K L H ds vs := h
theorem Rd1.m {kvs : List (D × D)} {v : V} (h : Rd1 K L H (.dict kvs) v) : ∃ a hv, v = .ref a ∧ H a = some (.dK hv) ∧ RdK K L H kvs hv := h
theorem rd_int {i : Int} : Rd K L H (.int i) (.int i) := by unfold Rd; rfl
theorem rd_bool {i : Bool} : Rd K L H (.bool i) (.bl i) := by unfold Rd; rfl
theorem rd_str {i : Str} : Rd K L H (.str i) (.str i) := by unfold Rd; rfl
theorem rd_none : Rd K L H .none .non := by unfold Rd; rfl
theorem rd1s1 {ys : List D} {x : V} (h : Rd1s K L H ys [x]) : ∃ a, ys = [a] ∧ Rd1 K L H a x := by
  cases ys with
  | nil => cases h
  | cons a r =>
    obtain ⟨v, ws, e, h1, h2⟩ := h
    cases e
    cases r with
    | nil => exact ⟨a, rfl, h1⟩
    | cons b r => obtain ⟨_, _, e, _⟩ := h2; cases e
theorem rd1s2 {ys : List D} {x y : V} (h : Rd1s K L H ys [x, y]) : ∃ a b, ys = [a, b] ∧ Rd1 K L H a x ∧ Rd1 K L H b y := by
  cases ys with
  | nil => cases h
  | cons a r =>
    obtain ⟨v, ws, e, h1, h2⟩ := h
    cases e
    obtain ⟨b, e, h3⟩ := rd1s1 h2
    subst e
    exact ⟨a, b, rfl, h1, h3⟩
end
/-- the reading of an operation by data -/
def OpQ (K : PySem.W.Frag) (o : Op) (vs : List V) (H : Hp) (Q : VK) : Prop := ∃ L ys rr, Rd1s K L H ys vs ∧ o.run ys = some rr ∧ ∀ v H2, OpPost K L H rr v H2 → Q v H2
abbrev rD (K : PySem.W.Frag) (o : Op) : R2 := fun x y H Q => OpQ K o [x, y] H Q
abbrev rD1 (K : PySem.W.Frag) (o : Op) : V → Hp → VK → Prop := fun x H Q => OpQ K o [x] H Q
abbrev rDs (K : PySem.W.Frag) (o : Op) : List V → Hp → VK → Prop := fun vs H Q => OpQ K o vs H Q
theorem intsD_some : ∀ {ds : List D} {ns : List Int}, intsD ds = some ns → ds = ns.map .int
  | [], _, e => by cases e; rfl
  | d :: ds, ns, e => by
    cases d <;> simp only [intsD] at e <;> try (cases e; done)
    rename_i i
    cases q : intsD ds with
    | none => rw [q] at e; cases e
    | some r => rw [q] at e; cases e; rw [intsD_some q]; rfl
theorem boolsD_some : ∀ {ds : List D} {ns : List Bool}, boolsD ds = some ns → ds = ns.map .bool
  | [], _, e => by cases e; rfl
  | d :: ds, ns, e => by
    cases d <;> simp only [boolsD] at e <;> try (cases e; done)
    rename_i i
    cases q : boolsD ds with
    | none => rw [q] at e; cases e
    | some r => rw [q] at e; cases e; rw [boolsD_some q]; rfl
section
variable {X : Cx}
theorem or_add : OpR X (binaryOp .Add) (rD X.K .add) := by
  intro pins s σ H x y v u Q I rx ry h
  obtain ⟨L, ys, rr, rd, e, q⟩ := h
  obtain ⟨a, b, rfl, ha, hb⟩ := rd1s2 rd
  replace e : runAdd a b = some rr := e
  cases a <;> cases b <;> simp only [runAdd] at e <;> try (cases e; done)
  · cases e
    exact op_add pins s σ H x y v u Q I rx ry ⟨_, _, ha, hb, q _ _ (.inl ⟨rfl, rd_int⟩)⟩
  · split at e
    · rename_i hl
      cases e
      exact op_add_str pins s σ H x y v u Q I rx ry ⟨_, _, ha, hb, by rw [sizeLine_eq]; exact hl, q _ _ (.inl ⟨rfl, rd_str⟩)⟩
    · cases e
  · split at e
    · rename_i hl
      cases e
      obtain ⟨p1, vs, rfl, s1, r1⟩ := ha.l
      obtain ⟨p2, us, rfl, s2, r2⟩ := hb.l
      cases rx; cases ry
      obtain ⟨z1, its, n, t1, e1⟩ := s1.obj I
      obtain ⟨z2, its2, n2, t2, e2⟩ := s2.obj I
      have l1 := t1.length
      have l2 := t2.length
      have m1 := r1.len
      have m2 := r2.len
      apply PySem.P.add_list e1 e2
      · rw [show its.toArray ++ its2.toArray = (its ++ its2).toArray by simp]
        exact ⟨.ref _, _, I.lnew (t' := s.toks) (t1.append t2) (by rw [List.length_append, sizeLine_eq]; omega), rfl, q _ _ ⟨_, _, I.fresh, rfl, rfl, r1.app r2⟩⟩
    · cases e
  · split at e
    · rename_i i j hl
      cases e
      obtain ⟨p1, vs, rfl, s1, r1⟩ := ha.t
      obtain ⟨p2, us, rfl, s2, r2⟩ := hb.t
      have m1 := r1.len
      have m2 := r2.len
      refine op_catA pins s σ H _ _ v u Q I rx ry ⟨_, _, vs, us, rfl, rfl, s1.sq, s2.sq, by rw [sizeLine_eq]; omega, fun ev => ?_, fun ev eu => ?_, fun ev eu p hp => ?_⟩
      · have : i = [] := List.eq_nil_of_length_eq_zero (by rw [← m1, ev]; rfl)
        subst this
        exact q _ _ (.inl ⟨rfl, hb⟩)
      · have : j = [] := List.eq_nil_of_length_eq_zero (by rw [← m2, eu]; rfl)
        subst this
        rw [List.append_nil] at q
        exact q _ _ (.inl ⟨rfl, ha⟩)
      · exact q _ _ (.inr (.inl ⟨p, _, _, rfl, hp, rfl, rfl, r1.app r2⟩))
    · cases e
theorem runInts_some {c : Int → Int → Bool} {g : Int → Int → D} {a b : D} {rr : RR} (e : runInts c g a b = some rr) : ∃ i j, a = .int i ∧ b = .int j ∧ c i j = true ∧ rr = .d (g i j) := by
  cases a <;> cases b <;> simp only [runInts] at e <;> try (cases e; done)
  split at e
  · cases e; exact ⟨_, _, rfl, rfl, by assumption, rfl⟩
  · cases e
/-- two ints -/
theorem or_ints {fn : Value → Value → Sem Value} {C : Int → Int → Prop} {g : Int → Int → V} {o : Op} {c : Int → Int → Bool} {g' : Int → Int → D} (h : OpR X fn (rI C g)) (hc : ∀ i j, c i j = true → C i j) (hg : ∀ L H i j, Rd X.K L H (g' i j) (g i j))
    (ho : ∀ a b, o.run [a, b] = runInts c g' a b) : OpR X fn (rD X.K o) := by
  intro pins s σ H x y v u Q I rx ry hq
  obtain ⟨L, ys, rr, rd, e, q⟩ := hq
  obtain ⟨a, b, rfl, ha, hb⟩ := rd1s2 rd
  rw [ho] at e
  obtain ⟨i, j, rfl, rfl, e2, rfl⟩ := runInts_some e
  exact h pins s σ H x y v u Q I rx ry ⟨i, j, ha, hb, hc i j e2, q _ _ (.inl ⟨rfl, hg L H i j⟩)⟩
theorem rI_of {fn : Value → Value → Sem Value} {g : Int → Int → V} (h : OpR X fn (rI0 g)) : OpR X fn (rI (fun _ _ => True) g) := by
  intro pins s σ H x y v u Q I rx ry hq
  obtain ⟨i, j, e1, e2, _, q⟩ := hq
  exact h pins s σ H x y v u Q I rx ry ⟨i, j, e1, e2, q⟩
theorem or_sub : OpR X (binaryOp .Sub) (rD X.K .sub) := or_ints (rI_of op_sub) (fun _ _ _ => trivial) (fun _ _ _ _ => rd_int) fun _ _ => rfl
theorem or_fdiv : OpR X (binaryOp .FloorDiv) (rD X.K .fdiv) := or_ints op_fdiv (fun i j h => by simpa [CDiv] using h) (fun _ _ _ _ => rd_int) fun _ _ => rfl
theorem or_mod : OpR X (binaryOp .Mod) (rD X.K .mod) := or_ints op_mod (fun i j h => by simpa using h) (fun _ _ _ _ => rd_int) fun _ _ => rfl
theorem or_pow : OpR X (binaryOp .Pow) (rD X.K .pow) := or_ints op_pow (fun i j h => by simp only [Bool.and_eq_true, decide_eq_true_eq] at h; exact ⟨h.1.1, h.1.2, h.2⟩) (fun _ _ _ _ => rd_int) fun _ _ => rfl
theorem or_le : OpR X (compareOp .LtE) (rD X.K .le) := or_ints (rI_of op_le) (fun _ _ _ => trivial) (fun _ _ _ _ => rd_bool) fun _ _ => rfl
theorem or_gt : OpR X (compareOp .Gt) (rD X.K .gt) := or_ints (rI_of op_gt) (fun _ _ _ => trivial) (fun _ _ _ _ => rd_bool) fun _ _ => rfl
theorem or_ge : OpR X (compareOp .GtE) (rD X.K .ge) := or_ints (rI_of op_ge) (fun _ _ _ => trivial) (fun _ _ _ _ => rd_bool) fun _ _ => rfl
theorem or_lt (hu : X.A.units + 200 < cLine) : OpR X (compareOp .Lt) (rD X.K .lt) := by
  intro pins s σ H x y v u Q I rx ry h
  obtain ⟨L, ys, rr, rd, e, q⟩ := h
  obtain ⟨a, b, rfl, ha, hb⟩ := rd1s2 rd
  replace e : runLt a b = some rr := e
  cases a <;> cases b <;> simp only [runLt] at e <;> try (cases e; done)
  · cases e
    exact op_lt pins s σ H x y v u Q I rx ry ⟨_, _, ha, hb, q _ _ (.inl ⟨rfl, rd_bool⟩)⟩
  · cases e
    exact op_lt_str pins s σ H x y v u Q I rx ry ⟨_, _, ha, hb, q _ _ (.inl ⟨rfl, rd_bool⟩)⟩
  · rename_i i j
    cases q1 : intsD i with
    | none => simp [q1] at e
    | some n =>
      cases q2 : intsD j with
      | none => simp [q1, q2] at e
      | some m =>
        simp only [q1, q2, Option.bind_some] at e
        cases e
        obtain ⟨p1, vs, rfl, s1, r1⟩ := ha.t
        obtain ⟨p2, us, rfl, s2, r2⟩ := hb.t
        have e1 := intsD_some q1
        have e2 := intsD_some q2
        subst e1; subst e2
        have f1 := r1.ints
        have f2 := r2.ints
        subst f1; subst f2
        exact op_ltT (by omega) pins s σ H _ _ v u Q I rx ry ⟨_, _, n, m, rfl, rfl, s1.sq, s2.sq, q _ _ (.inl ⟨rfl, rd_bool⟩)⟩
theorem or_eq (hu : X.A.units + 200 < cLine) : OpR X (compareOp .Eq) (rD X.K .eq) := by
  intro pins s σ H x y v u Q I rx ry h
  obtain ⟨L, ys, rr, rd, e, q⟩ := h
  obtain ⟨a, b, rfl, ha, hb⟩ := rd1s2 rd
  replace e : runEq false a b = some rr := e
  unfold runEq at e
  split at e
  · rename_i hc
    cases e
    cases z : twoStr a b with
    | true =>
      unfold twoStr at z
      split at z
      · rename_i s1 s2
        have z1 := ha.s
        have z2 := hb.s
        subst z1; subst z2
        refine op_eq pins s σ H _ _ v u Q I rx ry ⟨rfl, ?_⟩
        rw [dec_str]
        refine q _ _ (.inl ⟨?_, rd_bool⟩)
        simp [PyData.eqv]
      · cases z
    | false =>
    rw [z, Bool.false_or] at hc
    simp only [Bool.and_eq_true] at hc
    have c1 : a.canLay0 = true := by have := hc.1; unfold SeqAt.shaped at this; simp only [Bool.and_eq_true] at this; exact this.1
    have c2 : b.canLay0 = true := by have := hc.2; unfold SeqAt.shaped at this; simp only [Bool.and_eq_true] at this; exact this.1
    exact op_eqD (by omega) pins s σ H x y v u Q I rx ry ⟨a, b, ha.dp c1, hb.dp c2, hc.1, hc.2, q _ _ (.inl ⟨rfl, rd_bool⟩)⟩
  · cases e
theorem or_ne (hu : X.A.units + 200 < cLine) : OpR X (compareOp .NotEq) (rD X.K .ne) := by
  intro pins s σ H x y v u Q I rx ry h
  obtain ⟨L, ys, rr, rd, e, q⟩ := h
  obtain ⟨a, b, rfl, ha, hb⟩ := rd1s2 rd
  replace e : runEq true a b = some rr := e
  unfold runEq at e
  split at e
  · rename_i hc
    cases e
    cases z : twoStr a b with
    | true =>
      unfold twoStr at z
      split at z
      · rename_i s1 s2
        have z1 := ha.s
        have z2 := hb.s
        subst z1; subst z2
        refine op_ne pins s σ H _ _ v u Q I rx ry ⟨rfl, ?_⟩
        rw [dec_str]
        refine q _ _ (.inl ⟨?_, rd_bool⟩)
        simp [PyData.eqv]
      · cases z
    | false =>
    rw [z, Bool.false_or] at hc
    simp only [Bool.and_eq_true] at hc
    have c1 : a.canLay0 = true := by have := hc.1; unfold SeqAt.shaped at this; simp only [Bool.and_eq_true] at this; exact this.1
    have c2 : b.canLay0 = true := by have := hc.2; unfold SeqAt.shaped at this; simp only [Bool.and_eq_true] at this; exact this.1
    exact op_neD (by omega) pins s σ H x y v u Q I rx ry ⟨a, b, ha.dp c1, hb.dp c2, hc.1, hc.2, q _ _ (.inl ⟨rfl, rd_bool⟩)⟩
  · cases e
theorem RdA.rep {K : PySem.W.Frag} {L : ASet} {H : Hp} {ds : List D} {vs : List V} (h : RdA K L H ds vs) : ∀ n : Nat, RdA K L H (List.replicate n ds).flatten (List.replicate n vs).flatten
  | 0 => RdA.nil
  | n + 1 => by
    rw [List.replicate_succ, List.replicate_succ, List.flatten_cons, List.flatten_cons]
    exact h.app (RdA.rep h n)
theorem fold_cat (its : List Value) : ∀ (m : Nat) (acc : List Value), List.foldl (fun a b : Array Value => a ++ b) acc.toArray (List.replicate m its.toArray) = (acc ++ (List.replicate m its).flatten).toArray
  | 0, acc => by simp
  | m + 1, acc => by
    rw [List.replicate_succ, List.foldl_cons, List.append_toArray, fold_cat its m, List.replicate_succ, List.flatten_cons, List.append_assoc]
theorem mul_obj {pins : List (Addr × Obj)} {s : Shared} {σ : L2.St} {H : Hp} {Q : VK} {a : Addr} {its : List Value} {n : Nat} {vs : List V} {k : Int} {t : Tok} (I : Inv X pins σ H s) (r : Vals vs its) (e : s.heap.get? a = some { cls := .type "list", data := .seq its.toArray n })
    (h1 : -(2 ^ 63) ≤ k) (h2 : k < 2 ^ 63) (hz : vs.length * k.toNat ≤ sizeLine) (q : Q (.ref s.heap.objs.size) (upd H s.heap.objs.size (.lst (List.replicate k.toNat vs).flatten))) :
    wpAny (model X.prog X.w) X.A (binaryOp .Mult (.ref a) (.int k t)) (EP X pins σ Q) X.xe s := by
  have hl := r.length
  have z1 : its.toArray.size * k.toNat ≤ sizeLine := by rw [List.size_toArray, ← hl]; exact hz
  have c1 : ¬ its.toArray.size * k.toNat > (2 ^ 63 - 1) / 8 := by rw [sizeLine_eq] at z1; omega
  have c2 : ¬ (!Builtin.List.listFitsIndex k) = true := by rw [fitsIndex_both h1 h2]; exact Bool.false_ne_true
  have c3 : ¬ Builtin.List.listTooLong (its.toArray.size * k.toNat) = true := by rw [notLongL z1]; exact Bool.false_ne_true
  have flat : List.foldl (fun x1 x2 => x1 ++ x2) #[] (List.replicate (if its.toArray.isEmpty = true then 0 else k.toNat) its.toArray) = (List.replicate k.toNat its).flatten.toArray := by
    have g := fun m => fold_cat its m []
    simp only [List.nil_append] at g
    cases its with
    | nil =>
      have := g 0
      simp
    | cons a r' =>
      rw [if_neg (by simp)]
      exact g _
  have T : s.TypeIs (.ref a) "list" := ⟨_, e, rfl⟩
  refine wpAny_binaryOp_repeat_ref (T := "list") (U := "int") (by decide) T (fun s' => typeIs_int s' k t) noFill_list_mul F.fills_int_mul F.slot_int_rmul repeat_list F.slot_int_index.lookup ?_
  refine call_meets F.slot_int_rmul (typeIs_int s k t) F.entry_int_rmul (F.args_int_rmul_2 _ _) (int___rmul___int_list k t a its.toArray n) ⟨e, rfl, T, ?_⟩
  refine call_meets F.slot_list_mul T F.entry_list_mul (F.args_list_mul_2 _ _) (AutoListH.list___mul___list_int_3 a its.toArray n k t c2 c1 c3) ⟨e, ?_⟩
  rw [flat]
  have len : (List.replicate k.toNat vs).flatten.length ≤ sizeLine := by rw [PyProof.Rows.lm_len_rep_flat, Nat.mul_comm]; exact hz
  exact ⟨.ref _, _, I.lnew (t' := s.toks) (r.rep k.toNat) len, rfl, q⟩
theorem or_mul : OpR X (binaryOp .Mult) (rD X.K .mul) := by
  intro pins s σ H x y v u Q I rx ry h
  obtain ⟨L, ys, rr, rd, e, q⟩ := h
  obtain ⟨a, b, rfl, ha, hb⟩ := rd1s2 rd
  replace e : runMul a b = some rr := e
  cases a <;> cases b <;> simp only [runMul] at e <;> try (cases e; done)
  · split at e
    · rename_i hc
      cases e
      exact op_mul pins s σ H x y v u Q I rx ry ⟨_, _, ha, hb, hc, q _ _ (.inl ⟨rfl, rd_int⟩)⟩
    · cases e
  · split at e
    · rename_i xs k hc
      cases e
      obtain ⟨p1, vs, rfl, s1, r1⟩ := ha.l
      have m1 := r1.len
      cases rx
      obtain ⟨t, rfl⟩ : ∃ t, u = .int k t := by have e := hb.i; subst e; exact ry
      obtain ⟨z1, its, n, t1, e1⟩ := s1.obj I
      exact mul_obj I t1 e1 hc.1 hc.2.1 (by rw [m1, sizeLine_eq]; exact hc.2.2) (q _ _ ⟨_, _, I.fresh, rfl, rfl, r1.rep _⟩)
    · cases e
  · split at e
    · rename_i xs k hc
      cases e
      obtain ⟨p1, vs, rfl, s1, r1⟩ := ha.t
      have m1 := r1.len
      have e := hb.i
      subst e
      refine op_mulT pins s σ H _ _ v u Q I rx ry ⟨p1, k, vs, rfl, rfl, s1.sq, hc.1, hc.2.1, by rw [m1]; exact hc.2.2, fun ev => ?_, fun p hp => ?_⟩
      · have r2 := r1.rep k.toNat
        rw [ev] at r2
        refine q _ _ (.inl ⟨rfl, ?_⟩)
        unfold Rd
        exact ⟨p1, vs, rfl, s1, r2⟩
      · exact q _ _ (.inr (.inl ⟨p, _, _, rfl, hp, rfl, rfl, r1.rep _⟩))
    · cases e
end
end Vm
set_option maxRecDepth 100000
set_option maxHeartbeats 4000000
/-! sorted(t) of a tuple of ints -/
namespace VmS
open PySem PySem.Spec PySem.Calls PyProof.Rows
section
variable {prog : Program} {w : World} {A : Around} {E : Value → Shared → Prop} {s : Shared}
theorem collect_tupX {Q : List Value → Shared → Prop} (it : Addr) {vs : List Value} (ht : s.heap.IsTuple it vs.toArray)
    (hQ : Q vs { s with heap := (s.heap.push (seqObj "list" #[] 0)).update s.heap.objs.size (Obj.mapSeq (· ++ vs.toArray)) }) (hsz : vs.length ≤ sizeLine) :
    wpAny (model prog w) A (collect (.ref it)) Q E s := by
  obtain ⟨o, ho, hc, n, hd⟩ := ht
  have hz : vs.toArray.size ≤ sizeLine := by simpa using hsz
  unfold collect
  refine wpAny_bind (wpAny_runValue (codeAny_builtin F.entry_proto_collect ?_))
  rw [Around.under_plainId F.plain_proto_collect _]
  show wpAny _ A.in1 (newList [] >>= fun l => again (.builtin "list.__iadd__" ⟨[l, .ref it], []⟩)) _ _ s
  refine wpAny_bind (wpAny_newObj_type ?_)
  refine wpAny_pure ⟨plainId_quiet F.plain_list_iadd _, codeAny_builtin F.entry_list_iadd ?_⟩
  rw [Around.under_plainId F.plain_list_iadd _]
  show wpAny _ A.in1 (Builtin.List.listExtendWith (.ref s.heap.objs.size) (.ref it) (.ref s.heap.objs.size)) _ _ _
  have hS : (s.heap.push { cls := .type "list", data := .seq ([] : List Value).toArray }).get? s.heap.objs.size = some { cls := .type "list", data := .seq #[] 0 } := Heap.get?_push_size _ rfl
  have hS₂ := Heap.get?_update_self (Obj.mapSeq (· ++ vs.toArray)) hS rfl
  have fin' : wpAny (model prog w) A (match Value.ref s.heap.objs.size with
      | Value.ref a => do
        match (← load a).data with
          | Data.seq xs _ => pure xs.toList
          | _ => unsupported "internal:collect"
      | _ => unsupported "internal:collect") Q E { s with heap := (s.heap.push { cls := .type "list", data := .seq ([] : List Value).toArray }).update s.heap.objs.size (Obj.mapSeq (· ++ vs.toArray)) } := by
    show wpAny _ A (load s.heap.objs.size >>= _) _ _ _
    refine wpAny_bind (wpAny_load hS₂ ?_)
    refine wpAny_pure ?_
    have e : ((#[] : Array Value) ++ vs.toArray).toList = vs := by simp
    show Q ((#[] : Array Value) ++ vs.toArray).toList _
    rw [e]
    exact hQ
  refine wpAny_mono (wpAny_extend_seq (hsz := hz) (A := A) (R := fun r s' => r = .ok (.ret (.ref s.heap.objs.size)) ∧ s' = { s with heap := (s.heap.push { cls := .type "list", data := .seq ([] : List Value).toArray }).update s.heap.objs.size (Obj.mapSeq (· ++ vs.toArray)) })
    (s := { s with heap := s.heap.push { cls := .type "list", data := .seq ([] : List Value).toArray } }) _ it _ 0 (.inr rfl) hS (Heap.get?_push_of_some _ ho) hc hd ⟨rfl, rfl⟩) (fun fin s' h => ?_) (fun e s' h => ?_)
  · cases fin with
    | done f =>
      obtain ⟨e, rfl⟩ := h
      cases e
      exact fin'
    | again c' => exact ⟨h.1, codeAny_mono h.2 fun r s'' hr => by obtain ⟨rfl, rfl⟩ := hr; exact fin'⟩
  · exact absurd h.1 (by simp)
theorem sorted_ordT {l : Addr} {vs : List Value} {ltv : Value → Value → Bool} {Q : Value → Shared → Prop} (O : SrtO.Swo ltv) (hl : s.heap.IsTuple l vs.toArray) (hz : vs.length ≤ sizeLine)
    (hS : 2 ≤ vs.length → ∀ (h₁ : Heap) (a : Addr), h₁.get? a = some (seqObj "list" vs.toArray 0) → (∀ b o, s.heap.get? b = some o → b ≠ a ∧ h₁.get? b = some o) → SrtO.SortableO prog w A.in1.in1 { s with heap := h₁ } a vs ltv)
    (h : ∀ out : List Value, SrtO.Srtd ltv out → SrtO.Stb ltv out vs → Q (.ref (s.heap.objs.size + 1)) { s with heap := sortedAll s.heap vs out.toArray }) :
    wpAny (model prog w) A (call (.builtin "sorted") [.ref l]) Q E s := by
  refine Calls.call_function_entry kind_sorted plain_sorted entry_sorted (args_sorted1 _) ?_
  unfold Builtin.«sorted»
  refine wpAny_bind (m := checkCount "sorted" 1 1 _) (wpAny_pure ?_)
  refine wpAny_bind (collect_tupX l hl ?_ hz)
  refine wpAny_bind (wpAny_newList ?_ hz)
  have hsz : ((s.heap.push (seqObj "list" #[] 0)).update s.heap.objs.size (Obj.mapSeq (· ++ vs.toArray))).objs.size = s.heap.objs.size + 1 := by
    rw [Heap.size_update, size_push']
  have hoL : (((s.heap.push (seqObj "list" #[] 0)).update s.heap.objs.size (Obj.mapSeq (· ++ vs.toArray))).push (seqObj "list" vs.toArray 0)).get? (s.heap.objs.size + 1) = some (seqObj "list" vs.toArray 0) := by
    rw [← hsz]; exact Heap.get?_push_size _ rfl
  have keep : ∀ b o, s.heap.get? b = some o → b ≠ s.heap.objs.size + 1 ∧ (((s.heap.push (seqObj "list" #[] 0)).update s.heap.objs.size (Obj.mapSeq (· ++ vs.toArray))).push (seqObj "list" vs.toArray 0)).get? b = some o := fun b o q => by
    have hlt : b < s.heap.objs.size := Heap.lt_size q
    refine ⟨Nat.ne_of_lt (Nat.lt_succ_of_lt hlt), Heap.get?_push_of_some _ ?_⟩
    rw [Heap.get?_update_ne _ _ _ _ (Nat.ne_of_lt hlt)]
    exact Heap.get?_push_of_some _ q
  show wpAny _ _ _ _ _ { s with heap := ((s.heap.push (seqObj "list" #[] 0)).update s.heap.objs.size (Obj.mapSeq (· ++ vs.toArray))).push (seqObj "list" vs.toArray 0) }
  rw [hsz]
  refine wpAny_bind (wpAny_holding (wpAny_call_entry slot_list_sort ⟨_, hoL, rfl⟩ entry_list_sort (SrtO.list_sort_ord O hoL hz (fun h2 => hS h2 _ _ hoL keep) fun out hs hb => ⟨_, rfl, ?_⟩) (args_list_sort _)))
  exact wpAny_pure ⟨_, rfl, h out hs hb⟩
end
end VmS
namespace Vm
open PySem PySem.Spec PyProof.Rows L2
def rSortedT (K : PySem.W.Frag) : List V → Hp → VK → Prop := fun vs H Q => ∃ (a : Addr) (ns : List Int), vs = [V.ref a] ∧ SqT K H a (ns.map V.int) ∧
  ∀ (ns' : List Int) (p : Addr), ns'.Perm ns → ns'.Pairwise (· ≤ ·) → H p = none → Q (.ref p) (upd H p (.lst (ns'.map V.int)))
theorem cr_sortedT {X : Cx} : CallR X (.builtin "sorted") (rSortedT X.K) := by
  intro pins s σ H vs us Q I r h
  obtain ⟨a, ns, rfl, hs, q⟩ := h
  obtain ⟨its, rv, hl, hz⟩ := I.tuple hs
  rw [Vals.ref1 r]
  have hi := rv.ints
  refine VmS.sorted_ordT SrtO.swo_int hl (by rw [← rv.length]; exact hz) (fun h2 h₁ a' _ _ => SrtO.ints_sortable hi h2) fun out h1 h2 => ?_
  obtain ⟨k1, k2, k3⟩ := SrtO.ints_out hi h1 h2
  obtain ⟨ep, he'⟩ := PyProof.Rows.sortedAll_at s.heap its out.toArray
  have hlen : ((out.map SrtO.iv).map V.int).length ≤ sizeLine := by
    rw [List.length_map, k2.length_eq]
    rw [List.length_map] at hz
    exact hz
  exact ⟨.ref _, upd H (s.heap.objs.size + 1) (.lst ((out.map SrtO.iv).map V.int)), I.laid (t' := s.toks) (fun _ _ => PyProof.Rows.sortedAll_old) (Nat.le_succ _) ⟨hlen, out, ep, vals_of_ints k1, he'⟩, rfl, q _ _ k2 k3 (I.hok.fresh (Nat.le_succ _))⟩
end Vm
set_option maxRecDepth 100000
set_option maxHeartbeats 4000000
namespace Vm
open PySem PySem.Spec PyProof.Rows L2
theorem flat_rd {K : PySem.W.Frag} {L : ASet} {H : Hp} {d : D} {v : V} (h : Rd K L H d v) (f : flatD d = true) : flatV v = true := by
  cases d <;> simp only [flatD] at f <;> try (cases f; done)
  all_goals (unfold Rd at h; subst h; rfl)
theorem flat_rd1 {K : PySem.W.Frag} {L : ASet} {H : Hp} {d : D} {v : V} (h : Rd1 K L H d v) (f : flatD d = true) : flatV v = true := by
  cases d <;> simp only [flatD] at f <;> try (cases f; done)
  · have := h.n; subst this; rfl
  · have := h.b; subst this; rfl
  · have := h.i; subst this; rfl
  · have := h.s; subst this; rfl
theorem flats_rd {K : PySem.W.Frag} {L : ASet} {H : Hp} : ∀ {ds : List D} {vs : List V}, RdA K L H ds vs → ds.all flatD = true → vs.all flatV = true
  | [], _, h, _ => by unfold RdA at h; subst h; rfl
  | d :: ds, _, h, f => by
    unfold RdA at h
    obtain ⟨v, r, e, h1, h2⟩ := h
    subst e
    rw [List.all_cons, Bool.and_eq_true] at f ⊢
    exact ⟨flat_rd h1 f.1, flats_rd h2 f.2⟩
theorem eqF_rd {K : PySem.W.Frag} {L : ASet} {H : Hp} {d e : D} {v u : V} (h : Rd K L H d v) (h' : Rd1 K L H e u) (f : flatD d = true) (f' : flatD e = true) : eqV v u = eqF d e := by
  cases d <;> simp only [flatD] at f <;> try (cases f; done)
  all_goals (unfold Rd at h; subst h)
  all_goals (cases e <;> simp only [flatD] at f' <;> try (cases f'; done))
  all_goals first | (have := h'.n; subst this; rfl) | (have := h'.b; subst this; rfl) | (have := h'.i; subst this; rfl) | (have := h'.s; subst this; rfl)
theorem any_rd {K : PySem.W.Frag} {L : ASet} {H : Hp} {e : D} {u : V} (h' : Rd1 K L H e u) (f' : flatD e = true) : ∀ {ds : List D} {vs : List V}, RdA K L H ds vs → ds.all flatD = true → inV u vs = ds.any fun y => eqF y e
  | [], _, h, _ => by unfold RdA at h; subst h; rfl
  | d :: ds, _, h, f => by
    unfold RdA at h
    obtain ⟨v, r, e, h1, h2⟩ := h
    subst e
    rw [List.all_cons, Bool.and_eq_true] at f
    show (eqV v u || inV u r) = _
    rw [any_rd h' f' h2 f.2, eqF_rd h1 h' f.1 f', List.any_cons]
section
variable {X : Cx}
theorem mem_seq {neg : Bool} {op : CmpOp} {pins : List (Addr × Obj)} {s : Shared} {σ : L2.St} {H : Hp} {x y : V} {v u : Value} {Q : VK} {L : ASet} {a b : D} {c : Bool} (ho : OpR X (compareOp op) (rIn X.K neg)) (I : Inv X pins σ H s) (rx : RelV x v) (ry : RelV y u)
    (ha : Rd1 X.K L H a x) (hb : Rd1 X.K L H b y) (hs : ∀ z, ¬ (a = .str z ∧ ∃ w, b = .str w)) (e : memD a b = some c) (q : Q (.bl (if neg then !c else c)) H) : wpAny (model X.prog X.w) X.A (compareOp op v u) (EP X pins σ Q) X.xe s := by
  have go : ∀ ds, (b = .list ds ∨ b = .tuple ds) → (flatD a && ds.all flatD) = true → c = (ds.any fun y => eqF y a) → wpAny (model X.prog X.w) X.A (compareOp op v u) (EP X pins σ Q) X.xe s := by
    intro ds hd hf hc
    simp only [Bool.and_eq_true] at hf
    rcases hd with rfl | rfl
    · obtain ⟨p, vs, rfl, s1, r1⟩ := hb.l
      refine ho pins s σ H x _ v u Q I rx ry ⟨p, vs, rfl, .inl s1.sq, flat_rd1 ha hf.1, flats_rd r1 hf.2, ?_⟩
      rw [any_rd ha hf.1 r1 hf.2, ← hc]
      cases neg <;> exact q
    · obtain ⟨p, vs, rfl, s1, r1⟩ := hb.t
      refine ho pins s σ H x _ v u Q I rx ry ⟨p, vs, rfl, .inr s1.sq, flat_rd1 ha hf.1, flats_rd r1 hf.2, ?_⟩
      rw [any_rd ha hf.1 r1 hf.2, ← hc]
      cases neg <;> exact q
  cases b with
  | list ds =>
    have e : (if (flatD a && ds.all flatD) = true then some (ds.any fun y => eqF y a) else none) = some c := by cases a <;> exact e
    split at e
    · exact go ds (.inl rfl) (by assumption) (Option.some.inj e).symm
    · cases e
  | tuple ds =>
    have e : (if (flatD a && ds.all flatD) = true then some (ds.any fun y => eqF y a) else none) = some c := by cases a <;> exact e
    split at e
    · exact go ds (.inr rfl) (by assumption) (Option.some.inj e).symm
    · cases e
  | str w =>
    cases a with
    | str z => exact absurd ⟨rfl, w, rfl⟩ (hs z)
    | _ => cases e
  | none => cases a <;> cases e
  | bool _ => cases a <;> cases e
  | int _ => cases a <;> cases e
  | dict _ => cases a <;> cases e
theorem or_mem : OpR X (compareOp .In) (rD X.K .mem) := by
  intro pins s σ H x y v u Q I rx ry h
  obtain ⟨L, ys, rr, rd, e, q⟩ := h
  obtain ⟨a, b, rfl, ha, hb⟩ := rd1s2 rd
  replace e : (memD a b).map (fun b => RR.d (.bool b)) = some rr := e
  cases hm : memD a b with
  | none => rw [hm] at e; cases e
  | some c =>
    rw [hm] at e
    cases e
    have q' := q _ _ (.inl ⟨rfl, rd_bool⟩)
    by_cases hs : ∃ z, a = .str z ∧ ∃ w, b = .str w
    · obtain ⟨z, rfl, w, rfl⟩ := hs
      replace hm : inS z w = c := Option.some.inj hm
      unfold inS at hm
      split at hm
      · rename_i cp hz
        have ez : z = ⟨#[cp]⟩ := by
          obtain ⟨⟨l⟩⟩ := z
          have : l = [cp] := hz
          rw [this]
        subst ez
        subst hm
        exact op_in_sign pins s σ H x y v u Q I rx ry ⟨cp, w, ha.s, hb.s, q'⟩
      · subst hm
        exact op_in_str pins s σ H x y v u Q I rx ry ⟨z, w, ha.s, hb.s, q'⟩
    · exact mem_seq (neg := false) op_in_seq I rx ry ha hb (fun z h => hs ⟨z, h.1, h.2⟩) hm q'
theorem or_nmem : OpR X (compareOp .NotIn) (rD X.K .nmem) := by
  intro pins s σ H x y v u Q I rx ry h
  obtain ⟨L, ys, rr, rd, e, q⟩ := h
  obtain ⟨a, b, rfl, ha, hb⟩ := rd1s2 rd
  replace e : (memD a b).map (fun b => RR.d (.bool (!b))) = some rr := e
  cases hm : memD a b with
  | none => rw [hm] at e; cases e
  | some c =>
    rw [hm] at e
    cases e
    have q' := q _ _ (.inl ⟨rfl, rd_bool⟩)
    by_cases hs : ∃ z, a = .str z ∧ ∃ w, b = .str w
    · obtain ⟨z, rfl, w, rfl⟩ := hs
      replace hm : inS z w = c := Option.some.inj hm
      unfold inS at hm
      split at hm
      · rename_i cp hz
        have ez : z = ⟨#[cp]⟩ := by
          obtain ⟨⟨l⟩⟩ := z
          have : l = [cp] := hz
          rw [this]
        subst ez
        subst hm
        exact op_notIn_sign pins s σ H x y v u Q I rx ry ⟨cp, w, ha.s, hb.s, q'⟩
      · subst hm
        exact op_notIn_str pins s σ H x y v u Q I rx ry ⟨z, w, ha.s, hb.s, q'⟩
    · exact mem_seq (neg := true) op_notIn_seq I rx ry ha hb (fun z h => hs ⟨z, h.1, h.2⟩) hm q'
/-! ### is None -/
theorem isNone_v {K : PySem.W.Frag} {L : ASet} {H : Hp} {d : D} {v : V} (h : Rd1 K L H d v) : decide (v = .non) = isNone d := by
  cases d with
  | none => have := h.n; subst this; rfl
  | bool b => have := h.b; subst this; rfl
  | int b => have := h.i; subst this; rfl
  | str b => have := h.s; subst this; rfl
  | list ds => obtain ⟨a, vs, rfl, _⟩ := h.l; rfl
  | tuple ds => obtain ⟨a, vs, rfl, _⟩ := h.t; rfl
  | dict ds => obtain ⟨a, vs, rfl, _⟩ := h.m; rfl
/-! ### o[i] -/
theorem ixr_item : IxR X (rD X.K .item) := by
  intro value slice pins s σ H x y v u Q I rx ry h hs
  obtain ⟨L, ys, rr, rd, e, q⟩ := h
  obtain ⟨a, b, rfl, ha, hb⟩ := rd1s2 rd
  replace e : (itemD a b).map RR.d = some rr := e
  cases hm : itemD a b with
  | none => rw [hm] at e; cases e
  | some c =>
    rw [hm] at e
    cases e
    have at_of : ∀ {ds : List D} {vs : List V} {i : Int}, RdA X.K L H ds vs → atI ds i = some c → ∃ w, atI vs i = some w ∧ Rd X.K L H c w := by
      intro ds vs i r e
      unfold atI at e ⊢
      rw [r.len]
      cases hx : ixN ds.length i with
      | none => rw [hx] at e; cases e
      | some j =>
        rw [hx] at e
        simp only [Option.bind_some] at e ⊢
        exact r.get e
    cases a with
    | list ds =>
      cases b with
      | int i =>
        obtain ⟨p, vs, rfl, s1, r1⟩ := ha.l
        obtain ⟨w, e1, e2⟩ := at_of r1 hm
        exact ix_list value slice pins s σ H _ y v u Q I rx ry ⟨p, vs, i, w, rfl, hb, s1.sq, e1, q _ _ (.inl ⟨rfl, e2⟩)⟩ hs
      | _ => cases hm
    | tuple ds =>
      cases b with
      | int i =>
        obtain ⟨p, vs, rfl, s1, r1⟩ := ha.t
        obtain ⟨w, e1, e2⟩ := at_of r1 hm
        exact ix_tup value slice pins s σ H _ y v u Q I rx ry ⟨p, vs, i, w, rfl, hb, s1.sq, e1, q _ _ (.inl ⟨rfl, e2⟩)⟩ hs
      | _ => cases hm
    | str z =>
      cases b with
      | int i =>
        replace hm : (if z.length ≤ 16777216 then (atI z.cps.toList i).map fun c => PyData.str (sign c) else none) = some c := hm
        split at hm
        · rename_i hl
          cases hc : atI z.cps.toList i with
          | none => rw [hc] at hm; cases hm
          | some cp =>
            rw [hc] at hm
            cases hm
            exact ix_str value slice pins s σ H x y v u Q I rx ry ⟨z, i, cp, ha, hb, by rw [sizeLine_eq]; exact hl, hc, q _ _ (.inl ⟨rfl, rd_str⟩)⟩ hs
        · cases hm
      | _ => cases hm
    | _ => cases b <;> cases hm
theorem RdA.cut {K : PySem.W.Frag} {L : ASet} {H : Hp} {ds : List D} {vs : List V} (r : RdA K L H ds vs) (lo hi : Option Int) : RdA K L H (cutD ds lo hi) (cutV vs lo hi) := by
  unfold cutD cutV
  rw [r.len]
  exact (r.drop _).take _
theorem cut_all {α : Type} (xs : List α) (lo hi : Option Int) (h1 : HT.sIx xs.length 0 lo = 0) (h2 : HT.sIx xs.length xs.length hi = xs.length) : (xs.drop (HT.sIx xs.length 0 lo)).take (HT.sIx xs.length xs.length hi - HT.sIx xs.length 0 lo) = xs := by
  rw [h1, h2]; simp
/-- o[lo:hi] -/
def rSl (K : PySem.W.Frag) : V → Option Int → Option Int → Hp → VK → Prop := fun x lo hi H Q => ∃ L a rr, Rd1 K L H a x ∧ sliceD a lo hi = some rr ∧ ∀ v H2, OpPost K L H rr v H2 → Q v H2
theorem slr_slice : SlR X (rSl X.K) := by
  intro pins s σ H x v vl vu lo hi sl Q I rx hs pl pu h
  obtain ⟨L, a, rr, ha, e, q⟩ := h
  cases a with
  | list ds =>
    cases e
    obtain ⟨p, vs, rfl, s1, r1⟩ := ha.l
    exact sl_list pins s σ H _ v vl vu lo hi sl Q I rx hs pl pu ⟨p, vs, rfl, s1.sq, fun p hp => q _ _ ⟨p, _, hp, rfl, rfl, r1.cut lo hi⟩⟩
  | tuple ds =>
    cases e
    obtain ⟨p, vs, rfl, s1, r1⟩ := ha.t
    refine sl_tupA pins s σ H _ v vl vu lo hi sl Q I rx hs pl pu ⟨p, vs, rfl, s1.sq, fun hw => ?_, fun _ p hp => q _ _ (.inr (.inl ⟨p, _, _, rfl, hp, rfl, rfl, r1.cut lo hi⟩))⟩
    have := cut_all ds lo hi (by rw [← r1.len]; exact hw.1) (by rw [← r1.len]; exact hw.2)
    have e : cutD ds lo hi = ds := this
    rw [e] at q
    exact q _ _ (.inl ⟨rfl, ha⟩)
  | str z =>
    replace e : (if z.length ≤ 16777216 then some (RR.d (.str (cutS z lo hi))) else none) = some rr := e
    split at e
    · rename_i hl
      cases e
      exact sl_str pins s σ H x v vl vu lo hi sl Q I rx hs pl pu ⟨z, ha, by rw [sizeLine_eq]; exact hl, q _ _ (.inl ⟨rfl, rd_str⟩)⟩
    · cases e
  | _ => cases e
/-! ### built-ins -/
theorem cr_int : CallR X (.type "int") (rDs X.K .int) := by
  intro pins s σ H xs us Q I r h
  obtain ⟨L, ys, rr, rd, e, q⟩ := h
  cases ys with
  | nil => cases e
  | cons a t =>
    cases t with
    | cons b t => cases e
    | nil =>
      obtain ⟨w, ws, rfl, ha, rfl⟩ := rd
      replace e : runInt a = some rr := e
      cases a with
      | int i => cases e; have := ha.i; subst this; exact call_int1 pins s σ H _ us Q I r (.inl ⟨i, rfl, q _ _ (.inl ⟨rfl, rd_int⟩)⟩)
      | bool i => cases e; have := ha.b; subst this; exact call_int1 pins s σ H _ us Q I r (.inr ⟨i, rfl, q _ _ (.inl ⟨rfl, rd_int⟩)⟩)
      | _ => cases e
/-- a built-in of one value -/
theorem call1 {fn : Value} {o : Op} {g : D → Option RR} (ho : ∀ a, o.run [a] = g a) (hn : ∀ ys, ys.length ≠ 1 → o.run ys = none)
    (h : ∀ (pins : List (Addr × Obj)) (s : Shared) (σ : L2.St) (H : Hp) (x : V) (u : Value) (Q : VK) (L : ASet) (a : D) (rr : RR), Inv X pins σ H s → RelV x u → Rd1 X.K L H a x → g a = some rr → (∀ v H2, OpPost X.K L H rr v H2 → Q v H2) →
      wpAny (model X.prog X.w) X.A (call fn [u]) (EP X pins σ Q) X.xe s) : CallR X fn (rDs X.K o) := by
  intro pins s σ H xs us Q I r hq
  obtain ⟨L, ys, rr, rd, e, q⟩ := hq
  cases ys with
  | nil => rw [hn [] (by simp)] at e; cases e
  | cons a t =>
    cases t with
    | cons b t => rw [hn _ (by simp)] at e; cases e
    | nil =>
      obtain ⟨w, ws, rfl, ha, rfl⟩ := rd
      rw [ho] at e
      obtain ⟨u, rfl, ru⟩ := vals1 r
      exact h pins s σ H w u Q L a rr I ru ha e q
theorem call2 {fn : Value} {o : Op} {c : Int → Int → Bool} {g : Int → Int → D} (ho : ∀ a b, o.run [a, b] = runInts c g a b) (hn : ∀ ys, ys.length ≠ 2 → o.run ys = none)
    (h : ∀ (pins : List (Addr × Obj)) (s : Shared) (σ : L2.St) (H : Hp) (us : List Value) (Q : VK) (L : ASet) (i j : Int), Inv X pins σ H s → Vals [.int i, .int j] us → c i j = true → (∀ v H2, OpPost X.K L H (.d (g i j)) v H2 → Q v H2) →
      wpAny (model X.prog X.w) X.A (call fn us) (EP X pins σ Q) X.xe s) : CallR X fn (rDs X.K o) := by
  intro pins s σ H xs us Q I r hq
  obtain ⟨L, ys, rr, rd, e, q⟩ := hq
  match ys, rd, e with
  | [], _, e => rw [hn [] (by simp)] at e; cases e
  | [a], _, e => rw [hn _ (by simp)] at e; cases e
  | a :: b :: c' :: t, _, e => rw [hn _ (by simp)] at e; cases e
  | [a, b], rd, e =>
    obtain ⟨w, ws, rfl, ha, w2, ws2, rfl, hb, rfl⟩ := rd
    rw [ho] at e
    obtain ⟨i, j, rfl, rfl, e2, rfl⟩ := runInts_some e
    have := ha.i; subst this
    have := hb.i; subst this
    exact h pins s σ H us Q L i j I r e2 q
theorem cr_len : CallR X (.builtin "len") (rDs X.K .len) := by
  refine call1 (g := fun a => (lenD a).map fun n : Nat => RR.d (.int (n : Int))) (fun _ => rfl) (fun ys h => by match ys, h with | [], _ => rfl | [_], h => simp at h | _ :: _ :: _, _ => rfl) ?_
  intro pins s σ H x u Q L a rr I ru ha e q
  cases a with
  | list ds =>
    cases e
    obtain ⟨p, vs, rfl, s1, r1⟩ := ha.l
    refine call_len pins s σ H [.ref p] [u] Q I (.cons ru .nil) ⟨_, _, rfl, .inl ⟨vs, s1.sq, rfl⟩, ?_⟩
    rw [r1.len]; exact q _ _ (.inl ⟨rfl, rd_int⟩)
  | tuple ds =>
    cases e
    obtain ⟨p, vs, rfl, s1, r1⟩ := ha.t
    refine call_len pins s σ H [.ref p] [u] Q I (.cons ru .nil) ⟨_, _, rfl, .inr ⟨vs, s1.sq, rfl⟩, ?_⟩
    rw [r1.len]; exact q _ _ (.inl ⟨rfl, rd_int⟩)
  | str z =>
    replace e : (if z.length ≤ 16777216 then some z.length else none).map (fun n : Nat => RR.d (.int (n : Int))) = some rr := e
    split at e
    · rename_i hl
      cases e
      have := ha.s; subst this
      exact call_len pins s σ H [.str z] [u] Q I (.cons ru .nil) ⟨_, _, rfl, ⟨by rw [sizeLine_eq]; exact hl, rfl⟩, q _ _ (.inl ⟨rfl, rd_int⟩)⟩
    · cases e
  | dict kvs =>
    cases e
    obtain ⟨p, hv, rfl, s1, r1⟩ := ha.m
    refine call_lenD pins s σ H [.ref p] [u] Q I (.cons ru .nil) ⟨p, hv, rfl, s1, ?_⟩
    have len : ∀ {ks : List (D × D)} {hs : List (Key × V)}, RdK X.K L H ks hs → hs.length = ks.length := by
      intro ks
      induction ks with
      | nil => intro hs h; unfold RdK at h; subst h; rfl
      | cons p ks ih =>
        obtain ⟨k, d⟩ := p
        intro hs h
        unfold RdK at h
        obtain ⟨kk, v, r, e, _, _, h2⟩ := h
        subst e
        simp [ih h2]
    rw [len r1]; exact q _ _ (.inl ⟨rfl, rd_int⟩)
  | _ => cases e
theorem cr_abs : CallR X (.builtin "abs") (rDs X.K .abs) := by
  refine call1 (g := runAbs) (fun _ => rfl) (fun ys h => by match ys, h with | [], _ => rfl | [_], h => simp at h | _ :: _ :: _, _ => rfl) ?_
  intro pins s σ H x u Q L a rr I ru ha e q
  cases a <;> try (cases e; done)
  cases e
  exact call_abs pins s σ H [x] [u] Q I (.cons ru .nil) ⟨_, by rw [ha.i], q _ _ (.inl ⟨rfl, rd_int⟩)⟩
theorem cr_min2 (hc : X.calm = true) : CallR X (.builtin "min") (rDs X.K .min2) := by
  refine call2 (fun _ _ => rfl) (fun ys h => by match ys, h with | [], _ => rfl | [_], _ => rfl | [_, _], h => simp at h | _ :: _ :: _ :: _, _ => rfl) ?_
  intro pins s σ H us Q L i j I r _ q
  exact call_min2 hc pins s σ H _ us Q I r ⟨i, j, rfl, q _ _ (.inl ⟨rfl, rd_int⟩)⟩
theorem cr_max2 (hc : X.calm = true) : CallR X (.builtin "max") (rDs X.K .max2) := by
  refine call2 (fun _ _ => rfl) (fun ys h => by match ys, h with | [], _ => rfl | [_], _ => rfl | [_, _], h => simp at h | _ :: _ :: _ :: _, _ => rfl) ?_
  intro pins s σ H us Q L i j I r _ q
  exact call_max2 hc pins s σ H _ us Q I r ⟨i, j, rfl, q _ _ (.inl ⟨rfl, rd_int⟩)⟩
theorem cr_divmod : CallR X (.builtin "divmod") (rDs X.K .divmod) := by
  refine call2 (fun _ _ => rfl) (fun ys h => by match ys, h with | [], _ => rfl | [_], _ => rfl | [_, _], h => simp at h | _ :: _ :: _ :: _, _ => rfl) ?_
  intro pins s σ H us Q L i j I r e q
  simp only [Bool.and_eq_true, decide_eq_true_eq] at e
  exact call_divmod pins s σ H _ us Q I r ⟨i, j, rfl, e, fun p hp => q _ _ (.inr (.inl ⟨p, _, _, rfl, hp, rfl, rfl, .cons rd_int (.cons rd_int .nil)⟩))⟩
theorem cr_tuple : CallR X (.type "tuple") (rDs X.K .tuple) := by
  refine call1 (g := runSeq fun ds => .d (.tuple ds)) (fun _ => rfl) (fun ys h => by match ys, h with | [], _ => rfl | [_], h => simp at h | _ :: _ :: _, _ => rfl) ?_
  intro pins s σ H x u Q L a rr I ru ha e q
  cases a <;> try (cases e; done)
  · cases e
    obtain ⟨p, vs, rfl, s1, r1⟩ := ha.l
    exact call_tuple_of pins s σ H _ [u] Q I (.cons ru .nil) ⟨p, vs, rfl, .inl ⟨s1.sq, fun l hl => q _ _ (.inr (.inl ⟨l, _, _, rfl, hl, rfl, rfl, r1⟩))⟩⟩
  · cases e
    obtain ⟨p, vs, rfl, s1, r1⟩ := ha.t
    exact call_tuple_of pins s σ H _ [u] Q I (.cons ru .nil) ⟨p, vs, rfl, .inr ⟨s1.sq, q _ _ (.inl ⟨rfl, ha⟩)⟩⟩
theorem cr_list : CallR X (.type "list") (rDs X.K .list) := by
  refine call1 (g := runSeq fun ds => .fr (.lst ds)) (fun _ => rfl) (fun ys h => by match ys, h with | [], _ => rfl | [_], h => simp at h | _ :: _ :: _, _ => rfl) ?_
  intro pins s σ H x u Q L a rr I ru ha e q
  cases a <;> try (cases e; done)
  · cases e
    obtain ⟨p, vs, rfl, s1, r1⟩ := ha.l
    exact call_list_of pins s σ H _ [u] Q I (.cons ru .nil) ⟨p, vs, rfl, .inl s1.sq, fun l hl => q _ _ ⟨l, _, hl, rfl, rfl, r1⟩⟩
  · cases e
    obtain ⟨p, vs, rfl, s1, r1⟩ := ha.t
    exact call_list_of pins s σ H _ [u] Q I (.cons ru .nil) ⟨p, vs, rfl, .inr s1.sq, fun l hl => q _ _ ⟨l, _, hl, rfl, rfl, r1⟩⟩
theorem bools1 {fn : Value} {o : Op} {g : List Bool → Bool} (ho : ∀ a, o.run [a] = runBools1 g a) (hn : ∀ ys, ys.length ≠ 1 → o.run ys = none)
    (h : CallR X fn (fun vs H Q => ∃ (a : Addr) (bs : List Bool), vs = [V.ref a] ∧ SqL X.K H a (bs.map V.bl) ∧ Q (.bl (g bs)) H)) : CallR X fn (rDs X.K o) := by
  refine call1 (g := runBools1 g) ho hn ?_
  intro pins s σ H x u Q L a rr I ru ha e q
  cases a <;> try (cases e; done)
  rename_i ds
  obtain ⟨p, vs, rfl, s1, r1⟩ := ha.l
  replace e : (boolsD ds).map (fun bs => RR.d (.bool (g bs))) = some rr := e
  cases hb : boolsD ds with
  | none => rw [hb] at e; cases e
  | some bs =>
    rw [hb] at e; cases e
    have := boolsD_some hb
    subst this
    have := r1.bools
    subst this
    exact h pins s σ H _ [u] Q I (.cons ru .nil) ⟨p, bs, rfl, s1.sq, q _ _ (.inl ⟨rfl, rd_bool⟩)⟩
theorem cr_anyD (hc : X.calm = true) : CallR X (.builtin "any") (rDs X.K .any) := bools1 (fun _ => rfl) (fun ys h => by match ys, h with | [], _ => rfl | [_], h => simp at h | _ :: _ :: _, _ => rfl) (cr_any hc)
theorem cr_allD (hc : X.calm = true) : CallR X (.builtin "all") (rDs X.K .all) := bools1 (fun _ => rfl) (fun ys h => by match ys, h with | [], _ => rfl | [_], h => simp at h | _ :: _ :: _, _ => rfl) (cr_all hc)
theorem ints1 {fn : Value} {o : Op} {g : List Int → Option RR} (ho : ∀ a, o.run [a] = runInts1 g a) (hn : ∀ ys, ys.length ≠ 1 → o.run ys = none)
    (h : ∀ (pins : List (Addr × Obj)) (s : Shared) (σ : L2.St) (H : Hp) (us : List Value) (Q : VK) (L : ASet) (p : Addr) (ns : List Int) (rr : RR), Inv X pins σ H s → Vals [.ref p] us → SqL X.K H p (ns.map V.int) → g ns = some rr → (∀ v H2, OpPost X.K L H rr v H2 → Q v H2) →
      wpAny (model X.prog X.w) X.A (call fn us) (EP X pins σ Q) X.xe s) : CallR X fn (rDs X.K o) := by
  refine call1 (g := runInts1 g) ho hn ?_
  intro pins s σ H x u Q L a rr I ru ha e q
  cases a <;> try (cases e; done)
  rename_i ds
  obtain ⟨p, vs, rfl, s1, r1⟩ := ha.l
  replace e : (intsD ds).bind g = some rr := e
  cases hb : intsD ds with
  | none => rw [hb] at e; cases e
  | some bs =>
    rw [hb] at e
    have := intsD_some hb
    subst this
    have := r1.ints
    subst this
    exact h pins s σ H [u] Q L p bs rr I (.cons ru .nil) s1.sq e q
theorem cr_sumD (hc : X.calm = true) : CallR X (.builtin "sum") (rDs X.K .sum) := by
  refine call1 (g := runSum) (fun _ => rfl) (fun ys h => by match ys, h with | [], _ => rfl | [_], h => simp at h | _ :: _ :: _, _ => rfl) ?_
  intro pins s σ H x u Q L a rr I ru ha e q
  cases a <;> try (cases e; done)
  · rename_i ds
    obtain ⟨p, vs, rfl, s1, r1⟩ := ha.l
    replace e : (intsD ds).bind (fun ns => some (RR.d (.int ns.sum))) = some rr := e
    cases hb : intsD ds with
    | none => rw [hb] at e; cases e
    | some ns =>
      rw [hb] at e; cases e
      have := intsD_some hb
      subst this
      have := r1.ints
      subst this
      exact cr_sum hc pins s σ H _ [u] Q I (.cons ru .nil) ⟨p, ns, rfl, s1.sq, q _ _ (.inl ⟨rfl, rd_int⟩)⟩
  · rename_i ds
    obtain ⟨p, vs, rfl, s1, r1⟩ := ha.t
    replace e : (intsD ds).bind (fun ns => some (RR.d (.int ns.sum))) = some rr := e
    cases hb : intsD ds with
    | none => rw [hb] at e; cases e
    | some ns =>
      rw [hb] at e; cases e
      have := intsD_some hb
      subst this
      have := r1.ints
      subst this
      cases ru
      obtain ⟨its, r, ht, _⟩ := I.tuple s1.sq
      have hi := r.ints
      obtain ⟨xs, hx⟩ := hi.allInts.items
      have hn : numsOf (intItems xs).toList = ns := by rw [← hx]; exact hi.numsOf
      rw [nums_intItems] at hn
      rw [hx] at ht
      refine PySem.W.ktm_sumG (I.ok.hd hc) ht fun h' tk t' hk => ?_
      rw [preSum_eq, List.take_of_length_le (by simp), hn]
      exact ⟨.int _, H, I.kept hk, ⟨_, rfl⟩, q _ _ (.inl ⟨rfl, rd_int⟩)⟩
theorem maxI_mem : ∀ (r : List Int) (m : Int), maxI m r ∈ m :: r ∧ ∀ y ∈ m :: r, y ≤ maxI m r
  | [], m => ⟨by simp [maxI], fun y hy => by simp at hy; subst hy; exact Int.le_refl _⟩
  | x :: r, m => by
    have e : maxI m (x :: r) = maxI (if x > m then x else m) r := rfl
    rw [e]
    by_cases hc : x > m
    · rw [if_pos hc]
      obtain ⟨h1, h2⟩ := maxI_mem r x
      have h3 := h2 x (List.mem_cons_self ..)
      refine ⟨List.mem_cons_of_mem _ h1, fun y hy => ?_⟩
      rcases List.mem_cons.mp hy with z | hy
      · subst z; omega
      · exact h2 y hy
    · rw [if_neg hc]
      obtain ⟨h1, h2⟩ := maxI_mem r m
      have h3 := h2 m (List.mem_cons_self ..)
      refine ⟨?_, fun y hy => ?_⟩
      · rcases List.mem_cons.mp h1 with z | z
        · rw [z]; simp
        · exact List.mem_cons_of_mem _ (List.mem_cons_of_mem _ z)
      · rcases List.mem_cons.mp hy with z | hy
        · subst z; exact h3
        · rcases List.mem_cons.mp hy with z | hy
          · subst z; omega
          · exact h2 y (List.mem_cons_of_mem _ hy)
theorem minI_mem : ∀ (r : List Int) (m : Int), minI m r ∈ m :: r ∧ ∀ y ∈ m :: r, minI m r ≤ y
  | [], m => ⟨by simp [minI], fun y hy => by simp at hy; subst hy; exact Int.le_refl _⟩
  | x :: r, m => by
    have e : minI m (x :: r) = minI (if x < m then x else m) r := rfl
    rw [e]
    by_cases hc : x < m
    · rw [if_pos hc]
      obtain ⟨h1, h2⟩ := minI_mem r x
      have h3 := h2 x (List.mem_cons_self ..)
      refine ⟨List.mem_cons_of_mem _ h1, fun y hy => ?_⟩
      rcases List.mem_cons.mp hy with z | hy
      · subst z; omega
      · exact h2 y hy
    · rw [if_neg hc]
      obtain ⟨h1, h2⟩ := minI_mem r m
      have h3 := h2 m (List.mem_cons_self ..)
      refine ⟨?_, fun y hy => ?_⟩
      · rcases List.mem_cons.mp h1 with z | z
        · rw [z]; simp
        · exact List.mem_cons_of_mem _ (List.mem_cons_of_mem _ z)
      · rcases List.mem_cons.mp hy with z | hy
        · subst z; exact h3
        · rcases List.mem_cons.mp hy with z | hy
          · subst z; omega
          · exact h2 y (List.mem_cons_of_mem _ hy)
theorem cr_max1 (hc : X.calm = true) : CallR X (.builtin "max") (rDs X.K .max1) := by
  refine ints1 (fun _ => rfl) (fun ys h => by match ys, h with | [], _ => rfl | [_], h => simp at h | _ :: _ :: _, _ => rfl) ?_
  intro pins s σ H us Q L p ns rr I r hs e q
  cases ns with
  | nil => cases e
  | cons n ns =>
    cases e
    refine cr_max hc pins s σ H _ us Q I r ⟨p, _, rfl, hs, by simp, fun m h1 h2 => ?_⟩
    obtain ⟨g1, g2⟩ := maxI_mem ns n
    have : m = maxI n ns := Int.le_antisymm (g2 m h1) (h2 _ g1)
    rw [this]; exact q _ _ (.inl ⟨rfl, rd_int⟩)
theorem cr_min1 (hc : X.calm = true) : CallR X (.builtin "min") (rDs X.K .min1) := by
  refine ints1 (fun _ => rfl) (fun ys h => by match ys, h with | [], _ => rfl | [_], h => simp at h | _ :: _ :: _, _ => rfl) ?_
  intro pins s σ H us Q L p ns rr I r hs e q
  cases ns with
  | nil => cases e
  | cons n ns =>
    cases e
    refine cr_min hc pins s σ H _ us Q I r ⟨p, _, rfl, hs, by simp, fun m h1 h2 => ?_⟩
    obtain ⟨g1, g2⟩ := minI_mem ns n
    have : m = minI n ns := Int.le_antisymm (h2 _ g1) (g2 m h1)
    rw [this]; exact q _ _ (.inl ⟨rfl, rd_int⟩)
theorem insI_perm (x : Int) : ∀ l : List Int, (insI x l).Perm (x :: l)
  | [] => List.Perm.refl _
  | y :: r => by
    unfold insI
    split
    · exact List.Perm.refl _
    · exact ((insI_perm x r).cons y).trans (List.Perm.swap x y r)
theorem sortI_perm : ∀ l : List Int, (sortI l).Perm l
  | [] => List.Perm.refl _
  | x :: r => (insI_perm x _).trans ((sortI_perm r).cons x)
theorem insI_sorted (x : Int) : ∀ l : List Int, l.Pairwise (· ≤ ·) → (insI x l).Pairwise (· ≤ ·)
  | [], _ => by simp [insI]
  | y :: r, h => by
    unfold insI
    obtain ⟨h1, h2⟩ := List.pairwise_cons.mp h
    split
    · rename_i hx
      refine List.pairwise_cons.mpr ⟨fun z hz => ?_, h⟩
      rcases List.mem_cons.mp hz with e | hz
      · subst e; exact hx
      · exact Int.le_trans hx (h1 z hz)
    · rename_i hx
      refine List.pairwise_cons.mpr ⟨fun z hz => ?_, insI_sorted x r h2⟩
      rcases List.mem_cons.mp ((insI_perm x r).mem_iff.mp hz) with e | hz
      · subst e; omega
      · exact h1 z hz
theorem sortI_sorted : ∀ l : List Int, (sortI l).Pairwise (· ≤ ·)
  | [] => List.Pairwise.nil
  | x :: r => insI_sorted x _ (sortI_sorted r)
theorem RdA.of_ints {K : PySem.W.Frag} {L : ASet} {H : Hp} : ∀ ns : List Int, RdA K L H (ns.map .int) (ns.map V.int)
  | [] => .nil
  | _ :: r => .cons rd_int (RdA.of_ints r)
theorem cr_sortedD (hc : X.calm = true) : CallR X (.builtin "sorted") (rDs X.K .sorted) := by
  refine call1 (g := runSorted) (fun _ => rfl) (fun ys h => by match ys, h with | [], _ => rfl | [_], h => simp at h | _ :: _ :: _, _ => rfl) ?_
  intro pins s σ H x u Q L a rr I ru ha e q
  cases a <;> try (cases e; done)
  · rename_i ds
    obtain ⟨p, vs, rfl, s1, r1⟩ := ha.l
    replace e : (intsD ds).map (fun ns => RR.fr (.lst ((sortI ns).map .int))) = some rr := e
    cases hb : intsD ds with
    | none => rw [hb] at e; cases e
    | some ns =>
      rw [hb] at e; cases e
      have := intsD_some hb
      subst this
      have := r1.ints
      subst this
      refine cr_sortedI pins s σ H _ [u] Q I (.cons ru .nil) ⟨p, ns, rfl, s1.sq, fun ns' l h1 h2 hl => ?_⟩
      have : ns' = sortI ns := PySem.W.ksm_same (h1.trans (sortI_perm ns).symm) h2 (sortI_sorted ns)
      subst this
      exact q _ _ ⟨l, _, hl, rfl, rfl, RdA.of_ints _⟩
  · rename_i ds
    obtain ⟨p, vs, rfl, s1, r1⟩ := ha.t
    replace e : (intsD ds).map (fun ns => RR.fr (.lst ((sortI ns).map .int))) = some rr := e
    cases hb : intsD ds with
    | none => rw [hb] at e; cases e
    | some ns =>
      rw [hb] at e; cases e
      have := intsD_some hb
      subst this
      have := r1.ints
      subst this
      refine cr_sortedT pins s σ H _ [u] Q I (.cons ru .nil) ⟨p, ns, rfl, s1.sq, fun ns' l h1 h2 hl => ?_⟩
      have : ns' = sortI ns := PySem.W.ksm_same (h1.trans (sortI_perm ns).symm) h2 (sortI_sorted ns)
      subst this
      exact q _ _ ⟨l, _, hl, rfl, rfl, RdA.of_ints _⟩
  · rename_i kvs
    obtain ⟨p, hv, rfl, s1, r1⟩ := ha.m
    replace e : (if kvs.length < 64 then (intsD (kvs.map (·.1))).map fun ns => RR.fr (.lst ((sortI ns).map .int)) else none) = some rr := e
    split at e
    · rename_i h64
      cases hb : intsD (kvs.map (·.1)) with
      | none => rw [hb] at e; cases e
      | some ns =>
        rw [hb] at e; cases e
        have hk := intsD_some hb
        have keys : ∀ {ks : List (D × D)} {hs : List (Key × V)} {ms : List Int}, RdK X.K L H ks hs → ks.map (·.1) = ms.map PyData.int → hs.map (·.1) = ms.map Sum.inl := by
          intro ks
          induction ks with
          | nil =>
            intro hs ms h e
            unfold RdK at h; subst h
            cases ms with
            | nil => rfl
            | cons _ _ => cases e
          | cons z ks ih =>
            obtain ⟨k, d⟩ := z
            intro hs ms h e
            unfold RdK at h
            obtain ⟨kk, w, r, e1, ek, _, h2⟩ := h
            subst e1
            cases ms with
            | nil => cases e
            | cons m ms =>
              simp only [List.map_cons, List.cons.injEq] at e ⊢
              refine ⟨?_, ih h2 e.2⟩
              have e0 := ek.trans e.1
              cases kk with
              | inl i => cases e0; rfl
              | inr i => cases e0
        have hl : ns.length < 64 := by
          have := congrArg List.length hk
          simp only [List.length_map] at this
          omega
        refine call_sortedDI hc pins s σ H _ [u] Q I (.cons ru .nil) ⟨p, hv, ns, rfl, .inl s1, keys r1 hk, hl, fun ns' l h1 h2 hl => ?_⟩
        have : ns' = sortI ns := PySem.W.ksm_same (h1.trans (sortI_perm ns).symm) h2 (sortI_sorted ns)
        subst this
        exact q _ _ ⟨l, _, hl, rfl, rfl, RdA.of_ints _⟩
    · cases e
theorem ty_rd1 {K : PySem.W.Frag} {L : ASet} {H : Hp} {d : D} {v : V} (h : Rd1 K L H d v) : TyX K H v (.type (tyD d)) := by
  cases d with
  | none => have := h.n; subst this; exact .base .non
  | bool b => have := h.b; subst this; exact .base (.bl b)
  | int b => have := h.i; subst this; exact .base (.int b)
  | str b => have := h.s; subst this; exact .base (.str b)
  | list ds =>
    obtain ⟨a, vs, rfl, s, _⟩ := h.l
    rcases s with (s | ⟨o, s⟩) | ⟨its, n, h1, _, _⟩
    · exact .base (.lst s)
    · exact .base (.frz s)
    · exact .kList h1 rfl
  | tuple ds =>
    obtain ⟨a, vs, rfl, s, _⟩ := h.t
    rcases s with ⟨_, s | ⟨o, s⟩⟩ | ⟨o, its, n, h1, h2, _⟩
    · exact .base (.tup s)
    · exact .fTuple s
    · exact .kTuple h1 h2
  | dict ds => obtain ⟨a, vs, rfl, s, _⟩ := h.m; exact .base (.dK s)
/-- isinstance(x, T) -/
theorem isI_run {t : String} {pins : List (Addr × Obj)} {s : Shared} {σ : L2.St} {H : Hp} {xs : List V} {us : List Value} {Q : VK} {x : V} {L : ASet} {a : D} {rr : RR} (I : Inv X pins σ H s) (r : Vals [x, .ty t] us) (ha : Rd1 X.K L H a x) (e : (Op.isI t).run [a] = some rr) (q : ∀ v H2, OpPost X.K L H rr v H2 → Q v H2) :
    wpAny (model X.prog X.w) X.A (call (.builtin "isinstance") us) (EP X pins σ Q) X.xe s := by
  replace e : (kitB (tyD a) t).map (fun b => RR.d (.bool b)) = some rr := e
  cases hk : kitB (tyD a) t with
  | none => rw [hk] at e; cases e
  | some b =>
    rw [hk] at e; cases e
    exact call_isi pins s σ H _ us Q I r ⟨x, .ty t, _, .type t, b, rfl, .ty t, ty_rd1 ha, kit_ty hk, q _ _ (.inl ⟨rfl, rd_bool⟩)⟩
theorem cr_repr (hu : X.A.units + 200 < cLine) (hg : X.A.guards = some []) : CallR X (.builtin "repr") (rDs X.K .repr) := by
  refine call1 (g := runRepr) (fun _ => rfl) (fun ys h => by match ys, h with | [], _ => rfl | [_], h => simp at h | _ :: _ :: _, _ => rfl) ?_
  intro pins s σ H x u Q L a rr I ru ha e q
  unfold runRepr at e
  split at e
  · rename_i hc
    obtain ⟨c1, c2, c3, c4⟩ := hc
    cases e
    have q' : ∀ {h' : Heap} {tk : Nat} {w : Tok}, (∀ b o, s.heap.get? b = some o → h'.get? b = some o) → EP X pins σ Q (.str a.shown w) { s with heap := h', toks := tk } := fun {h' tk w} k => ⟨.str a.shown, H, I.kept k, ⟨_, rfl⟩, q _ _ (.inl ⟨rfl, rd_str⟩)⟩
    have big : ∀ {p : Addr}, x = .ref p → wpAny (model X.prog X.w) X.A (call (.builtin "repr") [u]) (EP X pins σ Q) X.xe s := by
      intro p ex
      subst ex
      cases ru
      obtain ⟨as, rdr⟩ := Dp.reads I a (.ref p) (.ref p) (ha.dp c1) rfl
      have nd : a.hasDict = false := PyData.hasDict_of_canLay a c1
      refine repr_of_reads' rdr c2 (fun h => by rw [nd] at h; cases h) hg (by omega) (fun _ _ e => e) (fun h' w tk k => q' k) (by rw [sizeLine_eq]; exact c4)
    cases a with
    | none => have := ha.n; subst this; cases ru; exact PySem.P.repr_of_none (q' fun _ _ z => z)
    | bool b =>
      have := ha.b; subst this; cases ru
      exact PySem.P.repr_of_bool (q' (tk := s.toks + 1) fun _ _ z => z)
    | int i =>
      have := ha.i; subst this; obtain ⟨t, rfl⟩ := ru
      exact PySem.P.repr_of_int (by simpa [PyData.showable] using c2) (q' fun _ _ z => z)
    | str i =>
      have := ha.s; subst this; obtain ⟨t, rfl⟩ := ru
      exact PySem.P.repr_of_str (q' fun _ _ z => z) (by rw [sizeLine_eq]; exact c4)
    | list ds => obtain ⟨p, vs, ex, _⟩ := ha.l; exact big ex
    | tuple ds => obtain ⟨p, vs, ex, _⟩ := ha.t; exact big ex
    | dict ds => simp [PyData.canLay0] at c1
  · cases e
end
end Vm
set_option maxRecDepth 100000
set_option maxHeartbeats 4000000
namespace Vm
open PySem PySem.Spec L2
/-! ### from Python's trees to the small language -/
structure Gam where
  N : List Str
  sc : Scope
  /-- the defs: name, parameters -/
  defs : List (Str × List Str)
  /-- the module's constants -/
  cs : List (Str × D)
  /-- built-ins that the module leaves alone -/
  bs : List Str
  /-- calls by keyword: the def, how many positional ones, the names, where each parameter's value stands -/
  kws : List (Str × Nat × List Str × List D × List Nat)
  /-- defs with parameters that go by keyword alone -/
  kwo : List Str
  /-- cells that may be stored to -/
  fn : Str → Bool
  /-- exception classes without fields, that are raised; that are caught; which is caught as which; defs that may let one out -/
  xs : List Str := []
  xc : List Str := []
  xm : List (Str × Str) := []
  rz : List Str := []
  /-- in this def tuple(l) makes a tuple of which it is known how it is laid -/
  pt : Bool := false
  /-- in this def a comprehension over a list in a slot leaves it as it is -/
  kp : Bool := false
  lc : Bool := false
  kf : Bool := false
def Gam.mt (Γ : Gam) (x : Str) : List Str := (Γ.xm.filter fun q => decide (q.2 = x)).map (·.1)
def Gam.vis (Γ : Gam) (x : Str) : Bool := match Γ.sc.names.lookup x with
  | some .local => true
  | some .cell => true
  | some .free => true
  | _ => false
def Gam.loc (Γ : Gam) (x : Str) : Bool := match Γ.sc.names.lookup x with
  | some .local => true
  | _ => false
/-- a name that may be stored to -/
def Gam.st (Γ : Gam) (x : Str) : Bool := match Γ.sc.names.lookup x with
  | some .local => true
  | some .cell => Γ.fn x
  | _ => false
def Gam.gl (Γ : Gam) (x : Str) : Bool := match Γ.sc.names.lookup x with
  | some .globalImplicit => true
  | _ => false
def okName (x : Str) : Bool := x != ("__debug__" : Str) && x != ("__classdict__" : Str) && x != ("__name__" : Str)
def ixOf : List Str → Str → Nat → Option Nat
  | [], _, _ => none
  | y :: r, x, n => if y = x then some n else ixOf r x (n + 1)
def defOf : List (Str × List Str) → Str → Nat → Option (Nat × List Str)
  | [], _, _ => none
  | y :: r, x, n => if y.1 = x then some (n, y.2) else defOf r x (n + 1)
def constD : Const → Option D
  | .none => some .none
  | .bool b => some (.bool b)
  | .int i => some (.int i)
  | .str s => some (.str s)
  | _ => none
def binO : Operator → Option Op
  | .Add => some .add
  | .Sub => some .sub
  | .Mult => some .mul
  | .FloorDiv => some .fdiv
  | .Mod => some .mod
  | .Pow => some .pow
  | _ => none
def cmpO : CmpOp → Option Op
  | .Eq => some .eq
  | .NotEq => some .ne
  | .Lt => some .lt
  | .LtE => some .le
  | .Gt => some .gt
  | .GtE => some .ge
  | .In => some .mem
  | .NotIn => some .nmem
  | _ => none
def noneE : Expr → Bool
  | .Constant .none _ _ => true
  | _ => false
/-- a built-in's operation, by its name and how many values it gets -/
def biT1 : List (Str × Op) := [("len", .len), ("int", .int), ("abs", .abs), ("repr", .repr), ("tuple", .tuple), ("list", .list), ("any", .any), ("all", .all), ("sum", .sum), ("sorted", .sorted), ("max", .max1), ("min", .min1)]
def biT2 : List (Str × Op) := [("max", .max2), ("min", .min2), ("divmod", .divmod)]
def biO (x : Str) : Nat → Option Op
  | 1 => biT1.lookup x
  | 2 => biT2.lookup x
  | _ => none
def Gam.biO (Γ : Gam) (x : Str) (n : Nat) : Option Op := if Γ.pt = true ∧ x = "tuple" ∧ n = 1 then some .ptuple else Vm.biO x n
def tyName (x : Str) : Option String :=
  if x = "int" then some "int" else if x = "bool" then some "bool" else if x = "str" then some "str" else if x = "tuple" then some "tuple" else if x = "list" then some "list" else if x = "dict" then some "dict" else none
def mapO {α β : Type} (g : α → Option β) : List α → Option (List β)
  | [] => some []
  | a :: r => (g a).bind fun b => (mapO g r).bind fun l => some (b :: l)
def optO {α β : Type} (g : α → Option β) : Option α → Option (Option β)
  | none => some none
  | some a => (g a).map some
def kwNames (ks : List Keyword) : List (Option Str) := ks.map (·.arg)
def kwFind : List (Str × Nat × List Str × List D × List Nat) → Str → Nat → List (Option Str) → Option (List D × List Nat)
  | [], _, _, _ => none
  | k :: r, x, n, ks => if k.1 = x ∧ k.2.1 = n ∧ k.2.2.1.map some = ks then some (k.2.2.2.1, k.2.2.2.2) else kwFind r x n ks
mutual
def tgC (Γ : Gam) : Expr → Option Tg
  | .Name x _ => if Γ.st x && okName x then (ixOf Γ.N x 0).map .name else none
  | .Tuple ts _ _ => (tgCs Γ ts).map .tup
  | _ => none
def tgCs (Γ : Gam) : List Expr → Option (List Tg)
  | [] => some []
  | t :: ts => (tgC Γ t).bind fun a => (tgCs Γ ts).bind fun l => some (a :: l)
end
def Gam.blk (Γ : Gam) (scope : Scope) : Gam := { Γ with sc := relS scope Γ.sc, fn := fun x => scope.names.lookup x == some .cell }
/-- a block's own names, with their places -/
def ownC (N : List Str) (scope : Scope) : Option (List (Str × Nat)) :=
  mapO (fun y => (ixOf N y.1 0).map fun i => (y.1, i)) (scope.names.filter fun y => (y.2 == .local || y.2 == .cell) && y.1 != (".0" : Str))
def isTupE : Expr → Bool
  | .Tuple _ _ _ => true
  | _ => false
def notSup : Expr → Bool
  | .Call (.Name _ _) [] [] _ => false
  | _ => true
def m1E : Expr → Bool
  | .UnaryOp .USub (.Constant (.int i) _ _) _ => decide (i = 1)
  | _ => false
def muO (nm : Str) (n : Nat) : Option Mu :=
  if nm = "append" then (if n = 1 then some .append else none) else if nm = "extend" then (if n = 1 then some .extend else none) else if nm = "pop" then (if n = 0 then some .pop0 else none) else none
def meB (nm : Str) (n : Nat) : Bool := meTab.any fun r => decide (Str.ofString r.1.1 = nm) && (r.1.2.2 == n)
/-- what is gone over -/
def itC (Γ : Gam) (g : Expr → Option Ex) (isT : Bool) (e : Expr) : Option It := match e with
  | .Call (.Name x _) es [] _ => if okName x = true ∧ Γ.gl x = true ∧ Γ.bs.contains x = true ∧ (x = "range" ∨ x = "enumerate" ∨ x = "zip") then
      (if x = "range" then (if es.length = 1 ∨ es.length = 2 ∨ es.length = 3 then (mapO g es).map .rng else none)
      else if x = "enumerate" then (match es with
        | [a] => if isT = true then (g a).map .enum else none
        | _ => none)
      else (match es with
        | [a, b] => if isT = true then (g a).bind fun a => (g b).bind fun b => some (.zip a b) else none
        | _ => none))
    else (g e).map .seq
  | .Set _ _ _ => none
  | _ => (g e).map .seq
def starE : Expr → Bool
  | .Starred _ _ => true
  | _ => false
def unstar : Expr → Expr
  | .Starred e _ => e
  | e => e
def Gam.mkLc (Γ : Gam) (t : Tg) (it : It) (ifs : List Ex) (e : Ex) (own : List Nat) : Ex := if Γ.kp = true then (match it with
  | .seq (.v j) => .lck t j ifs e own
  | _ => .lc t it ifs e own) else .lc t it ifs e own
def mxO (x : Str) : Option Op := if x = "max" then some .maxd else if x = "min" then some .mind else none
def comp : Nat → Gam → Expr → Option Ex
  | 0, _, _ => none
  | n + 1, Γ, e => match e with
    | .Constant c _ _ => (constD c).map .k
    | .Name x _ => if okName x = true then (if Γ.vis x = true then (ixOf Γ.N x 0).map .v else if Γ.gl x = true then (Γ.cs.lookup x).map .k else none) else none
    | .BinOp a op b _ => (binO op).bind fun o => (comp n Γ a).bind fun a => (comp n Γ b).bind fun b => some (.op o [a, b])
    | .UnaryOp .Not a _ => (comp n Γ a).map fun a => .op .not [a]
    | .UnaryOp .USub a _ => (comp n Γ a).map fun a => .op .neg [a]
    | .BoolOp _ [a] _ => comp n Γ a
    | .BoolOp .And (a :: b :: r) pos => (comp n Γ a).bind fun a => (comp n Γ (.BoolOp .And (b :: r) pos)).bind fun b => some (.and a b)
    | .BoolOp .Or (a :: b :: r) pos => (comp n Γ a).bind fun a => (comp n Γ (.BoolOp .Or (b :: r) pos)).bind fun b => some (.or a b)
    | .IfExp c a b _ => (comp n Γ c).bind fun c => (comp n Γ a).bind fun a => (comp n Γ b).bind fun b => some (.ife c a b)
    | .Compare a [op] [b] _ =>
      if noneE b = true then (match op with
        | .Is => (comp n Γ a).map fun a => .op .isn [a]
        | .IsNot => (comp n Γ a).map fun a => .op .isnn [a]
        | _ => none)
      else if behindInMarks op b = false then (cmpO op).bind fun o => (comp n Γ a).bind fun a => (comp n Γ b).bind fun b => some (.op o [a, b]) else none
    | .Compare a [op, op'] [b, c] _ => if lastMarks [op, op'] [b, c] = false then (cmpO op).bind fun o => (cmpO op').bind fun o' => (comp n Γ a).bind fun a => (comp n Γ b).bind fun b => (comp n Γ c).bind fun c => some (.ch o o' a b c) else none
    | .Call (.Name x _) es ks _ =>
      if okName x = true ∧ Γ.gl x = true then
        match defOf Γ.defs x 0 with
        | some (g, ps) => (mapO (comp n Γ) es).bind fun es' => match ks with
          | [] => if es.length = ps.length ∧ Γ.kwo.contains x = false then some (.call g es') else (kwFind Γ.kws x es.length []).bind fun q => some (.callk g q.2 (es' ++ ([] ++ q.1.map .k)))
          | _ => (kwFind Γ.kws x es.length (kwNames ks)).bind fun q => (mapO (comp n Γ) (ks.map (·.value))).bind fun ks' => some (.callk g q.2 (es' ++ (ks' ++ q.1.map .k)))
        | none => if Γ.bs.contains x = true ∧ ks.isEmpty = true then
            (if x = "isinstance" then (match es with
              | [a, .Name t _] => if okName t = true ∧ Γ.gl t = true ∧ Γ.bs.contains t = true then (tyName t).bind fun t => (comp n Γ a).bind fun a => some (.op (.isI t) [a]) else none
              | _ => none)
            else (Γ.biO x es.length).bind fun o => (mapO (comp n Γ) es).bind fun es' => some (.op o es')) else (match es, ks with
            | [e], [⟨some k, kv, _⟩] => if Γ.bs.contains x = true ∧ k = "default" then (mxO x).bind fun o => (comp n Γ e).bind fun e' => (comp n Γ kv).bind fun d' => some (.op o [e', d']) else none
            | [a, b], [] => if Γ.lc = true ∧ x = "lcm" then (comp n Γ a).bind fun a' => (comp n Γ b).bind fun b' => some (.op .lcm [a', b']) else none
            | _, _ => none)
      else none
    | .Call (.Attribute o nm ap) es [] cp => if (ap.endLine == cp.line) = true ∧ es.length < 29 ∧ notSup o = true then
        (match muO nm es.length with
        | some mu => (comp n Γ o).bind fun o => (mapO (comp n Γ) es).bind fun es => some (.mu mu o es)
        | none => if meB nm es.length = true then (comp n Γ o).bind fun o => (mapO (comp n Γ) es).bind fun es => some (.me nm o es) else none)
      else none
    | .ListComp elt [⟨tg, iter, ifs, asy⟩] scope _ => if asy = 0 then (ownC Γ.N scope).bind fun own => if blkC Γ.N Γ.sc scope own = true ∧ ifs.length ≤ 1 then
        (tgC (Γ.blk scope) tg).bind fun t => (itC Γ (comp n Γ) (isTupE tg) iter).bind fun it => (mapO (comp n (Γ.blk scope)) ifs).bind fun ifs => (comp n (Γ.blk scope) elt).bind fun e => some (Γ.mkLc t it ifs e (own.map (·.2)))
      else none
      else none
    | .ListComp elt [⟨tg, iter, ifs, asy⟩, ⟨tg1, iter1, ifs1, asy1⟩] scope _ => if asy = 0 ∧ asy1 = 0 then (ownC Γ.N scope).bind fun own => if blkC Γ.N Γ.sc scope own = true ∧ ifs.length ≤ 1 ∧ ifs1.length ≤ 1 then
        (tgC (Γ.blk scope) tg).bind fun t => (itC Γ (comp n Γ) (isTupE tg) iter).bind fun it => (mapO (comp n (Γ.blk scope)) ifs).bind fun ifs => (tgC (Γ.blk scope) tg1).bind fun t1 => (itC (Γ.blk scope) (comp n (Γ.blk scope)) (isTupE tg1) iter1).bind fun it1 =>
          (mapO (comp n (Γ.blk scope)) ifs1).bind fun ifs1 => (comp n (Γ.blk scope) elt).bind fun e => if (tgI t1).all ((own.map (·.2)).contains ·) = true then some (.lc2 t it ifs t1 it1 ifs1 e (own.map (·.2)) (tgI t1)) else none
      else none
      else none
    | .Subscript a i _ => match i with
      | .Slice (some lo) (some hi) none _ => (comp n Γ a).bind fun a => (comp n Γ lo).bind fun lo => (comp n Γ hi).bind fun hi => some (.sl2 a lo hi)
      | .Slice (some lo) none none _ => (comp n Γ a).bind fun a => (comp n Γ lo).bind fun lo => some (.op (.slice true false) [a, lo])
      | .Slice none (some hi) none _ => (comp n Γ a).bind fun a => (comp n Γ hi).bind fun hi => some (.op (.slice false true) [a, hi])
      | .Slice none none none _ => (comp n Γ a).bind fun a => some (.op (.slice false false) [a])
      | .Slice none none (some st) _ => if m1E st = true then (comp n Γ a).bind fun a => some (.op .rev [a]) else none
      | .Slice _ _ _ _ => none
      | _ => (comp n Γ a).bind fun a => (comp n Γ i).bind fun i => some (.op .item [a, i])
    | .Tuple es _ _ => if es.any starE = true then (mapO (fun e => comp n Γ (unstar e)) es).map (.tups (es.map starE)) else (mapO (comp n Γ) es).map .tup
    | .List es _ => (mapO (comp n Γ) es).map .lst
    | .Dict [] [] _ => some (.dct [] [])
    | _ => none
end Vm
set_option maxRecDepth 100000
set_option maxHeartbeats 4000000
namespace Vm
open PySem PySem.Spec L2
/-! ### a call, by data -/
def oadr : List Arg → List V → List V
  | .d _ :: as, _ :: vs => oadr as vs
  | _ :: as, v :: vs => v :: oadr as vs
  | _, _ => []
def radr : List Arg → List V → List Addr
  | .r _ :: as, .ref a :: vs => a :: radr as vs
  | _ :: as, _ :: vs => radr as vs
  | _, _ => []
def ArgR (K : PySem.W.Frag) (L : ASet) (H : Hp) : Arg → V → Prop
  | .d x, v => RdP K L H x v
  | .o o, v => ∃ p, v = .ref p ∧ ObR K L H p o
  | .r o, v => ∃ p, v = .ref p ∧ ObR K L H p o
def ArgsR (K : PySem.W.Frag) (L : ASet) (H : Hp) : List Arg → List V → Prop
  | [], vs => vs = []
  | a :: as, vs => ∃ v r, vs = v :: r ∧ ArgR K L H a v ∧ ArgsR K L H as r
def LA (A : ASet) (args : List Arg) (vs : List V) : ASet := fun a => A a ∨ V.ref a ∈ oadr args vs
/-- what came back of an object that went by reference -/
def OutR (K : PySem.W.Frag) (L : ASet) (H : Hp) : SV → Addr → Prop
  | .no, _ => True
  | .d x, a => Cd K L H x a
  | .own o, a => ObR K L H a o ∧ L a
def OutsR (K : PySem.W.Frag) (L : ASet) (H : Hp) : List SV → List Addr → Prop
  | [], as => as = []
  | u :: us, as => ∃ a r, as = a :: r ∧ OutR K L H u a ∧ OutsR K L H us r
def CallPost (K : PySem.W.Frag) (A : ASet) (args : List Arg) (vs : List V) (H : Hp) (rr : RR) (outs : List SV) (v : V) (H' : Hp) : Prop :=
  ∃ L' : ASet, (∀ a, A a → L' a) ∧ (∀ a, L' a → ∃ o, H' a = some o) ∧ OutsR K L' H' outs (radr args vs) ∧
    (match rr with
      | .d x => RdP K L' H' x v
      | .fr o => ∃ p, v = .ref p ∧ L' p ∧ ¬ A p ∧ p ∉ radr args vs ∧ ObR K L' H' p o
      | .ex _ => v = .non) ∧
    Ext (LA A args vs) H L' H' ∧ ∀ a, A a → H' a = H a
/-- where a call's end goes: a value, an exception by its class's name -/
def endC (mg : Str → Option Value) (Q : VK) (E : XK) : RR → V → Hp → Prop
  | .ex c, _, H' => ∀ cls, mg c = some cls → E cls none H'
  | _, v, H' => Q v H'
def spG (K : PySem.W.Frag) (mg : Str → Option Value) (n : Nat) (g : List Arg → Res (RR × List SV)) : SpG := fun vs H Q E => ∃ A args rr outs, vs.length = n ∧ (∀ a, A a → ∃ o, H a = some o) ∧ ArgsR K (LA A args vs) H args vs ∧
  (oadr args vs).Nodup ∧ (∀ a, V.ref a ∈ oadr args vs → ¬ A a) ∧ g args = .ok (rr, outs) ∧ ∀ v H', CallPost K A args vs H rr outs v H' → endC mg Q E rr v H'
section
variable {K : PySem.W.Frag} {A A' : ASet} {H H' : Hp} {as : List Addr} {σ σ' : L2.St} {f f' : F}
/-- an owned object is taken out of its slot -/
theorem Rel.takeS {i : Nat} {o : Ob} {a : Addr} (R : Rel K A as f σ H) (e : f.ρ[i]? = some (.own o)) (ea : σ[i]? = some (some (.ref a))) :
    Rel K (fun b => A b ∨ b = a) as { f with ρ := f.ρ.set i .no } σ H ∧ ∀ b, Lv (fun b => A b ∨ b = a) { f with ρ := f.ρ.set i .no } as σ b ↔ Lv A f as σ b := by
  have hi := lt_of_get e
  have get : ∀ j, (f.ρ.set i .no)[j]? = if j = i then some .no else f.ρ[j]? := fun j => by
    by_cases h : j = i
    · subst h; rw [if_pos rfl, List.getElem?_set_self hi]
    · rw [if_neg h, List.getElem?_set_ne (Ne.symm h)]
  have get' : ∀ (j : Nat) (l : LV), l ≠ .no → ({ f with ρ := f.ρ.set i .no } : F).ρ[j]? = some l → j ≠ i ∧ f.ρ[j]? = some l := fun j l hl h => by
    have h : (f.ρ.set i .no)[j]? = some l := h
    rw [get] at h
    by_cases q : j = i
    · rw [if_pos q] at h; cases h; exact absurd rfl hl
    · rw [if_neg q] at h; exact ⟨q, h⟩
  have lv : ∀ b, Lv (fun b => A b ∨ b = a) { f with ρ := f.ρ.set i .no } as σ b ↔ Lv A f as σ b := fun b => by
    constructor
    · rintro ((h | h) | ⟨j, o', h1, h2⟩ | h)
      · exact .inl h
      · subst h; exact .inr (.inl ⟨i, o, e, ea⟩)
      · obtain ⟨_, h1⟩ := get' j _ (fun z => by cases z) h1
        exact .inr (.inl ⟨j, o', h1, h2⟩)
      · exact .inr (.inr h)
    · rintro (h | ⟨j, o', h1, h2⟩ | h)
      · exact .inl (.inl h)
      · by_cases q : j = i
        · subst q
          rw [ea] at h2; cases h2
          exact .inl (.inr rfl)
        · refine .inr (.inl ⟨j, o', ?_, h2⟩)
          show (f.ρ.set i .no)[j]? = _
          rw [get, if_neg q]; exact h1
      · exact .inr (.inr h)
  have x : Ext (Lv A f as σ) H (Lv (fun b => A b ∨ b = a) { f with ρ := f.ρ.set i .no } as σ) H := Ext.less fun b h => (lv b).mp h
  refine ⟨⟨?_, R.lenS, fun j y h => ?_, fun j o' h => ?_, fun j n h => ?_, fun n y b h h' => (R.cd n y b h h').ext x, fun n o' b h h' => ?_, fun j k b o1 o2 h1 h2 => ?_, fun j n b o1 o2 h1 => ?_, R.i3, fun b h => ?_⟩, lv⟩
  · show _ = (f.ρ.set i .no).length
    rw [List.length_set]; exact R.lenσ
  · obtain ⟨_, h⟩ := get' j _ (fun z => by cases z) h
    obtain ⟨v, h1, h2⟩ := R.sd j y h
    exact ⟨v, h1, h2.ext x⟩
  · obtain ⟨q, h⟩ := get' j _ (fun z => by cases z) h
    obtain ⟨b, h1, h2, h3⟩ := R.so j o' h
    refine ⟨b, h1, h2.ext x rfl, ?_⟩
    rintro (z | z)
    · exact h3 z
    · subst z; exact q (R.i1 j i b o' o h e h1 ea)
  · obtain ⟨_, h⟩ := get' j _ (fun z => by cases z) h
    exact R.sc j n h
  · obtain ⟨h1, h2⟩ := R.co n o' b h h'
    refine ⟨h1.ext x rfl, ?_⟩
    rintro (z | z)
    · exact h2 z
    · subst z; exact R.i2 i n b o o' e h ea h'
  · obtain ⟨_, h1⟩ := get' j _ (fun z => by cases z) h1
    obtain ⟨_, h2⟩ := get' k _ (fun z => by cases z) h2
    exact R.i1 j k b o1 o2 h1 h2
  · obtain ⟨_, h1⟩ := get' j _ (fun z => by cases z) h1
    exact R.i2 j n b o1 o2 h1
  · rcases h with h | h
    · exact R.al b h
    · subst h; exact R.own_some (.inl ⟨i, o, e, ea⟩)
/-- .. out of its place among the arguments -/
theorem Rel.takeC {n : Nat} {o : Ob} {a : Addr} (R : Rel K A as f σ H) (e : f.S[n]? = some (.own o)) (ea : as[n]? = some a) :
    Rel K (fun b => A b ∨ b = a) as { f with S := f.S.set n .no } σ H ∧ ∀ b, Lv (fun b => A b ∨ b = a) { f with S := f.S.set n .no } as σ b ↔ Lv A f as σ b := by
  have hi := lt_of_get e
  have get : ∀ j, (f.S.set n .no)[j]? = if j = n then some .no else f.S[j]? := fun j => by
    by_cases h : j = n
    · subst h; rw [if_pos rfl, List.getElem?_set_self hi]
    · rw [if_neg h, List.getElem?_set_ne (Ne.symm h)]
  have get' : ∀ (j : Nat) (l : SV), l ≠ .no → ({ f with S := f.S.set n .no } : F).S[j]? = some l → j ≠ n ∧ f.S[j]? = some l := fun j l hl h => by
    have h : (f.S.set n .no)[j]? = some l := h
    rw [get] at h
    by_cases q : j = n
    · rw [if_pos q] at h; cases h; exact absurd rfl hl
    · rw [if_neg q] at h; exact ⟨q, h⟩
  have lv : ∀ b, Lv (fun b => A b ∨ b = a) { f with S := f.S.set n .no } as σ b ↔ Lv A f as σ b := fun b => by
    constructor
    · rintro ((h | h) | h | ⟨j, o', h1, h2⟩)
      · exact .inl h
      · subst h; exact .inr (.inr ⟨n, o, e, ea⟩)
      · exact .inr (.inl h)
      · obtain ⟨_, h1⟩ := get' j _ (fun z => by cases z) h1
        exact .inr (.inr ⟨j, o', h1, h2⟩)
    · rintro (h | h | ⟨j, o', h1, h2⟩)
      · exact .inl (.inl h)
      · exact .inr (.inl h)
      · by_cases q : j = n
        · subst q
          rw [ea] at h2; cases h2
          exact .inl (.inr rfl)
        · refine .inr (.inr ⟨j, o', ?_, h2⟩)
          show (f.S.set n .no)[j]? = _
          rw [get, if_neg q]; exact h1
  have x : Ext (Lv A f as σ) H (Lv (fun b => A b ∨ b = a) { f with S := f.S.set n .no } as σ) H := Ext.less fun b h => (lv b).mp h
  refine ⟨⟨R.lenσ, ?_, fun j y h => ?_, fun j o' h => ?_, R.sc, fun m y b h h' => ?_, fun m o' b h h' => ?_, R.i1, fun j m b o1 o2 h1 h2 => ?_, fun m k b o1 o2 h1 h2 => ?_, fun b h => ?_⟩, lv⟩
  · show _ = (f.S.set n .no).length
    rw [List.length_set]; exact R.lenS
  · obtain ⟨v, h1, h2⟩ := R.sd j y h
    exact ⟨v, h1, h2.ext x⟩
  · obtain ⟨b, h1, h2, h3⟩ := R.so j o' h
    refine ⟨b, h1, h2.ext x rfl, ?_⟩
    rintro (z | z)
    · exact h3 z
    · subst z; exact R.i2 j n b o' o h e h1 ea
  · obtain ⟨_, h⟩ := get' m _ (fun z => by cases z) h
    exact (R.cd m y b h h').ext x
  · obtain ⟨q, h⟩ := get' m _ (fun z => by cases z) h
    obtain ⟨h1, h2⟩ := R.co m o' b h h'
    refine ⟨h1.ext x rfl, ?_⟩
    rintro (z | z)
    · exact h2 z
    · subst z; exact q (R.i3 m n b o' o h e h' ea)
  · obtain ⟨_, h2⟩ := get' m _ (fun z => by cases z) h2
    exact R.i2 j m b o1 o2 h1 h2
  · obtain ⟨_, h1⟩ := get' m _ (fun z => by cases z) h1
    obtain ⟨_, h2⟩ := get' k _ (fun z => by cases z) h2
    exact R.i3 m k b o1 o2 h1 h2
  · rcases h with h | h
    · exact R.al b h
    · subst h; exact R.own_some (.inr ⟨n, o, e, ea⟩)
/-- a place holds an owned object at a -/
def LocAt (f : F) (as : List Addr) (σ : L2.St) : Loc → Addr → Prop
  | .inl i, a => ∃ o, f.ρ[i]? = some (.own o) ∧ σ[i]? = some (some (.ref a))
  | .inr n, a => ∃ o, f.S[n]? = some (.own o) ∧ as[n]? = some a
theorem LocAt.own {l : Loc} {a : Addr} (h : LocAt f as σ l a) : Own f as σ a := by
  cases l with
  | inl i => obtain ⟨o, h⟩ := h; exact .inl ⟨i, o, h⟩
  | inr n => obtain ⟨o, h⟩ := h; exact .inr ⟨n, o, h⟩
theorem LocAt.inj {l l' : Loc} {a : Addr} (R : Rel K A as f σ H) (h : LocAt f as σ l a) (h' : LocAt f as σ l' a) : l = l' := by
  cases l with
  | inl i =>
    obtain ⟨o, h1, h2⟩ := h
    cases l' with
    | inl j => obtain ⟨o', h3, h4⟩ := h'; rw [R.i1 i j a o o' h1 h3 h2 h4]
    | inr n => obtain ⟨o', h3, h4⟩ := h'; exact (R.i2 i n a o o' h1 h3 h2 h4).elim
  | inr n =>
    obtain ⟨o, h1, h2⟩ := h
    cases l' with
    | inl j => obtain ⟨o', h3, h4⟩ := h'; exact (R.i2 j n a o' o h3 h1 h4 h2).elim
    | inr m => obtain ⟨o', h3, h4⟩ := h'; rw [R.i3 n m a o o' h1 h3 h2 h4]
theorem LocAt.clr {l l' : Loc} {a : Addr} (h : LocAt f as σ l' a) (n : l ≠ l') : LocAt (clr1 f l) as σ l' a := by
  cases l with
  | inl i =>
    cases l' with
    | inl j =>
      obtain ⟨o, h1, h2⟩ := h
      refine ⟨o, ?_, h2⟩
      show (f.ρ.set i .no)[j]? = _
      rw [List.getElem?_set_ne (fun z => n (by rw [z]))]; exact h1
    | inr m => exact h
  | inr m =>
    cases l' with
    | inl j => exact h
    | inr k =>
      obtain ⟨o, h1, h2⟩ := h
      refine ⟨o, ?_, h2⟩
      show (f.S.set m .no)[k]? = _
      rw [List.getElem?_set_ne (fun z => n (by rw [z]))]; exact h1
/-- places and their addresses -/
def LocsAt (f : F) (as : List Addr) (σ : L2.St) : List Loc → List Addr → Prop
  | [], xs => xs = []
  | l :: ls, xs => ∃ a r, xs = a :: r ∧ LocAt f as σ l a ∧ LocsAt f as σ ls r
theorem LocsAt.clr {l : Loc} : ∀ {ls : List Loc} {xs : List Addr}, LocsAt f as σ ls xs → l ∉ ls → LocsAt (clr1 f l) as σ ls xs
  | [], _, h, _ => h
  | l' :: ls, _, ⟨a, r, e, h1, h2⟩, n => ⟨a, r, e, h1.clr fun z => n (by rw [z]; exact List.mem_cons_self ..), LocsAt.clr h2 fun z => n (List.mem_cons_of_mem _ z)⟩
theorem Rel.take1 {l : Loc} {a : Addr} (R : Rel K A as f σ H) (h : LocAt f as σ l a) : Rel K (fun b => A b ∨ b = a) as (clr1 f l) σ H ∧ ∀ b, Lv (fun b => A b ∨ b = a) (clr1 f l) as σ b ↔ Lv A f as σ b := by
  cases l with
  | inl i => obtain ⟨o, h1, h2⟩ := h; exact R.takeS h1 h2
  | inr n => obtain ⟨o, h1, h2⟩ := h; exact R.takeC h1 h2
theorem Rel.take : ∀ {ls : List Loc} {xs : List Addr} {A : ASet} {f : F}, Rel K A as f σ H → LocsAt f as σ ls xs → ls.Nodup →
    Rel K (fun b => A b ∨ b ∈ xs) as (clr f ls) σ H ∧ ∀ b, Lv (fun b => A b ∨ b ∈ xs) (clr f ls) as σ b ↔ Lv A f as σ b
  | [], _, A, f, R, h, _ => by
    have h : _ = [] := h
    subst h
    have e : (fun b => A b ∨ b ∈ ([] : List Addr)) = A := by funext b; simp
    rw [e]
    exact ⟨R, fun _ => Iff.rfl⟩
  | l :: ls, _, A, f, R, ⟨a, r, e, h1, h2⟩, nd => by
    subst e
    obtain ⟨n1, n2⟩ := List.nodup_cons.mp nd
    obtain ⟨R1, q1⟩ := R.take1 h1
    obtain ⟨R2, q2⟩ := Rel.take R1 (h2.clr n1) n2
    have e : (fun b => (A b ∨ b = a) ∨ b ∈ r) = fun b => A b ∨ b ∈ a :: r := by funext b; simp [or_assoc]
    rw [e] at R2 q2
    exact ⟨R2, fun b => (q2 b).trans (q1 b)⟩
theorem Rel.putC {n : Nat} {u : SV} {a : Addr} (R : Rel K A as f σ H) (e : f.S[n]? = some .no) (ea : as[n]? = some a)
    (h : match u with
      | .no => True
      | .d x => Cd K (Lv A f as σ) H x a
      | .own o => ObR K (Lv A f as σ) H a o ∧ A a) :
    Rel K (fun b => A b ∧ b ≠ a) as { f with S := f.S.set n u } σ H ∧ ∀ b, Lv (fun b => A b ∧ b ≠ a) { f with S := f.S.set n u } as σ b → Lv A f as σ b := by
  have hi := lt_of_get e
  have get : ∀ j, (f.S.set n u)[j]? = if j = n then some u else f.S[j]? := fun j => by
    by_cases h : j = n
    · subst h; rw [if_pos rfl, List.getElem?_set_self hi]
    · rw [if_neg h, List.getElem?_set_ne (Ne.symm h)]
  have lv : ∀ b, Lv (fun b => A b ∧ b ≠ a) { f with S := f.S.set n u } as σ b → Lv A f as σ b := fun b => by
    rintro (h' | h' | ⟨j, o', h1, h2⟩)
    · exact .inl h'.1
    · exact .inr (.inl h')
    · have h1 : (f.S.set n u)[j]? = some (.own o') := h1
      rw [get] at h1
      by_cases q : j = n
      · rw [if_pos q] at h1; cases h1
        subst q
        rw [ea] at h2; cases h2
        exact .inl h.2
      · rw [if_neg q] at h1
        exact .inr (.inr ⟨j, o', h1, h2⟩)
  have x : Ext (Lv A f as σ) H (Lv (fun b => A b ∧ b ≠ a) { f with S := f.S.set n u } as σ) H := Ext.less lv
  refine ⟨⟨R.lenσ, ?_, fun j y h => ?_, fun j o' h => ?_, R.sc, fun m y b h1 h2 => ?_, fun m o' b h1 h2 => ?_, R.i1, fun j m b o1 o2 h1 h2 h3 h4 => ?_, fun m k b o1 o2 h1 h2 h3 h4 => ?_, fun b h => R.al b h.1⟩, lv⟩
  · show _ = (f.S.set n u).length
    rw [List.length_set]; exact R.lenS
  · obtain ⟨v, h1, h2⟩ := R.sd j y h
    exact ⟨v, h1, h2.ext x⟩
  · obtain ⟨b, h1, h2, h3⟩ := R.so j o' h
    exact ⟨b, h1, h2.ext x rfl, fun z => h3 z.1⟩
  · have h1 : (f.S.set n u)[m]? = some (.d y) := h1
    rw [get] at h1
    by_cases q : m = n
    · rw [if_pos q] at h1; cases h1
      subst q
      rw [ea] at h2; cases h2
      exact Cd.ext x h
    · rw [if_neg q] at h1
      exact (R.cd m y b h1 h2).ext x
  · have h1 : (f.S.set n u)[m]? = some (.own o') := h1
    rw [get] at h1
    by_cases q : m = n
    · rw [if_pos q] at h1; cases h1
      subst q
      rw [ea] at h2; cases h2
      exact ⟨h.1.ext x rfl, fun z => z.2 rfl⟩
    · rw [if_neg q] at h1
      obtain ⟨q1, q2⟩ := R.co m o' b h1 h2
      exact ⟨q1.ext x rfl, fun z => q2 z.1⟩
  · have h2 : (f.S.set n u)[m]? = some (.own o2) := h2
    rw [get] at h2
    by_cases q : m = n
    · rw [if_pos q] at h2; cases h2
      subst q
      rw [ea] at h4; cases h4
      exact R.nA (.inl ⟨j, o1, h1, h3⟩) h.2
    · rw [if_neg q] at h2
      exact R.i2 j m b o1 o2 h1 h2 h3 h4
  · have g1 : (f.S.set n u)[m]? = some (.own o1) := h1
    have g2 : (f.S.set n u)[k]? = some (.own o2) := h2
    rw [get] at g1 g2
    clear h1 h2
    by_cases q : m = n
    · by_cases q' : k = n
      · rw [q, q']
      · exfalso
        rw [if_pos q] at g1; cases g1
        rw [if_neg q'] at g2
        subst q
        rw [ea] at h3; cases h3
        exact R.nA (.inr ⟨k, o2, g2, h4⟩) h.2
    · rw [if_neg q] at g1
      by_cases q' : k = n
      · exfalso
        rw [if_pos q'] at g2; cases g2
        subst q'
        rw [ea] at h4; cases h4
        exact R.nA (.inr ⟨m, o1, g1, h3⟩) h.2
      · rw [if_neg q'] at g2
        exact R.i3 m k b o1 o2 g1 g2 h3 h4
/-- a place that is empty, and the address that it had -/
def EmptyAt (f : F) (as : List Addr) (σ : L2.St) : Loc → Addr → Prop
  | .inl i, a => f.ρ[i]? = some .no ∧ σ[i]? = some (some (.ref a))
  | .inr n, a => f.S[n]? = some .no ∧ as[n]? = some a
def EmptyAts (f : F) (as : List Addr) (σ : L2.St) : List Loc → List Addr → Prop
  | [], xs => xs = []
  | l :: ls, xs => ∃ a r, xs = a :: r ∧ EmptyAt f as σ l a ∧ EmptyAts f as σ ls r
theorem Rel.putL {l : Loc} {u : SV} {a : Addr} (R : Rel K A as f σ H) (e : EmptyAt f as σ l a)
    (h : match u with
      | .no => True
      | .d x => Cd K (Lv A f as σ) H x a
      | .own o => ObR K (Lv A f as σ) H a o ∧ A a) :
    Rel K (fun b => A b ∧ b ≠ a) as (put1 f l u) σ H ∧ ∀ b, Lv (fun b => A b ∧ b ≠ a) (put1 f l u) as σ b → Lv A f as σ b := by
  cases l with
  | inr n => exact R.putC e.1 e.2 h
  | inl i =>
    obtain ⟨e1, e2⟩ := e
    have hn : SlotNew K A (fun b => A b ∧ b ≠ a) as f σ σ H H i u.lv := by
      cases u with
      | no => exact True.intro
      | d x => exact ⟨_, e2, .inl (Rd.ext (Ext.less fun b z => z.1) h.1)⟩
      | own o => exact ⟨a, e2, h.1, fun z => z.2 rfl, .inl h.2⟩
    obtain ⟨R1, x1⟩ := R.setSlot (i := i) (l := u.lv) (σ' := σ) (A' := fun b => A b ∧ b ≠ a) (H' := H) (lt_of_get e1) (fun _ _ => rfl) rfl (fun _ z => z.1) (fun _ _ _ => rfl) (fun _ _ e _ => e) (fun b z => R.al b z.1) hn
    refine ⟨R1, fun b => ?_⟩
    rintro (z | ⟨j, o', z1, z2⟩ | z)
    · exact .inl z.1
    · have z1 : (f.ρ.set i u.lv)[j]? = some (.own o') := z1
      by_cases q : j = i
      · subst q
        rw [List.getElem?_set_self (lt_of_get e1)] at z1
        rw [e2] at z2; cases z2
        cases u with
        | no => cases z1
        | d x => cases z1
        | own o => exact .inl h.2
      · rw [List.getElem?_set_ne (Ne.symm q)] at z1
        exact .inr (.inl ⟨j, o', z1, z2⟩)
    · exact .inr (.inr z)
theorem EmptyAt.put {l l' : Loc} {u : SV} {a : Addr} (h : EmptyAt f as σ l' a) (n : l ≠ l') : EmptyAt (put1 f l u) as σ l' a := by
  cases l with
  | inl i =>
    cases l' with
    | inl j =>
      refine ⟨?_, h.2⟩
      show (f.ρ.set i u.lv)[j]? = _
      rw [List.getElem?_set_ne (fun z => n (by rw [z]))]; exact h.1
    | inr m => exact h
  | inr m =>
    cases l' with
    | inl j => exact h
    | inr k =>
      refine ⟨?_, h.2⟩
      show (f.S.set m u)[k]? = _
      rw [List.getElem?_set_ne (fun z => n (by rw [z]))]; exact h.1
theorem EmptyAts.put {l : Loc} {u : SV} : ∀ {ls : List Loc} {xs : List Addr}, EmptyAts f as σ ls xs → l ∉ ls → EmptyAts (put1 f l u) as σ ls xs
  | [], _, h, _ => h
  | l' :: ls, _, ⟨a, r, e, h1, h2⟩, n => ⟨a, r, e, h1.put fun z => n (by rw [z]; exact List.mem_cons_self ..), EmptyAts.put h2 fun z => n (List.mem_cons_of_mem _ z)⟩
theorem EmptyAt.clr {l l' : Loc} {a : Addr} (h : EmptyAt f as σ l' a) : EmptyAt (clr1 f l) as σ l' a := by
  cases l with
  | inl i =>
    cases l' with
    | inl j =>
      refine ⟨?_, h.2⟩
      show (f.ρ.set i .no)[j]? = _
      by_cases q : i = j
      · subst q; rw [List.getElem?_set_self (lt_of_get h.1)]
      · rw [List.getElem?_set_ne q]; exact h.1
    | inr m => exact h
  | inr m =>
    cases l' with
    | inl j => exact h
    | inr k =>
      refine ⟨?_, h.2⟩
      show (f.S.set m .no)[k]? = _
      by_cases q : m = k
      · subst q; rw [List.getElem?_set_self (lt_of_get h.1)]
      · rw [List.getElem?_set_ne q]; exact h.1
theorem EmptyAt.clrs {l' : Loc} {a : Addr} : ∀ {ls : List Loc} {f : F}, EmptyAt f as σ l' a → EmptyAt (Vm.clr f ls) as σ l' a
  | [], _, h => h
  | _ :: ls, _, h => EmptyAt.clrs (ls := ls) h.clr
theorem LocAt.empty {l : Loc} {a : Addr} (h : LocAt f as σ l a) : EmptyAt (clr1 f l) as σ l a := by
  cases l with
  | inl i =>
    obtain ⟨o, h1, h2⟩ := h
    exact ⟨by show (f.ρ.set i .no)[i]? = _; rw [List.getElem?_set_self (lt_of_get h1)], h2⟩
  | inr n =>
    obtain ⟨o, h1, h2⟩ := h
    exact ⟨by show (f.S.set n .no)[n]? = _; rw [List.getElem?_set_self (lt_of_get h1)], h2⟩
theorem LocsAt.empty : ∀ {ls : List Loc} {xs : List Addr} {f : F}, LocsAt f as σ ls xs → ls.Nodup → EmptyAts (Vm.clr f ls) as σ ls xs
  | [], _, _, h, _ => h
  | l :: ls, _, f, ⟨a, r, e, h1, h2⟩, nd => by
    obtain ⟨n1, n2⟩ := List.nodup_cons.mp nd
    exact ⟨a, r, e, h1.empty.clrs, LocsAt.empty (h2.clr n1) n2⟩
/-- all of them come back -/
theorem putB_ok {L' : ASet} : ∀ {ls : List Loc} {us : List SV} {xs : List Addr} {A : ASet} {f f2 : F}, Rel K A as f σ H → EmptyAts f as σ ls xs → ls.Nodup → (∀ b, Lv A f as σ b → L' b) → OutsR K L' H us xs →
    (∀ b, L' b → b ∈ xs → A b) → xs.Nodup → putB f ls us = some f2 → Rel K (fun b => A b ∧ b ∉ xs) as f2 σ H ∧ ∀ b, Lv (fun b => A b ∧ b ∉ xs) f2 as σ b → Lv A f as σ b
  | [], [], _, A, f, f2, R, he, _, _, _, _, _, e => by
    have he : _ = [] := he
    subst he
    cases e
    have e : (fun b => A b ∧ b ∉ ([] : List Addr)) = A := by funext b; simp
    rw [e]
    exact ⟨R, fun _ z => z⟩
  | [], _ :: _, _, _, _, _, _, _, _, _, _, _, _, e => by cases e
  | _ :: _, [], _, _, _, _, _, _, _, _, _, _, _, e => by cases e
  | l :: ls, u :: us, _, A, f, f2, R, ⟨a, r, e0, h1, h2⟩, nd, hL, ⟨a', r', e0', o1, o2⟩, hA, hx, e => by
    subst e0
    cases e0'
    obtain ⟨n1, n2⟩ := List.nodup_cons.mp nd
    obtain ⟨x1, x2⟩ := List.nodup_cons.mp hx
    have back : Ext L' H (Lv A f as σ) H := Ext.less hL
    obtain ⟨R1, q1⟩ := R.putL (u := u) h1 (by
      cases u with
      | no => exact True.intro
      | d x => exact Cd.ext back o1
      | own o => exact ⟨o1.1.ext back rfl, hA a o1.2 (List.mem_cons_self ..)⟩)
    obtain ⟨R2, q2⟩ := putB_ok (L' := L') R1 (h2.put n1) n2 (fun b z => hL b (q1 b z)) o2 (fun b z hb => ⟨hA b z (List.mem_cons_of_mem _ hb), fun zz => x1 (by rw [← zz]; exact hb)⟩) x2 e
    have e' : (fun b => (A b ∧ b ≠ a) ∧ b ∉ r) = fun b => A b ∧ b ∉ a :: r := by funext b; simp [and_assoc]
    rw [e'] at R2 q2
    exact ⟨R2, fun b z => q1 b (q2 b z)⟩
end
end Vm
set_option maxRecDepth 100000
set_option maxHeartbeats 4000000
namespace Vm
open PySem PySem.Spec L2
section
variable {K : PySem.W.Frag} {A A' : ASet} {H H' : Hp} {as : List Addr} {σ σ' : L2.St} {f f' : F}
theorem toArgs_cons {r : RV} {rs : List RV} {args : List Arg} (e : toArgs f (r :: rs) = some args) : ∃ a l, toArg f r = some a ∧ toArgs f rs = some l ∧ args = a :: l := by
  unfold toArgs at e
  cases q : toArg f r with
  | none => rw [q] at e; cases e
  | some a =>
    rw [q] at e
    cases q2 : toArgs f rs with
    | none => simp [q2] at e
    | some l => simp only [q2, Option.bind_some] at e; cases e; exact ⟨a, l, rfl, rfl, rfl⟩
/-- one argument: what it is to its value; owned ones by their place -/
theorem arg_ok {r : RV} {v : V} {a : Arg} {A0 : ASet} (R : Rel K A as f σ H) (h : RVR K (Lv A f as σ) A as σ H r v) (e : toArg f r = some a) :
    (∃ x, a = .d x ∧ RdP K (Lv A f as σ) H x v ∧ (∀ rs, locs f (r :: rs) = locs f rs) ∧ ∀ rs ws, frs (r :: rs) (v :: ws) = frs rs ws) ∨
    (∃ o p, r = .fr o ∧ a = .o o ∧ v = .ref p ∧ A p ∧ ObR K (Lv A f as σ) H p o ∧ ∀ rs, locs f (r :: rs) = locs f rs) ∨
    (∃ o p l, a = .r o ∧ v = .ref p ∧ LocAt f as σ l p ∧ ObR K (Lv A f as σ) H p o ∧ (∀ rs, locs f (r :: rs) = l :: locs f rs) ∧ ∀ rs ws, frs (r :: rs) (v :: ws) = frs rs ws) := by
  cases r with
  | d x => cases e; exact .inl ⟨x, rfl, h, fun _ => rfl, fun _ _ => rfl⟩
  | fr o =>
    cases e
    obtain ⟨p, e1, e2, e3⟩ := h
    exact .inr (.inl ⟨o, p, rfl, rfl, e1, e2, e3, fun _ => rfl⟩)
  | vr i =>
    obtain ⟨p, e1, e2⟩ := h
    subst e1
    unfold toArg at e; dsimp only at e
    cases q : f.ρ[i]? with
    | none => rw [q] at e; cases e
    | some l =>
      rw [q] at e
      cases l with
      | no => cases e
      | c n => cases e
      | d x =>
        cases e
        obtain ⟨w, h1, h2⟩ := R.sd i x q
        rw [e2] at h1; cases h1
        exact .inl ⟨x, rfl, h2, fun rs => by show (match f.ρ[i]? with | some (.own _) => _ | _ => _) = _; rw [q], fun _ _ => rfl⟩
      | own o =>
        cases e
        obtain ⟨w, h1, h2, _⟩ := R.so i o q
        rw [e2] at h1; cases h1
        exact .inr (.inr ⟨o, p, .inl i, rfl, rfl, ⟨o, q, e2⟩, h2, fun rs => by show (match f.ρ[i]? with | some (.own _) => _ | _ => _) = _; rw [q], fun _ _ => rfl⟩)
  | ce n =>
    obtain ⟨p, e1, e2⟩ := h
    subst e1
    unfold toArg at e; dsimp only at e
    cases q : f.S[n]? with
    | none => rw [q] at e; cases e
    | some l =>
      rw [q] at e
      cases l with
      | no => cases e
      | d x => cases e; exact .inl ⟨x, rfl, .inl (R.cd n x p q e2).1, fun rs => by show (match f.S[n]? with | some (.own _) => _ | _ => _) = _; rw [q], fun _ _ => rfl⟩
      | own o =>
        cases e
        exact .inr (.inr ⟨o, p, .inr n, rfl, rfl, ⟨o, q, e2⟩, (R.co n o p q e2).1, fun rs => by show (match f.S[n]? with | some (.own _) => _ | _ => _) = _; rw [q], fun _ _ => rfl⟩)
theorem args_ok (R : Rel K A as f σ H) : ∀ {rvs : List RV} {vs : List V} {args : List Arg}, RVRs K (Lv A f as σ) A as σ H rvs vs → toArgs f rvs = some args → (frs rvs vs).Nodup → (locs f rvs).Nodup →
    ArgsR K (Lv A f as σ) H args vs ∧ LocsAt f as σ (locs f rvs) (radr args vs) ∧ (∀ w, w ∈ oadr args vs → w ∈ frs rvs vs ∨ ∃ a ∈ radr args vs, w = .ref a) ∧ (∀ a ∈ radr args vs, V.ref a ∈ oadr args vs ∧ ∃ l ∈ locs f rvs, LocAt f as σ l a) ∧ (oadr args vs).Nodup ∧ (radr args vs).Nodup ∧
      (∀ w ∈ frs rvs vs, w ∈ oadr args vs)
  | [], _, _, h, e, _, _ => by
    have h : _ = [] := h
    subst h
    cases e
    exact ⟨rfl, rfl, fun w h => by simp [oadr] at h, fun w h => by simp [radr] at h, List.nodup_nil, List.nodup_nil, fun w h => by simp [frs] at h⟩
  | r :: rs, _, args, ⟨v, ws, e0, h1, h2⟩, e, nd, nl => by
    subst e0
    obtain ⟨a, l, q1, q2, rfl⟩ := toArgs_cons e
    rcases arg_ok (A0 := A) R h1 q1 with ⟨x, rfl, hx, hl, hf⟩ | ⟨o, p, rfl, rfl, rfl, hp, ho, hl⟩ | ⟨o, p, lc, rfl, rfl, hlc, ho, hl, hf⟩
    · rw [hl] at nl
      rw [hf] at nd
      obtain ⟨g1, g2, g3, g4, g5, g6, g7⟩ := args_ok R h2 q2 nd nl
      have er : radr (.d x :: l) (v :: ws) = radr l ws := by cases v <;> rfl
      rw [hl, er, hf]
      exact ⟨⟨v, ws, rfl, hx, g1⟩, g2, g3, g4, g5, g6, g7⟩
    · rw [hl] at nl
      obtain ⟨n1, n2⟩ := List.nodup_cons.mp (show (V.ref p :: frs rs ws).Nodup from nd)
      obtain ⟨g1, g2, g3, g4, g5, g6, g7⟩ := args_ok R h2 q2 n2 nl
      rw [hl]
      refine ⟨⟨_, ws, rfl, ⟨p, rfl, ho⟩, g1⟩, g2, fun w hw => ?_, fun b hb => ⟨List.mem_cons_of_mem _ (g4 b hb).1, (g4 b hb).2⟩, List.nodup_cons.mpr ⟨fun z => ?_, g5⟩, g6, fun w hw => ?_⟩
      · rcases List.mem_cons.mp (show w ∈ V.ref p :: oadr l ws from hw) with z | z
        · exact .inl (by rw [z]; exact List.mem_cons_self ..)
        · exact (g3 w z).imp (fun z => List.mem_cons_of_mem _ z) id
      · rcases g3 _ z with z | ⟨b, hb, z⟩
        · exact n1 z
        · cases z
          obtain ⟨l', _, hl'⟩ := (g4 p hb).2
          exact R.nA hl'.own hp
      · rcases List.mem_cons.mp (show w ∈ V.ref p :: frs rs ws from hw) with z | z
        · rw [z]; exact List.mem_cons_self ..
        · exact List.mem_cons_of_mem _ (g7 w z)
    · rw [hl] at nl
      rw [hf] at nd
      obtain ⟨n1, n2⟩ := List.nodup_cons.mp nl
      obtain ⟨g1, g2, g3, g4, g5, g6, g7⟩ := args_ok R h2 q2 nd n2
      rw [hl, hf]
      refine ⟨⟨_, ws, rfl, ⟨p, rfl, ho⟩, g1⟩, ⟨p, _, rfl, hlc, g2⟩, fun w hw => ?_, fun b hb => ?_, List.nodup_cons.mpr ⟨fun z => ?_, g5⟩, List.nodup_cons.mpr ⟨fun z => ?_, g6⟩, fun w hw => List.mem_cons_of_mem _ (g7 w hw)⟩
      · rcases List.mem_cons.mp (show w ∈ V.ref p :: oadr l ws from hw) with z | z
        · exact .inr ⟨p, List.mem_cons_self .., z⟩
        · exact (g3 w z).imp id fun ⟨b, hb, z⟩ => ⟨b, List.mem_cons_of_mem _ hb, z⟩
      · rcases List.mem_cons.mp (show b ∈ p :: radr l ws from hb) with z | z
        · subst z; exact ⟨List.mem_cons_self .., lc, List.mem_cons_self .., hlc⟩
        · obtain ⟨z1, l', z2, z3⟩ := g4 b z
          exact ⟨List.mem_cons_of_mem _ z1, l', List.mem_cons_of_mem _ z2, z3⟩
      · rcases g3 _ z with z | ⟨b, hb, z⟩
        · obtain ⟨b, e, hb⟩ := frs_sub h2 z
          cases e
          exact R.nA hlc.own hb
        · cases z
          obtain ⟨l', m, hl'⟩ := (g4 p hb).2
          rw [LocAt.inj R hlc hl'] at n1
          exact n1 m
      · obtain ⟨l', m, hl'⟩ := (g4 p z).2
        rw [LocAt.inj R hlc hl'] at n1
        exact n1 m
theorem ArgsR.ext {L L' : ASet} (x : Ext L H L' H) : ∀ {args : List Arg} {vs : List V}, ArgsR K L H args vs → ArgsR K L' H args vs
  | [], _, h => h
  | a :: as, _, ⟨v, r, e, h1, h2⟩ => by
    refine ⟨v, r, e, ?_, ArgsR.ext x h2⟩
    cases a with
    | d y => exact RdP.ext x h1
    | o o => obtain ⟨p, e, q⟩ := h1; exact ⟨p, e, q.ext x rfl⟩
    | r o => obtain ⟨p, e, q⟩ := h1; exact ⟨p, e, q.ext x rfl⟩
/-- THE CALL, from the caller's side -/
theorem call_okX {mg : Str → Option Value} {G : Call} {g n : Nat} {rvs : List RV} {vs : List V} {f0 f1 f2 : F} {H1 : Hp} {rr : RR} {Q : VK} {E : XK} (p : PostA K A as f0 σ H rvs f1 vs H1) (e : doCallR G g f1 rvs = .ok (rr, f2)) (hn : vs.length = n)
    (hQ : ∀ v H2, Post K A as f0 σ H rr.rv f2 v H2 → endC mg Q E rr v H2) : spG K mg n (G g) vs H1 Q E := by
  obtain ⟨A1, s, R1, rs, fo, x, k⟩ := p
  unfold doCallR at e
  obtain ⟨args, e1, e⟩ := bind_ok e
  have e1 := ofOpt_ok e1
  split at e
  · rename_i nl
    obtain ⟨⟨rr, outs⟩, e2, e⟩ := bind_ok e
    obtain ⟨f3, e3, e⟩ := bind_ok e
    have e3 := ofOpt_ok e3
    cases e
    obtain ⟨g1, g2, g3, g4, g5, g6, g7⟩ := args_ok R1 rs e1 fo.nd nl
    -- every owned argument is owned here
    have live : ∀ a, V.ref a ∈ oadr args vs → Lv A1 f1 as σ a := fun a h => by
      rcases g3 _ h with z | ⟨b, hb, z⟩
      · obtain ⟨b, e, hb⟩ := frs_sub rs z; cases e; exact .inl hb
      · cases z
        obtain ⟨_, l, _, hl⟩ := g4 a hb
        exact .inr hl.own
    let Ac : ASet := fun a => Lv A1 f1 as σ a ∧ V.ref a ∉ oadr args vs
    have la : ∀ a, LA Ac args vs a ↔ Lv A1 f1 as σ a := fun a => by
      constructor
      · rintro (h | h)
        · exact h.1
        · exact live a h
      · intro h
        by_cases q : V.ref a ∈ oadr args vs
        · exact .inr q
        · exact .inl ⟨h, q⟩
    have leq : LA Ac args vs = Lv A1 f1 as σ := by funext a; exact propext (la a)
    have inAc : ∀ a, A a → Ac a := fun a h => ⟨.inl (s a h), fun z => by
      rcases g3 _ z with z | ⟨b, hb, z⟩
      · exact fo.np a z h
      · cases z
        obtain ⟨_, l, _, hl⟩ := g4 a hb
        exact R1.nA hl.own (s a h)⟩
    have acH : ∀ a, Ac a → ∃ o, H1 a = some o := fun a h => h.1.elim (R1.al a) R1.own_some
    refine ⟨Ac, args, rr, outs, hn, acH, by rw [leq]; exact g1, g5, fun a h z => z.2 h, e2, fun v H2 cp => hQ v H2 ?_⟩
    obtain ⟨L', c1, c2, c3, c4, c5, c6⟩ := cp
    rw [leq] at c5
    obtain ⟨Rt, qt⟩ := R1.take g2 nl
    -- what is pending behind the call
    let P : ASet := fun a => ∃ o, rr = .fr o ∧ v = .ref a
    have pL : ∀ a, P a → L' a ∧ ¬ Ac a ∧ a ∉ radr args vs := fun a ⟨o, h1, h2⟩ => by
      subst h1
      obtain ⟨p, ep, p1, p2, p3, _⟩ := c4
      rw [h2] at ep; cases ep
      exact ⟨p1, p2, p3⟩
    let B : ASet := fun a => A a ∨ (a ∈ radr args vs ∧ L' a) ∨ P a
    have ownAc : ∀ a, Own (clr f1 (locs f1 rvs)) as σ a → Ac a ∧ ¬ (A1 a ∨ a ∈ radr args vs) := fun a h => by
      have h1 := Rt.nA h
      refine ⟨⟨(qt a).mp (.inr h), fun z => ?_⟩, h1⟩
      rcases g3 _ z with z | ⟨b, hb, z⟩
      · obtain ⟨b, e, hb⟩ := frs_sub rs z; cases e; exact h1 (.inl hb)
      · cases z; exact h1 (.inr hb)
    have BL : ∀ a, Lv B (clr f1 (locs f1 rvs)) as σ a → L' a := fun a h => by
      rcases h with (h | h | h) | h
      · exact c1 a (inAc a h)
      · exact h.2
      · exact (pL a h).1
      · exact c1 a (ownAc a h).1
    have Rs : Rel K B as (clr f1 (locs f1 rvs)) σ H2 := by
      refine Rt.step (fun a h => c2 a (BL a (.inl h))) (fun a o h n => ?_) (fun a h => ?_) fun a h z => ?_
      · have n' : ¬ Lv A1 f1 as σ a := fun z => n ((qt a).mpr z)
        obtain ⟨q1, q2⟩ := c5 a o h n'
        exact ⟨q1, fun z => q2 (BL a z)⟩
      · exact c6 a (ownAc a h).1
      · obtain ⟨q1, q2⟩ := ownAc a h
        rcases z with z | z | z
        · exact q2 (.inl (s a z))
        · exact q2 (.inr z.1)
        · exact (pL a z).2.1 q1
    obtain ⟨Rf, qf⟩ := putB_ok (L' := L') Rs (LocsAt.empty g2 nl) nl BL c3 (fun b h1 h2 => .inr (.inl ⟨h2, h1⟩)) g6 e3
    let A2 : ASet := fun a => A a ∨ P a
    have eA : (fun b => B b ∧ b ∉ radr args vs) = A2 := by
      funext b
      refine propext ⟨fun ⟨h1, h2⟩ => ?_, fun h => ?_⟩
      · rcases h1 with h1 | h1 | h1
        · exact .inl h1
        · exact absurd h1.1 h2
        · exact .inr h1
      · rcases h with h | h
        · exact ⟨.inl h, fun z => (inAc b h).2 (g4 b z).1⟩
        · exact ⟨.inr (.inr h), (pL b h).2.2⟩
    rw [eA] at Rf qf
    have toL : ∀ a, Lv A2 f2 as σ a → L' a := fun a h => BL a (qf a h)
    refine ⟨A2, fun a h => .inl h, Rf, ?_, fun o h a ea z => ?_, (x.trans c5).trans (Ext.less toL), fun a h => (c6 a (inAc a h)).trans (k a h)⟩
    · cases rr with
      | ex c => cases c4; exact .inl (rd_none (K := K) (L := Lv A2 f2 as σ) (H := H2))
      | d y => exact RdP.ext (Ext.less toL) c4
      | fr o =>
        obtain ⟨p, ep, p1, p2, p3, p4⟩ := c4
        exact ⟨p, ep, .inr ⟨o, rfl, ep⟩, p4.ext (Ext.less toL) rfl⟩
    · cases rr with
      | ex c => cases h
      | d y => cases h
      | fr o' =>
        obtain ⟨p, ep, p1, p2, p3, p4⟩ := c4
        rw [ea] at ep; cases ep
        exact p2 (inAc a z)
  · cases e
theorem call_ok {mg : Str → Option Value} {G : Call} {g n : Nat} {rvs : List RV} {vs : List V} {f0 f1 f2 : F} {H1 : Hp} {rv : RV} {Q : VK} {E : XK} (p : PostA K A as f0 σ H rvs f1 vs H1) (e : doCall G g f1 rvs = .ok (rv, f2)) (hn : vs.length = n)
    (hQ : ∀ v H2, Post K A as f0 σ H rv f2 v H2 → Q v H2) : spG K mg n (G g) vs H1 Q E := by
  unfold doCall at e
  obtain ⟨⟨rr, f3⟩, e1, e⟩ := bind_ok e
  obtain ⟨r, e2, e⟩ := bind_ok e
  have e2 := ofOpt_ok e2
  cases e
  cases rr with
  | ex c => cases e2
  | d x => cases e2; exact call_okX p e1 hn hQ
  | fr o => cases e2; exact call_okX p e1 hn hQ
end
end Vm
set_option maxRecDepth 100000
set_option maxHeartbeats 4000000
namespace Vm
open PySem PySem.Spec L2
/-! ### where the trees run -/
structure XOk (Γ : Gam) (G : Call) (m : Nat) (X : Cx) : Prop where
  N : X.N = Γ.N
  nd : X.N.Nodup
  sc : X.env.scope = Γ.sc
  calm : X.calm = true
  room : Room m X.A
  gd : X.A.guards = some []
  df : ∀ x g ps, defOf Γ.defs x 0 = some (g, ps) → ∃ f fd, X.mg x = some (.ref f) ∧ PySem.W.keepIn X.K (.ref f) = true ∧ (Γ.kwo.contains x = false → ∀ us : List Value, us.length = ps.length → bindArgs fd ⟨us, []⟩ = pure (ps.zip us)) ∧
    (∀ n ks ds pm, (x, n, ks, ds, pm) ∈ Γ.kws → pm.length = ps.length ∧ pm.Nodup ∧ (∀ i ∈ pm, i < n + ks.length + ds.length) ∧ ∃ (zs : List V) (dus : List Value), Vals zs dus ∧ (∀ L H, RdA X.K L H ds zs) ∧
      ∀ (s : Shared) (us ws : List Value), X.K.In s.heap → us.length = n → ws.length = ks.length → BindsTo s fd ⟨us, ks.zip ws⟩ (ps.zip (permR (us ++ (ws ++ dus)) pm))) ∧
    FnG X.prog X.w X.K X.mg X.base m f fd ps (spG X.K X.mg ps.length (G g))
  cs : ∀ x d, Γ.cs.lookup x = some d → ∃ u v, X.mg x = some u ∧ RelV v u ∧ ∀ L H, Rd X.K L H d v
  bs : ∀ x, Γ.bs.contains x = true → X.mg x = none
  lc : Γ.lc = true → X.mg "lcm" = some (.builtin "math.lcm")
  fn : ∀ x, Γ.fn x = true → X.fn x = true
theorem XOk.un {Γ : Gam} {G : Call} {m : Nat} {X : Cx} (h : XOk Γ G m X) : X.A.units + 200 < cLine := by have := h.room.un; omega
theorem ixOf_some : ∀ {l : List Str} {x : Str} {n i : Nat}, ixOf l x n = some i → n ≤ i ∧ l[i - n]? = some x
  | [], _, _, _, e => by cases e
  | y :: r, x, n, i, e => by
    unfold ixOf at e
    split at e
    · cases e
      rename_i h
      subst h
      exact ⟨Nat.le_refl _, by simp⟩
    · obtain ⟨h1, h2⟩ := ixOf_some e
      refine ⟨by omega, ?_⟩
      have : i - n = (i - (n + 1)) + 1 := by omega
      rw [this, List.getElem?_cons_succ]; exact h2
theorem ixOf0 {l : List Str} {x : Str} {i : Nat} (e : ixOf l x 0 = some i) : l[i]? = some x := by simpa using (ixOf_some e).2
theorem mapO_cons {α β : Type} {g : α → Option β} {a : α} {r : List α} {l : List β} (e : mapO g (a :: r) = some l) : ∃ b t, g a = some b ∧ mapO g r = some t ∧ l = b :: t := by
  unfold mapO at e
  cases q : g a with
  | none => rw [q] at e; cases e
  | some b =>
    rw [q] at e
    cases q2 : mapO g r with
    | none => simp [q2] at e
    | some t => simp only [q2, Option.bind_some] at e; cases e; exact ⟨b, t, rfl, rfl, rfl⟩
theorem obind {α β : Type} {x : Option α} {g : α → Option β} {b : β} (e : x.bind g = some b) : ∃ a, x = some a ∧ g a = some b := by
  cases x with
  | none => cases e
  | some a => exact ⟨a, rfl, e⟩
theorem omap {α β : Type} {x : Option α} {g : α → β} {b : β} (e : x.map g = some b) : ∃ a, x = some a ∧ g a = b := by
  cases x with
  | none => cases e
  | some a => exact ⟨a, rfl, Option.some.inj e⟩
theorem okName_ne {x : Str} (h : okName x = true) : (x == ("__debug__" : Str)) = false ∧ (x == ("__classdict__" : Str)) = false ∧ x ≠ "__name__" := by
  unfold okName at h
  simp only [Bool.and_eq_true, bne_iff_ne, ne_eq] at h
  exact ⟨by simpa using h.1.1, by simpa using h.1.2, h.2⟩
theorem vis_of {Γ : Gam} {G : Call} {m : Nat} {X : Cx} (h : XOk Γ G m X) {x : Str} (v : Γ.vis x = true) : Vis X.env.scope x := by
  unfold Gam.vis at v
  rw [h.sc]
  split at v
  · exact .inl (by assumption)
  · exact .inr (.inl (by assumption))
  · exact .inr (.inr (by assumption))
  · cases v
theorem gl_of {Γ : Gam} {G : Call} {m : Nat} {X : Cx} (h : XOk Γ G m X) {x : Str} (v : Γ.gl x = true) : Gl X x := by
  unfold Gam.gl at v
  show X.env.scope.names.lookup x = _
  rw [h.sc]
  split at v
  · assumption
  · cases v
section
variable {K : PySem.W.Frag} {G : Call} {σ : L2.St} {H : Hp}
theorem tD.mono {e : Ex} {Q Q' : VK} (h : tD K G e σ H Q) (i : ∀ v H', Q v H' → Q' v H') : tD K G e σ H Q' := by
  obtain ⟨A, as, f, rv, f', R, he, hQ⟩ := h
  exact ⟨A, as, f, rv, f', R, he, fun v H' p => i v H' (hQ v H' p)⟩
theorem tDs.mono {e : List Ex} {Q Q' : List V → Hp → Prop} (h : tDs K G e σ H Q) (i : ∀ v H', Q v H' → Q' v H') : tDs K G e σ H Q' := by
  obtain ⟨A, as, f, rv, f', R, he, hQ⟩ := h
  exact ⟨A, as, f, rv, f', R, he, fun v H' p => i v H' (hQ v H' p)⟩
theorem tDs_one {e : Ex} {Q : List V → Hp → Prop} (h : tDs K G [e] σ H Q) : tD K G e σ H fun x H1 => Q [x] H1 :=
  tD.mono (tDs_cons h) fun v H1 q => tDs_nil q
theorem tDs_two {a b : Ex} {Q : List V → Hp → Prop} (h : tDs K G [a, b] σ H Q) : tD K G a σ H fun x H1 => tD K G b σ H1 fun y H2 => Q [x, y] H2 :=
  tD.mono (tDs_cons h) fun v H1 q => tDs_one q
theorem truV {L : ASet} {y : D} {v : V} {b : Bool} (h : Rd1 K L H y v) (e : truth y = some b) : TruV K v H b := by
  cases y with
  | none => have := h.n; subst this; cases e; rfl
  | bool c => have := h.b; subst this; cases e; rfl
  | int i => have := h.i; subst this; cases e; rfl
  | str s =>
    have := h.s; subst this
    have e : (if s.length ≤ 16777216 then some ((s.length : Int) != 0) else none) = some b := e
    split at e
    · cases e; exact ⟨by rw [sizeLine_eq]; assumption, rfl⟩
    · cases e
  | list ds =>
    obtain ⟨a, vs, rfl, s, r⟩ := h.l
    cases e
    refine .inl ⟨vs, s.sq, ?_⟩
    have := r.len
    cases ds <;> cases vs <;> simp_all
  | tuple ds =>
    obtain ⟨a, vs, rfl, s, r⟩ := h.t
    cases e
    refine .inr (.inl ⟨vs, s.sq, ?_⟩)
    have := r.len
    cases ds <;> cases vs <;> simp_all
  | dict ds =>
    obtain ⟨a, hv, rfl, s, r⟩ := h.m
    cases e
    refine .inr (.inr ⟨hv, s, ?_⟩)
    cases ds with
    | nil => unfold RdK at r; subst r; rfl
    | cons p t => obtain ⟨k, d⟩ := p; unfold RdK at r; obtain ⟨_, _, _, e, _⟩ := r; subst e; rfl
theorem tB_of {e : Ex} {Q : Bool → Hp → Prop} (h : tB K G e σ H Q) : tD K G e σ H fun x H' => ∃ k, TruV K x H' k ∧ Q k H' := by
  obtain ⟨A, as, f, b, f', R, he, hQ⟩ := h
  unfold evC at he
  obtain ⟨⟨rv, f1⟩, e1, he⟩ := bind_ok he
  obtain ⟨t, e2, he⟩ := bind_ok he
  cases he
  obtain ⟨y, e3, e4⟩ := obind (ofOpt_ok e2)
  refine ⟨A, as, f, rv, f1, R, e1, fun v H' p => ?_⟩
  obtain ⟨pn, rd⟩ := p.seen e3
  exact ⟨b, truV rd e4, hQ H' pn⟩
theorem evC_ok {e : Ex} {f f' : F} {b : Bool} (h : evC G e f = .ok (b, f')) : ∃ rv y, evE G e f = .ok (rv, f') ∧ view f' rv = some y ∧ truth y = some b := by
  unfold evC at h
  obtain ⟨⟨rv, f1⟩, e1, h⟩ := bind_ok h
  obtain ⟨t, e2, h⟩ := bind_ok h
  cases h
  obtain ⟨y, e3, e4⟩ := obind (ofOpt_ok e2)
  exact ⟨rv, y, e1, e3, e4⟩
theorem evC_mk {e : Ex} {f f' : F} {b : Bool} {rv : RV} {y : D} (e1 : evE G e f = .ok (rv, f')) (e2 : view f' rv = some y) (e3 : truth y = some b) : evC G e f = .ok (b, f') := by
  unfold evC
  simp [e1, e2, e3, Res.bind, ofOpt]
/-- a test that is met first -/
theorem tB_and {a b : Ex} {Q : Bool → Hp → Prop} (h : tB K G (.and a b) σ H Q) : tAnd (tB K G a) (tB K G b) σ H Q := by
  obtain ⟨A, as, f, c, f', R, he, hQ⟩ := h
  obtain ⟨rv, y, e1, e2, e3⟩ := evC_ok he
  unfold evE at e1
  obtain ⟨⟨r1, f1⟩, g1, e1⟩ := bind_ok e1
  obtain ⟨t, g2, e1⟩ := bind_ok e1
  obtain ⟨y1, g3, g4⟩ := obind (ofOpt_ok g2)
  refine ⟨A, as, f, t, f1, R, evC_mk g1 g3 g4, fun H1 p => ?_⟩
  cases t with
  | true =>
    rw [if_pos rfl] at e1 ⊢
    exact ⟨A, as, f1, c, f', p.1, evC_mk e1 e2 e3, fun H2 p2 => hQ H2 (p.thenN p2)⟩
  | false =>
    rw [if_neg Bool.false_ne_true] at e1 ⊢
    cases e1
    rw [g3] at e2; cases e2
    rw [g4] at e3; cases e3
    exact hQ H1 p
theorem tB_or {a b : Ex} {Q : Bool → Hp → Prop} (h : tB K G (.or a b) σ H Q) : tOr (tB K G a) (tB K G b) σ H Q := by
  obtain ⟨A, as, f, c, f', R, he, hQ⟩ := h
  obtain ⟨rv, y, e1, e2, e3⟩ := evC_ok he
  unfold evE at e1
  obtain ⟨⟨r1, f1⟩, g1, e1⟩ := bind_ok e1
  obtain ⟨t, g2, e1⟩ := bind_ok e1
  obtain ⟨y1, g3, g4⟩ := obind (ofOpt_ok g2)
  refine ⟨A, as, f, t, f1, R, evC_mk g1 g3 g4, fun H1 p => ?_⟩
  cases t with
  | false =>
    rw [if_neg Bool.false_ne_true] at e1 ⊢
    exact ⟨A, as, f1, c, f', p.1, evC_mk e1 e2 e3, fun H2 p2 => hQ H2 (p.thenN p2)⟩
  | true =>
    rw [if_pos rfl] at e1 ⊢
    cases e1
    rw [g3] at e2; cases e2
    rw [g4] at e3; cases e3
    exact hQ H1 p
theorem tB_ife {c a b : Ex} {Q : Bool → Hp → Prop} (h : tB K G (.ife c a b) σ H Q) : tB K G c σ H fun d H1 => if d = true then tB K G a σ H1 Q else tB K G b σ H1 Q := by
  obtain ⟨A, as, f, k, f', R, he, hQ⟩ := h
  obtain ⟨rv, y, e1, e2, e3⟩ := evC_ok he
  unfold evE at e1
  obtain ⟨⟨r1, f1⟩, g1, e1⟩ := bind_ok e1
  obtain ⟨t, g2, e1⟩ := bind_ok e1
  obtain ⟨y1, g3, g4⟩ := obind (ofOpt_ok g2)
  refine ⟨A, as, f, t, f1, R, evC_mk g1 g3 g4, fun H1 p => ?_⟩
  cases t with
  | true =>
    rw [if_pos rfl] at e1 ⊢
    exact ⟨A, as, f1, k, f', p.1, evC_mk e1 e2 e3, fun H2 p2 => hQ H2 (p.thenN p2)⟩
  | false =>
    rw [if_neg Bool.false_ne_true] at e1 ⊢
    exact ⟨A, as, f1, k, f', p.1, evC_mk e1 e2 e3, fun H2 p2 => hQ H2 (p.thenN p2)⟩
theorem tB_not {a : Ex} {Q : Bool → Hp → Prop} (h : tB K G (.op .not [a]) σ H Q) : tNot (tB K G a) σ H Q := by
  obtain ⟨A, as, f, c, f', R, he, hQ⟩ := h
  obtain ⟨rv, y, e1, e2, e3⟩ := evC_ok he
  unfold evE evEs evEs at e1
  obtain ⟨⟨rs, f1⟩, g1, e1⟩ := bind_ok e1
  obtain ⟨⟨r1, f2⟩, g2, g1⟩ := bind_ok g1
  cases g1
  obtain ⟨rr, g3, e1⟩ := bind_ok e1
  cases e1
  obtain ⟨ys, g4, g5⟩ := obind (ofOpt_ok g3)
  obtain ⟨y1, g6, g7⟩ := obind g4
  cases g7
  obtain ⟨t, g8, g9⟩ := omap (show (truth y1).map (fun b => RR.d (.bool (!b))) = some rr from g5)
  subst g9
  cases e2
  cases e3
  exact ⟨A, as, f, t, f2, R, evC_mk g2 g6 g8, fun H1 p => hQ H1 p⟩
theorem tD_and {a b : Ex} {Q : VK} (h : tD K G (.and a b) σ H Q) : tAndT K (tD K G a) (tD K G b) σ H Q := by
  obtain ⟨A, as, f, rv, f', R, he, hQ⟩ := h
  unfold evE at he
  obtain ⟨⟨r1, f1⟩, g1, he⟩ := bind_ok he
  obtain ⟨t, g2, he⟩ := bind_ok he
  obtain ⟨y1, g3, g4⟩ := obind (ofOpt_ok g2)
  refine ⟨A, as, f, r1, f1, R, g1, fun v H1 p => ?_⟩
  obtain ⟨pn, rd⟩ := p.seen g3
  refine ⟨t, truV rd g4, ?_⟩
  cases t with
  | true =>
    rw [if_pos rfl] at he ⊢
    exact ⟨A, as, f1, rv, f', pn.1, he, fun w H2 p2 => hQ w H2 (pn.then p2)⟩
  | false =>
    rw [if_neg Bool.false_ne_true] at he ⊢
    cases he
    exact hQ v H1 p
theorem tD_or {a b : Ex} {Q : VK} (h : tD K G (.or a b) σ H Q) : tOrT K (tD K G a) (tD K G b) σ H Q := by
  obtain ⟨A, as, f, rv, f', R, he, hQ⟩ := h
  unfold evE at he
  obtain ⟨⟨r1, f1⟩, g1, he⟩ := bind_ok he
  obtain ⟨t, g2, he⟩ := bind_ok he
  obtain ⟨y1, g3, g4⟩ := obind (ofOpt_ok g2)
  refine ⟨A, as, f, r1, f1, R, g1, fun v H1 p => ?_⟩
  obtain ⟨pn, rd⟩ := p.seen g3
  refine ⟨t, truV rd g4, ?_⟩
  cases t with
  | false =>
    rw [if_neg Bool.false_ne_true] at he ⊢
    exact ⟨A, as, f1, rv, f', pn.1, he, fun w H2 p2 => hQ w H2 (pn.then p2)⟩
  | true =>
    rw [if_pos rfl] at he ⊢
    cases he
    exact hQ v H1 p
theorem tD_ife {c a b : Ex} {Q : VK} (h : tD K G (.ife c a b) σ H Q) : tIf (tB K G c) (tD K G a) (tD K G b) σ H Q := by
  obtain ⟨A, as, f, rv, f', R, he, hQ⟩ := h
  unfold evE at he
  obtain ⟨⟨r1, f1⟩, g1, he⟩ := bind_ok he
  obtain ⟨t, g2, he⟩ := bind_ok he
  obtain ⟨y1, g3, g4⟩ := obind (ofOpt_ok g2)
  refine ⟨A, as, f, t, f1, R, evC_mk g1 g3 g4, fun H1 p => ?_⟩
  cases t with
  | true =>
    rw [if_pos rfl] at he ⊢
    exact ⟨A, as, f1, rv, f', p.1, he, fun w H2 p2 => hQ w H2 (p.then p2)⟩
  | false =>
    rw [if_neg Bool.false_ne_true] at he ⊢
    exact ⟨A, as, f1, rv, f', p.1, he, fun w H2 p2 => hQ w H2 (p.then p2)⟩
theorem tD_not {a : Ex} {Q : VK} (h : tD K G (.op .not [a]) σ H Q) : tNotT K (tD K G a) σ H Q := by
  refine tD.mono (tDs_one (tD_op h)) fun v H1 q => ?_
  obtain ⟨L, ys, rr, rd, e, q⟩ := q
  obtain ⟨y, rfl, rd1⟩ := rd1s1 rd
  obtain ⟨t, g8, g9⟩ := omap (show (truth y).map (fun b => RR.d (.bool (!b))) = some rr from e)
  subst g9
  exact ⟨t, truV rd1 g8, q _ _ (.inl ⟨rfl, rd_bool⟩)⟩
theorem tD_isn {a : Ex} {Q : VK} (h : tD K G (.op .isn [a]) σ H Q) : tIsN (tD K G a) σ H Q := by
  refine tD.mono (tDs_one (tD_op h)) fun v H1 q => ?_
  obtain ⟨L, ys, rr, rd, e, q⟩ := q
  obtain ⟨y, rfl, rd1⟩ := rd1s1 rd
  cases e
  rw [isNone_v rd1]
  exact q _ _ (.inl ⟨rfl, rd_bool⟩)
theorem tD_isnn {a : Ex} {Q : VK} (h : tD K G (.op .isnn [a]) σ H Q) : tNotN (tD K G a) σ H Q := by
  refine tD.mono (tDs_one (tD_op h)) fun v H1 q => ?_
  obtain ⟨L, ys, rr, rd, e, q⟩ := q
  obtain ⟨y, rfl, rd1⟩ := rd1s1 rd
  cases e
  rw [isNone_v rd1]
  exact q _ _ (.inl ⟨rfl, rd_bool⟩)
/-- a test whose value is a bool -/
theorem tB_bool {e : Ex} {Q : Bool → Hp → Prop} (h : tB K G e σ H Q) (hb : ∀ f rv f', evE G e f = .ok (rv, f') → ∃ k, rv = .d (.bool k)) : tD K G e σ H fun x H' => ∃ k, x = .bl k ∧ Q k H' := by
  obtain ⟨A, as, f, b, f', R, he, hQ⟩ := h
  obtain ⟨rv, y, e1, e2, e3⟩ := evC_ok he
  obtain ⟨k, rfl⟩ := hb f rv f' e1
  cases e2
  obtain rfl : k = b := Option.some.inj e3
  refine ⟨A, as, f, _, f', R, e1, fun v H' p => ?_⟩
  obtain ⟨pn, rd⟩ := p.seen (y := .bool k) rfl
  exact ⟨k, rd.b, hQ H' pn⟩
theorem op_bool {o : Op} {es : List Ex} (ho : ∀ ys rr, o.run ys = some rr → ∃ k, rr = .d (.bool k)) (f : F) (rv : RV) (f' : F) (h : evE G (.op o es) f = .ok (rv, f')) : ∃ k, rv = .d (.bool k) := by
  unfold evE at h
  obtain ⟨⟨rs, f1⟩, e1, h⟩ := bind_ok h
  obtain ⟨rr, e2, h⟩ := bind_ok h
  cases h
  obtain ⟨ys, _, g⟩ := obind (ofOpt_ok e2)
  obtain ⟨k, rfl⟩ := ho ys rr g
  exact ⟨k, rfl⟩
end
theorem runInts_bool {c : Int → Int → Bool} {g : Int → Int → Bool} {a b : D} {rr : RR} (e : runInts c (fun i j => .bool (g i j)) a b = some rr) : ∃ k, rr = .d (.bool k) := by
  obtain ⟨i, j, _, _, _, h⟩ := runInts_some e; exact ⟨_, h⟩
theorem cmp_bool {op : CmpOp} {o : Op} (h : cmpO op = some o) : ∀ ys rr, o.run ys = some rr → ∃ k, rr = .d (.bool k) := by
  intro ys rr e
  match ys, e with
  | [], e => cases op <;> simp only [cmpO] at h <;> try (cases h; done)
             all_goals (cases h; cases e)
  | [_], e => cases op <;> simp only [cmpO] at h <;> try (cases h; done)
              all_goals (cases h; cases e)
  | _ :: _ :: _ :: _, e => cases op <;> simp only [cmpO] at h <;> try (cases h; done)
                           all_goals (cases h; cases e)
  | [a, b], e =>
    cases op <;> simp only [cmpO] at h <;> try (cases h; done)
    all_goals cases h
    · replace e : runEq false a b = some rr := e
      unfold runEq at e; split at e <;> cases e; exact ⟨_, rfl⟩
    · replace e : runEq true a b = some rr := e
      unfold runEq at e; split at e <;> cases e; exact ⟨_, rfl⟩
    · replace e : runLt a b = some rr := e
      cases a <;> cases b <;> simp only [runLt] at e <;> try (cases e; done)
      · cases e; exact ⟨_, rfl⟩
      · cases e; exact ⟨_, rfl⟩
      · obtain ⟨_, _, e⟩ := obind e
        obtain ⟨_, _, e⟩ := obind e
        cases e; exact ⟨_, rfl⟩
    · exact runInts_bool e
    · exact runInts_bool e
    · exact runInts_bool e
    · obtain ⟨_, _, e⟩ := omap (show (memD a b).map (fun b => RR.d (.bool b)) = some rr from e); exact ⟨_, e.symm⟩
    · obtain ⟨_, _, e⟩ := omap (show (memD a b).map (fun b => RR.d (.bool (!b))) = some rr from e); exact ⟨_, e.symm⟩
section
variable {X : Cx}
theorem bin_or {op : Operator} {o : Op} (h : binO op = some o) : OpR X (binaryOp op) (rD X.K o) := by
  cases op <;> simp only [binO] at h <;> try (cases h; done)
  all_goals cases h
  · exact or_add
  · exact or_sub
  · exact or_mul
  · exact or_mod
  · exact or_pow
  · exact or_fdiv
theorem cmp_or {op : CmpOp} {o : Op} (hu : X.A.units + 200 < cLine) (h : cmpO op = some o) : OpR X (compareOp op) (rD X.K o) := by
  cases op <;> simp only [cmpO] at h <;> try (cases h; done)
  all_goals cases h
  · exact or_eq hu
  · exact or_ne hu
  · exact or_lt hu
  · exact or_le
  · exact or_gt
  · exact or_ge
  · exact or_mem
  · exact or_nmem
theorem bi_ok0 {x : Str} {k : Nat} {o : Op} (hc : X.calm = true) (hu : X.A.units + 200 < cLine) (hg : X.A.guards = some []) (h : biO x k = some o) :
    (∃ id, bootBuiltins x = some (.builtin id) ∧ CallR X (.builtin id) (rDs X.K o)) ∨ ∃ T, bootBuiltins x = some (.type T) ∧ CallR X (.type T) (rDs X.K o) := by
  match k, h with
  | 0, h => cases h
  | _ + 3, h => cases h
  | 1, h =>
    have hm : (x, o) ∈ biT1 := PySem.mem_of_lookup h
    unfold biT1 at hm
    rcases List.mem_cons.mp hm with e | hm
    · cases e; exact .inl ⟨"len", by decide +kernel, cr_len⟩
    rcases List.mem_cons.mp hm with e | hm
    · cases e; exact .inr ⟨"int", by decide +kernel, cr_int⟩
    rcases List.mem_cons.mp hm with e | hm
    · cases e; exact .inl ⟨"abs", by decide +kernel, cr_abs⟩
    rcases List.mem_cons.mp hm with e | hm
    · cases e; exact .inl ⟨"repr", by decide +kernel, cr_repr hu hg⟩
    rcases List.mem_cons.mp hm with e | hm
    · cases e; exact .inr ⟨"tuple", by decide +kernel, cr_tuple⟩
    rcases List.mem_cons.mp hm with e | hm
    · cases e; exact .inr ⟨"list", by decide +kernel, cr_list⟩
    rcases List.mem_cons.mp hm with e | hm
    · cases e; exact .inl ⟨"any", by decide +kernel, cr_anyD hc⟩
    rcases List.mem_cons.mp hm with e | hm
    · cases e; exact .inl ⟨"all", by decide +kernel, cr_allD hc⟩
    rcases List.mem_cons.mp hm with e | hm
    · cases e; exact .inl ⟨"sum", by decide +kernel, cr_sumD hc⟩
    rcases List.mem_cons.mp hm with e | hm
    · cases e; exact .inl ⟨"sorted", by decide +kernel, cr_sortedD hc⟩
    rcases List.mem_cons.mp hm with e | hm
    · cases e; exact .inl ⟨"max", by decide +kernel, cr_max1 hc⟩
    rcases List.mem_cons.mp hm with e | hm
    · cases e; exact .inl ⟨"min", by decide +kernel, cr_min1 hc⟩
    cases hm
  | 2, h =>
    have hm : (x, o) ∈ biT2 := PySem.mem_of_lookup h
    unfold biT2 at hm
    rcases List.mem_cons.mp hm with e | hm
    · cases e; exact .inl ⟨"max", by decide +kernel, cr_max2 hc⟩
    rcases List.mem_cons.mp hm with e | hm
    · cases e; exact .inl ⟨"min", by decide +kernel, cr_min2 hc⟩
    rcases List.mem_cons.mp hm with e | hm
    · cases e; exact .inl ⟨"divmod", by decide +kernel, cr_divmod⟩
    cases hm
/-- tuple(l): laid as it is -/
theorem cr_ptup : CallR X (.type "tuple") (rDs X.K .ptuple) := by
  refine call1 (g := runPtup) (fun _ => rfl) (fun ys h => by match ys, h with | [], _ => rfl | [_], h => simp at h | _ :: _ :: _, _ => rfl) ?_
  intro pins s σ H x u Q L a rr I ru ha e q
  cases a <;> try (cases e; done)
  cases e
  rename_i ds
  obtain ⟨p, vs, rfl, s1, r1⟩ := ha.l
  cases ru
  obtain ⟨its, rv, pk, hz⟩ := I.list s1.sq
  refine call_tuple_list pk.isList (fun h' hk => ?_) (by rw [List.size_toArray, ← rv.length]; exact hz)
  have J : Inv X pins σ H { s with heap := h' } := I.kept (t' := s.toks) hk
  let ob : Obj := { cls := .type "tuple", data := .seq its.toArray }
  have nw : (h'.push ob).get? h'.objs.size = some ob := Heap.get?_push_size h' rfl
  have J2 : Inv X pins σ (upd H h'.objs.size (.frz ob (.tup vs))) { s with heap := h'.push ob } :=
    J.laid (t' := s.toks) (fun b o z => Heap.get?_push_of_some _ z) (Nat.le_refl _) (show ObjOk X.prog X.w _ _ _ (.frz ob (.tup vs)) from ⟨nw, hz, its, rv, ⟨ob, nw, rfl, 0, rfl⟩⟩)
  exact ⟨.ref h'.objs.size, _, J2, rfl, q _ _ (.inr (.inr ⟨h'.objs.size, vs, ds, ob, rfl, J.hok.fresh (Nat.le_refl _), rfl, rfl, rfl, r1⟩))⟩
theorem bi_ok {Γ : Gam} {x : Str} {k : Nat} {o : Op} (hc : X.calm = true) (hu : X.A.units + 200 < cLine) (hg : X.A.guards = some []) (h : Γ.biO x k = some o) :
    (∃ id, bootBuiltins x = some (.builtin id) ∧ CallR X (.builtin id) (rDs X.K o)) ∨ ∃ T, bootBuiltins x = some (.type T) ∧ CallR X (.type T) (rDs X.K o) := by
  unfold Gam.biO at h
  split at h
  · rename_i hc
    cases h
    rw [hc.2.1]
    exact .inr ⟨"tuple", by decide +kernel, cr_ptup⟩
  · exact bi_ok0 hc hu hg h
end
end Vm
set_option maxRecDepth 100000
set_option maxHeartbeats 4000000
namespace Vm
open PySem PySem.Spec L2
section
variable {K : PySem.W.Frag} {G : Call} {σ : L2.St} {H : Hp}
theorem views_two {f : F} {a b : RV} {l : List D} (h : views f [a, b] = some l) : ∃ x y, view f a = some x ∧ view f b = some y ∧ l = [x, y] := by
  obtain ⟨x, h1, h⟩ := obind h
  obtain ⟨ys, h2, h⟩ := obind h
  obtain ⟨y, h3, h2⟩ := obind h2
  cases h2
  cases h
  exact ⟨x, y, h1, h3, rfl⟩
theorem OpPost.bool {L : ASet} {k : Bool} {v : V} {H2 : Hp} (h : OpPost K L H (.d (.bool k)) v H2) : v = .bl k ∧ H2 = H := by
  rcases h with ⟨e, h⟩ | ⟨p, vs, ds, h, _⟩ | ⟨p, vs, ds, o, h, _⟩
  · unfold Rd at h; exact ⟨h, e⟩
  · cases h
  · cases h
theorem tD_ch {o o' : Op} {a b c : Ex} {Q : VK} (h : tD K G (.ch o o' a b c) σ H Q) : tChain (rD K o) (rD K o') (tD K G a) (tD K G b) (tD K G c) σ H Q := by
  obtain ⟨A, as, f, rv, f', R, he, hQ⟩ := h
  unfold evE at he
  obtain ⟨⟨r1, f1⟩, e1, he⟩ := bind_ok he
  obtain ⟨⟨r2, f2⟩, e2, he⟩ := bind_ok he
  obtain ⟨rr, e3, he⟩ := bind_ok he
  obtain ⟨l, e4, e5⟩ := obind (ofOpt_ok e3)
  obtain ⟨x, y, e6, e7, rfl⟩ := views_two e4
  refine ⟨A, as, f, r1, f1, R, e1, fun v1 H1 p1 => ?_⟩
  obtain ⟨A1, s1, R1, q1, n1, x1, k1⟩ := id p1
  refine ⟨A1, as, f1, r2, f2, R1, e2, fun v2 H2 p2 => ?_⟩
  obtain ⟨A2, s2, R2, q2, n2, x2, k2⟩ := id p2
  have q1' := q1.ext x2 (fun a z => k2 a z) s2
  have y12 := ext_less (H := H2) (f := f2) (as := as) (σ := σ) (A := A2) (A' := A) (fun a z => s2 a (s1 a z))
  have pn2 : PostN K A as f σ H f2 H2 := ⟨R2.less fun a z => s2 a (s1 a z), (x1.trans x2).trans y12, fun a z => (k2 a (s1 a z)).trans (k1 a z)⟩
  refine ⟨Lv A2 f2 as σ, [x, y], rr, ⟨v1, [v2], rfl, view_rd1 R2 q1' e6, v2, [], rfl, view_rd1 R2 q2 e7, rfl⟩, e5, fun z H3 hz => ?_⟩
  match rr, he, hz with
  | .fr _, he, _ => cases he
  | .d .none, he, _ => cases he
  | .d (.int _), he, _ => cases he
  | .d (.str _), he, _ => cases he
  | .d (.list _), he, _ => cases he
  | .d (.tuple _), he, _ => cases he
  | .d (.dict _), he, _ => cases he
  | .d (.bool false), he, hz =>
    obtain ⟨rfl, rfl⟩ := hz.bool
    cases he
    refine ⟨false, rfl, ?_⟩
    rw [if_neg Bool.false_ne_true]
    exact hQ _ _ (pn2.then (Post.nil pn2.1 (.inl (rd_bool (K := K) (L := Lv A f2 as σ) (H := H3))) fun o e => by cases e))
  | .d (.bool true), he, hz =>
    obtain ⟨rfl, rfl⟩ := hz.bool
    refine ⟨true, rfl, ?_⟩
    rw [if_pos rfl]
    obtain ⟨⟨r3, f3⟩, g1, he⟩ := bind_ok he
    obtain ⟨rr2, g2, he⟩ := bind_ok he
    cases he
    obtain ⟨l, g3, g4⟩ := obind (ofOpt_ok g2)
    obtain ⟨y', w, g5, g6, rfl⟩ := views_two g3
    refine ⟨A2, as, f2, r3, f3, R2, g1, fun v3 H4 p3 => ?_⟩
    obtain ⟨A3, s3, R3, q3, n3, x3, k3⟩ := p3
    have q2' := q2.ext x3 (fun a z => k3 a z) s3
    have sub : ∀ a, A a → A3 a := fun a z => s3 a (s2 a (s1 a z))
    have y3 := ext_less (H := H4) (f := f3) (as := as) (σ := σ) (A := A3) (A' := A) sub
    have pn3 : PostN K A as f σ H f3 H4 := ⟨R3.less sub, ((x1.trans x2).trans x3).trans y3, fun a z => (k3 a (s2 a (s1 a z))).trans ((k2 a (s1 a z)).trans (k1 a z))⟩
    exact ⟨Lv A f3 as σ, [y', w], rr2, ⟨v2, [v3], rfl, (view_rd1 R3 q2' g5).ext y3, v3, [], rfl, (view_rd1 R3 q3 g6).ext y3, rfl⟩, g4, fun z5 H5 hz5 => hQ z5 H5 (pn3.then (op_post pn3.1 hz5))⟩
end
/-! ### syntax -/
theorem comp_star : ∀ {n : Nat} {Γ : Gam} {e : Expr} {ir : Ex}, comp n Γ e = some ir → ∀ es env, starEach (e :: es) env = (false, eval e env) :: starEach es env
  | 0, _, _, _, h => by cases h
  | n + 1, Γ, e, ir, h => by
    intro es env
    cases e
    case Starred => cases h
    all_goals rfl
theorem mapO_plain {n : Nat} {Γ : Gam} {pos : Pos} {env : Env} : ∀ {es : List Expr} {l : List Ex}, mapO (comp n Γ) es = some l → (backTo pos (starEach es env)).any (·.1) = false
  | [], _, _ => rfl
  | e :: es, _, h => by
    obtain ⟨b, t, h1, h2, _⟩ := mapO_cons h
    rw [comp_star h1]
    show (false || (backTo pos (starEach es env)).any (·.1)) = false
    rw [mapO_plain h2]; rfl
theorem mapO_len {α β : Type} {g : α → Option β} : ∀ {l : List α} {r : List β}, mapO g l = some r → r.length = l.length
  | [], _, h => by cases h; rfl
  | a :: l, _, h => by
    obtain ⟨b, t, _, h2, e⟩ := mapO_cons h
    subst e
    simp [mapO_len h2]
section
variable {X : Cx} {Γ : Gam} {G : Call} {m : Nat}
theorem comps_pa {n : Nat} (ih : ∀ (e : Expr) (ir : Ex), comp n Γ e = some ir → PE X e (tD X.K G ir)) : ∀ {es : List Expr} {l : List Ex}, mapO (comp n Γ) es = some l → PA X es (tDs X.K G l)
  | [], _, h => by cases h; exact PA.imp pa_nil fun σ H Q q => tDs_nil q
  | e :: es, _, h => by
    obtain ⟨b, t, h1, h2, e0⟩ := mapO_cons h
    subst e0
    exact PA.imp (pa_cons (ih e b h1) (comps_pa ih h2) (comp_star h1 es X.env)) fun σ H Q q => tDs_cons q
theorem pt_ife {c a b : Expr} {pos : Pos} {tc ta tb : TT} (hc : PT X c tc) (ha : PT X a ta) (hb : PT X b tb) : PT X (.IfExp c a b pos) (fun σ H Q => tc σ H fun d H1 => if d = true then ta σ H1 Q else tb σ H1 Q) := by
  constructor
  intro pins s σ H Q I h
  refine PyProof.Rows.isTrue_IfExp (thn (hc.run pins s σ H _ I h) fun d s1 ⟨H1, I1, q1⟩ => ?_)
  cases d with
  | true => exact ha.run pins s1 σ H1 Q I1 q1
  | false => exact hb.run pins s1 σ H1 Q I1 q1
/-- a part of a slice -/
theorem po_part {e : Expr} {ir : Ex} (h : PE X e (tD X.K G ir)) : PO X (some e) (tPart (tD X.K G ir)) := po_some h
end
end Vm
set_option maxRecDepth 100000
set_option maxHeartbeats 4000000
namespace Vm
open PySem PySem.Spec L2
theorem PW.imp {X : Cx} {e : Expr} {t t' : TT} (h : PW X e t) (i : ∀ σ H Q, t' σ H Q → t σ H Q) : PW X e t' := ⟨fun wh pins s σ H Q I q => h.run wh pins s σ H Q I (i σ H Q q)⟩
section
variable {K : PySem.W.Frag} {G : Call} {σ : L2.St} {H : Hp}
theorem tOp_of {o : Op} {a b : Ex} {Q : VK} (h : tD K G (.op o [a, b]) σ H Q) : tOp (rD K o) (tD K G a) (tD K G b) σ H Q := tDs_two (tD_op h)
theorem tCB_of {o : Op} {es : List Ex} {Q : VK} (h : tD K G (.op o es) σ H Q) : tCB (rDs K o) (tDs K G es) σ H Q := tD_op h
theorem tD_neg {a : Ex} {Q : VK} (h : tD K G (.op .neg [a]) σ H Q) : tUn (rU fun i => .int (-i)) (tD K G a) σ H Q := by
  refine tD.mono (tDs_one (tD_op h)) fun v H1 q => ?_
  obtain ⟨L, ys, rr, rd, e, q⟩ := q
  obtain ⟨y, rfl, rd1⟩ := rd1s1 rd
  cases y with
  | int i => have := rd1.i; subst this; cases e; exact ⟨i, rfl, q _ _ (.inl ⟨rfl, rd_int⟩)⟩
  | _ => cases e
theorem tTest_of {e : Ex} {Q : Bool → Hp → Prop} {t : TE} (h : Vm.tB K G e σ H Q) (hb : ∀ f rv f', evE G e f = .ok (rv, f') → ∃ k, rv = .d (.bool k)) (ht : ∀ Q', tD K G e σ H Q' → t σ H Q') : tTest t σ H Q := ht _ (tB_bool h hb)
theorem tPart_ok {a : Ex} {es : List Ex} {Q : List V → Hp → Prop} (h : tDs K G (a :: es) σ H Q) : tD K G a σ H fun x H1 => tDs K G es σ H1 fun xs H2 => Q (x :: xs) H2 := tDs_cons h
theorem tSl_00 {x : Ex} {Q : VK} (h : tD K G (.op (.slice false false) [x]) σ H Q) : L2.tSl (rSl K) (tD K G x) tNoPart tNoPart σ H Q := by
  refine tD.mono (tDs_one (tD_op h)) fun v H1 q => ?_
  obtain ⟨L, ys, rr, rd, e, q⟩ := q
  obtain ⟨y, rfl, r1⟩ := rd1s1 rd
  exact ⟨L, y, rr, r1, e, q⟩
theorem tSl_01 {x u : Ex} {Q : VK} (h : tD K G (.op (.slice false true) [x, u]) σ H Q) : L2.tSl (rSl K) (tD K G x) tNoPart (tPart (tD K G u)) σ H Q := by
  refine tD.mono (tDs_two (tD_op h)) fun v H1 q => tD.mono q fun v2 H2 q => ?_
  obtain ⟨L, ys, rr, rd, e, q⟩ := q
  obtain ⟨y, z, rfl, r1, r2⟩ := rd1s2 rd
  obtain ⟨i, e1, e2⟩ := obind (show (intD z).bind _ = some rr from e)
  cases z <;> cases e1
  exact ⟨i, r2.i, L, y, rr, r1, e2, q⟩
theorem tSl_10 {x u : Ex} {Q : VK} (h : tD K G (.op (.slice true false) [x, u]) σ H Q) : L2.tSl (rSl K) (tD K G x) (tPart (tD K G u)) tNoPart σ H Q := by
  refine tD.mono (tDs_two (tD_op h)) fun v H1 q => tD.mono q fun v2 H2 q => ?_
  obtain ⟨L, ys, rr, rd, e, q⟩ := q
  obtain ⟨y, z, rfl, r1, r2⟩ := rd1s2 rd
  obtain ⟨i, e1, e2⟩ := obind (show (intD z).bind _ = some rr from e)
  cases z <;> cases e1
  exact ⟨i, r2.i, L, y, rr, r1, e2, q⟩
theorem rdi_of {K : PySem.W.Frag} {L : ASet} {H : Hp} {i : Int} {v : V} (h : Rd K L H (.int i) v) : v = .int i := by unfold Rd at h; exact h
theorem tSl_11 {x lo hi : Ex} {Q : VK} (h : tD K G (.sl2 x lo hi) σ H Q) : L2.tSl (rSl K) (tD K G x) (tPart (tD K G lo)) (tPart (tD K G hi)) σ H Q := by
  obtain ⟨A, as, f, rv, f', R, he, hQ⟩ := h
  unfold evE at he
  obtain ⟨⟨r1, f1⟩, e1, he⟩ := bind_ok he
  obtain ⟨⟨r2, f2⟩, e2, he⟩ := bind_ok he
  dsimp only at he
  split at he
  · rename_i i
    obtain ⟨⟨r3, f3⟩, e3, he⟩ := bind_ok he
    dsimp only at he
    split at he
    · rename_i j
      obtain ⟨rr, e4, he⟩ := bind_ok he
      cases he
      obtain ⟨y, e5, e6⟩ := obind (ofOpt_ok e4)
      refine ⟨A, as, f, r1, f1, R, e1, fun v1 H1 p1 => ?_⟩
      obtain ⟨A1, s1, R1, q1, n1, x1, k1⟩ := id p1
      refine ⟨A1, as, f1, _, f2, R1, e2, fun v2 H2 p2 => ?_⟩
      obtain ⟨A2, s2, R2, q2, n2, x2, k2⟩ := id p2
      refine ⟨i, rdi_of (show Rd K (Lv A2 f2 as σ) H2 (.int i) v2 from RdP.rd q2), A2, as, f2, _, f', R2, e3, fun v3 H3 p3 => ?_⟩
      obtain ⟨A3, s3, R3, q3, n3, x3, k3⟩ := id p3
      have q1' := (q1.ext x2 (fun a z => k2 a z) s2).ext x3 (fun a z => k3 a z) s3
      have sub : ∀ a, A a → A3 a := fun a z => s3 a (s2 a (s1 a z))
      have y3 := ext_less (H := H3) (f := f') (as := as) (σ := σ) (A := A3) (A' := A) sub
      have pn3 : PostN K A as f σ H f' H3 := ⟨R3.less sub, ((x1.trans x2).trans x3).trans y3, fun a z => (k3 a (s2 a (s1 a z))).trans ((k2 a (s1 a z)).trans (k1 a z))⟩
      exact ⟨j, rdi_of (show Rd K (Lv A3 f' as σ) H3 (.int j) v3 from RdP.rd q3), _, y, rr, (view_rd1 R3 q1' e5).ext y3, e6, fun z H4 hz => hQ z H4 (pn3.then (op_post pn3.1 hz))⟩
    · cases he
  · cases he
end
/-- what is proved of each expression -/
structure E3 (X : Cx) (G : Call) (ex : Expr) (ir : Ex) : Prop where
  e : PE X ex (tD X.K G ir)
  t : PT X ex (tB X.K G ir)
  w : ∀ op vs pos, ex = .BoolOp op vs pos → PW X ex (tB X.K G ir)
section
variable {X : Cx} {Γ : Gam} {G : Call} {m : Nat}
/-- .. of one whose test is its value's truth -/
theorem E3.plain {e : Expr} {ir : Ex} (h : PE X e (tD X.K G ir)) (he : ∀ whole, isTrue e X.env whole = (do let v ← whole; standAt e.pos; holding [v] (truthy v))) (hb : ∀ op vs pos, e ≠ .BoolOp op vs pos) : E3 X G e ir :=
  ⟨h, PT.imp (pt_truth h he) fun σ H Q q => tB_of q, fun op vs pos z => absurd z (hb op vs pos)⟩
def IH (Γ : Gam) (G : Call) (X : Cx) (n : Nat) : Prop := ∀ (e : Expr) (ir : Ex), comp n Γ e = some ir → E3 X G e ir
theorem IH.pe {n : Nat} (ih : IH Γ G X n) : ∀ (e : Expr) (ir : Ex), comp n Γ e = some ir → PE X e (tD X.K G ir) := fun e ir h => (ih e ir h).e
theorem e_const {n : Nat} {c : Const} {k : _} {pos : Pos} {ir : Ex} (h : comp (n + 1) Γ (.Constant c k pos) = some ir) : E3 X G (.Constant c k pos) ir := by
  obtain ⟨d, h1, rfl⟩ := omap (show (constD c).map Ex.k = some ir from h)
  refine .plain ?_ (fun _ => rfl) fun _ _ _ z => by cases z
  cases c <;> simp only [constD] at h1 <;> try (cases h1; done)
  all_goals cases h1
  · exact PE.imp pe_non fun σ H Q q => tD_k q fun L H => rd_none
  · exact PE.imp pe_bl fun σ H Q q => tD_k q fun L H => rd_bool
  · exact PE.imp pe_int fun σ H Q q => tD_k q fun L H => rd_int
  · exact PE.imp pe_str fun σ H Q q => tD_k q fun L H => rd_str
theorem e_name (C : XOk Γ G m X) {n : Nat} {x : Str} {pos : Pos} {ir : Ex} (h : comp (n + 1) Γ (.Name x pos) = some ir) : E3 X G (.Name x pos) ir := by
  refine .plain ?_ (fun _ => rfl) fun _ _ _ z => by cases z
  unfold comp at h
  dsimp only at h
  split at h
  · rename_i ok
    obtain ⟨o1, o2, o3⟩ := okName_ne ok
    split at h
    · rename_i v
      obtain ⟨i, h1, rfl⟩ := omap h
      exact PE.imp (pe_var (by rw [C.N]; exact ixOf0 h1) (vis_of C v) o1 o2) fun σ H Q q => tD_v q
    · split at h
      · rename_i g
        obtain ⟨d, h1, rfl⟩ := omap h
        obtain ⟨u, v, h2, h3, h4⟩ := C.cs x d h1
        exact PE.imp (pe_glob (gl_of C g) h2 h3 o1) fun σ H Q q => tD_k q h4
      · cases h
  · cases h
theorem e_bin {n : Nat} (ih : IH Γ G X n) {a b : Expr} {op : Operator} {pos : Pos} {ir : Ex} (h : comp (n + 1) Γ (.BinOp a op b pos) = some ir) : E3 X G (.BinOp a op b pos) ir := by
  refine .plain ?_ (fun _ => rfl) fun _ _ _ z => by cases z
  obtain ⟨o, h0, h⟩ := obind (show (binO op).bind _ = some ir from h)
  obtain ⟨a', h1, h⟩ := obind h
  obtain ⟨b', h2, h⟩ := obind h
  cases h
  exact PE.imp (pe_op (bin_or h0) (ih a a' h1).e (ih b b' h2).e) fun σ H Q q => tOp_of q
theorem e_neg {n : Nat} (ih : IH Γ G X n) {a : Expr} {pos : Pos} {ir : Ex} (h : comp (n + 1) Γ (.UnaryOp .USub a pos) = some ir) : E3 X G (.UnaryOp .USub a pos) ir := by
  refine .plain ?_ (fun _ => rfl) fun _ _ _ z => by cases z
  obtain ⟨a', h1, rfl⟩ := omap (show (comp n Γ a).map _ = some ir from h)
  exact PE.imp (pe_un un_neg (ih a a' h1).e) fun σ H Q q => tD_neg q
theorem e_not {n : Nat} (ih : IH Γ G X n) {a : Expr} {pos : Pos} {ir : Ex} (h : comp (n + 1) Γ (.UnaryOp .Not a pos) = some ir) : E3 X G (.UnaryOp .Not a pos) ir := by
  obtain ⟨a', h1, rfl⟩ := omap (show (comp n Γ a).map _ = some ir from h)
  exact ⟨PE.imp (pe_notT (ih a a' h1).e) fun σ H Q q => tD_not q, PT.imp (pt_not (ih a a' h1).t) fun σ H Q q => tB_not q, fun _ _ _ z => by cases z⟩
theorem e_bool {n : Nat} (ih : IH Γ G X n) {op : _} {vs : List Expr} {pos : Pos} {ir : Ex} (h : comp (n + 1) Γ (.BoolOp op vs pos) = some ir) : E3 X G (.BoolOp op vs pos) ir := by
  match op, vs, h with
  | .And, [], h => cases h
  | .Or, [], h => cases h
  | .And, [a], h => have := ih a ir h; exact ⟨pe_one this.e, (pw_and1 this.t).pt, fun _ _ _ _ => pw_and1 this.t⟩
  | .Or, [a], h => have := ih a ir h; exact ⟨pe_one this.e, (pw_or1 this.t).pt, fun _ _ _ _ => pw_or1 this.t⟩
  | .And, a :: b :: r, h =>
    obtain ⟨a', h1, h⟩ := obind (show (comp n Γ a).bind _ = some ir from h)
    obtain ⟨b', h2, h⟩ := obind h
    cases h
    have i1 := ih a a' h1
    have i2 := ih _ b' h2
    have w : PW X (.BoolOp .And (a :: b :: r) pos) (tB X.K G (.and a' b')) := PW.imp (pw_and i1.t (i2.w _ _ _ rfl)) fun σ H Q q => tB_and q
    exact ⟨PE.imp (pe_andT i1.e i2.e) fun σ H Q q => tD_and q, w.pt, fun _ _ _ _ => w⟩
  | .Or, a :: b :: r, h =>
    obtain ⟨a', h1, h⟩ := obind (show (comp n Γ a).bind _ = some ir from h)
    obtain ⟨b', h2, h⟩ := obind h
    cases h
    have i1 := ih a a' h1
    have i2 := ih _ b' h2
    have w : PW X (.BoolOp .Or (a :: b :: r) pos) (tB X.K G (.or a' b')) := PW.imp (pw_or i1.t (i2.w _ _ _ rfl)) fun σ H Q q => tB_or q
    exact ⟨PE.imp (pe_orT i1.e i2.e) fun σ H Q q => tD_or q, w.pt, fun _ _ _ _ => w⟩
theorem e_ife {n : Nat} (ih : IH Γ G X n) {c a b : Expr} {pos : Pos} {ir : Ex} (h : comp (n + 1) Γ (.IfExp c a b pos) = some ir) : E3 X G (.IfExp c a b pos) ir := by
  obtain ⟨c', h0, h⟩ := obind (show (comp n Γ c).bind _ = some ir from h)
  obtain ⟨a', h1, h⟩ := obind h
  obtain ⟨b', h2, h⟩ := obind h
  cases h
  exact ⟨PE.imp (pe_ifExp (ih c c' h0).t (ih a a' h1).e (ih b b' h2).e) fun σ H Q q => tD_ife q, PT.imp (pt_ife (ih c c' h0).t (ih a a' h1).t (ih b b' h2).t) fun σ H Q q => tB_ife q, fun _ _ _ z => by cases z⟩
theorem e_cmp (C : XOk Γ G m X) {n : Nat} (ih : IH Γ G X n) {a b : Expr} {op : CmpOp} {pos : Pos} {ir : Ex} (h : comp (n + 1) Γ (.Compare a [op] [b] pos) = some ir) : E3 X G (.Compare a [op] [b] pos) ir := by
  unfold comp at h
  dsimp only at h
  split at h
  · rename_i hn
    have hb : ∃ k p, b = .Constant .none k p := by
      unfold noneE at hn
      split at hn
      · exact ⟨_, _, rfl⟩
      · cases hn
    obtain ⟨k, p, rfl⟩ := hb
    cases op <;> try (cases h; done)
    · obtain ⟨a', h1, rfl⟩ := omap h
      exact ⟨PE.imp (pe_cmp (pc_isN (ih a a' h1).e)) fun σ H Q q => tD_isn q, PT.imp (pt_cmp (pc_isN (ih a a' h1).e)) fun σ H Q q => tTest_of q (op_bool fun ys rr e => by
        match ys, e with
        | [], e => cases e
        | [y], e => cases e; exact ⟨_, rfl⟩
        | _ :: _ :: _, e => cases e) fun Q' z => tD_isn z, fun _ _ _ z => by cases z⟩
    · obtain ⟨a', h1, rfl⟩ := omap h
      exact ⟨PE.imp (pe_cmp (pc_notN (ih a a' h1).e)) fun σ H Q q => tD_isnn q, PT.imp (pt_cmp (pc_notN (ih a a' h1).e)) fun σ H Q q => tTest_of q (op_bool fun ys rr e => by
        match ys, e with
        | [], e => cases e
        | [y], e => cases e; exact ⟨_, rfl⟩
        | _ :: _ :: _, e => cases e) fun Q' z => tD_isnn z, fun _ _ _ z => by cases z⟩
  · split at h
    · rename_i hm
      obtain ⟨o, h0, h⟩ := obind h
      obtain ⟨a', h1, h⟩ := obind h
      obtain ⟨b', h2, h⟩ := obind h
      cases h
      exact ⟨PE.imp (pe_cmpR (cmp_or C.un h0) (ih a a' h1).e (ih b b' h2).e hm) fun σ H Q q => tOp_of q,
        PT.imp (pt_cmpR (cmp_or C.un h0) (ih a a' h1).e (ih b b' h2).e hm) fun σ H Q q => tTest_of q (op_bool (cmp_bool h0)) fun Q' z => tOp_of z, fun _ _ _ z => by cases z⟩
    · cases h
theorem ch_bool {o o' : Op} {a b c : Ex} (h' : ∀ ys rr, o'.run ys = some rr → ∃ k, rr = .d (.bool k)) (f : F) (rv : RV) (f' : F) (h : evE G (.ch o o' a b c) f = .ok (rv, f')) : ∃ k, rv = .d (.bool k) := by
  unfold evE at h
  obtain ⟨⟨r1, f1⟩, e1, h⟩ := bind_ok h
  obtain ⟨⟨r2, f2⟩, e2, h⟩ := bind_ok h
  obtain ⟨rr, e3, h⟩ := bind_ok h
  dsimp only at h
  split at h
  · obtain ⟨⟨r3, f3⟩, e4, h⟩ := bind_ok h
    obtain ⟨rr2, e5, h⟩ := bind_ok h
    cases h
    obtain ⟨l, _, e6⟩ := obind (ofOpt_ok e5)
    obtain ⟨k, rfl⟩ := h' _ _ e6
    exact ⟨k, rfl⟩
  · cases h; exact ⟨_, rfl⟩
  · cases h
theorem e_ch (C : XOk Γ G m X) {n : Nat} (ih : IH Γ G X n) {a b c : Expr} {op op' : CmpOp} {pos : Pos} {ir : Ex} (h : comp (n + 1) Γ (.Compare a [op, op'] [b, c] pos) = some ir) : E3 X G (.Compare a [op, op'] [b, c] pos) ir := by
  unfold comp at h
  dsimp only at h
  split at h
  · rename_i hm
    obtain ⟨o, h0, h⟩ := obind h
    obtain ⟨o', h0', h⟩ := obind h
    obtain ⟨a', h1, h⟩ := obind h
    obtain ⟨b', h2, h⟩ := obind h
    obtain ⟨c', h3, h⟩ := obind h
    cases h
    exact ⟨PE.imp (pe_chain (cmp_or C.un h0) (cmp_or C.un h0') (ih a a' h1).e (ih b b' h2).e (ih c c' h3).e hm) fun σ H Q q => tD_ch q,
      PT.imp (pt_chain (cmp_or C.un h0) (cmp_or C.un h0') (ih a a' h1).e (ih b b' h2).e (ih c c' h3).e hm) fun σ H Q q => tTest_of q (ch_bool (cmp_bool h0')) fun Q' z => tD_ch z, fun _ _ _ z => by cases z⟩
  · cases h
theorem chn_len : ∀ {es : List Ex} {f f' : F} {rvs : List RV}, evEs G es f = .ok (rvs, f') → rvs.length = es.length
  | [], _, _, _, h => by unfold evEs at h; cases h; rfl
  | e :: es, _, _, _, h => by
    unfold evEs at h
    obtain ⟨⟨r1, f1⟩, e1, h⟩ := bind_ok h
    obtain ⟨⟨r2, f2⟩, e2, h⟩ := bind_ok h
    cases h
    exact congrArg (· + 1) (chn_len e2)
theorem RVRs.len {K : PySem.W.Frag} {L A : ASet} {as : List Addr} {σ : L2.St} {H : Hp} : ∀ {rvs : List RV} {vs : List V}, RVRs K L A as σ H rvs vs → vs.length = rvs.length
  | [], _, h => by rw [show _ = [] from h]; rfl
  | _ :: _, _, ⟨v, ws, e, _, h⟩ => by rw [e]; exact congrArg (· + 1) h.len
theorem tCall_of {K : PySem.W.Frag} {mg : Str → Option Value} {σ : L2.St} {H : Hp} {g n : Nat} {es : List Ex} {Q : VK} {E : XK} (hn : es.length = n) (h : tD K G (.call g es) σ H Q) : tDs K G es σ H fun vs H1 => spG K mg n (G g) vs H1 Q E := by
  obtain ⟨A, as, f, rv, f', R, he, hQ⟩ := h
  unfold evE at he
  obtain ⟨⟨rs, f1⟩, e1, he⟩ := bind_ok he
  refine ⟨A, as, f, rs, f1, R, e1, fun vs H1 p => call_ok p he ?_ hQ⟩
  obtain ⟨A', _, _, r, _⟩ := p
  rw [r.len, chn_len e1, hn]
/-- a call that may let an exception out, by data; W: where it goes -/
def tDX (K : PySem.W.Frag) (mg : Str → Option Value) (W : WX) (G : Call) (e : Ex) : TE := fun σ H Q => ∃ A as f rr f', Rel K A as f σ H ∧ evX G e f = .ok (rr, f') ∧ ∀ v H', Post K A as f σ H rr.rv f' v H' → endC mg Q (fun cls d H2 => W cls d σ H2) rr v H'
theorem tCallX_of {K : PySem.W.Frag} {mg : Str → Option Value} {W : WX} {σ : L2.St} {H : Hp} {g n : Nat} {es : List Ex} {Q : VK} (hn : es.length = n) (h : tDX K mg W G (.call g es) σ H Q) : tDs K G es σ H fun vs H1 => spG K mg n (G g) vs H1 Q fun cls d H2 => W cls d σ H2 := by
  obtain ⟨A, as, f, rr, f', R, he, hQ⟩ := h
  unfold evX at he
  obtain ⟨⟨rs, f1⟩, e1, he⟩ := bind_ok he
  refine ⟨A, as, f, rs, f1, R, e1, fun vs H1 p => call_okX p he ?_ hQ⟩
  obtain ⟨A', _, _, r, _⟩ := p
  rw [r.len, chn_len e1, hn]
theorem e_defX {W : WX} (C : XOk Γ G m X) {n : Nat} (ih : IH Γ G X n) {x : Str} {p pos : Pos} {es : List Expr} {g : Nat} {ps : List Str} {es' : List Ex} (tk : Takes X W) (ok : okName x = true) (hg : Γ.gl x = true) (hd : defOf Γ.defs x 0 = some (g, ps)) (hes : mapO (comp n Γ) es = some es') (hl : es.length = ps.length) (hkw : Γ.kwo.contains x = false) :
    PE X (.Call (.Name x p) es [] pos) (tDX X.K X.mg W G (.call g es')) := by
  obtain ⟨o1, o2, o3⟩ := okName_ne ok
  obtain ⟨f, fd, h1, h2, h3, _, h4⟩ := C.df x g ps hd
  have hl' : es'.length = ps.length := (mapO_len hes).trans hl
  cases es with
  | nil =>
    cases hes
    exact PE.imp (pe_callX0 h4 C.room C.gd tk (gl_of C hg) h1 h2 (h3 hkw) o1) fun σ H Q q => tDs_nil (tCallX_of hl' q)
  | cons e es =>
    obtain ⟨b, t, q1, q2, rfl⟩ := mapO_cons hes
    exact PE.imp (pe_callX h4 C.room C.gd tk (gl_of C hg) h1 h2 (h3 hkw) (comps_pa ih.pe hes) o1 (comp_star q1 es X.env) (mapO_plain q2)) fun σ H Q q => tCallX_of hl' q
theorem e_def (C : XOk Γ G m X) {n : Nat} (ih : IH Γ G X n) {x : Str} {p pos : Pos} {es : List Expr} {g : Nat} {ps : List Str} {es' : List Ex} (ok : okName x = true) (hg : Γ.gl x = true) (hd : defOf Γ.defs x 0 = some (g, ps)) (hes : mapO (comp n Γ) es = some es') (hl : es.length = ps.length) (hkw : Γ.kwo.contains x = false) :
    E3 X G (.Call (.Name x p) es [] pos) (.call g es') := by
  refine .plain ?_ (fun _ => rfl) fun _ _ _ z => by cases z
  obtain ⟨o1, o2, o3⟩ := okName_ne ok
  obtain ⟨f, fd, h1, h2, h3, _, h4⟩ := C.df x g ps hd
  have hl' : es'.length = ps.length := (mapO_len hes).trans hl
  cases es with
  | nil =>
    cases hes
    exact PE.imp (pe_callG0 h4 C.room C.gd (gl_of C hg) h1 h2 (h3 hkw) o1) fun σ H Q q => tDs_nil (tCall_of hl' q)
  | cons e es =>
    obtain ⟨b, t, q1, q2, rfl⟩ := mapO_cons hes
    exact PE.imp (pe_callG h4 C.room C.gd (gl_of C hg) h1 h2 (h3 hkw) (comps_pa ih.pe hes) o1 (comp_star q1 es X.env) (mapO_plain q2)) fun σ H Q q => tCall_of hl' q
theorem gl_name {Γ : Gam} {x : Str} (h : Γ.bs.contains x = true) : True := trivial
theorem e_bi (C : XOk Γ G m X) {n : Nat} (ih : IH Γ G X n) {x : Str} {p pos : Pos} {es : List Expr} {o : Op} {es' : List Ex} (ok : okName x = true) (hg : Γ.gl x = true) (hb : Γ.bs.contains x = true) (ho : Γ.biO x es.length = some o) (hes : mapO (comp n Γ) es = some es') :
    E3 X G (.Call (.Name x p) es [] pos) (.op o es') := by
  refine .plain ?_ (fun _ => rfl) fun _ _ _ z => by cases z
  obtain ⟨o1, o2, o3⟩ := okName_ne ok
  cases es with
  | nil =>
    unfold Gam.biO at ho
    split at ho
    · rename_i z; exact absurd z.2.2 (by simp)
    · cases ho
  | cons e es =>
    obtain ⟨b, t, q1, q2, rfl⟩ := mapO_cons hes
    rcases bi_ok C.calm C.un C.gd ho with ⟨id, h1, h2⟩ | ⟨T, h1, h2⟩
    · exact PE.imp (pe_callB h2 (gl_of C hg) (C.bs x hb) h1 (comps_pa ih.pe hes) o3 o1 (comp_star q1 es X.env) (mapO_plain q2)) fun σ H Q q => tCB_of q
    · exact PE.imp (pe_callTy h2 (gl_of C hg) (C.bs x hb) h1 (comps_pa ih.pe hes) o3 o1 (comp_star q1 es X.env) (mapO_plain q2)) fun σ H Q q => tCB_of q
theorem e_tup {n : Nat} (ih : IH Γ G X n) {es : List Expr} {k : _} {pos : Pos} {es' : List Ex} (hes : mapO (comp n Γ) es = some es') : E3 X G (.Tuple es k pos) (.tup es') := by
  refine .plain ?_ (fun _ => rfl) fun _ _ _ z => by cases z
  exact PE.imp (pe_tup (comps_pa ih.pe hes)) fun σ H Q q => tD_tup q
theorem e_lst {n : Nat} (ih : IH Γ G X n) {es : List Expr} {pos : Pos} {es' : List Ex} (hes : mapO (comp n Γ) es = some es') : E3 X G (.List es pos) (.lst es') := by
  refine .plain ?_ (fun _ => rfl) fun _ _ _ z => by cases z
  exact PE.imp (pe_lst (comps_pa ih.pe hes)) fun σ H Q q => tD_lst q
theorem tyN_ok {t : Str} {T : String} (h : tyName t = some T) : bootBuiltins t = some (.type T) := by
  unfold tyName at h
  split at h
  · cases h; subst_vars; decide +kernel
  split at h
  · cases h; subst_vars; decide +kernel
  split at h
  · cases h; subst_vars; decide +kernel
  split at h
  · cases h; subst_vars; decide +kernel
  split at h
  · cases h; subst_vars; decide +kernel
  split at h
  · cases h; subst_vars; decide +kernel
  · cases h
theorem cr_isI {t : String} : CallR X (.builtin "isinstance") (fun vs H Q => ∃ x, vs = [x, .ty t] ∧ OpQ X.K (.isI t) [x] H Q) := by
  intro pins s σ H vs us Q I r h
  obtain ⟨x, rfl, L, ys, rr, rd, e, q⟩ := h
  obtain ⟨a, rfl, ha⟩ := rd1s1 rd
  exact isI_run (xs := [x]) I r ha e q
theorem e_isI (C : XOk Γ G m X) {n : Nat} (ih : IH Γ G X n) {t : Str} {p p2 pos : Pos} {a : Expr} {a' : Ex} {T : String} (hg : Γ.gl "isinstance" = true) (hb : Γ.bs.contains "isinstance" = true) (ok : okName t = true) (hgt : Γ.gl t = true) (hbt : Γ.bs.contains t = true) (ht : tyName t = some T) (ha : comp n Γ a = some a') :
    E3 X G (.Call (.Name "isinstance" p) [a, .Name t p2] [] pos) (.op (.isI T) [a']) := by
  refine .plain ?_ (fun _ => rfl) fun _ _ _ z => by cases z
  obtain ⟨o1, o2, o3⟩ := okName_ne ok
  have h2 : PE X (.Name t p2) (tC (.ty T)) := pe_bltn (gl_of C hgt) (C.bs t hbt) (tyN_ok ht) rfl o3 o1
  refine PE.imp (pe_callB (cr_isI (t := T)) (gl_of C hg) (C.bs _ hb) (by decide +kernel) (pa_cons (ih a a' ha).e (pa_cons h2 pa_nil rfl) (comp_star ha _ _)) (by decide) (by decide) (comp_star ha _ _) rfl) fun σ H Q q => ?_
  exact tD.mono (tDs_one (tD_op q)) fun x H1 q1 => ⟨x, rfl, q1⟩
end
end Vm
set_option maxRecDepth 100000
set_option maxHeartbeats 400000
namespace Vm
open PySem PySem.Spec L2
section
variable {X : Cx} {Γ : Gam} {G : Call} {m : Nat}
theorem nope {ir : Ex} {α : Prop} (h : none = some ir) : α := by cases h
theorem plainIx_of {n : Nat} {i : Expr} {ir : Ex} (h : comp n Γ i = some ir) : PlainIx i := by
  cases n with
  | zero => cases h
  | succ n =>
    intro o j
    cases i
    case Slice => exact nope h
    all_goals rfl
theorem e_ix {n : Nat} (ih : IH Γ G X n) {a i : Expr} {pos : Pos} {a' i' : Ex} (h1 : comp n Γ a = some a') (h2 : comp n Γ i = some i') : E3 X G (.Subscript a i pos) (.op .item [a', i']) := by
  refine .plain ?_ (fun _ => rfl) fun _ _ _ z => by cases z
  exact PE.imp (pe_ix ixr_item (ih a a' h1).e (ih i i' h2).e (plainIx_of h2)) fun σ H Q q => tOp_of q
theorem e_s00 {n : Nat} (ih : IH Γ G X n) {a : Expr} {p2 pos : Pos} {a' : Ex} (h1 : comp n Γ a = some a') : E3 X G (.Subscript a (.Slice none none none p2) pos) (.op (.slice false false) [a']) := by
  refine .plain ?_ (fun _ => rfl) fun _ _ _ z => by cases z
  exact PE.imp (pe_slice slr_slice (ih a a' h1).e po_none po_none) fun σ H Q q => tSl_00 q
theorem e_s01 {n : Nat} (ih : IH Γ G X n) {a u : Expr} {p2 pos : Pos} {a' u' : Ex} (h1 : comp n Γ a = some a') (h2 : comp n Γ u = some u') : E3 X G (.Subscript a (.Slice none (some u) none p2) pos) (.op (.slice false true) [a', u']) := by
  refine .plain ?_ (fun _ => rfl) fun _ _ _ z => by cases z
  exact PE.imp (pe_slice slr_slice (ih a a' h1).e po_none (po_some (ih u u' h2).e)) fun σ H Q q => tSl_01 q
theorem e_s10 {n : Nat} (ih : IH Γ G X n) {a u : Expr} {p2 pos : Pos} {a' u' : Ex} (h1 : comp n Γ a = some a') (h2 : comp n Γ u = some u') : E3 X G (.Subscript a (.Slice (some u) none none p2) pos) (.op (.slice true false) [a', u']) := by
  refine .plain ?_ (fun _ => rfl) fun _ _ _ z => by cases z
  exact PE.imp (pe_slice slr_slice (ih a a' h1).e (po_some (ih u u' h2).e) po_none) fun σ H Q q => tSl_10 q
theorem e_s11 {n : Nat} (ih : IH Γ G X n) {a u w : Expr} {p2 pos : Pos} {a' u' w' : Ex} (h1 : comp n Γ a = some a') (h2 : comp n Γ u = some u') (h3 : comp n Γ w = some w') : E3 X G (.Subscript a (.Slice (some u) (some w) none p2) pos) (.sl2 a' u' w') := by
  refine .plain ?_ (fun _ => rfl) fun _ _ _ z => by cases z
  exact PE.imp (pe_slice slr_slice (ih a a' h1).e (po_some (ih u u' h2).e) (po_some (ih w w' h3).e)) fun σ H Q q => tSl_11 q
theorem m1_ok {st : Expr} (h : m1E st = true) : ∃ k p1 p2, st = .UnaryOp .USub (.Constant (.int 1) k p1) p2 := by
  unfold m1E at h
  split at h
  · have := of_decide_eq_true h
    subst this
    exact ⟨_, _, _, rfl⟩
  · cases h
theorem e_sub {n : Nat} (ih : IH Γ G X n) {a i : Expr} {pos : Pos} {ir : Ex} (hr : ∀ e' k p1 p2 p3 a' , comp n Γ e' = some a' → E3 X G (.Subscript e' (.Slice none none (some (.UnaryOp .USub (.Constant (.int 1) k p1) p2)) p3) pos) (.op .rev [a']))
    (h : comp (n + 1) Γ (.Subscript a i pos) = some ir) : E3 X G (.Subscript a i pos) ir := by
  by_cases hs : ∃ lo hi st p, i = .Slice lo hi st p
  · obtain ⟨lo, hi, st, p, rfl⟩ := hs
    cases st with
    | none =>
      cases lo with
      | none =>
        cases hi with
        | none =>
          obtain ⟨a', h1, h⟩ := obind (show (comp n Γ a).bind _ = some ir from h)
          cases h
          exact e_s00 ih h1
        | some u =>
          obtain ⟨a', h1, h⟩ := obind (show (comp n Γ a).bind _ = some ir from h)
          obtain ⟨u', h2, h⟩ := obind h
          cases h
          exact e_s01 ih h1 h2
      | some l =>
        cases hi with
        | none =>
          obtain ⟨a', h1, h⟩ := obind (show (comp n Γ a).bind _ = some ir from h)
          obtain ⟨u', h2, h⟩ := obind h
          cases h
          exact e_s10 ih h1 h2
        | some u =>
          obtain ⟨a', h1, h⟩ := obind (show (comp n Γ a).bind _ = some ir from h)
          obtain ⟨l', h2, h⟩ := obind h
          obtain ⟨u', h3, h⟩ := obind h
          cases h
          exact e_s11 ih h1 h2 h3
    | some st =>
      cases lo with
      | some l => cases hi <;> exact nope h
      | none =>
        cases hi with
        | some u => exact nope h
        | none =>
          replace h : (if m1E st = true then (comp n Γ a).bind fun a => some (.op .rev [a]) else none) = some ir := h
          split at h
          · rename_i h1
            obtain ⟨k, p1, p2, rfl⟩ := m1_ok h1
            obtain ⟨a', h1, h⟩ := obind h
            cases h
            exact hr _ _ _ _ _ _ h1
          · exact nope h
  · have h : (comp n Γ a).bind (fun a => (comp n Γ i).bind fun i => some (.op .item [a, i])) = some ir := by
      cases i
      case Slice => exact absurd ⟨_, _, _, _, rfl⟩ hs
      all_goals exact h
    obtain ⟨a', h1, h⟩ := obind h
    obtain ⟨i', h2, h⟩ := obind h
    cases h
    exact e_ix ih h1 h2
end
end Vm
set_option maxRecDepth 100000
set_option maxHeartbeats 1000000
namespace Vm
open PySem PySem.Spec L2
/-! ### targets -/
section
variable (K : PySem.W.Frag) (A : ASet) (as : List Addr) (f : F) (σ : L2.St) (H : Hp)
/-- behind a binding -/
def BndPost (ρ' : List LV) (is : List Nat) (σ' : L2.St) : Prop :=
  Rel K A as { f with ρ := ρ' } σ' H ∧ Ext (Lv A f as σ) H (Lv A { f with ρ := ρ' } as σ') H ∧ σ'.length = σ.length ∧ ∀ j, j ∉ is → σ'[j]? = σ[j]?
end
def tG (K : PySem.W.Frag) (t : Tg) : TG := fun v σ H Q => ∃ A as f d ρ', Rel K A as f σ H ∧ Rd K (Lv A f as σ) H d v ∧ bindT t d f.ρ = some ρ' ∧ ∀ σ', BndPost K A as f σ H ρ' (tgI t) σ' → Q σ' H
def tGs (K : PySem.W.Frag) (ts : List Tg) : TGs := fun vs σ H Q => ∃ A as f ds ρ', Rel K A as f σ H ∧ RdA K (Lv A f as σ) H ds vs ∧ bindTs ts ds f.ρ = some ρ' ∧ ∀ σ', BndPost K A as f σ H ρ' (tgIs ts) σ' → Q σ' H
theorem PG.imp {X : Cx} {e : Expr} {t t' : TG} (h : PG X e t) (i : ∀ v σ H Q, t' v σ H Q → t v σ H Q) : PG X e t' := ⟨fun pins s σ H v u Q I r q => h.run pins s σ H v u Q I r (i v σ H Q q)⟩
theorem PGs.imp {X : Cx} {e : List Expr} {t t' : TGs} (h : PGs X e t) (i : ∀ v σ H Q, t' v σ H Q → t v σ H Q) : PGs X e t' := ⟨fun pins s σ H v u Q I r q => h.run pins s σ H v u Q I r (i v σ H Q q)⟩
section
variable {K : PySem.W.Frag} {A : ASet} {as : List Addr} {f : F} {σ : L2.St} {H : Hp}
theorem set_ge {α : Type} {l : List α} {i : Nat} {x : α} (h : l.length ≤ i) : l.set i x = l := by
  induction l generalizing i with
  | nil => rfl
  | cons a r ih => cases i with
    | zero => simp at h
    | succ i => simp only [List.set_cons_succ]; rw [ih (by simpa using h)]
theorem bnd_nameP {i : Nat} {d : D} {v : V} (R : Rel K A as f σ H) (h : RdP K (Lv A f as σ) H d v) : BndPost K A as f σ H (f.ρ.set i (.d d)) [i] (σ.set i (some v)) := by
  have oth : ∀ j, j ∉ [i] → (σ.set i (some v))[j]? = σ[j]? := fun j hj => List.getElem?_set_ne (fun z => hj (by rw [z]; exact List.mem_singleton_self _))
  by_cases hi : i < f.ρ.length
  · obtain ⟨R', x⟩ := R.setSlot (σ' := σ.set i (some v)) (H' := H) (l := .d d) hi (fun j hj => List.getElem?_set_ne (Ne.symm hj)) (by simp) (fun a z => z) (fun _ _ _ => rfl) (fun a o e _ => e) R.al
      ⟨v, by rw [List.getElem?_set_self (by rw [R.lenσ]; exact hi)], h.ext (Ext.less fun a z => z.1)⟩
    exact ⟨R', x, by simp, oth⟩
  · have e1 : f.ρ.set i (.d d) = f.ρ := set_ge (by omega)
    have e2 : σ.set i (some v) = σ := set_ge (by rw [R.lenσ]; omega)
    rw [e1, e2]
    exact ⟨R, Ext.refl, rfl, fun _ _ => rfl⟩
theorem bnd_name {i : Nat} {d : D} {v : V} (R : Rel K A as f σ H) (h : Rd K (Lv A f as σ) H d v) : BndPost K A as f σ H (f.ρ.set i (.d d)) [i] (σ.set i (some v)) := bnd_nameP R (.inl h)
theorem BndPost.trans {ρ1 ρ2 : List LV} {is js : List Nat} {σ1 σ2 : L2.St} (a : BndPost K A as f σ H ρ1 is σ1) (b : BndPost K A as { f with ρ := ρ1 } σ1 H ρ2 js σ2) : BndPost K A as f σ H ρ2 (is ++ js) σ2 :=
  ⟨b.1, a.2.1.trans b.2.1, b.2.2.1.trans a.2.2.1, fun j hj => (b.2.2.2 j fun z => hj (List.mem_append_right _ z)).trans (a.2.2.2 j fun z => hj (List.mem_append_left _ z))⟩
end
theorem assignEach_len : ∀ (ts : List Expr) (env : Env), (assignEach ts env).length = ts.length
  | [], _ => rfl
  | t :: ts, env => by
    cases t <;> exact congrArg (· + 1) (assignEach_len ts env)
section
variable {X : Cx} {Γ : Gam}
theorem tgs_cons {t : Expr} {ts : List Expr} {l : List Tg} (h : tgCs Γ (t :: ts) = some l) : ∃ a r, tgC Γ t = some a ∧ tgCs Γ ts = some r ∧ l = a :: r := by
  unfold tgCs at h
  obtain ⟨a, h1, h⟩ := obind h
  obtain ⟨r, h2, h⟩ := obind h
  cases h
  exact ⟨a, r, h1, h2, rfl⟩
theorem tgs_len : ∀ {ts : List Expr} {l : List Tg}, tgCs Γ ts = some l → l.length = ts.length
  | [], _, h => by unfold tgCs at h; cases h; rfl
  | t :: ts, _, h => by
    obtain ⟨a, r, _, h2, rfl⟩ := tgs_cons h
    exact congrArg (· + 1) (tgs_len h2)
theorem tgC_star {t : Expr} {a : Tg} (h : tgC Γ t = some a) (ts : List Expr) (env : Env) : assignEach (t :: ts) env = (false, assign t env) :: assignEach ts env := by
  cases t
  case Starred => unfold tgC at h; cases h
  all_goals rfl
theorem tgs_nostar : ∀ {ts : List Expr} {l : List Tg} {env : Env}, tgCs Γ ts = some l → (assignEach ts env).findIdx? (·.1) = none
  | [], _, _, _ => rfl
  | t :: ts, _, env, h => by
    obtain ⟨a, r, h1, h2, rfl⟩ := tgs_cons h
    rw [tgC_star h1, List.findIdx?_cons, tgs_nostar h2]; rfl
theorem Rd.tupS {K : PySem.W.Frag} {L : ASet} {H : Hp} {ds : List D} {v : V} (h : Rd K L H (.tuple ds) v) : ∃ a vs, v = .ref a ∧ SqT K H a vs ∧ RdA K L H ds vs := by
  unfold Rd at h
  obtain ⟨a, vs, e, s, r⟩ := h
  exact ⟨a, vs, e, s.sq, r⟩
theorem bindTs_len : ∀ {ts : List Tg} {ds : List D} {ρ ρ' : List LV}, bindTs ts ds ρ = some ρ' → ds.length = ts.length
  | [], [], _, _, _ => rfl
  | [], _ :: _, _, _, h => by cases h
  | _ :: _, [], _, _, h => by cases h
  | t :: ts, d :: ds, _, _, h => by
    unfold bindTs at h
    obtain ⟨ρ1, _, h⟩ := obind h
    exact congrArg (· + 1) (bindTs_len h)
theorem st_ok (hs : X.env.scope = Γ.sc) (hf : ∀ x, Γ.fn x = true → X.fn x = true) {x : Str} (h : Γ.st x = true) : L2.Loc X.env.scope x ∧ (X.fn x = true ∨ X.env.scope.names.lookup x = some .local) := by
  unfold Gam.st at h
  rw [hs]
  split at h
  · exact ⟨.inl (by assumption), .inr (by assumption)⟩
  · exact ⟨.inr (by assumption), .inl (hf x h)⟩
  · cases h
mutual
theorem pg_tg (hN : X.N = Γ.N) (nd : X.N.Nodup) (hs : X.env.scope = Γ.sc) (hc : X.calm = true) (hf : ∀ x, Γ.fn x = true → X.fn x = true) : ∀ (t : Expr) (a : Tg), tgC Γ t = some a → PG X t (tG X.K a)
  | .Name x pos, a, h => by
    unfold tgC at h
    split at h
    · rename_i hc
      obtain ⟨i, h1, rfl⟩ := omap h
      simp only [Bool.and_eq_true] at hc
      obtain ⟨hl, hl2⟩ := st_ok hs hf hc.1
      refine PG.imp (pg_name nd (by rw [hN]; exact ixOf0 h1) hl hl2) fun v σ H Q q => ?_
      obtain ⟨A, as, f, d, ρ', R, r, e, q⟩ := q
      cases e
      exact q _ (bnd_name R r)
    · cases h
  | .Tuple ts k pos, a, h => by
    obtain ⟨l, h1, rfl⟩ := omap (show (tgCs Γ ts).map Tg.tup = some a from h)
    refine PG.imp (pg_tup (n := ts.length) hc (pgs_tg hN nd hs hc hf ts l h1) (assignEach_len ts _) (tgs_nostar h1)) fun v σ H Q q => ?_
    obtain ⟨A, as, f, d, ρ', R, r, e, q⟩ := q
    cases d <;> try (cases e; done)
    rename_i ds
    obtain ⟨a, vs, ev, sq, rd⟩ := r.tupS
    exact ⟨a, vs, ev, sq, by rw [rd.len, ← tgs_len h1]; exact bindTs_len e, A, as, f, ds, ρ', R, rd, e, q⟩
  | .Starred .., a, h => by unfold tgC at h; cases h
  | .Constant .., a, h => by unfold tgC at h; cases h
  | .BoolOp .., a, h => by unfold tgC at h; cases h
  | .NamedExpr .., a, h => by unfold tgC at h; cases h
  | .BinOp .., a, h => by unfold tgC at h; cases h
  | .UnaryOp .., a, h => by unfold tgC at h; cases h
  | .Lambda .., a, h => by unfold tgC at h; cases h
  | .IfExp .., a, h => by unfold tgC at h; cases h
  | .Dict .., a, h => by unfold tgC at h; cases h
  | .Set .., a, h => by unfold tgC at h; cases h
  | .ListComp .., a, h => by unfold tgC at h; cases h
  | .SetComp .., a, h => by unfold tgC at h; cases h
  | .DictComp .., a, h => by unfold tgC at h; cases h
  | .GeneratorExp .., a, h => by unfold tgC at h; cases h
  | .Await .., a, h => by unfold tgC at h; cases h
  | .Yield .., a, h => by unfold tgC at h; cases h
  | .YieldFrom .., a, h => by unfold tgC at h; cases h
  | .Compare .., a, h => by unfold tgC at h; cases h
  | .Call .., a, h => by unfold tgC at h; cases h
  | .FormattedValue .., a, h => by unfold tgC at h; cases h
  | .JoinedStr .., a, h => by unfold tgC at h; cases h
  | .Attribute .., a, h => by unfold tgC at h; cases h
  | .Subscript .., a, h => by unfold tgC at h; cases h
  | .List .., a, h => by unfold tgC at h; cases h
  | .Slice .., a, h => by unfold tgC at h; cases h
theorem pgs_tg (hN : X.N = Γ.N) (nd : X.N.Nodup) (hs : X.env.scope = Γ.sc) (hc : X.calm = true) (hf : ∀ x, Γ.fn x = true → X.fn x = true) : ∀ (ts : List Expr) (l : List Tg), tgCs Γ ts = some l → PGs X ts (tGs X.K l)
  | [], l, h => by
    unfold tgCs at h
    cases h
    refine PGs.imp pgs_nil fun vs σ H Q q => ?_
    obtain ⟨A, as, f, ds, ρ', R, r, e, q⟩ := q
    cases ds with
    | nil => cases e; exact ⟨r, q σ ⟨R, Ext.refl, rfl, fun _ _ => rfl⟩⟩
    | cons _ _ => cases e
  | t :: ts, l, h => by
    obtain ⟨a, r, h1, h2, rfl⟩ := tgs_cons h
    refine PGs.imp (pgs_cons (pg_tg hN nd hs hc hf t a h1) (pgs_tg hN nd hs hc hf ts r h2) (by rw [tgC_star h1 ts X.env]; rfl)) fun vs σ H Q q => ?_
    obtain ⟨A, as, f, ds, ρ', R, rd, e, q⟩ := q
    cases ds with
    | nil => cases e
    | cons d ds =>
      unfold bindTs at e
      obtain ⟨ρ1, e1, e2⟩ := obind e
      obtain ⟨v, ws, ev, r1, r2⟩ := rd
      refine ⟨v, ws, ev, A, as, f, d, ρ1, R, r1, e1, fun σ1 p1 => ?_⟩
      exact ⟨A, as, _, ds, ρ', p1.1, r2.ext p1.2.1, e2, fun σ2 p2 => q σ2 (p1.trans p2)⟩
end
end
end Vm
set_option maxRecDepth 100000
set_option maxHeartbeats 1000000
namespace Vm
open PySem PySem.Spec L2
/-! ### what is gone over -/
/-- an iterator that gives these data, whatever happens elsewhere -/
def ItOk (K : PySem.W.Frag) (L : ASet) (H : Hp) (J : L2.It) (ds : List D) : Prop := ∀ (L' : ASet) (H' : Hp), Ext L H L' H' →
  J.stop ds.length H' ∧ ∀ i d, ds[i]? = some d → J.go i H' ∧ ∀ x H'', J.yld i H' x H'' → OpPost K L' H' (.d d) x H'' ∧ norm d = d
theorem ItOk.ext {K : PySem.W.Frag} {L L' : ASet} {H H' : Hp} {J : L2.It} {ds : List D} (h : ItOk K L H J ds) (x : Ext L H L' H') : ItOk K L' H' J ds := fun L2 H2 y => h L2 H2 (x.trans y)
def tI (K : PySem.W.Frag) (G : Call) (it : It) : TI := fun σ H R => ∃ A as f ds f', Rel K A as f σ H ∧ evI G it f = .ok (ds, f') ∧ ∀ J H', PostN K A as f σ H f' H' → ItOk K (Lv A f' as σ) H' J ds → R J H'
theorem PI.imp {X : Cx} {tg e : Expr} {t t' : TI} (h : PI X tg e t) (i : ∀ σ H R, t' σ H R → t σ H R) : PI X tg e t' := ⟨fun pins s σ H R I q => h.run pins s σ H R I (i σ H R q)⟩
theorem PI.or {X : Cx} {tg e : Expr} {t t' : TI} (h : PI X tg e t) (h' : PI X tg e t') : PI X tg e (fun σ H R => t σ H R ∨ t' σ H R) := ⟨fun pins s σ H R I q => q.elim (h.run pins s σ H R I) (h'.run pins s σ H R I)⟩
section
variable {K : PySem.W.Frag} {L : ASet} {H : Hp}
theorem it_list {a : Addr} {vs : List V} {ds : List D} (s : SL K L H a vs) (r : RdA K L H ds vs) : ItOk K L H (Itl K a) ds := by
  intro L' H' x
  have s' : SL K L' H' a vs := s.ext x
  have r' := r.ext x
  refine ⟨⟨vs, s'.sq, by rw [r.len]; exact Nat.le_refl _⟩, fun i d hd => ?_⟩
  obtain ⟨v, h1, h2⟩ := r'.get hd
  refine ⟨⟨vs, v, s'.sq, h1⟩, fun y H'' hy => ?_⟩
  obtain ⟨rfl, hy⟩ := hy
  have := hy vs s'.sq
  rw [h1] at this; cases this
  exact ⟨.inl ⟨rfl, h2⟩, h2.norm⟩
theorem it_tup {a : Addr} {vs : List V} {ds : List D} (s : ST K L H a vs) (r : RdA K L H ds vs) : ItOk K L H (Itt K a) ds := by
  intro L' H' x
  have s' : ST K L' H' a vs := s.ext x
  have r' := r.ext x
  refine ⟨⟨vs, s'.sq, by rw [r.len]; exact Nat.le_refl _⟩, fun i d hd => ?_⟩
  obtain ⟨v, h1, h2⟩ := r'.get hd
  refine ⟨⟨vs, v, s'.sq, h1⟩, fun y H'' hy => ?_⟩
  obtain ⟨rfl, hy⟩ := hy
  have := hy vs s'.sq
  rw [h1] at this; cases this
  exact ⟨.inl ⟨rfl, h2⟩, h2.norm⟩
theorem it_str {x : Str} : ItOk K L H (L2.Its x) (signs x) := by
  intro L' H' _
  refine ⟨?_, fun i d hd => ?_⟩
  · have : (signs x).length = x.cps.size := by simp [signs]
    rw [this]; exact Nat.le_refl _
  · unfold signs at hd
    rw [List.getElem?_map] at hd
    obtain ⟨c, hc, rfl⟩ := omap hd
    have hc' : x.cps[i]? = some c := by rw [← Array.getElem?_toList]; exact hc
    refine ⟨(Array.getElem?_eq_some_iff.mp hc').1, fun y H'' hy => ?_⟩
    obtain ⟨rfl, c', h1, rfl⟩ := hy
    rw [hc'] at h1; cases h1
    exact ⟨.inl ⟨rfl, rd_str⟩, rfl⟩
theorem it_rng {lo hi : Int} : ItOk K L H (Itr lo (hi - lo).toNat) (rangeL lo hi) := by
  intro L' H' _
  have hlen : (rangeL lo hi).length = (hi - lo).toNat := by simp [rangeL]
  refine ⟨by show (hi - lo).toNat ≤ _; omega, fun i d hd => ?_⟩
  unfold rangeL at hd
  rw [List.getElem?_map] at hd
  obtain ⟨c, hc, rfl⟩ := omap hd
  obtain ⟨h1, h2⟩ := List.getElem?_eq_some_iff.mp hc
  simp at h1 h2
  subst h2
  refine ⟨by show i < (hi - lo).toNat; omega, fun y H'' hy => ?_⟩
  obtain ⟨rfl, rfl⟩ := hy
  exact ⟨.inl ⟨rfl, rd_int⟩, rfl⟩
theorem it_rngD {lo hi : Int} : ItOk K L H (Itc lo (-1) (lo - hi).toNat) (rangeD lo hi) := by
  intro L' H' _
  have hlen : (rangeD lo hi).length = (lo - hi).toNat := by simp [rangeD]
  refine ⟨by show (lo - hi).toNat ≤ _; omega, fun i d hd => ?_⟩
  unfold rangeD at hd
  rw [List.getElem?_map] at hd
  obtain ⟨c, hc, rfl⟩ := omap hd
  obtain ⟨h1, h2⟩ := List.getElem?_eq_some_iff.mp hc
  simp at h1 h2
  subst h2
  refine ⟨by show i < (lo - hi).toNat; omega, fun y H'' hy => ?_⟩
  obtain ⟨rfl, rfl⟩ := hy
  have e : lo + (i : Int) * (-1) = lo - (i : Int) := by omega
  rw [e]
  exact ⟨.inl ⟨rfl, rd_int⟩, rfl⟩
theorem enumL_get : ∀ {ds : List D} {n i : Nat} {e : D}, (enumL n ds)[i]? = some e → ∃ d, ds[i]? = some d ∧ e = .tuple [.int ((n + i : Nat) : Int), d]
  | [], _, _, _, h => by simp [enumL] at h
  | d :: r, n, 0, _, h => by simp [enumL] at h; exact ⟨d, rfl, by simpa using h.symm⟩
  | d :: r, n, i + 1, e, h => by
    have h : (enumL (n + 1) r)[i]? = some e := by simpa [enumL] using h
    obtain ⟨x, h1, h2⟩ := enumL_get h
    refine ⟨x, by simpa using h1, ?_⟩
    rw [h2, show n + 1 + i = n + (i + 1) by omega]
theorem enumL_len : ∀ (ds : List D) (n : Nat), (enumL n ds).length = ds.length
  | [], _ => rfl
  | d :: r, n => by simp [enumL, enumL_len r]
theorem it_enum {a : Addr} {vs : List V} {ds : List D} (s : SL K L H a vs) (r : RdA K L H ds vs) : ItOk K L H (Ite K a) (enumL 0 ds) := by
  intro L' H' x
  have s' : SL K L' H' a vs := s.ext x
  have r' := r.ext x
  refine ⟨⟨vs, s'.sq, by rw [r.len, enumL_len ds 0]; exact Nat.le_refl _⟩, fun i d hd => ?_⟩
  obtain ⟨d0, hd0, rfl⟩ := enumL_get hd
  obtain ⟨v, h1, h2⟩ := r'.get hd0
  refine ⟨⟨vs, v, s'.sq, h1⟩, fun y H'' hy => ?_⟩
  obtain ⟨T, z, rfl, hT, rfl, hz⟩ := hy
  have := hz vs s'.sq
  rw [h1] at this; cases this
  refine ⟨.inr (.inl ⟨T, [.int (i : Nat), v], [.int ((0 + i : Nat) : Int), d0], rfl, hT, rfl, rfl, _, _, rfl, ?_, _, _, rfl, h2, rfl⟩), rfl⟩
  rw [Nat.zero_add]; exact rd_int
theorem zipL_get : ∀ {xs ys : List D} {i : Nat} {e : D}, (zipL xs ys)[i]? = some e → ∃ x y, xs[i]? = some x ∧ ys[i]? = some y ∧ e = .tuple [x, y]
  | x :: r, y :: s, 0, _, h => by simp [zipL] at h; exact ⟨x, y, rfl, rfl, h.symm⟩
  | x :: r, y :: s, i + 1, e, h => by
    have h : (zipL r s)[i]? = some e := by simpa [zipL] using h
    obtain ⟨a, b, h1, h2, h3⟩ := zipL_get h
    exact ⟨a, b, by simpa using h1, by simpa using h2, h3⟩
  | [], _, _, _, h => by simp [zipL] at h
  | _ :: _, [], _, _, h => by simp [zipL] at h
theorem zipL_len : ∀ (xs ys : List D), (zipL xs ys).length = min xs.length ys.length
  | x :: r, y :: s => by simp [zipL, zipL_len r s]
  | [], _ => by simp [zipL]
  | _ :: _, [] => by simp [zipL]
theorem it_zip {a b : Addr} {vs ws : List V} {xs ys : List D} (s : SL K L H a vs) (r : RdA K L H xs vs) (s2 : SL K L H b ws) (r2 : RdA K L H ys ws) : ItOk K L H (Itz K a b) (zipL xs ys) := by
  intro L' H' x
  have s' : SL K L' H' a vs := s.ext x
  have r' := r.ext x
  have s2' : SL K L' H' b ws := s2.ext x
  have r2' := r2.ext x
  refine ⟨⟨vs, ws, s'.sq, s2'.sq, by rw [r.len, r2.len, zipL_len]; omega⟩, fun i d hd => ?_⟩
  obtain ⟨d1, d2, hd1, hd2, rfl⟩ := zipL_get hd
  obtain ⟨v, h1, h2⟩ := r'.get hd1
  obtain ⟨w, h3, h4⟩ := r2'.get hd2
  refine ⟨⟨vs, ws, v, w, s'.sq, s2'.sq, h1, h3⟩, fun y H'' hy => ?_⟩
  obtain ⟨T, z1, z2, rfl, hT, rfl, q1, q2⟩ := hy
  have e1 := q1 vs s'.sq
  have e2 := q2 ws s2'.sq
  rw [h1] at e1; cases e1
  rw [h3] at e2; cases e2
  exact ⟨.inr (.inl ⟨T, [v, w], [d1, d2], rfl, hT, rfl, rfl, _, _, rfl, h2, _, _, rfl, h4, rfl⟩), rfl⟩
theorem it_zipT {a b : Addr} {vs ws : List V} {xs ys : List D} (s : ST K L H a vs) (r : RdA K L H xs vs) (s2 : ST K L H b ws) (r2 : RdA K L H ys ws) : ItOk K L H (RZ.ItzT K a b) (zipL xs ys) := by
  intro L' H' x
  have s' : ST K L' H' a vs := s.ext x
  have r' := r.ext x
  have s2' : ST K L' H' b ws := s2.ext x
  have r2' := r2.ext x
  refine ⟨⟨vs, ws, s'.sq, s2'.sq, by rw [r.len, r2.len, zipL_len]; omega⟩, fun i d hd => ?_⟩
  obtain ⟨d1, d2, hd1, hd2, rfl⟩ := zipL_get hd
  obtain ⟨v, h1, h2⟩ := r'.get hd1
  obtain ⟨w, h3, h4⟩ := r2'.get hd2
  refine ⟨⟨vs, ws, v, w, s'.sq, s2'.sq, h1, h3⟩, fun y H'' hy => ?_⟩
  obtain ⟨T, z1, z2, rfl, hT, rfl, q1, q2⟩ := hy
  have e1 := q1 vs s'.sq
  have e2 := q2 ws s2'.sq
  rw [h1] at e1; cases e1
  rw [h3] at e2; cases e2
  exact ⟨.inr (.inl ⟨T, [v, w], [d1, d2], rfl, hT, rfl, rfl, _, _, rfl, h2, _, _, rfl, h4, rfl⟩), rfl⟩
/-- for a tuple -/
def Itet (K : PySem.W.Frag) (a : Addr) : L2.It :=
  ⟨fun i H => ∃ (xs : List V) (x : V), SqT K H a xs ∧ xs[i]? = some x, fun i H v H' => ∃ T x, v = .ref T ∧ H T = none ∧ H' = upd H T (.tup [.int (i : Nat), x]) ∧ ∀ xs, SqT K H a xs → xs[i]? = some x, fun i H => ∃ xs : List V, SqT K H a xs ∧ xs.length = i⟩
theorem it_enumT {a : Addr} {vs : List V} {ds : List D} (s : ST K L H a vs) (r : RdA K L H ds vs) : ItOk K L H (Itet K a) (enumL 0 ds) := by
  intro L' H' x
  have s' : ST K L' H' a vs := s.ext x
  have r' := r.ext x
  refine ⟨⟨vs, s'.sq, by rw [r.len, enumL_len ds 0]⟩, fun i d hd => ?_⟩
  obtain ⟨d0, hd0, rfl⟩ := enumL_get hd
  obtain ⟨v, h1, h2⟩ := r'.get hd0
  refine ⟨⟨vs, v, s'.sq, h1⟩, fun y H'' hy => ?_⟩
  obtain ⟨T, z, rfl, hT, rfl, hz⟩ := hy
  have := hz vs s'.sq
  rw [h1] at this; cases this
  refine ⟨.inr (.inl ⟨T, [.int (i : Nat), v], [.int ((0 + i : Nat) : Int), d0], rfl, hT, rfl, rfl, _, _, rfl, ?_, _, _, rfl, h2, rfl⟩), rfl⟩
  rw [Nat.zero_add]; exact rd_int
end
section
variable {K : PySem.W.Frag} {G : Call} {σ : L2.St} {H : Hp} {R : L2.It → Hp → Prop}
theorem tI_seq {e : Ex} (h : tI K G (.seq e) σ H R) : iList K (tD K G e) σ H R ∨ iTup K (tD K G e) σ H R ∨ iStr (tD K G e) σ H R := by
  obtain ⟨A, as, f, ds, f', R0, he, hR⟩ := h
  unfold evI at he
  obtain ⟨⟨rv, f1⟩, e1, he⟩ := bind_ok he
  obtain ⟨⟨y, f2⟩, e2, he⟩ := bind_ok he
  obtain ⟨l, e3, he⟩ := bind_ok he
  cases he
  have e2 := ofOpt_ok e2
  have e3 : itemsD y = some ds := ofOpt_ok e3
  cases y with
  | str z =>
    right; right
    refine ⟨A, as, f, rv, f1, R0, e1, fun v H1 p => ?_⟩
    obtain ⟨pn, rd⟩ := p.kept e2
    have e3 : (if z.length ≤ 16777216 then some (signs z) else none) = some ds := e3
    split at e3
    · cases e3
      exact ⟨z, by unfold Rd at rd; exact rd, hR _ _ pn it_str⟩
    · cases e3
  | list xs =>
    left
    cases e3
    refine ⟨A, as, f, rv, f1, R0, e1, fun v H1 p => ?_⟩
    obtain ⟨pn, rd⟩ := p.kept e2
    unfold Rd at rd
    obtain ⟨a, vs, ev, s, r⟩ := rd
    exact ⟨a, ev, ⟨vs, s.sq⟩, hR _ _ pn (it_list s r)⟩
  | tuple xs =>
    right; left
    cases e3
    refine ⟨A, as, f, rv, f1, R0, e1, fun v H1 p => ?_⟩
    obtain ⟨pn, rd⟩ := p.kept e2
    unfold Rd at rd
    obtain ⟨a, vs, ev, s, r⟩ := rd
    exact ⟨a, ev, ⟨vs, s.sq⟩, hR _ _ pn (it_tup s r)⟩
  | _ => cases e3
theorem bnd_ok {i : Int} (h : bnd i = true) : -(2 ^ 62) ≤ i ∧ i < 2 ^ 62 := by
  unfold bnd at h
  simpa only [Bool.and_eq_true, decide_eq_true_eq] using h
theorem Rd1s.len : ∀ {ys : List D} {vs : List V} {L : ASet}, Rd1s K L H ys vs → vs.length = ys.length
  | [], _, _, h => by rw [show _ = [] from h]; rfl
  | _ :: _, _, _, ⟨v, ws, e, _, h⟩ => by rw [e]; exact congrArg (· + 1) h.len
theorem PostA.len {A : ASet} {as : List Addr} {f f' : F} {H' : Hp} {rvs : List RV} {vs : List V} (p : PostA K A as f σ H rvs f' vs H') : vs.length = rvs.length := by
  obtain ⟨A', _, _, r, _⟩ := p
  exact r.len
theorem tI_rng1 {e : Ex} (h : tI K G (.rng [e]) σ H R) : iRng1 (tDs K G [e]) σ H R := by
  obtain ⟨A, as, f, ds, f', R0, he, hR⟩ := h
  unfold evI at he
  obtain ⟨⟨rv, f1⟩, e1, he⟩ := bind_ok he
  obtain ⟨ys, e2, he⟩ := bind_ok he
  have e2 := ofOpt_ok e2
  refine ⟨A, as, f, rv, f1, R0, e1, fun vs H1 p => ?_⟩
  obtain ⟨pn, rd⟩ := p.seen e2
  have hl : ys.length = 1 := rd.len.symm.trans (p.len.trans (chn_len e1))
  match ys, hl, rd, he with
  | [y], _, rd, he =>
    cases y with
    | int b =>
      replace he : (if bnd b = true ∧ b ≤ 16777216 then Res.ok (rangeL 0 b, f1) else .bad) = Res.ok (ds, f') := he
      split at he
      · rename_i hb
        cases he
        obtain ⟨v, ws, rfl, r1, r2⟩ := rd
        obtain rfl : ws = [] := r2
        obtain rfl := r1.i
        exact ⟨b, rfl, (bnd_ok hb.1).1, (bnd_ok hb.1).2, hR _ _ pn (by have := it_rng (K := K) (L := Lv A f' as σ) (H := H1) (lo := 0) (hi := b); rwa [Int.sub_zero] at this)⟩
      · cases he
    | _ => cases he
theorem tI_rng2 {e e' : Ex} (h : tI K G (.rng [e, e']) σ H R) : iRng2 (tDs K G [e, e']) σ H R := by
  obtain ⟨A, as, f, ds, f', R0, he, hR⟩ := h
  unfold evI at he
  obtain ⟨⟨rv, f1⟩, e1, he⟩ := bind_ok he
  obtain ⟨ys, e2, he⟩ := bind_ok he
  have e2 := ofOpt_ok e2
  refine ⟨A, as, f, rv, f1, R0, e1, fun vs H1 p => ?_⟩
  obtain ⟨pn, rd⟩ := p.seen e2
  have hl : ys.length = 2 := rd.len.symm.trans (p.len.trans (chn_len e1))
  match ys, hl, rd, he with
  | [y, z], _, rd, he =>
    cases y with
    | int a =>
      cases z with
      | int b =>
        replace he : (if bnd a = true ∧ bnd b = true ∧ b - a ≤ 16777216 then Res.ok (rangeL a b, f1) else .bad) = Res.ok (ds, f') := he
        split at he
        · rename_i hb
          cases he
          obtain ⟨v, ws, rfl, r1, v2, w2, rfl, r2, r3⟩ := rd
          obtain rfl : w2 = [] := r3
          obtain rfl := r1.i
          obtain rfl := r2.i
          exact ⟨a, b, rfl, ⟨(bnd_ok hb.1).1, (bnd_ok hb.1).2, (bnd_ok hb.2.1).1, (bnd_ok hb.2.1).2⟩, hR _ _ pn it_rng⟩
        · cases he
      | _ => cases he
    | _ => cases he
theorem tI_rng3 {e e' e2 : Ex} (h : tI K G (.rng [e, e', e2]) σ H R) : iRng3 (tDs K G [e, e', e2]) σ H R := by
  obtain ⟨A, as, f, ds, f', R0, he, hR⟩ := h
  unfold evI at he
  obtain ⟨⟨rv, f1⟩, e1, he⟩ := bind_ok he
  obtain ⟨ys, e2, he⟩ := bind_ok he
  have e2 := ofOpt_ok e2
  refine ⟨A, as, f, rv, f1, R0, e1, fun vs H1 p => ?_⟩
  obtain ⟨pn, rd⟩ := p.seen e2
  have hl : ys.length = 3 := rd.len.symm.trans (p.len.trans (chn_len e1))
  match ys, hl, rd, he with
  | [y, z, x], _, rd, he =>
    cases y with
    | int a =>
      cases z with
      | int b =>
        cases x with
        | int c =>
          replace he : (if bnd a = true ∧ bnd b = true ∧ c = -1 ∧ a - b ≤ 16777216 then Res.ok (rangeD a b, f1) else .bad) = Res.ok (ds, f') := he
          split at he
          · rename_i hb
            cases he
            obtain ⟨v, ws, rfl, r1, v2, w2, rfl, r2, v3, w3, rfl, r3, r4⟩ := rd
            obtain rfl : w3 = [] := r4
            obtain rfl := r1.i
            obtain rfl := r2.i
            obtain rfl := r3.i
            obtain ⟨b1, b2, rfl, b3⟩ := hb
            exact ⟨a, b, -1, (a - b).toNat, rfl, RgC.neg (bnd_ok b1).1 (bnd_ok b1).2 (bnd_ok b2).1 (bnd_ok b2).2, hR _ _ pn it_rngD⟩
          · cases he
        | _ => cases he
      | _ => cases he
    | _ => cases he
theorem tI_enum {e : Ex} (h : tI K G (.enum e) σ H R) : tD K G e σ H fun x H1 => (∃ a xs, x = .ref a ∧ SqL K H1 a xs ∧ R (Ite K a) H1) ∨ ∃ a xs, x = .ref a ∧ SqT K H1 a xs ∧ R (Itet K a) H1 := by
  obtain ⟨A, as, f, ds, f', R0, he, hR⟩ := h
  unfold evI at he
  obtain ⟨⟨rv, f1⟩, e1, he⟩ := bind_ok he
  obtain ⟨⟨y, f2⟩, e2, he⟩ := bind_ok he
  have e2 := ofOpt_ok e2
  refine ⟨A, as, f, rv, f1, R0, e1, fun v H1 p => ?_⟩
  obtain ⟨pn, rd⟩ := p.kept e2
  cases y with
  | list xs =>
    cases he
    unfold Rd at rd
    obtain ⟨a, vs, ev, s, r⟩ := rd
    exact .inl ⟨a, vs, ev, s.sq, hR _ _ pn (it_enum s r)⟩
  | tuple xs =>
    cases he
    unfold Rd at rd
    obtain ⟨a, vs, ev, s, r⟩ := rd
    exact .inr ⟨a, vs, ev, s.sq, hR _ _ pn (it_enumT s r)⟩
  | _ => cases he
theorem tI_zip {a b : Ex} (h : tI K G (.zip a b) σ H R) : RZ.iZipA K (tDs K G [a, b]) σ H R := by
  obtain ⟨A, as, f, ds, f', R0, he, hR⟩ := h
  unfold evI at he
  obtain ⟨⟨r1, f1⟩, e1, he⟩ := bind_ok he
  obtain ⟨⟨r2, f2⟩, e2, he⟩ := bind_ok he
  obtain ⟨⟨l, f3⟩, e3, he⟩ := bind_ok he
  have e3 := ofOpt_ok e3
  dsimp only at e2 e3 he
  have ev : evEs G [a, b] f = .ok ([r1, r2], f2) := by
    simp only [evEs, e1, e2, Res.bind]
  refine ⟨A, as, f, _, f2, R0, ev, fun vs H1 p => ?_⟩
  obtain ⟨pn, rd⟩ := p.kept e3
  split at he
  · cases he
    obtain ⟨v, ws, rfl, q1, w, us, rfl, q2, q3⟩ := rd
    obtain rfl : us = [] := q3
    unfold Rd at q1 q2
    obtain ⟨x, xs, rfl, s1, t1⟩ := q1
    obtain ⟨y, ys, rfl, s2, t2⟩ := q2
    exact ⟨x, y, xs, ys, rfl, .inl ⟨s1.sq, s2.sq, hR _ _ pn (it_zip s1 t1 s2 t2)⟩⟩
  · cases he
    obtain ⟨v, ws, rfl, q1, w, us, rfl, q2, q3⟩ := rd
    obtain rfl : us = [] := q3
    unfold Rd at q1 q2
    obtain ⟨x, xs, rfl, s1, t1⟩ := q1
    obtain ⟨y, ys, rfl, s2, t2⟩ := q2
    exact ⟨x, y, xs, ys, rfl, .inr ⟨s1.sq, s2.sq, hR _ _ pn (it_zipT s1 t1 s2 t2)⟩⟩
  · cases he
end
end Vm
set_option maxRecDepth 100000
set_option maxHeartbeats 1000000
namespace PySem
open Sem (wp)
open AutoSeq1 (wpAny_loadPart')
set_option maxHeartbeats 1000000 in
/-- enumerate(v), v told by its iterator -/
theorem vm_enum_new {v : Value} {o : Obj} {H : Heap → Prop} (B : Begins v o H) :
    Meets (Builtin.«enumerate.__new__» ⟨[.type "enumerate", v], []⟩) (fun _ R s => H s.heap ∧
      R (.ok (.ret (.ref (s.heap.push o).objs.size))) { s with heap := (s.heap.push o).push { cls := .type "enumerate", data := .fields #[.none, .bool false, .ref s.heap.objs.size, rawInt 0, .none, .none] } }) :=
  .of_wp fun prog w A R s h => by
    obtain ⟨hp, g, d, tk, os⟩ := s; obtain ⟨h1, h⟩ := h
    have hsub := sub_enumerate
    have q1 : ∀ {A' : Around} {E : Value → Shared → Prop} {Q : Value → Shared → Prop}, Q (.ref hp.objs.size) ⟨hp.push o, g, d, tk, os⟩ → wpAny (model prog w) A' (pyIter v) Q E ⟨hp, g, d, tk, os⟩ :=
      fun q => B.iter prog w _ _ ⟨hp, g, d, tk, os⟩ _ h1 q
    wp_walk using q1
    refine wpAny_stack_any fun st => wpAny_pure ?_
    split
    · rename_i c _ _ _ _ _
      cases (c == Value.type "enumerate")
      · wp_walk using q1
        exact ⟨_, rfl, h⟩
      · wp_walk using q1
        exact ⟨_, rfl, h⟩
    · wp_walk using q1
      exact ⟨_, rfl, h⟩
section
variable {prog : Program} {w : World} {A : Around} {E : Value → Shared → Prop} {s : Shared}
theorem vm_enum_call {v : Value} {o : Obj} {H : Heap → Prop} {Q : Value → Shared → Prop} (B : Begins v o H) (h1 : H s.heap)
    (h : ∀ h', IsEnum h' (s.heap.objs.size + 1) s.heap.objs.size 0 .none → h'.get? s.heap.objs.size = some o → h'.objs.size = s.heap.objs.size + 2 →
      (∀ b o, s.heap.get? b = some o → h'.get? b = some o) → Q (.ref (s.heap.objs.size + 1)) { s with heap := h' }) :
    wpAny (model prog w) A (call (.type "enumerate") [v]) Q E s := by
  refine callType_new F.called_enumerate (by decide) (F.typeCall_enumerate_1 _) (F.newCall_enumerate_1 _) (fun obj => F.args_object_init_2 obj _) F.entry_enumerate_new
    (vm_enum_new B) ⟨h1, ?_⟩
  have hz : (s.heap.push o).objs.size = s.heap.objs.size + 1 := Heap.size_push ..
  show _ ∧ _
  rw [hz]
  have he : IsEnum ((s.heap.push o).push { cls := .type "enumerate", data := .fields #[.none, .bool false, .ref s.heap.objs.size, rawInt 0, .none, .none] }) (s.heap.objs.size + 1) s.heap.objs.size 0 .none := by
    have := Heap.get?_push_size (s.heap.push o) (o := { cls := .type "enumerate", data := .fields #[.none, .bool false, .ref s.heap.objs.size, rawInt 0, .none, .none] }) rfl
    rw [hz] at this; exact this
  refine ⟨⟨_, he, rfl⟩, h _ he (Heap.get?_push_of_some _ (Heap.get?_push_size _ B.free)) (by rw [Heap.size_push, hz]) fun b o x => Heap.get?_push_of_some _ (Heap.get?_push_of_some _ x)⟩
end
end PySem
namespace Vm
open PySem PySem.Spec L2
theorem isTup_tuple {h : Heap} {a : Addr} {its : Array Value} (p : PyProof.Rows.IsTup h a its) : h.IsTuple a its := by
  obtain ⟨o, e, hc, n, d⟩ := p
  exact ⟨o, e, hc, n, d⟩
theorem turn_enumT {P : Program} {w : World} {K : PySem.W.Frag} {elts : List Expr} {kk : Nat} {tpos : Pos} (a e it : Addr) :
    Turn P w K (.Tuple elts kk tpos) (Itet K a) [e, it] e (fun i h => (∃ old, IsEnum h e it ((i : Nat) : Int) old) ∧ h.IsTupleIter it a i ∧ e ≠ it) where
  mem := by simp
  obj := fun i h st b hb => by
    obtain ⟨⟨old, he⟩, ⟨o, ho, hc, hd⟩, _⟩ := st
    have e' : b = e ∨ b = it := by simpa using hb
    rcases e' with z | z
    · rw [z]; exact ⟨_, he, fun v q => nomatch q⟩
    · rw [z]; exact ⟨o, ho, fun v q => by rw [hd] at q; cases q⟩
  keep := fun i h h' st k => let ⟨⟨old, he⟩, hi, hne⟩ := st; ⟨⟨old, k e (by simp) _ he⟩, hi.at fun o q => k it (by simp) o q, hne⟩
  item := by
    intro X hP hw hK hc i pins s σ H E I hf st hg
    subst hP hw hK
    obtain ⟨⟨old, he⟩, hit, hne⟩ := st
    obtain ⟨xs, x, hq, hx⟩ := hg
    obtain ⟨its, rv, p, hz⟩ := I.tuple hq
    obtain ⟨u, hu, ru⟩ := rv.get hx
    have ht := isTup_tuple p
    have hel : e < s.heap.objs.size := Heap.lt_size he
    have hea : e ≠ a := fun z => by
      obtain ⟨o, e1, e2, _⟩ := ht
      rw [← z, he] at e1; cases e1; exact absurd (show Value.type "enumerate" = Value.type "tuple" from e2) (by decide)
    have hta : a ≠ it := fun z => by
      obtain ⟨o, e1, e2, _⟩ := ht
      obtain ⟨o', e1', e2', _⟩ := hit
      rw [z, e1'] at e1; cases e1
      rw [e2'] at e2; exact absurd e2 (by decide)
    have hlt : i < its.toArray.size := by
      obtain ⟨h1, _⟩ := List.getElem?_eq_some_iff.mp hu
      simpa using h1
    refine wpAny_pyNext_enum_itemD (Draws.tuple (A := X.A.in1) (I.ok.hd hc) it a hta its.toArray) he ⟨hit, ht⟩ hlt hne (by simp [hea, hne]) fun x' h' tk hP ho hst' hT hsz hk => ?_
    have hx' : x' = u := by
      have hP : its.toArray[i]? = some x' := hP
      rw [show its.toArray[i]? = some u by simpa using hu] at hP
      exact (Option.some.inj hP).symm
    subst hx'
    refine ⟨_, rfl, wpAny_letOwnedTupleGo_enum (s := { s with heap := h', toks := tk + 1 }) ho fun h'' he' sb => ?_⟩
    have hT2 : h''.get? s.heap.objs.size = some { cls := .type "tuple", data := .seq #[.int i tk, x'] } := (sb.2 _ (Nat.ne_of_gt hel)).trans hT
    have new : ObjOk X.prog X.w (upd H s.heap.objs.size (.tup [.int (i : Nat), x])) h'' s.heap.objs.size (.tup [.int (i : Nat), x]) :=
      ⟨by show 2 ≤ sizeLine; decide, [.int i tk, x'], .cons ⟨_, rfl⟩ (.cons ru .nil), ⟨_, hT2, rfl, _, rfl⟩⟩
    have I1 : Inv X pins σ (upd H s.heap.objs.size (.tup [.int (i : Nat), x])) { s with heap := h'', toks := tk + 1 } :=
      I.turnedNew (ch := [e, it]) (fun b ob hb q => (sb.2 b (fun z => hb (by simp [z]))).trans (hk b ob (fun z => hb (by simp [z])) (fun z => hb (by simp [z])) q)) hf (Nat.le_refl _) new
    refine ⟨.ref s.heap.objs.size, _, I1, rfl, ⟨_, x, rfl, I.hok.fresh (Nat.le_refl _), rfl, fun ys hy => by rw [I.tuple_inj hy hq]; exact hx⟩, ⟨⟨x', ?_⟩, hst'.1.at fun o q => (sb.2 it (Ne.symm hne)).trans q, hne⟩, fun b hb => ?_⟩
    · have e1 : ((i + 1 : Nat) : Int) = (i : Int) + 1 := by omega
      rw [e1]; exact he'
    · have hb' : b < s.heap.objs.size := by
        have e' : b = e ∨ b = it := by simpa using hb
        rcases e' with z | z
        · rw [z]; exact hel
        · rw [z]; obtain ⟨_, q, _⟩ := hit; exact Heap.lt_size q
      rw [upd_ne (Nat.ne_of_lt hb')]
      exact (hf b hb).1
  done := by
    intro X hP hw hK hc i pins s σ H E I hf st hg
    subst hP hw hK
    obtain ⟨⟨old, he⟩, hit, hne⟩ := st
    obtain ⟨xs, hq, hx⟩ := hg
    obtain ⟨its, rv, p, hz⟩ := I.tuple hq
    have ht := isTup_tuple p
    have hta : a ≠ it := fun z => by
      obtain ⟨o, e1, e2, _⟩ := ht
      obtain ⟨o', e1', e2', _⟩ := hit
      rw [z, e1'] at e1; cases e1
      rw [e2'] at e2; exact absurd e2 (by decide)
    obtain ⟨f0, f1, f2, f3, f4, f5⟩ := hf it (by simp)
    have hl := rv.length
    have hn : its.toArray.size = i := by simp; omega
    exact wpAny_pyNext_enum_endD (Draws.tuple (A := X.A.in1) (I.ok.hd hc) it a hta its.toArray) he (by rw [hn]; exact ⟨hit, ht⟩) fun h' eb => ⟨rfl, I.turned (t' := s.toks) (fun b o hb q => eb b o hb q) f0 f1 f3 f4 f5⟩
  self := fun A i s Q E st h => let ⟨⟨_, he⟩, _⟩ := st; wpAny_pyIter_enum he h
theorem pi_enumD {X : Cx} {e : Expr} {te : TE} {p pos tpos : Pos} {elts : List Expr} {kk : Nat} (hg : Gl X "enumerate") (hm : X.mg "enumerate" = none) (he : PE X e te) (hs : starEach [e] X.env = [(false, eval e X.env)]) :
    PI X (.Tuple elts kk tpos) (.Call (.Name "enumerate" p) [e] [] pos) (fun σ H R => te σ H fun x H1 => (∃ a xs, x = .ref a ∧ SqL X.K H1 a xs ∧ R (Ite X.K a) H1) ∨ ∃ a xs, x = .ref a ∧ SqT X.K H1 a xs ∧ R (Itet X.K a) H1) := by
  have ha : PA X [e] (tCons te tNil) := pa_cons he pa_nil hs
  refine ⟨fun pins s σ H R I h => ?_⟩
  refine PyProof.Rows.Call_ (ld_blt I hg hm PyProof.Rows.boot_enumerate (PyProof.Rows.callWith_type1 (thn (ha.run pos pins s σ H (fun vs H1 => match vs with | [x] => (∃ a xs, x = .ref a ∧ SqL X.K H1 a xs ∧ R (Ite X.K a) H1) ∨ ∃ a xs, x = .ref a ∧ SqT X.K H1 a xs ∧ R (Itet X.K a) H1 | _ => False) I h) fun us s1 ⟨vs, H1, I1, r1, q1⟩ => ?_) hs rfl))
  obtain ⟨x, rfl, q1⟩ : ∃ x, vs = [x] ∧ ((∃ a xs, x = .ref a ∧ SqL X.K H1 a xs ∧ R (Ite X.K a) H1) ∨ ∃ a xs, x = .ref a ∧ SqT X.K H1 a xs ∧ R (Itet X.K a) H1) := by
    match vs, q1 with
    | [x], q1 => exact ⟨x, rfl, q1⟩
  have fin : ∀ b, b ∈ [s1.heap.objs.size + 1, s1.heap.objs.size] → FpOk X pins H1 b := fun b hb => by
    have e' : b = s1.heap.objs.size + 1 ∨ b = s1.heap.objs.size := by simpa using hb
    have hle : s1.heap.objs.size ≤ b := by
      rcases e' with z | z
      · rw [z]; exact Nat.le_add_right _ _
      · rw [z]; exact Nat.le_refl _
    exact I1.fpOk hle (I1.hok.fresh hle)
  rcases q1 with ⟨a, xs, rfl, hq, q⟩ | ⟨a, xs, rfl, hq, q⟩
  · cases r1 with
    | cons r rr =>
      cases rr
      cases r
      obtain ⟨its, rv, p', hz⟩ := I1.list hq
      refine call_enumerate_list p'.isList fun h' he hit hsz hk => wpAny_pyIter_enum he ?_
      have I2 : Inv X pins σ H1 { s1 with heap := h' } := I1.kept (t' := s1.toks) hk
      exact ⟨s1.heap.objs.size + 1, [s1.heap.objs.size + 1, s1.heap.objs.size], _, _, H1, rfl, I2, turn_enum a (s1.heap.objs.size + 1) s1.heap.objs.size, ⟨⟨.none, he⟩, hit, Nat.succ_ne_self _⟩, fin, q⟩
  · cases r1 with
    | cons r rr =>
      cases rr
      cases r
      obtain ⟨its, rv, p', hz⟩ := I1.tuple hq
      refine vm_enum_call (begins_tuple a its.toArray) (isTup_tuple p') fun h' he ho hsz hk => wpAny_pyIter_enum he ?_
      have I2 : Inv X pins σ H1 { s1 with heap := h' } := I1.kept (t' := s1.toks) hk
      exact ⟨s1.heap.objs.size + 1, [s1.heap.objs.size + 1, s1.heap.objs.size], _, _, H1, rfl, I2, turn_enumT a (s1.heap.objs.size + 1) s1.heap.objs.size, ⟨⟨.none, he⟩, ⟨_, ho, rfl, rfl⟩, Nat.succ_ne_self _⟩, fin, q⟩
end Vm
set_option maxRecDepth 100000
set_option maxHeartbeats 1000000
namespace Vm
open PySem PySem.Spec L2
section
variable {X : Cx} {Γ : Gam} {G : Call} {m : Nat}
theorem pi_seq {tg e : Expr} {ir : Ex} (h : PE X e (tD X.K G ir)) : PI X tg e (tI X.K G (.seq ir)) :=
  PI.imp (PI.or (pi_list h) (PI.or (pi_tup h) (pi_str h))) fun σ H R q => tI_seq q
theorem fold_no {n : Nat} {isT : Bool} {e : Expr} {it : It} (h : itC Γ (comp n Γ) isT e = some it) (x : Value) : foldedSetIterable e X.env x = pure x := by
  cases e
  case Set => cases h
  all_goals rfl
theorem fold_all {Γ : Gam} {n : Nat} {isT : Bool} {e : Expr} {it : It} (h : itC Γ (comp n Γ) isT e = some it) (env : Env) (x : Value) : foldedSetIterable e env x = pure x := by
  cases e
  case Set => cases h
  all_goals rfl
theorem pi_it (C : XOk Γ G m X) {n : Nat} (ih : IH Γ G X n) {tg : Expr} {isT : Bool} (hT : isT = true → ∃ es k p, tg = .Tuple es k p) {e : Expr} {it : It} (h : itC Γ (comp n Γ) isT e = some it) : PI X tg e (tI X.K G it) := by
  by_cases hs : ∃ x p es pos, e = .Call (.Name x p) es [] pos
  · obtain ⟨x, p, es, pos, rfl⟩ := hs
    unfold itC at h
    dsimp only at h
    split at h
    · rename_i hc
      obtain ⟨c1, c2, c3, c4⟩ := hc
      obtain ⟨o1, o2, o3⟩ := okName_ne c1
      split at h
      · rename_i hx
        subst hx
        split at h
        · rename_i hl
          obtain ⟨l, h1, rfl⟩ := omap h
          match es, hl, h1 with
          | [], hl, h1 => simp at hl
          | [a], _, h1 =>
            obtain ⟨a', t, q1, q2, rfl⟩ := mapO_cons h1
            cases q2
            exact PI.imp (pi_range1 (gl_of C c2) (C.bs _ c3) (comps_pa ih.pe h1) (comp_star q1 [] X.env)) fun σ H R q => tI_rng1 q
          | [a, b], _, h1 =>
            obtain ⟨a', t, q1, q2, rfl⟩ := mapO_cons h1
            obtain ⟨b', t, q3, q4, rfl⟩ := mapO_cons q2
            cases q4
            exact PI.imp (pi_range2 (gl_of C c2) (C.bs _ c3) (comps_pa ih.pe h1) ((comp_star q1 [b] X.env).trans (by rw [comp_star q3 [] X.env]; rfl)) (comp_star q3 [] X.env)) fun σ H R q => tI_rng2 q
          | [a, b, c], _, h1 =>
            obtain ⟨a', t, q1, q2, rfl⟩ := mapO_cons h1
            obtain ⟨b', t, q3, q4, rfl⟩ := mapO_cons q2
            obtain ⟨c', t, q5, q6, rfl⟩ := mapO_cons q4
            cases q6
            exact PI.imp (pi_range3 (gl_of C c2) (C.bs _ c3) (comps_pa ih.pe h1) (comp_star q1 [b, c] X.env) (mapO_plain q2)) fun σ H R q => tI_rng3 q
          | _ :: _ :: _ :: _ :: _, hl, h1 => simp at hl
        · cases h
      · split at h
        · rename_i hx
          subst hx
          match es, h with
          | [], h => cases h
          | [a], h =>
            dsimp only at h
            split at h
            · rename_i hi
              obtain ⟨a', q1, rfl⟩ := omap h
              obtain ⟨es, k, p, rfl⟩ := hT hi
              exact PI.imp (pi_enumD (gl_of C c2) (C.bs _ c3) (ih a a' q1).e (comp_star q1 [] X.env)) fun σ H R q => tI_enum q
            · cases h
          | _ :: _ :: _, h => cases h
        · rename_i n1 n2
          have hx : x = "zip" := by
            rcases c4 with q | q | q
            · exact absurd q n1
            · exact absurd q n2
            · exact q
          subst hx
          match es, h with
          | [], h => cases h
          | [_], h => cases h
          | [a, b], h =>
            dsimp only at h
            split at h
            · rename_i hi
              obtain ⟨a', q1, h⟩ := obind h
              obtain ⟨b', q2, h⟩ := obind h
              cases h
              obtain ⟨es, k, p, rfl⟩ := hT hi
              have hm : mapO (comp n Γ) [a, b] = some [a', b'] := by simp only [mapO, q1, q2, Option.bind_some]
              exact PI.imp (RZ.pi_zipA (gl_of C c2) (C.bs _ c3) (comps_pa ih.pe hm) (comp_star q1 [b] X.env) (by rw [comp_star q2 [] X.env]; rfl)) fun σ H R q => tI_zip q
            · cases h
          | _ :: _ :: _ :: _, h => cases h
    · obtain ⟨a', q1, rfl⟩ := omap h
      exact pi_seq (ih _ a' q1).e
  · have h : (comp n Γ e).map It.seq = some it := by
      cases e
      case Set => cases h
      case Call fn es ks pos =>
        cases fn
        case Name x p =>
          cases ks with
          | nil => exact absurd ⟨_, _, _, _, rfl⟩ hs
          | cons _ _ => exact h
        all_goals exact h
      all_goals exact h
    obtain ⟨a', q1, rfl⟩ := omap h
    exact pi_seq (ih _ a' q1).e
end
end Vm
set_option maxRecDepth 100000
set_option maxHeartbeats 1000000
namespace Vm
open PySem PySem.Spec L2
section
variable {K : PySem.W.Frag} {A : ASet} {as : List Addr} {f : F} {σ σ' : L2.St} {H : Hp}
/-- several slots at once: none of the new ones owns -/
theorem Rel.slots {ρ' : List LV} (R : Rel K A as f σ H) (hl : ρ'.length = f.ρ.length) (hs : σ'.length = σ.length)
    (h : ∀ (j : Nat) (l : LV), ρ'[j]? = some l → (f.ρ[j]? = some l ∧ σ'[j]? = σ[j]?) ∨ l = .no ∨ (∃ x v, l = .d x ∧ σ'[j]? = some (some v) ∧ RdP K (Lv A f as σ) H x v) ∨ ∃ n a, l = .c n ∧ as[n]? = some a ∧ σ'[j]? = some (some (.ref a))) :
    Rel K A as { f with ρ := ρ' } σ' H ∧ ∀ a, Lv A { f with ρ := ρ' } as σ' a → Lv A f as σ a := by
  have own : ∀ (j : Nat) (o : Ob), ρ'[j]? = some (.own o) → f.ρ[j]? = some (.own o) ∧ σ'[j]? = σ[j]? := fun j o e => by
    rcases h j _ e with q | q | ⟨_, _, q, _⟩ | ⟨_, _, q, _⟩
    · exact q
    · cases q
    · cases q
    · cases q
  have le : ∀ a, Lv A { f with ρ := ρ' } as σ' a → Lv A f as σ a := fun a z => by
    rcases z with z | ⟨i, o, e, e'⟩ | z
    · exact .inl z
    · obtain ⟨q1, q2⟩ := own i o e
      exact .inr (.inl ⟨i, o, q1, by rw [← q2]; exact e'⟩)
    · exact .inr (.inr z)
  have x : Ext (Lv A f as σ) H (Lv A { f with ρ := ρ' } as σ') H := Ext.less le
  refine ⟨⟨by rw [hs, R.lenσ]; exact hl.symm, R.lenS, fun j y e => ?_, fun j o e => ?_, fun j n e => ?_, fun n y a e e' => (R.cd n y a e e').ext x, fun n o a e e' => ⟨(R.co n o a e e').1.ext x rfl, (R.co n o a e e').2⟩,
    fun i j a o o' e1 e2 e3 e4 => ?_, fun i n a o o' e1 e2 e3 e4 => ?_, R.i3, R.al⟩, le⟩
  · rcases h j _ e with ⟨q, q'⟩ | q | ⟨_, v, q, q1, q2⟩ | ⟨_, _, q, _⟩
    · obtain ⟨v, h1, h2⟩ := R.sd j y q
      exact ⟨v, q'.trans h1, h2.ext x⟩
    · cases q
    · cases q; exact ⟨v, q1, q2.ext x⟩
    · cases q
  · obtain ⟨q, q'⟩ := own j o e
    obtain ⟨a, h1, h2, h3⟩ := R.so j o q
    exact ⟨a, q'.trans h1, h2.ext x rfl, h3⟩
  · rcases h j _ e with ⟨q, q'⟩ | q | ⟨_, _, q, _⟩ | ⟨n', a, q, q1, q2⟩
    · obtain ⟨a, h1, h2⟩ := R.sc j n q
      exact ⟨a, h1, q'.trans h2⟩
    · cases q
    · cases q
    · cases q; exact ⟨a, q1, q2⟩
  · obtain ⟨q1, p1⟩ := own i o e1
    obtain ⟨q2, p2⟩ := own j o' e2
    exact R.i1 i j a o o' q1 q2 (by rw [← p1]; exact e3) (by rw [← p2]; exact e4)
  · obtain ⟨q1, p1⟩ := own i o e1
    exact R.i2 i n a o o' q1 e2 (by rw [← p1]; exact e3) e4
end
theorem wipeL_len (ρ : List LV) : ∀ vs : List Nat, (wipeL ρ vs).length = ρ.length
  | [] => rfl
  | v :: vs => by unfold wipeL; rw [List.length_set, wipeL_len ρ vs]
theorem backL_len (ρ0 ρ : List LV) : ∀ vs : List Nat, (backL ρ0 ρ vs).length = ρ.length
  | [] => rfl
  | v :: vs => by unfold backL; rw [List.length_set, backL_len ρ0 ρ vs]
theorem wipeL_get {ρ : List LV} : ∀ {vs : List Nat} {j : Nat} {l : LV}, (wipeL ρ vs)[j]? = some l → (j ∈ vs ∧ l = .no) ∨ (j ∉ vs ∧ ρ[j]? = some l)
  | [], j, l, h => .inr ⟨List.not_mem_nil, h⟩
  | v :: vs, j, l, h => by
    unfold wipeL at h
    by_cases q : v = j
    · subst q
      have hlt : v < (wipeL ρ vs).length := by have := (List.getElem?_eq_some_iff.mp h).1; simpa using this
      rw [List.getElem?_set_self hlt] at h
      exact .inl ⟨List.mem_cons_self .., by cases h; rfl⟩
    · rw [List.getElem?_set_ne q] at h
      rcases wipeL_get h with ⟨h1, h2⟩ | ⟨h1, h2⟩
      · exact .inl ⟨List.mem_cons_of_mem _ h1, h2⟩
      · exact .inr ⟨fun z => by rcases List.mem_cons.mp z with z | z; exact q z.symm; exact h1 z, h2⟩
theorem backL_get {ρ0 ρ : List LV} : ∀ {vs : List Nat} {j : Nat} {l : LV}, (backL ρ0 ρ vs)[j]? = some l → (j ∈ vs ∧ l = ρ0.getD j .no) ∨ (j ∉ vs ∧ ρ[j]? = some l)
  | [], j, l, h => .inr ⟨List.not_mem_nil, h⟩
  | v :: vs, j, l, h => by
    unfold backL at h
    by_cases q : v = j
    · subst q
      have hlt : v < (backL ρ0 ρ vs).length := by have := (List.getElem?_eq_some_iff.mp h).1; simpa using this
      rw [List.getElem?_set_self hlt] at h
      exact .inl ⟨List.mem_cons_self .., by cases h; rfl⟩
    · rw [List.getElem?_set_ne q] at h
      rcases backL_get h with ⟨h1, h2⟩ | ⟨h1, h2⟩
      · exact .inl ⟨List.mem_cons_of_mem _ h1, h2⟩
      · exact .inr ⟨fun z => by rcases List.mem_cons.mp z with z | z; exact q z.symm; exact h1 z, h2⟩
theorem wipe_in {σ : L2.St} : ∀ {vs : List Nat} {j : Nat}, j ∈ vs → j < σ.length → (wipe σ vs)[j]? = some none
  | v :: vs, j, h, hl => by
    unfold wipe
    by_cases q : v = j
    · subst q; rw [List.getElem?_set_self (by rw [wipe_length]; exact hl)]
    · rw [List.getElem?_set_ne q]
      rcases List.mem_cons.mp h with z | z
      · exact absurd z.symm q
      · exact wipe_in z hl
theorem wipe_out {σ : L2.St} : ∀ {vs : List Nat} {j : Nat}, j ∉ vs → (wipe σ vs)[j]? = σ[j]?
  | [], _, _ => rfl
  | v :: vs, j, h => by
    unfold wipe
    rw [List.getElem?_set_ne (fun z => h (by rw [z]; exact List.mem_cons_self ..)), wipe_out fun z => h (List.mem_cons_of_mem _ z)]
theorem wipe_eq {σ σ2 : L2.St} {vs is : List Nat} (hs : ∀ i ∈ is, i ∈ vs) (hl : σ2.length = σ.length) (h : ∀ j, j ∉ is → σ2[j]? = (wipe σ vs)[j]?) : wipe σ2 vs = wipe σ vs := by
  apply List.ext_getElem?
  intro j
  by_cases q : j ∈ vs
  · by_cases q2 : j < σ.length
    · rw [wipe_in q (by omega), wipe_in q q2]
    · rw [List.getElem?_eq_none (by rw [wipe_length]; omega), List.getElem?_eq_none (by rw [wipe_length]; omega)]
  · rw [wipe_out q, h j fun z => q (hs j z)]
section
variable {K : PySem.W.Frag} {A : ASet} {as : List Addr} {f : F} {σ σ' : L2.St} {H : Hp}
theorem Rel.wiped {own : List Nat} (R : Rel K A as f σ H) : Rel K A as { f with ρ := wipeL f.ρ own } (wipe σ own) H ∧ ∀ a, Lv A { f with ρ := wipeL f.ρ own } as (wipe σ own) a → Lv A f as σ a :=
  R.slots (wipeL_len _ _) (wipe_length _ _) fun j l e => by
    rcases wipeL_get e with ⟨_, h⟩ | ⟨h1, h2⟩
    · exact .inr (.inl h)
    · exact .inl ⟨h2, wipe_out h1⟩
theorem noOwn_get {ρ : List LV} {own : List Nat} (h : noOwn ρ own = true) {j : Nat} (hj : j ∈ own) {o : Ob} : ρ[j]? ≠ some (.own o) := fun e => by
  unfold noOwn at h
  have := List.all_eq_true.mp h j hj
  rw [e] at this
  cases this
theorem Rel.wiped_live {own : List Nat} (hn : noOwn f.ρ own = true) (R : Rel K A as f σ H) {a : Addr} (h : Own f as σ a) : Own { f with ρ := wipeL f.ρ own } as (wipe σ own) a := by
  rcases h with ⟨i, o, e, e'⟩ | h
  · have hi : i ∉ own := fun z => noOwn_get hn z e
    refine .inl ⟨i, o, ?_, by rw [wipe_out hi]; exact e'⟩
    have hlt : i < (wipeL f.ρ own).length := by rw [wipeL_len]; exact (List.getElem?_eq_some_iff.mp e).1
    obtain ⟨l, hl⟩ : ∃ l, (wipeL f.ρ own)[i]? = some l := ⟨_, List.getElem?_eq_getElem hlt⟩
    rcases wipeL_get hl with ⟨z, _⟩ | ⟨_, z⟩
    · exact absurd z hi
    · show (wipeL f.ρ own)[i]? = _
      rw [hl, ← z]; exact e
  · exact .inr h
end
/-- a clause's tests -/
def tTs (K : PySem.W.Frag) (G : Call) (es : List Ex) : TT := fun σ H Q => ∃ A as f b f', Rel K A as f σ H ∧ evT G es f = .ok (b, f') ∧ ∀ H', PostN K A as f σ H f' H' → Q b H'
theorem RdA.app1 {K : PySem.W.Frag} {L : ASet} {H : Hp} : ∀ {ds : List D} {vs : List V} {d : D} {v : V}, RdA K L H ds vs → Rd K L H d v → RdA K L H (ds ++ [d]) (vs ++ [v])
  | [], _, d, v, h, h' => by
    obtain rfl : _ = [] := h
    exact ⟨v, [], rfl, h', rfl⟩
  | e :: r, _, d, v, ⟨w, ws, e0, h1, h2⟩, h' => by
    subst e0
    exact ⟨w, ws ++ [v], rfl, h1, RdA.app1 h2 h'⟩
theorem Rel.frz1 {K : PySem.W.Frag} {A : ASet} {as : List Addr} {f : F} {σ : L2.St} {H : Hp} (v : Nat) (R : Rel K A as f σ H) : Rel K A as (frz1 f v) σ H ∧ Ext (Lv A f as σ) H (Lv A (frz1 f v) as σ) H := by
  unfold Vm.frz1
  split
  · rename_i o q
    obtain ⟨a, h1, h2, h3⟩ := R.so v o q
    obtain ⟨R1, rd, x1⟩ := frz_ok (rv := .vr v) (v := .ref a) (x := o.d) (f' := { f with ρ := f.ρ.set v (.d o.d) }) R ⟨a, rfl, h1⟩ (by unfold frz; dsimp only; rw [q])
    exact ⟨R1, x1⟩
  · exact ⟨R, Ext.refl⟩
theorem Rel.frzV {K : PySem.W.Frag} {A : ASet} {as : List Addr} {σ : L2.St} {H : Hp} : ∀ (vs : List Nat) {f : F}, Rel K A as f σ H → Rel K A as (frzV f vs) σ H ∧ Ext (Lv A f as σ) H (Lv A (frzV f vs) as σ) H
  | [], _, R => ⟨R, Ext.refl⟩
  | v :: vs, f, R => by
    obtain ⟨R1, x1⟩ := R.frz1 v
    obtain ⟨R2, x2⟩ := Rel.frzV vs R1
    exact ⟨R2, x1.trans x2⟩
theorem tD_lc {K : PySem.W.Frag} {G : Call} {σ : L2.St} {H : Hp} {t : Tg} {it : It} {ifs : List Ex} {e : Ex} {own : List Nat} {Q : VK} (h : tD K G (.lc t it ifs e own) σ H Q) :
    tLc (tI K G it) (tG K t) (tTs K G ifs) (tD K G e) own σ H Q := by
  obtain ⟨A, as, f, rv, f', R, he, hQ⟩ := h
  unfold evE at he
  obtain ⟨⟨ds0, f0⟩, e0, he⟩ := bind_ok he
  obtain ⟨⟨ds, f1'⟩, e1, ez⟩ := bind_ok e0
  cases ez
  clear e0
  dsimp only at he
  split at he
  · rename_i hc
    obtain ⟨hno, htg⟩ := hc
    obtain ⟨⟨res, f2⟩, e2, he⟩ := bind_ok he
    cases he
    refine ⟨A, as, f, ds, f1', R, e1, fun J H1 pn io D hD => ?_⟩
    obtain ⟨Rz, xz⟩ := pn.1.frzV own
    replace pn : PostN K A as f σ H (frzV f1' own) H1 := ⟨Rz, pn.2.1.trans xz, pn.2.2⟩
    replace io : ItOk K (Lv A (frzV f1' own) as σ) H1 J ds := io.ext xz
    generalize frzV f1' own = f1 at *
    let A1 : ASet := fun a => A a ∨ a = D
    let f10 : F := { f1 with ρ := wipeL f1.ρ own }
    have nAD : ∀ a, A a → a ≠ D := fun a ha z => by
      obtain ⟨o, q⟩ := pn.1.al a ha
      rw [z, hD] at q; cases q
    obtain ⟨R1, x1, k1⟩ := pn.1.laid (o := .lst []) hD
    have R10 := R1.wiped (own := own)
    have lv10 : ∀ a, Lv A1 f10 as (wipe σ own) a ↔ Lv A1 f1 as σ a := fun a => ⟨R10.2 a, fun z => z.imp id (Rel.wiped_live hno R1)⟩
    have eq10 : Lv A1 f10 as (wipe σ own) = Lv A1 f1 as σ := by funext a; exact propext (lv10 a)
    have wlen : (wipe σ own).length = σ.length := wipe_length _ _
    -- the state ahead of a turn
    let P : Nat → Hp → Prop := fun i H2 => ∃ fi acc, Rel K A1 as fi (wipe σ own) H2 ∧ ObR K (Lv A1 fi as (wipe σ own)) H2 D (.lst acc) ∧
      lcLoop (evT G ifs) (evE G e) t own (ds.drop i) acc fi = .ok (res, f2) ∧ Ext (Lv A1 f1 as σ) (upd H1 D (.lst [])) (Lv A1 fi as (wipe σ own)) H2 ∧ (∀ a, A a → H2 a = H1 a) ∧ fi.ρ.length = f1.ρ.length
    refine ⟨fun i m H2 => m = ds.length - i ∧ i ≤ ds.length ∧ P i H2, ⟨_, rfl, Nat.zero_le _, f10, [], R10.1, ⟨[], upd_same, rfl⟩, e2, by rw [eq10]; exact Ext.refl, fun a ha => upd_ne (nAD a ha), wipeL_len _ _⟩, ?_⟩
    rintro i m H2 ⟨rfl, hi, fi, acc, Ri, ob, hl, xi, ki, li⟩
    have io' : ItOk K (Lv A1 fi as (wipe σ own)) H2 J ds := io.ext (x1.trans xi)
    by_cases hlt : i < ds.length
    · have hd : ds[i]? = some ds[i] := by simp [hlt]
      have hdrop : ds.drop i = ds[i] :: ds.drop (i + 1) := List.drop_eq_getElem_cons hlt
      rw [hdrop] at hl
      unfold lcLoop at hl
      obtain ⟨ρ1, b1, hl⟩ := bind_ok hl
      have b1 := ofOpt_ok b1
      obtain ⟨⟨b, g1⟩, b2, hl⟩ := bind_ok hl
      dsimp only at hl
      obtain ⟨go, yld⟩ := (io' _ _ Ext.refl).2 i _ hd
      refine .inr ⟨go, P (i + 1), fun H' p => ⟨ds.length - (i + 1), by omega, rfl, hlt, p⟩, fun x H3 hy => ?_⟩
      have py := op_post Ri (yld x H3 hy).1
      obtain ⟨pny, rdy⟩ := py.kept (y := ds[i]) (f'' := fi) (congrArg (fun z => some (z, fi)) (yld x H3 hy).2)
      refine ⟨A1, as, fi, _, ρ1, pny.1, rdy, b1, fun σ2 bp => ?_⟩
      have hw : wipe σ2 own = wipe σ own := by
        refine wipe_eq (is := tgI t) (fun i hi => ?_) (bp.2.2.1.trans wlen) fun j hj => bp.2.2.2 j hj
        have := List.all_eq_true.mp htg i hi
        simpa using this
      refine ⟨hw, A1, as, _, b, g1, bp.1, b2, fun H4 p4 => ?_⟩
      have k4 : ∀ a, A1 a → H4 a = H2 a := fun a ha => (p4.2.2 a ha).trans (pny.2.2 a ha)
      have x4 : Ext (Lv A1 fi as (wipe σ own)) H2 (Lv A1 g1 as σ2) H4 := (pny.2.1.trans bp.2.1).trans p4.2.1
      obtain ⟨accV, hDv, rdv⟩ := ob
      have fin : ∀ {g : F} {H5 : Hp} {acc' : List PyData}, Rel K A1 as g σ2 H5 → Ext (Lv A1 f1 as σ) (upd H1 D (.lst [])) (Lv A1 g as σ2) H5 → (∀ a, A a → H5 a = H1 a) → ObR K (Lv A1 g as σ2) H5 D (.lst acc') →
          lcLoop (evT G ifs) (evE G e) t own (ds.drop (i + 1)) acc' { g with ρ := wipeL g.ρ own } = .ok (res, f2) → P (i + 1) H5 := fun {g H5 acc'} Rg xg kg og hl => by
        have W := Rg.wiped (own := own)
        rw [hw] at W
        have xw : Ext (Lv A1 g as σ2) H5 (Lv A1 { g with ρ := wipeL g.ρ own } as (wipe σ own)) H5 := Ext.less W.2
        refine ⟨_, acc', W.1, og.ext xw rfl, hl, xg.trans xw, kg, ?_⟩
        have e1 := W.1.lenσ
        have e2 := R1.lenσ
        rw [wlen] at e1
        exact e1.symm.trans e2
      cases b with
      | false =>
        simp only [Bool.false_eq_true, if_false] at hl ⊢
        exact fin p4.1 (xi.trans x4) (fun a ha => (k4 a (.inl ha)).trans (ki a ha)) ⟨accV, (k4 D (.inr rfl)).trans hDv, rdv.ext x4⟩ hl
      | true =>
        simp only [if_true] at hl ⊢
        obtain ⟨⟨r, g2⟩, b3, hl⟩ := bind_ok hl
        obtain ⟨⟨y, g3⟩, b4, hl⟩ := bind_ok hl
        have b4 := ofOpt_ok b4
        dsimp only at hl b4
        split at hl
        · rename_i hz
          refine ⟨A1, as, g1, r, g2, p4.1, b3, fun yv H5 p5 => ?_⟩
          obtain ⟨pn5, rd5⟩ := p5.kept b4
          have k5 : ∀ a, A1 a → H5 a = H2 a := fun a ha => (pn5.2.2 a ha).trans (k4 a ha)
          have x5 : Ext (Lv A1 fi as (wipe σ own)) H2 (Lv A1 g3 as σ2) H5 := x4.trans pn5.2.1
          refine ⟨accV, (k5 D (.inr rfl)).trans hDv, by rw [sizeLine_eq]; rw [rdv.len]; exact hz, ?_⟩
          -- the item is put in
          have x6 : Ext (Lv A1 g3 as σ2) H5 (Lv A1 g3 as σ2) (upd H5 D (.lst (accV ++ [yv]))) := fun a o q n => ⟨by rw [upd_ne (fun z => n (.inl (.inr z)))]; exact q, n⟩
          have R6 : Rel K A1 as g3 σ2 (upd H5 D (.lst (accV ++ [yv]))) := by
            refine pn5.1.step (fun a ha => ?_) x6 (fun a ho => upd_ne fun z => ?_) fun a ho z => pn5.1.nA ho z
            · by_cases q : a = D
              · subst q; exact ⟨_, upd_same⟩
              · rw [upd_ne q]; exact pn5.1.al a ha
            · exact pn5.1.nA ho (.inr z)
          exact fin R6 ((xi.trans x5).trans x6) (fun a ha => by rw [upd_ne (nAD a ha)]; exact (k5 a (.inl ha)).trans (ki a ha)) ⟨_, upd_same, ((rdv.ext x5).app1 rd5).ext x6⟩ hl
        · cases hl
    · have hn : i = ds.length := by omega
      subst hn
      rw [List.drop_length] at hl
      unfold lcLoop at hl
      cases hl
      refine .inl ⟨(io' _ _ Ext.refl).1, hQ _ _ ?_⟩
      have xf : Ext (Lv A1 f1 as σ) H1 (Lv A1 f2 as (wipe σ own)) H2 := by
        intro a o q n
        by_cases z : a = D
        · rw [z, hD] at q; cases q
        · exact xi a o (by rw [upd_ne z]; exact q) n
      have B := Ri.slots (ρ' := backL f1.ρ f2.ρ own) (σ' := σ) (backL_len _ _ _) wlen.symm fun j l q => by
        rcases backL_get q with ⟨hj, rfl⟩ | ⟨hj, q'⟩
        · cases q1 : f1.ρ[j]? with
          | none => exact .inr (.inl (by rw [List.getD_eq_getElem?_getD, q1]; rfl))
          | some l =>
            rw [List.getD_eq_getElem?_getD, q1]
            cases l with
            | no => exact .inr (.inl rfl)
            | d x =>
              obtain ⟨v, h1, h2⟩ := pn.1.sd j x q1
              exact .inr (.inr (.inl ⟨x, v, rfl, h1, h2.ext (x1.trans xi)⟩))
            | own o => exact absurd q1 (noOwn_get hno hj)
            | c n =>
              obtain ⟨a, h1, h2⟩ := pn.1.sc j n q1
              exact .inr (.inr (.inr ⟨n, a, rfl, h1, h2⟩))
        · exact .inl ⟨q', (wipe_out hj).symm⟩
      have xb : Ext (Lv A1 f2 as (wipe σ own)) H2 (Lv A1 { f2 with ρ := backL f1.ρ f2.ρ own } as σ) H2 := Ext.less B.2
      refine ⟨A1, fun a ha => .inl ha, B.1, ⟨D, rfl, .inr rfl, ob.ext xb rfl⟩, fun o _ a ea ha => ?_, ?_, fun a ha => (ki a ha).trans (pn.2.2 a ha)⟩
      · cases ea; exact nAD D ha rfl
      · exact (pn.2.1.trans (x1.trans xi)).trans xb
  · cases he
/-! ### two clauses -/
theorem wipe_wipe {σ : L2.St} {vs1 vs : List Nat} (h : ∀ i ∈ vs1, i ∈ vs) : wipe (wipe σ vs1) vs = wipe σ vs :=
  wipe_eq (is := vs) (fun i hi => hi) (wipe_length _ _) fun j hj => by rw [wipe_out fun z => hj (h j z), wipe_out hj]
/-- the inner clause, from a turn of the outer one -/
theorem lc_inner {K : PySem.W.Frag} {G : Call} {A : ASet} {as : List Addr} {t1 : Tg} {ifs1 : List Ex} {e : Ex} {own1 : List Nat} {σ2 : L2.St} {H0 : Hp} {J1 : L2.It} {ys acc0 acc' : List D} {f0 f3 : F} {D : Addr} {Nx : Hp → Prop}
    (hAD : A D) (htg : (tgI t1).all (own1.contains ·) = true) (R0 : Rel K A as f0 (wipe σ2 own1) H0) (ob0 : ObR K (Lv A f0 as (wipe σ2 own1)) H0 D (.lst acc0)) (io : ItOk K (Lv A f0 as (wipe σ2 own1)) H0 J1 ys)
    (e0 : lcLoop (evT G ifs1) (evE G e) t1 own1 ys acc0 f0 = .ok (acc', f3))
    (fin : ∀ H', Rel K A as f3 (wipe σ2 own1) H' → ObR K (Lv A f3 as (wipe σ2 own1)) H' D (.lst acc') → Ext (Lv A f0 as (wipe σ2 own1)) H0 (Lv A f3 as (wipe σ2 own1)) H' → (∀ a, A a → a ≠ D → H' a = H0 a) → f3.ρ.length = f0.ρ.length → Nx H') :
    ∃ W1 : Nat → Nat → Hp → Prop, (∃ m, W1 0 m H0) ∧ ∀ j k H, W1 j k H → (J1.stop j H ∧ Nx H) ∨ (J1.go j H ∧ ∃ Nx1 : Hp → Prop, (∀ H', Nx1 H' → ∃ k', k' < k ∧ W1 (j + 1) k' H') ∧ ∀ x H', J1.yld j H x H' →
      tG K t1 x (wipe σ2 own1) H' fun σ3 H5 => wipe σ3 own1 = wipe σ2 own1 ∧ tTs K G ifs1 σ3 H5 fun b H6 => if b = true then tD K G e σ3 H6 fun y H7 => ∃ acc, H7 D = some (.lst acc) ∧ acc.length < sizeLine ∧ Nx1 (upd H7 D (.lst (acc ++ [y]))) else Nx1 H6) := by
  let P : Nat → Hp → Prop := fun i H2 => ∃ fi acc, Rel K A as fi (wipe σ2 own1) H2 ∧ ObR K (Lv A fi as (wipe σ2 own1)) H2 D (.lst acc) ∧
    lcLoop (evT G ifs1) (evE G e) t1 own1 (ys.drop i) acc fi = .ok (acc', f3) ∧ Ext (Lv A f0 as (wipe σ2 own1)) H0 (Lv A fi as (wipe σ2 own1)) H2 ∧ (∀ a, A a → a ≠ D → H2 a = H0 a) ∧ fi.ρ.length = f0.ρ.length
  refine ⟨fun i m H2 => m = ys.length - i ∧ i ≤ ys.length ∧ P i H2, ⟨_, rfl, Nat.zero_le _, f0, acc0, R0, ob0, e0, Ext.refl, fun _ _ _ => rfl, rfl⟩, ?_⟩
  rintro i m H2 ⟨rfl, hi, fi, acc, Ri, ob, hl, xi, ki, li⟩
  have io' : ItOk K (Lv A fi as (wipe σ2 own1)) H2 J1 ys := io.ext xi
  have wlen : (wipe σ2 own1).length = σ2.length := wipe_length _ _
  by_cases hlt : i < ys.length
  · have hd : ys[i]? = some ys[i] := by simp [hlt]
    rw [List.drop_eq_getElem_cons hlt] at hl
    unfold lcLoop at hl
    obtain ⟨ρ1, b1, hl⟩ := bind_ok hl
    have b1 := ofOpt_ok b1
    obtain ⟨⟨b, g1⟩, b2, hl⟩ := bind_ok hl
    dsimp only at hl
    obtain ⟨go, yld⟩ := (io' _ _ Ext.refl).2 i _ hd
    refine .inr ⟨go, P (i + 1), fun H' p => ⟨ys.length - (i + 1), by omega, rfl, hlt, p⟩, fun x H3 hy => ?_⟩
    have py := op_post Ri (yld x H3 hy).1
    obtain ⟨pny, rdy⟩ := py.kept (y := ys[i]) (f'' := fi) (congrArg (fun z => some (z, fi)) (yld x H3 hy).2)
    refine ⟨A, as, fi, _, ρ1, pny.1, rdy, b1, fun σ3 bp => ?_⟩
    have hw : wipe σ3 own1 = wipe σ2 own1 := by
      refine wipe_eq (is := tgI t1) (fun i hi => ?_) (bp.2.2.1.trans wlen) fun j hj => bp.2.2.2 j hj
      have := List.all_eq_true.mp htg i hi
      simpa using this
    refine ⟨hw, A, as, _, b, g1, bp.1, b2, fun H4 p4 => ?_⟩
    have k4 : ∀ a, A a → H4 a = H2 a := fun a ha => (p4.2.2 a ha).trans (pny.2.2 a ha)
    have x4 : Ext (Lv A fi as (wipe σ2 own1)) H2 (Lv A g1 as σ3) H4 := (pny.2.1.trans bp.2.1).trans p4.2.1
    obtain ⟨accV, hDv, rdv⟩ := ob
    have again : ∀ {g : F} {H5 : Hp} {acc1 : List PyData}, Rel K A as g σ3 H5 → Ext (Lv A f0 as (wipe σ2 own1)) H0 (Lv A g as σ3) H5 → (∀ a, A a → a ≠ D → H5 a = H0 a) → ObR K (Lv A g as σ3) H5 D (.lst acc1) →
        lcLoop (evT G ifs1) (evE G e) t1 own1 (ys.drop (i + 1)) acc1 { g with ρ := wipeL g.ρ own1 } = .ok (acc', f3) → P (i + 1) H5 := fun {g H5 acc1} Rg xg kg og hl => by
      have W := Rg.wiped (own := own1)
      rw [hw] at W
      have xw : Ext (Lv A g as σ3) H5 (Lv A { g with ρ := wipeL g.ρ own1 } as (wipe σ2 own1)) H5 := Ext.less W.2
      refine ⟨_, acc1, W.1, og.ext xw rfl, hl, xg.trans xw, kg, ?_⟩
      exact W.1.lenσ.symm.trans R0.lenσ
    cases b with
    | false =>
      simp only [Bool.false_eq_true, if_false] at hl ⊢
      exact again p4.1 (xi.trans x4) (fun a ha hn => (k4 a ha).trans (ki a ha hn)) ⟨accV, (k4 D hAD).trans hDv, rdv.ext x4⟩ hl
    | true =>
      simp only [if_true] at hl ⊢
      obtain ⟨⟨r, g2⟩, b3, hl⟩ := bind_ok hl
      obtain ⟨⟨y, g3⟩, b4, hl⟩ := bind_ok hl
      have b4 := ofOpt_ok b4
      dsimp only at hl b4
      split at hl
      · rename_i hz
        refine ⟨A, as, g1, r, g2, p4.1, b3, fun yv H5 p5 => ?_⟩
        obtain ⟨pn5, rd5⟩ := p5.kept b4
        have k5 : ∀ a, A a → H5 a = H2 a := fun a ha => (pn5.2.2 a ha).trans (k4 a ha)
        have x5 : Ext (Lv A fi as (wipe σ2 own1)) H2 (Lv A g3 as σ3) H5 := x4.trans pn5.2.1
        refine ⟨accV, (k5 D hAD).trans hDv, by rw [sizeLine_eq]; rw [rdv.len]; exact hz, ?_⟩
        have x6 : Ext (Lv A g3 as σ3) H5 (Lv A g3 as σ3) (upd H5 D (.lst (accV ++ [yv]))) := fun a o q n => ⟨by rw [upd_ne (show a ≠ D from fun z => n (.inl (by rw [z]; exact hAD)))]; exact q, n⟩
        have R6 : Rel K A as g3 σ3 (upd H5 D (.lst (accV ++ [yv]))) := by
          refine pn5.1.step (fun a ha => ?_) x6 (fun a ho => upd_ne fun z => ?_) fun a ho z => pn5.1.nA ho z
          · by_cases q : a = D
            · subst q; exact ⟨_, upd_same⟩
            · rw [upd_ne q]; exact pn5.1.al a ha
          · exact pn5.1.nA ho (by rw [z]; exact hAD)
        exact again R6 ((xi.trans x5).trans x6) (fun a ha hn => by rw [upd_ne hn]; exact (k5 a ha).trans (ki a ha hn)) ⟨_, upd_same, ((rdv.ext x5).app1 rd5).ext x6⟩ hl
      · cases hl
  · have hn : i = ys.length := by omega
    subst hn
    rw [List.drop_length] at hl
    unfold lcLoop at hl
    cases hl
    exact .inl ⟨(io' _ _ Ext.refl).1, fin H2 Ri ob xi ki li⟩
theorem tD_lc2 {K : PySem.W.Frag} {G : Call} {σ : L2.St} {H : Hp} {t t1 : Tg} {it it1 : It} {ifs ifs1 : List Ex} {e : Ex} {own own1 : List Nat} {Q : VK} (h : tD K G (.lc2 t it ifs t1 it1 ifs1 e own own1) σ H Q) :
    tLc2 (tI K G it) (tG K t) (tTs K G ifs) (tI K G it1) (tG K t1) (tTs K G ifs1) (tD K G e) own own1 σ H Q := by
  obtain ⟨A, as, f, rv, f', R, he, hQ⟩ := h
  unfold evE at he
  obtain ⟨⟨ds0, f0⟩, e0, he⟩ := bind_ok he
  obtain ⟨⟨ds, f1'⟩, e1, ez⟩ := bind_ok e0
  cases ez
  clear e0
  dsimp only at he
  split at he
  · rename_i hc
    obtain ⟨hno, htg, htg1, hsub⟩ := hc
    have hsub' : ∀ i ∈ own1, i ∈ own := fun i hi => by have := List.all_eq_true.mp hsub i hi; simpa using this
    obtain ⟨⟨res, f2⟩, e2, he⟩ := bind_ok he
    cases he
    refine ⟨A, as, f, ds, f1', R, e1, fun J H1 pn io D hD => ?_⟩
    obtain ⟨Rz, xz⟩ := pn.1.frzV own
    replace pn : PostN K A as f σ H (frzV f1' own) H1 := ⟨Rz, pn.2.1.trans xz, pn.2.2⟩
    replace io : ItOk K (Lv A (frzV f1' own) as σ) H1 J ds := io.ext xz
    generalize frzV f1' own = f1 at *
    let A1 : ASet := fun a => A a ∨ a = D
    let f10 : F := { f1 with ρ := wipeL f1.ρ own }
    have nAD : ∀ a, A a → a ≠ D := fun a ha z => by
      obtain ⟨o, q⟩ := pn.1.al a ha
      rw [z, hD] at q; cases q
    obtain ⟨R1, x1, k1⟩ := pn.1.laid (o := .lst []) hD
    have R10 := R1.wiped (own := own)
    have lv10 : ∀ a, Lv A1 f10 as (wipe σ own) a ↔ Lv A1 f1 as σ a := fun a => ⟨R10.2 a, fun z => z.imp id (Rel.wiped_live hno R1)⟩
    have eq10 : Lv A1 f10 as (wipe σ own) = Lv A1 f1 as σ := by funext a; exact propext (lv10 a)
    have wlen : (wipe σ own).length = σ.length := wipe_length _ _
    let P : Nat → Hp → Prop := fun i H2 => ∃ fi acc, Rel K A1 as fi (wipe σ own) H2 ∧ ObR K (Lv A1 fi as (wipe σ own)) H2 D (.lst acc) ∧
      lc2Loop (evT G ifs) (evI G it1) (evT G ifs1) (evE G e) t t1 own own1 (ds.drop i) acc fi = .ok (res, f2) ∧ Ext (Lv A1 f1 as σ) (upd H1 D (.lst [])) (Lv A1 fi as (wipe σ own)) H2 ∧ (∀ a, A a → H2 a = H1 a) ∧ fi.ρ.length = f1.ρ.length
    refine ⟨fun i m H2 => m = ds.length - i ∧ i ≤ ds.length ∧ P i H2, ⟨_, rfl, Nat.zero_le _, f10, [], R10.1, ⟨[], upd_same, rfl⟩, e2, by rw [eq10]; exact Ext.refl, fun a ha => upd_ne (nAD a ha), wipeL_len _ _⟩, ?_⟩
    rintro i m H2 ⟨rfl, hi, fi, acc, Ri, ob, hl, xi, ki, li⟩
    have io' : ItOk K (Lv A1 fi as (wipe σ own)) H2 J ds := io.ext (x1.trans xi)
    by_cases hlt : i < ds.length
    · have hd : ds[i]? = some ds[i] := by simp [hlt]
      have hdrop : ds.drop i = ds[i] :: ds.drop (i + 1) := List.drop_eq_getElem_cons hlt
      rw [hdrop] at hl
      unfold lc2Loop at hl
      obtain ⟨ρ1, b1, hl⟩ := bind_ok hl
      have b1 := ofOpt_ok b1
      obtain ⟨⟨b, g1⟩, b2, hl⟩ := bind_ok hl
      dsimp only at hl
      obtain ⟨go, yld⟩ := (io' _ _ Ext.refl).2 i _ hd
      refine .inr ⟨go, P (i + 1), fun H' p => ⟨ds.length - (i + 1), by omega, rfl, hlt, p⟩, fun x H3 hy => ?_⟩
      have py := op_post Ri (yld x H3 hy).1
      obtain ⟨pny, rdy⟩ := py.kept (y := ds[i]) (f'' := fi) (congrArg (fun z => some (z, fi)) (yld x H3 hy).2)
      refine ⟨A1, as, fi, _, ρ1, pny.1, rdy, b1, fun σ2 bp => ?_⟩
      have hw : wipe σ2 own = wipe σ own := by
        refine wipe_eq (is := tgI t) (fun i hi => ?_) (bp.2.2.1.trans wlen) fun j hj => bp.2.2.2 j hj
        have := List.all_eq_true.mp htg i hi
        simpa using this
      refine ⟨hw, A1, as, _, b, g1, bp.1, b2, fun H4 p4 => ?_⟩
      have k4 : ∀ a, A1 a → H4 a = H2 a := fun a ha => (p4.2.2 a ha).trans (pny.2.2 a ha)
      have x4 : Ext (Lv A1 fi as (wipe σ own)) H2 (Lv A1 g1 as σ2) H4 := (pny.2.1.trans bp.2.1).trans p4.2.1
      obtain ⟨accV, hDv, rdv⟩ := ob
      have fin : ∀ {g : F} {σ9 : L2.St} {H5 : Hp} {acc' : List PyData}, wipe σ9 own = wipe σ own → Rel K A1 as g σ9 H5 → Ext (Lv A1 f1 as σ) (upd H1 D (.lst [])) (Lv A1 g as σ9) H5 → (∀ a, A a → H5 a = H1 a) → ObR K (Lv A1 g as σ9) H5 D (.lst acc') →
          lc2Loop (evT G ifs) (evI G it1) (evT G ifs1) (evE G e) t t1 own own1 (ds.drop (i + 1)) acc' { g with ρ := wipeL g.ρ own } = .ok (res, f2) → P (i + 1) H5 := fun {g σ9 H5 acc'} hw9 Rg xg kg og hl => by
        have W := Rg.wiped (own := own)
        rw [hw9] at W
        have xw : Ext (Lv A1 g as σ9) H5 (Lv A1 { g with ρ := wipeL g.ρ own } as (wipe σ own)) H5 := Ext.less W.2
        refine ⟨_, acc', W.1, og.ext xw rfl, hl, xg.trans xw, kg, ?_⟩
        have e1 := W.1.lenσ
        have e2 := R1.lenσ
        rw [wlen] at e1
        exact e1.symm.trans e2
      cases b with
      | false =>
        simp only [Bool.false_eq_true, if_false] at hl ⊢
        exact fin hw p4.1 (xi.trans x4) (fun a ha => (k4 a (.inl ha)).trans (ki a ha)) ⟨accV, (k4 D (.inr rfl)).trans hDv, rdv.ext x4⟩ hl
      | true =>
        simp only [if_true] at hl ⊢
        obtain ⟨⟨ys, g2⟩, b3, hl⟩ := bind_ok hl
        obtain ⟨⟨acc', g3⟩, b4, hl⟩ := bind_ok hl
        dsimp only at hl b4
        refine ⟨A1, as, g1, ys, g2, p4.1, b3, fun J1 H5 pn5 io5 => ?_⟩
        have k5 : ∀ a, A1 a → H5 a = H2 a := fun a ha => (pn5.2.2 a ha).trans (k4 a ha)
        have x5 : Ext (Lv A1 fi as (wipe σ own)) H2 (Lv A1 g2 as σ2) H5 := x4.trans pn5.2.1
        have W := pn5.1.wiped (own := own1)
        have xw : Ext (Lv A1 g2 as σ2) H5 (Lv A1 { g2 with ρ := wipeL g2.ρ own1 } as (wipe σ2 own1)) H5 := Ext.less W.2
        have ob5 : ObR K (Lv A1 { g2 with ρ := wipeL g2.ρ own1 } as (wipe σ2 own1)) H5 D (.lst acc) := ⟨accV, (k5 D (.inr rfl)).trans hDv, (rdv.ext x5).ext xw⟩
        refine lc_inner (Nx := P (i + 1)) (D := D) (.inr rfl) htg1 W.1 ob5 (io5.ext xw) b4 fun H6 R6 ob6 x6 k6 _ => ?_
        have hw9 : wipe (wipe σ2 own1) own = wipe σ own := (wipe_wipe hsub').trans hw
        exact fin hw9 R6 (((xi.trans x5).trans xw).trans x6) (fun a ha => (k6 a (.inl ha) (nAD a ha)).trans ((k5 a (.inl ha)).trans (ki a ha))) ob6 hl
    · have hn : i = ds.length := by omega
      subst hn
      rw [List.drop_length] at hl
      unfold lc2Loop at hl
      cases hl
      refine .inl ⟨(io' _ _ Ext.refl).1, hQ _ _ ?_⟩
      have xf : Ext (Lv A1 f1 as σ) H1 (Lv A1 f2 as (wipe σ own)) H2 := by
        intro a o q n
        by_cases z : a = D
        · rw [z, hD] at q; cases q
        · exact xi a o (by rw [upd_ne z]; exact q) n
      have B := Ri.slots (ρ' := backL f1.ρ f2.ρ own) (σ' := σ) (backL_len _ _ _) wlen.symm fun j l q => by
        rcases backL_get q with ⟨hj, rfl⟩ | ⟨hj, q'⟩
        · cases q1 : f1.ρ[j]? with
          | none => exact .inr (.inl (by rw [List.getD_eq_getElem?_getD, q1]; rfl))
          | some l =>
            rw [List.getD_eq_getElem?_getD, q1]
            cases l with
            | no => exact .inr (.inl rfl)
            | d x =>
              obtain ⟨v, h1, h2⟩ := pn.1.sd j x q1
              exact .inr (.inr (.inl ⟨x, v, rfl, h1, h2.ext (x1.trans xi)⟩))
            | own o => exact absurd q1 (noOwn_get hno hj)
            | c n =>
              obtain ⟨a, h1, h2⟩ := pn.1.sc j n q1
              exact .inr (.inr (.inr ⟨n, a, rfl, h1, h2⟩))
        · exact .inl ⟨q', (wipe_out hj).symm⟩
      have xb : Ext (Lv A1 f2 as (wipe σ own)) H2 (Lv A1 { f2 with ρ := backL f1.ρ f2.ρ own } as σ) H2 := Ext.less B.2
      refine ⟨A1, fun a ha => .inl ha, B.1, ⟨D, rfl, .inr rfl, ob.ext xb rfl⟩, fun o _ a ea ha => ?_, ?_, fun a ha => (ki a ha).trans (pn.2.2 a ha)⟩
      · cases ea; exact nAD D ha rfl
      · exact (pn.2.1.trans (x1.trans xi)).trans xb
  · cases he
end Vm
set_option maxRecDepth 100000
set_option maxHeartbeats 1000000
namespace Vm
open PySem PySem.Spec L2
/-! ### a comprehension over a list in a slot, which stays as it is -/
mutual
theorem eqD_eq : ∀ {a b : D}, eqD a b = true → a = b
  | .none, .none, _ => rfl
  | .bool a, .bool b, h => by unfold eqD at h; rw [eq_of_beq h]
  | .int a, .int b, h => by unfold eqD at h; rw [eq_of_beq h]
  | .str a, .str b, h => by unfold eqD at h; rw [of_decide_eq_true h]
  | .list a, .list b, h => by unfold eqD at h; rw [eqDs_eq h]
  | .tuple a, .tuple b, h => by unfold eqD at h; rw [eqDs_eq h]
  | .none, .bool _, h | .none, .int _, h | .none, .str _, h | .none, .list _, h | .none, .tuple _, h | .none, .dict _, h => by unfold eqD at h; cases h
  | .bool _, .none, h | .bool _, .int _, h | .bool _, .str _, h | .bool _, .list _, h | .bool _, .tuple _, h | .bool _, .dict _, h => by unfold eqD at h; cases h
  | .int _, .none, h | .int _, .bool _, h | .int _, .str _, h | .int _, .list _, h | .int _, .tuple _, h | .int _, .dict _, h => by unfold eqD at h; cases h
  | .str _, .none, h | .str _, .bool _, h | .str _, .int _, h | .str _, .list _, h | .str _, .tuple _, h | .str _, .dict _, h => by unfold eqD at h; cases h
  | .list _, .none, h | .list _, .bool _, h | .list _, .int _, h | .list _, .str _, h | .list _, .tuple _, h | .list _, .dict _, h => by unfold eqD at h; cases h
  | .tuple _, .none, h | .tuple _, .bool _, h | .tuple _, .int _, h | .tuple _, .str _, h | .tuple _, .list _, h | .tuple _, .dict _, h => by unfold eqD at h; cases h
  | .dict _, b, h => by cases b <;> (unfold eqD at h; cases h)
theorem eqDs_eq : ∀ {a b : List D}, eqDs a b = true → a = b
  | [], [], _ => rfl
  | x :: xs, y :: ys, h => by
    unfold eqDs at h
    simp only [Bool.and_eq_true] at h
    rw [eqD_eq h.1, eqDs_eq h.2]
  | [], _ :: _, h => by unfold eqDs at h; cases h
  | _ :: _, [], h => by unfold eqDs at h; cases h
end
theorem keep_at {j : Nat} {ds : List D} {f : F} (h : keepB j ds f = true) : lstAt f j = some ds := by
  unfold keepB at h
  split at h
  · rename_i xs e
    rw [e, eqDs_eq h]
  · cases h
mutual
theorem bindT_out {j : Nat} : ∀ {t : Tg} {d : D} {ρ ρ1 : List LV}, bindT t d ρ = some ρ1 → j ∉ tgI t → ρ1[j]? = ρ[j]?
  | .name i, d, ρ, ρ1, h, n => by
    unfold bindT at h
    cases h
    rw [List.getElem?_set_ne]
    intro z
    exact n (by unfold tgI; rw [z]; exact List.mem_singleton_self _)
  | .tup ts, .tuple ds, ρ, ρ1, h, n => by
    unfold bindT at h
    exact bindTs_out h (by unfold tgI at n; exact n)
  | .tup ts, .none, ρ, ρ1, h, n | .tup ts, .bool _, ρ, ρ1, h, n | .tup ts, .int _, ρ, ρ1, h, n | .tup ts, .str _, ρ, ρ1, h, n | .tup ts, .list _, ρ, ρ1, h, n | .tup ts, .dict _, ρ, ρ1, h, n => by unfold bindT at h; cases h
theorem bindTs_out {j : Nat} : ∀ {ts : List Tg} {ds : List D} {ρ ρ1 : List LV}, bindTs ts ds ρ = some ρ1 → j ∉ tgIs ts → ρ1[j]? = ρ[j]?
  | [], [], ρ, ρ1, h, n => by unfold bindTs at h; cases h; rfl
  | t :: ts, d :: ds, ρ, ρ1, h, n => by
    unfold bindTs at h
    obtain ⟨ρ2, h1, h2⟩ := obind h
    unfold tgIs at n
    rw [List.mem_append, not_or] at n
    rw [bindTs_out h2 n.2, bindT_out h1 n.1]
  | [], _ :: _, ρ, ρ1, h, n => by unfold bindTs at h; cases h
  | _ :: _, [], ρ, ρ1, h, n => by unfold bindTs at h; cases h
end
theorem keep_bind {j : Nat} {ds : List D} {t : Tg} {d : D} {f : F} {ρ1 : List LV} (h : bindT t d f.ρ = some ρ1) (n : j ∉ tgI t) : keepB j ds f = keepB j ds { f with ρ := ρ1 } := by
  unfold keepB lstAt
  rw [show ({ f with ρ := ρ1 } : F).ρ[j]? = f.ρ[j]? from bindT_out h n]
section
variable {K : PySem.W.Frag} {A : ASet} {as : List Addr} {f : F} {σ : L2.St} {H : Hp}
theorem lst_rd {j : Nat} {ds : List D} {a : Addr} (R : Rel K A as f σ H) (hs : σ[j]? = some (some (.ref a))) (h : lstAt f j = some ds) : ∃ vs, LL K H a vs ∧ RdA K (Lv A f as σ) H ds vs := by
  unfold lstAt at h
  split at h
  · rename_i xs q
    cases h
    obtain ⟨b, h1, h2, _⟩ := R.so j _ q
    rw [hs] at h1
    cases h1
    obtain ⟨vs, e, r⟩ := h2
    exact ⟨vs, .inl (.inl e), r⟩
  · rename_i n q
    obtain ⟨b, h1, h2⟩ := R.sc j n q
    rw [hs] at h2
    cases h2
    split at h
    · rename_i xs q2
      cases h
      obtain ⟨vs, e, r⟩ := (R.co n _ a q2 h1).1
      exact ⟨vs, .inl (.inl e), r⟩
    · rename_i xs q2
      cases h
      have h2 := (R.cd n _ a q2 h1).1
      unfold Rd at h2
      obtain ⟨b, vs, e, s, r⟩ := h2
      cases e
      exact ⟨vs, s.ll, r⟩
    · cases h
  · cases h
theorem keep_it {j : Nat} {ds : List D} {a : Addr} (R : Rel K A as f σ H) (hs : σ[j]? = some (some (.ref a))) (h : keepB j ds f = true) :
    (Itl K a).stop ds.length H ∧ ∀ i d, ds[i]? = some d → (Itl K a).go i H ∧ ∀ x H'', (Itl K a).yld i H x H'' → OpPost K (Lv A f as σ) H (.d d) x H'' ∧ norm d = d := by
  obtain ⟨vs, s, r⟩ := lst_rd R hs (keep_at h)
  refine ⟨⟨vs, s.sq, by rw [r.len]; exact Nat.le_refl _⟩, fun i d hd => ?_⟩
  obtain ⟨v, h1, h2⟩ := r.get hd
  refine ⟨⟨vs, v, s.sq, h1⟩, fun y H'' hy => ?_⟩
  obtain ⟨rfl, hy⟩ := hy
  have := hy vs s.sq
  rw [h1] at this; cases this
  exact ⟨.inl ⟨rfl, h2⟩, h2.norm⟩
end
def tIK (K : PySem.W.Frag) (j : Nat) : TI := fun σ H R => ∃ A as f ds, Rel K A as f σ H ∧ lstAt f j = some ds ∧ ∀ a H1, PostN K A as f σ H f H1 → σ[j]? = some (some (.ref a)) → R (Itl K a) H1
theorem pi_lstK {X : Cx} {G : Call} {tg e : Expr} {j : Nat} (h : PE X e (tD X.K G (.v j))) : PI X tg e (tIK X.K j) := by
  refine PI.imp (pi_list h) fun σ H R q => ?_
  obtain ⟨A, as, f, ds, R0, e1, hR⟩ := q
  have e2 := e1
  unfold lstAt at e2
  split at e2
  · rename_i xs q
    refine ⟨A, as, f, .vr j, f, R0, by unfold evE; rw [q], fun v H1 p => ?_⟩
    obtain ⟨A', s, R', ⟨a, rfl, ha⟩, n, x, k⟩ := p
    have pn : PostN X.K A as f σ H f H1 := ⟨R'.less s, x.trans (ext_less s), k⟩
    obtain ⟨vs, s, _⟩ := lst_rd pn.1 ha e1
    exact ⟨a, rfl, ⟨vs, s.sq⟩, hR a H1 pn ha⟩
  · rename_i n q
    refine ⟨A, as, f, .ce n, f, R0, by unfold evE; rw [q], fun v H1 p => ?_⟩
    obtain ⟨A', s, R', ⟨a, rfl, ha⟩, n', x, k⟩ := p
    have pn : PostN X.K A as f σ H f H1 := ⟨R'.less s, x.trans (ext_less s), k⟩
    obtain ⟨b, h1, h2⟩ := pn.1.sc j n q
    rw [ha] at h1
    cases h1
    obtain ⟨vs, s, _⟩ := lst_rd pn.1 h2 e1
    exact ⟨a, rfl, ⟨vs, s.sq⟩, hR a H1 pn h2⟩
  · cases e2
def iK (K : PySem.W.Frag) (G : Call) (j : Nat) : TI := fun σ H R => tIK K j σ H R ∨ tI K G (.seq (.v j)) σ H R
theorem pi_K {X : Cx} {G : Call} {tg e : Expr} {j : Nat} (h : PE X e (tD X.K G (.v j))) : PI X tg e (iK X.K G j) :=
  PI.or (pi_lstK h) (PI.imp (PI.or (pi_list h) (PI.or (pi_tup h) (pi_str h))) fun σ H R q => tI_seq q)
theorem tD_lck {K : PySem.W.Frag} {G : Call} {σ : L2.St} {H : Hp} {t : Tg} {sl : Nat} {ifs : List Ex} {e : Ex} {own : List Nat} {Q : VK} (h : tD K G (.lck t sl ifs e own) σ H Q) :
    tLc (iK K G sl) (tG K t) (tTs K G ifs) (tD K G e) own σ H Q := by
  obtain ⟨A, as, f, rv, f', R, he, hQ⟩ := h
  unfold evE at he
  cases hdat : isDat f sl with
  | some x =>
    rw [hdat] at he
    dsimp only at he
    have hv : evE G (.v sl) f = .ok (.d x, f) := by
      unfold isDat at hdat
      split at hdat
      · rename_i y q
        cases hdat
        unfold evE
        rw [q]
      · cases hdat
    have ei : evI G (.seq (.v sl)) f = (ofOpt (itemsD (norm x))).bind fun l => .ok (l, f) := by
      unfold evI
      rw [hv]
      rfl
    rw [← ei] at he
    have h2 : tD K G (.lc t (.seq (.v sl)) ifs e own) σ H Q := ⟨A, as, f, rv, f', R, by unfold evE; exact he, hQ⟩
    exact Or.inr (tD_lc h2)
  | none =>
  rw [hdat] at he
  refine Or.inl ?_
  obtain ⟨ds, e1, he⟩ := bind_ok he
  have e1 := ofOpt_ok e1
  dsimp only at he
  split at he
  · rename_i hc
    obtain ⟨hno, htg, hj⟩ := hc
    have hj : sl ∉ own := by simpa using hj
    obtain ⟨⟨res, f2⟩, e2, he⟩ := bind_ok he
    dsimp only at he
    split at he
    case isFalse => cases he
    rename_i hk2
    cases he
    refine ⟨A, as, f, ds, R, e1, fun ra H1 pn hra D hD => ?_⟩
    obtain ⟨Rz, xz⟩ := pn.1.frzV own
    replace pn : PostN K A as f σ H (frzV f own) H1 := ⟨Rz, pn.2.1.trans xz, pn.2.2⟩
    generalize frzV f own = f1 at *
    let A1 : ASet := fun a => A a ∨ a = D
    let f10 : F := { f1 with ρ := wipeL f1.ρ own }
    have nAD : ∀ a, A a → a ≠ D := fun a ha z => by
      obtain ⟨o, q⟩ := pn.1.al a ha
      rw [z, hD] at q; cases q
    obtain ⟨R1, x1, k1⟩ := pn.1.laid (o := .lst []) hD
    have R10 := R1.wiped (own := own)
    have lv10 : ∀ a, Lv A1 f10 as (wipe σ own) a ↔ Lv A1 f1 as σ a := fun a => ⟨R10.2 a, fun z => z.imp id (Rel.wiped_live hno R1)⟩
    have eq10 : Lv A1 f10 as (wipe σ own) = Lv A1 f1 as σ := by funext a; exact propext (lv10 a)
    have wlen : (wipe σ own).length = σ.length := wipe_length _ _
    -- the state ahead of a turn
    let P : Nat → Hp → Prop := fun i H2 => ∃ fi acc, Rel K A1 as fi (wipe σ own) H2 ∧ ObR K (Lv A1 fi as (wipe σ own)) H2 D (.lst acc) ∧
      lcLoop (evK sl ds (evT G ifs)) (evE G e) t own (ds.drop i) acc fi = .ok (res, f2) ∧ Ext (Lv A1 f1 as σ) (upd H1 D (.lst [])) (Lv A1 fi as (wipe σ own)) H2 ∧ (∀ a, A a → H2 a = H1 a) ∧ fi.ρ.length = f1.ρ.length
    refine ⟨fun i m H2 => m = ds.length - i ∧ i ≤ ds.length ∧ P i H2, ⟨_, rfl, Nat.zero_le _, f10, [], R10.1, ⟨[], upd_same, rfl⟩, e2, by rw [eq10]; exact Ext.refl, fun a ha => upd_ne (nAD a ha), wipeL_len _ _⟩, ?_⟩
    rintro i m H2 ⟨rfl, hi, fi, acc, Ri, ob, hl, xi, ki, li⟩
    have hs2 : (wipe σ own)[sl]? = some (some (.ref ra)) := by rw [wipe_out hj]; exact hra
    by_cases hlt : i < ds.length
    · have hd : ds[i]? = some ds[i] := by simp [hlt]
      have hdrop : ds.drop i = ds[i] :: ds.drop (i + 1) := List.drop_eq_getElem_cons hlt
      rw [hdrop] at hl
      unfold lcLoop at hl
      obtain ⟨ρ1, b1, hl⟩ := bind_ok hl
      have b1 := ofOpt_ok b1
      obtain ⟨⟨b, g1⟩, b2, hl⟩ := bind_ok hl
      dsimp only at hl
      unfold evK at b2
      split at b2
      case isFalse => cases b2
      rename_i hkp
      have hkp : keepB sl ds fi = true := by
        rw [← hkp]
        refine keep_bind b1 fun z => hj ?_
        have := List.all_eq_true.mp htg sl z
        simpa using this
      obtain ⟨go, yld⟩ := (keep_it Ri hs2 hkp).2 i _ hd
      refine .inr ⟨go, P (i + 1), fun H' p => ⟨ds.length - (i + 1), by omega, rfl, hlt, p⟩, fun x H3 hy => ?_⟩
      have py := op_post Ri (yld x H3 hy).1
      obtain ⟨pny, rdy⟩ := py.kept (y := ds[i]) (f'' := fi) (congrArg (fun z => some (z, fi)) (yld x H3 hy).2)
      refine ⟨A1, as, fi, _, ρ1, pny.1, rdy, b1, fun σ2 bp => ?_⟩
      have hw : wipe σ2 own = wipe σ own := by
        refine wipe_eq (is := tgI t) (fun i hi => ?_) (bp.2.2.1.trans wlen) fun j hj => bp.2.2.2 j hj
        have := List.all_eq_true.mp htg i hi
        simpa using this
      refine ⟨hw, A1, as, _, b, g1, bp.1, b2, fun H4 p4 => ?_⟩
      have k4 : ∀ a, A1 a → H4 a = H2 a := fun a ha => (p4.2.2 a ha).trans (pny.2.2 a ha)
      have x4 : Ext (Lv A1 fi as (wipe σ own)) H2 (Lv A1 g1 as σ2) H4 := (pny.2.1.trans bp.2.1).trans p4.2.1
      obtain ⟨accV, hDv, rdv⟩ := ob
      have fin : ∀ {g : F} {H5 : Hp} {acc' : List PyData}, Rel K A1 as g σ2 H5 → Ext (Lv A1 f1 as σ) (upd H1 D (.lst [])) (Lv A1 g as σ2) H5 → (∀ a, A a → H5 a = H1 a) → ObR K (Lv A1 g as σ2) H5 D (.lst acc') →
          lcLoop (evK sl ds (evT G ifs)) (evE G e) t own (ds.drop (i + 1)) acc' { g with ρ := wipeL g.ρ own } = .ok (res, f2) → P (i + 1) H5 := fun {g H5 acc'} Rg xg kg og hl => by
        have W := Rg.wiped (own := own)
        rw [hw] at W
        have xw : Ext (Lv A1 g as σ2) H5 (Lv A1 { g with ρ := wipeL g.ρ own } as (wipe σ own)) H5 := Ext.less W.2
        refine ⟨_, acc', W.1, og.ext xw rfl, hl, xg.trans xw, kg, ?_⟩
        have e1 := W.1.lenσ
        have e2 := R1.lenσ
        rw [wlen] at e1
        exact e1.symm.trans e2
      cases b with
      | false =>
        simp only [Bool.false_eq_true, if_false] at hl ⊢
        exact fin p4.1 (xi.trans x4) (fun a ha => (k4 a (.inl ha)).trans (ki a ha)) ⟨accV, (k4 D (.inr rfl)).trans hDv, rdv.ext x4⟩ hl
      | true =>
        simp only [if_true] at hl ⊢
        obtain ⟨⟨r, g2⟩, b3, hl⟩ := bind_ok hl
        obtain ⟨⟨y, g3⟩, b4, hl⟩ := bind_ok hl
        have b4 := ofOpt_ok b4
        dsimp only at hl b4
        split at hl
        · rename_i hz
          refine ⟨A1, as, g1, r, g2, p4.1, b3, fun yv H5 p5 => ?_⟩
          obtain ⟨pn5, rd5⟩ := p5.kept b4
          have k5 : ∀ a, A1 a → H5 a = H2 a := fun a ha => (pn5.2.2 a ha).trans (k4 a ha)
          have x5 : Ext (Lv A1 fi as (wipe σ own)) H2 (Lv A1 g3 as σ2) H5 := x4.trans pn5.2.1
          refine ⟨accV, (k5 D (.inr rfl)).trans hDv, by rw [sizeLine_eq]; rw [rdv.len]; exact hz, ?_⟩
          -- the item is put in
          have x6 : Ext (Lv A1 g3 as σ2) H5 (Lv A1 g3 as σ2) (upd H5 D (.lst (accV ++ [yv]))) := fun a o q n => ⟨by rw [upd_ne (fun z => n (.inl (.inr z)))]; exact q, n⟩
          have R6 : Rel K A1 as g3 σ2 (upd H5 D (.lst (accV ++ [yv]))) := by
            refine pn5.1.step (fun a ha => ?_) x6 (fun a ho => upd_ne fun z => ?_) fun a ho z => pn5.1.nA ho z
            · by_cases q : a = D
              · subst q; exact ⟨_, upd_same⟩
              · rw [upd_ne q]; exact pn5.1.al a ha
            · exact pn5.1.nA ho (.inr z)
          exact fin R6 ((xi.trans x5).trans x6) (fun a ha => by rw [upd_ne (nAD a ha)]; exact (k5 a (.inl ha)).trans (ki a ha)) ⟨_, upd_same, ((rdv.ext x5).app1 rd5).ext x6⟩ hl
        · cases hl
    · have hn : i = ds.length := by omega
      subst hn
      rw [List.drop_length] at hl
      unfold lcLoop at hl
      cases hl
      refine .inl ⟨(keep_it Ri hs2 hk2).1, hQ _ _ ?_⟩
      have xf : Ext (Lv A1 f1 as σ) H1 (Lv A1 f2 as (wipe σ own)) H2 := by
        intro a o q n
        by_cases z : a = D
        · rw [z, hD] at q; cases q
        · exact xi a o (by rw [upd_ne z]; exact q) n
      have B := Ri.slots (ρ' := backL f1.ρ f2.ρ own) (σ' := σ) (backL_len _ _ _) wlen.symm fun j l q => by
        rcases backL_get q with ⟨hj, rfl⟩ | ⟨hj, q'⟩
        · cases q1 : f1.ρ[j]? with
          | none => exact .inr (.inl (by rw [List.getD_eq_getElem?_getD, q1]; rfl))
          | some l =>
            rw [List.getD_eq_getElem?_getD, q1]
            cases l with
            | no => exact .inr (.inl rfl)
            | d x =>
              obtain ⟨v, h1, h2⟩ := pn.1.sd j x q1
              exact .inr (.inr (.inl ⟨x, v, rfl, h1, h2.ext (x1.trans xi)⟩))
            | own o => exact absurd q1 (noOwn_get hno hj)
            | c n =>
              obtain ⟨a, h1, h2⟩ := pn.1.sc j n q1
              exact .inr (.inr (.inr ⟨n, a, rfl, h1, h2⟩))
        · exact .inl ⟨q', (wipe_out hj).symm⟩
      have xb : Ext (Lv A1 f2 as (wipe σ own)) H2 (Lv A1 { f2 with ρ := backL f1.ρ f2.ρ own } as σ) H2 := Ext.less B.2
      refine ⟨A1, fun a ha => .inl ha, B.1, ⟨D, rfl, .inr rfl, ob.ext xb rfl⟩, fun o _ a ea ha => ?_, ?_, fun a ha => (ki a ha).trans (pn.2.2 a ha)⟩
      · cases ea; exact nAD D ha rfl
      · exact (pn.2.1.trans (x1.trans xi)).trans xb
  · cases he
/-! ### the same for a list that came by reference, told by its place among those -/
section
variable {K : PySem.W.Frag} {A : ASet} {as : List Addr} {f : F} {σ : L2.St} {H : Hp}
theorem lstS_rd {n : Nat} {ds : List D} {a : Addr} (R : Rel K A as f σ H) (ha : as[n]? = some a) (h : lstS f n = some ds) : ∃ vs, LL K H a vs ∧ RdA K (Lv A f as σ) H ds vs := by
  unfold lstS at h
  split at h
  · rename_i xs q2
    cases h
    obtain ⟨vs, e, r⟩ := (R.co n _ a q2 ha).1
    exact ⟨vs, .inl (.inl e), r⟩
  · rename_i xs q2
    cases h
    have h2 := (R.cd n _ a q2 ha).1
    unfold Rd at h2
    obtain ⟨b, vs, e, s, r⟩ := h2
    cases e
    exact ⟨vs, s.ll, r⟩
  · cases h
theorem keepS_at {n : Nat} {ds : List D} (h : keepS n ds f = true) : lstS f n = some ds := by
  unfold keepS at h
  split at h
  · rename_i xs e
    rw [e, eqDs_eq h]
  · cases h
theorem keepS_it {n : Nat} {ds : List D} {a : Addr} (R : Rel K A as f σ H) (ha : as[n]? = some a) (h : keepS n ds f = true) :
    (Itl K a).stop ds.length H ∧ ∀ i d, ds[i]? = some d → (Itl K a).go i H ∧ ∀ x H'', (Itl K a).yld i H x H'' → OpPost K (Lv A f as σ) H (.d d) x H'' ∧ norm d = d := by
  obtain ⟨vs, s, r⟩ := lstS_rd R ha (keepS_at h)
  refine ⟨⟨vs, s.sq, by rw [r.len]; exact Nat.le_refl _⟩, fun i d hd => ?_⟩
  obtain ⟨v, h1, h2⟩ := r.get hd
  refine ⟨⟨vs, v, s.sq, h1⟩, fun y H'' hy => ?_⟩
  obtain ⟨rfl, hy⟩ := hy
  have := hy vs s.sq
  rw [h1] at this; cases this
  exact ⟨.inl ⟨rfl, h2⟩, h2.norm⟩
end
def tIR (K : PySem.W.Frag) (j : Nat) : TI := fun σ H R => ∃ A as f n ds, Rel K A as f σ H ∧ refAt f j = some n ∧ lstS f n = some ds ∧ ∀ a H1, PostN K A as f σ H f H1 → as[n]? = some a → R (Itl K a) H1
theorem pi_lstR {X : Cx} {G : Call} {tg e : Expr} {j : Nat} (h : PE X e (tD X.K G (.v j))) : PI X tg e (tIR X.K j) := by
  refine PI.imp (pi_list h) fun σ H R q => ?_
  obtain ⟨A, as, f, n, ds, R0, e0, e1, hR⟩ := q
  unfold refAt at e0
  split at e0
  · rename_i n2 q
    cases e0
    refine ⟨A, as, f, .ce n, f, R0, by unfold evE; rw [q], fun v H1 p => ?_⟩
    obtain ⟨A', s, R', ⟨a, rfl, ha⟩, n', x, k⟩ := p
    have pn : PostN X.K A as f σ H f H1 := ⟨R'.less s, x.trans (ext_less s), k⟩
    obtain ⟨vs, s, _⟩ := lstS_rd pn.1 ha e1
    exact ⟨a, rfl, ⟨vs, s.sq⟩, hR a H1 pn ha⟩
  · cases e0
def iR (K : PySem.W.Frag) (G : Call) (j : Nat) : TI := fun σ H R => tIR K j σ H R ∨ tI K G (.seq (.v j)) σ H R
theorem pi_R {X : Cx} {G : Call} {tg e : Expr} {j : Nat} (h : PE X e (tD X.K G (.v j))) : PI X tg e (iR X.K G j) :=
  PI.or (pi_lstR h) (PI.imp (PI.or (pi_list h) (PI.or (pi_tup h) (pi_str h))) fun σ H R q => tI_seq q)
end Vm
set_option maxRecDepth 100000
set_option maxHeartbeats 1000000
namespace Vm
open PySem PySem.Spec L2
section
variable {X : Cx} {Γ : Gam} {G : Call} {m : Nat}
theorem PTs.imp {X : Cx} {e : List Expr} {t t' : TT} (h : PTs X e t) (i : ∀ σ H Q, t' σ H Q → t σ H Q) : PTs X e t' := ⟨fun pins s σ H Q I q => h.run pins s σ H Q I (i σ H Q q)⟩
theorem pts_ok {n : Nat} (ih : IH Γ G X n) {ifs : List Expr} {ifs' : List Ex} (hl : ifs.length ≤ 1) (h : mapO (comp n Γ) ifs = some ifs') : PTs X ifs (tTs X.K G ifs') := by
  match ifs, hl, h with
  | [], _, h =>
    cases h
    refine PTs.imp pts_nil fun σ H Q q => ?_
    obtain ⟨A, as, f, b, f', R, e, q⟩ := q
    unfold evT at e
    cases e
    exact q H ⟨R, Ext.refl, fun _ _ => rfl⟩
  | [c], _, h =>
    obtain ⟨c', t, q1, q2, rfl⟩ := mapO_cons h
    cases q2
    refine PTs.imp (pts_one (ih c c' q1).t) fun σ H Q q => ?_
    obtain ⟨A, as, f, b, f', R, e, q⟩ := q
    unfold evT at e
    obtain ⟨⟨rv, f1⟩, e1, e⟩ := bind_ok e
    obtain ⟨t, e2, e⟩ := bind_ok e
    obtain ⟨y, e3, e4⟩ := obind (ofOpt_ok e2)
    have e5 := evC_mk e1 e3 e4
    cases t with
    | true =>
      rw [if_pos rfl] at e
      unfold evT at e
      cases e
      exact ⟨A, as, f, _, _, R, e5, q⟩
    | false =>
      rw [if_neg Bool.false_ne_true] at e
      cases e
      exact ⟨A, as, f, _, _, R, e5, q⟩
  | _ :: _ :: _, hl, _ => simp at hl
theorem XOk.blk (C : XOk Γ G m X) (scope : Scope) (s : Shared) (H : Hp) (c : Addr) (cl : List (Str × Addr)) (fp : List Addr) : XOk (Γ.blk scope) G m (X.blk s H scope (compEnvC scope cl c X.env) fp) where
  N := C.N
  nd := C.nd
  sc := by
    show relabel scope X.env = relS scope Γ.sc
    rw [← C.sc]; rfl
  calm := C.calm
  room := C.room
  gd := C.gd
  df := C.df
  cs := C.cs
  bs := C.bs
  lc := C.lc
  fn := fun x h => h
theorem itC_seq {Γ : Gam} {g : Expr → Option Ex} {isT : Bool} {e : Expr} {a : Ex} (h : itC Γ g isT e = some (.seq a)) : g e = some a := by
  have gen : ∀ {e : Expr}, (g e).map It.seq = some (.seq a) → g e = some a := fun {e} h => by
    obtain ⟨b, h1, h2⟩ := omap h
    cases h2
    exact h1
  unfold itC at h
  split at h
  · split at h
    · split at h
      · split at h
        · obtain ⟨_, _, z⟩ := omap h; cases z
        · cases h
      · split at h
        · split at h
          · split at h
            · obtain ⟨_, _, z⟩ := omap h; cases z
            · cases h
          · cases h
        · split at h
          · split at h
            · obtain ⟨_, _, h⟩ := obind h
              obtain ⟨_, _, h⟩ := obind h
              cases h
            · cases h
          · cases h
    · exact gen h
  · cases h
  · exact gen h
/-- a comprehension of one clause: what it goes over, and its reading -/
theorem mkLc_ok (C : XOk Γ G m X) {n : Nat} (ih : IH Γ G X n) {tg iter : Expr} {it : It} {t : Tg} {ifs : List Ex} {e : Ex} {own : List Nat} (hT : isTupE tg = true → ∃ es k p, tg = .Tuple es k p) (h : itC Γ (comp n Γ) (isTupE tg) iter = some it) :
    ∃ wi : TI, PI X tg iter wi ∧ ∀ σ H Q, tD X.K G (Γ.mkLc t it ifs e own) σ H Q → tLc wi (tG X.K t) (tTs X.K G ifs) (tD X.K G e) own σ H Q := by
  have gen : ∃ wi : TI, PI X tg iter wi ∧ ∀ σ H Q, tD X.K G (.lc t it ifs e own) σ H Q → tLc wi (tG X.K t) (tTs X.K G ifs) (tD X.K G e) own σ H Q := ⟨_, pi_it C ih hT h, fun σ H Q q => tD_lc q⟩
  unfold Gam.mkLc
  split
  · split
    · rename_i j
      exact ⟨_, pi_K (ih iter (.v j) (itC_seq h)).e, fun σ H Q q => tD_lck q⟩
    · exact gen
  · exact gen
theorem e_lc (C : XOk Γ G m X) {n : Nat} (ih : IH Γ G X n) (ihB : ∀ (scope : Scope) (s : Shared) (H : Hp) (c : Addr) (cl : List (Str × Addr)) (fp : List Addr), IH (Γ.blk scope) G (X.blk s H scope (compEnvC scope cl c X.env) fp) n)
    {elt tg iter : Expr} {ifs : List Expr} {scope : Scope} {pos : Pos} {ir : Ex} (h : comp (n + 1) Γ (.ListComp elt [⟨tg, iter, ifs, 0⟩] scope pos) = some ir) : E3 X G (.ListComp elt [⟨tg, iter, ifs, 0⟩] scope pos) ir := by
  refine .plain ?_ (fun _ => rfl) fun _ _ _ z => by cases z
  obtain ⟨own, h0, h⟩ := obind (show (ownC Γ.N scope).bind _ = some ir from by
    have h : (if (0 : Int) = 0 then _ else none) = some ir := h
    rw [if_pos rfl] at h
    exact h)
  split at h
  · rename_i hc
    obtain ⟨t, h1, h⟩ := obind h
    obtain ⟨it, h2, h⟩ := obind h
    obtain ⟨ifs', h3, h⟩ := obind h
    obtain ⟨e', h4, h⟩ := obind h
    cases h
    have ok : BlkOk X.N X.env.scope scope own := by rw [C.N, C.sc]; exact blkOk_by hc.1
    have hT : isTupE tg = true → ∃ es k p, tg = .Tuple es k p := fun h => by
      unfold isTupE at h
      split at h
      · exact ⟨_, _, _, rfl⟩
      · cases h
    obtain ⟨wi, w1, w2⟩ := mkLc_ok C ih (t := t) (ifs := ifs') (e := e') (own := own.map (·.2)) hT h2
    refine PE.imp (pe_lc C.calm C.nd w1 ok (fun s H c cl fp => pg_tg (Γ := Γ.blk scope) (C.blk scope s H c cl fp).N (C.blk scope s H c cl fp).nd (C.blk scope s H c cl fp).sc (C.blk scope s H c cl fp).calm (C.blk scope s H c cl fp).fn tg t h1)
      (fun s H c cl fp => pts_ok (ihB scope s H c cl fp) hc.2 h3) (fun s H c cl fp => (ihB scope s H c cl fp elt e' h4).e) (fold_no h2)) fun σ H Q q => w2 σ H Q q
  · cases h
theorem e_lc2 (C : XOk Γ G m X) {n : Nat} (ih : IH Γ G X n) (ihB : ∀ (scope : Scope) (s : Shared) (H : Hp) (c : Addr) (cl : List (Str × Addr)) (fp : List Addr), IH (Γ.blk scope) G (X.blk s H scope (compEnvC scope cl c X.env) fp) n)
    {elt tg iter tg1 iter1 : Expr} {ifs ifs1 : List Expr} {scope : Scope} {pos : Pos} {ir : Ex} (h : comp (n + 1) Γ (.ListComp elt [⟨tg, iter, ifs, 0⟩, ⟨tg1, iter1, ifs1, 0⟩] scope pos) = some ir) : E3 X G (.ListComp elt [⟨tg, iter, ifs, 0⟩, ⟨tg1, iter1, ifs1, 0⟩] scope pos) ir := by
  refine .plain ?_ (fun _ => rfl) fun _ _ _ z => by cases z
  obtain ⟨own, h0, h⟩ := obind (show (ownC Γ.N scope).bind _ = some ir from by
    have h : (if (0 : Int) = 0 ∧ (0 : Int) = 0 then _ else none) = some ir := h
    rw [if_pos ⟨rfl, rfl⟩] at h
    exact h)
  split at h
  · rename_i hc
    obtain ⟨t, h1, h⟩ := obind h
    obtain ⟨it, h2, h⟩ := obind h
    obtain ⟨ifs', h3, h⟩ := obind h
    obtain ⟨t1, h4, h⟩ := obind h
    obtain ⟨it1, h5, h⟩ := obind h
    obtain ⟨ifs1', h6, h⟩ := obind h
    obtain ⟨e', h7, h⟩ := obind h
    split at h
    · rename_i hs
      cases h
      have ok : BlkOk X.N X.env.scope scope own := by rw [C.N, C.sc]; exact blkOk_by hc.1
      have hT : ∀ {tg : Expr}, isTupE tg = true → ∃ es k p, tg = .Tuple es k p := fun h => by
        unfold isTupE at h
        split at h
        · exact ⟨_, _, _, rfl⟩
        · cases h
      have hv : ∀ i ∈ tgI t1, i ∈ own.map (·.2) := fun i hi => by have := List.all_eq_true.mp hs i hi; simpa using this
      refine PE.imp (pe_lc2 C.calm C.nd (pi_it C ih hT h2) ok hv (fun s H c cl fp => pg_tg (Γ := Γ.blk scope) (C.blk scope s H c cl fp).N (C.blk scope s H c cl fp).nd (C.blk scope s H c cl fp).sc (C.blk scope s H c cl fp).calm (C.blk scope s H c cl fp).fn tg t h1)
        (fun s H c cl fp => pts_ok (ihB scope s H c cl fp) hc.2.1 h3) (fun s H c cl fp => pi_it (C.blk scope s H c cl fp) (ihB scope s H c cl fp) hT h5)
        (fun s H c cl fp => pg_tg (Γ := Γ.blk scope) (C.blk scope s H c cl fp).N (C.blk scope s H c cl fp).nd (C.blk scope s H c cl fp).sc (C.blk scope s H c cl fp).calm (C.blk scope s H c cl fp).fn tg1 t1 h4)
        (fun s H c cl fp => pts_ok (ihB scope s H c cl fp) hc.2.2 h6) (fun s H c cl fp => (ihB scope s H c cl fp elt e' h7).e) (fold_no h2) (fold_all h5)) fun σ H Q q => tD_lc2 q
    · cases h
  · cases h
end
end Vm
set_option maxRecDepth 100000
set_option maxHeartbeats 1000000
namespace Vm
open PySem PySem.Spec L2
section
variable {K : PySem.W.Frag} {A : ASet} {as : List Addr} {f : F} {σ : L2.St} {H : Hp}
/-- an owned object is rewritten -/
theorem Rel.mut {l : Loc} {p : Addr} {o' : Ob} {u : HO} (R : Rel K A as f σ H) (hl : LocAt f as σ l p) (ho : ObR K (Lv A f as σ) (upd H p u) p o') :
    Rel K A as (put1 f l (.own o')) σ (upd H p u) ∧ Ext (Lv A f as σ) H (Lv A (put1 f l (.own o')) as σ) (upd H p u) ∧ ∀ a, A a → upd H p u a = H a := by
  have hown := hl.own
  have nA := R.nA hown
  have ka : ∀ a, A a → upd H p u a = H a := fun a ha => upd_ne fun z => nA (by rw [← z]; exact ha)
  have kn : ∀ a o, H a = some o → ¬ Lv A f as σ a → upd H p u a = some o := fun a o e n => by rw [upd_ne fun z => n (by rw [z]; exact .inr hown)]; exact e
  have al : ∀ a, A a → ∃ o, upd H p u a = some o := fun a ha => by rw [ka a ha]; exact R.al a ha
  cases l with
  | inl i =>
    obtain ⟨o, h1, h2⟩ := hl
    have hi : i < f.ρ.length := (List.getElem?_eq_some_iff.mp h1).1
    obtain ⟨R', x⟩ := R.setSlot (σ' := σ) (H' := upd H p u) (l := .own o') hi (fun _ _ => rfl) rfl (fun a z => z) (fun a _ n => upd_ne fun z => n ⟨o, h1, by rw [z]; exact h2⟩) kn al
      ⟨p, h2, ho, nA, .inr ⟨o, h1, h2⟩⟩
    exact ⟨R', x, ka⟩
  | inr n =>
    obtain ⟨o, h1, h2⟩ := hl
    obtain ⟨R', x⟩ := R.setCell (H' := upd H p u) (u := .own o') h2 (fun a z => z) (fun b _ n => upd_ne n) kn al ⟨o, h1⟩ ⟨ho, nA, o, h1⟩
    exact ⟨R', x, ka⟩
/-- a change in place -/
def MuR (K : PySem.W.Frag) (m : Mu) (x : V) (vs : List V) (H : Hp) (Q : VK) : Prop := ∃ (L : ASet) (p : Addr) (o o' : Ob) (ys : List D) (y : D), x = .ref p ∧ L p ∧ ObR K L H p o ∧ RdA K L H ys vs ∧ m.run o ys = some (o', y) ∧
  ∀ u v, ObR K L (upd H p u) p o' → Rd K L (upd H p u) y v → Q v (upd H p u)
theorem tD_mu {G : Call} {m : Mu} {a : Ex} {es : List Ex} {Q : VK} (h : tD K G (.mu m a es) σ H Q) : tD K G a σ H fun x H1 => tyV K "list" x H1 ∧ tDs K G es σ H1 fun vs H2 => MuR K m x vs H2 Q := by
  obtain ⟨A, as, f, rv, f', R, he, hQ⟩ := h
  unfold evE at he
  obtain ⟨⟨r1, f1⟩, e1, he⟩ := bind_ok he
  obtain ⟨_, ety, he⟩ := bind_ok he
  obtain ⟨⟨rs, f2⟩, e2, he⟩ := bind_ok he
  obtain ⟨⟨ys, f3⟩, e3, he⟩ := bind_ok he
  obtain ⟨⟨l, o⟩, e4, he⟩ := bind_ok he
  obtain ⟨⟨o', y⟩, e5, he⟩ := bind_ok he
  cases he
  have e3 := ofOpt_ok e3
  have e4 := ofOpt_ok e4
  have e5 := ofOpt_ok e5
  dsimp only at e3 e4 e5
  obtain ⟨y1, v1, t1⟩ := obind (ofOpt_ok ety)
  refine ⟨A, as, f, r1, f1, R, e1, fun x H1 p1 => ?_⟩
  obtain ⟨A1, s1, R1, q1, n1, x1, k1⟩ := id p1
  refine ⟨?_, A1, as, f1, rs, f2, R1, e2, fun vs H2 p2 => ?_⟩
  · obtain ⟨_, rd⟩ := p1.seen v1
    cases y1 with
    | list ds =>
      obtain ⟨b, ws, rfl, ll, _⟩ := rd.l
      exact .inl ⟨rfl, ws, ll.sq⟩
    | _ => exact absurd t1 (by simp [tyD])
  · obtain ⟨pn, rd⟩ := p2.kept e3
    have hloc : ∃ p, x = .ref p ∧ LocAt f3 as σ l p ∧ ObR K (Lv A1 f3 as σ) H2 p o := by
      cases r1 with
      | d _ => cases e4
      | fr _ => cases e4
      | vr i =>
        obtain ⟨p, h1, h2⟩ := q1
        unfold ownAt at e4
        dsimp only at e4
        split at e4
        · rename_i o0 q
          cases e4
          obtain ⟨b, g1, g2, _⟩ := pn.1.so i o q
          rw [h2] at g1; cases g1
          exact ⟨p, h1, ⟨o, q, h2⟩, g2⟩
        · cases e4
      | ce n =>
        obtain ⟨p, h1, h2⟩ := q1
        unfold ownAt at e4
        dsimp only at e4
        split at e4
        · rename_i o0 q
          cases e4
          exact ⟨p, h1, ⟨o, q, h2⟩, (pn.1.co n o p q h2).1⟩
        · cases e4
    obtain ⟨p, rfl, hl, ob⟩ := hloc
    refine ⟨Lv A1 f3 as σ, p, o, o', ys, y, rfl, .inr hl.own, ob, rd, e5, fun u v h1 h2 => hQ _ _ ?_⟩
    obtain ⟨R4, x4, k4⟩ := pn.1.mut hl h1
    have s1' : ∀ a, A a → A1 a := s1
    have xl := ext_less (H := upd H2 p u) (f := put1 f3 l (.own o')) (as := as) (σ := σ) s1'
    refine ⟨A, fun _ z => z, R4.less s1', ?_, (fun o e => by cases e), ((x1.trans pn.2.1).trans x4).trans xl, fun a ha => (k4 a (s1 a ha)).trans ((pn.2.2 a (s1 a ha)).trans (k1 a ha))⟩
    have x5 : Ext (Lv A1 f3 as σ) (upd H2 p u) (Lv A1 (put1 f3 l (.own o')) as σ) (upd H2 p u) := by
      refine Ext.less fun b hb => ?_
      rcases hb with hb | hb
      · exact .inl hb
      · refine .inr ?_
        cases l with
        | inl i =>
          rcases hb with ⟨j, o2, g1, g2⟩ | hb
          · by_cases q : i = j
            · subst q
              obtain ⟨o0, z1, z2⟩ := hl
              exact .inl ⟨i, o0, z1, g2⟩
            · exact .inl ⟨j, o2, by
                have g1 : (f3.ρ.set i _)[j]? = _ := g1
                rwa [List.getElem?_set_ne q] at g1, g2⟩
          · exact .inr hb
        | inr n =>
          rcases hb with hb | ⟨j, o2, g1, g2⟩
          · exact .inl hb
          · by_cases q : n = j
            · subst q
              obtain ⟨o0, z1, z2⟩ := hl
              exact .inr ⟨n, o0, z1, g2⟩
            · exact .inr ⟨j, o2, by
                have g1 : (f3.S.set n _)[j]? = _ := g1
                rwa [List.getElem?_set_ne q] at g1, g2⟩
    exact .inl ((h2.ext x5).ext xl)
theorem ext_upd {L : ASet} {p : Addr} {u : HO} (h : L p) : Ext L H L (upd H p u) := fun a o e n => ⟨by rw [upd_ne fun z => n (by rw [z]; exact h)]; exact e, n⟩
theorem mu_append {x : V} {vs : List V} {Q : VK} (h : MuR K .append x vs H Q) : rAppend x vs H Q := by
  obtain ⟨L, p, o, o', ys, y, rfl, lp, ob, rd, e, q⟩ := h
  match o, ys, e with
  | .lst xs, [d], e =>
    replace e : (if xs.length < 16777216 then some (Ob.lst (xs ++ [d]), PyData.none) else none) = some (o', y) := e
    split at e
    · rename_i hz
      cases e
      obtain ⟨ws, h1, h2⟩ := ob
      obtain ⟨v, r, rfl, r1, r2⟩ := rd
      obtain rfl : r = [] := r2
      refine ⟨p, ws, v, rfl, rfl, h1, by rw [sizeLine_eq, h2.len]; exact hz, q _ _ ⟨_, upd_same, (h2.app1 r1).ext (ext_upd lp)⟩ rd_none⟩
    · cases e
theorem RdA.app2 {L : ASet} : ∀ {ds : List D} {vs : List V} {es : List D} {ws : List V}, RdA K L H ds vs → RdA K L H es ws → RdA K L H (ds ++ es) (vs ++ ws)
  | [], _, es, ws, h, h' => by
    obtain rfl : _ = [] := h
    exact h'
  | e :: r, _, es, ws, ⟨w, u, e0, h1, h2⟩, h' => by
    subst e0
    exact ⟨w, u ++ ws, rfl, h1, RdA.app2 h2 h'⟩
def rExtendD (K : PySem.W.Frag) : V → List V → Hp → VK → Prop := fun x vs H Q => ∃ l b xs zs, x = .ref l ∧ vs = [.ref b] ∧ H l = some (.lst xs) ∧ LL K H b zs ∧ xs.length + zs.length ≤ sizeLine ∧ Q .non (upd H l (.lst (xs ++ zs)))
theorem mt_extendD {X : Cx} : MtR X "list.extend" (rExtendD X.K) := by
  intro pins s σ H x vs v us Q I rx rv h
  obtain ⟨l, b, xs, zs, rfl, rfl, hH, hB, hz, q⟩ := h
  cases rx
  obtain ⟨u, rfl, ru⟩ := rv.one
  cases ru
  obtain ⟨z, its, n, r, hl, e⟩ := I.lstM hH
  obtain ⟨z2, its2, n2, r2, e2⟩ := LL.obj I hB
  have hl2 := r2.length
  have hsz : its.toArray.size + its2.toArray.size ≤ sizeLine := by rw [List.size_toArray, List.size_toArray]; omega
  have hlong : ¬ (!its.toArray.isEmpty && Builtin.List.listTooLong (its.toArray.size + its2.toArray.size)) = true := by
    rw [notLongL hsz, Bool.and_false]
    exact Bool.false_ne_true
  refine call_meets F.slot_list_extend ⟨_, e, rfl⟩ F.entry_list_extend (F.args_list_extend_2 _ _)
    (AutoSeq1.list_extend_list_list_0 l its.toArray n b its2.toArray n2 hlong (by rw [List.size_toArray]; omega) (by omega)) ⟨e, e2, ?_⟩
  refine ⟨.non, _, I.lset (its' := its ++ its2) hH e (by simp) (r.append r2) ?_, rfl, q⟩
  rw [List.length_append]
  omega
theorem mu_extend {x : V} {vs : List V} {Q : VK} (h : MuR K .extend x vs H Q) : rExtendD K x vs H Q := by
  obtain ⟨L, p, o, o', ys, y, rfl, lp, ob, rd, e, q⟩ := h
  match o, ys, e with
  | .lst xs, [.list es], e =>
    replace e : (if xs.length + es.length ≤ 16777216 then some (Ob.lst (xs ++ es), PyData.none) else none) = some (o', y) := e
    split at e
    · rename_i hz
      cases e
      obtain ⟨ws, h1, h2⟩ := ob
      obtain ⟨v, r, rfl, r1, r2⟩ := rd
      obtain rfl : r = [] := r2
      unfold Rd at r1
      obtain ⟨b, zs, rfl, s1, r1⟩ := r1
      refine ⟨p, b, ws, zs, rfl, rfl, h1, s1.ll, by rw [sizeLine_eq, h2.len, r1.len]; exact hz, q _ _ ⟨_, upd_same, (h2.app2 r1).ext (ext_upd lp)⟩ rd_none⟩
    · cases e
theorem RdA.dropLast {L : ASet} : ∀ {ds : List D} {vs : List V}, RdA K L H ds vs → RdA K L H ds.dropLast vs.dropLast
  | [], _, h => by obtain rfl : _ = [] := h; rfl
  | [d], _, ⟨v, r, e, h1, h2⟩ => by
    subst e
    obtain rfl : r = [] := h2
    rfl
  | d :: e :: ds, _, ⟨v, r, e0, h1, h2⟩ => by
    subst e0
    have h3 := RdA.dropLast h2
    obtain ⟨w, ws, rfl, _, _⟩ := h2
    exact ⟨v, _, rfl, h1, h3⟩
theorem mu_pop0 {x : V} {vs : List V} {Q : VK} (h : MuR K .pop0 x vs H Q) : rPop x vs H Q := by
  obtain ⟨L, p, o, o', ys, y, rfl, lp, ob, rd, e, q⟩ := h
  match o, ys, e with
  | .lst xs, [], e =>
    obtain ⟨d, e1, e2⟩ := omap (show (xs[xs.length - 1]?).map (fun y => (Ob.lst xs.dropLast, y)) = some (o', y) from e)
    cases e2
    obtain ⟨ws, h1, h2⟩ := ob
    obtain rfl : vs = [] := rd
    obtain ⟨v, g1, g2⟩ := h2.get e1
    exact ⟨p, ws, v, rfl, rfl, h1, by rw [h2.len]; exact g1, q _ _ ⟨_, upd_same, h2.dropLast.ext (ext_upd lp)⟩ (g2.ext (ext_upd lp))⟩
end
section
variable {X : Cx} {Γ : Gam} {G : Call} {m : Nat}
theorem base_ok {o : Expr} {nm : Str} {env : Env} (h : notSup o = true) : attributeBase o nm env (eval o env) = eval o env := by
  unfold notSup at h
  split at h
  · cases h
  · rename_i hn
    cases o
    case Call fn es ks pos =>
      cases fn
      case Name x p =>
        cases es with
        | nil =>
          cases ks with
          | nil => exact absurd rfl (hn x p pos)
          | cons _ _ => rfl
        | cons _ _ => rfl
      all_goals rfl
    all_goals rfl
theorem few_ok {n : Nat} {es : List Expr} {l : List Ex} {cpos : Pos} {env : Env} (hl : es.length < 29) (h : mapO (comp n Γ) es = some l) :
    ((backTo cpos (starEach es env)).all (fun x => !x.1) && (backToKw cpos (keywordEach [] env)).all (fun x => x.1.isSome) && decide (es.length + ([] : List Keyword).length + (if ([] : List Keyword).isEmpty then 0 else 1) < 30)) = true := by
  have h1 := mapO_plain (pos := cpos) (env := env) h
  have h2 : (backTo cpos (starEach es env)).all (fun x => !x.1) = true := by
    rw [List.all_eq_not_any_not]
    simp only [Bool.not_not]
    rw [h1]; rfl
  rw [h2]
  simp only [Bool.true_and, Bool.and_eq_true, decide_eq_true_eq]
  refine ⟨rfl, ?_⟩
  simp only [List.length_nil, List.isEmpty_nil, if_true]
  omega
theorem mu_info {nm : Str} {n : Nat} {mu : Mu} (h : muO nm n = some mu) : ∃ id, PlainAttrs "list" ∧ Slot "list" nm id ∧ typeOf (.builtin id) = pure (.type "method_descriptor") ∧ MtR X id (MuR X.K mu) := by
  unfold muO at h
  split at h
  · rename_i e
    subst e
    split at h
    · cases h
      exact ⟨_, F.plainAttrs_list, F.slot_list_append, F.type_list_append, fun pins s σ H x xs v us Q I rx rs q => mt_append pins s σ H x xs v us Q I rx rs (mu_append q)⟩
    · cases h
  · split at h
    · rename_i e
      subst e
      split at h
      · cases h
        exact ⟨_, F.plainAttrs_list, F.slot_list_extend, F.type_list_extend, fun pins s σ H x xs v us Q I rx rs q => mt_extendD pins s σ H x xs v us Q I rx rs (mu_extend q)⟩
      · cases h
    · split at h
      · rename_i e
        subst e
        split at h
        · cases h
          exact ⟨_, F.plainAttrs_list, F.slot_list_pop, F.type_list_pop, fun pins s σ H x xs v us Q I rx rs q => mt_pop pins s σ H x xs v us Q I rx rs (mu_pop0 q)⟩
        · cases h
      · cases h
theorem e_mu {n : Nat} (ih : IH Γ G X n) {nm : Str} {o : Expr} {es : List Expr} {ap cp : Pos} {mu : Mu} {o' : Ex} {es' : List Ex} (hp : (ap.endLine == cp.line) = true) (hl : es.length < 29) (hs : notSup o = true) (hm : muO nm es.length = some mu)
    (h1 : comp n Γ o = some o') (h2 : mapO (comp n Γ) es = some es') : E3 X G (.Call (.Attribute o nm ap) es [] cp) (.mu mu o' es') := by
  refine .plain ?_ (fun _ => rfl) fun _ _ _ z => by cases z
  obtain ⟨id, i1, i2, i3, i4⟩ := mu_info (X := X) hm
  cases es with
  | nil =>
    cases h2
    exact PE.imp (pe_bm0 i1 i2 i3 i4 (ih o o' h1).e (base_ok hs) hp) fun σ H Q q => tD.mono (tD_mu q) fun x H1 q => ⟨q.1, tDs_nil q.2⟩
  | cons e es =>
    have h2' := h2
    obtain ⟨b, t, q1, q2, rfl⟩ := mapO_cons h2
    exact PE.imp (pe_bm i1 i2 i3 i4 (ih o o' h1).e (comps_pa ih.pe h2') (base_ok hs) (few_ok hl h2') hp (comp_star q1 es X.env) (mapO_plain q2)) fun σ H Q q => tD_mu q
end
end Vm
set_option maxRecDepth 100000
set_option maxHeartbeats 1000000
namespace Vm
open PySem PySem.Spec L2
section
variable {X : Cx}
/-- what a method's name stands for -/
def MeOk (X : Cx) (nm : Str) (T : String) (o : Op) : Prop := ∃ id, PlainAttrs T ∧ Slot T nm id ∧ typeOf (.builtin id) = pure (.type "method_descriptor") ∧ MtR X id (fun x xs H Q => OpQ X.K o (x :: xs) H Q)
theorem keyD_kD (k : Key) : keyD (kD k) = some k := by cases k <;> rfl
theorem get_rd {K : PySem.W.Frag} {L : ASet} {H : Hp} {k : Key} : ∀ {kvs : List (D × D)} {hv : List (Key × V)}, RdK K L H kvs hv → (dgetD kvs k = none ∧ valV hv k = none) ∨ ∃ d v, dgetD kvs k = some d ∧ valV hv k = some v ∧ Rd K L H d v
  | [], _, h => by
    obtain rfl : _ = [] := h
    exact .inl ⟨rfl, rfl⟩
  | (e, d) :: ds, _, ⟨kk, v, r, e0, e1, h1, h2⟩ => by
    subst e0 e1
    unfold dgetD valV
    rw [List.find?_cons, List.find?_cons]
    by_cases q : kk = k
    · subst q
      simp only [keyD_kD, decide_true, Option.map_some]
      exact .inr ⟨d, v, rfl, rfl, h1⟩
    · have q1 : decide (keyD (kD kk) = some k) = false := by rw [keyD_kD]; simpa using q
      have q2 : decide (kk = k) = false := by simpa using q
      simp only [q1, q2]
      exact get_rd h2
theorem keyV_of {K : PySem.W.Frag} {L : ASet} {H : Hp} {d : D} {v : V} {k : Key} (h : Rd1 K L H d v) (e : keyD d = some k) : v = kV k := by
  cases d with
  | int i => cases e; exact h.i
  | str i => cases e; exact h.s
  | _ => cases e
theorem rd1_opt {K : PySem.W.Frag} {L : ASet} {H : Hp} {d : D} {v : V} (h : Rd K L H d v) : OpPost K L H (.d d) v H := .inl ⟨rfl, h⟩
theorem rd1sc {K : PySem.W.Frag} {L : ASet} {H : Hp} : ∀ {ys : List D} {x : V} {xs : List V}, Rd1s K L H ys (x :: xs) → ∃ a r, ys = a :: r ∧ Rd1 K L H a x ∧ Rd1s K L H r xs
  | [], _, _, h => by have h : _ = [] := h; cases h
  | a :: r, _, _, ⟨_, _, e, h1, h2⟩ => by cases e; exact ⟨a, r, rfl, h1, h2⟩
theorem me_get1 (hu : X.A.units + 1 < cLine) : MtR X "dict.get" (fun x xs H Q => OpQ X.K .mget1 (x :: xs) H Q) := by
  intro pins s σ H x xs v us Q I rx rs h
  obtain ⟨L, ys, rr, rd, e, q⟩ := h
  obtain ⟨v1, w1, rfl, r1, rd⟩ := rd1sc rd
  match w1, e with
  | [k], e =>
    cases v1 with
    | dict kvs =>
      obtain ⟨kk, ek, rfl⟩ := omap (show (keyD k).map _ = some rr from e)
      obtain ⟨a, hv, rfl, ha, rk⟩ := r1.m
      obtain ⟨y, r, rfl, ry, r2⟩ := rd
      obtain rfl : r = [] := r2
      obtain ⟨u, rfl, ru⟩ := rs.one
      cases rx
      have ey := keyV_of ry ek
      refine d_get1 hu I (o := valV hv kk) (.inl ⟨hv, kk, .inl ha, ey, rfl⟩) ru fun w' s' I' rw' => ?_
      rcases get_rd (k := kk) rk with ⟨g1, g2⟩ | ⟨d, v, g1, g2, g3⟩
      · rw [g2] at rw'
        rw [g1] at q
        exact ⟨_, H, I', rw', q _ _ (rd1_opt rd_none)⟩
      · rw [g2] at rw'
        rw [g1] at q
        exact ⟨_, H, I', rw', q _ _ (rd1_opt g3)⟩
    | _ => cases e
  | [], e => cases v1 <;> cases e
  | _ :: _ :: _, e => cases v1 <;> cases e
theorem me_get2 (hu : X.A.units + 1 < cLine) : MtR X "dict.get" (fun x xs H Q => OpQ X.K .mget2 (x :: xs) H Q) := by
  intro pins s σ H x xs v us Q I rx rs h
  obtain ⟨L, ys, rr, rd, e, q⟩ := h
  obtain ⟨v1, w1, rfl, r1, rd⟩ := rd1sc rd
  match w1, e with
  | [k, z], e =>
    cases v1 with
    | dict kvs =>
      obtain ⟨kk, e1⟩ : ∃ kk, keyD k = some kk ∧ (if flat1 z = true then some (RR.d ((dgetD kvs kk).getD z)) else none) = some rr := by
        obtain ⟨kk, h1, h2⟩ := obind (show (keyD k).bind (fun kk => if flat1 z = true then some (RR.d ((dgetD kvs kk).getD z)) else none) = some rr from e)
        exact ⟨kk, h1, h2⟩
      obtain ⟨ek, e1⟩ := e1
      split at e1
      · rename_i fz
        cases e1
        obtain ⟨a, hv, rfl, ha, rk⟩ := r1.m
        obtain ⟨y, r, rfl, ry, zv, r', rfl, rz, r2⟩ := rd
        obtain rfl : r' = [] := r2
        obtain ⟨u, w, rfl, ru, rw0⟩ := rs.two
        cases rx
        have ey := keyV_of ry ek
        have rz' : Rd X.K L H z zv := by
          cases z with
          | list _ => cases fz
          | dict _ => cases fz
          | _ => exact rz
        refine d_get2 hu I (o := valV hv kk) (.inl ⟨hv, kk, .inl ha, ey, rfl⟩) ru rw0 fun w' s' I' rw' => ?_
        rcases get_rd (k := kk) rk with ⟨g1, g2⟩ | ⟨d, v, g1, g2, g3⟩
        · rw [g2] at rw'
          rw [g1] at q
          exact ⟨_, H, I', rw', q _ _ (rd1_opt rz')⟩
        · rw [g2] at rw'
          rw [g1] at q
          exact ⟨_, H, I', rw', q _ _ (rd1_opt g3)⟩
      · cases e1
    | _ => cases e
  | [], e => cases v1 <;> cases e
  | [_], e => cases v1 <;> cases e
  | _ :: _ :: _ :: _, e => cases v1 <;> cases e
theorem RdA.intsD {K : PySem.W.Frag} {L : ASet} {H : Hp} {ds : List D} {vs : List V} {ns : List Int} (r : RdA K L H ds vs) (e : intsD ds = some ns) : vs = ns.map V.int := by
  have := intsD_some e
  subst this
  clear e
  induction ns generalizing vs with
  | nil => exact r
  | cons n ns ih =>
    obtain ⟨v, w, rfl, h1, h2⟩ := r
    rw [rdi_of h1, ih h2]; rfl
theorem idx_some {ds : List D} {k : D} {rr : RR} (e : idxD ds k = some rr) : ∃ i ns, k = .int i ∧ intsD ds = some ns ∧ i ∈ ns ∧ rr = .d (.int ((ns.idxOf i : Nat) : Int)) := by
  cases k with
  | int i =>
    obtain ⟨ns, h1, h2⟩ := obind (show (intsD ds).bind _ = some rr from e)
    split at h2
    · rename_i hk
      cases h2
      exact ⟨i, ns, rfl, h1, hk, rfl⟩
    · cases h2
  | _ => cases e
theorem me_tidx : MtR X "tuple.index" (fun x xs H Q => OpQ X.K .tindex (x :: xs) H Q) := by
  intro pins s σ H x xs v us Q I rx rs h
  obtain ⟨L, ys, rr, rd, e, q⟩ := h
  obtain ⟨v1, w1, rfl, r1, rd⟩ := rd1sc rd
  match w1, e with
  | [k], e =>
    cases v1 with
    | tuple ds =>
      obtain ⟨i, ns, rfl, h1, h2, rfl⟩ := idx_some (show idxD ds k = some rr from e)
      obtain ⟨a, vs, rfl, st, ra⟩ := r1.t
      obtain ⟨y, r, rfl, ry, r2⟩ := rd
      obtain rfl : r = [] := r2
      obtain ⟨u, rfl, ru⟩ := rs.one
      cases rx
      have hv := ra.intsD h1
      subst hv
      have hy := ry.i
      subst hy
      obtain ⟨t, rfl⟩ := ru
      obtain ⟨its, r, ht, _⟩ := I.tuple st.sq
      refine PySem.SeqAt.tuple_index_ints (vs := its) (isTup_tuple ht) (intsAre_of r) h2 ?_
      exact ⟨.int ((ns.idxOf i : Nat) : Int), H, I.tok _, ⟨_, rfl⟩, q _ _ (rd1_opt rd_int)⟩
    | _ => cases e
  | [], e => cases v1 <;> cases e
  | _ :: _ :: _, e => cases v1 <;> cases e
theorem me_lidx : MtR X "list.index" (fun x xs H Q => OpQ X.K .lindex (x :: xs) H Q) := by
  intro pins s σ H x xs v us Q I rx rs h
  obtain ⟨L, ys, rr, rd, e, q⟩ := h
  obtain ⟨v1, w1, rfl, r1, rd⟩ := rd1sc rd
  match w1, e with
  | [k], e =>
    cases v1 with
    | list ds =>
      obtain ⟨i, ns, rfl, h1, h2, rfl⟩ := idx_some (show idxD ds k = some rr from e)
      obtain ⟨a, vs, rfl, st, ra⟩ := r1.l
      obtain ⟨y, r, rfl, ry, r2⟩ := rd
      obtain rfl : r = [] := r2
      obtain ⟨u, rfl, ru⟩ := rs.one
      cases rx
      have hv := ra.intsD h1
      subst hv
      have hy := ry.i
      subst hy
      obtain ⟨t, rfl⟩ := ru
      obtain ⟨its, r, ht, hz⟩ := I.list st.sq
      refine PySem.SeqAt.list_index_ints (vs := its) ht.isList (intsAre_of r) (by simpa using hz) h2 ?_
      exact ⟨.int ((ns.idxOf i : Nat) : Int), H, I.tok _, ⟨_, rfl⟩, q _ _ (rd1_opt rd_int)⟩
    | _ => cases e
  | [], e => cases v1 <;> cases e
  | _ :: _ :: _, e => cases v1 <;> cases e
theorem cnt_some {ds : List D} {k : D} {rr : RR} (e : cntD ds k = some rr) : ∃ i ns, k = .int i ∧ intsD ds = some ns ∧ rr = .d (.int ((ns.count i : Nat) : Int)) := by
  cases k with
  | int i =>
    obtain ⟨ns, h1, h2⟩ := obind (show (intsD ds).bind _ = some rr from e)
    cases h2
    exact ⟨i, ns, rfl, h1, rfl⟩
  | _ => cases e
theorem count_eq (ns : List Int) (i : Int) : (ns.countP fun y => decide (y = i)) = ns.count i := by
  unfold List.count
  congr 1
theorem me_tcnt (hu : X.A.units + 2 < cLine) : MtR X "tuple.count" (fun x xs H Q => OpQ X.K .tcount (x :: xs) H Q) := by
  intro pins s σ H x xs v us Q I rx rs h
  obtain ⟨L, ys, rr, rd, e, q⟩ := h
  obtain ⟨v1, w1, rfl, r1, rd⟩ := rd1sc rd
  match w1, e with
  | [k], e =>
    cases v1 with
    | tuple ds =>
      obtain ⟨i, ns, rfl, h1, rfl⟩ := cnt_some (show cntD ds k = some rr from e)
      obtain ⟨a, vs, rfl, st, ra⟩ := r1.t
      obtain ⟨y, r, rfl, ry, r2⟩ := rd
      obtain rfl : r = [] := r2
      obtain ⟨u, rfl, ru⟩ := rs.one
      cases rx
      have hv := ra.intsD h1
      subst hv
      have hy := ry.i
      subst hy
      obtain ⟨t, rfl⟩ := ru
      obtain ⟨its, r, ht, _⟩ := I.tuple st.sq
      refine PySem.W.count_tuple_datum (α := Int) (vs := its.toArray) ht (PySem.W.HoldAll.of_ints (intsAre_of r)) (PySem.W.holds_int i t) (by show _ + 1 + 0 < _; omega) ?_
      rw [count_eq]
      exact ⟨.int ((ns.count i : Nat) : Int), H, I.tok _, ⟨_, rfl⟩, q _ _ (rd1_opt rd_int)⟩
    | _ => cases e
  | [], e => cases v1 <;> cases e
  | _ :: _ :: _, e => cases v1 <;> cases e
theorem me_lcnt (hu : X.A.units + 2 < cLine) : MtR X "list.count" (fun x xs H Q => OpQ X.K .lcount (x :: xs) H Q) := by
  intro pins s σ H x xs v us Q I rx rs h
  obtain ⟨L, ys, rr, rd, e, q⟩ := h
  obtain ⟨v1, w1, rfl, r1, rd⟩ := rd1sc rd
  match w1, e with
  | [k], e =>
    cases v1 with
    | list ds =>
      obtain ⟨i, ns, rfl, h1, rfl⟩ := cnt_some (show cntD ds k = some rr from e)
      obtain ⟨a, vs, rfl, st, ra⟩ := r1.l
      obtain ⟨y, r, rfl, ry, r2⟩ := rd
      obtain rfl : r = [] := r2
      obtain ⟨u, rfl, ru⟩ := rs.one
      cases rx
      have hv := ra.intsD h1
      subst hv
      have hy := ry.i
      subst hy
      obtain ⟨t, rfl⟩ := ru
      obtain ⟨its, r, ht, hz⟩ := I.list st.sq
      refine PySem.W.count_list_datum (α := Int) (vs := its.toArray) ht.isList (PySem.W.HoldAll.of_ints (intsAre_of r)) (PySem.W.holds_int i t) (by show _ + 1 + 0 < _; omega) ?_
      rw [count_eq]
      exact ⟨.int ((ns.count i : Nat) : Int), H, I.tok _, ⟨_, rfl⟩, q _ _ (rd1_opt rd_int)⟩
    | _ => cases e
  | [], e => cases v1 <;> cases e
  | _ :: _ :: _, e => cases v1 <;> cases e
theorem me_ok (hu : X.A.units + 2 < cLine) {nm : Str} {T : String} {n : Nat} {o : Op} (h : meT nm T n = some o) : (T = "dict" ∨ T = "list") ∧ MeOk X nm T o := by
  unfold meT meTab at h
  obtain ⟨r, h1, h2⟩ := omap h
  have hp := List.find?_some h1
  have hm := List.mem_of_find?_eq_some h1
  simp only [Bool.and_eq_true, decide_eq_true_eq, beq_iff_eq] at hp
  obtain ⟨⟨p1, p2⟩, p3⟩ := hp
  subst p1 p2 h2
  rcases List.mem_cons.mp hm with e | hm
  · subst e; exact ⟨.inl rfl, _, F.plainAttrs_dict, F.slot_dict_get, F.type_dict_get, me_get1 (by omega)⟩
  rcases List.mem_cons.mp hm with e | hm
  · subst e; exact ⟨.inl rfl, _, F.plainAttrs_dict, F.slot_dict_get, F.type_dict_get, me_get2 (by omega)⟩
  rcases List.mem_cons.mp hm with e | hm
  · subst e; exact ⟨.inr rfl, _, F.plainAttrs_list, F.slot_list_index, F.type_list_index, me_lidx⟩
  rcases List.mem_cons.mp hm with e | hm
  · subst e; exact ⟨.inr rfl, _, F.plainAttrs_list, F.slot_list_count, F.type_list_count, me_lcnt hu⟩
  cases hm
theorem pl_ok (hu : X.A.units + 2 < cLine) {nm : Str} {n : Nat} {o : Op} (h : plT nm n = some o) : MeOk X nm "tuple" o := by
  unfold plT at h
  split at h
  · rename_i q
    cases h
    obtain ⟨rfl, _⟩ := q
    exact ⟨_, F.plainAttrs_tuple, F.slot_tuple_index, F.type_tuple_index, me_tidx⟩
  split at h
  · rename_i q
    cases h
    obtain ⟨rfl, _⟩ := q
    exact ⟨_, F.plainAttrs_tuple, F.slot_tuple_count, F.type_tuple_count, me_tcnt hu⟩
  · cases h
theorem ty_pl {pins : List (Addr × Obj)} {s : Shared} {σ : L2.St} {H : Hp} {L : ASet} {x : V} {v : Value} (I : Inv X pins σ H s) (r : RelV x v) (h : PlT L H x) :
    s.TypeIs v "tuple" ∧ ∀ a, v = .ref a → ∃ ob, s.heap.get? a = some ob ∧ ob.dict = none := by
  obtain ⟨a, o, vs, rfl, _, h1, h2⟩ := h
  cases r
  obtain ⟨e, z, its, rv, ob, e2, hc, _⟩ := (show ObjOk X.prog X.w H s.heap a (.frz o (.tup vs)) from I.hok a _ h1)
  rw [e] at e2
  cases e2
  exact ⟨⟨o, e, hc⟩, fun b eb => by cases eb; exact ⟨o, e, h2⟩⟩
theorem ty_of {pins : List (Addr × Obj)} {s : Shared} {σ : L2.St} {H : Hp} {L : ASet} {y : D} {x : V} {v : Value} (I : Inv X pins σ H s) (r : RelV x v) (h : Rd1 X.K L H y x) (hT : tyD y = "dict" ∨ tyD y = "list") :
    s.TypeIs v (tyD y) ∧ ∀ a, v = .ref a → ∃ ob, s.heap.get? a = some ob ∧ ob.dict = none := by
  cases y with
  | list ds =>
    obtain ⟨a, vs, rfl, ll, _⟩ := h.l
    exact tyV_is (T := "list") I r (.inl ⟨rfl, vs, ll.sq⟩)
  | dict kvs =>
    obtain ⟨a, hv, rfl, ha, _⟩ := h.m
    exact tyV_is (T := "dict") I r (.inr (.inr (.inl ⟨rfl, .inl ⟨hv, ha⟩⟩)))
  | _ => exact absurd hT (by simp [tyD])
end
section
variable {X : Cx} {Γ : Gam} {G : Call} {m : Nat}
/-- o.m(e, ..), the type found on the way -/
def tMe (K : PySem.W.Frag) (nm : Str) (n : Nat) (to : TE) (t : TA) : TE := fun σ H Q => to σ H fun x H1 => ∃ (L : ASet) (y : D) (o : Op), ((Rd1 K L H1 y x ∧ meT nm (tyD y) n = some o) ∨ (PlT L H1 x ∧ plT nm n = some o)) ∧ t σ H1 fun xs H2 => OpQ K o (x :: xs) H2 Q
theorem pe_me {e o : Expr} {es : List Expr} {nm : Str} {apos cpos : Pos} {to : TE} {t : TA} {n : Nat} (hu : X.A.units + 2 < cLine) (ho : PE X o to) (ha : PA X (e :: es) t)
    (hbase : attributeBase o nm X.env (eval o X.env) = eval o X.env)
    (hfew : ((backTo cpos (starEach (e :: es) X.env)).all (fun x => !x.1) && (backToKw cpos (keywordEach [] X.env)).all (fun x => x.1.isSome)
      && decide ((e :: es).length + ([] : List Keyword).length + (if ([] : List Keyword).isEmpty then 0 else 1) < 30)) = true)
    (hline : (apos.endLine == cpos.line) = true) (hs : starEach (e :: es) X.env = (false, eval e X.env) :: starEach es X.env) (hplain : (backTo cpos (starEach es X.env)).any (·.1) = false) :
    PE X (.Call (.Attribute o nm apos) (e :: es) [] cpos) (tMe X.K nm n to t) := by
  refine ⟨fun pins s σ H Q I h => ?_⟩
  refine wpAny_Call_method_late hbase hfew hline rfl (thn (ho.run pins s σ H _ I h) fun v s1 ⟨x, H1, I1, r1, L, y, op, rd, q1⟩ => ?_)
  obtain ⟨T, ⟨id, pa, slot, hty, hmt⟩, h1, h2⟩ : ∃ T : String, MeOk X nm T op ∧ s1.TypeIs v T ∧ ∀ a, v = .ref a → ∃ ob, s1.heap.get? a = some ob ∧ ob.dict = none := by
    rcases rd with ⟨rd, hm⟩ | ⟨rd, hm⟩
    · obtain ⟨hT, mo⟩ := me_ok hu hm
      exact ⟨_, mo, ty_of I1 r1 rd hT⟩
    · exact ⟨_, pl_ok hu hm, ty_pl I1 r1 rd⟩
  refine ⟨_, id, pa, slot, hty, h1, h2, ?_⟩
  have hA := ha.run cpos pins s1 σ H1 _ I1 q1
  rw [hs] at hA ⊢
  refine Calls.callWith_builtin (by show (false || (backTo cpos (starEach es X.env)).any (·.1)) = false; rw [hplain] <;> rfl) (Calls.evalArgs_plain ?_)
  exact thn hA fun us s2 ⟨vs, H2, I2, r2, q2⟩ => hmt pins s2 σ H2 x vs v us Q I2 r1 r2 q2
end
section
variable {K : PySem.W.Frag} {A : ASet} {as : List Addr} {f : F} {σ : L2.St} {H : Hp}
theorem tD_me {G : Call} {nm : Str} {a : Ex} {es : List Ex} {Q : VK} (h : tD K G (.me nm a es) σ H Q) : tMe K nm es.length (tD K G a) (tDs K G es) σ H Q := by
  obtain ⟨A, as, f, rv, f', R, he, hQ⟩ := h
  unfold evE at he
  obtain ⟨⟨r1, f1⟩, e1, he⟩ := bind_ok he
  obtain ⟨o, e2, he⟩ := bind_ok he
  obtain ⟨⟨rs, f2⟩, e3, he⟩ := bind_ok he
  obtain ⟨rr, e4, he⟩ := bind_ok he
  cases he
  have e2 := ofOpt_ok e2
  obtain ⟨ys, e7, e8⟩ := obind (ofOpt_ok e4)
  obtain ⟨z, e9, e7⟩ := obind e7
  obtain ⟨zs, e10, e7⟩ := obind e7
  cases e7
  refine ⟨A, as, f, r1, f1, R, e1, fun x H1 p1 => ?_⟩
  obtain ⟨A1, s1, R1, q1, n1, x1, k1⟩ := id p1
  have rd : ∃ (L : ASet) (y : D), (Rd1 K L H1 y x ∧ meT nm (tyD y) es.length = some o) ∨ (PlT L H1 x ∧ plT nm es.length = some o) := by
    have gen : ∀ y, view f1 r1 = some y → meT nm (tyD y) es.length = some o → ∃ (L : ASet) (y : D), (Rd1 K L H1 y x ∧ meT nm (tyD y) es.length = some o) ∨ (PlT L H1 x ∧ plT nm es.length = some o) := fun y e5 e6 =>
      ⟨_, y, .inl ⟨(p1.seen e5).2, e6⟩⟩
    cases r1 with
    | d y =>
      replace e2 : (if isPl y = true then plT nm es.length else meT nm (tyD (norm y)) es.length) = some o := e2
      split at e2
      · rename_i hp
        rcases q1 with q1 | ⟨ds, _, _, q3⟩
        · have := q1.norm
          unfold isPl at hp
          split at hp
          · rename_i ds
            exact absurd this (by unfold norm; intro z; cases z)
          · cases hp
        · exact ⟨_, .none, .inr ⟨q3, e2⟩⟩
      · exact gen _ rfl e2
    | fr w => obtain ⟨y, e5, e6⟩ := obind (show (view f1 (.fr w)).bind (fun y => meT nm (tyD y) es.length) = some o from e2); exact gen y e5 e6
    | vr w => obtain ⟨y, e5, e6⟩ := obind (show (view f1 (.vr w)).bind (fun y => meT nm (tyD y) es.length) = some o from e2); exact gen y e5 e6
    | ce w => obtain ⟨y, e5, e6⟩ := obind (show (view f1 (.ce w)).bind (fun y => meT nm (tyD y) es.length) = some o from e2); exact gen y e5 e6
  obtain ⟨L0, y, rd⟩ := rd
  refine ⟨L0, y, o, rd, A1, as, f1, rs, f2, R1, e3, fun vs H2 p2 => ?_⟩
  obtain ⟨A2, s2, R2, q2, n2, x2, k2⟩ := id p2
  have q1' := q1.ext x2 (fun a z => k2 a z) s2
  have sub : ∀ a, A a → A2 a := fun a z => s2 a (s1 a z)
  have xl := ext_less (H := H2) (f := f2) (as := as) (σ := σ) sub
  have pn : PostN K A as f σ H f2 H2 := ⟨R2.less sub, (x1.trans x2).trans xl, fun a z => (k2 a (s1 a z)).trans (k1 a z)⟩
  exact ⟨_, z :: zs, rr, ⟨x, vs, rfl, (view_rd1 R2 q1' e9).ext xl, (views_rd1 R2 q2 e10).ext xl⟩, e8, fun v H3 hp => hQ v H3 (pn.then (op_post pn.1 hp))⟩
end
section
variable {X : Cx} {Γ : Gam} {G : Call} {m : Nat}
theorem e_me (C : XOk Γ G m X) {n : Nat} (ih : IH Γ G X n) {nm : Str} {o : Expr} {es : List Expr} {ap cp : Pos} {o' : Ex} {es' : List Ex} (hp : (ap.endLine == cp.line) = true) (hl : es.length < 29) (hs : notSup o = true) (hb : meB nm es.length = true)
    (h1 : comp n Γ o = some o') (h2 : mapO (comp n Γ) es = some es') : E3 X G (.Call (.Attribute o nm ap) es [] cp) (.me nm o' es') := by
  refine .plain ?_ (fun _ => rfl) fun _ _ _ z => by cases z
  cases es with
  | nil => exfalso; revert hb; unfold meB meTab; simp
  | cons e es =>
    have h2' := h2
    obtain ⟨b, t, q1, q2, rfl⟩ := mapO_cons h2
    exact PE.imp (pe_me (by have := C.un; omega) (ih o o' h1).e (comps_pa ih.pe h2') (base_ok hs) (few_ok hl h2') hp (comp_star q1 es X.env) (mapO_plain q2)) fun σ H Q q => tD_me q
end
end Vm
set_option maxRecDepth 100000
set_option maxHeartbeats 4000000
namespace Vm
open PySem PySem.Spec PyProof.Rows L2 HT
/-! ### t[::-1] -/
section
variable {prog : Program} {w : World} {A : Around} {E : Value → Shared → Prop} {s : Shared}
theorem back_places (n : Nat) : Builtin.Slice.slicePlaces ((n : Int) - 1) (-1) (-1) = n := by
  unfold Builtin.Slice.slicePlaces
  rw [if_neg (by omega)]
  split
  · rw [show -(-1 : Int) = 1 by omega, Int.ediv_one]; omega
  · omega
theorem fm_congr {α β : Type} {f g : α → Option β} : ∀ {l : List α}, (∀ x ∈ l, f x = g x) → l.filterMap f = l.filterMap g
  | [], _ => rfl
  | x :: l, h => by
    rw [List.filterMap_cons, List.filterMap_cons, h x (List.mem_cons_self ..), fm_congr fun y hy => h y (List.mem_cons_of_mem _ hy)]
theorem back_pick (xs : Array Value) : ((List.range xs.size).filterMap fun (m : Nat) => xs[(((xs.size : Int) - 1) + (m : Int) * -1).toNat]?).toArray = xs.toList.reverse.toArray := by
  congr 1
  have h : ∀ m ∈ List.range xs.size, xs[(((xs.size : Int) - 1) + (m : Int) * -1).toNat]? = (fun m => xs.toList.reverse[m]?) m := by
    intro m hm
    have hm := List.mem_range.mp hm
    have e : (((xs.size : Int) - 1) + (m : Int) * -1).toNat = xs.toList.length - 1 - m := by rw [Array.length_toList]; omega
    rw [e]
    show _ = xs.toList.reverse[m]?
    rw [List.getElem?_reverse (by rw [Array.length_toList]; exact hm), Array.getElem?_toList]
  rw [fm_congr h]
  have : ∀ (l : List Value), (List.range l.length).filterMap (fun m => l[m]?) = l := by
    intro l
    induction l with
    | nil => rfl
    | cons x l ih =>
      rw [List.length_cons, List.range_succ_eq_map, List.filterMap_cons]
      simp only [List.getElem?_cons_zero, List.filterMap_map]
      congr 1
  have k := this xs.toList.reverse
  rw [List.length_reverse, Array.length_toList] at k
  exact k
theorem back_applied {sl : Addr} {vs : Value} {n : Nat} {Q : Int × Int × Nat → Shared → Prop} (hs : s.heap.IsSliceOf sl .none .none vs) (ps : IsPart vs (some (-1)))
    (h : Q ((n : Int) - 1, -1, n) s) : wpAny (model prog w) A (Builtin.Slice.sliceApplied (.ref sl) (pure (n : Int))) Q E s := by
  obtain ⟨os, hos, hcs, hds⟩ := id hs
  unfold Builtin.Slice.sliceApplied Builtin.Slice.sliceFields
  refine wpAny_bind (wpAny_bind (wpAny_field hos hds (x := .none) rfl (wpAny_bind (wpAny_field hos hds (x := .none) rfl (wpAny_bind (wpAny_field hos hds (x := vs) rfl (wpAny_pure ?_)))))))
  refine wpAny_bind (slicePart_ ps ?_)
  show wpAny _ _ (if ((-1 : Int) == 0) = true then _ else _) _ _ s
  rw [if_neg (by decide)]
  refine wpAny_bind (slicePart_none (wpAny_bind (slicePart_none (wpAny_bind (wpAny_pure ?_)))))
  show wpAny _ _ (pure ((n : Int) - 1, (-1 : Int), Builtin.Slice.slicePlaces ((n : Int) - 1) (-1) (-1))) _ _ s
  rw [back_places]
  exact wpAny_pure h
theorem back_tuple {t sl : Addr} {items : Array Value} {vs : Value} {Q : Value → Shared → Prop} (ht : IsTup s.heap t items) (hs : s.heap.IsSliceOf sl .none .none vs) (ps : IsPart vs (some (-1)))
    (h : Q (.ref s.heap.objs.size) { s with heap := s.heap.push { cls := .type "tuple", data := .seq items.toList.reverse.toArray } }) (hsz : items.size ≤ sizeLine) : wpAny (model prog w) A (getItem (.ref t) (.ref sl)) Q E s := by
  have hok : sizeOk (.seq items.toList.reverse.toArray) := by
    show items.toList.reverse.toArray.size ≤ sizeLine
    rw [List.size_toArray, List.length_reverse, Array.length_toList]
    exact hsz
  obtain ⟨os, hos, hcs, hds⟩ := id hs
  have hTs : s.TypeIs (.ref sl) "slice" := ⟨os, hos, hcs⟩
  unfold getItem
  try with_reducible refine wpAny_holding ?_
  first | refine wpAny_bind (wpAny_pure ?_) | skip
  refine wpAny_bind (wpAny_sequenceKey ht.typeIs (by decide) ?_)
  refine wpAny_bind (wpAny_callSpecial?_slot (name := Str.ofString "__getitem__") ht.typeIs PyProof.Rows.slot_tuple_getitem
    (wpAny_call_entry PyProof.Rows.slot_tuple_getitem ht.typeIs entry_tuple_getitem ?_ (args_tuple_getitem _ _)))
  show wpAny _ _ (Builtin.Tuple.tupleItemsOf (.ref t) >>= _) _ _ s
  refine wpAny_bind (tupleItemsOf_ ht ?_)
  refine wpAny_bind (wpAny_typeOf hTs ?_)
  rw [if_pos (by decide)]
  refine wpAny_bind (back_applied hs ps ?_)
  have hno : ¬ (((items.size : Int) - 1 == 0 && (-1 : Int) == 1 && items.size == items.size) = true) := by
    rw [show ((-1 : Int) == 1) = false from rfl, Bool.and_false, Bool.false_and]
    exact Bool.false_ne_true
  show wpAny _ _ (if ((items.size : Int) - 1 == 0 && (-1 : Int) == 1 && items.size == items.size) = true then _ else _) _ _ s
  rw [if_neg hno, back_pick]
  first
    | exact wpAny_bind (m := Builtin.Tuple.tupleExact _) (wpAny_newObj_type (wpAny_pure ⟨_, rfl, wpAny_pure h⟩) hok)
    | exact wpAny_bind (m := Builtin.Tuple.tupleExact _) (wpAny_newObj_type (wpAny_bind (wpAny_pure (wpAny_pure ⟨_, rfl, wpAny_pure h⟩))) hok)
    | exact wpAny_bind (wpAny_bind (m := Builtin.Tuple.tupleExact _) (wpAny_newObj_type (wpAny_pure (wpAny_pure ⟨_, rfl, wpAny_pure h⟩)) hok))
    | exact wpAny_bind (wpAny_bind (m := Builtin.Tuple.tupleExact _) (wpAny_newObj_type (wpAny_pure ⟨_, rfl, wpAny_pure h⟩) hok))
end
section
variable {X : Cx}
/-- xs[::-1], of a list or a tuple -/
def tRevA (K : PySem.W.Frag) (te : TE) : TE := fun σ H Q => te σ H fun x H1 => ∃ a xs, x = .ref a ∧ ((SqL K H1 a xs ∧ ∀ p, H1 p = none → Q (.ref p) (upd H1 p (.lst xs.reverse))) ∨ (SqT K H1 a xs ∧ ∀ p, H1 p = none → Q (.ref p) (upd H1 p (.tup xs.reverse))))
theorem pe_revA {e : Expr} {te : TE} {k : Nat} {p1 p2 p3 pos : Pos} (he : PE X e te) : PE X (.Subscript e (.Slice none none (some (.UnaryOp .USub (.Constant (.int 1) k p1) p2)) p3) pos) (tRevA X.K te) := by
  refine ⟨fun pins s σ H Q I h => ?_⟩
  refine Subscript_ (thn (he.run pins s σ H _ I h) fun v s1 ⟨x, H1, I1, r1, q1⟩ => ?_)
  obtain ⟨a, xs, ex, q1⟩ := q1
  subst ex
  cases r1
  have hst : PO X (some (.UnaryOp .USub (.Constant (.int 1) k p1) p2)) (tPart (tUn (rU fun i => .int (-i)) (tC (.int 1)))) := po_some (pe_un un_neg pe_int)
  refine wpAny_Slice (thn (po_none.run pins s1 σ H1 (fun o H2 => o = none ∧ H2 = H1) I1 ⟨rfl, rfl⟩) fun vl s2 ⟨l, H2, I2, pl, el, e2⟩ => ?_)
  subst el e2
  refine thn (po_none.run pins s2 σ H2 (fun o H3 => o = none ∧ H3 = H2) I2 ⟨rfl, rfl⟩) fun vu s3 ⟨u, H3, I3, pu, eu, e3⟩ => ?_
  subst eu e3
  refine thn (hst.run pins s3 σ H3 (fun o H4 => o = some (-1) ∧ H4 = H3) I3 ⟨1, rfl, -1, rfl, rfl, rfl⟩) fun vs s4 ⟨o, H4, I4, ps, eo, e4⟩ => ?_
  subst eo e4
  cases pl
  cases pu
  have I5 : Inv X pins σ H4 { s4 with heap := s4.heap.push { cls := .type "slice", data := .fields #[.none, .none, vs] } } := I4.kept (t' := s4.toks) fun b ob q => Heap.get?_push_of_some _ q
  show wpAny (model X.prog X.w) X.A (subscriptTail e (.Slice none none (some (.UnaryOp .USub (.Constant (.int 1) k p1) p2)) p3) (.ref a) (.ref s4.heap.objs.size)) (EP X pins σ Q) X.xe { s4 with heap := s4.heap.push { cls := .type "slice", data := .fields #[.none, .none, vs] } }
  rcases q1 with ⟨hx, q⟩ | ⟨hx, q⟩
  · obtain ⟨its, r, ht, hz⟩ := I5.list hx
    have hlen := r.length
    refine tail_any (ops := [.ref a, .ref s4.heap.objs.size]) ht.isList.typeIs (PySem.slot_list_getitem.lookup) ?_ (by with_unfolding_all rfl)
    refine wpAny_getItem_list_slice ht.isList (Heap.IsSliceOf.new _ .none .none vs) .none .none ps (by decide) ?_ (by rw [List.size_toArray]; omega)
    rw [PySem.W.krv_pick]
    refine ⟨.ref _, _, I5.laid (t' := s4.toks) (o := .lst xs.reverse) (fun b ob q => Heap.get?_push_of_some _ q) (Nat.le_refl _) ?_, rfl, q _ (I5.hok.fresh (Nat.le_refl _))⟩
    exact ⟨by rw [List.length_reverse]; exact hz, _, 0, r.reverse, Heap.get?_push_size _ rfl⟩
  · obtain ⟨its, r, ht, hz⟩ := I5.tuple hx
    have hlen := r.length
    refine tail_any (ops := [.ref a, .ref s4.heap.objs.size]) ht.typeIs (PyProof.Rows.slot_tuple_getitem.lookup) ?_ (by with_unfolding_all rfl)
    refine back_tuple ht (Heap.IsSliceOf.new _ .none .none vs) ps ?_ (by rw [List.size_toArray]; omega)
    refine ⟨.ref _, _, I5.laid (t' := s4.toks) (o := .tup xs.reverse) (fun b ob q => Heap.get?_push_of_some _ q) (Nat.le_refl _) ?_, rfl, q _ (I5.hok.fresh (Nat.le_refl _))⟩
    exact ⟨by rw [List.length_reverse]; exact hz, its.reverse, r.reverse, IsTup.new _ _⟩
end
end Vm
set_option maxRecDepth 100000
set_option maxHeartbeats 1000000
namespace Vm
open PySem PySem.Spec L2
/-! ### xs[::-1] -/
section
variable {K : PySem.W.Frag} {G : Call} {σ : L2.St} {H : Hp}
theorem RdA.rev {K : PySem.W.Frag} {L : ASet} {H : Hp} : ∀ {ds : List D} {vs : List V}, RdA K L H ds vs → RdA K L H ds.reverse vs.reverse
  | [], _, h => by obtain rfl : _ = [] := h; rfl
  | d :: ds, _, ⟨v, r, e, h1, h2⟩ => by
    subst e
    rw [List.reverse_cons, List.reverse_cons]
    exact (RdA.rev h2).app1 h1
theorem tD_rev {a : Ex} {Q : VK} (h : tD K G (.op .rev [a]) σ H Q) : tRevA K (tD K G a) σ H Q := by
  refine tD.mono (tDs_one (tD_op h)) fun v H1 q => ?_
  obtain ⟨L, ys, rr, rd, e, q⟩ := q
  obtain ⟨y, rfl, rd1⟩ := rd1s1 rd
  cases y with
  | list ds =>
    cases (show some (RR.fr (.lst ds.reverse)) = some rr from e)
    obtain ⟨p, vs, rfl, ll, ra⟩ := rd1.l
    exact ⟨p, vs, rfl, .inl ⟨ll.sq, fun b hb => q _ _ ⟨b, _, hb, rfl, rfl, ra.rev⟩⟩⟩
  | tuple ds =>
    cases (show some (RR.d (.tuple ds.reverse)) = some rr from e)
    obtain ⟨p, vs, rfl, ll, ra⟩ := rd1.t
    exact ⟨p, vs, rfl, .inr ⟨ll.sq, fun b hb => q _ _ (.inr (.inl ⟨b, _, _, rfl, hb, rfl, rfl, ra.rev⟩))⟩⟩
  | _ => cases e
/-! ### displays with stars -/
def tDst (K : PySem.W.Frag) (G : Call) (es : List Ex) (fl : List Bool) : TA := fun σ H Q => ∃ A as f rvs f', Rel K A as f σ H ∧ evSt G es fl f = .ok (rvs, f') ∧ ∀ vs H', PostA K A as f σ H rvs f' vs H' → Q vs H'
theorem PostA.front {A : ASet} {as : List Addr} {f f1 f2 : F} {H1 H2 : Hp} {r : RV} {rs : List RV} {v : V} {A1 : ASet} (s1 : ∀ a, A a → A1 a) (r1 : RVR K (Lv A1 f1 as σ) A1 as σ H1 r v) (n1 : ∀ o, r = .fr o → ∀ a, v = .ref a → ¬ A a)
    (x1 : Ext (Lv A f as σ) H (Lv A1 f1 as σ) H1) (k1 : ∀ a, A a → H1 a = H a) {vs : List V} (p2 : PostA K A1 as f1 σ H1 rs f2 vs H2) : PostA K A as f σ H (r :: rs) f2 (v :: vs) H2 := by
  obtain ⟨A2, s2, R2, r2, n2, x2, k2⟩ := p2
  refine ⟨A2, fun a z => s2 a (s1 a z), R2, ⟨v, vs, rfl, r1.ext x2 (fun a z => k2 a z) s2, r2⟩, ?_, x1.trans x2, fun a z => (k2 a (s1 a z)).trans (k1 a z)⟩
  have old : ∀ a, V.ref a ∈ frs rs vs → ¬ A a := fun a z q => n2.np a z (s1 a q)
  cases r with
  | fr o =>
    obtain ⟨p, ep, ap, _⟩ := r1
    subst ep
    refine ⟨List.nodup_cons.mpr ⟨fun z => n2.np p z ap, n2.nd⟩, fun a z => ?_⟩
    rcases List.mem_cons.mp (show V.ref a ∈ V.ref p :: frs rs vs from z) with e | z
    · cases e; exact n1 o rfl p rfl
    · exact old a z
  | d _ => exact ⟨n2.nd, old⟩
  | vr _ => exact ⟨n2.nd, old⟩
  | ce _ => exact ⟨n2.nd, old⟩
theorem PostA.frontD {A : ASet} {as : List Addr} {f1 f2 : F} {H1 H2 : Hp} {rs : List RV} {vs : List V} (R1 : Rel K A as f1 σ H1) (p2 : PostA K A as f1 σ H1 rs f2 vs H2) : ∀ {ds : List D} {ws : List V}, RdA K (Lv A f1 as σ) H1 ds ws → PostA K A as f1 σ H1 (ds.map RV.d ++ rs) f2 (ws ++ vs) H2
  | [], _, h => by obtain rfl : _ = [] := h; exact p2
  | d :: ds, _, ⟨w, r, e, h1, h2⟩ => by
    subst e
    exact PostA.front (r := .d d) (fun _ z => z) (.inl h1) (fun o e => by cases e) Ext.refl (fun _ _ => rfl) (PostA.frontD R1 p2 h2)
theorem tDst_cons {e : Ex} {es : List Ex} {fl : List Bool} {Q : List V → Hp → Prop} (h : tDst K G (e :: es) (false :: fl) σ H Q) : tCons (tD K G e) (tDst K G es fl) σ H Q := by
  obtain ⟨A, as, f, rvs, f2, R, he, hQ⟩ := h
  unfold evSt at he
  obtain ⟨⟨r, f1⟩, e1, he⟩ := bind_ok he
  replace he : (evSt G es fl f1).bind (fun q => .ok (r :: q.1, q.2)) = .ok (rvs, f2) := he
  obtain ⟨⟨rs, f3⟩, e2, he⟩ := bind_ok he
  cases he
  refine ⟨A, as, f, r, f1, R, e1, fun v H1 p1 => ?_⟩
  obtain ⟨A1, s1, R1, r1, n1, x1, k1⟩ := id p1
  exact ⟨A1, as, f1, rs, _, R1, e2, fun vs H2 p2 => hQ _ _ (p2.front s1 r1 n1 x1 k1)⟩
theorem tDst_star {e : Ex} {es : List Ex} {fl : List Bool} {Q : List V → Hp → Prop} (h : tDst K G (e :: es) (true :: fl) σ H Q) : StX.tStar K (tD K G e) (tDst K G es fl) σ H Q := by
  obtain ⟨A, as, f, rvs, f2, R, he, hQ⟩ := h
  unfold evSt at he
  obtain ⟨⟨r, f1⟩, e1, he⟩ := bind_ok he
  refine ⟨A, as, f, r, f1, R, e1, fun v H1 p1 => ?_⟩
  have go : ∀ {ds : List D} {ws : List V}, (evSt G es fl f1).bind (fun q => Res.ok (ds.map RV.d ++ q.1, q.2)) = .ok (rvs, f2) → Rel K A as f1 σ H1 → Ext (Lv A f as σ) H (Lv A f1 as σ) H1 → (∀ a, A a → H1 a = H a) → RdA K (Lv A f1 as σ) H1 ds ws → tDst K G es fl σ H1 fun ys H2 => Q (ws ++ ys) H2 := fun {ds ws} he R1 x1 k1 rd => by
    obtain ⟨⟨rs, f3⟩, e2, he⟩ := bind_ok he
    cases he
    refine ⟨A, as, f1, rs, _, R1, e2, fun vs H2 p2 => hQ _ _ ?_⟩
    obtain ⟨A2, s2, R2, r2, n2, x2, k2⟩ := PostA.frontD R1 p2 rd
    exact ⟨A2, s2, R2, r2, n2, x1.trans x2, fun a z => (k2 a z).trans (k1 a z)⟩
  cases r with
  | d y =>
    cases y with
    | list ds =>
      obtain ⟨pn, rd⟩ := p1.kept (y := .list ds) (f'' := f1) rfl
      unfold Rd at rd
      obtain ⟨a, ws, rfl, s, ra⟩ := rd
      exact ⟨a, ws, rfl, .inr s.sq, go he pn.1 pn.2.1 pn.2.2 ra⟩
    | tuple ds =>
      obtain ⟨pn, rd⟩ := p1.kept (y := .tuple ds) (f'' := f1) rfl
      unfold Rd at rd
      obtain ⟨a, ws, rfl, s, ra⟩ := rd
      exact ⟨a, ws, rfl, .inl s.sq, go he pn.1 pn.2.1 pn.2.2 ra⟩
    | _ => cases he
  | _ => cases he
theorem tDst_nil {fl : List Bool} {Q : List V → Hp → Prop} (h : tDst K G [] fl σ H Q) : tNil σ H Q := by
  obtain ⟨A, as, f, rvs, f2, R, he, hQ⟩ := h
  unfold evSt at he
  cases he
  exact hQ [] H (.nil R)
theorem tD_tups {fl : List Bool} {es : List Ex} {Q : VK} (h : tD K G (.tups fl es) σ H Q) : tTup (tDst K G es fl) σ H Q := by
  obtain ⟨A, as, f, rv, f', R, he, hQ⟩ := h
  unfold evE at he
  obtain ⟨⟨rs, f1⟩, e1, he⟩ := bind_ok he
  obtain ⟨⟨ys, f2⟩, e2, he⟩ := bind_ok he
  have e2 := ofOpt_ok e2
  dsimp only at e2 he
  split at he
  · rename_i hl
    cases he
    refine ⟨A, as, f, rs, f1, R, e1, fun vs H1 p => ?_⟩
    obtain ⟨pn, rd⟩ := p.kept e2
    refine ⟨by rw [rd.len, sizeLine_eq]; exact hl, fun q hq => hQ _ _ (pn.then (op_post (rr := .d (.tuple ys)) pn.1 (.inr (.inl ⟨q, vs, ys, rfl, hq, rfl, rfl, rd⟩))))⟩
  · cases he
end
section
variable {X : Cx} {Γ : Gam} {G : Call} {m : Nat}
theorem pa_st {n : Nat} (ih : IH Γ G X n) : ∀ {es : List Expr} {l : List Ex}, mapO (fun e => comp n Γ (unstar e)) es = some l → PA X es (tDst X.K G l (es.map starE))
  | [], _, h => by cases h; exact PA.imp pa_nil fun σ H Q q => tDst_nil q
  | e :: es, _, h => by
    obtain ⟨b, t, h1, h2, e0⟩ := mapO_cons h
    subst e0
    by_cases hs : ∃ e' p, e = .Starred e' p
    · obtain ⟨e', p, rfl⟩ := hs
      exact PA.imp (StX.pa_star (ih e' b h1).e (pa_st ih h2) rfl) fun σ H Q q => tDst_star q
    · have hu : unstar e = e := by
        cases e
        case Starred => exact absurd ⟨_, _, rfl⟩ hs
        all_goals rfl
      have hf : starE e = false := by
        cases e
        case Starred => exact absurd ⟨_, _, rfl⟩ hs
        all_goals rfl
      rw [hu] at h1
      refine PA.imp (pa_cons (ih e b h1).e (pa_st ih h2) (comp_star h1 es X.env)) fun σ H Q q => tDst_cons ?_
      rw [List.map_cons, hf] at q
      exact q
theorem e_tups {n : Nat} (ih : IH Γ G X n) {es : List Expr} {k : _} {pos : Pos} {es' : List Ex} (hes : mapO (fun e => comp n Γ (unstar e)) es = some es') : E3 X G (.Tuple es k pos) (.tups (es.map starE) es') := by
  refine .plain ?_ (fun _ => rfl) fun _ _ _ z => by cases z
  exact PE.imp (pe_tup (pa_st ih hes)) fun σ H Q q => tD_tups q
end
end Vm
set_option maxRecDepth 100000
set_option maxHeartbeats 1000000
namespace Vm
open PySem PySem.Spec L2
theorem permR_cons {α : Type} {rs : List α} {i : Nat} {pm : List Nat} {r : α} (h : rs[i]? = some r) : permR rs (i :: pm) = r :: permR rs pm := by
  unfold permR
  rw [List.filterMap_cons, h]
theorem permR_len {α : Type} {rs : List α} : ∀ {pm : List Nat}, (∀ i ∈ pm, i < rs.length) → (permR rs pm).length = pm.length
  | [], _ => rfl
  | i :: pm, h => by
    have hi := h i (List.mem_cons_self ..)
    rw [permR_cons (List.getElem?_eq_getElem hi), List.length_cons, permR_len fun j hj => h j (List.mem_cons_of_mem _ hj), List.length_cons]
section
variable {K : PySem.W.Frag} {G : Call} {σ : L2.St} {H : Hp}
theorem RVRs.get {L A : ASet} {as : List Addr} : ∀ {rvs : List RV} {vs : List V} {i : Nat} {r : RV}, RVRs K L A as σ H rvs vs → rvs[i]? = some r → ∃ v, vs[i]? = some v ∧ RVR K L A as σ H r v
  | [], _, _, _, _, h => by simp at h
  | q :: rs, _, 0, r, ⟨v, ws, e, h1, _⟩, h => by
    subst e; simp at h; subst h; exact ⟨v, rfl, h1⟩
  | q :: rs, _, i + 1, r, ⟨v, ws, e, _, h2⟩, h => by
    subst e
    obtain ⟨w, h3, h4⟩ := RVRs.get h2 (by simpa using h)
    exact ⟨w, by simpa using h3, h4⟩
theorem frs_mem : ∀ {rvs : List RV} {vs : List V} {i : Nat} {o : Ob} {w : V}, rvs[i]? = some (.fr o) → vs[i]? = some w → w ∈ frs rvs vs
  | [], _, _, _, _, h, _ => by simp at h
  | _ :: _, [], _, _, _, _, h => by simp at h
  | r :: rs, v :: vs, 0, o, w, h, h' => by
    simp at h h'; subst h h'
    exact List.mem_cons_self ..
  | r :: rs, v :: vs, i + 1, o, w, h, h' => by
    have := frs_mem (rvs := rs) (vs := vs) (i := i) (o := o) (w := w) (by simpa using h) (by simpa using h')
    cases r <;> first | exact this | exact List.mem_cons_of_mem _ this
theorem frs_inj : ∀ {rvs : List RV} {vs : List V} {i j : Nat} {o o' : Ob} {w : V}, (frs rvs vs).Nodup → rvs[i]? = some (.fr o) → vs[i]? = some w → rvs[j]? = some (.fr o') → vs[j]? = some w → i = j
  | [], _, _, _, _, _, _, _, h, _, _, _ => by simp at h
  | _ :: _, [], _, _, _, _, _, _, _, h, _, _ => by simp at h
  | r :: rs, v :: vs, 0, 0, _, _, _, _, _, _, _, _ => rfl
  | r :: rs, v :: vs, 0, j + 1, o, o', w, nd, h1, h2, h3, h4 => by
    simp at h1 h2; subst h1 h2
    have := frs_mem (rvs := rs) (vs := vs) (i := j) (o := o') (w := v) (by simpa using h3) (by simpa using h4)
    exact absurd this (List.nodup_cons.mp nd).1
  | r :: rs, v :: vs, i + 1, 0, o, o', w, nd, h1, h2, h3, h4 => by
    simp at h3 h4; subst h3 h4
    have := frs_mem (rvs := rs) (vs := vs) (i := i) (o := o) (w := v) (by simpa using h1) (by simpa using h2)
    exact absurd this (List.nodup_cons.mp nd).1
  | r :: rs, v :: vs, i + 1, j + 1, o, o', w, nd, h1, h2, h3, h4 => by
    have nd' : (frs rs vs).Nodup := by
      cases r <;> first | exact nd | exact (List.nodup_cons.mp nd).2
    rw [frs_inj (i := i) (j := j) nd' (by simpa using h1) (by simpa using h2) (by simpa using h3) (by simpa using h4)]
theorem RVRs.perm {L A : ASet} {as : List Addr} {rvs : List RV} {vs : List V} (h : RVRs K L A as σ H rvs vs) (nd : (frs rvs vs).Nodup) : ∀ {pm : List Nat}, (∀ i ∈ pm, i < rvs.length) → pm.Nodup →
    RVRs K L A as σ H (permR rvs pm) (permR vs pm) ∧ (frs (permR rvs pm) (permR vs pm)).Nodup ∧ ∀ w ∈ frs (permR rvs pm) (permR vs pm), ∃ i ∈ pm, ∃ o, rvs[i]? = some (.fr o) ∧ vs[i]? = some w
  | [], _, _ => ⟨rfl, List.nodup_nil, fun w h => by simp [permR, frs] at h⟩
  | i :: pm, hi, hn => by
    obtain ⟨n1, n2⟩ := List.nodup_cons.mp hn
    have hlt := hi i (List.mem_cons_self ..)
    have e1 : rvs[i]? = some rvs[i] := List.getElem?_eq_getElem hlt
    obtain ⟨v, e2, q⟩ := h.get e1
    obtain ⟨p1, p2, p3⟩ := RVRs.perm h nd (pm := pm) (fun j hj => hi j (List.mem_cons_of_mem _ hj)) n2
    rw [permR_cons e1, permR_cons e2]
    refine ⟨⟨v, _, rfl, q, p1⟩, ?_⟩
    generalize hr : rvs[i] = r at e1 q
    cases r with
    | fr o =>
      refine ⟨List.nodup_cons.mpr ⟨fun z => ?_, p2⟩, fun w hw => ?_⟩
      · obtain ⟨j, hj, o', z1, z2⟩ := p3 v z
        rw [frs_inj nd e1 e2 z1 z2] at n1
        exact n1 hj
      · rcases List.mem_cons.mp (show w ∈ v :: frs (permR rvs pm) (permR vs pm) from hw) with z | z
        · subst z; exact ⟨i, List.mem_cons_self .., o, e1, e2⟩
        · obtain ⟨j, hj, z⟩ := p3 w z
          exact ⟨j, List.mem_cons_of_mem _ hj, z⟩
    | d _ => exact ⟨p2, fun w hw => let ⟨j, hj, z⟩ := p3 w hw; ⟨j, List.mem_cons_of_mem _ hj, z⟩⟩
    | vr _ => exact ⟨p2, fun w hw => let ⟨j, hj, z⟩ := p3 w hw; ⟨j, List.mem_cons_of_mem _ hj, z⟩⟩
    | ce _ => exact ⟨p2, fun w hw => let ⟨j, hj, z⟩ := p3 w hw; ⟨j, List.mem_cons_of_mem _ hj, z⟩⟩
theorem PostA.perm {A : ASet} {as : List Addr} {f f' : F} {H' : Hp} {rvs : List RV} {vs : List V} {pm : List Nat} (h : PostA K A as f σ H rvs f' vs H') (hi : ∀ i ∈ pm, i < rvs.length) (hn : pm.Nodup) : PostA K A as f σ H (permR rvs pm) f' (permR vs pm) H' := by
  obtain ⟨A', s, R, r, n, x, k⟩ := h
  obtain ⟨p1, p2, p3⟩ := r.perm n.nd hi hn
  refine ⟨A', s, R, p1, ⟨p2, fun a ha => ?_⟩, x, k⟩
  obtain ⟨i, _, o, z1, z2⟩ := p3 _ ha
  exact n.np a (frs_mem z1 z2)
theorem tCallkX_of {mg : Str → Option Value} {W : WX} {g : Nat} {pm : List Nat} {es : List Ex} {Q : VK} (hi : ∀ i ∈ pm, i < es.length) (hn : pm.Nodup) (h : tDX K mg W G (.callk g pm es) σ H Q) : tDs K G es σ H fun vs H1 => spG K mg pm.length (G g) (permR vs pm) H1 Q fun cls d H2 => W cls d σ H2 := by
  obtain ⟨A, as, f, rr, f', R, he, hQ⟩ := h
  unfold evX at he
  obtain ⟨⟨rs, f1⟩, e1, he⟩ := bind_ok he
  have hl := chn_len e1
  refine ⟨A, as, f, rs, f1, R, e1, fun vs H1 p => ?_⟩
  have hl2 := p.len
  exact call_okX (p.perm (fun i h => by rw [hl]; exact hi i h) hn) he (permR_len fun i h => by rw [hl2, hl]; exact hi i h) hQ
theorem tCallk_of {mg : Str → Option Value} {E : XK} {g : Nat} {pm : List Nat} {es : List Ex} {Q : VK} (hi : ∀ i ∈ pm, i < es.length) (hn : pm.Nodup) (h : tD K G (.callk g pm es) σ H Q) : tDs K G es σ H fun vs H1 => spG K mg pm.length (G g) (permR vs pm) H1 Q E := by
  obtain ⟨A, as, f, rv, f', R, he, hQ⟩ := h
  unfold evE at he
  obtain ⟨⟨rs, f1⟩, e1, he⟩ := bind_ok he
  have hl := chn_len e1
  refine ⟨A, as, f, rs, f1, R, e1, fun vs H1 p => ?_⟩
  have hl2 := p.len
  exact call_ok (p.perm (fun i h => by rw [hl]; exact hi i h) hn) he (permR_len fun i h => by rw [hl2, hl]; exact hi i h) hQ
/-- the values one after another -/
def chT (K : PySem.W.Frag) (G : Call) : List Ex → TA
  | [], _, H, Q => Q [] H
  | e :: es, σ, H, Q => tD K G e σ H fun v H1 => chT K G es σ H1 fun vs H2 => Q (v :: vs) H2
theorem chT.mono : ∀ {es : List Ex} {H : Hp} {Q Q' : List V → Hp → Prop}, chT K G es σ H Q → (∀ vs H', vs.length = es.length → Q vs H' → Q' vs H') → chT K G es σ H Q'
  | [], _, _, _, h, i => i _ _ rfl h
  | e :: es, _, _, _, h, i => tD.mono h fun v H1 q => chT.mono q fun vs H2 l q => i _ _ (congrArg (· + 1) l) q
theorem tDs_ch : ∀ {es : List Ex} {H : Hp} {Q : List V → Hp → Prop}, tDs K G es σ H Q → chT K G es σ H Q
  | [], _, _, h => tDs_nil h
  | e :: es, _, _, h => tD.mono (tDs_cons h) fun v H1 q => tDs_ch q
theorem chT_app : ∀ {es ks : List Ex} {H : Hp} {Q : List V → Hp → Prop}, chT K G (es ++ ks) σ H Q → chT K G es σ H fun vs H1 => chT K G ks σ H1 fun ws H2 => Q (vs ++ ws) H2
  | [], _, _, _, h => h
  | e :: es, _, _, _, h => tD.mono h fun v H1 q => chT_app q
end
theorem Vals.permR {vs : List V} {us : List Value} (h : Vals vs us) : ∀ pm : List Nat, Vals (Vm.permR vs pm) (Vm.permR us pm)
  | [] => .nil
  | i :: pm => by
    unfold Vm.permR
    rw [List.filterMap_cons, List.filterMap_cons]
    cases q : vs[i]? with
    | none =>
      have : us[i]? = none := by rw [List.getElem?_eq_none_iff] at q ⊢; rw [← h.length]; exact q
      rw [this]
      exact Vals.permR h pm
    | some v =>
      obtain ⟨u, e, r⟩ := h.get q
      rw [e]
      exact .cons r (Vals.permR h pm)
section
variable {X : Cx} {Γ : Gam} {G : Call} {m : Nat}
theorem pa_ch {n : Nat} (ih : IH Γ G X n) : ∀ {es : List Expr} {l : List Ex}, mapO (comp n Γ) es = some l → PA X es (chT X.K G l)
  | [], _, h => by cases h; exact PA.imp pa_nil fun σ H Q q => q
  | e :: es, _, h => by
    obtain ⟨b, t, h1, h2, e0⟩ := mapO_cons h
    subst e0
    exact PA.imp (pa_cons (ih e b h1).e (pa_ch ih h2) (comp_star h1 es X.env)) fun σ H Q q => q
theorem PK.imp {X : Cx} {e : List Keyword} {t t' : TA} (h : PK X e t) (i : ∀ σ H Q, t' σ H Q → t σ H Q) : PK X e t' := ⟨fun pos pins s σ H Q I q => h.run pos pins s σ H Q I (i σ H Q q)⟩
theorem pk_ch {n : Nat} (ih : IH Γ G X n) : ∀ {ks : List Keyword} {l : List Ex}, mapO (comp n Γ) (ks.map (·.value)) = some l → PK X ks (chT X.K G l)
  | [], _, h => by cases h; exact PK.imp pk_nil fun σ H Q q => q
  | ⟨nm, kv, kp⟩ :: ks, _, h => by
    obtain ⟨b, t, h1, h2, e0⟩ := mapO_cons h
    subst e0
    exact PK.imp (pk_cons (ih kv b h1).e (pk_ch ih h2)) fun σ H Q q => q
theorem kw_all : ∀ {ks : List Keyword} {ns : List Str} {pos : Pos} {env : Env}, ks.map (·.arg) = ns.map some → (backToKw pos (keywordEach ks env)).all (·.1.isSome) = true ∧ (backToKw pos (keywordEach ks env)).filterMap (·.1) = ns ∧ (backToKw pos (keywordEach ks env)).any (·.1.isNone) = false
  | [], [], _, _, _ => ⟨rfl, rfl, rfl⟩
  | [], _ :: _, _, _, h => by cases h
  | _ :: _, [], _, _, h => by cases h
  | k :: ks, n :: ns, pos, env, h => by
    obtain ⟨a, v, p⟩ := k
    simp only [List.map_cons, List.cons.injEq] at h
    obtain ⟨h1, h2⟩ := h
    subst h1
    obtain ⟨q1, q2, q3⟩ := kw_all (pos := pos) (env := env) h2
    refine ⟨?_, ?_, ?_⟩
    · show (true && (backToKw pos (keywordEach ks env)).all (·.1.isSome)) = true
      rw [q1]; rfl
    · show n :: (backToKw pos (keywordEach ks env)).filterMap (·.1) = n :: ns
      rw [q2]
    · show (false || (backToKw pos (keywordEach ks env)).any (·.1.isNone)) = false
      rw [q3]; rfl
theorem kwFind_ok : ∀ {l : List (Str × Nat × List Str × List D × List Nat)} {x : Str} {n : Nat} {ks : List (Option Str)} {q : List D × List Nat}, kwFind l x n ks = some q → ∃ ns, (x, n, ns, q.1, q.2) ∈ l ∧ ns.map some = ks
  | [], _, _, _, _, h => by cases h
  | k :: r, x, n, ks, q, h => by
    unfold kwFind at h
    split at h
    · rename_i hc
      obtain ⟨rfl, rfl, h3⟩ := hc
      cases h
      exact ⟨_, List.mem_cons_self .., h3⟩
    · obtain ⟨ns, h1, h2⟩ := kwFind_ok h
      exact ⟨ns, List.mem_cons_of_mem _ h1, h2⟩
/-- what stands for the missing ones -/
theorem chT_k {K : PySem.W.Frag} {σ : L2.St} : ∀ {ds : List D} {zs : List V} {H : Hp} {Q : List V → Hp → Prop}, (∀ L H, RdA K L H ds zs) → chT K G (ds.map Ex.k) σ H Q → Q zs H
  | [], zs, H, Q, r, h => by
    obtain rfl : zs = [] := r (fun _ => False) H
    exact h
  | d :: ds, zs, H, Q, r, h => by
    obtain ⟨z, zt, rfl, _, _⟩ := r (fun _ => False) H
    have r1 : ∀ L H, Rd K L H d z := fun L H => by
      obtain ⟨z', zt', e, h1, _⟩ := r L H
      cases e; exact h1
    have r2 : ∀ L H, RdA K L H ds zt := fun L H => by
      obtain ⟨z', zt', e, _, h2⟩ := r L H
      cases e; exact h2
    exact chT_k (Q := fun vs H2 => Q (z :: vs) H2) r2 (tD_k h r1)
theorem e_kwG {W : WX} {te : TE} (tk : Takes X W) (C : XOk Γ G m X) {n : Nat} (ih : IH Γ G X n) {x : Str} {p pos : Pos} {es : List Expr} {ks : List Keyword} {g : Nat} {ps : List Str} {es' ks' : List Ex} {q : List D × List Nat} (ok : okName x = true) (hg : Γ.gl x = true) (hd : defOf Γ.defs x 0 = some (g, ps))
    (hk : kwFind Γ.kws x es.length (kwNames ks) = some q) (hes : mapO (comp n Γ) es = some es') (hks : mapO (comp n Γ) (ks.map (·.value)) = some ks')
    (hte : ∀ {σ : L2.St} {H : Hp} {Q : VK}, (∀ i ∈ q.2, i < (es' ++ (ks' ++ q.1.map Ex.k)).length) → q.2.Nodup → te σ H Q → tDs X.K G (es' ++ (ks' ++ q.1.map .k)) σ H fun vs H1 => spG X.K X.mg q.2.length (G g) (permR vs q.2) H1 Q fun cls d H2 => W cls d σ H2) :
    PE X (.Call (.Name x p) es ks pos) te := by
  obtain ⟨o1, o2, o3⟩ := okName_ne ok
  obtain ⟨f, fd, h1, h2, h3, hkw, h4⟩ := C.df x g ps hd
  obtain ⟨ns, k1, k2⟩ := kwFind_ok hk
  obtain ⟨ds, pm⟩ := q
  obtain ⟨b1, b2, b3, dv, du, b5, b6, b4⟩ := hkw _ _ _ _ k1
  replace b3 : ∀ i ∈ pm, i < es.length + ns.length + ds.length := b3
  obtain ⟨c1, c2, c3⟩ := kw_all (pos := pos) (env := X.env) k2.symm
  have l1 := mapO_len hes
  have l2 : ks'.length = ns.length := by
    have := mapO_len hks
    have h5 : ns.length = ks.length := by simpa [kwNames] using congrArg List.length k2
    rw [this, List.length_map, h5]
  have fin : ∀ {σ : L2.St} {H : Hp} {Q : VK}, te σ H Q → chT X.K G es' σ H fun vs H1 => vs.length = es.length ∧ chT X.K G ks' σ H1 fun zs H2 => zs.length = ns.length ∧ spG X.K X.mg ps.length (G g) (permR (vs ++ (zs ++ dv)) pm) H2 Q (fun cls d H3 => W cls d σ H3) := fun {σ H Q} q => by
    have q1 := chT_app (tDs_ch (hte (fun i hi => by have := b3 i hi; show i < (es' ++ (ks' ++ ds.map Ex.k)).length; rw [List.length_append, List.length_append, List.length_map]; omega) b2 q))
    rw [b1] at q1
    exact chT.mono q1 fun vs H1 lv q2 => ⟨by omega, chT.mono (chT_app q2) fun zs H2 lz q3 => ⟨by omega, chT_k (Q := fun ws H3 => spG X.K X.mg ps.length (G g) (permR (vs ++ (zs ++ ws)) pm) H3 Q fun cls d H3 => W cls d σ H3) b6 q3⟩⟩
  have run : ∀ {pins : List (Addr × Obj)} {s : Shared} {σ : L2.St} {H : Hp} {Q : VK} {us ws : List Value} {vs zs : List V}, Inv X pins σ H s → Vals vs us → Vals zs ws → vs.length = es.length → zs.length = ns.length → spG X.K X.mg ps.length (G g) (permR (vs ++ (zs ++ dv)) pm) H Q (fun cls d H3 => W cls d σ H3) →
      wpAny (model X.prog X.w) X.A (call (.ref f) us (ns.zip ws)) (EP X pins σ Q) X.xe s := fun {pins s σ H Q us ws vs zs} I r1 r2 e1 e2 q =>
    run_gx h4 C.room C.gd tk (fun _ => b4 s us ws I.kIn (by rw [← r1.length]; exact e1) (by rw [← r2.length]; exact e2)) I (Vals.permR (r1.append (r2.append b5)) pm) q
  refine PE.imp (t := fun σ H Q => chT X.K G es' σ H fun vs H1 => vs.length = es.length ∧ chT X.K G ks' σ H1 fun zs H2 => zs.length = ns.length ∧ spG X.K X.mg ps.length (G g) (permR (vs ++ (zs ++ dv)) pm) H2 Q fun cls d H3 => W cls d σ H3) ?_ fun σ H Q q => fin q
  refine ⟨fun pins s σ H Q I h => ?_⟩
  refine wpAny_Call_Name_kw (ld_glob I (gl_of C hg) h1 ?_ o1)
  cases es with
  | nil =>
    cases hes
    refine PySem.W.callWith_KW0 (h₀ := X.base) I.ok.mod.kin h2 c1 ?_ (by rw [c3]; rfl)
    obtain ⟨_, h⟩ := (show ([] : List V).length = 0 ∧ _ from h)
    refine thn ((pk_ch ih hks).run pos pins s σ H _ I h) fun ws s2 ⟨zs, H2, I2, rz, lz, q2⟩ => ⟨I2.kIn, ?_⟩
    rw [c2]
    exact run I2 .nil rz rfl lz q2
  | cons e es =>
    have hes2 := hes
    obtain ⟨b, t, q1, q2, rfl⟩ := mapO_cons hes
    refine PySem.W.callWith_KW (h₀ := X.base) I.ok.mod.kin h2 c1 (thn ((pa_ch ih hes2).run pos pins s σ H _ I h) fun us s1 ⟨vs, H1, I1, r, lv, q⟩ => ?_) (by rw [mapO_plain hes2, c3]; rfl) (comp_star q1 es X.env)
    refine thn ((pk_ch ih hks).run pos pins s1 σ H1 _ I1 q) fun ws s2 ⟨zs, H2, I2, rz, lz, q2⟩ => ⟨I2.kIn, ?_⟩
    rw [c2]
    exact run I2 r rz lv lz q2
theorem e_kw (C : XOk Γ G m X) {n : Nat} (ih : IH Γ G X n) {x : Str} {p pos : Pos} {es : List Expr} {ks : List Keyword} {g : Nat} {ps : List Str} {es' ks' : List Ex} {q : List D × List Nat} (ok : okName x = true) (hg : Γ.gl x = true) (hd : defOf Γ.defs x 0 = some (g, ps))
    (hk : kwFind Γ.kws x es.length (kwNames ks) = some q) (hes : mapO (comp n Γ) es = some es') (hks : mapO (comp n Γ) (ks.map (·.value)) = some ks') :
    E3 X G (.Call (.Name x p) es ks pos) (.callk g q.2 (es' ++ (ks' ++ q.1.map .k))) := by
  refine .plain ?_ (fun _ => rfl) fun _ _ _ z => by cases z
  exact e_kwG (W := fun _ _ _ _ => False) takes0 C ih ok hg hd hk hes hks fun hi hn q => tCallk_of hi hn q
theorem e_kwX {W : WX} (tk : Takes X W) (C : XOk Γ G m X) {n : Nat} (ih : IH Γ G X n) {x : Str} {p pos : Pos} {es : List Expr} {ks : List Keyword} {g : Nat} {ps : List Str} {es' ks' : List Ex} {q : List D × List Nat} (ok : okName x = true) (hg : Γ.gl x = true) (hd : defOf Γ.defs x 0 = some (g, ps))
    (hk : kwFind Γ.kws x es.length (kwNames ks) = some q) (hes : mapO (comp n Γ) es = some es') (hks : mapO (comp n Γ) (ks.map (·.value)) = some ks') :
    PE X (.Call (.Name x p) es ks pos) (tDX X.K X.mg W G (.callk g q.2 (es' ++ (ks' ++ q.1.map .k)))) :=
  e_kwG tk C ih ok hg hd hk hes hks fun hi hn q => tCallkX_of hi hn q
end
end Vm
set_option maxRecDepth 100000
set_option maxHeartbeats 4000000
namespace Vm
open PySem PySem.Spec PyProof.Rows L2
/-! ### max(xs, default=d), min(xs, default=d) -/
section
variable {X : Cx}
theorem alike_of_ints (ns : List Int) : PySem.W.AlikeAll (ns.map .int) := by
  refine ⟨fun x hx y hy => ?_, fun x hx => ?_⟩
  · rw [List.mem_map] at hx hy
    obtain ⟨a, _, rfl⟩ := hx
    obtain ⟨b, _, rfl⟩ := hy
    rfl
  · rw [List.mem_map] at hx
    obtain ⟨a, _, rfl⟩ := hx
    intro z; cases z
theorem depth_of_ints (ns : List Int) : PyData.depthAll (ns.map .int) = 0 := by
  induction ns with
  | nil => rfl
  | cons n r ih => simp [PyData.depthAll, PyData.depth, ih]
def mxQ (K : PySem.W.Frag) (o : Op) : List V → List V → Hp → VK → Prop := fun vs zs H Q => vs.length = 1 ∧ zs.length = 1 ∧ OpQ K o (vs ++ zs) H Q
theorem maxI_foldD (n : Int) (r : List Int) : maxI n r = r.foldl max n := by
  induction r generalizing n with
  | nil => rfl
  | cons x r ih =>
    show maxI (if x > n then x else n) r = _
    rw [ih, List.foldl_cons]
    congr 1
    split <;> omega
theorem minI_foldD (n : Int) (r : List Int) : minI n r = r.foldl min n := by
  induction r generalizing n with
  | nil => rfl
  | cons x r ih =>
    show minI (if x < n then x else n) r = _
    rw [ih, List.foldl_cons]
    congr 1
    split <;> omega
theorem sc_ep {pins : List (Addr × Obj)} {s : Shared} {σ : L2.St} {H : Hp} {L : ASet} {d : D} {z : V} {u : Value} {rr : RR} {Q : VK} {h' : Heap} {tk : Nat} (I : Inv X pins σ H s) (ru : RelV z u) (rd : Rd1 X.K L H d z) (e : scD d = some rr) (q : ∀ v H2, OpPost X.K L H rr v H2 → Q v H2)
    (k : ∀ b o, s.heap.get? b = some o → h'.get? b = some o) : EP X pins σ Q u { s with heap := h', toks := tk } := by
  cases d with
  | int i =>
    cases e
    exact ⟨z, H, I.kept k, ru, q _ _ (rd1_opt rd)⟩
  | none =>
    cases e
    exact ⟨z, H, I.kept k, ru, q _ _ (rd1_opt rd)⟩
  | _ => cases e
theorem cr_maxd (hc : X.calm = true) (hu : X.A.units + 2 < cLine) : CallRK X (.builtin "max") [Str.ofString "default"] (mxQ X.K .maxd) := by
  intro pins s σ H xs zs us ws Q I rx rz h
  obtain ⟨l1, l2, L, ys, rr, rd, e, q⟩ := h
  obtain ⟨v, rfl⟩ := List.length_eq_one_iff.mp l1
  obtain ⟨z, rfl⟩ := List.length_eq_one_iff.mp l2
  obtain ⟨a, b, rfl, ra, rb⟩ := rd1s2 rd
  replace e : runMaxd a b = some rr := e
  cases a with
  | list ds =>
    obtain ⟨ns, h1, h2⟩ := obind (show (intsD ds).bind _ = some rr from e)
    obtain ⟨p, vs, rfl, st, ra2⟩ := ra.l
    have hv := ra2.intsD h1
    subst hv
    have hd := intsD_some h1
    obtain ⟨u, rfl, ru⟩ := rx.one
    obtain ⟨u2, rfl, ru2⟩ := rz.one
    cases ru
    obtain ⟨its, r, ht, hz⟩ := I.list st.sq
    have hi := r.ints
    refine PySem.W.max_list_default (xs := ns.map .int) (as := []) (I.ok.hd hc) ht.isList (ints_readAll _ hi) (alike_of_ints ns) (by rw [depth_of_ints]; omega) ?_ ?_
    · intro e0 h' tk k
      cases ns with
      | nil => exact sc_ep I ru2 rb h2 q k
      | cons _ _ => cases e0
    · intro y ys i v h' tk bs e0 hv rv k
      cases ns with
      | nil => cases e0
      | cons n rs =>
        cases e0
        rw [PySem.W.maxD_ints, ← maxI_foldD] at rv
        cases h2
        cases rv
        exact ⟨.int (maxI n rs), H, I.kept k, ⟨_, rfl⟩, q _ _ (rd1_opt rd_int)⟩
  | _ => cases e
theorem cr_mind (hc : X.calm = true) (hu : X.A.units + 2 < cLine) : CallRK X (.builtin "min") [Str.ofString "default"] (mxQ X.K .mind) := by
  intro pins s σ H xs zs us ws Q I rx rz h
  obtain ⟨l1, l2, L, ys, rr, rd, e, q⟩ := h
  obtain ⟨v, rfl⟩ := List.length_eq_one_iff.mp l1
  obtain ⟨z, rfl⟩ := List.length_eq_one_iff.mp l2
  obtain ⟨a, b, rfl, ra, rb⟩ := rd1s2 rd
  replace e : runMind a b = some rr := e
  cases a with
  | list ds =>
    obtain ⟨ns, h1, h2⟩ := obind (show (intsD ds).bind _ = some rr from e)
    obtain ⟨p, vs, rfl, st, ra2⟩ := ra.l
    have hv := ra2.intsD h1
    subst hv
    have hd := intsD_some h1
    obtain ⟨u, rfl, ru⟩ := rx.one
    obtain ⟨u2, rfl, ru2⟩ := rz.one
    cases ru
    obtain ⟨its, r, ht, hz⟩ := I.list st.sq
    have hi := r.ints
    refine PySem.W.min_list_default (xs := ns.map .int) (as := []) (I.ok.hd hc) ht.isList (ints_readAll _ hi) (alike_of_ints ns) (by rw [depth_of_ints]; omega) ?_ ?_
    · intro e0 h' tk k
      cases ns with
      | nil => exact sc_ep I ru2 rb h2 q k
      | cons _ _ => cases e0
    · intro y ys i v h' tk bs e0 hv rv k
      cases ns with
      | nil => cases e0
      | cons n rs =>
        cases e0
        rw [PySem.W.minD_ints, ← minI_foldD] at rv
        cases h2
        cases rv
        exact ⟨.int (minI n rs), H, I.kept k, ⟨_, rfl⟩, q _ _ (rd1_opt rd_int)⟩
  | _ => cases e
end
section
variable {X : Cx} {Γ : Gam} {G : Call} {m : Nat}
theorem cr_lcm : CallR X (.builtin "math.lcm") (rDs X.K .lcm) := by
  refine call2 (fun _ _ => rfl) (fun ys h => by match ys, h with | [], _ => rfl | [_], _ => rfl | [_, _], h => simp at h | _ :: _ :: _ :: _, _ => rfl) ?_
  intro pins s σ H us Q L i j I r e q
  simp only [Bool.and_eq_true, decide_eq_true_eq] at e
  cases r with
  | cons r1 rr =>
    cases rr with
    | cons r2 rr =>
      cases rr
      obtain ⟨t, rfl⟩ := r1
      obtain ⟨u, rfl⟩ := r2
      refine PySem.W.mc_lcm e.1 e.2 fun _ => ?_
      exact ⟨.int ((i.natAbs.lcm j.natAbs : Nat) : Int), H, I.kept (h' := s.heap) (t' := s.toks + 1) (fun _ _ e => e), ⟨_, rfl⟩, q _ _ (.inl ⟨rfl, rd_int⟩)⟩
theorem pe_callBG {id : String} {r : List V → Hp → VK → Prop} {x : Str} {e : Expr} {es : List Expr} {t : TA} {p pos : Pos} (hc : CallR X (.builtin id) r) (hg : Gl X x) (hm : X.mg x = some (.builtin id)) (ha : PA X (e :: es) t) (hdb : (x == ("__debug__" : Str)) = false)
    (he : starEach (e :: es) X.env = (false, eval e X.env) :: starEach es X.env) (hpl : (backTo pos (starEach es X.env)).any (·.1) = false) : PE X (.Call (.Name x p) (e :: es) [] pos) (tCB r t) := by
  refine ⟨fun pins s σ H Q I h => ?_⟩
  refine wpAny_Call_Name_kw (ld_glob I hg hm ?_ hdb)
  exact PyProof.Rows.callWith_builtin1 (thn (ha.run pos pins s σ H _ I h) fun us s1 ⟨vs, H1, I1, r1, q1⟩ => hc pins s1 σ H1 vs us Q I1 r1 q1) he hpl
theorem e_lcm (C : XOk Γ G m X) {n : Nat} (ih : IH Γ G X n) {x : Str} {p pos : Pos} {a b : Expr} {a' b' : Ex} (ok : okName x = true) (hg : Γ.gl x = true) (hl : Γ.lc = true) (hx : x = "lcm") (h1 : comp n Γ a = some a') (h2 : comp n Γ b = some b') :
    E3 X G (.Call (.Name x p) [a, b] [] pos) (.op .lcm [a', b']) := by
  subst hx
  refine .plain ?_ (fun _ => rfl) fun _ _ _ z => by cases z
  obtain ⟨o1, o2, o3⟩ := okName_ne ok
  have hes : mapO (comp n Γ) [a, b] = some [a', b'] := by unfold mapO; rw [h1]; unfold mapO; rw [h2]; rfl
  obtain ⟨b0, t, q1, q2, q3⟩ := mapO_cons hes
  cases q3
  exact PE.imp (pe_callBG cr_lcm (gl_of C hg) (C.lc hl) (comps_pa ih.pe hes) o1 (comp_star q1 [b] X.env) (mapO_plain q2)) fun σ H Q q => tCB_of q
theorem e_mxd (C : XOk Γ G m X) {n : Nat} (ih : IH Γ G X n) {x : Str} {p pos : Pos} {e kv : Expr} {k : Str} {kp : Pos} {o : Op} {e' d' : Ex} (ok : okName x = true) (hg : Γ.gl x = true) (hb : Γ.bs.contains x = true) (hk : k = "default") (ho : mxO x = some o) (h1 : comp n Γ e = some e') (h2 : comp n Γ kv = some d') :
    E3 X G (.Call (.Name x p) [e] [⟨some k, kv, kp⟩] pos) (.op o [e', d']) := by
  subst hk
  refine .plain ?_ (fun _ => rfl) fun _ _ _ z => by cases z
  obtain ⟨o1, o2, o3⟩ := okName_ne ok
  have hu := C.un
  have hes : mapO (comp n Γ) [e] = some [e'] := by unfold mapO; rw [h1]; rfl
  have hks : mapO (comp n Γ) (([⟨some "default", kv, kp⟩] : List Keyword).map (·.value)) = some [d'] := by show mapO (comp n Γ) [kv] = _; unfold mapO; rw [h2]; rfl
  have im : ∀ {σ : L2.St} {H : Hp} {Q : VK}, tD X.K G (.op o [e', d']) σ H Q → tCKw (mxQ X.K o) (chT X.K G [e']) (chT X.K G [d']) σ H Q := fun {σ H Q} q => by
    have q1 := chT_app (es := [e']) (ks := [d']) (tDs_ch (tCB_of q))
    exact chT.mono q1 fun vs H1 lv q2 => chT.mono q2 fun ws H2 lw q3 => ⟨lv, lw, q3⟩
  unfold mxO at ho
  split at ho
  · rename_i hx
    cases ho
    subst hx
    exact PE.imp (pe_callBK (cr_maxd C.calm (by omega)) (gl_of C hg) (C.bs _ hb) (by decide +kernel) (pa_ch ih hes) (pk_ch ih hks) (by decide) (by decide) (by rw [comp_star h1 [] X.env]; rfl) (by rw [comp_star h1 [] X.env]; rfl) rfl rfl rfl) fun σ H Q q => im q
  · split at ho
    · rename_i hx
      cases ho
      subst hx
      exact PE.imp (pe_callBK (cr_mind C.calm (by omega)) (gl_of C hg) (C.bs _ hb) (by decide +kernel) (pa_ch ih hes) (pk_ch ih hks) (by decide) (by decide) (by rw [comp_star h1 [] X.env]; rfl) (by rw [comp_star h1 [] X.env]; rfl) rfl rfl rfl) fun σ H Q q => im q
    · cases ho
end
end Vm
set_option maxRecDepth 100000
set_option maxHeartbeats 1000000
namespace Vm
open PySem PySem.Spec L2
section
variable {X : Cx} {Γ : Gam} {G : Call} {m : Nat}
theorem e_rev {n : Nat} (ih : IH Γ G X n) {a : Expr} {k : Nat} {p1 p2 p3 pos : Pos} {a' : Ex} (h1 : comp n Γ a = some a') : E3 X G (.Subscript a (.Slice none none (some (.UnaryOp .USub (.Constant (.int 1) k p1) p2)) p3) pos) (.op .rev [a']) := by
  refine .plain ?_ (fun _ => rfl) fun _ _ _ z => by cases z
  exact PE.imp (pe_revA (ih a a' h1).e) fun σ H Q q => tD_rev q
theorem e_call (C : XOk Γ G m X) {n : Nat} (ih : IH Γ G X n) {x : Str} {p pos : Pos} {es : List Expr} {ks : List Keyword} {ir : Ex} (h : comp (n + 1) Γ (.Call (.Name x p) es ks pos) = some ir) : E3 X G (.Call (.Name x p) es ks pos) ir := by
  unfold comp at h
  dsimp only at h
  split at h
  · rename_i hc
    obtain ⟨ok, hg⟩ := hc
    split at h
    · rename_i g ps hd
      obtain ⟨es', h1, h⟩ := obind h
      cases ks with
      | nil =>
        replace h : (if es.length = ps.length ∧ Γ.kwo.contains x = false then some (Ex.call g es') else (kwFind Γ.kws x es.length []).bind fun q => some (.callk g q.2 (es' ++ ([] ++ q.1.map .k)))) = some ir := h
        split at h
        · rename_i hl
          cases h
          exact e_def C ih ok hg hd h1 hl.1 hl.2
        · obtain ⟨q, h2, h⟩ := obind h
          cases h
          exact e_kw (ks := []) (ks' := []) C ih ok hg hd h2 h1 rfl
      | cons k ks =>
        obtain ⟨pm, h2, h⟩ := obind (show (kwFind Γ.kws x es.length (kwNames (k :: ks))).bind _ = some ir from h)
        obtain ⟨ks', h3, h⟩ := obind h
        cases h
        exact e_kw C ih ok hg hd h2 h1 h3
    · split at h
      · rename_i hb
        obtain ⟨hb, hk⟩ := hb
        cases ks with
        | cons _ _ => cases hk
        | nil =>
          split at h
          · rename_i hx
            subst hx
            match es, h with
            | [a, .Name t p2], h =>
              replace h : (if okName t = true ∧ Γ.gl t = true ∧ Γ.bs.contains t = true then (tyName t).bind fun t => (comp n Γ a).bind fun a => some (Ex.op (.isI t) [a]) else none) = some ir := h
              split at h
              · rename_i hc
                obtain ⟨T, h1, h⟩ := obind h
                obtain ⟨a', h2, h⟩ := obind h
                cases h
                exact e_isI C ih hg hb hc.1 hc.2.1 hc.2.2 h1 h2
              · cases h
            | [], h => cases h
            | [_], h => cases h
            | a :: b :: c :: r, h => cases b <;> exact nope h
            | [a, b], h =>
              cases b
              case Name t p2 =>
                replace h : (if okName t = true ∧ Γ.gl t = true ∧ Γ.bs.contains t = true then (tyName t).bind fun t => (comp n Γ a).bind fun a => some (Ex.op (.isI t) [a]) else none) = some ir := h
                split at h
                · rename_i hc
                  obtain ⟨T, h1, h⟩ := obind h
                  obtain ⟨a', h2, h⟩ := obind h
                  cases h
                  exact e_isI C ih hg hb hc.1 hc.2.1 hc.2.2 h1 h2
                · cases h
              all_goals exact nope h
          · obtain ⟨o, h1, h⟩ := obind h
            obtain ⟨es', h2, h⟩ := obind h
            cases h
            exact e_bi C ih ok hg hb h1 h2
      · match es, ks, h with
        | [e], [⟨some k, kv, kp⟩], h =>
          replace h : (if Γ.bs.contains x = true ∧ k = "default" then (mxO x).bind fun o => (comp n Γ e).bind fun e' => (comp n Γ kv).bind fun d' => some (Ex.op o [e', d']) else none) = some ir := h
          split at h
          · rename_i hc
            obtain ⟨o, h1, h⟩ := obind h
            obtain ⟨e', h2, h⟩ := obind h
            obtain ⟨d', h3, h⟩ := obind h
            cases h
            exact e_mxd C ih ok hg hc.1 hc.2 h1 h2 h3
          · cases h
        | [a, b], [], h =>
          replace h : (if Γ.lc = true ∧ x = "lcm" then (comp n Γ a).bind fun a' => (comp n Γ b).bind fun b' => some (Ex.op .lcm [a', b']) else none) = some ir := h
          split at h
          · rename_i hc
            obtain ⟨a', h1, h⟩ := obind h
            obtain ⟨b', h2, h⟩ := obind h
            cases h
            exact e_lcm C ih ok hg hc.1 hc.2 h1 h2
          · cases h
        | [], _, h => cases h
        | [_, _], _ :: _, h => cases h
        | _ :: _ :: _ :: _, _, h => cases h
        | [_], [], h => cases h
        | [_], [⟨none, _, _⟩], h => cases h
        | [_], ⟨none, _, _⟩ :: _ :: _, h => cases h
        | [_], ⟨some _, _, _⟩ :: _ :: _, h => cases h
  · cases h
theorem e_meth (C : XOk Γ G m X) {n : Nat} (ih : IH Γ G X n) {o : Expr} {nm : Str} {ap cp : Pos} {es : List Expr} {ks : List Keyword} {ir : Ex} (h : comp (n + 1) Γ (.Call (.Attribute o nm ap) es ks cp) = some ir) : E3 X G (.Call (.Attribute o nm ap) es ks cp) ir := by
  cases ks with
  | cons _ _ => exact nope h
  | nil =>
    unfold comp at h
    dsimp only at h
    split at h
    · rename_i hc
      obtain ⟨h1, h2, h3⟩ := hc
      split at h
      · rename_i mu hm
        obtain ⟨o', q1, h⟩ := obind h
        obtain ⟨es', q2, h⟩ := obind h
        cases h
        exact e_mu ih h1 h2 h3 hm q1 q2
      · split at h
        · rename_i hb
          obtain ⟨o', q1, h⟩ := obind h
          obtain ⟨es', q2, h⟩ := obind h
          cases h
          exact e_me C ih h1 h2 h3 hb q1 q2
        · cases h
    · cases h
end
theorem tD_dct0 {K : PySem.W.Frag} {G : Call} {σ : L2.St} {H : Hp} {Q : VK} (h : tD K G (.dct [] []) σ H Q) : tDNewK σ H Q := by
  obtain ⟨A, as, f, rv, f', R, he, hQ⟩ := h
  unfold evE at he
  cases he
  exact fun p hp => hQ _ _ (op_post (rr := .fr (.dct [])) R ⟨p, [], hp, rfl, rfl, rfl⟩)
/-- EVERY EXPRESSION -/
theorem exprs (G : Call) (m : Nat) : ∀ (n : Nat) (Γ : Gam) (X : Cx), XOk Γ G m X → IH Γ G X n
  | 0, _, _, _ => fun e ir h => by cases h
  | n + 1, Γ, X, C => by
    have ih := exprs G m n Γ X C
    intro e ir h
    cases e
    case Constant c k pos => exact e_const h
    case Name x pos => exact e_name C h
    case BinOp a op b pos => exact e_bin ih h
    case UnaryOp op a pos =>
      cases op
      case Not => exact e_not ih h
      case USub => exact e_neg ih h
      all_goals exact nope h
    case BoolOp op vs pos => exact e_bool ih h
    case IfExp c a b pos => exact e_ife ih h
    case Compare a ops bs pos =>
      match ops, bs, h with
      | [op], [b], h => exact e_cmp C ih h
      | [op, op'], [b, c], h => exact e_ch C ih h
      | [], _, h => exact nope h
      | [_], [], h => exact nope h
      | [_], _ :: _ :: _, h => exact nope h
      | [_, _], [], h => exact nope h
      | [_, _], [_], h => exact nope h
      | [_, _], _ :: _ :: _ :: _, h => exact nope h
      | _ :: _ :: _ :: _, _, h => exact nope h
    case Call fn es ks pos =>
      cases fn
      case Name x p => exact e_call C ih h
      case Attribute o nm ap => exact e_meth C ih h
      all_goals exact nope h
    case Subscript a i pos => exact e_sub ih (fun e' k p1 p2 p3 a' h1 => e_rev ih h1) h
    case Tuple es k pos =>
      replace h : (if es.any starE = true then (mapO (fun e => comp n Γ (unstar e)) es).map (Ex.tups (es.map starE)) else (mapO (comp n Γ) es).map Ex.tup) = some ir := h
      split at h
      · obtain ⟨es', h1, rfl⟩ := omap h
        exact e_tups ih h1
      · obtain ⟨es', h1, rfl⟩ := omap h
        exact e_tup ih h1
    case List es pos =>
      obtain ⟨es', h1, rfl⟩ := omap (show (mapO (comp n Γ) es).map Ex.lst = some ir from h)
      exact e_lst ih h1
    case Dict ks vs pos =>
      match ks, vs, h with
      | [], [], h =>
        cases h
        refine .plain ?_ (fun _ => rfl) fun _ _ _ z => by cases z
        exact PE.imp pe_dnewK fun σ H Q q => tD_dct0 q
      | [], _ :: _, h => exact nope h
      | _ :: _, _, h => exact nope h
    case ListComp elt gs scope pos =>
      match gs, h with
      | [], h => exact nope h
      | ⟨_, _, _, _⟩ :: ⟨_, _, _, _⟩ :: _ :: _, h => exact nope h
      | [⟨tg, iter, ifs, a⟩, ⟨tg1, iter1, ifs1, a1⟩], h =>
        by_cases ha : a = 0 ∧ a1 = 0
        · obtain ⟨rfl, rfl⟩ := ha
          exact e_lc2 C ih (fun scope s H c cl fp => exprs G m n _ _ (C.blk scope s H c cl fp)) h
        · have h : (if a = 0 ∧ a1 = 0 then _ else none) = some ir := h
          rw [if_neg ha] at h
          exact nope h
      | [⟨tg, iter, ifs, a⟩], h =>
        by_cases ha : a = 0
        · subst ha
          exact e_lc C ih (fun scope s H c cl fp => exprs G m n _ _ (C.blk scope s H c cl fp)) h
        · have h : (if a = 0 then _ else none) = some ir := h
          rw [if_neg ha] at h
          exact nope h
    all_goals exact nope h
end Vm
set_option maxRecDepth 100000
set_option maxHeartbeats 1000000
namespace Vm
open PySem PySem.Spec L2
/-! ### statements -/
/-- behind a statement -/
def SPost (K : PySem.W.Frag) (A : ASet) (as : List Addr) (f : F) (σ : L2.St) (H : Hp) (f' : F) (σ' : L2.St) (H' : Hp) : Prop := Rel K A as f' σ' H' ∧ Ext (Lv A f as σ) H (Lv A f' as σ') H' ∧ ∀ a, A a → H' a = H a
def RPost (K : PySem.W.Frag) (A : ASet) (as : List Addr) (f : F) (σ : L2.St) (H : Hp) (rr : RR) (f' : F) (v : V) (σ' : L2.St) (H' : Hp) : Prop :=
  ∃ A' : ASet, (∀ a, A a → A' a) ∧ Rel K A' as f' σ' H' ∧ RVR K (Lv A' f' as σ') A' as σ' H' rr.rv v ∧ (∀ o, rr.rv = .fr o → ∀ a, v = .ref a → ¬ A a) ∧ Ext (Lv A f as σ) H (Lv A' f' as σ') H' ∧ ∀ a, A a → H' a = H a
/-- where an end by return or by an exception goes -/
def endR (R : VK) (E : Str → L2.St → Hp → Prop) : RR → V → L2.St → Hp → Prop
  | .ex c, _, σ, H => E c σ H
  | .d _, v, _, H => R v H
  | .fr _, v, _, H => R v H
def OutOk (K : PySem.W.Frag) (A : ASet) (as : List Addr) (f : F) (σ : L2.St) (H : Hp) (D : Ends) (E : Str → L2.St → Hp → Prop) : Out → Prop
  | .nx f' => ∀ σ' H', SPost K A as f σ H f' σ' H' → D.nx σ' H'
  | .bk f' => ∀ σ' H', SPost K A as f σ H f' σ' H' → D.bk σ' H'
  | .ct f' => ∀ σ' H', SPost K A as f σ H f' σ' H' → D.ct σ' H'
  | .rt r f' => ∀ v σ' H', RPost K A as f σ H r f' v σ' H' → endR D.rt E r v σ' H'
  | .bad => False
def tX (K : PySem.W.Frag) (G : Call) (E : Str → L2.St → Hp → Prop) (s : Sm) : TS := fun D σ H => ∃ A as f, Rel K A as f σ H ∧ OutOk K A as f σ H D E (xS G s f)
def tXs (K : PySem.W.Frag) (G : Call) (E : Str → L2.St → Hp → Prop) (s : List Sm) : TS := fun D σ H => ∃ A as f, Rel K A as f σ H ∧ OutOk K A as f σ H D E (xSs G s f)
theorem PS.imp {X : Cx} {s : Stmt} {t t' : TS} (h : PS X s t) (i : ∀ D σ H, t' D σ H → t D σ H) : PS X s t' := ⟨fun pins s σ H D I q => h.run pins s σ H D I (i D σ H q)⟩
theorem PSs.imp {X : Cx} {s : List Stmt} {t t' : TS} (h : PSs X s t) (i : ∀ D σ H, t' D σ H → t D σ H) : PSs X s t' := ⟨fun pins s σ H D I q => h.run pins s σ H D I (i D σ H q)⟩
section
variable {K : PySem.W.Frag} {G : Call} {A : ASet} {as : List Addr} {f f' f2 : F} {σ σ' σ2 : L2.St} {H H' H2 : Hp} {D : Ends} {E : Str → L2.St → Hp → Prop}
theorem SPost.nil (R : Rel K A as f σ H) : SPost K A as f σ H f σ H := ⟨R, Ext.refl, fun _ _ => rfl⟩
theorem SPost.trans (a : SPost K A as f σ H f' σ' H') (b : SPost K A as f' σ' H' f2 σ2 H2) : SPost K A as f σ H f2 σ2 H2 := ⟨b.1, a.2.1.trans b.2.1, fun p z => (b.2.2 p z).trans (a.2.2 p z)⟩
theorem SPost.ret {rr : RR} {v : V} (a : SPost K A as f σ H f' σ' H') (b : RPost K A as f' σ' H' rr f2 v σ2 H2) : RPost K A as f σ H rr f2 v σ2 H2 := by
  obtain ⟨A', s, R, r, n, x, k⟩ := b
  exact ⟨A', s, R, r, n, a.2.1.trans x, fun p z => (k p z).trans (a.2.2 p z)⟩
theorem PostN.sp (a : PostN K A as f σ H f' H') : SPost K A as f σ H f' σ H' := a
theorem OutOk.pre {o : Out} (a : SPost K A as f σ H f' σ' H') (h : OutOk K A as f σ H D E o) : OutOk K A as f' σ' H' D E o := by
  cases o with
  | nx g => exact fun s' H2 p => h s' H2 (a.trans p)
  | bk g => exact fun s' H2 p => h s' H2 (a.trans p)
  | ct g => exact fun s' H2 p => h s' H2 (a.trans p)
  | rt r g => exact fun v s' H2 p => h v s' H2 (a.ret p)
  | bad => exact h
theorem Out.of_bad {α : Type} {g : α → Out} {x : Res α} (h : OutOk K A as f σ H D E (Out.of x g)) : ∃ a, x = .ok a ∧ OutOk K A as f σ H D E (g a) := by
  cases x with
  | ok a => exact ⟨a, rfl, h⟩
  | bad => exact h.elim
theorem ofOpt_out {α : Type} {g : α → Out} {x : Option α} (h : OutOk K A as f σ H D E (Out.of (ofOpt x) g)) : ∃ a, x = some a ∧ OutOk K A as f σ H D E (g a) := by
  obtain ⟨a, h1, h2⟩ := Out.of_bad h
  exact ⟨a, ofOpt_ok h1, h2⟩
theorem tXs_nil (h : tXs K G E [] D σ H) : tNext D σ H := by
  obtain ⟨A, as, f, R, h⟩ := h
  unfold xSs at h
  exact h σ H (.nil R)
theorem tXs_cons {s : Sm} {ss : List Sm} (h : tXs K G E (s :: ss) D σ H) : tSeq (tX K G E s) (tXs K G E ss) D σ H := by
  obtain ⟨A, as, f, R, h⟩ := h
  unfold xSs Out.seq at h
  refine ⟨A, as, f, R, ?_⟩
  cases q : xS G s f with
  | nx f1 => rw [q] at h; exact fun s' H1 p => ⟨A, as, f1, p.1, h.pre p⟩
  | bk f1 => rw [q] at h; exact h
  | ct f1 => rw [q] at h; exact h
  | rt r f1 => rw [q] at h; exact h
  | bad => rw [q] at h; exact h
theorem tX_ex {e : Ex} (h : tX K G E (.ex e) D σ H) : tDrop (tD K G e) D σ H := by
  obtain ⟨A, as, f, R, h⟩ := h
  unfold xS at h
  obtain ⟨⟨rv, f1⟩, e1, h⟩ := Out.of_bad h
  refine ⟨A, as, f, rv, f1, R, e1, fun v H1 p => h σ H1 ?_⟩
  obtain ⟨A', s, R', r, n, x, k⟩ := p
  exact ⟨R'.less s, x.trans (ext_less s), k⟩
theorem tX_retN (h : tX K G E .retN D σ H) : tRetN D σ H := by
  obtain ⟨A, as, f, R, h⟩ := h
  exact h .non σ H ⟨A, fun _ z => z, R, .inl (rd_none (K := K) (L := Lv A f as σ) (H := H)), (fun o e => by cases e), Ext.refl, fun _ _ => rfl⟩
theorem tX_pass (h : tX K G E .pass D σ H) : tNext D σ H := by
  obtain ⟨A, as, f, R, h⟩ := h
  exact h σ H (.nil R)
theorem tX_brk (h : tX K G E .brk D σ H) : tBreak D σ H := by
  obtain ⟨A, as, f, R, h⟩ := h
  exact h σ H (.nil R)
theorem tX_cont (h : tX K G E .cont D σ H) : tCont D σ H := by
  obtain ⟨A, as, f, R, h⟩ := h
  exact h σ H (.nil R)
theorem tX_never (h : tX K G E .never D σ H) : tNever D σ H := by
  obtain ⟨A, as, f, R, h⟩ := h
  exact h
theorem tX_if {c : Ex} {a b : List Sm} (h : tX K G E (.ifs c a b) D σ H) : tIfS (Vm.tB K G c) (tXs K G E a) (tXs K G E b) D σ H := by
  obtain ⟨A, as, f, R, h⟩ := h
  unfold xS at h
  obtain ⟨⟨t, f1⟩, e1, h⟩ := Out.of_bad h
  refine ⟨A, as, f, t, f1, R, e1, fun H1 p => ?_⟩
  cases t with
  | true => exact ⟨A, as, f1, p.1, OutOk.pre p h⟩
  | false => exact ⟨A, as, f1, p.1, OutOk.pre p h⟩
theorem retR_ne {rv : RV} {c : Str} (h : retR f rv = some (.ex c, f2)) : False := by
  cases rv with
  | d x => cases h
  | fr o => cases h
  | vr i =>
    unfold retR at h
    dsimp only at h
    split at h <;> cases h
  | ce n =>
    obtain ⟨_, _, z⟩ := omap (show (frz f (.ce n)).map (fun p => (RR.d p.1, p.2)) = some (.ex c, f2) from h)
    cases z
theorem tX_ret {e : Ex} (h : tX K G E (.ret e) D σ H) : tRet (tD K G e) D σ H := by
  obtain ⟨A, as, f, R, h⟩ := h
  unfold xS at h
  obtain ⟨⟨rv, f1⟩, e1, h⟩ := Out.of_bad h
  obtain ⟨⟨rr, f2⟩, e2, h⟩ := ofOpt_out h
  dsimp only at e2
  refine ⟨A, as, f, rv, f1, R, e1, fun v H1 p => (show RPost K A as f σ H rr f2 v σ H1 → D.rt v H1 from fun q => by
    have z := h v σ H1 q
    cases rr with
    | ex c => exact (retR_ne e2).elim
    | d _ => exact z
    | fr _ => exact z) ?_⟩
  have kept : ∀ {x : PyData}, frz f1 rv = some (x, f2) → RPost K A as f σ H (.d x) f2 v σ H1 := fun {x} q => by
    obtain ⟨pn, rd⟩ := p.kept q
    exact ⟨A, fun _ z => z, pn.1, .inl rd, (fun o e => by cases e), pn.2.1, pn.2.2⟩
  cases rv with
  | fr o =>
    cases e2
    obtain ⟨A', s, R', r, n, x, k⟩ := p
    exact ⟨A', s, R', r, n, x, k⟩
  | d y =>
    cases e2
    exact p
  | ce n =>
    obtain ⟨⟨z, g⟩, q1, q2⟩ := omap (show (frz f1 (.ce n)).map (fun p => (RR.d p.1, p.2)) = some (rr, f2) from e2)
    cases q2
    exact kept q1
  | vr i =>
    unfold retR at e2
    dsimp only at e2
    split at e2
    · rename_i o q
      cases e2
      obtain ⟨A', s, R', r, n, x, k⟩ := p
      obtain ⟨a, rfl, ha⟩ := r
      obtain ⟨b, h1, h2, h3⟩ := R'.so i o q
      rw [ha] at h1; cases h1
      obtain ⟨Rt, lt⟩ := R'.takeS q ha
      have xt : Ext (Lv A' f1 as σ) H1 (Lv (fun b => A' b ∨ b = a) { f1 with ρ := f1.ρ.set i .no } as σ) H1 := Ext.less fun b z => (lt b).mp z
      exact ⟨fun b => A' b ∨ b = a, fun b z => .inl (s b z), Rt, ⟨a, rfl, .inr rfl, h2.ext xt rfl⟩, (fun o _ b eb z => by cases eb; exact h3 (s a z)), x.trans xt, k⟩
    · rename_i y q
      cases e2
      obtain ⟨A', s, R', r, n, x, k⟩ := p
      obtain ⟨a, rfl, ha⟩ := r
      obtain ⟨w, g1, g2⟩ := R'.sd i y q
      rw [ha] at g1
      cases g1
      exact ⟨A', s, R', g2, (fun o e => by cases e), x, k⟩
    · cases e2
end
end Vm
set_option maxRecDepth 100000
set_option maxHeartbeats 1000000
namespace Vm
open PySem PySem.Spec L2
section
variable {K : PySem.W.Frag} {G : Call} {A : ASet} {as : List Addr} {f f1 f2 : F} {σ σ' σ2 : L2.St} {H H1 H2 : Hp} {D : Ends} {E : Str → L2.St → Hp → Prop}
theorem BndPost.sp {ρ' : List LV} {is : List Nat} (b : BndPost K A as f σ H ρ' is σ') : SPost K A as f σ H { f with ρ := ρ' } σ' H := ⟨b.1, b.2.1, fun _ _ => rfl⟩
theorem bindN_ok {i : Nat} {rv : RV} {v : V} (p : Post K A as f σ H rv f1 v H1) (e : bindN f1 i rv = some f2) : SPost K A as f σ H f2 (σ.set i (some v)) H1 := by
  have kept : ∀ {x : PyData} {g : F}, frz f1 rv = some (x, g) → SPost K A as f σ H { g with ρ := g.ρ.set i (.d x) } (σ.set i (some v)) H1 := fun {x g} q => by
    obtain ⟨pn, rd⟩ := p.kept q
    exact SPost.trans pn (bnd_name pn.1 rd).sp
  have oth : ∀ j, j ≠ i → (σ.set i (some v))[j]? = σ[j]? := fun j hj => List.getElem?_set_ne (Ne.symm hj)
  cases rv with
  | d y =>
    cases e
    obtain ⟨A', s, R', r, n, x, k⟩ := p
    have pn : PostN K A as f σ H f1 H1 := ⟨R'.less s, x.trans (ext_less s), k⟩
    exact SPost.trans pn (bnd_nameP pn.1 (RdP.ext (ext_less s) r)).sp
  | vr j =>
    obtain ⟨⟨z, g⟩, q1, q2⟩ := omap (show (frz f1 (.vr j)).map (fun p => ({ p.2 with ρ := p.2.ρ.set i (.d p.1) } : F)) = some f2 from e)
    cases q2
    exact kept q1
  | fr o =>
    cases e
    obtain ⟨A', s, R', ⟨q, rfl, ap, ob⟩, n, x, k⟩ := p
    have nq := n o rfl q rfl
    by_cases hi : i < f1.ρ.length
    · obtain ⟨R2, x2⟩ := R'.setSlot (A' := A) (σ' := σ.set i (some (.ref q))) (H' := H1) (l := .own o) hi oth (by simp) s (fun _ _ _ => rfl) (fun a o e _ => e) (fun a ha => R'.al a (s a ha))
        ⟨q, by rw [List.getElem?_set_self (by rw [R'.lenσ]; exact hi)], ob, nq, .inl ap⟩
      exact ⟨R2, x.trans x2, k⟩
    · have e1 : f1.ρ.set i (.own o) = f1.ρ := set_ge (by omega)
      have e2 : σ.set i (some (.ref q)) = σ := set_ge (by rw [R'.lenσ]; omega)
      rw [e1, e2]
      exact ⟨R'.less s, x.trans (ext_less s), k⟩
  | ce n =>
    cases e
    obtain ⟨A', s, R', ⟨q, rfl, ap⟩, _, x, k⟩ := p
    by_cases hi : i < f1.ρ.length
    · obtain ⟨R2, x2⟩ := R'.setSlot (A' := A) (σ' := σ.set i (some (.ref q))) (H' := H1) (l := .c n) hi oth (by simp) s (fun _ _ _ => rfl) (fun a o e _ => e) (fun a ha => R'.al a (s a ha))
        ⟨q, ap, by rw [List.getElem?_set_self (by rw [R'.lenσ]; exact hi)]⟩
      exact ⟨R2, x.trans x2, k⟩
    · have e1 : f1.ρ.set i (.c n) = f1.ρ := set_ge (by omega)
      have e2 : σ.set i (some (.ref q)) = σ := set_ge (by rw [R'.lenσ]; omega)
      rw [e1, e2]
      exact ⟨R'.less s, x.trans (ext_less s), k⟩
theorem tX_asg {i : Nat} {e : Ex} (h : tX K G E (.asg (.name i) e) D σ H) : tAsg (tD K G e) (gName i) D σ H := by
  obtain ⟨A, as, f, R, h⟩ := h
  unfold xS at h
  obtain ⟨⟨rv, f1⟩, e1, h⟩ := Out.of_bad h
  obtain ⟨f2, e2, h⟩ := ofOpt_out h
  exact ⟨A, as, f, rv, f1, R, e1, fun v H1 p => h _ _ (bindN_ok p e2)⟩
theorem tX_asgT {ts : List Tg} {e : Ex} (h : tX K G E (.asg (.tup ts) e) D σ H) : tAsg (tD K G e) (tG K (.tup ts)) D σ H := by
  obtain ⟨A, as, f, R, h⟩ := h
  unfold xS at h
  obtain ⟨⟨rv, f1⟩, e1, h⟩ := Out.of_bad h
  obtain ⟨⟨d, f2⟩, e2, h⟩ := ofOpt_out h
  obtain ⟨ρ1, e3, h⟩ := ofOpt_out h
  refine ⟨A, as, f, rv, f1, R, e1, fun v H1 p => ?_⟩
  obtain ⟨pn, rd⟩ := p.kept e2
  exact ⟨A, as, f2, d, ρ1, pn.1, rd, e3, fun σ' bp => h _ _ (SPost.trans pn bp.sp)⟩
/-! ### loops -/
theorem tX_for {t : Tg} {it : It} {b : List Sm} (h : tX K G E (.for t it b) D σ H) : tFor (tI K G it) (tG K t) (tXs K G E b) D σ H := by
  obtain ⟨A, as, f, R, h⟩ := h
  unfold xS at h
  obtain ⟨⟨ds, f1⟩, e1, h⟩ := Out.of_bad h
  refine ⟨A, as, f, ds, f1, R, e1, fun J H1 pn io => ?_⟩
  let P : Nat → L2.St → Hp → Prop := fun i σ2 H2 => ∃ fi, SPost K A as f1 σ H1 fi σ2 H2 ∧ OutOk K A as fi σ2 H2 D E (forLoop (xSs G b) t (ds.drop i) fi)
  refine ⟨fun i m σ2 H2 => m = ds.length - i ∧ i ≤ ds.length ∧ P i σ2 H2, ⟨_, rfl, Nat.zero_le _, f1, .nil pn.1, h.pre pn⟩, ?_⟩
  rintro i m σ2 H2 ⟨rfl, hi, fi, sp, hl⟩
  have io' : ItOk K (Lv A fi as σ2) H2 J ds := io.ext sp.2.1
  by_cases hlt : i < ds.length
  · have hd : ds[i]? = some ds[i] := by simp [hlt]
    have hdrop : ds.drop i = ds[i] :: ds.drop (i + 1) := List.drop_eq_getElem_cons hlt
    rw [hdrop] at hl
    unfold forLoop at hl
    obtain ⟨go, yld⟩ := (io' _ _ Ext.refl).2 i _ hd
    refine .inr ⟨go, P (i + 1), fun σ' H' p => ⟨ds.length - (i + 1), by omega, rfl, hlt, p⟩, fun x H3 hy => ?_⟩
    have py := op_post sp.1 (yld x H3 hy).1
    obtain ⟨pny, rdy⟩ := py.kept (y := ds[i]) (f'' := fi) (congrArg (fun z => some (z, fi)) (yld x H3 hy).2)
    cases hb : bindT t ds[i] fi.ρ with
    | none => rw [hb] at hl; exact hl.elim
    | some ρ1 =>
      rw [hb] at hl
      dsimp only at hl
      refine ⟨A, as, fi, _, ρ1, pny.1, rdy, hb, fun σ3 bp => ?_⟩
      have s3 : SPost K A as fi σ2 H2 { fi with ρ := ρ1 } σ3 H3 := SPost.trans pny bp.sp
      refine ⟨A, as, _, bp.1, ?_⟩
      have nx : ∀ {g : F} {o : Out}, OutOk K A as fi σ2 H2 D E (forLoop (xSs G b) t (ds.drop (i + 1)) g) → ∀ σ4 H4, SPost K A as { fi with ρ := ρ1 } σ3 H3 g σ4 H4 → P (i + 1) σ4 H4 := fun {g o} hl σ4 H4 p4 =>
        ⟨g, (sp.trans s3).trans p4, hl.pre (s3.trans p4)⟩
      cases q : xSs G b { fi with ρ := ρ1 } with
      | nx g => rw [q] at hl; exact fun σ4 H4 p4 => nx (o := .bad) hl σ4 H4 p4
      | ct g => rw [q] at hl; exact fun σ4 H4 p4 => nx (o := .bad) hl σ4 H4 p4
      | bk g => rw [q] at hl; exact fun σ4 H4 p4 => hl σ4 H4 (s3.trans p4)
      | rt r g => rw [q] at hl; exact fun v σ4 H4 p4 => hl v σ4 H4 (s3.ret p4)
      | bad => rw [q] at hl; exact hl.elim
  · have hn : i = ds.length := by omega
    subst hn
    rw [List.drop_length] at hl
    unfold forLoop at hl
    exact .inl ⟨(io' _ _ Ext.refl).1, hl σ2 H2 (.nil sp.1)⟩
theorem tX_whl {c : Ex} {b : List Sm} (h : tX K G E (.whl c b) D σ H) : tWhile (Vm.tB K G c) (tXs K G E b) D σ H := by
  obtain ⟨A, as, f, R, h⟩ := h
  unfold xS at h
  generalize fuel = n at h
  refine ⟨fun m σ2 H2 => ∃ fi, Rel K A as fi σ2 H2 ∧ SPost K A as f σ H fi σ2 H2 ∧ OutOk K A as fi σ2 H2 D E (whlLoop (evC G c) (xSs G b) m fi), ⟨n, f, R, .nil R, h⟩, ?_⟩
  rintro m σ2 H2 ⟨fi, Ri, sp, hl⟩
  cases m with
  | zero => exact hl.elim
  | succ m =>
    unfold whlLoop at hl
    obtain ⟨⟨t, g⟩, e1, hl⟩ := Out.of_bad hl
    refine ⟨A, as, fi, t, g, Ri, e1, fun H3 p3 => ?_⟩
    have s3 : SPost K A as fi σ2 H2 g σ2 H3 := p3
    cases t with
    | false => exact hl σ2 H3 s3
    | true =>
      replace hl : OutOk K A as fi σ2 H2 D E (match xSs G b g with | .nx f2 => whlLoop (evC G c) (xSs G b) m f2 | .ct f2 => whlLoop (evC G c) (xSs G b) m f2 | .bk f2 => .nx f2 | .rt r f2 => .rt r f2 | .bad => .bad) := hl
      show (if true = true then _ else _)
      rw [if_pos rfl]
      refine ⟨fun σ4 H4 => ∃ g2, Rel K A as g2 σ4 H4 ∧ SPost K A as f σ H g2 σ4 H4 ∧ OutOk K A as g2 σ4 H4 D E (whlLoop (evC G c) (xSs G b) m g2), fun σ' H' p => ⟨m, Nat.lt_succ_self _, p⟩, A, as, g, p3.1, ?_⟩
      have nx : ∀ {g2 : F}, OutOk K A as fi σ2 H2 D E (whlLoop (evC G c) (xSs G b) m g2) → ∀ σ4 H4, SPost K A as g σ2 H3 g2 σ4 H4 → ∃ g2, Rel K A as g2 σ4 H4 ∧ SPost K A as f σ H g2 σ4 H4 ∧ OutOk K A as g2 σ4 H4 D E (whlLoop (evC G c) (xSs G b) m g2) := fun {g2} hl σ4 H4 p4 =>
        ⟨g2, p4.1, (sp.trans s3).trans p4, hl.pre (s3.trans p4)⟩
      cases q : xSs G b g with
      | nx g2 => rw [q] at hl; exact fun σ4 H4 p4 => nx hl σ4 H4 p4
      | ct g2 => rw [q] at hl; exact fun σ4 H4 p4 => nx hl σ4 H4 p4
      | bk g2 => rw [q] at hl; exact fun σ4 H4 p4 => hl σ4 H4 (s3.trans p4)
      | rt r g2 => rw [q] at hl; exact fun v σ4 H4 p4 => hl v σ4 H4 (s3.ret p4)
      | bad => rw [q] at hl; exact hl.elim
end
end Vm
set_option maxRecDepth 100000
set_option maxHeartbeats 1000000
namespace Vm
open PySem PySem.Spec L2
section
variable {K : PySem.W.Frag} {G : Call} {σ : L2.St} {H : Hp} {D : Ends} {E : Str → L2.St → Hp → Prop}
theorem tX_fork {t : Tg} {j : Nat} {b : List Sm} (h : tX K G E (.fork t j b) D σ H) : tFor (iR K G j) (tG K t) (tXs K G E b) D σ H := by
  obtain ⟨A, as, f, R, h⟩ := h
  unfold xS at h
  cases hdat : isDat f j with
  | some x =>
    rw [hdat] at h
    dsimp only at h
    have hv : evE G (.v j) f = .ok (.d x, f) := by
      unfold isDat at hdat
      split at hdat
      · rename_i y q
        cases hdat
        unfold evE
        rw [q]
      · cases hdat
    have ei : evI G (.seq (.v j)) f = (ofOpt (itemsD (norm x))).bind fun l => .ok (l, f) := by
      unfold evI
      rw [hv]
      rfl
    have h2 : tX K G E (.for t (.seq (.v j)) b) D σ H := by
      refine ⟨A, as, f, R, ?_⟩
      unfold xS
      rw [ei]
      cases hi : itemsD (norm x) with
      | none => rw [hi] at h; exact h
      | some l => rw [hi] at h; exact h
    exact Or.inr (tX_for h2)
  | none =>
  rw [hdat] at h
  refine Or.inl ?_
  obtain ⟨n, e0, h⟩ := ofOpt_out h
  obtain ⟨ds, e1, h⟩ := ofOpt_out h
  refine ⟨A, as, f, n, ds, R, e0, e1, fun a H1 pn ha => ?_⟩
  let P : Nat → L2.St → Hp → Prop := fun i σ2 H2 => ∃ fi, SPost K A as f σ H1 fi σ2 H2 ∧ OutOk K A as fi σ2 H2 D E (forLoopK n ds (xSs G b) t (ds.drop i) fi)
  refine ⟨fun i m σ2 H2 => m = ds.length - i ∧ i ≤ ds.length ∧ P i σ2 H2, ⟨_, rfl, Nat.zero_le _, f, .nil pn.1, h.pre pn⟩, ?_⟩
  rintro i m σ2 H2 ⟨rfl, hi, fi, sp, hl⟩
  by_cases hlt : i < ds.length
  · have hd : ds[i]? = some ds[i] := by simp [hlt]
    have hdrop : ds.drop i = ds[i] :: ds.drop (i + 1) := List.drop_eq_getElem_cons hlt
    rw [hdrop] at hl
    unfold forLoopK at hl
    by_cases hk : keepS n ds fi = true
    case neg => rw [if_neg hk] at hl; exact hl.elim
    rw [if_pos hk] at hl
    obtain ⟨go, yld⟩ := (keepS_it sp.1 ha hk).2 i _ hd
    refine .inr ⟨go, P (i + 1), fun σ' H' p => ⟨ds.length - (i + 1), by omega, rfl, hlt, p⟩, fun x H3 hy => ?_⟩
    have py := op_post sp.1 (yld x H3 hy).1
    obtain ⟨pny, rdy⟩ := py.kept (y := ds[i]) (f'' := fi) (congrArg (fun z => some (z, fi)) (yld x H3 hy).2)
    cases hb : bindT t ds[i] fi.ρ with
    | none => rw [hb] at hl; exact hl.elim
    | some ρ1 =>
      rw [hb] at hl
      dsimp only at hl
      refine ⟨A, as, fi, _, ρ1, pny.1, rdy, hb, fun σ3 bp => ?_⟩
      have s3 : SPost K A as fi σ2 H2 { fi with ρ := ρ1 } σ3 H3 := SPost.trans pny bp.sp
      refine ⟨A, as, _, bp.1, ?_⟩
      have nx : ∀ {g : F} {o : Out}, OutOk K A as fi σ2 H2 D E (forLoopK n ds (xSs G b) t (ds.drop (i + 1)) g) → ∀ σ4 H4, SPost K A as { fi with ρ := ρ1 } σ3 H3 g σ4 H4 → P (i + 1) σ4 H4 := fun {g o} hl σ4 H4 p4 =>
        ⟨g, (sp.trans s3).trans p4, hl.pre (s3.trans p4)⟩
      cases q : xSs G b { fi with ρ := ρ1 } with
      | nx g => rw [q] at hl; exact fun σ4 H4 p4 => nx (o := .bad) hl σ4 H4 p4
      | ct g => rw [q] at hl; exact fun σ4 H4 p4 => nx (o := .bad) hl σ4 H4 p4
      | bk g => rw [q] at hl; exact fun σ4 H4 p4 => hl σ4 H4 (s3.trans p4)
      | rt r g => rw [q] at hl; exact fun v σ4 H4 p4 => hl v σ4 H4 (s3.ret p4)
      | bad => rw [q] at hl; exact hl.elim
  · have hn : i = ds.length := by omega
    subst hn
    rw [List.drop_length] at hl
    unfold forLoopK at hl
    by_cases hk : keepS n ds fi = true
    case neg => rw [if_neg hk] at hl; exact hl.elim
    rw [if_pos hk] at hl
    exact .inl ⟨(keepS_it sp.1 ha hk).1, hl σ2 H2 (.nil sp.1)⟩
end
end Vm
set_option maxRecDepth 100000
set_option maxHeartbeats 1000000
namespace Vm
open PySem PySem.Spec L2
section
variable {K : PySem.W.Frag} {G : Call} {A : ASet} {as : List Addr} {f f1 f2 f3 : F} {σ σ' σ2 : L2.St} {H H1 H2 : Hp} {D : Ends} {E : Str → L2.St → Hp → Prop}
def rSetA : TSet := fun o i v H Q => rSetL o i v H Q ∨ rSetD o i v H Q
theorem set_any {X : Cx} (hu : X.A.units + 1 < cLine) : PSet X rSetA := by
  intro pins s σ H o i v ov iv u Q I ro ri rv h
  rcases h with h | h
  · exact set_list pins s σ H o i v ov iv u Q I ro ri rv h
  · exact set_dict hu pins s σ H o i v ov iv u Q I ro ri rv h
theorem own_at {r1 : RV} {x : V} {l : Loc} {o : Ob} {A1 : ASet} (R : Rel K A1 as f3 σ H) (q1 : RVR K (Lv A1 f1 as σ) A1 as σ H1 r1 x) (e4 : ownAt f3 r1 = some (l, o)) : ∃ p, x = .ref p ∧ LocAt f3 as σ l p ∧ ObR K (Lv A1 f3 as σ) H p o := by
  cases r1 with
  | d _ => cases e4
  | fr _ => cases e4
  | vr i =>
    obtain ⟨p, h1, h2⟩ := q1
    unfold ownAt at e4
    dsimp only at e4
    split at e4
    · rename_i o0 q
      cases e4
      obtain ⟨b, g1, g2, _⟩ := R.so i o q
      rw [h2] at g1; cases g1
      exact ⟨p, h1, ⟨o, q, h2⟩, g2⟩
    · cases e4
  | ce n =>
    obtain ⟨p, h1, h2⟩ := q1
    unfold ownAt at e4
    dsimp only at e4
    split at e4
    · rename_i o0 q
      cases e4
      exact ⟨p, h1, ⟨o, q, h2⟩, (R.co n o p q h2).1⟩
    · cases e4
theorem kD_inj {a b : Key} (h : kD a = kD b) : a = b := by
  have := congrArg keyD h
  rw [keyD_kD, keyD_kD] at this
  exact Option.some.inj this
theorem RdA.set1 {L : ASet} : ∀ {ds : List PyData} {vs : List V} {j : Nat} {y : PyData} {v : V}, RdA K L H ds vs → Rd K L H y v → RdA K L H (ds.set j y) (vs.set j v)
  | [], _, j, y, v, h, _ => by obtain rfl : _ = [] := h; rfl
  | d :: ds, _, 0, y, v, ⟨w, r, e, h1, h2⟩, h => by subst e; exact ⟨v, r, rfl, h, h2⟩
  | d :: ds, _, j + 1, y, v, ⟨w, r, e, h1, h2⟩, h => by subst e; exact ⟨w, r.set j v, rfl, h1, RdA.set1 h2 h⟩
theorem rdk_any {L : ASet} {k : Key} : ∀ {kvs : List (Key × PyData)} {hv : List (Key × V)}, RdK K L H (kvD kvs) hv → (kvs.any fun kv => decide (kv.1 = k)) = (hv.any fun kv => decide (kv.1 = k))
  | [], _, h => by obtain rfl : _ = [] := h; rfl
  | (a, d) :: r, _, ⟨kk, v, r', e, e1, h1, h2⟩ => by
    subst e
    have := kD_inj e1
    subst this
    rw [List.any_cons, List.any_cons, rdk_any (kvs := r) h2]
theorem rdk_map {L : ASet} {k : Key} {y : PyData} {v : V} (hy : Rd K L H y v) : ∀ {kvs : List (Key × PyData)} {hv : List (Key × V)}, RdK K L H (kvD kvs) hv → RdK K L H (kvD (kvs.map fun kv => if kv.1 = k then (kv.1, y) else kv)) (hv.map fun kv => if kv.1 = k then (kv.1, v) else kv)
  | [], _, h => by obtain rfl : _ = [] := h; rfl
  | (a, d) :: r, _, ⟨kk, w, r', e, e1, h1, h2⟩ => by
    subst e
    have := kD_inj e1
    subst this
    rw [List.map_cons, List.map_cons]
    by_cases q : kk = k
    · simp only [q, if_true]
      exact ⟨k, v, _, rfl, rfl, hy, rdk_map hy h2⟩
    · simp only [q, if_false]
      exact ⟨kk, w, _, rfl, rfl, h1, rdk_map hy h2⟩
theorem rdk_app {L : ASet} {k : Key} {y : PyData} {v : V} (hy : Rd K L H y v) : ∀ {kvs : List (Key × PyData)} {hv : List (Key × V)}, RdK K L H (kvD kvs) hv → RdK K L H (kvD (kvs ++ [(k, y)])) (hv ++ [(k, v)])
  | [], _, h => by obtain rfl : _ = [] := h; exact ⟨k, v, [], rfl, rfl, hy, rfl⟩
  | (a, d) :: r, _, ⟨kk, w, r', e, e1, h1, h2⟩ => by
    subst e
    exact ⟨kk, w, r' ++ [(k, v)], rfl, e1, h1, rdk_app hy h2⟩
theorem rdk_put {L : ASet} {k : Key} {y : PyData} {v : V} (hy : Rd K L H y v) {kvs : List (Key × PyData)} {hv : List (Key × V)} (h : RdK K L H (kvD kvs) hv) : RdK K L H (kvD (putD kvs k y)) (putK hv k v) := by
  unfold putD putK
  rw [rdk_any h]
  split
  · exact rdk_map hy h
  · exact rdk_app hy h
theorem rdk_len {L : ASet} : ∀ {kvs : List (Key × PyData)} {hv : List (Key × V)}, RdK K L H (kvD kvs) hv → hv.length = kvs.length
  | [], _, h => by obtain rfl : _ = [] := h; rfl
  | (a, d) :: r, _, ⟨kk, w, r', e, e1, h1, h2⟩ => by subst e; exact congrArg (· + 1) (rdk_len h2)
/-- a[i] = .., the value at hand -/
theorem sub_go {a i : Ex} {ra ri : RV} {k y : PyData} {v : V} {l : Loc} {o o' : Ob} {Q : L2.St → Hp → Prop} (R1 : Rel K A as f1 σ H1) (rd : Rd K (Lv A f1 as σ) H1 y v) (ea : evE G a f1 = .ok (ra, f2)) (ei : evE G i f2 = .ok (ri, f3))
    (ek : view f3 ri = some k) (eo : ownAt f3 ra = some (l, o)) (ep : putO o k y = some o') (hQ : ∀ H4, SPost K A as f1 σ H1 (put1 f3 l (.own o')) σ H4 → Q σ H4) : gSub (tD K G a) (tD K G i) rSetA v σ H1 Q := by
  refine ⟨A, as, f1, ra, f2, R1, ea, fun x H2 p2 => ?_⟩
  obtain ⟨A2, s2, R2, q2, n2, x2, k2⟩ := id p2
  refine ⟨A2, as, f2, ri, f3, R2, ei, fun z H3 p3 => ?_⟩
  obtain ⟨pn, rk⟩ := p3.seen ek
  obtain ⟨p, rfl, hl, ob⟩ := own_at pn.1 q2 eo
  have rd3 : Rd K (Lv A2 f3 as σ) H3 y v := rd.ext (x2.trans pn.2.1)
  have lp : Lv A2 f3 as σ p := .inr hl.own
  have fin : ∀ u, ObR K (Lv A2 f3 as σ) (upd H3 p u) p o' → Q σ (upd H3 p u) := fun u h => by
    obtain ⟨R4, x4, k4⟩ := pn.1.mut hl h
    exact hQ _ ⟨R4.less s2, ((x2.trans pn.2.1).trans x4).trans (ext_less s2), fun a ha => (k4 a (s2 a ha)).trans ((pn.2.2 a (s2 a ha)).trans (k2 a ha))⟩
  cases o with
  | lst xs =>
    cases k with
    | int i =>
      obtain ⟨j, h1, rfl⟩ := omap (show (ixN xs.length i).map _ = some o' from ep)
      obtain ⟨ws, g1, g2⟩ := ob
      exact .inl ⟨p, ws, i, j, rfl, rk.i, g1, by rw [g2.len]; exact h1, fin _ ⟨_, upd_same, (g2.set1 rd3).ext (ext_upd lp)⟩⟩
    | _ => cases ep
  | dct kvs =>
    obtain ⟨kk, h1, h2⟩ := obind (show (keyD k).bind _ = some o' from ep)
    split at h2
    · rename_i hz
      cases h2
      obtain ⟨hv, g1, g2⟩ := ob
      exact .inr ⟨p, _, rfl, .inl ⟨hv, kk, g1, keyV_of rk h1, by rw [sizeLine_eq, rdk_len g2]; exact hz, rfl⟩, fin _ ⟨_, upd_same, RdK.ext (ext_upd lp) (rdk_put rd3 g2)⟩⟩
    · cases h2
theorem tX_sub {a i e : Ex} (h : tX K G E (.sub a i e) D σ H) : tAsg (tD K G e) (gSub (tD K G a) (tD K G i) rSetA) D σ H := by
  obtain ⟨A, as, f, R, h⟩ := h
  unfold xS at h
  obtain ⟨⟨rv, f1⟩, e1, h⟩ := Out.of_bad h
  obtain ⟨⟨y, f2⟩, e2, h⟩ := ofOpt_out h
  obtain ⟨⟨ra, f3⟩, e3, h⟩ := Out.of_bad h
  obtain ⟨⟨ri, f4⟩, e4, h⟩ := Out.of_bad h
  obtain ⟨k, e5, h⟩ := ofOpt_out h
  obtain ⟨⟨l, o⟩, e6, h⟩ := ofOpt_out h
  obtain ⟨o', e7, h⟩ := ofOpt_out h
  refine ⟨A, as, f, rv, f1, R, e1, fun v H1 p => ?_⟩
  obtain ⟨pn, rd⟩ := p.kept e2
  exact sub_go pn.1 rd e3 e4 e5 e6 e7 fun H4 sp => h _ _ (SPost.trans pn sp)
theorem tX_tsub {a i e : Ex} {j : Nat} (h : tX K G E (.tsub a i j e) D σ H) : tAsg (tD K G e) (gTup K 2 (gCons (gSub (tD K G a) (tD K G i) rSetA) (gCons (gName j) gNil))) D σ H := by
  obtain ⟨A, as, f, R, h⟩ := h
  unfold xS at h
  obtain ⟨⟨rv, f1⟩, e1, h⟩ := Out.of_bad h
  obtain ⟨⟨y, f2⟩, e2, h⟩ := ofOpt_out h
  dsimp only at h
  split at h
  · rename_i y1 y2
    obtain ⟨⟨ra, f3⟩, e3, h⟩ := Out.of_bad h
    obtain ⟨⟨ri, f4⟩, e4, h⟩ := Out.of_bad h
    obtain ⟨k, e5, h⟩ := ofOpt_out h
    obtain ⟨⟨l, o⟩, e6, h⟩ := ofOpt_out h
    obtain ⟨o', e7, h⟩ := ofOpt_out h
    refine ⟨A, as, f, rv, f1, R, e1, fun v H1 p => ?_⟩
    obtain ⟨pn, rd⟩ := p.kept e2
    obtain ⟨b, vs, rfl, sq, ra1⟩ := rd.tupS
    obtain ⟨v1, r1, rfl, d1, v2, r2, rfl, d2, d3⟩ := ra1
    obtain rfl : r2 = [] := d3
    refine ⟨b, _, rfl, sq, rfl, v1, _, rfl, sub_go pn.1 d1 e3 e4 e5 e6 e7 fun H4 sp => ?_⟩
    refine ⟨v2, [], rfl, rfl, h _ _ ((SPost.trans pn sp).trans (bnd_name sp.1 (d2.ext sp.2.1)).sp)⟩
  · exact h.elim
theorem tX_aug {i : Nat} {o : Op} {e : Ex} (h : tX K G E (.aug i o e) D σ H) : tAug i (tD K G e) (fun x y H Q => ∃ a b c, x = .int a ∧ y = .int b ∧ augI o a (.int b) = some c ∧ Q (.int c) H) D σ H := by
  obtain ⟨A, as, f, R, h⟩ := h
  unfold xS at h
  split at h
  · rename_i a q
    obtain ⟨⟨rv, f1⟩, e1, h⟩ := Out.of_bad h
    obtain ⟨z, e2, h⟩ := ofOpt_out h
    obtain ⟨y, e3, e4⟩ := obind e2
    obtain ⟨v, h1, h2⟩ := R.sd i _ q
    refine ⟨v, h1, A, as, f, rv, f1, R, e1, fun w H1 p => ?_⟩
    obtain ⟨pn, rd⟩ := p.seen e3
    have hv := rdi_of (RdP.rd h2)
    cases y with
    | int b =>
      exact ⟨a, b, z, hv, rd.i, e4, h _ _ (SPost.trans pn (bnd_name pn.1 rd_int).sp)⟩
    | _ => cases o <;> cases e4
  · exact h.elim
end
end Vm
set_option maxRecDepth 100000
set_option maxHeartbeats 1000000
namespace Vm
open PySem PySem.Spec L2
section
variable {K : PySem.W.Frag} {G : Call} {A A' : ASet} {as : List Addr} {f f' f0 f1 f2 f3 : F} {σ σ' σ0 σ2 : L2.St} {H H0 H1 H2 : Hp} {D : Ends} {E : Str → L2.St → Hp → Prop}
theorem prep_ok : ∀ {rvs : List RV} {vs : List V} {rvs' : List RV} {f f' : F}, Rel K A' as f σ H → RVRs K (Lv A' f as σ) A' as σ H rvs vs → prepN f rvs = some (rvs', f') →
    Rel K A' as f' σ H ∧ RVRs K (Lv A' f' as σ) A' as σ H rvs' vs ∧ frs rvs' vs = frs rvs vs ∧ Ext (Lv A' f as σ) H (Lv A' f' as σ) H ∧ ∀ r ∈ rvs', ∀ i, r ≠ .vr i
  | [], _, _, _, _, R, h, e => by cases e; exact ⟨R, h, rfl, Ext.refl, fun r hr => by simp at hr⟩
  | r :: rs, _, rvs', f, f', R, ⟨v, ws, e0, h1, h2⟩, e => by
    subst e0
    have other : (∀ i, r ≠ .vr i) → (prepN f rs).bind (fun q => some (r :: q.1, q.2)) = some (rvs', f') → Rel K A' as f' σ H ∧ RVRs K (Lv A' f' as σ) A' as σ H rvs' (v :: ws) ∧ frs rvs' (v :: ws) = frs (r :: rs) (v :: ws) ∧ Ext (Lv A' f as σ) H (Lv A' f' as σ) H ∧ ∀ r ∈ rvs', ∀ i, r ≠ .vr i := fun hn e => by
      obtain ⟨⟨rs', g⟩, e1, e2⟩ := obind e
      cases e2
      obtain ⟨q1, q2, q3, q4, q5⟩ := prep_ok R h2 e1
      refine ⟨q1, ⟨v, ws, rfl, h1.ext q4 (fun _ _ => rfl) fun _ z => z, q2⟩, ?_, q4, fun x hx => ?_⟩
      · cases r <;> first | exact q3 | exact congrArg (v :: ·) q3
      · rcases List.mem_cons.mp hx with z | z
        · rw [z]; exact hn
        · exact q5 x z
    cases r with
    | vr i =>
      obtain ⟨⟨x, g⟩, e1, e2⟩ := obind (show (frz f (.vr i)).bind _ = some (rvs', f') from e)
      obtain ⟨⟨rs', g'⟩, e3, e4⟩ := obind e2
      cases e4
      obtain ⟨R1, rd, x1⟩ := frz_ok R h1 e1
      have h2' : RVRs K (Lv A' g as σ) A' as σ H rs ws := h2.ext x1 (fun _ _ => rfl) fun _ z => z
      obtain ⟨q1, q2, q3, q4, q5⟩ := prep_ok (f := g) R1 h2' e3
      refine ⟨q1, ⟨v, ws, rfl, .inl (Rd.ext q4 rd), q2⟩, q3, Ext.trans x1 q4, fun y hy => ?_⟩
      rcases List.mem_cons.mp hy with z | z
      · rw [z]; exact fun i z => by cases z
      · exact q5 y z
    | d _ => exact other (fun i z => by cases z) e
    | fr _ => exact other (fun i z => by cases z) e
    | ce _ => exact other (fun i z => by cases z) e
def setL : L2.St → List Nat → List V → L2.St
  | σ, i :: is, v :: vs => setL (σ.set i (some v)) is vs
  | σ, _, _ => σ
theorem RVRs.resig {L : ASet} : ∀ {rvs : List RV} {vs : List V}, (∀ r ∈ rvs, ∀ i, r ≠ .vr i) → RVRs K L A as σ H rvs vs → RVRs K L A as σ' H rvs vs
  | [], _, _, h => h
  | r :: rs, _, hn, ⟨v, ws, e, h1, h2⟩ => by
    refine ⟨v, ws, e, ?_, RVRs.resig (fun x hx => hn x (List.mem_cons_of_mem _ hx)) h2⟩
    cases r with
    | vr i => exact absurd rfl (hn _ (List.mem_cons_self ..) i)
    | d _ => exact h1
    | fr _ => exact h1
    | ce _ => exact h1
theorem RVRs.drop {L : ASet} {p : Addr} : ∀ {rvs : List RV} {vs : List V}, V.ref p ∉ frs rvs vs → RVRs K L A as σ H rvs vs → RVRs K L (fun a => A a ∧ a ≠ p) as σ H rvs vs
  | [], _, _, h => h
  | r :: rs, _, hn, ⟨v, ws, e, h1, h2⟩ => by
    subst e
    cases r with
    | fr o =>
      obtain ⟨q, rfl, aq, ob⟩ := h1
      have hn : V.ref p ∉ V.ref q :: frs rs ws := hn
      rw [List.mem_cons, not_or] at hn
      exact ⟨_, ws, rfl, ⟨q, rfl, ⟨aq, fun z => hn.1 (by rw [z])⟩, ob⟩, RVRs.drop hn.2 h2⟩
    | d _ => exact ⟨v, ws, rfl, h1, RVRs.drop hn h2⟩
    | vr _ => exact ⟨v, ws, rfl, h1, RVRs.drop hn h2⟩
    | ce _ => exact ⟨v, ws, rfl, h1, RVRs.drop hn h2⟩
theorem bindNs_ok : ∀ {is : List Nat} {rvs : List RV} {vs : List V} {A' : ASet} {f f2 : F} {σ : L2.St}, (∀ a, A a → A' a) → Rel K A' as f σ H → RVRs K (Lv A' f as σ) A' as σ H rvs vs → FrOk A rvs vs → Ext (Lv A f0 as σ0) H0 (Lv A' f as σ) H → (∀ a, A a → H a = H0 a) →
    (∀ r ∈ rvs, ∀ i, r ≠ .vr i) → bindNs f is rvs = some f2 → SPost K A as f0 σ0 H0 f2 (setL σ is vs) H
  | [], [], _, A', f, f2, σ, s, R, h, fo, x, k, hn, e => by
    obtain rfl : _ = [] := h
    cases e
    exact ⟨R.less s, x.trans (ext_less s), k⟩
  | [], _ :: _, _, _, _, _, _, _, _, _, _, _, _, _, e => by cases e
  | _ :: _, [], _, _, _, _, _, _, _, _, _, _, _, _, e => by cases e
  | i :: is, r :: rs, _, A', f, f2, σ, s, R, ⟨v, ws, e0, h1, h2⟩, fo, x, k, hn, e => by
    subst e0
    obtain ⟨g, e1, e2⟩ := obind (show (bindN f i r).bind (fun f1 => bindNs f1 is rs) = some f2 from e)
    have hn' : ∀ r ∈ rs, ∀ i, r ≠ .vr i := fun x hx => hn x (List.mem_cons_of_mem _ hx)
    have oth : ∀ j, j ≠ i → (σ.set i (some v))[j]? = σ[j]? := fun j hj => List.getElem?_set_ne (Ne.symm hj)
    have inr : i < f.ρ.length → (σ.set i (some v))[i]? = some (some v) := fun hi => by rw [List.getElem?_set_self (by rw [R.lenσ]; exact hi)]
    show SPost K A as f0 σ0 H0 f2 (setL (σ.set i (some v)) is ws) H
    cases r with
    | vr j => exact absurd rfl (hn _ (List.mem_cons_self ..) j)
    | d y =>
      cases e1
      have b := bnd_nameP (i := i) R h1
      exact bindNs_ok s b.1 ((RVRs.resig hn' h2).ext b.2.1 (fun _ _ => rfl) fun _ z => z) ⟨fo.nd, fo.np⟩ (x.trans b.2.1) k hn' e2
    | ce n =>
      cases e1
      obtain ⟨q, rfl, hq⟩ := h1
      by_cases hi : i < f.ρ.length
      · obtain ⟨R2, x2⟩ := R.setSlot (A' := A') (σ' := σ.set i (some (.ref q))) (H' := H) (l := .c n) hi oth (by simp) (fun _ z => z) (fun _ _ _ => rfl) (fun a o e _ => e) R.al ⟨q, hq, inr hi⟩
        exact bindNs_ok s R2 ((RVRs.resig hn' h2).ext x2 (fun _ _ => rfl) fun _ z => z) ⟨fo.nd, fo.np⟩ (x.trans x2) k hn' e2
      · have e1 : f.ρ.set i (.c n) = f.ρ := set_ge (by omega)
        have e3 : σ.set i (some (.ref q)) = σ := set_ge (by rw [R.lenσ]; omega)
        rw [e1] at e2
        rw [e3]
        exact bindNs_ok s R h2 ⟨fo.nd, fo.np⟩ x k hn' e2
    | fr o =>
      cases e1
      obtain ⟨q, rfl, aq, ob⟩ := h1
      obtain ⟨n1, n2⟩ := List.nodup_cons.mp (show (V.ref q :: frs rs ws).Nodup from fo.nd)
      have nq : ¬ A q := fo.np q (List.mem_cons_self ..)
      have s2 : ∀ a, A a → A' a ∧ a ≠ q := fun a ha => ⟨s a ha, fun z => nq (by rw [← z]; exact ha)⟩
      have fo2 : FrOk A rs ws := ⟨n2, fun a ha => fo.np a (List.mem_cons_of_mem _ ha)⟩
      by_cases hi : i < f.ρ.length
      · obtain ⟨R2, x2⟩ := R.setSlot (A' := fun a => A' a ∧ a ≠ q) (σ' := σ.set i (some (.ref q))) (H' := H) (l := .own o) hi oth (by simp) (fun _ z => z.1) (fun _ _ _ => rfl) (fun a o e _ => e) (fun a z => R.al a z.1)
          ⟨q, inr hi, ob, fun z => z.2 rfl, .inl aq⟩
        exact bindNs_ok s2 R2 ((RVRs.drop n1 (RVRs.resig hn' h2)).ext x2 (fun _ _ => rfl) fun _ z => z) fo2 (x.trans x2) k hn' e2
      · have e1 : f.ρ.set i (.own o) = f.ρ := set_ge (by omega)
        have e3 : σ.set i (some (.ref q)) = σ := set_ge (by rw [R.lenσ]; omega)
        rw [e1] at e2
        rw [e3]
        exact bindNs_ok s R h2 fo2 x k hn' e2
theorem tX_par {is : List Nat} {es : List Ex} (h : tX K G E (.par is es) D σ H) : tDs K G es σ H fun vs H1 => vs.length = es.length ∧ D.nx (setL σ is vs) H1 ∧ ∀ p, H1 p = none → D.nx (setL σ is vs) (upd H1 p (.tup vs)) := by
  obtain ⟨A, as, f, R, h⟩ := h
  unfold xS at h
  obtain ⟨⟨rvs, f1⟩, e1, h⟩ := Out.of_bad h
  obtain ⟨⟨rvs', f2⟩, e2, h⟩ := ofOpt_out h
  obtain ⟨f3, e3, h⟩ := ofOpt_out h
  refine ⟨A, as, f, rvs, f1, R, e1, fun vs H1 p => ?_⟩
  have hl := p.len.trans (chn_len e1)
  have sp : SPost K A as f σ H f3 (setL σ is vs) H1 := by
    obtain ⟨A', s, R', r, n, x, k⟩ := p
    obtain ⟨q1, q2, q3, q4, q5⟩ := prep_ok R' r e2
    exact bindNs_ok s q1 q2 ⟨by rw [q3]; exact n.nd, by rw [q3]; exact n.np⟩ (x.trans q4) k q5 e3
  refine ⟨hl, h _ _ sp, fun q hq => h _ _ (sp.trans ?_)⟩
  · obtain ⟨R4, x4, k4, _⟩ := sp.1.laid' (o := .tup vs) hq
    exact ⟨R4, x4, fun a ha => k4 a (.inl ha)⟩
end
end Vm
set_option maxRecDepth 100000
set_option maxHeartbeats 1000000
namespace Vm
open PySem PySem.Spec L2
/-! ### statements, from Python's trees -/
def nmIx (Γ : Gam) : Expr → Option Nat
  | .Name x _ => if Γ.st x && okName x then ixOf Γ.N x 0 else none
  | _ => none
/-- a name that a comprehension's pair may swap into, on this line -/
def swN (Γ : Gam) (line : Nat) : Expr → Option Str
  | .Name x p => if Γ.loc x && (p.line == line) then some x else none
  | _ => none
def lnE (ts : List Expr) : Nat := (ts.head?.map (·.pos.line)).getD 0
/-- 1: stored from the right; 2: by a tuple -/
def parRt (Γ : Gam) (ts es : List Expr) : Nat :=
  if (ts.filterMap (swN Γ (lnE ts))).length = ts.length then
    (if (ts.length == 2 || ts.length == 3) = true ∧ (ts.filterMap (swN Γ (lnE ts))).eraseDups.length = ts.length ∧ es.all (foldedForSure 8) = false ∧ es.all (constantsAlone 8) = false then 1 else 0)
  else 2
def isLstE : Expr → Bool
  | .List _ _ => true
  | _ => false
def parC (Γ : Gam) (g : Expr → Option Ex) (ts es : List Expr) : Option Sm :=
  if es.any starE = false ∧ es.length = ts.length ∧ es.length ≤ 3 then
    (mapO (nmIx Γ) ts).bind fun is => (mapO g es).bind fun es' => if parRt Γ ts es ≠ 0 ∧ is.Nodup then some (.par is es') else none
  else none
def tupC (Γ : Gam) (g : Expr → Option Ex) (ts : List Expr) (e : Expr) : Option Sm := match ts with
  | [.Subscript a i _, b] => (nmIx Γ b).bind fun j => (g a).bind fun a => (g i).bind fun i => (g e).bind fun e => some (.tsub a i j e)
  | _ => (tgCs Γ ts).bind fun l => (g e).map (.asg (.tup l))
def itemsE : Expr → List Expr
  | .Tuple es _ _ => es
  | _ => []
def asgC (Γ : Gam) (g : Expr → Option Ex) (t e : Expr) : Option Sm := match t with
  | .Name x p => (nmIx Γ (.Name x p)).bind fun i => (g e).map (.asg (.name i))
  | .Subscript a i _ => (g a).bind fun a => (g i).bind fun i => (g e).bind fun e => some (.sub a i e)
  | .Tuple ts _ _ => if isTupE e = true then parC Γ g ts (itemsE e) else if isLstE e = true then none else tupC Γ g ts e
  | _ => none
def augO : Operator → Option Op
  | .Add => some .add
  | .Sub => some .sub
  | _ => none
def dropOk : Expr → Bool
  | .ListComp _ _ _ _ => false
  | .SetComp _ _ _ _ => false
  | .DictComp _ _ _ _ _ => false
  | _ => true
/-- a call of a def that may let an exception out -/
def isRz (Γ : Gam) : Expr → Bool
  | .Call (.Name x _) _ _ _ => Γ.rz.contains x && (defOf Γ.defs x 0).isSome
  | _ => false
/-- a class without fields, made to be raised -/
def rzN (Γ : Gam) : Expr → Option Str
  | .Call (.Name x _) [] [] _ => if Γ.xs.contains x = true ∧ okName x = true ∧ Γ.gl x = true then some x else none
  | _ => none
def kE : Expr → Option Ex
  | .Constant c _ _ => (constD c).map .k
  | _ => none
/-- what a clause's suite may be: return of constants -/
def hdC : List Stmt → Option (List Sm)
  | [.Return (some (.Constant c _ _)) _] => (constD c).map fun d => [.ret (.k d)]
  | [.Return (some (.Tuple es _ _)) _] => (mapO kE es).map fun l => [.ret (.tup l)]
  | _ => none
def Gam.mkFor (Γ : Gam) (t : Tg) (it : It) (b : List Sm) : Sm := if Γ.kf = true then (match it with
  | .seq (.v j) => .fork t j b
  | _ => .for t it b) else .for t it b
mutual
def cS : Nat → Gam → Stmt → Option Sm
  | 0, _, _ => none
  | n + 1, Γ, s => match s with
    | .Pass _ => some .pass
    | .Break _ => some .brk
    | .Continue _ => some .cont
    | .Raise (some e) none _ => (match rzN Γ e with
      | some x => some (.raise x)
      | none => some .never)
    | .Raise _ _ _ => some .never
    | .Try body [.ExceptHandler (some (.Name x _)) none (b0 :: suite) _] [] [] _ => if Γ.xc.contains x = true ∧ okName x = true ∧ Γ.gl x = true then
        (cSs n Γ body).bind fun b => (hdC (b0 :: suite)).bind fun h => some (.trys b (Γ.mt x) Γ.xs h)
      else none
    | .Expr e _ => if isRz Γ e = true then (comp n Γ e).map .clx else if dropOk e = true then (comp n Γ e).map .ex else none
    | .Return none _ => some .retN
    | .Return (some e) _ => if isRz Γ e = true then (comp n Γ e).map .clr else (comp n Γ e).map .ret
    | .If c a b _ => (comp n Γ c).bind fun c => (cSs n Γ a).bind fun a => (cSs n Γ b).bind fun b => some (.ifs c a b)
    | .While c b [] _ => (comp n Γ c).bind fun c => (cSs n Γ b).bind fun b => some (.whl c b)
    | .For t it b [] _ => (tgC Γ t).bind fun t' => (itC Γ (comp n Γ) (isTupE t) it).bind fun it => (cSs n Γ b).bind fun b => some (Γ.mkFor t' it b)
    | .Assign [t] e _ => if isRz Γ e = true then (match t with
        | .Name x p => (nmIx Γ (.Name x p)).bind fun i => (comp n Γ e).map (.cla i)
        | .Tuple ts _ _ => (tgCs Γ ts).bind fun l => (comp n Γ e).map (.clt l)
        | _ => none) else asgC Γ (comp n Γ) t e
    | .AugAssign t op e _ => match t with
      | .Name x _ => (nmIx Γ t).bind fun i => (augO op).bind fun o => (comp n Γ e).bind fun e => some (.aug i o e)
      | _ => none
    | _ => none
def cSs : Nat → Gam → List Stmt → Option (List Sm)
  | 0, _, _ => none
  | _ + 1, _, [] => some []
  | n + 1, Γ, s :: ss => (cS n Γ s).bind fun a => (cSs n Γ ss).bind fun l => some (a :: l)
end
section
variable {X : Cx} {Γ : Gam} {G : Call} {m : Nat}
theorem nmIx_ok (C : XOk Γ G m X) {t : Expr} {i : Nat} (h : nmIx Γ t = some i) : ∃ x p, t = .Name x p ∧ X.N[i]? = some x ∧ L2.Loc X.env.scope x ∧ (X.fn x = true ∨ X.env.scope.names.lookup x = some .local) ∧ okName x = true := by
  unfold nmIx at h
  split at h
  · split at h
    · rename_i x p hc
      simp only [Bool.and_eq_true] at hc
      obtain ⟨h1, h2⟩ := st_ok C.sc C.fn hc.1
      exact ⟨x, p, rfl, by rw [C.N]; exact ixOf0 h, h1, h2, hc.2⟩
    · cases h
  · cases h
theorem sw_tup {ts : List Expr} {k : _} {p pos : Pos} {e : Expr} {env : Env} : swapsWithSole [.Tuple ts k p] e pos.line env = pure false := by
  cases e <;> rfl
theorem sw_sub {a i : Expr} {p pos : Pos} {e : Expr} {env : Env} : swapsWithSole [.Subscript a i p] e pos.line env = pure false := by
  cases e <;> rfl
theorem pg_nm (C : XOk Γ G m X) {t : Expr} {i : Nat} (h : nmIx Γ t = some i) : PG X t (gName i) := by
  obtain ⟨x, p, rfl, h1, h2, h3, _⟩ := nmIx_ok C h
  exact pg_name C.nd h1 h2 h3
theorem pg_sub' {n : Nat} {o i : Expr} {i' : Ex} {pos : Pos} {to ti : TE} {t : TSet} (ho : PE X o to) (hi : PE X i ti) (hs : PSet X t) (h : comp n Γ i = some i') : PG X (.Subscript o i pos) (gSub to ti t) := by
  refine pg_sub ho hi hs ?_
  cases n with
  | zero => cases h
  | succ n =>
    cases i
    case Slice => exact nope h
    all_goals (intro v; rfl)
theorem nm_star {t : Expr} {i : Nat} (h : nmIx Γ t = some i) (ts : List Expr) (env : Env) : assignEach (t :: ts) env = (false, assign t env) :: assignEach ts env := by
  cases t
  case Starred => cases h
  all_goals rfl
def swE (env : Env) (line : Nat) : Expr → Option Str
  | .Name id pos => if env.kindOf id == some .local && pos.line == line then some id else none
  | _ => none
def stE : Expr → Bool
  | .Starred _ _ => true
  | _ => false
theorem stE_eq : ∀ es : List Expr, es.any stE = es.any starE
  | [] => rfl
  | e :: es => by
    rw [List.any_cons, List.any_cons, stE_eq es]
    cases e <;> rfl
theorem any_st : ∀ vs : List Expr, (vs.any fun | .Starred .. => true | _ => false) = vs.any stE
  | [] => rfl
  | e :: es => by
    rw [List.any_cons, List.any_cons, any_st es]
    cases e <;> rfl
theorem sw_swap {ts vs : List Expr} {k k2 : _} {p p2 : Pos} {env : Env} (h0 : vs.any stE = false) :
    swappedStores [.Tuple ts k p] (.Tuple vs k2 p2) env = (if !(ts.length == 2 || ts.length == 3) || vs.length != ts.length || env.blockKind != .function then pure none else
      if (ts.filterMap (swE env (lnE ts))).length != ts.length || (ts.filterMap (swE env (lnE ts))).eraseDups.length != (ts.filterMap (swE env (lnE ts))).length then pure none else
      if vs.all (foldedForSure 8) then pure none else if vs.all (constantsAlone 8) then unsupported "assign.tuple-of-constant-expressions:order-of-the-stores" else pure (some (ts.filterMap (swE env (lnE ts))))) := by
  unfold swappedStores
  show (if _ then _ else _) = _
  congr 1
  have e0 := (any_st vs).trans h0
  show (if (vs.any fun | .Starred .. => true | _ => false) = true then _ else _) = _
  rw [e0, if_neg Bool.false_ne_true]
  rfl
theorem swE_eq (C : XOk Γ G m X) (line : Nat) (e : Expr) : swE X.env line e = swN Γ line e := by
  cases e <;> try rfl
  rename_i x p
  show (if (X.env.scope.names.lookup x == some .local && p.line == line) = true then some x else none) = if (Γ.loc x && (p.line == line)) = true then some x else none
  have : (X.env.scope.names.lookup x == some .local) = Γ.loc x := by
    rw [C.sc]
    unfold Gam.loc
    split
    · rename_i h; rw [h]; rfl
    · rename_i h
      cases q : Γ.sc.names.lookup x with
      | none => rfl
      | some k => cases k <;> first | rfl | exact absurd q h
  rw [this]
end
end Vm
set_option maxRecDepth 100000
set_option maxHeartbeats 1000000
namespace Vm
open PySem PySem.Spec L2
/-! ### exceptions: raise, calls that may let one out, try -/
/-- a wish, by a class's name -/
def exOf (mg : Str → Option Value) (W : WX) : Str → L2.St → Hp → Prop := fun c σ H => ∀ cls, mg c = some cls → W cls none σ H
abbrev noW : WX := fun _ _ _ _ => False
section
variable {K : PySem.W.Frag} {mg : Str → Option Value} {G : Call} {W : WX} {A : ASet} {as : List Addr} {f f' f1 : F} {σ σ' : L2.St} {H H' H1 : Hp} {D : Ends} {E : Str → L2.St → Hp → Prop} {rr : RR} {v : V}
theorem RPost.sp (p : RPost K A as f σ H rr f' v σ' H') : SPost K A as f σ H f' σ' H' := by
  obtain ⟨A', s, R, r, n, x, k⟩ := p
  exact ⟨R.less s, x.trans (ext_less s), k⟩
theorem Post.rp (p : Post K A as f σ H rr.rv f' v H') : RPost K A as f σ H rr f' v σ H' := p
theorem tX_raise {c : Str} (h : tX K G E (.raise c) D σ H) : E c σ H := by
  obtain ⟨A, as, f, R, h⟩ := h
  exact h .non σ H ⟨A, fun _ z => z, R, .inl (rd_none (K := K) (L := Lv A f as σ) (H := H)), (fun o e => by cases e), Ext.refl, fun _ _ => rfl⟩
theorem tX_clx {e : Ex} (h : tX K G (exOf mg W) (.clx e) D σ H) : tDrop (tDX K mg W G e) D σ H := by
  obtain ⟨A, as, f, R, h⟩ := h
  unfold xS at h
  obtain ⟨⟨rr, f1⟩, e1, h⟩ := Out.of_bad h
  refine ⟨A, as, f, rr, f1, R, e1, fun v H1 p => ?_⟩
  cases rr with
  | ex c => exact h v σ H1 p
  | d x => exact h σ H1 (RPost.sp (rr := .d x) p)
  | fr o => exact h σ H1 (RPost.sp (rr := .fr o) p)
theorem tX_clr {e : Ex} (h : tX K G (exOf mg W) (.clr e) D σ H) : tRet (tDX K mg W G e) D σ H := by
  obtain ⟨A, as, f, R, h⟩ := h
  unfold xS at h
  obtain ⟨⟨rr, f1⟩, e1, h⟩ := Out.of_bad h
  refine ⟨A, as, f, rr, f1, R, e1, fun v H1 p => ?_⟩
  cases rr with
  | ex c => exact h v σ H1 p
  | d x => exact h v σ H1 p
  | fr o => exact h v σ H1 p
theorem tX_cla {i : Nat} {e : Ex} (h : tX K G (exOf mg W) (.cla i e) D σ H) : tAsg (tDX K mg W G e) (gName i) D σ H := by
  obtain ⟨A, as, f, R, h⟩ := h
  unfold xS at h
  obtain ⟨⟨rr, f1⟩, e1, h⟩ := Out.of_bad h
  refine ⟨A, as, f, rr, f1, R, e1, fun v H1 p => ?_⟩
  cases rr with
  | ex c => exact h v σ H1 p
  | d x =>
    obtain ⟨f2, e2, h⟩ := ofOpt_out (show OutOk K A as f σ H D _ (Out.of (ofOpt (bindN f1 i (.d x))) .nx) from h)
    exact h _ _ (bindN_ok p e2)
  | fr o =>
    obtain ⟨f2, e2, h⟩ := ofOpt_out (show OutOk K A as f σ H D _ (Out.of (ofOpt (bindN f1 i (.fr o))) .nx) from h)
    exact h _ _ (bindN_ok p e2)
theorem tX_clt {ts : List Tg} {e : Ex} (h : tX K G (exOf mg W) (.clt ts e) D σ H) : tAsg (tDX K mg W G e) (tG K (.tup ts)) D σ H := by
  obtain ⟨A, as, f, R, h⟩ := h
  unfold xS at h
  obtain ⟨⟨rr, f1⟩, e1, h⟩ := Out.of_bad h
  refine ⟨A, as, f, rr, f1, R, e1, fun v H1 p => ?_⟩
  cases rr with
  | ex c => exact h v σ H1 p
  | d x =>
    obtain ⟨ρ1, e3, h⟩ := ofOpt_out (show OutOk K A as f σ H D _ (Out.of (ofOpt (bindT (.tup ts) x f1.ρ)) fun ρ1 => .nx { f1 with ρ := ρ1 }) from h)
    have hx : norm x = x := by
      cases x with
      | dict kvs => unfold bindT at e3; cases e3
      | _ => rfl
    obtain ⟨pn, rd⟩ := Post.kept (y := x) (f'' := f1) p (congrArg (fun z => some (z, f1)) hx)
    exact ⟨A, as, f1, x, ρ1, pn.1, rd, e3, fun σ' bp => h _ _ (SPost.trans pn bp.sp)⟩
  | fr o =>
    obtain ⟨ρ1, e3, h⟩ := ofOpt_out (show OutOk K A as f σ H D _ (Out.of (ofOpt (bindT (.tup ts) o.d f1.ρ)) fun ρ1 => .nx { f1 with ρ := ρ1 }) from h)
    obtain ⟨pn, rd⟩ := Post.kept (y := o.d) (f'' := f1) p rfl
    exact ⟨A, as, f1, o.d, ρ1, pn.1, rd, e3, fun σ' bp => h _ _ (SPost.trans pn bp.sp)⟩
theorem OutOk.noEx {o : Out} (h : OutOk K A as f σ H D E (noEx o)) : OutOk K A as f σ H D (exOf mg noW) o := by
  cases o with
  | rt r g =>
    cases r with
    | ex c => exact h.elim
    | d x => exact h
    | fr x => exact h
  | nx g => exact h
  | bk g => exact h
  | ct g => exact h
  | bad => exact h
theorem tX_try {b h' : List Sm} {cs all : List Str} {c : Value} (h : tX K G (exOf mg W) (.trys b cs all h') D σ H) (hx : ∀ y cls, all.contains y = true → mg y = some cls → PySem.W.exmOne K cls c = some (cs.contains y)) :
    tXs K G (exOf mg (wOnly K c (fun _ _ _ => tXs K G (exOf mg noW) h') W D)) b D σ H := by
  obtain ⟨A, as, f, R, h⟩ := h
  unfold xS at h
  refine ⟨A, as, f, R, ?_⟩
  cases q : xSs G b f with
  | nx g => rw [q] at h; exact h
  | bk g => rw [q] at h; exact h
  | ct g => rw [q] at h; exact h
  | bad => rw [q] at h; exact h
  | rt r g =>
    rw [q] at h
    cases r with
    | d x => exact h
    | fr o => exact h
    | ex y =>
      unfold kTry at h
      dsimp only at h
      split at h
      · rename_i ha
        split at h
        · rename_i hc
          intro v σ' H' p cls hm
          refine ⟨true, by rw [hx y cls ha hm, hc], fun _ a _ => ?_, fun z => by cases z⟩
          exact ⟨A, as, g, p.sp.1, OutOk.pre p.sp h.noEx⟩
        · rename_i hc
          intro v σ' H' p cls hm
          refine ⟨false, (by rw [hx y cls ha hm]; simpa using hc), (fun z => by cases z), fun _ => h v σ' H' p cls hm⟩
      · exact h.elim
end
/-- X() -/
theorem pmk_own0 {X : Cx} {C : Addr} {bmB : List Value} {B newId initId : String} {x : Str} {p pos : Pos} (F : ExcBaseFacts B newId initId bmB) (q : PySem.W.excIn X.K C bmB newId = true) (gC : X.mg x = some (.ref C)) (kC : PySem.W.keepIn X.K (.ref C) = true) (r : Raises X (.ref C)) (hg : Gl X x)
    (hdb : (x == ("__debug__" : Str)) = false) : PMk X (.Call (.Name x p) [] [] pos) (fun _ H Q => Q (.ref C) none H) := by
  intro pins s σ H Q I h
  refine wpAny_Call_Name_kw (ld_glob I hg gC ?_ hdb)
  refine PySem.W.callWith_K0 I.kIn kC ?_
  show wpAny _ _ (call (.ref C) []) _ _ _
  obtain ⟨bm, N, nm, qn, bs, hdct, sn, sub, ab, col, dd, k0, k1, k2, k3, k5, mN, hC, hN, hni, T⟩ := exc_obj I.kIn q
  refine wpAny_call_exc_subT F T hC hN hni (fun h' e hm => ?_) (by show 0 ≤ sizeLine; omega)
  exact mk_of I hm r h (I.hok.gone hm.new)
/-! ### what a clause's suite may be -/
section
variable {X : Cx} {G : Call} {E : Str → L2.St → Hp → Prop}
theorem pe_k {c : Const} {k : _} {pos : Pos} {d : D} (h : constD c = some d) : PE X (.Constant c k pos) (tD X.K G (.k d)) := by
  cases c <;> try (cases h; done)
  case none => cases h; exact PE.imp pe_non fun σ H Q q => tD_k q fun _ _ => rd_none
  case bool b => cases h; exact PE.imp pe_bl fun σ H Q q => tD_k q fun _ _ => rd_bool
  case int i => cases h; exact PE.imp pe_int fun σ H Q q => tD_k q fun _ _ => rd_int
  case str s => cases h; exact PE.imp pe_str fun σ H Q q => tD_k q fun _ _ => rd_str
theorem kE_ok {e : Expr} {a : Ex} (h : kE e = some a) : PE X e (tD X.K G a) ∧ ∀ (es : List Expr) (env : Env), starEach (e :: es) env = (false, eval e env) :: starEach es env := by
  cases e <;> try (cases h; done)
  case Constant c k pos =>
    obtain ⟨d, h1, rfl⟩ := omap (show (constD c).map Ex.k = some a from h)
    exact ⟨pe_k h1, fun _ _ => rfl⟩
theorem pa_kE : ∀ {es : List Expr} {l : List Ex}, mapO kE es = some l → PA X es (tDs X.K G l)
  | [], _, h => by cases h; exact PA.imp pa_nil fun σ H Q q => tDs_nil q
  | e :: es, _, h => by
    obtain ⟨b, t, h1, h2, rfl⟩ := mapO_cons h
    obtain ⟨q1, q2⟩ := kE_ok (X := X) (G := G) h1
    exact PA.imp (pa_cons q1 (pa_kE h2) (q2 es X.env)) fun σ H Q q => tDs_cons q
theorem hd_one {e : Expr} {a : Ex} {pos : Pos} (h : PE X e (tD X.K G a)) : PSs X [.Return (some e) pos] (tXs X.K G E [.ret a]) :=
  PSs.imp (pss_cons (PS.imp (ps_ret h) fun D σ H q => tX_ret q) (PSs.imp pss_nil fun D σ H q => tXs_nil q)) fun D σ H q => tXs_cons q
theorem hd_ok {l : List Stmt} {ir : List Sm} (h : hdC l = some ir) : PSs X l (tXs X.K G E ir) := by
  unfold hdC at h
  split at h
  · obtain ⟨d, h1, rfl⟩ := omap h
    exact hd_one (pe_k h1)
  · obtain ⟨d, h1, rfl⟩ := omap h
    exact hd_one (PE.imp (pe_tup (pa_kE h1)) fun σ H Q q => tD_tup q)
  · cases h
end
end Vm
set_option maxRecDepth 100000
set_option maxHeartbeats 1000000
namespace Vm
open PySem PySem.Spec L2
abbrev bmVE : List Value := [.type "ValueError", .type "Exception", .type "BaseException", .type "object"]
/-- what is known of the exception classes -/
structure XsOk (Γ : Gam) (K : PySem.W.Frag) (mg : Str → Option Value) : Prop where
  xs : ∀ c, Γ.xs.contains c = true → ∃ C, mg c = some (.ref C) ∧ PySem.W.excIn K C bmVE "ValueError.__new__" = true ∧ PySem.W.keepIn K (.ref C) = true ∧ PySem.W.subIn K (.ref C) (.type "BaseException") = some true ∧ PySem.W.typeIn K (.ref C) = some (.type "type")
  xc : ∀ c, Γ.xc.contains c = true → ∃ C, mg c = some (.ref C) ∧ ∀ y cls, Γ.xs.contains y = true → mg y = some cls → PySem.W.exmOne K cls (.ref C) = some ((Γ.mt c).contains y)
  lc : Γ.lc = true → mg "lcm" = some (.builtin "math.lcm")
structure SOk (Γ : Gam) (G : Call) (m : Nat) (X : Cx) (W : WX) : Prop where
  x : XOk Γ G m X
  hp : PassesOwn (model X.prog X.w) X.A X.env X.xe
  kd : X.env.scope.kind = .function
  tk : Takes X W
  hs : X.stack = X.env :: X.outer
  hf : X.env.frame = some X.env.locals
  xo : XsOk Γ X.K X.mg
def gNms : List Nat → TGs
  | [] => gNil
  | i :: is => gCons (gName i) (gNms is)
theorem gNms_ok {H : Hp} {Q : L2.St → Hp → Prop} : ∀ {is : List Nat} {vs : List V} {σ : L2.St}, vs.length = is.length → Q (setL σ is vs) H → gNms is vs σ H Q
  | [], [], _, _, h => ⟨rfl, h⟩
  | [], _ :: _, _, l, _ => by cases l
  | _ :: _, [], _, l, _ => by cases l
  | i :: is, v :: vs, σ, l, h => ⟨v, vs, rfl, gNms_ok (by simpa using l) h⟩
section
variable {X : Cx} {Γ : Gam} {G : Call} {m : Nat} {W : WX}
theorem pgs_nms (C : XOk Γ G m X) : ∀ {ts : List Expr} {is : List Nat}, mapO (nmIx Γ) ts = some is → PGs X ts (gNms is)
  | [], _, h => by cases h; exact pgs_nil
  | t :: ts, _, h => by
    obtain ⟨i, r, h1, h2, rfl⟩ := mapO_cons h
    exact pgs_cons (pg_nm C h1) (pgs_nms C h2) (by rw [nm_star h1 ts X.env]; rfl)
theorem nms_nostar : ∀ {ts : List Expr} {is : List Nat} {env : Env}, mapO (nmIx Γ) ts = some is → (assignEach ts env).findIdx? (·.1) = none
  | [], _, _, _ => rfl
  | t :: ts, _, env, h => by
    obtain ⟨i, r, h1, h2, rfl⟩ := mapO_cons h
    rw [nm_star h1, List.findIdx?_cons, nms_nostar h2]; rfl
theorem bk_ok (S : SOk Γ G m X W) : (X.env.blockKind != .function) = false := by
  unfold Env.blockKind
  rw [S.kd]
  rfl
theorem s_par (S : SOk Γ G m X W) {n : Nat} {ts es : List Expr} {is : List Nat} {es' : List Ex} {k k2 : _} {p p2 pos : Pos} (h1 : mapO (nmIx Γ) ts = some is) (h2 : mapO (comp n Γ) es = some es') (h3 : es.any starE = false) (h4 : es.length = ts.length) (h5 : es.length ≤ 3)
    (h6 : parRt Γ ts es ≠ 0) (hnd : is.Nodup) : PS X (.Assign [.Tuple ts k p] (.Tuple es k2 p2) pos) (tX X.K G (exOf X.mg W) (.par is es')) := by
  have C := S.x
  have ih := exprs G m n Γ X C
  have hsw := sw_swap (ts := ts) (vs := es) (k := k) (k2 := k2) (p := p) (p2 := p2) (env := X.env) ((stE_eq es).trans h3)
  have hE : swE X.env (lnE ts) = swN Γ (lnE ts) := funext fun e => swE_eq C _ e
  rw [hE] at hsw
  have l1 := mapO_len h1
  have l2 := mapO_len h2
  have hlen : (es.length != ts.length) = false := by simp [h4]
  unfold parRt at h6
  split at h6
  · rename_i hf
    split at h6
    · rename_i hc
      obtain ⟨c1, c2, c3, c4⟩ := hc
      have hw : swappedStores [.Tuple ts k p] (.Tuple es k2 p2) X.env = pure (some (ts.filterMap (swN Γ (lnE ts)))) := by
        rw [hsw, c1, hlen, bk_ok S, hf, c2, c3, c4]
        simp
      -- the names, one by one
      have hnm : ∀ {t : Expr} {r : List Expr} {line : Nat}, ((t :: r).filterMap (swN Γ line)).length = (t :: r).length → ∃ x q, t = .Name x q ∧ X.env.scope.names.lookup x = some .local ∧ (t :: r).filterMap (swN Γ line) = x :: r.filterMap (swN Γ line) ∧ (r.filterMap (swN Γ line)).length = r.length := fun {t r line} h => by
        rw [List.filterMap_cons] at h ⊢
        cases q : swN Γ line t with
        | none =>
          rw [q] at h
          have := List.length_filterMap_le (swN Γ line) r
          simp at h
          omega
        | some x =>
          rw [q] at h
          unfold swN at q
          split at q
          · rename_i x' q'
            split at q
            · rename_i hq
              cases q
              simp only [Bool.and_eq_true] at hq
              refine ⟨x, q', rfl, ?_, rfl, by simpa using h⟩
              rw [C.sc]
              have := hq.1
              unfold Gam.loc at this
              split at this
              · assumption
              · cases this
            · cases q
          · cases q
      match ts, es, is, h1, hf, c1, hw, h4, hnd, h2 with
      | [t1, t2], [a, b], is, h1, hf, c1, hw, _, hnd, h2 =>
        obtain ⟨x, q1, rfl, g1, e1, hf1⟩ := hnm hf
        obtain ⟨y, q2, rfl, g2, e2, _⟩ := hnm hf1
        rw [e1, e2] at hw
        obtain ⟨i, r, m1, m2, rfl⟩ := mapO_cons h1
        obtain ⟨j, r, m3, m4, rfl⟩ := mapO_cons m2
        cases m4
        obtain ⟨x', _, z1, n1, _⟩ := nmIx_ok C m1
        cases z1
        obtain ⟨y', _, z2, n2, _⟩ := nmIx_ok C m3
        cases z2
        have hij : i ≠ j := by simpa using hnd
        refine PS.imp (ps_par C.calm C.nd n1 n2 hij g1 g2 (comps_pa ih.pe h2) hw) fun D σ H q => ?_
        exact tDs.mono (tX_par q) fun vs H1 ⟨lv, q1, _⟩ => by
          match vs, lv with
          | [v, w], _ => exact ⟨v, w, rfl, q1⟩
          | [], lv => rw [l2] at lv; cases lv
          | [_], lv => rw [l2] at lv; simp at lv
          | _ :: _ :: _ :: _, lv => rw [l2] at lv; simp at lv
      | [t1, t2, t3], [a, b, c], is, h1, hf, c1, hw, _, hnd, h2 =>
        obtain ⟨x, q1, rfl, g1, e1, hf1⟩ := hnm hf
        obtain ⟨y, q2, rfl, g2, e2, hf2⟩ := hnm hf1
        obtain ⟨z, q3, rfl, g3, e3, _⟩ := hnm hf2
        rw [e1, e2, e3] at hw
        obtain ⟨i, r, m1, m2, rfl⟩ := mapO_cons h1
        obtain ⟨j, r, m3, m4, rfl⟩ := mapO_cons m2
        obtain ⟨l, r, m5, m6, rfl⟩ := mapO_cons m4
        cases m6
        obtain ⟨x', _, z1, n1, _⟩ := nmIx_ok C m1
        cases z1
        obtain ⟨y', _, z2, n2, _⟩ := nmIx_ok C m3
        cases z2
        obtain ⟨z', _, z3, n3, _⟩ := nmIx_ok C m5
        cases z3
        have nd : (¬ i = j ∧ ¬ i = l) ∧ ¬ j = l := by simpa using hnd
        refine PS.imp (ps_par3 C.calm C.nd n1 n2 n3 nd.1.1 nd.1.2 nd.2 g1 g2 g3 (comps_pa ih.pe h2) hw) fun D σ H q => ?_
        exact tDs.mono (tX_par q) fun vs H1 ⟨lv, q1, _⟩ => by
          match vs, lv with
          | [u, v, w], _ => exact ⟨u, v, w, rfl, q1⟩
          | [], lv => rw [l2] at lv; cases lv
          | [_], lv => rw [l2] at lv; simp at lv
          | [_, _], lv => rw [l2] at lv; simp at lv
          | _ :: _ :: _ :: _ :: _, lv => rw [l2] at lv; simp at lv
    · exact absurd rfl h6
  · rename_i hf
    have hw : swappedStores [.Tuple ts k p] (.Tuple es k2 p2) X.env = pure none := by
      rw [hsw]
      split
      · rfl
      · have : ((ts.filterMap (swN Γ (lnE ts))).length != ts.length) = true := by simpa using hf
        rw [this]; rfl
    refine PS.imp (ps_asg (pe_tup (comps_pa ih.pe h2)) (pg_tup (n := ts.length) C.calm (pgs_nms C h1) (assignEach_len ts _) (nms_nostar h1)) sw_tup hw) fun D σ H q => ?_
    refine tDs.mono (tX_par q) fun vs H1 ⟨lv, _, q2⟩ => ⟨by rw [sizeLine_eq]; omega, fun b hb => ?_⟩
    exact ⟨b, vs, rfl, .inl (.inl upd_same), by omega, gNms_ok (by omega) (q2 b hb)⟩
end
end Vm
set_option maxRecDepth 100000
set_option maxHeartbeats 1000000
namespace Vm
open PySem PySem.Spec L2
section
variable {X : Cx} {Γ : Gam} {G : Call} {m : Nat} {W : WX}
theorem plainS {e : Expr} {t : Expr} {l : Nat} {env : Env} (h : dropOk e = true) : swapsWith e (some t) l env = pure false := by
  cases e <;> first | rfl | cases h
theorem s_set (S : SOk Γ G m X W) {n : Nat} {x : Str} {p pos : Pos} {e : Expr} {i : Nat} {e' : Ex} (h1 : nmIx Γ (.Name x p) = some i) (h2 : comp n Γ e = some e') : PS X (.Assign [.Name x p] e pos) (tX X.K G (exOf X.mg W) (.asg (.name i) e')) := by
  have C := S.x
  obtain ⟨x', p', z, n1, hx, hf, ok⟩ := nmIx_ok C h1
  cases z
  have ih := exprs G m n Γ X C
  have gen : swapsWith e (some (.Name x p)) pos.line X.env = pure false → PS X (.Assign [.Name x p] e pos) (tX X.K G (exOf X.mg W) (.asg (.name i) e')) := fun hs =>
    PS.imp (ps_set C.nd n1 hx (ih e e' h2).e hs hf) fun D σ H q => tX_asg q
  by_cases hl : dropOk e = true
  · exact gen (plainS hl)
  · cases n with
    | zero => cases h2
    | succ n =>
      cases e <;> try (exact absurd rfl hl)
      case SetComp => exact nope h2
      case DictComp => exact nope h2
      case ListComp elt gs scope epos =>
        have hsw : swapsWith (.ListComp elt gs scope epos) (some (.Name x p)) pos.line X.env = pure (X.env.blockKind == .function && X.env.kindOf x == some .local && p.line == epos.line && !(scope.names.any fun (n, k) => n == x && (k == .local || k == .cell))) := rfl
        cases hb : (X.env.blockKind == .function && X.env.kindOf x == some .local && p.line == epos.line && !(scope.names.any fun (n, k) => n == x && (k == .local || k == .cell))) with
        | false => rw [hb] at hsw; exact gen hsw
        | true =>
          rw [hb] at hsw
          have hloc : X.env.scope.names.lookup x = some .local := by
            simp only [Bool.and_eq_true] at hb
            have := hb.1.1.2
            exact eq_of_beq (show (X.env.scope.names.lookup x == some .local) = true from this)
          match gs, h2, hsw with
          | [], h2, _ => exact nope h2
          | ⟨_, _, _, _⟩ :: ⟨_, _, _, _⟩ :: _ :: _, h2, _ => exact nope h2
          | [⟨tg, iter, ifs, a⟩, ⟨tg1, iter1, ifs1, a1⟩], h2, hsw =>
            have h2 : (if a = 0 ∧ a1 = 0 then _ else none) = some e' := h2
            by_cases ha : a = 0 ∧ a1 = 0
            · obtain ⟨rfl, rfl⟩ := ha
              rw [if_pos ⟨rfl, rfl⟩] at h2
              have ihn := exprs G m n Γ X C
              obtain ⟨own, h0, h⟩ := obind h2
              split at h
              · rename_i hc
                obtain ⟨t, q1, h⟩ := obind h
                obtain ⟨it, q2, h⟩ := obind h
                obtain ⟨ifs', q3, h⟩ := obind h
                obtain ⟨t1, q4, h⟩ := obind h
                obtain ⟨it1, q5, h⟩ := obind h
                obtain ⟨ifs1', q6, h⟩ := obind h
                obtain ⟨el', q7, h⟩ := obind h
                split at h
                · rename_i hs
                  cases h
                  have okb : BlkOk X.N X.env.scope scope own := by rw [C.N, C.sc]; exact blkOk_by hc.1
                  have hT : ∀ {tg : Expr}, isTupE tg = true → ∃ es k p, tg = .Tuple es k p := fun h => by
                    unfold isTupE at h
                    split at h
                    · exact ⟨_, _, _, rfl⟩
                    · cases h
                  have hv : ∀ i ∈ tgI t1, i ∈ own.map (·.2) := fun i hi => by have := List.all_eq_true.mp hs i hi; simpa using this
                  have ihB := fun s H c cl fp => exprs G m n _ _ (C.blk scope s H c cl fp)
                  refine PS.imp (ps_setLc2 (wi := tI X.K G it) (g := tG X.K t) (tt := tTs X.K G ifs') (wi1 := tI X.K G it1) (g1 := tG X.K t1) (tt1 := tTs X.K G ifs1') (te := tD X.K G el') C.calm C.nd n1 hloc hsw (pi_it C ihn hT q2) okb hv
                    (fun s H c cl fp => pg_tg (Γ := Γ.blk scope) (C.blk scope s H c cl fp).N (C.blk scope s H c cl fp).nd (C.blk scope s H c cl fp).sc (C.blk scope s H c cl fp).calm (C.blk scope s H c cl fp).fn tg t q1)
                    (fun s H c cl fp => pts_ok (ihB s H c cl fp) hc.2.1 q3) (fun s H c cl fp => pi_it (C.blk scope s H c cl fp) (ihB s H c cl fp) hT q5)
                    (fun s H c cl fp => pg_tg (Γ := Γ.blk scope) (C.blk scope s H c cl fp).N (C.blk scope s H c cl fp).nd (C.blk scope s H c cl fp).sc (C.blk scope s H c cl fp).calm (C.blk scope s H c cl fp).fn tg1 t1 q4)
                    (fun s H c cl fp => pts_ok (ihB s H c cl fp) hc.2.2 q6) (fun s H c cl fp => (ihB s H c cl fp elt el' q7).e) (fold_no q2) (fold_all q5)) fun D σ H q => ?_
                  exact tD_lc2 (tX_asg q)
                · cases h
              · cases h
            · rw [if_neg ha] at h2
              exact nope h2
          | [⟨tg, iter, ifs, a⟩], h2, hsw =>
            have h2 : (if a = 0 then _ else none) = some e' := h2
            by_cases ha : a = 0
            · subst ha
              rw [if_pos rfl] at h2
              have ihn := exprs G m n Γ X C
              obtain ⟨own, h0, h⟩ := obind h2
              split at h
              · rename_i hc
                obtain ⟨t, q1, h⟩ := obind h
                obtain ⟨it, q2, h⟩ := obind h
                obtain ⟨ifs', q3, h⟩ := obind h
                obtain ⟨el', q4, h⟩ := obind h
                cases h
                have okb : BlkOk X.N X.env.scope scope own := by rw [C.N, C.sc]; exact blkOk_by hc.1
                have hT : isTupE tg = true → ∃ es k p, tg = .Tuple es k p := fun h => by
                  unfold isTupE at h
                  split at h
                  · exact ⟨_, _, _, rfl⟩
                  · cases h
                have ihB := fun s H c cl fp => exprs G m n _ _ (C.blk scope s H c cl fp)
                obtain ⟨wi, w1, w2⟩ := mkLc_ok C ihn (t := t) (ifs := ifs') (e := el') (own := own.map (·.2)) hT q2
                refine PS.imp (ps_setLc (wi := wi) (g := tG X.K t) (tt := tTs X.K G ifs') (te := tD X.K G el') C.calm C.nd n1 hloc hsw w1 okb (fun s H c cl fp => pg_tg (Γ := Γ.blk scope) (C.blk scope s H c cl fp).N (C.blk scope s H c cl fp).nd (C.blk scope s H c cl fp).sc (C.blk scope s H c cl fp).calm (C.blk scope s H c cl fp).fn tg t q1)
                  (fun s H c cl fp => pts_ok (ihB s H c cl fp) hc.2 q3) (fun s H c cl fp => (ihB s H c cl fp elt el' q4).e) (fold_no q2)) fun D σ H q => ?_
                exact w2 _ _ _ (tX_asg q)
              · cases h
            · rw [if_neg ha] at h2
              exact nope h2
theorem mkFor_ok (C : XOk Γ G m X) {n : Nat} (ih : IH Γ G X n) {tg iter : Expr} {it : It} {t : Tg} {b : List Sm} (hT : isTupE tg = true → ∃ es k p, tg = .Tuple es k p) (h : itC Γ (comp n Γ) (isTupE tg) iter = some it) :
    ∃ wi : TI, PI X tg iter wi ∧ ∀ (E : Str → L2.St → Hp → Prop) (D : Ends) σ H, tX X.K G E (Γ.mkFor t it b) D σ H → tFor wi (tG X.K t) (tXs X.K G E b) D σ H := by
  have gen : ∃ wi : TI, PI X tg iter wi ∧ ∀ (E : Str → L2.St → Hp → Prop) (D : Ends) σ H, tX X.K G E (.for t it b) D σ H → tFor wi (tG X.K t) (tXs X.K G E b) D σ H := ⟨_, pi_it C ih hT h, fun E D σ H q => tX_for q⟩
  unfold Gam.mkFor
  split
  · split
    · rename_i j
      exact ⟨_, pi_R (ih iter (.v j) (itC_seq h)).e, fun E D σ H q => tX_fork q⟩
    · exact gen
  · exact gen
theorem tupE_ok {tg : Expr} (h : isTupE tg = true) : ∃ es k p, tg = .Tuple es k p := by
  unfold isTupE at h
  split at h
  · exact ⟨_, _, _, rfl⟩
  · cases h
theorem tup_asg {ts : List Expr} {k : _} {p pos : Pos} {e : Expr} {env : Env} (h1 : ∀ es k p, e ≠ .Tuple es k p) (h2 : ∀ es p, e ≠ .List es p) : swappedStores [.Tuple ts k p] e env = pure none := by
  cases e <;> first | rfl | exact absurd rfl (h1 _ _ _) | exact absurd rfl (h2 _ _)
theorem s_asg (S : SOk Γ G m X W) {n : Nat} {t e : Expr} {pos : Pos} {ir : Sm} (h : asgC Γ (comp n Γ) t e = some ir) : PS X (.Assign [t] e pos) (tX X.K G (exOf X.mg W) ir) := by
  have C := S.x
  have ih := exprs G m n Γ X C
  have hu : X.A.units + 1 < cLine := by have := C.un; omega
  cases t <;> try (exact absurd h (fun z => by cases z))
  case Name x p =>
    obtain ⟨i, h1, h⟩ := obind (show (nmIx Γ (.Name x p)).bind _ = some ir from h)
    obtain ⟨e', h2, rfl⟩ := omap h
    exact s_set S h1 h2
  case Subscript a i p =>
    obtain ⟨a', h1, h⟩ := obind (show (comp n Γ a).bind _ = some ir from h)
    obtain ⟨i', h2, h⟩ := obind h
    obtain ⟨e', h3, h⟩ := obind h
    cases h
    exact PS.imp (ps_asg (ih e e' h3).e (pg_sub' (ih a a' h1).e (ih i i' h2).e (set_any hu) h2) sw_sub rfl) fun D σ H q => tX_sub q
  case Tuple ts k p =>
    replace h : (if isTupE e = true then parC Γ (comp n Γ) ts (itemsE e) else if isLstE e = true then none else tupC Γ (comp n Γ) ts e) = some ir := h
    split at h
    · rename_i ht
      obtain ⟨es, k2, p2, rfl⟩ := tupE_ok ht
      unfold parC itemsE at h
      dsimp only at h
      split at h
      · rename_i hc
        obtain ⟨is, h1, h⟩ := obind h
        obtain ⟨es', h2, h⟩ := obind h
        split at h
        · rename_i hd
          cases h
          exact s_par S h1 h2 hc.1 hc.2.1 hc.2.2 hd.1 hd.2
        · cases h
      · cases h
    · rename_i ht
      split at h
      · cases h
      · rename_i hl
        have hw : swappedStores [.Tuple ts k p] e X.env = pure none := tup_asg (pos := pos) (fun es k2 p2 z => ht (by rw [z]; rfl)) (fun es p2 z => hl (by rw [z]; rfl))
        unfold tupC at h
        split at h
        · rename_i a i p3 b
          obtain ⟨j, h1, h⟩ := obind h
          obtain ⟨a', h2, h⟩ := obind h
          obtain ⟨i', h3, h⟩ := obind h
          obtain ⟨e', h4, h⟩ := obind h
          cases h
          refine PS.imp (ps_asg (ih e e' h4).e (pg_tup (n := 2) C.calm (pgs_cons (pg_sub' (ih a a' h2).e (ih i i' h3).e (set_any hu) h3) (pgs_cons (pg_nm C h1) pgs_nil (by rw [nm_star h1]; rfl)) (by rfl)) (assignEach_len _ _) ?_) sw_tup hw) fun D σ H q => tX_tsub q
          show List.findIdx? (·.1) ((false, _) :: assignEach [b] X.env) = none
          rw [nm_star h1]
          rfl
        · obtain ⟨l, h1, h⟩ := obind h
          obtain ⟨e', h2, rfl⟩ := omap h
          have hg := pg_tg C.N C.nd C.sc C.calm C.fn (.Tuple ts k p) (.tup l) (by show (tgCs Γ ts).map Tg.tup = _; rw [h1]; rfl)
          exact PS.imp (ps_asg (ih e e' h2).e hg sw_tup hw) fun D σ H q => tX_asgT q
theorem ip_ok {op : Operator} {o : Op} (h : augO op = some o) : PIp X op (fun x y H Q => ∃ a b c, x = .int a ∧ y = .int b ∧ augI o a (.int b) = some c ∧ Q (.int c) H) := by
  intro pins s σ H x y v u Q I rx ry ⟨a, b, c, h1, h2, h3, q⟩
  cases op <;> simp only [augO] at h <;> try (cases h; done)
  all_goals cases h
  · cases h3; exact ip_add pins s σ H x y v u Q I rx ry ⟨a, b, h1, h2, q⟩
  · cases h3; exact ip_sub pins s σ H x y v u Q I rx ry ⟨a, b, h1, h2, q⟩
theorem s_aug (S : SOk Γ G m X W) {n : Nat} {x : Str} {p pos : Pos} {op : Operator} {e : Expr} {i : Nat} {o : Op} {e' : Ex} (h1 : nmIx Γ (.Name x p) = some i) (h2 : augO op = some o) (h3 : comp n Γ e = some e') : PS X (.AugAssign (.Name x p) op e pos) (tX X.K G (exOf X.mg W) (.aug i o e')) := by
  have C := S.x
  obtain ⟨x', p', z, n1, hx, hf, ok⟩ := nmIx_ok C h1
  cases z
  exact PS.imp (ps_aug C.nd n1 hx (exprs G m n Γ X C e e' h3).e (ip_ok h2) hf) fun D σ H q => tX_aug q
theorem rz_ok {Γ : Gam} {e : Expr} (h : isRz Γ e = true) : ∃ x p es ks pos, e = .Call (.Name x p) es ks pos ∧ (defOf Γ.defs x 0).isSome = true := by
  unfold isRz at h
  split at h
  · simp only [Bool.and_eq_true] at h
    exact ⟨_, _, _, _, _, rfl, h.2⟩
  · cases h
/-- a call that may let an exception out -/
theorem e_rz (S : SOk Γ G m X W) : ∀ {n : Nat} {e : Expr} {e' : Ex}, isRz Γ e = true → comp n Γ e = some e' → PE X e (tDX X.K X.mg W G e')
  | 0, _, _, _, h => by cases h
  | n + 1, e, e', hr, h => by
    have C := S.x
    have ih := exprs G m n Γ X C
    obtain ⟨x, p, es, ks, pos, rfl, hd⟩ := rz_ok hr
    replace h : (if okName x = true ∧ Γ.gl x = true then _ else none) = some e' := h
    split at h
    · rename_i hc
      cases q : defOf Γ.defs x 0 with
      | none => rw [q] at hd; cases hd
      | some gp =>
        obtain ⟨g, ps⟩ := gp
        rw [q] at h
        obtain ⟨es', h1, h⟩ := obind h
        cases ks with
        | nil =>
          dsimp only at h
          split at h
          · rename_i hl
            cases h
            exact e_defX C ih S.tk hc.1 hc.2 q h1 hl.1 hl.2
          · obtain ⟨qq, h2, h⟩ := obind h
            cases h
            exact e_kwX S.tk C ih (ks := []) (ks' := []) hc.1 hc.2 q h2 h1 rfl
        | cons k ks =>
          obtain ⟨qq, h2, h⟩ := obind h
          obtain ⟨ks', h3, h⟩ := obind h
          cases h
          exact e_kwX S.tk C ih hc.1 hc.2 q h2 h1 h3
    · cases h
theorem rz_plain {e : Expr} (h : isRz Γ e = true) : (∀ (t : Option Expr) l (env : Env), swapsWith e t l env = pure false) ∧ (∀ es k p, e ≠ .Tuple es k p) ∧ ∀ es p, e ≠ .List es p := by
  obtain ⟨x, p, es, ks, pos, rfl, _⟩ := rz_ok h
  exact ⟨(fun _ _ _ => rfl), (fun _ _ _ z => by cases z), (fun _ _ z => by cases z)⟩
theorem SOk.tr (S : SOk Γ G m X W) {pn : List (Addr × Obj)} {xe : Value → Shared → Prop} {W' : WX} (tk : Takes (X.tr pn xe) W') (hp : PassesOwn (model X.prog X.w) X.A X.env xe) : SOk Γ G m (X.tr pn xe) W' :=
  ⟨⟨S.x.N, S.x.nd, S.x.sc, S.x.calm, S.x.room, S.x.gd, S.x.df, S.x.cs, S.x.bs, S.x.lc, S.x.fn⟩, hp, S.kd, tk, S.hs, S.hf, S.xo⟩
theorem s_raise (S : SOk Γ G m X W) {e : Expr} {x : Str} {pos : Pos} (h : rzN Γ e = some x) : PS X (.Raise (some e) none pos) (tX X.K G (exOf X.mg W) (.raise x)) := by
  unfold rzN at h
  split at h
  · split at h
    · rename_i y p pos' hc
      cases h
      obtain ⟨C, h1, h2, h3, h4, h5⟩ := S.xo.xs _ hc.1
      exact PS.imp (ps_raise S.x.calm S.tk (pmk_own0 F.excBase_ValueError h2 h1 h3 (raises_own h4 h5) (gl_of S.x hc.2.2) (okName_ne hc.2.1).1)) fun D σ H q => tX_raise q _ h1
    · cases h
  · cases h
end
mutual
theorem s_all {Γ : Gam} {G : Call} {m : Nat} : ∀ (n : Nat) {X : Cx} {W : WX} (S : SOk Γ G m X W) (s : Stmt) (ir : Sm), cS n Γ s = some ir → PS X s (tX X.K G (exOf X.mg W) ir)
  | 0, _, _, _, _, _, h => by unfold cS at h; cases h
  | n + 1, X, W, S, s, ir, h => by
    have C := S.x
    have ih := exprs G m n Γ X C
    unfold cS at h
    cases s <;> try (cases h; done)
    case Pass pos => cases h; exact PS.imp ps_pass fun D σ H q => tX_pass q
    case Break pos => cases h; exact PS.imp ps_break fun D σ H q => tX_brk q
    case Continue pos => cases h; exact PS.imp ps_continue fun D σ H q => tX_cont q
    case Raise a b pos =>
      cases a with
      | none => cases h; exact PS.imp ps_never fun D σ H q => tX_never q
      | some e =>
        cases b with
        | some _ => cases h; exact PS.imp ps_never fun D σ H q => tX_never q
        | none =>
          replace h : (match rzN Γ e with | some x => some (.raise x) | none => some .never) = some ir := h
          cases q : rzN Γ e with
          | none => rw [q] at h; cases h; exact PS.imp ps_never fun D σ H q => tX_never q
          | some x => rw [q] at h; cases h; exact s_raise S q
    case Try body hs els fin pos =>
      match hs, els, fin, h with
      | [.ExceptHandler (some (.Name x np)) none (b0 :: suite) hp], [], [], h =>
        replace h : (if Γ.xc.contains x = true ∧ okName x = true ∧ Γ.gl x = true then (cSs n Γ body).bind fun b => (hdC (b0 :: suite)).bind fun h => some (.trys b (Γ.mt x) Γ.xs h) else none) = some ir := h
        split at h
        · rename_i hc
          obtain ⟨b, h1, h⟩ := obind h
          obtain ⟨h', h2, h⟩ := obind h
          cases h
          obtain ⟨D', d1, d2⟩ := S.xo.xc x hc.1
          exact PS.imp (ps_try_only (tb := fun W' => tXs X.K G (exOf X.mg W') b) (ts := fun _ _ _ => tXs X.K G (exOf X.mg noW) h') S.hs S.hf ⟨gl_of C hc.2.2, (okName_ne hc.2.1).1, .inl d1⟩ S.tk
            (fun W' pn xe tk hp => ss_all n (S.tr tk hp) body b h1) (fun a oe cls d pn _ _ => hd_ok h2)) fun D σ H q => tX_try q d2
        · cases h
    case Expr e pos =>
      dsimp only at h
      split at h
      · rename_i hr
        obtain ⟨e', h1, rfl⟩ := omap h
        exact PS.imp (ps_expr (e_rz S hr h1) (by obtain ⟨x, p, es, ks, pos, rfl, _⟩ := rz_ok hr; rfl)) fun D σ H q => tX_clx q
      split at h
      · rename_i hd
        obtain ⟨e', h1, rfl⟩ := omap h
        exact PS.imp (ps_expr (ih e e' h1).e (by cases e <;> first | rfl | cases hd)) fun D σ H q => tX_ex q
      · cases h
    case Return v pos =>
      cases v with
      | none => cases h; exact PS.imp ps_retN fun D σ H q => tX_retN q
      | some e =>
        replace h : (if isRz Γ e = true then (comp n Γ e).map .clr else (comp n Γ e).map .ret) = some ir := h
        split at h
        · rename_i hr
          obtain ⟨e', h1, rfl⟩ := omap h
          exact PS.imp (ps_ret (e_rz S hr h1)) fun D σ H q => tX_clr q
        · obtain ⟨e', h1, rfl⟩ := omap h
          exact PS.imp (ps_ret (ih e e' h1).e) fun D σ H q => tX_ret q
    case If c a b pos =>
      obtain ⟨c', h1, h⟩ := obind h
      obtain ⟨a', h2, h⟩ := obind h
      obtain ⟨b', h3, h⟩ := obind h
      cases h
      exact PS.imp (ps_if (ih c c' h1).t (ss_all n S a a' h2) (ss_all n S b b' h3)) fun D σ H q => tX_if q
    case While c b els pos =>
      cases els with
      | cons _ _ => cases h
      | nil =>
        obtain ⟨c', h1, h⟩ := obind h
        obtain ⟨b', h2, h⟩ := obind h
        cases h
        exact PS.imp (ps_while S.hp (ih c c' h1).t (ss_all n S b b' h2)) fun D σ H q => tX_whl q
    case For t it b els pos =>
      cases els with
      | cons _ _ => cases h
      | nil =>
        obtain ⟨t', h1, h⟩ := obind h
        obtain ⟨it', h2, h⟩ := obind h
        obtain ⟨b', h3, h⟩ := obind h
        cases h
        obtain ⟨wi, w1, w2⟩ := mkFor_ok C ih (t := t') (b := b') tupE_ok h2
        exact PS.imp (ps_for S.hp C.calm w1 (pg_tg C.N C.nd C.sc C.calm C.fn t t' h1) (ss_all n S b b' h3) (fold_no h2)) fun D σ H q => w2 _ D σ H q
    case Assign ts e pos =>
      match ts, h with
      | [], h => cases h
      | _ :: _ :: _, h => cases h
      | [t], h =>
        dsimp only at h
        split at h
        · rename_i hr
          obtain ⟨sw, nt, nl⟩ := rz_plain hr
          split at h
          · obtain ⟨i, h1, h⟩ := obind h
            obtain ⟨e', h2, rfl⟩ := omap h
            obtain ⟨x', p', z, n1, hx, hf, ok⟩ := nmIx_ok C h1
            cases z
            exact PS.imp (ps_set C.nd n1 hx (e_rz S hr h2) (sw _ _ _) hf) fun D σ H q => tX_cla q
          · rename_i ts k p
            obtain ⟨l, h1, h⟩ := obind h
            obtain ⟨e', h2, rfl⟩ := omap h
            have hg := pg_tg C.N C.nd C.sc C.calm C.fn (.Tuple ts k p) (.tup l) (by show (tgCs Γ ts).map Tg.tup = _; rw [h1]; rfl)
            exact PS.imp (ps_asg (e_rz S hr h2) hg sw_tup (tup_asg (pos := pos) nt nl)) fun D σ H q => tX_clt q
          · cases h
        · exact s_asg S h
    case AugAssign t op e pos =>
      cases t <;> try (cases h; done)
      rename_i x p
      obtain ⟨i, h1, h⟩ := obind h
      obtain ⟨o, h2, h⟩ := obind h
      obtain ⟨e', h3, h⟩ := obind h
      cases h
      exact s_aug S h1 h2 h3
theorem ss_all {Γ : Gam} {G : Call} {m : Nat} : ∀ (n : Nat) {X : Cx} {W : WX} (S : SOk Γ G m X W) (s : List Stmt) (ir : List Sm), cSs n Γ s = some ir → PSs X s (tXs X.K G (exOf X.mg W) ir)
  | 0, _, _, _, _, _, h => by unfold cSs at h; cases h
  | n + 1, X, W, S, [], ir, h => by
    unfold cSs at h
    cases h
    exact PSs.imp pss_nil fun D σ H q => tXs_nil q
  | n + 1, X, W, S, s :: ss, ir, h => by
    unfold cSs at h
    obtain ⟨a, h1, h⟩ := obind h
    obtain ⟨l, h2, h⟩ := obind h
    cases h
    exact PSs.imp (pss_cons (s_all n S s a h1) (ss_all n S ss l h2)) fun D σ H q => tXs_cons q
end
end Vm
set_option maxRecDepth 100000
set_option maxHeartbeats 1000000
namespace Vm
open PySem PySem.Spec L2
/-! ### a def's entry -/
section
variable {K : PySem.W.Frag} {L : ASet} {H : Hp}
theorem ArgsR.len : ∀ {args : List Arg} {vs : List V}, ArgsR K L H args vs → vs.length = args.length
  | [], _, h => by rw [show _ = [] from h]; rfl
  | _ :: _, _, ⟨v, r, e, _, h⟩ => by rw [e]; exact congrArg (· + 1) h.len
theorem entR_len : ∀ (args : List Arg) (n : Nat), (entR n args).length = args.length
  | [], _ => rfl
  | .d _ :: r, n => congrArg (· + 1) (entR_len r n)
  | .o _ :: r, n => congrArg (· + 1) (entR_len r n)
  | .r _ :: r, n => congrArg (· + 1) (entR_len r (n + 1))
/-- a slot at the entry -/
theorem ent_get : ∀ {args : List Arg} {vs : List V} {n i : Nat} {l : LV}, ArgsR K L H args vs → (entR n args)[i]? = some l →
    ∃ v, vs[i]? = some v ∧ ((∃ x, args[i]? = some (Arg.d x) ∧ l = .d x ∧ RdP K L H x v) ∨ (∃ (o : Ob) (p : Addr), args[i]? = some (Arg.o o) ∧ l = .own o ∧ v = .ref p ∧ ObR K L H p o) ∨ ∃ (o : Ob) (p : Addr) (m : Nat), args[i]? = some (Arg.r o) ∧ l = .c (n + m) ∧ v = .ref p ∧ (radr args vs)[m]? = some p)
  | [], _, n, i, l, _, h => by simp [entR] at h
  | .d x :: r, _, n, 0, l, ⟨v, ws, e, h1, h2⟩, h => by
    subst e
    have h : some (LV.d x) = some l := h
    cases h
    exact ⟨v, rfl, .inl ⟨x, rfl, rfl, h1⟩⟩
  | .o o :: r, _, n, 0, l, ⟨v, ws, e, ⟨p, e1, h1⟩, h2⟩, h => by
    subst e
    have h : some (LV.own o) = some l := h
    cases h
    exact ⟨v, rfl, .inr (.inl ⟨o, p, rfl, rfl, e1, h1⟩)⟩
  | .r o :: r, _, n, 0, l, ⟨v, ws, e, ⟨p, e1, h1⟩, h2⟩, h => by
    subst e e1
    have h : some (LV.c n) = some l := h
    cases h
    exact ⟨_, rfl, .inr (.inr ⟨o, p, 0, rfl, rfl, rfl, rfl⟩)⟩
  | .d x :: r, _, n, i + 1, l, ⟨v, ws, e, h1, h2⟩, h => by
    subst e
    obtain ⟨w, q1, q2⟩ := ent_get (i := i) (n := n) h2 (by simpa [entR] using h)
    refine ⟨w, by simpa using q1, ?_⟩
    have er : radr (.d x :: r) (v :: ws) = radr r ws := by cases v <;> rfl
    rw [er]
    simpa using q2
  | .o x :: r, _, n, i + 1, l, ⟨v, ws, e, h1, h2⟩, h => by
    subst e
    obtain ⟨w, q1, q2⟩ := ent_get (i := i) (n := n) h2 (by simpa [entR] using h)
    refine ⟨w, by simpa using q1, ?_⟩
    have er : radr (.o x :: r) (v :: ws) = radr r ws := by cases v <;> rfl
    rw [er]
    simpa using q2
  | .r x :: r, _, n, i + 1, l, ⟨v, ws, e, ⟨p, e1, h1⟩, h2⟩, h => by
    subst e e1
    obtain ⟨w, q1, q2⟩ := ent_get (i := i) (n := n + 1) h2 (by simpa [entR] using h)
    refine ⟨w, by simpa using q1, ?_⟩
    have er : radr (.r x :: r) (.ref p :: ws) = p :: radr r ws := rfl
    rw [er]
    rcases q2 with q2 | q2 | ⟨o, p', m, z1, z2, z3, z4⟩
    · exact .inl (by simpa using q2)
    · exact .inr (.inl (by simpa using q2))
    · exact .inr (.inr ⟨o, p', m + 1, by simpa using z1, by rw [z2]; congr 1; omega, z3, by simpa using z4⟩)
theorem entS_get : ∀ {args : List Arg} {vs : List V} {m : Nat} {u : SV}, ArgsR K L H args vs → (entS args)[m]? = some u → ∃ (i : Nat) (o : Ob) (p : Addr), args[i]? = some (Arg.r o) ∧ u = .own o ∧ vs[i]? = some (V.ref p) ∧ (radr args vs)[m]? = some p ∧ ObR K L H p o
  | [], _, m, u, _, h => by simp [entS] at h
  | .d x :: r, _, m, u, ⟨v, ws, e, h1, h2⟩, h => by
    subst e
    obtain ⟨i, o, p, q1, q2, q3, q4, q5⟩ := entS_get h2 (show (entS r)[m]? = some u from h)
    have er : radr (.d x :: r) (v :: ws) = radr r ws := by cases v <;> rfl
    exact ⟨i + 1, o, p, by simpa using q1, q2, by simpa using q3, by rw [er]; exact q4, q5⟩
  | .o x :: r, _, m, u, ⟨v, ws, e, h1, h2⟩, h => by
    subst e
    obtain ⟨i, o, p, q1, q2, q3, q4, q5⟩ := entS_get h2 (show (entS r)[m]? = some u from h)
    have er : radr (.o x :: r) (v :: ws) = radr r ws := by cases v <;> rfl
    exact ⟨i + 1, o, p, by simpa using q1, q2, by simpa using q3, by rw [er]; exact q4, q5⟩
  | .r x :: r, _, 0, u, ⟨v, ws, e, ⟨p, e1, h1⟩, h2⟩, h => by
    subst e e1
    have h : some (SV.own x) = some u := h
    cases h
    exact ⟨0, x, p, rfl, rfl, rfl, rfl, h1⟩
  | .r x :: r, _, m + 1, u, ⟨v, ws, e, ⟨p, e1, h1⟩, h2⟩, h => by
    subst e e1
    obtain ⟨i, o, p', q1, q2, q3, q4, q5⟩ := entS_get h2 (show (entS r)[m]? = some u by simpa [entS] using h)
    exact ⟨i + 1, o, p', by simpa using q1, q2, by simpa using q3, by show (p :: radr r ws)[m + 1]? = _; simpa using q4, q5⟩
theorem entS_len : ∀ {args : List Arg} {vs : List V}, ArgsR K L H args vs → (radr args vs).length = (entS args).length
  | [], _, h => by obtain rfl : _ = [] := h; rfl
  | .d x :: r, _, ⟨v, ws, e, h1, h2⟩ => by
    subst e
    have er : radr (.d x :: r) (v :: ws) = radr r ws := by cases v <;> rfl
    rw [er]; exact entS_len h2
  | .o x :: r, _, ⟨v, ws, e, h1, h2⟩ => by
    subst e
    have er : radr (.o x :: r) (v :: ws) = radr r ws := by cases v <;> rfl
    rw [er]; exact entS_len h2
  | .r x :: r, _, ⟨v, ws, e, ⟨p, e1, h1⟩, h2⟩ => by
    subst e e1
    exact congrArg (· + 1) (entS_len h2)
def isD : Arg → Bool
  | .d _ => true
  | _ => false
theorem oadr_mem : ∀ {args : List Arg} {vs : List V} {i : Nat} {a : Arg} {v : V}, args[i]? = some a → isD a = false → vs[i]? = some v → v ∈ oadr args vs
  | [], _, _, _, _, h, _, _ => by simp at h
  | _ :: _, [], _, _, _, _, _, h => by simp at h
  | a :: r, v :: ws, 0, _, _, h, hd, h' => by
    simp at h h'; subst h h'
    cases a <;> first | (cases hd; done) | exact List.mem_cons_self ..
  | a :: r, v :: ws, i + 1, b, w, h, hd, h' => by
    have := oadr_mem (args := r) (vs := ws) (i := i) (by simpa using h) hd (by simpa using h')
    cases a <;> first | exact this | exact List.mem_cons_of_mem _ this
theorem oadr_inj : ∀ {args : List Arg} {vs : List V} {i j : Nat} {a b : Arg} {v : V}, (oadr args vs).Nodup → args[i]? = some a → isD a = false → vs[i]? = some v → args[j]? = some b → isD b = false → vs[j]? = some v → i = j
  | [], _, _, _, _, _, _, _, h, _, _, _, _, _ => by simp at h
  | _ :: _, [], _, _, _, _, _, _, _, _, h, _, _, _ => by simp at h
  | a :: r, v :: ws, 0, 0, _, _, _, _, _, _, _, _, _, _ => rfl
  | a :: r, v :: ws, 0, j + 1, _, b, w, nd, h1, d1, h2, h3, d2, h4 => by
    simp at h1 h2; subst h1 h2
    have := oadr_mem (args := r) (vs := ws) (i := j) (by simpa using h3) d2 (by simpa using h4)
    cases a <;> first | (cases d1; done) | exact absurd this (List.nodup_cons.mp nd).1
  | a :: r, v :: ws, i + 1, 0, _, b, w, nd, h1, d1, h2, h3, d2, h4 => by
    simp at h3 h4; subst h3 h4
    have := oadr_mem (args := r) (vs := ws) (i := i) (by simpa using h1) d1 (by simpa using h2)
    cases a <;> first | (cases d2; done) | exact absurd this (List.nodup_cons.mp nd).1
  | a :: r, v :: ws, i + 1, j + 1, x, b, w, nd, h1, d1, h2, h3, d2, h4 => by
    have nd' : (oadr r ws).Nodup := by
      cases a <;> first | exact nd | exact (List.nodup_cons.mp nd).2
    rw [oadr_inj (i := i) (j := j) nd' (by simpa using h1) d1 (by simpa using h2) (by simpa using h3) d2 (by simpa using h4)]
theorem oadr_at : ∀ {args : List Arg} {vs : List V} {w : V}, w ∈ oadr args vs → ∃ (i : Nat) (a : Arg), args[i]? = some a ∧ isD a = false ∧ vs[i]? = some w
  | [], _, _, h => by simp [oadr] at h
  | _ :: _, [], _, h => by
    rename_i a r
    cases a <;> simp [oadr] at h
  | a :: r, v :: ws, w, h => by
    have tail : w ∈ oadr r ws → ∃ (i : Nat) (b : Arg), (a :: r)[i]? = some b ∧ isD b = false ∧ (v :: ws)[i]? = some w := fun h => by
      obtain ⟨i, b, q1, q2, q3⟩ := oadr_at h
      exact ⟨i + 1, b, by simpa using q1, q2, by simpa using q3⟩
    cases a with
    | d x => exact tail h
    | o o =>
      rcases List.mem_cons.mp (show w ∈ v :: oadr r ws from h) with z | z
      · exact ⟨0, _, rfl, rfl, by rw [z]; rfl⟩
      · exact tail z
    | r o =>
      rcases List.mem_cons.mp (show w ∈ v :: oadr r ws from h) with z | z
      · exact ⟨0, _, rfl, rfl, by rw [z]; rfl⟩
      · exact tail z
end
end Vm
set_option maxRecDepth 100000
set_option maxHeartbeats 1000000
namespace Vm
open PySem PySem.Spec L2
section
variable {K : PySem.W.Frag} {A : ASet} {H : Hp}
theorem start_get {N : List Str} {vs : List V} {i : Nat} {v : V} (h : vs[i]? = some v) : (L2.start N vs)[i]? = some (some v) := by
  unfold L2.start
  obtain ⟨h1, h2⟩ := List.getElem?_eq_some_iff.mp h
  rw [List.getElem?_append_left (by simpa using h1), List.getElem?_map, h]
  rfl
theorem start_len {N : List Str} {vs : List V} (h : vs.length ≤ N.length) : (L2.start N vs).length = N.length := by
  unfold L2.start
  rw [List.length_append, List.length_map, List.length_replicate]
  omega
theorem entry_get {d : Df} {args : List Arg} {i : Nat} {l : LV} (h : (entry d args).ρ[i]? = some l) : (entR 0 args)[i]? = some l ∨ l = .no := by
  have h : (entR 0 args ++ List.replicate (d.ns - d.np) LV.no)[i]? = some l := h
  rcases Nat.lt_or_ge i (entR 0 args).length with hi | hi
  · rw [List.getElem?_append_left hi] at h; exact .inl h
  · rw [List.getElem?_append_right hi, List.getElem?_replicate] at h
    split at h
    · exact .inr (Option.some.inj h).symm
    · cases h
theorem radr_nd {L : ASet} : ∀ {args : List Arg} {vs : List V}, ArgsR K L H args vs → (oadr args vs).Nodup → (radr args vs).Nodup ∧ ∀ a ∈ radr args vs, V.ref a ∈ oadr args vs
  | [], _, h, _ => by obtain rfl : _ = [] := h; exact ⟨List.nodup_nil, fun a h => by simp [radr] at h⟩
  | .d x :: r, _, ⟨v, ws, e, h1, h2⟩, nd => by
    subst e
    have er : radr (.d x :: r) (v :: ws) = radr r ws := by cases v <;> rfl
    rw [er]; exact radr_nd h2 nd
  | .o x :: r, _, ⟨v, ws, e, h1, h2⟩, nd => by
    subst e
    have er : radr (.o x :: r) (v :: ws) = radr r ws := by cases v <;> rfl
    rw [er]
    obtain ⟨q1, q2⟩ := radr_nd h2 (List.nodup_cons.mp nd).2
    exact ⟨q1, fun a ha => List.mem_cons_of_mem _ (q2 a ha)⟩
  | .r x :: r, _, ⟨v, ws, e, ⟨p, e1, h1⟩, h2⟩, nd => by
    subst e e1
    obtain ⟨n1, n2⟩ := List.nodup_cons.mp (show (V.ref p :: oadr r ws).Nodup from nd)
    obtain ⟨q1, q2⟩ := radr_nd h2 n2
    refine ⟨List.nodup_cons.mpr ⟨fun z => n1 (q2 p z), q1⟩, fun a ha => ?_⟩
    rcases List.mem_cons.mp (show a ∈ p :: radr r ws from ha) with z | z
    · rw [z]; exact List.mem_cons_self ..
    · exact List.mem_cons_of_mem _ (q2 a z)
/-- AT THE ENTRY -/
theorem entry_rel {N : List Str} {d : Df} {args : List Arg} {vs : List V} (hn : args.length = d.np) (hN : d.ns = N.length) (hle : d.np ≤ N.length) (al : ∀ a, A a → ∃ o, H a = some o) (ar : ArgsR K (LA A args vs) H args vs)
    (nd : (oadr args vs).Nodup) (na : ∀ a, V.ref a ∈ oadr args vs → ¬ A a) : Rel K A (radr args vs) (entry d args) (L2.start N vs) H ∧ Lv A (entry d args) (radr args vs) (L2.start N vs) = LA A args vs := by
  have hl := ar.len
  have lρ : (entry d args).ρ.length = N.length := by
    show (entR 0 args ++ List.replicate (d.ns - d.np) LV.no).length = _
    rw [List.length_append, entR_len, List.length_replicate]
    omega
  have own : ∀ (i : Nat) (o : Ob), (entry d args).ρ[i]? = some (.own o) → ∃ p, args[i]? = some (Arg.o o) ∧ vs[i]? = some (V.ref p) ∧ ObR K (LA A args vs) H p o := fun i o e => by
    rcases entry_get e with e | e
    · obtain ⟨v, h1, h2⟩ := ent_get ar e
      rcases h2 with ⟨_, _, z, _⟩ | ⟨o', p, z1, z2, z3, z4⟩ | ⟨_, _, _, _, z, _⟩
      · cases z
      · cases z2; subst z3; exact ⟨p, z1, h1, z4⟩
      · cases z
    · cases e
  have lv : ∀ a, Lv A (entry d args) (radr args vs) (L2.start N vs) a ↔ LA A args vs a := fun a => by
    constructor
    · rintro (h | ⟨i, o, e, e'⟩ | ⟨n, o, e, e'⟩)
      · exact .inl h
      · obtain ⟨p, h1, h2, _⟩ := own i o e
        rw [start_get h2] at e'
        cases e'
        exact .inr (oadr_mem h1 rfl h2)
      · obtain ⟨i, o', p, h1, _, h3, h4, _⟩ := entS_get ar e
        rw [h4] at e'
        cases e'
        exact .inr (oadr_mem h1 rfl h3)
    · rintro (h | h)
      · exact .inl h
      · obtain ⟨i, b, h1, h2, h3⟩ := oadr_at h
        cases b with
        | d x => cases h2
        | o o =>
          refine .inr (.inl ⟨i, o, ?_, start_get h3⟩)
          show (entR 0 args ++ List.replicate (d.ns - d.np) LV.no)[i]? = _
          have hi : i < (entR 0 args).length := by rw [entR_len]; exact (List.getElem?_eq_some_iff.mp h1).1
          rw [List.getElem?_append_left hi]
          obtain ⟨v, q1, q2⟩ := ent_get (l := (entR 0 args)[i]) (n := 0) ar (List.getElem?_eq_getElem hi)
          rw [List.getElem?_eq_getElem hi]
          rcases q2 with ⟨_, z, _⟩ | ⟨o', p, z1, z2, _⟩ | ⟨_, _, _, z, _⟩
          · rw [h1] at z; cases z
          · rw [h1] at z1; cases z1; rw [z2]
          · rw [h1] at z; cases z
        | r o =>
          have hi : i < (entR 0 args).length := by rw [entR_len]; exact (List.getElem?_eq_some_iff.mp h1).1
          obtain ⟨v, q1, q2⟩ := ent_get (l := (entR 0 args)[i]) (n := 0) ar (List.getElem?_eq_getElem hi)
          rw [h3] at q1; cases q1
          rcases q2 with ⟨_, z, _⟩ | ⟨o', p, z1, z2, _⟩ | ⟨o', p, m, z1, z2, z3, z4⟩
          · rw [h1] at z; cases z
          · rw [h1] at z1; cases z1
          · cases z3
            have hm : m < (entS args).length := by rw [← entS_len ar]; exact (List.getElem?_eq_some_iff.mp z4).1
            obtain ⟨u, hu⟩ : ∃ u, (entS args)[m]? = some u := ⟨_, List.getElem?_eq_getElem hm⟩
            obtain ⟨_, o2, _, _, e2, _⟩ := entS_get ar hu
            rw [e2] at hu
            exact .inr (.inr ⟨m, o2, hu, z4⟩)
  have eqL : Lv A (entry d args) (radr args vs) (L2.start N vs) = LA A args vs := by funext a; exact propext (lv a)
  refine ⟨⟨?_, entS_len ar, fun i x e => ?_, fun i o e => ?_, fun i n e => ?_, fun n x a e e' => ?_, fun n o a e e' => ?_, fun i j a o o' e1 e2 e3 e4 => ?_, fun i n a o o' e1 e2 e3 e4 => ?_, fun n m a o o' e1 e2 e3 e4 => ?_, al⟩, eqL⟩
  · rw [start_len (by omega), lρ]
  · rw [eqL]
    rcases entry_get e with e | e
    · obtain ⟨v, h1, h2⟩ := ent_get ar e
      rcases h2 with ⟨x', z1, z2, z3⟩ | ⟨_, _, _, z, _⟩ | ⟨_, _, _, _, z, _⟩
      · cases z2; exact ⟨v, start_get h1, z3⟩
      · cases z
      · cases z
    · cases e
  · rw [eqL]
    obtain ⟨p, h1, h2, h3⟩ := own i o e
    exact ⟨p, start_get h2, h3, na p (oadr_mem h1 rfl h2)⟩
  · rcases entry_get e with e | e
    · obtain ⟨v, h1, h2⟩ := ent_get ar e
      rcases h2 with ⟨_, _, z, _⟩ | ⟨_, _, _, z, _⟩ | ⟨o', p, m, z1, z2, z3, z4⟩
      · cases z
      · cases z
      · cases z2
        subst z3
        rw [Nat.zero_add]
        exact ⟨p, z4, start_get h1⟩
    · cases e
  · obtain ⟨_, _, _, _, z, _⟩ := entS_get ar e
    cases z
  · rw [eqL]
    obtain ⟨i, o', p, h1, h2, h3, h4, h5⟩ := entS_get ar e
    rw [h4] at e'
    cases e'
    cases h2
    exact ⟨h5, na _ (oadr_mem h1 rfl h3)⟩
  · obtain ⟨p, h1, h2, _⟩ := own i o e1
    obtain ⟨q, h3, h4, _⟩ := own j o' e2
    rw [start_get h2] at e3
    cases e3
    rw [start_get h4] at e4
    cases e4
    exact oadr_inj nd h1 rfl h2 h3 rfl h4
  · obtain ⟨p, h1, h2, _⟩ := own i o e1
    obtain ⟨j, o2, q, h3, _, h5, h6, _⟩ := entS_get ar e2
    rw [start_get h2] at e3
    cases e3
    rw [h6] at e4
    cases e4
    have := oadr_inj nd h1 rfl h2 h3 rfl h5
    subst this
    rw [h1] at h3
    cases h3
  · have hlt : n < (radr args vs).length := (List.getElem?_eq_some_iff.mp e3).1
    exact (List.getElem?_inj hlt (radr_nd ar nd).1).mp (e3.trans e4.symm)
end
end Vm
set_option maxRecDepth 100000
set_option maxHeartbeats 1000000
namespace Vm
open PySem PySem.Spec L2
section
variable {K : PySem.W.Frag} {A : ASet} {H H' : Hp}
theorem outsR_of {L : ASet} : ∀ {us : List SV} {xs : List Addr}, xs.length = us.length → (∀ (m : Nat) (u : SV) (a : Addr), us[m]? = some u → xs[m]? = some a → OutR K L H u a) → OutsR K L H us xs
  | [], [], _, _ => rfl
  | [], _ :: _, l, _ => by cases l
  | _ :: _, [], l, _ => by cases l
  | u :: us, a :: xs, l, h => ⟨a, xs, rfl, h 0 u a rfl rfl, outsR_of (by simpa using l) fun m u a h1 h2 => h (m + 1) u a (by simpa using h1) (by simpa using h2)⟩
/-- AT THE EXIT -/
theorem exit_post {args : List Arg} {vs : List V} {f f' : F} {σ σ' : L2.St} {rr : RR} {v : V} (hL : Lv A f (radr args vs) σ = LA A args vs) (hS : f'.S.all SV.ok = true) (p : RPost K A (radr args vs) f σ H rr f' v σ' H') : CallPost K A args vs H rr f'.S v H' := by
  obtain ⟨A', s, R, r, n, x, k⟩ := p
  rw [hL] at x
  refine ⟨Lv A' f' (radr args vs) σ', fun a h => .inl (s a h), fun a h => h.elim (R.al a) R.own_some, outsR_of R.lenS fun m u a h1 h2 => ?_, ?_, x, k⟩
  · cases u with
    | no => exact trivial
    | d y => exact R.cd m y a h1 h2
    | own o => exact ⟨(R.co m o a h1 h2).1, .inr (.inr ⟨m, o, h1, h2⟩)⟩
  · cases rr with
    | ex c =>
      have r : Rd K (Lv A' f' (radr args vs) σ') H' .none v := RdP.rd r
      unfold Rd at r
      exact r
    | d y => exact r
    | fr o =>
      obtain ⟨p, e, ap, ob⟩ := r
      refine ⟨p, e, .inl ap, n o rfl p e, fun hp => ?_, ob⟩
      obtain ⟨m, hm, em⟩ := List.getElem_of_mem hp
      have e1 : (radr args vs)[m]? = some p := by rw [List.getElem?_eq_getElem hm, em]
      have hm' : m < f'.S.length := by rw [← R.lenS]; exact hm
      have e2 : f'.S[m]? = some f'.S[m] := List.getElem?_eq_getElem hm'
      have ok := List.all_eq_true.mp hS _ (List.getElem_mem hm')
      cases q : f'.S[m] with
      | no => rw [q] at ok; cases ok
      | d y => rw [q] at e2; exact (R.cd m y p e2 e1).2.1 (.inl ap)
      | own o => rw [q] at e2; exact (R.co m o p e2 e1).2 ap
end
/-! ### all defs -/
section
variable (P : Program) (w : World) (K : PySem.W.Frag) (mg : Str → Option Value) (base : Heap)
/-- a def and its text in the small language -/
def DefOk (Γ : Gam) (defs : List Df) (g : Nat) (f : Addr) (fd : FuncData) (ps : List Str) : Prop :=
  ∃ (x q : Str) (pa : Arguments) (bd : List Stmt) (sc : Scope) (dvs : List V) (kws : List (Str × V)) (N : List Str) (ir : List Sm) (n : Nat) (pt kp kf : Bool), FunD K x q pa bd sc dvs kws f fd ∧ FnScope N ps sc ∧
    cSs n { Γ with N := N, sc := sc, fn := fun _ => true, pt := pt, kp := kp, kf := kf } bd = some ir ∧ defs[g]? = some ⟨ps.length, N.length, ir⟩
structure WOk (Γ : Gam) (defs : List Df) : Prop where
  df : ∀ x g ps, defOf Γ.defs x 0 = some (g, ps) → ∃ f fd, mg x = some (.ref f) ∧ PySem.W.keepIn K (.ref f) = true ∧ (Γ.kwo.contains x = false → ∀ us : List Value, us.length = ps.length → bindArgs fd ⟨us, []⟩ = pure (ps.zip us)) ∧
    (∀ n ks ds pm, (x, n, ks, ds, pm) ∈ Γ.kws → pm.length = ps.length ∧ pm.Nodup ∧ (∀ i ∈ pm, i < n + ks.length + ds.length) ∧ ∃ (zs : List V) (dus : List Value), Vals zs dus ∧ (∀ L H, RdA K L H ds zs) ∧
      ∀ (s : Shared) (us ws : List Value), K.In s.heap → us.length = n → ws.length = ks.length → BindsTo s fd ⟨us, ks.zip ws⟩ (ps.zip (permR (us ++ (ws ++ dus)) pm))) ∧
    DefOk K Γ defs g f fd ps
  cs : ∀ x d, Γ.cs.lookup x = some d → ∃ u v, mg x = some u ∧ RelV v u ∧ ∀ L H, Rd K L H d v
  bs : ∀ x, Γ.bs.contains x = true → mg x = none
  xo : XsOk Γ K mg
end
section
variable {P : Program} {w : World} {K : PySem.W.Frag} {mg : Str → Option Value} {base : Heap} {Γ : Gam} {defs : List Df}
/-- EVERY DEF DOES WHAT THE SMALL LANGUAGE SAYS -/
theorem fn_all (W : WOk K mg Γ defs) : ∀ (n g : Nat) (f : Addr) (fd : FuncData) (ps : List Str), DefOk K Γ defs g f fd ps → FnG P w K mg base n f fd ps (spG K mg ps.length (runD defs n g))
  | 0, g, f, fd, ps, D => by
    refine ⟨fun vs H Q E ⟨_, _, _, _, h, _⟩ => h, fun A outer s H args us vs Q E _ _ _ _ _ h => ?_⟩
    obtain ⟨_, _, _, _, _, _, _, _, _, e, _⟩ := h
    cases e
  | n + 1, g, f, fd, ps, D => by
    obtain ⟨x, q, pa, bd, sc, dvs, kws, N, ir, fl, pt, kp, kf, Fd, S, hc, hd⟩ := D
    refine fnG_of Fd S (fun vs H Q E ⟨_, _, _, _, h, _⟩ => h) fun cd A outer s H vs Q E room hg sp => ?_
    obtain ⟨A0, args, rr, outs, hl, al, ar, nd, na, e, hQ⟩ := sp
    have hpl : ps.length ≤ N.length := by have := congrArg List.length S.pre; rw [List.length_take] at this; omega
    have X : XOk { Γ with N := N, sc := sc, fn := fun _ => true, pt := pt, kp := kp, kf := kf } (runD defs n) n (bodyCx P w K mg base N q sc f cd A outer s H E) := {
      N := rfl
      nd := S.nd
      sc := rfl
      calm := rfl
      room := room
      gd := hg
      df := fun x g ps h => by
        obtain ⟨f, fd, h1, h2, h3, h4, h5⟩ := W.df x g ps h
        exact ⟨f, fd, h1, h2, h3, h4, fn_all W n g f fd ps h5⟩
      cs := W.cs
      bs := W.bs
      lc := W.xo.lc
      fn := fun _ _ => rfl }
    have SO : SOk { Γ with N := N, sc := sc, fn := fun _ => true, pt := pt, kp := kp, kf := kf } (runD defs n) n (bodyCx P w K mg base N q sc f cd A outer s H E) (fun cls d _ H => E cls d H) := ⟨X, passes_of rfl, S.kind, takes_of rfl rfl rfl rfl, rfl, rfl, ⟨W.xo.xs, W.xo.xc, W.xo.lc⟩⟩
    refine ⟨_, ss_all fl SO bd ir hc, ?_⟩
    unfold runD at e
    rw [hd] at e
    dsimp only at e
    split at e
    · rename_i hn
      obtain ⟨R, eL⟩ := entry_rel (d := ⟨ps.length, N.length, ir⟩) (N := N) hn rfl hpl al ar nd na
      refine ⟨A0, radr args vs, _, R, ?_⟩
      split at e
      · rename_i r f' hx
        rw [hx]
        split at e
        · rename_i hS
          cases e
          intro v σ' H' p
          have z := hQ v H' (exit_post eL hS p)
          cases rr with
          | ex c => exact z
          | d x => exact z
          | fr o => exact z
        · cases e
      · rename_i f' hx
        rw [hx]
        split at e
        · rename_i hS
          cases e
          refine fun σ' H' p => hQ .non H' (exit_post (σ' := σ') eL hS ?_)
          obtain ⟨R', x', k'⟩ := p
          exact ⟨A0, fun _ z => z, R', .inl (rd_none (K := K) (L := Lv A0 f' (radr args vs) σ') (H := H')), (fun o e => by cases e), x', k'⟩
        · cases e
      · cases e
    · cases e
end
end Vm
set_option maxRecDepth 100000
set_option maxHeartbeats 1000000
namespace Vm
open PySem PySem.Spec PyProof.Rows L2
section
variable {P : Program} {w : World} {K : PySem.W.Frag} {gm bm : Str → Option Value} {k : Nat} {fa sc : Addr} {fd : FuncData} {x : Str} {sp : SpG} {st : Shared} {us : List Value} {ns : List Int}
/-- what an end of the law's call is to be -/
abbrev EndOk (st : Shared) (r : Result) (s' : Shared) : Prop := r = .ok (.ret (.bool true)) ∧ OldK st.heap s'.heap ∧ s'.os = st.os ∧ AllBare s'.gens
/-- from a heap that tracks nothing but, maybe, the script as it stands -/
theorem law_core {T : Hp} (KX : K.In st.heap) (hns : st.heap.Ns mainGlobals gm) (hb : st.heap.Ns builtinsNs bm) (hbb : ∀ y : Str, y ≠ "__name__" → bm y = bootBuiltins y) (hlim : st.heap.NoLimit) (hg : st.gens = #[])
    (ha : st.heap.get? sc = some { cls := .type "list", data := .seq us.toArray }) (hr : Room k callerA)
    (F : ∀ base : Heap, K.In base → base.Ns mainGlobals gm → FnG P w K gm base k fa fd [x] sp) (hbind : ∀ (s : Shared) (u : Value), BindsTo s fd ⟨[u], []⟩ [(x, u)])
    (only : ∀ b, T b = none ∨ (b = sc ∧ K.lookup sc = none ∧ ∃ o xs, T b = some (.frz o (.lst xs)))) (ok : HOk P w T st.heap) (go : sp [.ref sc] T (fun v _ => v = .bl true) noX) :
    codeAny (model P w) callerA (.call (.ref fa) ⟨[.ref sc], []⟩) (EndOk st) st := by
  have free : ∀ {b : Addr} {o : Obj}, st.heap.get? b = some o → (b = sc → K.lookup sc = none → False) → (hidT st.heap T).get? b = some o := fun {b o} e n => by
    rcases only b with z | ⟨z1, z2, _⟩
    · exact hidT_get e z
    · exact (n z1 z2).elim
  have spaces : ∀ {b : Addr} {m : Str → Option Value}, st.heap.Ns b m → (hidT st.heap T).Ns b m := by
    rintro b m ⟨o, es, ep, e, d, r⟩
    refine ⟨o, es, ep, free e fun z _ => ?_, d, r⟩
    subst z
    rw [ha] at e
    cases e
    exact absurd (show Data.seq us.toArray 0 = Data.dict es ep from d) (fun q => by cases q)
  have kin : K.In (hidT st.heap T) := fun b o e => free (KX b o e) fun z n => by
    subst z
    rw [n] at e
    cases e
  obtain ⟨lm, l1, l2⟩ := hlim
  have md : Mod K gm (hidT st.heap T) := ⟨kin, spaces hns, ⟨bm, spaces hb, hbb⟩, lm, spaces l1, l2⟩
  have ev : Env0 P w K gm (hidT st.heap T) callerA [] st T := by
    refine ⟨rfl, md, fun b o e => of_hidT e, Nat.le_of_eq (hidT_size _ _), trivial, fun b hb => ?_, ok, .of_eq hg⟩
    cases hb
  refine codeAny_mono ((F _ kin (spaces hns)).run callerA [] st T ⟨[.ref sc], []⟩ [.ref sc] [.ref sc] _ _ hr rfl ev (hbind st (.ref sc)) (.cons rfl .nil) go) ?_
  rintro r s' (⟨u, rfl, v, T', os, bare, un, ok', rv, rfl⟩ | ⟨u, _, z⟩)
  case inr =>
    obtain ⟨_, _, _, _, _, _, _, _, _, _, _, _, z⟩ := z
    exact z.elim
  cases rv
  refine ⟨rfl, OldK.of_keep fun b o e => ?_, os, bare⟩
  rcases only b with z | ⟨_, _, ob, xs, z⟩
  · exact un.keep b o e z (fun q => by cases q) (fun q => by cases q)
  · have e1 := (ok b _ z).1
    have e2 := (ok' b _ (un.frzs b ob _ z)).1
    rw [e] at e1
    cases e1
    exact e2
theorem law_callG (KX : K.In st.heap) (hns : st.heap.Ns mainGlobals gm) (hb : st.heap.Ns builtinsNs bm) (hbb : ∀ y : Str, y ≠ "__name__" → bm y = bootBuiltins y) (hlim : st.heap.NoLimit) (hg : st.gens = #[])
    (ha : st.heap.get? sc = some { cls := .type "list", data := .seq us.toArray }) (hi : IntsAre us ns) (hl : ns.length ≤ sizeLine) (hr : Room k callerA)
    (F : ∀ base : Heap, K.In base → base.Ns mainGlobals gm → FnG P w K gm base k fa fd [x] sp) (hbind : ∀ (s : Shared) (u : Value), BindsTo s fd ⟨[u], []⟩ [(x, u)])
    (hsp : ∀ T : Hp, (∀ b, T b ≠ none → ∃ o, T b = some o) → Rd K (fun _ => False) T (.list (ns.map .int)) (.ref sc) → sp [.ref sc] T (fun v _ => v = .bl true) noX) :
    codeAny (model P w) callerA (.call (.ref fa) ⟨[.ref sc], []⟩) (EndOk st) st := by
  have vals := vals_ints hi
  have lens := hi.length
  have data : ∀ {T : Hp}, RdA K (fun _ => False) T (ns.map .int) (ns.map V.int) := RdA.of_ints ns
  have some_ : ∀ (T : Hp) (b : Addr), T b ≠ none → ∃ o, T b = some o := fun T b n => Option.ne_none_iff_exists'.mp n
  cases q : K.lookup sc with
  | some o =>
    have e := KX sc o q
    rw [ha] at e
    cases e
    refine law_core (T := fun _ => none) KX hns hb hbb hlim hg ha hr F hbind (fun b => .inl rfl) (fun b u z => by cases z) (hsp _ (some_ _) ?_)
    unfold Rd
    exact ⟨sc, ns.map V.int, rfl, .inr ⟨us, _, q, by rw [lens]; exact hl, vals⟩, data⟩
  | none =>
    let one : Obj := { cls := .type "list", data := .seq us.toArray }
    refine law_core (T := fun b => if b = sc then some (.frz one (.lst (ns.map V.int))) else none) KX hns hb hbb hlim hg ha hr F hbind (fun b => ?_) (fun b u z => ?_) (hsp _ (some_ _) ?_)
    · by_cases h : b = sc
      · exact .inr ⟨h, q, one, _, if_pos h⟩
      · exact .inl (if_neg h)
    · by_cases h : b = sc
      · subst h
        dsimp only at z
        rw [if_pos rfl] at z
        cases z
        exact ⟨ha, by rw [List.length_map]; exact hl, us, 0, vals, ha⟩
      · dsimp only at z
        rw [if_neg h] at z
        cases z
    · unfold Rd
      exact ⟨sc, ns.map V.int, rfl, .inl ⟨fun z => z, .inr ⟨one, if_pos rfl⟩⟩, data⟩
end
/-- the law's answer, by the small language -/
theorem law_sp {K : PySem.W.Frag} {mg : Str → Option Value} {defs : List Df} {k g : Nat} {ns : List Int} {sc : Addr} {T : Hp} (h : runD defs k g [.d (.list (ns.map .int))] = .ok (.d (.bool true), [])) (rd : Rd K (fun _ => False) T (.list (ns.map .int)) (.ref sc)) :
    spG K mg 1 (runD defs k g) [.ref sc] T (fun v _ => v = .bl true) noX := by
  refine ⟨fun _ => False, [.d (.list (ns.map .int))], .d (.bool true), [], rfl, fun a z => z.elim, ⟨_, [], rfl, .inl (rd.ext (Ext.less fun a z => ?_)), rfl⟩, List.nodup_nil, fun a z => by simp [oadr] at z, h, fun v H' cp => ?_⟩
  · rcases z with z | z
    · exact z
    · simp [oadr] at z
  · obtain ⟨L', _, _, _, r, _⟩ := cp
    exact (show Rd K L' H' (.bool true) v from RdP.rd r).one.b
/-- THE END: a law holds where the small language answers True -/
theorem walk_G {l : PySem.W.OpenLaw} {n k g : Nat} {q : Program} {loose : List Str} {XP : (Str → Option Value) → Heap → Prop} {YP : World → Heap → Prop} {d : DefRec} {x : Str} {defs : List Df}
    (hn : l.most = some n) (hn2 : n ≤ sizeLine) (hdf : d.params.defaults = []) (hr : Room k callerA)
    (F : ∀ (w : World) (mg : Str → Option Value) (fa : Addr) (h : Heap), YP w h → h.Ns mainGlobals mg → mg d.name = some (.ref fa) →
      ∃ (K : PySem.W.Frag) (fd : FuncData), K.In h ∧ (∀ (s : Shared) (u : Value), BindsTo s fd ⟨[u], []⟩ [(x, u)]) ∧
        ∀ base : Heap, K.In base → base.Ns mainGlobals mg → FnG l.prog w K mg base k fa fd [x] (spG K mg 1 (runD defs k g)))
    (answer : ∀ ns : List Int, ns.length ≤ n → runD defs k g [.d (.list (ns.map .int))] = .ok (.d (.bool true), [])) :
    PySem.W.WalkO q loose XP YP l.row.toRowW d [] (fun f vs => PySem.call f vs) := by
  refine Att.attach_call hn hdf fun w s₀ st gm bm fa o pm cd doc a us ns G Y ho hd hcd hmg hobj hints hlen hg => ?_
  obtain ⟨K, fd, KX, hb, hF⟩ := F w gm fa _ Y G.T.g hmg
  exact law_callG KX G.T.g G.T.b G.T.builtins G.T.nolimit hg hobj hints (Nat.le_trans hlen hn2) hr hF hb fun T _ rd => law_sp (answer ns hlen) rd
end Vm
set_option maxRecDepth 100000
set_option maxHeartbeats 1000000
namespace Vm
open PySem PySem.Spec L2
/-- (a step that simp is not to take by computing) -/
theorem nr {α : Sort _} {a b : α} (h : a = b) : a = b := h
theorem nri {a b : Prop} (h : a ↔ b) : a ↔ b := h
/-- a name that simp does not look into -/
theorem opq {α : Sort _} (p : α) : ∃ q : α, q = p := ⟨p, rfl⟩
/-! ### what an end is to be -/
structure Po where
  nx : F → Prop := fun _ => False
  rt : RR → F → Prop := fun _ _ => False
  bk : F → Prop := fun _ => False
  ct : F → Prop := fun _ => False
@[irreducible] def Res.Sat {α : Type} (x : Res α) (P : α → Prop) : Prop := match x with
  | .ok a => P a
  | .bad => False
@[irreducible] def Out.Sat (o : Out) (Q : Po) : Prop := match o with
  | .nx f => Q.nx f
  | .rt r f => Q.rt r f
  | .bk f => Q.bk f
  | .ct f => Q.ct f
  | .bad => False
section
variable {α : Type}
theorem sat0_ok (a : α) (P : α → Prop) : (Res.ok a).Sat P = P a := by unfold Res.Sat; rfl
theorem sat0_bad (P : α → Prop) : (Res.bad : Res α).Sat P = False := by unfold Res.Sat; rfl
theorem sat0_some (a : α) (P : α → Prop) : (ofOpt (some a)).Sat P = P a := by unfold Res.Sat; rfl
theorem sat0_none (P : α → Prop) : (ofOpt (none : Option α)).Sat P = False := by unfold Res.Sat; rfl
theorem osat0_nx (f : F) (Q : Po) : (Out.nx f).Sat Q = Q.nx f := by unfold Out.Sat; rfl
theorem osat0_rt (r : RR) (f : F) (Q : Po) : (Out.rt r f).Sat Q = Q.rt r f := by unfold Out.Sat; rfl
theorem osat0_bk (f : F) (Q : Po) : (Out.bk f).Sat Q = Q.bk f := by unfold Out.Sat; rfl
theorem osat0_ct (f : F) (Q : Po) : (Out.ct f).Sat Q = Q.ct f := by unfold Out.Sat; rfl
theorem osat0_bad (Q : Po) : Out.bad.Sat Q = False := by unfold Out.Sat; rfl
end
/-! what comes behind, by names: simp does not look into them before they are reached -/
section
variable {α β γ : Type}
def kSat (f : α → Res β) (P : β → Prop) (a : α) : Prop := (f a).Sat P
def kOs (g : α → Out) (Q : Po) (a : α) : Prop := (g a).Sat Q
def kOn (g : F → Out) (Q : Po) (f : F) : Prop := (g f).Sat Q
def kBd (f : α → Res β) (g : β → Res γ) (a : α) : Res γ := (f a).bind g
def kOb (f : α → Res β) (g : β → Out) (a : α) : Out := Out.of (f a) g
def kOq (g : α → Out) (k : F → Out) (a : α) : Out := (g a).seq k
@[simp] theorem kSat_eq (f : α → Res β) (P : β → Prop) (a : α) : kSat f P a ↔ (f a).Sat P := nri Iff.rfl
@[simp] theorem kOs_eq (g : α → Out) (Q : Po) (a : α) : kOs g Q a ↔ (g a).Sat Q := nri Iff.rfl
@[simp] theorem kOn_eq (g : F → Out) (Q : Po) (f : F) : kOn g Q f ↔ (g f).Sat Q := nri Iff.rfl
@[simp] theorem kBd_eq (f : α → Res β) (g : β → Res γ) (a : α) : kBd f g a = (f a).bind g := nr rfl
@[simp] theorem kOb_eq (f : α → Res β) (g : β → Out) (a : α) : kOb f g a = Out.of (f a) g := nr rfl
@[simp] theorem kOq_eq (g : α → Out) (k : F → Out) (a : α) : kOq g k a = (g a).seq k := nr rfl
end
section
variable {α β : Type}
@[simp] theorem sat_ok (a : α) (P : α → Prop) : (Res.ok a).Sat P ↔ P a := iff_of_eq (sat0_ok a P)
@[simp] theorem sat_bad (P : α → Prop) : (Res.bad : Res α).Sat P ↔ False := iff_of_eq (sat0_bad P)
theorem sat_bind0 (x : Res α) (f : α → Res β) (P : β → Prop) : (x.bind f).Sat P ↔ x.Sat fun a => (f a).Sat P := by
  cases x with
  | ok a => show (f a).Sat P ↔ (Res.ok a).Sat _; rw [sat0_ok]
  | bad => show (Res.bad : Res β).Sat P ↔ (Res.bad : Res α).Sat _; rw [sat0_bad, sat0_bad]
theorem osat_of0 (x : Res α) (g : α → Out) (Q : Po) : (Out.of x g).Sat Q ↔ x.Sat fun a => (g a).Sat Q := by
  cases x with
  | ok a => show (g a).Sat Q ↔ (Res.ok a).Sat _; rw [sat0_ok]
  | bad => show Out.bad.Sat Q ↔ (Res.bad : Res α).Sat _; rw [osat0_bad, sat0_bad]
@[simp] theorem sat_bind (x : Res α) (f : α → Res β) (P : β → Prop) : (x.bind f).Sat P ↔ x.Sat (kSat f P) := by
  rw [sat_bind0]
  exact Iff.rfl
@[simp] theorem sat_some (a : α) (P : α → Prop) : (ofOpt (some a)).Sat P ↔ P a := iff_of_eq (sat0_some a P)
@[simp] theorem sat_none (P : α → Prop) : (ofOpt (none : Option α)).Sat P ↔ False := iff_of_eq (sat0_none P)
theorem Res.Sat.mono {x : Res α} {P Q : α → Prop} (h : x.Sat P) (m : ∀ a, P a → Q a) : x.Sat Q := by
  cases x with
  | ok a => rw [sat0_ok] at h ⊢; exact m a h
  | bad => rw [sat0_bad] at h; exact h.elim
theorem sat_eq {x : Res α} {a : α} (h : x.Sat fun b => b = a) : x = .ok a := by
  cases x with
  | ok b => rw [sat0_ok] at h; exact congrArg Res.ok h
  | bad => rw [sat0_bad] at h; exact h.elim
@[simp] theorem osat_nx (f : F) (Q : Po) : (Out.nx f).Sat Q ↔ Q.nx f := iff_of_eq (osat0_nx f Q)
@[simp] theorem osat_rt (r : RR) (f : F) (Q : Po) : (Out.rt r f).Sat Q ↔ Q.rt r f := iff_of_eq (osat0_rt r f Q)
@[simp] theorem osat_bk (f : F) (Q : Po) : (Out.bk f).Sat Q ↔ Q.bk f := iff_of_eq (osat0_bk f Q)
@[simp] theorem osat_ct (f : F) (Q : Po) : (Out.ct f).Sat Q ↔ Q.ct f := iff_of_eq (osat0_ct f Q)
@[simp] theorem osat_bad (Q : Po) : Out.bad.Sat Q ↔ False := iff_of_eq (osat0_bad Q)
@[simp] theorem osat_of (x : Res α) (g : α → Out) (Q : Po) : (Out.of x g).Sat Q ↔ x.Sat (kOs g Q) := by
  rw [osat_of0]
  exact Iff.rfl
@[simp] theorem osat_seq (x : Out) (g : F → Out) (Q : Po) : (x.seq g).Sat Q ↔ x.Sat { Q with nx := kOn g Q } := by
  cases x with
  | nx f => show (g f).Sat Q ↔ (Out.nx f).Sat _; rw [osat0_nx]; exact Iff.rfl
  | rt r f => show (Out.rt r f).Sat Q ↔ _; rw [osat0_rt, osat0_rt]
  | bk f => show (Out.bk f).Sat Q ↔ _; rw [osat0_bk, osat0_bk]
  | ct f => show (Out.ct f).Sat Q ↔ _; rw [osat0_ct, osat0_ct]
  | bad => show Out.bad.Sat Q ↔ _; rw [osat0_bad, osat0_bad]
theorem Out.Sat.mono {x : Out} {P Q : Po} (h : x.Sat P) (n : ∀ f, P.nx f → Q.nx f) (r : ∀ v f, P.rt v f → Q.rt v f) (b : ∀ f, P.bk f → Q.bk f) (c : ∀ f, P.ct f → Q.ct f) : x.Sat Q := by
  cases x with
  | nx f => rw [osat0_nx] at h ⊢; exact n f h
  | rt v f => rw [osat0_rt] at h ⊢; exact r v f h
  | bk f => rw [osat0_bk] at h ⊢; exact b f h
  | ct f => rw [osat0_ct] at h ⊢; exact c f h
  | bad => rw [osat0_bad] at h; exact h.elim
end
/-! ### loops -/
theorem for_sat {B : F → Out} {t : Tg} {Q : Po} (I : List D → F → Prop) (step : ∀ x xs f, I (x :: xs) f → ∃ ρ1, bindT t x f.ρ = some ρ1 ∧ (B { f with ρ := ρ1 }).Sat { nx := I xs, rt := Q.rt, bk := Q.nx, ct := I xs })
    (fin : ∀ f, I [] f → Q.nx f) : ∀ (xs : List D) (f : F), I xs f → (forLoop B t xs f).Sat Q
  | [], f, h => by with_unfolding_all exact fin f h
  | x :: xs, f, h => by
    obtain ⟨ρ1, e, s⟩ := step x xs f h
    unfold forLoop
    rw [e]
    dsimp only
    revert s
    cases B { f with ρ := ρ1 } with
    | nx f2 => with_unfolding_all exact fun s => for_sat I step fin xs f2 s
    | ct f2 => with_unfolding_all exact fun s => for_sat I step fin xs f2 s
    | bk f2 => with_unfolding_all exact fun s => s
    | rt r f2 => with_unfolding_all exact fun s => s
    | bad => with_unfolding_all exact fun s => s
theorem forK_sat {n : Nat} {ds : List D} {B : F → Out} {t : Tg} {Q : Po} (I : List D → F → Prop) (step : ∀ x xs f, I (x :: xs) f → ∃ ρ1, bindT t x f.ρ = some ρ1 ∧ (B { f with ρ := ρ1 }).Sat { nx := I xs, rt := Q.rt, bk := Q.nx, ct := I xs })
    (fin : ∀ f, I [] f → Q.nx f) (keep : ∀ xs f, I xs f → keepS n ds f = true) : ∀ (xs : List D) (f : F), I xs f → (forLoopK n ds B t xs f).Sat Q
  | [], f, h => by
    unfold forLoopK
    rw [if_pos (keep [] f h)]
    with_unfolding_all exact fin f h
  | x :: xs, f, h => by
    obtain ⟨ρ1, e, s⟩ := step x xs f h
    unfold forLoopK
    rw [if_pos (keep _ f h), e]
    dsimp only
    revert s
    cases B { f with ρ := ρ1 } with
    | nx f2 => with_unfolding_all exact fun s => forK_sat I step fin keep xs f2 s
    | ct f2 => with_unfolding_all exact fun s => forK_sat I step fin keep xs f2 s
    | bk f2 => with_unfolding_all exact fun s => s
    | rt r f2 => with_unfolding_all exact fun s => s
    | bad => with_unfolding_all exact fun s => s
def kW (B : F → Out) (Q : Po) (J : F → Prop) (p : Bool × F) : Prop := if p.1 = true then (B p.2).Sat { nx := J, rt := Q.rt, bk := Q.nx, ct := J } else Q.nx p.2
@[simp] theorem kW_eq (B : F → Out) (Q : Po) (J : F → Prop) (t : Bool) (f : F) : kW B Q J (t, f) ↔ if t = true then (B f).Sat { nx := J, rt := Q.rt, bk := Q.nx, ct := J } else Q.nx f := nri Iff.rfl
theorem whl_sat {C : F → Res (Bool × F)} {B : F → Out} {Q : Po} (I : Nat → F → Prop) (step : ∀ m f, I m f → (C f).Sat (kW B Q (fun f2 => ∃ m2, m2 < m ∧ I m2 f2))) :
    ∀ (n m : Nat) (f : F), m < n → I m f → (whlLoop C B n f).Sat Q
  | 0, m, f, hm, _ => by omega
  | n + 1, m, f, hm, h => by
    unfold whlLoop
    rw [osat_of0]
    with_unfolding_all refine (step m f h).mono ?_
    with_unfolding_all rintro ⟨b, f1⟩ s
    unfold kW at s
    dsimp only at s ⊢
    split
    · rename_i hb
      rw [if_pos hb] at s
      revert s
      cases B f1 with
      | nx f2 => intro s; rw [osat0_nx] at s; obtain ⟨m2, h2, i2⟩ := s; with_unfolding_all exact whl_sat I step n m2 f2 (by omega) i2
      | ct f2 => intro s; rw [osat0_ct] at s; obtain ⟨m2, h2, i2⟩ := s; with_unfolding_all exact whl_sat I step n m2 f2 (by omega) i2
      | bk f2 => with_unfolding_all exact fun s => s
      | rt r f2 => with_unfolding_all exact fun s => s
      | bad => with_unfolding_all exact fun s => s
    · rename_i hb
      rw [if_neg hb] at s
      with_unfolding_all exact s
/-- a comprehension, turn by turn -/
theorem lc_sat {T : F → Res (Bool × F)} {E : F → Res (RV × F)} {t : Tg} {own : List Nat} {Q : List D × F → Prop} (I : List D → List D → F → Prop)
    (step : ∀ x xs acc f, I (x :: xs) acc f → ∃ ρ1, bindT t x f.ρ = some ρ1 ∧ (T { f with ρ := ρ1 }).Sat fun p =>
      if p.1 = true then (E p.2).Sat fun q => (ofOpt (frz q.2 q.1)).Sat fun r => acc.length < 16777216 ∧ I xs (acc ++ [r.1]) { r.2 with ρ := wipeL r.2.ρ own } else I xs acc { p.2 with ρ := wipeL p.2.ρ own })
    (fin : ∀ acc f, I [] acc f → Q (acc, f)) : ∀ (xs acc : List D) (f : F), I xs acc f → (lcLoop T E t own xs acc f).Sat Q
  | [], acc, f, h => by with_unfolding_all exact fin acc f h
  | x :: xs, acc, f, h => by
    obtain ⟨ρ1, e, s⟩ := step x xs acc f h
    unfold lcLoop
    rw [e, sat_bind0, sat_some, sat_bind0]
    with_unfolding_all refine s.mono ?_
    with_unfolding_all rintro ⟨b, f1⟩ s
    dsimp only at s ⊢
    split
    · rename_i hb
      rw [if_pos hb] at s
      rw [sat_bind0]
      with_unfolding_all refine s.mono ?_
      with_unfolding_all rintro ⟨v, f2⟩ s
      dsimp only at s ⊢
      rw [sat_bind0]
      with_unfolding_all refine s.mono ?_
      with_unfolding_all rintro ⟨y, f3⟩ ⟨l, s⟩
      rw [if_pos l]
      with_unfolding_all exact lc_sat I step fin xs _ _ s
    · rename_i hb
      rw [if_neg hb] at s
      with_unfolding_all exact lc_sat I step fin xs _ _ s
/-! ### defs -/
theorem run_sat {defs : List Df} {n g : Nat} {args : List Arg} {d : Df} {P : RR × List SV → Prop} (hd : defs[g]? = some d) (hl : args.length = d.np)
    (h : (xSs (runD defs n) d.body (entry d args)).Sat { nx := fun f => f.S.all SV.ok = true ∧ P (.d .none, f.S), rt := fun r f => f.S.all SV.ok = true ∧ P (r, f.S) }) :
    (runD defs (n + 1) g args).Sat P := by
  unfold runD
  rw [hd]
  dsimp only
  rw [if_pos hl]
  revert h
  cases xSs (runD defs n) d.body (entry d args) with
  | nx f => intro s; rw [osat0_nx] at s; obtain ⟨h1, h2⟩ := s; dsimp only; rw [if_pos h1]; with_unfolding_all exact h2
  | rt r f => intro s; rw [osat0_rt] at s; obtain ⟨h1, h2⟩ := s; dsimp only; rw [if_pos h1]; with_unfolding_all exact h2
  | bk f => with_unfolding_all exact fun h => h.elim
  | ct f => with_unfolding_all exact fun h => h.elim
  | bad => with_unfolding_all exact fun h => h.elim
def finish : Out → Res (RR × List SV)
  | .rt r f => if f.S.all SV.ok = true then .ok (r, f.S) else .bad
  | .nx f => if f.S.all SV.ok = true then .ok (.d .none, f.S) else .bad
  | _ => .bad
@[simp] theorem finish_rt (r : RR) (f : F) : finish (.rt r f) = if f.S.all SV.ok = true then .ok (r, f.S) else .bad := by rw [finish]
@[simp] theorem finish_nx (f : F) : finish (.nx f) = if f.S.all SV.ok = true then .ok (.d .none, f.S) else .bad := by rw [finish]
theorem run_fin {defs : List Df} {n g : Nat} {args : List Arg} {d : Df} (hd : defs[g]? = some d) (hl : args.length = d.np) : runD defs (n + 1) g args = finish (xSs (runD defs n) d.body (entry d args)) := by
  conv => lhs; unfold runD
  rw [hd]
  dsimp only
  rw [if_pos hl]
  rfl
theorem finish_sat {o : Out} {P : RR × List SV → Prop} : (finish o).Sat P ↔ o.Sat { nx := fun f => f.S.all SV.ok = true ∧ P (.d .none, f.S), rt := fun r f => f.S.all SV.ok = true ∧ P (r, f.S) } := by
  cases o with
  | nx f =>
    rw [finish_nx, osat_nx]
    dsimp only
    split
    · rename_i h; with_unfolding_all exact ⟨fun z => ⟨h, z⟩, fun z => z.2⟩
    · rename_i h; with_unfolding_all exact ⟨fun z => z.elim, fun z => h z.1⟩
  | rt r f =>
    rw [finish_rt, osat_rt]
    dsimp only
    split
    · rename_i h; with_unfolding_all exact ⟨fun z => ⟨h, z⟩, fun z => z.2⟩
    · rename_i h; with_unfolding_all exact ⟨fun z => z.elim, fun z => h z.1⟩
  | bk f => with_unfolding_all exact Iff.rfl
  | ct f => with_unfolding_all exact Iff.rfl
  | bad => with_unfolding_all exact Iff.rfl
theorem sat_of_eq {α : Type} {x : Res α} {a : α} (h : x = .ok a) {P : α → Prop} (p : P a) : x.Sat P := by
  rw [h]
  with_unfolding_all exact p
theorem sat_iff {α : Type} {x : Res α} {a : α} : (x.Sat fun b => b = a) ↔ x = .ok a := ⟨sat_eq, fun h => sat_of_eq h rfl⟩
/-- a loop's body, by its place -/
def forB (l : List Sm) (i : Nat) : List Sm := match l[i]? with
  | some (.for _ _ b) => b
  | some (.whl _ b) => b
  | _ => []
def kBody (B : F → Out) (f : F) (Q : Po) (ρ1 : List LV) : Prop := (B { f with ρ := ρ1 }).Sat Q
@[simp] theorem kBody_eq (B : F → Out) (f : F) (Q : Po) (ρ1 : List LV) : kBody B f Q ρ1 ↔ (B { f with ρ := ρ1 }).Sat Q := nri Iff.rfl
/-- a turn of a comprehension -/
def kT (T : F → Res (Bool × F)) (f : F) (P : Bool × F → Prop) (ρ1 : List LV) : Prop := (T { f with ρ := ρ1 }).Sat P
@[simp] theorem kT_eq (T : F → Res (Bool × F)) (f : F) (P : Bool × F → Prop) (ρ1 : List LV) : kT T f P ρ1 ↔ (T { f with ρ := ρ1 }).Sat P := nri Iff.rfl
def kE2 (own : List Nat) (J : D → F → Prop) (r : D × F) : Prop := J r.1 { r.2 with ρ := wipeL r.2.ρ own }
@[simp] theorem kE2_eq (own : List Nat) (J : D → F → Prop) (x : D) (f : F) : kE2 own J (x, f) ↔ J x { f with ρ := wipeL f.ρ own } := nri Iff.rfl
def kE1 (own : List Nat) (J : D → F → Prop) (q : RV × F) : Prop := (ofOpt (frz q.2 q.1)).Sat (kE2 own J)
@[simp] theorem kE1_eq (own : List Nat) (J : D → F → Prop) (r : RV) (f : F) : kE1 own J (r, f) ↔ (ofOpt (frz f r)).Sat (kE2 own J) := nri Iff.rfl
/-- the test told t: then the element, or on -/
def kTE (E : F → Res (RV × F)) (own : List Nat) (J : D → F → Prop) (N : F → Prop) (p : Bool × F) : Prop := if p.1 = true then (E p.2).Sat (kE1 own J) else N { p.2 with ρ := wipeL p.2.ρ own }
@[simp] theorem kTE_eq (E : F → Res (RV × F)) (own : List Nat) (J : D → F → Prop) (N : F → Prop) (t : Bool) (f : F) : kTE E own J N (t, f) ↔ if t = true then (E f).Sat (kE1 own J) else N { f with ρ := wipeL f.ρ own } := nri Iff.rfl
/-- the same where nothing changes -/
def kTP (E : F → Res (RV × F)) (own : List Nat) (f0 : F) (b : Bool) (x : D) (p : Bool × F) : Prop := p.1 = b ∧ ({ p.2 with ρ := wipeL p.2.ρ own } : F) = f0 ∧ (b = true → (E p.2).Sat (kE1 own fun y f => y = x ∧ f = f0))
@[simp] theorem kTP_eq (E : F → Res (RV × F)) (own : List Nat) (f0 : F) (b t : Bool) (x : D) (f : F) : kTP E own f0 b x (t, f) ↔ t = b ∧ ({ f with ρ := wipeL f.ρ own } : F) = f0 ∧ (b = true → (E f).Sat (kE1 own fun y f => y = x ∧ f = f0)) := nri Iff.rfl
/-- a comprehension whose turns change nothing -/
theorem lc_pure {α : Type} {T : F → Res (Bool × F)} {E : F → Res (RV × F)} {t : Tg} {own : List Nat} (inj : α → D) (p : α → Bool) (g : α → D) (xs : List α) (f : F) (hl : xs.length ≤ 16777216)
    (h : ∀ x ∈ xs, (ofOpt (bindT t (inj x) f.ρ)).Sat (kT T f (kTP E own f (p x) (g x)))) :
    lcLoop T E t own (xs.map inj) [] f = .ok ((xs.filter p).map g, f) := by
  apply sat_eq
  with_unfolding_all refine lc_sat (fun l acc f' => f' = f ∧ ∃ ys zs, xs = ys ++ zs ∧ l = zs.map inj ∧ acc = (ys.filter p).map g) ?_ ?_ _ _ _ ⟨rfl, [], xs, rfl, rfl, rfl⟩
  · with_unfolding_all rintro x l acc f' ⟨rfl, ys, zs, e1, e2, rfl⟩
    cases zs with
    | nil => cases e2
    | cons z zs =>
      rw [List.map_cons, List.cons.injEq] at e2
      obtain ⟨rfl, rfl⟩ := e2
      have h0 := h z (by rw [e1]; simp)
      cases e : bindT t (inj z) f'.ρ with
      | none => rw [e] at h0; with_unfolding_all exact h0.elim
      | some ρ1 =>
        rw [e, sat_some] at h0
        with_unfolding_all refine ⟨ρ1, rfl, h0.mono ?_⟩
        with_unfolding_all rintro ⟨b, f1⟩ ⟨h2, h3, h4⟩
        dsimp only at h2 h3 h4 ⊢
        subst h2
        split
        · rename_i hp
          with_unfolding_all refine (h4 hp).mono ?_
          with_unfolding_all rintro ⟨v, f2⟩ k
          with_unfolding_all refine k.mono ?_
          with_unfolding_all rintro ⟨y, f3⟩ ⟨k2, k3⟩
          dsimp only at k2 k3 ⊢
          subst k2
          with_unfolding_all refine ⟨?_, k3, ys ++ [z], zs, by simp [e1], rfl, by simp [List.filter_append, hp]⟩
          have h1 := List.length_filter_le p ys
          rw [e1] at hl
          simp at hl ⊢
          omega
        · rename_i hp
          with_unfolding_all exact ⟨h3, ys ++ [z], zs, by simp [e1], rfl, by simp [List.filter_append, hp]⟩
  · with_unfolding_all rintro acc f' ⟨rfl, ys, zs, e1, e2, rfl⟩
    cases zs with
    | nil => simp [e1]
    | cons z zs => cases e2
/-! ### loops by a place -/
theorem for_idx {B : F → Out} {t : Tg} {Q : Po} (l : List D) (J : Nat → F → Prop) (f0 : F) (h0 : J 0 f0)
    (step : ∀ k (hk : k < l.length) f, J k f → (ofOpt (bindT t l[k] f.ρ)).Sat (kBody B f { nx := J (k + 1), rt := Q.rt, bk := Q.nx, ct := J (k + 1) })) (fin : ∀ f, J l.length f → Q.nx f) : (forLoop B t l f0).Sat Q := by
  with_unfolding_all refine for_sat (fun r f => ∃ k, r = l.drop k ∧ k ≤ l.length ∧ J k f) ?_ ?_ l f0 ⟨0, rfl, Nat.zero_le _, h0⟩
  · with_unfolding_all rintro x xs f ⟨k, e, hk, j⟩
    have hk2 : k < l.length := by
      have := congrArg List.length e
      simp at this
      omega
    rw [List.drop_eq_getElem_cons hk2, List.cons.injEq] at e
    obtain ⟨rfl, rfl⟩ := e
    have s := step k hk2 f j
    cases e : bindT t l[k] f.ρ with
    | none => rw [e] at s; with_unfolding_all exact s.elim
    | some ρ1 =>
      rw [e, sat_some] at s
      with_unfolding_all exact ⟨ρ1, rfl, s.mono (fun f h => ⟨k + 1, rfl, hk2, h⟩) (fun _ _ h => h) (fun _ h => h) fun f h => ⟨k + 1, rfl, hk2, h⟩⟩
  · with_unfolding_all rintro f ⟨k, e, hk, j⟩
    have := congrArg List.length e
    simp at this
    have : k = l.length := by omega
    subst this
    exact fin f j
theorem forK_idx {n : Nat} {ds : List D} {B : F → Out} {t : Tg} {Q : Po} (l : List D) (J : Nat → F → Prop) (f0 : F) (h0 : J 0 f0)
    (step : ∀ k (hk : k < l.length) f, J k f → (ofOpt (bindT t l[k] f.ρ)).Sat (kBody B f { nx := J (k + 1), rt := Q.rt, bk := Q.nx, ct := J (k + 1) })) (fin : ∀ f, J l.length f → Q.nx f) (keep : ∀ k f, J k f → keepS n ds f = true) : (forLoopK n ds B t l f0).Sat Q := by
  with_unfolding_all refine forK_sat (fun r f => ∃ k, r = l.drop k ∧ k ≤ l.length ∧ J k f) ?_ ?_ (fun _ f h => by obtain ⟨k, _, _, j⟩ := h; exact keep k f j) l f0 ⟨0, rfl, Nat.zero_le _, h0⟩
  · with_unfolding_all rintro x xs f ⟨k, e, hk, j⟩
    have hk2 : k < l.length := by
      have := congrArg List.length e
      simp at this
      omega
    rw [List.drop_eq_getElem_cons hk2, List.cons.injEq] at e
    obtain ⟨rfl, rfl⟩ := e
    have s := step k hk2 f j
    cases e : bindT t l[k] f.ρ with
    | none => rw [e] at s; with_unfolding_all exact s.elim
    | some ρ1 =>
      rw [e, sat_some] at s
      with_unfolding_all exact ⟨ρ1, rfl, s.mono (fun f h => ⟨k + 1, rfl, hk2, h⟩) (fun _ _ h => h) (fun _ h => h) fun f h => ⟨k + 1, rfl, hk2, h⟩⟩
  · with_unfolding_all rintro f ⟨k, e, hk, j⟩
    have := congrArg List.length e
    simp at this
    have : k = l.length := by omega
    subst this
    exact fin f j
theorem lc_idx {T : F → Res (Bool × F)} {E : F → Res (RV × F)} {t : Tg} {own : List Nat} {Q : List D × F → Prop} (l : List D) (J : Nat → List D → F → Prop) (f0 : F) (h0 : J 0 [] f0)
    (step : ∀ k (hk : k < l.length) acc f, J k acc f → (ofOpt (bindT t l[k] f.ρ)).Sat (kT T f (kTE E own (fun x f => acc.length < 16777216 ∧ J (k + 1) (acc ++ [x]) f) (J (k + 1) acc))))
    (fin : ∀ acc f, J l.length acc f → Q (acc, f)) : (lcLoop T E t own l [] f0).Sat Q := by
  with_unfolding_all refine lc_sat (fun r acc f => ∃ k, r = l.drop k ∧ k ≤ l.length ∧ J k acc f) ?_ ?_ l [] f0 ⟨0, rfl, Nat.zero_le _, h0⟩
  · with_unfolding_all rintro x xs acc f ⟨k, e, hk, j⟩
    have hk2 : k < l.length := by
      have := congrArg List.length e
      simp at this
      omega
    rw [List.drop_eq_getElem_cons hk2, List.cons.injEq] at e
    obtain ⟨rfl, rfl⟩ := e
    have s := step k hk2 acc f j
    cases e : bindT t l[k] f.ρ with
    | none => rw [e] at s; with_unfolding_all exact s.elim
    | some ρ1 =>
      rw [e, sat_some] at s
      with_unfolding_all refine ⟨ρ1, rfl, s.mono ?_⟩
      with_unfolding_all rintro ⟨b, f1⟩ s
      rw [kTE_eq] at s
      dsimp only at s ⊢
      split
      · rename_i hb
        rw [if_pos hb] at s
        with_unfolding_all refine s.mono ?_
        with_unfolding_all rintro ⟨v, f2⟩ s
        with_unfolding_all refine s.mono ?_
        with_unfolding_all rintro ⟨y, f3⟩ ⟨s1, s2⟩
        with_unfolding_all exact ⟨s1, k + 1, rfl, hk2, s2⟩
      · rename_i hb
        rw [if_neg hb] at s
        with_unfolding_all exact ⟨k + 1, rfl, hk2, s⟩
  · with_unfolding_all rintro acc f ⟨k, e, hk, j⟩
    have := congrArg List.length e
    simp at this
    have : k = l.length := by omega
    subst this
    exact fin acc f j
/-- a comprehension of two clauses, by the places; J: ahead of an outer turn, J1: ahead of an inner one -/
def kJ2 (I1 : F → Res (List D × F)) (P : List D × F → Prop) (N : F → Prop) (own : List Nat) (p : Bool × F) : Prop := if p.1 = true then (I1 p.2).Sat P else N { p.2 with ρ := wipeL p.2.ρ own }
@[simp] theorem kJ2_eq (I1 : F → Res (List D × F)) (P : List D × F → Prop) (N : F → Prop) (own : List Nat) (t : Bool) (f : F) : kJ2 I1 P N own (t, f) ↔ if t = true then (I1 f).Sat P else N { f with ρ := wipeL f.ρ own } := nri Iff.rfl
def kIn (L : List D → F → Res (List D × F)) (own1 : List Nat) (P : List D × F → Prop) (q : List D × F) : Prop := (L q.1 { q.2 with ρ := wipeL q.2.ρ own1 }).Sat P
@[simp] theorem kIn_eq (L : List D → F → Res (List D × F)) (own1 : List Nat) (P : List D × F → Prop) (ys : List D) (f : F) : kIn L own1 P (ys, f) ↔ (L ys { f with ρ := wipeL f.ρ own1 }).Sat P := nri Iff.rfl
def kOut (J : List D → F → Prop) (own : List Nat) (r : List D × F) : Prop := J r.1 { r.2 with ρ := wipeL r.2.ρ own }
@[simp] theorem kOut_eq (J : List D → F → Prop) (own : List Nat) (acc : List D) (f : F) : kOut J own (acc, f) ↔ J acc { f with ρ := wipeL f.ρ own } := nri Iff.rfl
theorem lc2_idx {T : F → Res (Bool × F)} {I1 : F → Res (List D × F)} {T1 : F → Res (Bool × F)} {E : F → Res (RV × F)} {t t1 : Tg} {own own1 : List Nat} {Q : List D × F → Prop} (l : List D) (J : Nat → List D → F → Prop) (f0 : F) (h0 : J 0 [] f0)
    (step : ∀ k (hk : k < l.length) acc f, J k acc f → (ofOpt (bindT t l[k] f.ρ)).Sat (kT T f (kJ2 I1 (kIn (fun ys f => lcLoop T1 E t1 own1 ys acc f) own1 (kOut (J (k + 1)) own)) (J (k + 1) acc) own)))
    (fin : ∀ acc f, J l.length acc f → Q (acc, f)) : (lc2Loop T I1 T1 E t t1 own own1 l [] f0).Sat Q := by
  have main : ∀ (m k : Nat) (acc : List D) (f : F), l.length - k = m → k ≤ l.length → J k acc f → (lc2Loop T I1 T1 E t t1 own own1 (l.drop k) acc f).Sat Q := by
    intro m
    induction m with
    | zero =>
      intro k acc f e hk j
      have : k = l.length := by omega
      subst this
      rw [List.drop_length]
      unfold lc2Loop
      rw [sat0_ok]
      exact fin acc f j
    | succ m ih =>
      intro k acc f e hk j
      have hk2 : k < l.length := by omega
      rw [List.drop_eq_getElem_cons hk2]
      unfold lc2Loop
      rw [sat_bind0]
      refine (step k hk2 acc f j).mono fun ρ1 s => ?_
      rw [kT_eq] at s
      rw [sat_bind0]
      refine s.mono ?_
      rintro ⟨b, f1⟩ s
      rw [kJ2_eq] at s
      dsimp only
      split
      · rename_i hb
        rw [if_pos hb] at s
        rw [sat_bind0]
        refine s.mono ?_
        rintro ⟨ys, f2⟩ s
        rw [kIn_eq] at s
        rw [sat_bind0]
        refine s.mono ?_
        rintro ⟨acc', f3⟩ s
        rw [kOut_eq] at s
        exact ih (k + 1) _ _ (by omega) hk2 s
      · rename_i hb
        rw [if_neg hb] at s
        exact ih (k + 1) _ _ (by omega) hk2 s
  exact main _ 0 [] f0 rfl (Nat.zero_le _) h0
/-- lc_idx from any beginning -/
theorem lc_idxA {T : F → Res (Bool × F)} {E : F → Res (RV × F)} {t : Tg} {own : List Nat} {Q : List D × F → Prop} (l : List D) (acc0 : List D) (J : Nat → List D → F → Prop) (f0 : F) (h0 : J 0 acc0 f0)
    (step : ∀ k (hk : k < l.length) acc f, J k acc f → (ofOpt (bindT t l[k] f.ρ)).Sat (kT T f (kTE E own (fun x f => acc.length < 16777216 ∧ J (k + 1) (acc ++ [x]) f) (J (k + 1) acc))))
    (fin : ∀ acc f, J l.length acc f → Q (acc, f)) : (lcLoop T E t own l acc0 f0).Sat Q := by
  refine lc_sat (fun r acc f => ∃ k, r = l.drop k ∧ k ≤ l.length ∧ J k acc f) ?_ ?_ l acc0 f0 ⟨0, rfl, Nat.zero_le _, h0⟩
  · rintro x xs acc f ⟨k, e, hk, j⟩
    have hk2 : k < l.length := by
      have := congrArg List.length e
      simp at this
      omega
    rw [List.drop_eq_getElem_cons hk2, List.cons.injEq] at e
    obtain ⟨rfl, rfl⟩ := e
    have s := step k hk2 acc f j
    cases e : bindT t l[k] f.ρ with
    | none => rw [e, sat_none] at s; exact s.elim
    | some ρ1 =>
      rw [e, sat_some, kT_eq] at s
      refine ⟨ρ1, rfl, s.mono ?_⟩
      rintro ⟨b, f1⟩ s
      rw [kTE_eq] at s
      dsimp only at s ⊢
      split
      · rename_i hb
        rw [if_pos hb] at s
        refine s.mono ?_
        rintro ⟨v, f2⟩ s
        rw [kE1_eq] at s
        refine s.mono ?_
        rintro ⟨y, f3⟩ s
        rw [kE2_eq] at s
        exact ⟨s.1, k + 1, rfl, hk2, s.2⟩
      · rename_i hb
        rw [if_neg hb] at s
        exact ⟨k + 1, rfl, hk2, s⟩
  · rintro acc f ⟨k, e, hk, j⟩
    have := congrArg List.length e
    simp at this
    have : k = l.length := by omega
    subst this
    exact fin acc f j
@[simp] theorem zipL_length (xs ys : List D) : (zipL xs ys).length = min xs.length ys.length := by
  induction xs generalizing ys with
  | nil => simp [zipL]
  | cons x xs ih => cases ys with
    | nil => simp [zipL]
    | cons y ys => simp [zipL, ih]
theorem zipL_eq (xs ys : List D) : zipL xs ys = (xs.zip ys).map fun p => .tuple [p.1, p.2] := by
  induction xs generalizing ys with
  | nil => simp [zipL]
  | cons x xs ih => cases ys with
    | nil => simp [zipL]
    | cons y ys => simp [zipL, ih]
@[simp] theorem enumL_length (n : Nat) (ds : List D) : (enumL n ds).length = ds.length := by
  induction ds generalizing n with
  | nil => rfl
  | cons d ds ih => simp [enumL, ih]
@[simp] theorem enumL_at (n : Nat) (ds : List D) (k : Nat) (h : k < (enumL n ds).length) : (enumL n ds)[k] = .tuple [.int ((n + k : Nat) : Int), ds[k]'(by rw [enumL_length] at h; with_unfolding_all exact h)] := by
  induction ds generalizing n k with
  | nil => simp at h
  | cons d ds ih =>
    cases k with
    | zero => simp [enumL]
    | succ k =>
      simp only [enumL, List.getElem_cons_succ]
      rw [ih]
      simp
      omega
@[simp] theorem rangeL_length (a b : Int) : (rangeL a b).length = (b - a).toNat := by simp [rangeL]
@[simp] theorem rangeL_get (a b : Int) (k : Nat) (h : k < (rangeL a b).length) : (rangeL a b)[k] = .int (a + (k : Int)) := by simp [rangeL]
@[simp] theorem bind_assoc' {α β γ : Type} (x : Res α) (f : α → Res β) (g : β → Res γ) : (x.bind f).bind g = x.bind (kBd f g) := by
  cases x <;> rfl
@[simp] theorem of_bind {α β : Type} (x : Res α) (f : α → Res β) (g : β → Out) : Out.of (x.bind f) g = Out.of x (kOb f g) := by
  cases x <;> rfl
@[simp] theorem of_seq {α : Type} (x : Res α) (g : α → Out) (k : F → Out) : (Out.of x g).seq k = Out.of x (kOq g k) := by
  cases x <;> rfl
end Vm
set_option maxRecDepth 100000
set_option maxHeartbeats 1000000
namespace Vm
open PySem PySem.Spec L2
/-! ### the evaluator's equations, for simp -/
section
variable {α β : Type}
@[simp] theorem rbnd_ok (a : α) (f : α → Res β) : (Res.ok a).bind f = f a := nr rfl
@[simp] theorem bind_bad (f : α → Res β) : (Res.bad : Res α).bind f = .bad := nr rfl
@[simp] theorem ofOpt_some (a : α) : ofOpt (some a) = .ok a := nr rfl
@[simp] theorem ofOpt_none : ofOpt (none : Option α) = .bad := nr rfl
@[simp] theorem of_ok (a : α) (g : α → Out) : Out.of (.ok a) g = g a := nr rfl
@[simp] theorem of_bad (g : α → Out) : Out.of (.bad : Res α) g = .bad := nr rfl
@[simp] theorem seq_nx (f : F) (g : F → Out) : (Out.nx f).seq g = g f := nr rfl
@[simp] theorem seq_rt (r : RR) (f : F) (g : F → Out) : (Out.rt r f).seq g = .rt r f := nr rfl
@[simp] theorem seq_bk (f : F) (g : F → Out) : (Out.bk f).seq g = .bk f := nr rfl
@[simp] theorem seq_ct (f : F) (g : F → Out) : (Out.ct f).seq g = .ct f := nr rfl
@[simp] theorem seq_bad (g : F → Out) : Out.bad.seq g = .bad := nr rfl
@[simp] theorem rv_d (x : D) : (RR.d x).rv = .d x := nr rfl
@[simp] theorem rv_fr (o : Ob) : (RR.fr o).rv = .fr o := nr rfl
@[simp] theorem norm_none : norm .none = .none := nr rfl
@[simp] theorem norm_bool (b : Bool) : norm (.bool b) = .bool b := nr rfl
@[simp] theorem norm_int (i : Int) : norm (.int i) = .int i := nr rfl
@[simp] theorem norm_str (s : Str) : norm (.str s) = .str s := nr rfl
@[simp] theorem norm_list (l : List D) : norm (.list l) = .list l := nr rfl
@[simp] theorem norm_tuple (l : List D) : norm (.tuple l) = .tuple l := nr rfl
@[simp] theorem norm_pl (l : List D) : norm (pl l) = .tuple l := nr rfl
@[simp] theorem norm_dnil : norm (.dict []) = .dict [] := nr rfl
@[simp] theorem norm_dct (kvs : List (Key × D)) : norm (.dict (kvs.map fun p => (kD p.1, p.2))) = .dict (kvs.map fun p => (kD p.1, p.2)) := by
  match kvs with
  | [] => rfl
  | [(k, x)] => cases k <;> rfl
  | p :: q :: r =>
    obtain ⟨k, x⟩ := p
    cases k <;> rfl
@[simp] theorem norm_ite (c : Prop) [Decidable c] (x y : D) : norm (if c then x else y) = if c then norm x else norm y := by split <;> rfl
@[simp] theorem isPl_none : isPl .none = false := nr rfl
@[simp] theorem isPl_bool (b : Bool) : isPl (.bool b) = false := nr rfl
@[simp] theorem isPl_int (i : Int) : isPl (.int i) = false := nr rfl
@[simp] theorem isPl_str (s : Str) : isPl (.str s) = false := nr rfl
@[simp] theorem isPl_list (l : List D) : isPl (.list l) = false := nr rfl
@[simp] theorem isPl_tuple (l : List D) : isPl (.tuple l) = false := nr rfl
@[simp] theorem isPl_pl (l : List D) : isPl (pl l) = true := nr rfl
@[simp] theorem isPl_dnil : isPl (.dict []) = false := nr rfl
@[simp] theorem isPl_dct (kvs : List (Key × D)) : isPl (.dict (kvs.map fun p => (kD p.1, p.2))) = false := by
  match kvs with
  | [] => rfl
  | [(k, x)] => cases k <;> rfl
  | p :: q :: r =>
    obtain ⟨k, x⟩ := p
    cases k <;> rfl
@[simp] theorem view_d (f : F) (x : D) : view f (.d x) = some (norm x) := nr rfl
@[simp] theorem view_fr (f : F) (o : Ob) : view f (.fr o) = some o.d := nr rfl
@[simp] theorem view_vr (f : F) (i : Nat) : view f (.vr i) = slotD f.ρ[i]? := nr rfl
@[simp] theorem view_ce (f : F) (i : Nat) : view f (.ce i) = cellD f.S[i]? := nr rfl
@[simp] theorem slotD_d (x : D) : slotD (some (.d x)) = some (norm x) := nr rfl
@[simp] theorem slotD_own (o : Ob) : slotD (some (.own o)) = some o.d := nr rfl
@[simp] theorem cellD_d (x : D) : cellD (some (.d x)) = some x := nr rfl
@[simp] theorem cellD_own (o : Ob) : cellD (some (.own o)) = some o.d := nr rfl
@[simp] theorem obd_lst (xs : List D) : (Ob.lst xs).d = .list xs := nr rfl
@[simp] theorem obd_dct (kvs : List (Key × D)) : (Ob.dct kvs).d = .dict (kvs.map fun p => (kD p.1, p.2)) := nr rfl
@[simp] theorem frz_d (f : F) (x : D) : frz f (.d x) = some (norm x, f) := nr rfl
@[simp] theorem frz_fr (f : F) (o : Ob) : frz f (.fr o) = some (o.d, f) := nr rfl
@[simp] theorem frz_vr (f : F) (i : Nat) : frz f (.vr i) = (match f.ρ[i]? with
    | some (.own o) => some (o.d, { f with ρ := f.ρ.set i (.d o.d) })
    | some (.d x) => some (norm x, f)
    | _ => none) := nr rfl
@[simp] theorem frz_ce (f : F) (n : Nat) : frz f (.ce n) = (match f.S[n]? with
    | some (.own o) => some (o.d, { f with S := f.S.set n (.d o.d) })
    | some (.d x) => some (x, f)
    | _ => none) := nr rfl
@[simp] theorem views_nil (f : F) : views f [] = some [] := nr rfl
@[simp] theorem views_cons (f : F) (r : RV) (rs : List RV) : views f (r :: rs) = (view f r).bind fun x => (views f rs).bind fun xs => some (x :: xs) := nr rfl
@[simp] theorem frzs_nil (f : F) : frzs f [] = some ([], f) := nr rfl
@[simp] theorem frzs_cons (f : F) (r : RV) (rs : List RV) : frzs f (r :: rs) = (frz f r).bind fun p => (frzs p.2 rs).bind fun q => some (p.1 :: q.1, q.2) := nr rfl
end
/-- small enough -/
def szB (n : Nat) : Bool := decide (n ≤ 16777216)
def szL (n : Nat) : Bool := decide (n < 16777216)
theorem szB_of {n : Nat} (h : n ≤ 16777216) : szB n = true := decide_eq_true h
theorem szL_of {n : Nat} (h : n < 16777216) : szL n = true := decide_eq_true h
theorem ite_szB {α : Type} {n : Nat} {a b : α} : (if n ≤ 16777216 then a else b) = if szB n = true then a else b := by
  by_cases h : n ≤ 16777216
  · rw [if_pos h, if_pos (szB_of h)]
  · rw [if_neg h, if_neg (show ¬ szB n = true from fun z => h (of_decide_eq_true z))]
theorem ite_szL {α : Type} {n : Nat} {a b : α} : (if n < 16777216 then a else b) = if szL n = true then a else b := by
  by_cases h : n < 16777216
  · rw [if_pos h, if_pos (szL_of h)]
  · rw [if_neg h, if_neg (show ¬ szL n = true from fun z => h (of_decide_eq_true z))]
@[simp] theorem szB_0 : szB 0 = true := szB_of (by omega)
@[simp] theorem szL_0 : szL 0 = true := szL_of (by omega)
@[simp] theorem szB_1 : szB 1 = true := szB_of (by omega)
@[simp] theorem szL_1 : szL 1 = true := szL_of (by omega)
@[simp] theorem szB_2 : szB 2 = true := szB_of (by omega)
@[simp] theorem szL_2 : szL 2 = true := szL_of (by omega)
@[simp] theorem szB_3 : szB 3 = true := szB_of (by omega)
@[simp] theorem szL_3 : szL 3 = true := szL_of (by omega)
@[simp] theorem szB_4 : szB 4 = true := szB_of (by omega)
@[simp] theorem szL_4 : szL 4 = true := szL_of (by omega)
@[simp] theorem szB_5 : szB 5 = true := szB_of (by omega)
@[simp] theorem szL_5 : szL 5 = true := szL_of (by omega)
@[simp] theorem szB_6 : szB 6 = true := szB_of (by omega)
@[simp] theorem szL_6 : szL 6 = true := szL_of (by omega)
@[simp] theorem szB_7 : szB 7 = true := szB_of (by omega)
@[simp] theorem szL_7 : szL 7 = true := szL_of (by omega)
@[simp] theorem szB_8 : szB 8 = true := szB_of (by omega)
@[simp] theorem szL_8 : szL 8 = true := szL_of (by omega)
@[simp] theorem szB_9 : szB 9 = true := szB_of (by omega)
@[simp] theorem szL_9 : szL 9 = true := szL_of (by omega)
@[simp] theorem szB_10 : szB 10 = true := szB_of (by omega)
@[simp] theorem szL_10 : szL 10 = true := szL_of (by omega)
@[simp] theorem szB_11 : szB 11 = true := szB_of (by omega)
@[simp] theorem szL_11 : szL 11 = true := szL_of (by omega)
@[simp] theorem szB_12 : szB 12 = true := szB_of (by omega)
@[simp] theorem szL_12 : szL 12 = true := szL_of (by omega)
@[simp] theorem szB_13 : szB 13 = true := szB_of (by omega)
@[simp] theorem szL_13 : szL 13 = true := szL_of (by omega)
@[simp] theorem szB_14 : szB 14 = true := szB_of (by omega)
@[simp] theorem szL_14 : szL 14 = true := szL_of (by omega)
@[simp] theorem szB_15 : szB 15 = true := szB_of (by omega)
@[simp] theorem szL_15 : szL 15 = true := szL_of (by omega)
@[simp] theorem szB_16 : szB 16 = true := szB_of (by omega)
@[simp] theorem szL_16 : szL 16 = true := szL_of (by omega)
@[simp] theorem szB_17 : szB 17 = true := szB_of (by omega)
@[simp] theorem szL_17 : szL 17 = true := szL_of (by omega)
@[simp] theorem szB_18 : szB 18 = true := szB_of (by omega)
@[simp] theorem szL_18 : szL 18 = true := szL_of (by omega)
@[simp] theorem szB_19 : szB 19 = true := szB_of (by omega)
@[simp] theorem szL_19 : szL 19 = true := szL_of (by omega)
@[simp] theorem szB_20 : szB 20 = true := szB_of (by omega)
@[simp] theorem szL_20 : szL 20 = true := szL_of (by omega)
@[simp] theorem szB_21 : szB 21 = true := szB_of (by omega)
@[simp] theorem szL_21 : szL 21 = true := szL_of (by omega)
@[simp] theorem szB_22 : szB 22 = true := szB_of (by omega)
@[simp] theorem szL_22 : szL 22 = true := szL_of (by omega)
@[simp] theorem szB_23 : szB 23 = true := szB_of (by omega)
@[simp] theorem szL_23 : szL 23 = true := szL_of (by omega)
@[simp] theorem szB_24 : szB 24 = true := szB_of (by omega)
@[simp] theorem szL_24 : szL 24 = true := szL_of (by omega)
/-- a range's bounds are small -/
def okR (a b : Int) : Bool := bnd a && bnd b && decide (b - a ≤ 16777216)
theorem okR_2 {a b : Int} : okR a b = true ↔ bnd a = true ∧ bnd b = true ∧ b - a ≤ 16777216 := by
  unfold okR
  rw [Bool.and_eq_true, Bool.and_eq_true, decide_eq_true_eq, and_assoc]
theorem okR_0 {b : Int} : okR 0 b = true ↔ bnd b = true ∧ b ≤ 16777216 := by
  rw [okR_2, Int.sub_zero]
  constructor
  · rintro ⟨_, h⟩; exact h
  · intro h; exact ⟨by decide, h⟩
theorem okR_of {a b : Int} (h1 : -16777216 ≤ a) (h2 : a ≤ 1073741824) (h3 : -16777216 ≤ b) (h4 : b ≤ 1073741824) (h5 : b - a ≤ 16777216) : okR a b = true := by
  rw [okR_2]
  unfold bnd
  simp only [Bool.and_eq_true, decide_eq_true_eq]
  omega
def rng1 : D → F → Res (List D × F)
  | .int b, f => if okR 0 b = true then .ok (rangeL 0 b, f) else .bad
  | _, _ => .bad
def rng2 : D → D → F → Res (List D × F)
  | .int a, .int b, f => if okR a b = true then .ok (rangeL a b, f) else .bad
  | _, _, _ => .bad
@[simp] theorem rng1_int (b : Int) (f : F) : rng1 (.int b) f = if okR 0 b = true then .ok (rangeL 0 b, f) else .bad := by rw [rng1]
@[simp] theorem rng2_int (a b : Int) (f : F) : rng2 (.int a) (.int b) f = if okR a b = true then .ok (rangeL a b, f) else .bad := by rw [rng2]
section
variable (G : Call) (f : F)
@[simp] theorem evE_k (x : D) : evE G (.k x) f = .ok (.d x, f) := by rw [evE]
def kV (i : Nat) (f : F) : Option LV → Res (RV × F)
  | some (.d x) => .ok (.d x, f)
  | some (.own _) => .ok (.vr i, f)
  | some (.c n) => .ok (.ce n, f)
  | _ => .bad
@[simp] theorem kV_d (i : Nat) (x : D) : kV i f (some (.d x)) = .ok (.d x, f) := nr rfl
@[simp] theorem kV_own (i : Nat) (o : Ob) : kV i f (some (.own o)) = .ok (.vr i, f) := nr rfl
@[simp] theorem kV_c (i n : Nat) : kV i f (some (.c n)) = .ok (.ce n, f) := nr rfl
@[simp] theorem evE_v (i : Nat) : evE G (.v i) f = kV i f f.ρ[i]? := by rw [evE] <;> rfl
@[simp] theorem evEs_nil : evEs G [] f = .ok ([], f) := by rw [evEs]
def kCons (r : RV) (q : List RV × F) : Res (List RV × F) := .ok (r :: q.1, q.2)
@[simp] theorem kCons_eq (r : RV) (rs : List RV) : kCons r (rs, f) = .ok (r :: rs, f) := nr rfl
def kEs (G : Call) (es : List Ex) (p : RV × F) : Res (List RV × F) := (evEs G es p.2).bind (kCons p.1)
@[simp] theorem kEs_eq (es : List Ex) (r : RV) : kEs G es (r, f) = (evEs G es f).bind (kCons r) := nr rfl
@[simp] theorem evEs_cons (e : Ex) (es : List Ex) : evEs G (e :: es) f = (evE G e f).bind (kEs G es) := by rw [evEs]; rfl
def kRr (f : F) (r : RR) : Res (RV × F) := .ok (r.rv, f)
@[simp] theorem kRr_d (x : D) : kRr f (.d x) = .ok (.d x, f) := nr rfl
@[simp] theorem kRr_fr (o : Ob) : kRr f (.fr o) = .ok (.fr o, f) := nr rfl
def kOp (o : Op) (p : List RV × F) : Res (RV × F) := (ofOpt ((views p.2 p.1).bind o.run)).bind (kRr p.2)
@[simp] theorem kOp_eq (o : Op) (rs : List RV) : kOp o (rs, f) = (ofOpt ((views f rs).bind o.run)).bind (kRr f) := nr rfl
@[simp] theorem evE_op (o : Op) (es : List Ex) : evE G (.op o es) f = (evEs G es f).bind (kOp o) := by rw [evE]; rfl
def kTup2 (q : List D × F) : Res (RV × F) := if q.1.length ≤ 16777216 then .ok (.d (.tuple q.1), q.2) else .bad
@[simp] theorem kTup2_eq (ds : List D) : kTup2 (ds, f) = if szB ds.length = true then .ok (.d (.tuple ds), f) else .bad := ite_szB
def kTup (p : List RV × F) : Res (RV × F) := (ofOpt (frzs p.2 p.1)).bind kTup2
@[simp] theorem kTup_eq (rs : List RV) : kTup (rs, f) = (ofOpt (frzs f rs)).bind kTup2 := nr rfl
@[simp] theorem evE_tup (es : List Ex) : evE G (.tup es) f = (evEs G es f).bind kTup := by rw [evE]; rfl
def kLst2 (q : List D × F) : Res (RV × F) := if q.1.length ≤ 16777216 then .ok (.fr (.lst q.1), q.2) else .bad
@[simp] theorem kLst2_eq (ds : List D) : kLst2 (ds, f) = if szB ds.length = true then .ok (.fr (.lst ds), f) else .bad := ite_szB
def kLst (p : List RV × F) : Res (RV × F) := (ofOpt (frzs p.2 p.1)).bind kLst2
@[simp] theorem kLst_eq (rs : List RV) : kLst (rs, f) = (ofOpt (frzs f rs)).bind kLst2 := nr rfl
@[simp] theorem evE_lst (es : List Ex) : evE G (.lst es) f = (evEs G es f).bind kLst := by rw [evE]; rfl
@[simp] theorem evE_dct : evE G (.dct [] []) f = .ok (.fr (.dct []), f) := by rw [evE]
def kAnd2 (G : Call) (b : Ex) (p : RV × F) (t : Bool) : Res (RV × F) := if t = true then evE G b p.2 else .ok p
@[simp] theorem kAnd2_eq (b : Ex) (p : RV × F) (t : Bool) : kAnd2 G b p t = if t = true then evE G b p.2 else .ok p := nr rfl
def kAnd (G : Call) (b : Ex) (p : RV × F) : Res (RV × F) := (ofOpt ((view p.2 p.1).bind truth)).bind (kAnd2 G b p)
@[simp] theorem kAnd_eq (b : Ex) (r : RV) : kAnd G b (r, f) = (ofOpt ((view f r).bind truth)).bind (kAnd2 G b (r, f)) := nr rfl
@[simp] theorem evE_and (a b : Ex) : evE G (.and a b) f = (evE G a f).bind (kAnd G b) := by rw [evE]; rfl
def kOr2 (G : Call) (b : Ex) (p : RV × F) (t : Bool) : Res (RV × F) := if t = true then .ok p else evE G b p.2
@[simp] theorem kOr2_eq (b : Ex) (p : RV × F) (t : Bool) : kOr2 G b p t = if t = true then .ok p else evE G b p.2 := nr rfl
def kOr (G : Call) (b : Ex) (p : RV × F) : Res (RV × F) := (ofOpt ((view p.2 p.1).bind truth)).bind (kOr2 G b p)
@[simp] theorem kOr_eq (b : Ex) (r : RV) : kOr G b (r, f) = (ofOpt ((view f r).bind truth)).bind (kOr2 G b (r, f)) := nr rfl
@[simp] theorem evE_or (a b : Ex) : evE G (.or a b) f = (evE G a f).bind (kOr G b) := by rw [evE]; rfl
def kIfe2 (G : Call) (a b : Ex) (f : F) (t : Bool) : Res (RV × F) := if t = true then evE G a f else evE G b f
@[simp] theorem kIfe2_eq (a b : Ex) (t : Bool) : kIfe2 G a b f t = if t = true then evE G a f else evE G b f := nr rfl
def kIfe (G : Call) (a b : Ex) (p : RV × F) : Res (RV × F) := (ofOpt ((view p.2 p.1).bind truth)).bind (kIfe2 G a b p.2)
@[simp] theorem kIfe_eq (a b : Ex) (r : RV) : kIfe G a b (r, f) = (ofOpt ((view f r).bind truth)).bind (kIfe2 G a b f) := nr rfl
@[simp] theorem evE_ife (c a b : Ex) : evE G (.ife c a b) f = (evE G c f).bind (kIfe G a b) := by rw [evE]; rfl
def kCh4 (o' : Op) (q : RV) (u : RV × F) : Res (RV × F) := (ofOpt ((views u.2 [q, u.1]).bind o'.run)).bind (kRr u.2)
@[simp] theorem kCh4_eq (o' : Op) (q r : RV) : kCh4 o' q (r, f) = (ofOpt ((views f [q, r]).bind o'.run)).bind (kRr f) := nr rfl
def kCh3 (G : Call) (o' : Op) (c : Ex) (q : RV × F) : RR → Res (RV × F)
  | .d (.bool b) => if b = true then (evE G c q.2).bind (kCh4 o' q.1) else .ok (.d (.bool false), q.2)
  | _ => .bad
@[simp] theorem kCh3_eq (o' : Op) (c : Ex) (q : RV) (b : Bool) : kCh3 G o' c (q, f) (.d (.bool b)) = if b = true then (evE G c f).bind (kCh4 o' q) else .ok (.d (.bool false), f) := nr rfl
def kCh2 (G : Call) (o o' : Op) (c : Ex) (p : RV) (q : RV × F) : Res (RV × F) := (ofOpt ((views q.2 [p, q.1]).bind o.run)).bind (kCh3 G o' c q)
@[simp] theorem kCh2_eq (o o' : Op) (c : Ex) (p q : RV) : kCh2 G o o' c p (q, f) = (ofOpt ((views f [p, q]).bind o.run)).bind (kCh3 G o' c (q, f)) := nr rfl
def kCh1 (G : Call) (o o' : Op) (b c : Ex) (p : RV × F) : Res (RV × F) := (evE G b p.2).bind (kCh2 G o o' c p.1)
@[simp] theorem kCh1_eq (o o' : Op) (b c : Ex) (p : RV) : kCh1 G o o' b c (p, f) = (evE G b f).bind (kCh2 G o o' c p) := nr rfl
@[simp] theorem evE_ch (o o' : Op) (a b c : Ex) : evE G (.ch o o' a b c) f = (evE G a f).bind (kCh1 G o o' b c) := by
  rw [evE]
  cases evE G a f with
  | bad => rfl
  | ok p =>
    rw [rbnd_ok, rbnd_ok]
    unfold kCh1
    cases evE G b p.2 with
    | bad => rfl
    | ok q =>
      rw [rbnd_ok, rbnd_ok]
      unfold kCh2
      cases (views q.2 [p.1, q.1]).bind o.run with
      | none => rfl
      | some r =>
        cases r with
        | fr o => rfl
        | ex c => rfl
        | d x => cases x with
          | bool b => cases b <;> rfl
          | _ => rfl
def kSl3 (x : RV) (i : D) (r : RV × F) : Res (RV × F) := match i, r.1 with
  | .int i, .d (.int j) => (ofOpt ((view r.2 x).bind fun x => sliceD x (some i) (some j))).bind (kRr r.2)
  | _, _ => .bad
@[simp] theorem kSl3_eq (x : RV) (i j : Int) : kSl3 x (.int i) (.d (.int j), f) = (ofOpt ((view f x).bind fun x => sliceD x (some i) (some j))).bind (kRr f) := nr rfl
def kSl2 (G : Call) (hi : Ex) (x : RV) (q : RV × F) : Res (RV × F) := match q.1 with
  | .d (.int i) => (evE G hi q.2).bind (kSl3 x (.int i))
  | _ => .bad
@[simp] theorem kSl2_eq (hi : Ex) (x : RV) (i : Int) : kSl2 G hi x (.d (.int i), f) = (evE G hi f).bind (kSl3 x (.int i)) := nr rfl
def kSl1 (G : Call) (lo hi : Ex) (p : RV × F) : Res (RV × F) := (evE G lo p.2).bind (kSl2 G hi p.1)
@[simp] theorem kSl1_eq (lo hi : Ex) (x : RV) : kSl1 G lo hi (x, f) = (evE G lo f).bind (kSl2 G hi x) := nr rfl
@[simp] theorem evE_sl2 (a lo hi : Ex) : evE G (.sl2 a lo hi) f = (evE G a f).bind (kSl1 G lo hi) := by
  rw [evE]
  cases evE G a f with
  | bad => rfl
  | ok p =>
    rw [rbnd_ok, rbnd_ok]
    unfold kSl1
    cases evE G lo p.2 with
    | bad => rfl
    | ok q =>
      obtain ⟨q1, q2⟩ := q
      rw [rbnd_ok, rbnd_ok]
      unfold kSl2
      cases q1 with
      | d x => cases x with
        | int i =>
          dsimp only
          cases evE G hi q2 with
          | bad => rfl
          | ok r =>
            obtain ⟨r1, r2⟩ := r
            rw [rbnd_ok, rbnd_ok]
            cases r1 with
            | d x => cases x <;> rfl
            | _ => rfl
        | _ => rfl
      | _ => rfl
def kRv (r : RR) (f : F) : Res (RV × F) := (ofOpt r.val).bind fun v => .ok (v, f)
@[simp] theorem kRv_d (x : D) : kRv (.d x) f = .ok (.d x, f) := nr rfl
@[simp] theorem kRv_fr (o : Ob) : kRv (.fr o) f = .ok (.fr o, f) := nr rfl
def kBack (f : F) (ls : List Loc) (p : RR × List SV) : Res (RV × F) := (ofOpt (putB (clr f ls) ls p.2)).bind (kRv p.1)
@[simp] theorem kBack_eq (ls : List Loc) (r : RR) (us : List SV) : kBack f ls (r, us) = (ofOpt (putB (clr f ls) ls us)).bind (kRv r) := nr rfl
def kCall2 (G : Call) (g : Nat) (f : F) (rvs : List RV) (as : List Arg) : Res (RV × F) := if (locs f rvs).Nodup then (G g as).bind (kBack f (locs f rvs)) else .bad
@[simp] theorem kCall2_eq (g : Nat) (rvs : List RV) (as : List Arg) : kCall2 G g f rvs as = if (locs f rvs).Nodup then (G g as).bind (kBack f (locs f rvs)) else .bad := nr rfl
def kCall (G : Call) (g : Nat) (p : List RV × F) : Res (RV × F) := doCall G g p.2 p.1
@[simp] theorem kCall_eq (g : Nat) (rvs : List RV) : kCall G g (rvs, f) = (ofOpt (toArgs f rvs)).bind (kCall2 G g f rvs) := by
  show (doCallR G g f rvs).bind _ = _
  unfold doCallR
  cases toArgs f rvs with
  | none => rfl
  | some as =>
    show (if (locs f rvs).Nodup then _ else _ : Res (RR × F)).bind _ = (if (locs f rvs).Nodup then _ else _)
    split
    · cases G g as with
      | bad => rfl
      | ok p =>
        show (Res.bind (ofOpt (putB (clr f (locs f rvs)) (locs f rvs) p.2)) _).bind _ = (ofOpt (putB (clr f (locs f rvs)) (locs f rvs) p.2)).bind (kRv p.1)
        cases putB (clr f (locs f rvs)) (locs f rvs) p.2 <;> rfl
    · rfl
/-! calls that may let an exception out -/
def kPr (r : RR) (f : F) : Res (RR × F) := .ok (r, f)
@[simp] theorem kPr_eq (r : RR) : kPr r f = .ok (r, f) := nr rfl
def kBackX (f : F) (ls : List Loc) (p : RR × List SV) : Res (RR × F) := (ofOpt (putB (clr f ls) ls p.2)).bind (kPr p.1)
@[simp] theorem kBackX_eq (ls : List Loc) (r : RR) (us : List SV) : kBackX f ls (r, us) = (ofOpt (putB (clr f ls) ls us)).bind (kPr r) := nr rfl
def kCallX2 (G : Call) (g : Nat) (f : F) (rvs : List RV) (as : List Arg) : Res (RR × F) := if (locs f rvs).Nodup then (G g as).bind (kBackX f (locs f rvs)) else .bad
@[simp] theorem kCallX2_eq (g : Nat) (rvs : List RV) (as : List Arg) : kCallX2 G g f rvs as = if (locs f rvs).Nodup then (G g as).bind (kBackX f (locs f rvs)) else .bad := nr rfl
def kCallX (G : Call) (g : Nat) (p : List RV × F) : Res (RR × F) := doCallR G g p.2 p.1
@[simp] theorem kCallX_eq (g : Nat) (rvs : List RV) : kCallX G g (rvs, f) = (ofOpt (toArgs f rvs)).bind (kCallX2 G g f rvs) := nr rfl
@[simp] theorem evX_call (g : Nat) (es : List Ex) : evX G (.call g es) f = (evEs G es f).bind (kCallX G g) := by rw [evX]; rfl
def kCallkX (G : Call) (g : Nat) (pm : List Nat) (p : List RV × F) : Res (RR × F) := doCallR G g p.2 (permR p.1 pm)
@[simp] theorem kCallkX_eq (g : Nat) (pm : List Nat) (rvs : List RV) : kCallkX G g pm (rvs, f) = kCallX G g (permR rvs pm, f) := nr rfl
@[simp] theorem evX_callk (g : Nat) (pm : List Nat) (es : List Ex) : evX G (.callk g pm es) f = (evEs G es f).bind (kCallkX G g pm) := by rw [evX]; rfl
@[simp] theorem evE_call (g : Nat) (es : List Ex) : evE G (.call g es) f = (evEs G es f).bind (kCall G g) := by rw [evE]; rfl
def kCallk (G : Call) (g : Nat) (pm : List Nat) (p : List RV × F) : Res (RV × F) := doCall G g p.2 (permR p.1 pm)
@[simp] theorem kCallk_eq (g : Nat) (pm : List Nat) (rvs : List RV) : kCallk G g pm (rvs, f) = kCall G g (permR rvs pm, f) := nr rfl
@[simp] theorem evE_callk (g : Nat) (pm : List Nat) (es : List Ex) : evE G (.callk g pm es) f = (evEs G es f).bind (kCallk G g pm) := by rw [evE]; rfl
def kMe3 (r : RV) (o : Op) (q : List RV × F) : Res (RV × F) := (ofOpt ((views q.2 (r :: q.1)).bind o.run)).bind (kRr q.2)
@[simp] theorem kMe3_eq (r : RV) (o : Op) (rs : List RV) : kMe3 r o (rs, f) = (ofOpt ((views f (r :: rs)).bind o.run)).bind (kRr f) := nr rfl
def kMe2 (G : Call) (es : List Ex) (p : RV × F) (o : Op) : Res (RV × F) := (evEs G es p.2).bind (kMe3 p.1 o)
@[simp] theorem kMe2_eq (es : List Ex) (r : RV) (o : Op) : kMe2 G es (r, f) o = (evEs G es f).bind (kMe3 r o) := nr rfl
def kMe (G : Call) (nm : Str) (es : List Ex) (p : RV × F) : Res (RV × F) := (ofOpt (meR p.2 nm es.length p.1)).bind (kMe2 G es p)
@[simp] theorem kMe_eq (nm : Str) (es : List Ex) (r : RV) : kMe G nm es (r, f) = (ofOpt (meR f nm es.length r)).bind (kMe2 G es (r, f)) := nr rfl
@[simp] theorem meR_d (nm : Str) (n : Nat) (x : D) : meR f nm n (.d x) = if isPl x = true then plT nm n else meT nm (tyD (norm x)) n := nr rfl
@[simp] theorem meR_fr (nm : Str) (n : Nat) (o : Ob) : meR f nm n (.fr o) = meT nm (tyD o.d) n := nr rfl
@[simp] theorem meR_vr (nm : Str) (n : Nat) (i : Nat) : meR f nm n (.vr i) = (slotD f.ρ[i]?).bind fun y => meT nm (tyD y) n := nr rfl
@[simp] theorem meR_ce (nm : Str) (n : Nat) (i : Nat) : meR f nm n (.ce i) = (cellD f.S[i]?).bind fun y => meT nm (tyD y) n := nr rfl
@[simp] theorem evE_me (nm : Str) (a : Ex) (es : List Ex) : evE G (.me nm a es) f = (evE G a f).bind (kMe G nm es) := by rw [evE]; rfl
def kMu5 (f : F) (l : Loc) (u : Ob × D) : Res (RV × F) := .ok (.d u.2, put1 f l (.own u.1))
@[simp] theorem kMu5_eq (l : Loc) (o : Ob) (x : D) : kMu5 f l (o, x) = .ok (.d x, put1 f l (.own o)) := nr rfl
def kMu4 (m : Mu) (ds : List D) (f : F) (l : Loc × Ob) : Res (RV × F) := (ofOpt (m.run l.2 ds)).bind (kMu5 f l.1)
@[simp] theorem kMu4_eq (m : Mu) (ds : List D) (l : Loc) (o : Ob) : kMu4 m ds f (l, o) = (ofOpt (m.run o ds)).bind (kMu5 f l) := nr rfl
def kMu3 (m : Mu) (r : RV) (q : List D × F) : Res (RV × F) := (ofOpt (ownAt q.2 r)).bind (kMu4 m q.1 q.2)
@[simp] theorem kMu3_eq (m : Mu) (r : RV) (ds : List D) : kMu3 m r (ds, f) = (ofOpt (ownAt f r)).bind (kMu4 m ds f) := nr rfl
def kMu2 (m : Mu) (r : RV) (q : List RV × F) : Res (RV × F) := (ofOpt (frzs q.2 q.1)).bind (kMu3 m r)
@[simp] theorem kMu2_eq (m : Mu) (r : RV) (rs : List RV) : kMu2 m r (rs, f) = (ofOpt (frzs f rs)).bind (kMu3 m r) := nr rfl
def isLst (y : D) : Option Unit := if tyD y = "list" then some () else none
@[simp] theorem isLst_list (ds : List D) : isLst (.list ds) = some () := nr rfl
def kMu1 (G : Call) (m : Mu) (es : List Ex) (p : RV × F) (_ : Unit) : Res (RV × F) := (evEs G es p.2).bind (kMu2 m p.1)
@[simp] theorem kMu1_eq (m : Mu) (es : List Ex) (r : RV) (u : Unit) : kMu1 G m es (r, f) u = (evEs G es f).bind (kMu2 m r) := nr rfl
def kMu (G : Call) (m : Mu) (es : List Ex) (p : RV × F) : Res (RV × F) := (ofOpt ((view p.2 p.1).bind isLst)).bind (kMu1 G m es p)
@[simp] theorem kMu_eq (m : Mu) (es : List Ex) (r : RV) : kMu G m es (r, f) = (ofOpt ((view f r).bind isLst)).bind (kMu1 G m es (r, f)) := nr rfl
@[simp] theorem evE_mu (m : Mu) (a : Ex) (es : List Ex) : evE G (.mu m a es) f = (evE G a f).bind (kMu G m es) := by rw [evE]; rfl
@[simp] theorem frz1_eq (v : Nat) : frz1 f v = (match f.ρ[v]? with
  | some (.own o) => { f with ρ := f.ρ.set v (.d o.d) }
  | _ => f) := nr rfl
@[simp] theorem frzV_nil : frzV f [] = f := nr rfl
@[simp] theorem frzV_cons (v : Nat) (vs : List Nat) : frzV f (v :: vs) = frzV (frz1 f v) vs := nr rfl
@[simp] theorem kFz_eq (own : List Nat) (ds : List D) : kFz own (ds, f) = .ok (ds, frzV f own) := nr rfl
def kLc2 (ρ : List LV) (own : List Nat) (q : List D × F) : Res (RV × F) := .ok (.fr (.lst q.1), { q.2 with ρ := backL ρ q.2.ρ own })
@[simp] theorem kLc2_eq (ρ : List LV) (own : List Nat) (ds : List D) : kLc2 ρ own (ds, f) = .ok (.fr (.lst ds), { f with ρ := backL ρ f.ρ own }) := nr rfl
def kLc (G : Call) (t : Tg) (ifs : List Ex) (e : Ex) (own : List Nat) (p : List D × F) : Res (RV × F) := if noOwn p.2.ρ own = true ∧ (tgI t).all (own.contains ·) = true then
      (lcLoop (evT G ifs) (evE G e) t own p.1 [] { p.2 with ρ := wipeL p.2.ρ own }).bind (kLc2 p.2.ρ own) else .bad
@[simp] theorem kLc_eq (t : Tg) (ifs : List Ex) (e : Ex) (own : List Nat) (ds : List D) : kLc G t ifs e own (ds, f) = if noOwn f.ρ own = true ∧ (tgI t).all (own.contains ·) = true then
      (lcLoop (evT G ifs) (evE G e) t own ds [] { f with ρ := wipeL f.ρ own }).bind (kLc2 f.ρ own) else .bad := nr rfl
@[simp] theorem evE_lc (t : Tg) (it : It) (ifs : List Ex) (e : Ex) (own : List Nat) : evE G (.lc t it ifs e own) f = ((evI G it f).bind (kFz own)).bind (kLc G t ifs e own) := by rw [evE]; rfl
theorem eqDs_ints (L : List Int) : eqDs (L.map .int) (L.map .int) = true := by
  induction L with
  | nil => rfl
  | cons x L ih => rw [List.map_cons, eqDs, eqD, ih]; simp
def kIsD (f : F) (r : Option LV) : Option D := match r with
  | some (.d x) => some x
  | _ => none
@[simp] theorem isDat_eq (j : Nat) : isDat f j = match f.ρ[j]? with
  | some (.d x) => some x
  | _ => none := nr rfl
@[simp] theorem lstAt_eq (j : Nat) : lstAt f j = match f.ρ[j]? with
  | some (.own (.lst xs)) => some xs
  | some (.c n) => (match f.S[n]? with
    | some (.own (.lst xs)) => some xs
    | some (.d (.list xs)) => some xs
    | _ => none)
  | _ => none := nr rfl
def kKp (ds : List D) : Option (List D) → Bool
  | some xs => eqDs xs ds
  | none => false
@[simp] theorem kKp_some (ds xs : List D) : kKp ds (some xs) = eqDs xs ds := nr rfl
@[simp] theorem kKp_ints (L : List Int) : eqDs (L.map .int) (L.map .int) = true := eqDs_ints L
theorem keepB_eq (j : Nat) (ds : List D) : keepB j ds f = kKp ds (lstAt f j) := by unfold keepB kKp; cases lstAt f j <;> rfl
@[simp] theorem evK_eq (j : Nat) (ds : List D) (T : F → Res (Bool × F)) : evK j ds T f = if kKp ds (lstAt f j) = true then T f else .bad := by unfold evK; rw [keepB_eq]
def kLk2 (j : Nat) (ds : List D) (ρ : List LV) (own : List Nat) (q : List D × F) : Res (RV × F) := if kKp ds (lstAt q.2 j) = true then .ok (.fr (.lst q.1), { q.2 with ρ := backL ρ q.2.ρ own }) else .bad
@[simp] theorem kLk2_eq (j : Nat) (ds : List D) (ρ : List LV) (own : List Nat) (ys : List D) : kLk2 j ds ρ own (ys, f) = if kKp ds (lstAt f j) = true then .ok (.fr (.lst ys), { f with ρ := backL ρ f.ρ own }) else .bad := nr rfl
def kLk1 (G : Call) (t : Tg) (j : Nat) (ifs : List Ex) (e : Ex) (own : List Nat) (f : F) (ds : List D) : Res (RV × F) := if noOwn (frzV f own).ρ own = true ∧ (tgI t).all (own.contains ·) = true ∧ own.contains j = false then
      (lcLoop (evK j ds (evT G ifs)) (evE G e) t own ds [] { (frzV f own) with ρ := wipeL (frzV f own).ρ own }).bind (kLk2 j ds (frzV f own).ρ own) else .bad
@[simp] theorem kLk1_eq (t : Tg) (j : Nat) (ifs : List Ex) (e : Ex) (own : List Nat) (ds : List D) : kLk1 G t j ifs e own f ds = if noOwn (frzV f own).ρ own = true ∧ (tgI t).all (own.contains ·) = true ∧ own.contains j = false then
      (lcLoop (evK j ds (evT G ifs)) (evE G e) t own ds [] { (frzV f own) with ρ := wipeL (frzV f own).ρ own }).bind (kLk2 j ds (frzV f own).ρ own) else .bad := nr rfl
def kLk (G : Call) (t : Tg) (j : Nat) (ifs : List Ex) (e : Ex) (own : List Nat) (f : F) : Option D → Res (RV × F)
  | some x => (((ofOpt (itemsD (norm x))).bind fun l => .ok (l, f)).bind (kFz own)).bind (kLc G t ifs e own)
  | none => (ofOpt (lstAt f j)).bind (kLk1 G t j ifs e own f)
@[simp] theorem kLk_some (t : Tg) (j : Nat) (ifs : List Ex) (e : Ex) (own : List Nat) (x : D) : kLk G t j ifs e own f (some x) = (((ofOpt (itemsD (norm x))).bind fun l => .ok (l, f)).bind (kFz own)).bind (kLc G t ifs e own) := nr rfl
@[simp] theorem kLk_none (t : Tg) (j : Nat) (ifs : List Ex) (e : Ex) (own : List Nat) : kLk G t j ifs e own f none = (ofOpt (lstAt f j)).bind (kLk1 G t j ifs e own f) := nr rfl
@[simp] theorem evE_lck (t : Tg) (j : Nat) (ifs : List Ex) (e : Ex) (own : List Nat) : evE G (.lck t j ifs e own) f = kLk G t j ifs e own f (isDat f j) := by
  rw [evE]
  cases h : isDat f j with
  | some x => rfl
  | none =>
    simp only [kLk]
    congr 1
def kL2 (G : Call) (t : Tg) (ifs : List Ex) (t1 : Tg) (it1 : It) (ifs1 : List Ex) (e : Ex) (own own1 : List Nat) (p : List D × F) : Res (RV × F) := if noOwn p.2.ρ own = true ∧ (tgI t).all (own.contains ·) = true ∧ (tgI t1).all (own1.contains ·) = true ∧ own1.all (own.contains ·) = true then
      (lc2Loop (evT G ifs) (evI G it1) (evT G ifs1) (evE G e) t t1 own own1 p.1 [] { p.2 with ρ := wipeL p.2.ρ own }).bind (kLc2 p.2.ρ own) else .bad
@[simp] theorem kL2_eq (t : Tg) (ifs : List Ex) (t1 : Tg) (it1 : It) (ifs1 : List Ex) (e : Ex) (own own1 : List Nat) (ds : List D) : kL2 G t ifs t1 it1 ifs1 e own own1 (ds, f) = if noOwn f.ρ own = true ∧ (tgI t).all (own.contains ·) = true ∧ (tgI t1).all (own1.contains ·) = true ∧ own1.all (own.contains ·) = true then
      (lc2Loop (evT G ifs) (evI G it1) (evT G ifs1) (evE G e) t t1 own own1 ds [] { f with ρ := wipeL f.ρ own }).bind (kLc2 f.ρ own) else .bad := nr rfl
@[simp] theorem evE_lc2 (t : Tg) (it : It) (ifs : List Ex) (t1 : Tg) (it1 : It) (ifs1 : List Ex) (e : Ex) (own own1 : List Nat) : evE G (.lc2 t it ifs t1 it1 ifs1 e own own1) f = ((evI G it f).bind (kFz own)).bind (kL2 G t ifs t1 it1 ifs1 e own own1) := by rw [evE]; rfl
@[simp] theorem evT_nil : evT G [] f = .ok (true, f) := by rw [evT]
def kT2 (G : Call) (es : List Ex) (f : F) (t : Bool) : Res (Bool × F) := if t = true then evT G es f else .ok (false, f)
@[simp] theorem kT2_eq (es : List Ex) (t : Bool) : kT2 G es f t = if t = true then evT G es f else .ok (false, f) := nr rfl
def kT1 (G : Call) (es : List Ex) (p : RV × F) : Res (Bool × F) := (ofOpt ((view p.2 p.1).bind truth)).bind (kT2 G es p.2)
@[simp] theorem kT1_eq (es : List Ex) (r : RV) : kT1 G es (r, f) = (ofOpt ((view f r).bind truth)).bind (kT2 G es f) := nr rfl
@[simp] theorem evT_cons (e : Ex) (es : List Ex) : evT G (e :: es) f = (evE G e f).bind (kT1 G es) := by rw [evT]; rfl
def kI3 (f : F) (l : List D) : Res (List D × F) := .ok (l, f)
@[simp] theorem kI3_eq (l : List D) : kI3 f l = .ok (l, f) := nr rfl
def kI2 (q : D × F) : Res (List D × F) := (ofOpt (itemsD q.1)).bind (kI3 q.2)
@[simp] theorem kI2_eq (x : D) : kI2 (x, f) = (ofOpt (itemsD x)).bind (kI3 f) := nr rfl
def kI1 (p : RV × F) : Res (List D × F) := (ofOpt (frz p.2 p.1)).bind kI2
@[simp] theorem kI1_eq (r : RV) : kI1 (r, f) = (ofOpt (frz f r)).bind kI2 := nr rfl
@[simp] theorem evI_seq (e : Ex) : evI G (.seq e) f = (evE G e f).bind kI1 := by rw [evI]; rfl
def kR1 (p : RV × F) : Res (List D × F) := (ofOpt (view p.2 p.1)).bind fun d => rng1 d p.2
@[simp] theorem kR1_eq (r : RV) : kR1 (r, f) = (ofOpt (view f r)).bind fun d => rng1 d f := nr rfl
@[simp] theorem evI_rng1 (e : Ex) : evI G (.rng [e]) f = (evE G e f).bind kR1 := by
  rw [evI, evEs_cons]
  cases evE G e f with
  | bad => rfl
  | ok p =>
    obtain ⟨p1, p2⟩ := p
    rw [rbnd_ok, kEs_eq, evEs_nil, rbnd_ok, kCons_eq, rbnd_ok, rbnd_ok, kR1_eq]
    dsimp only
    rw [views_cons]
    cases view p2 p1 with
    | none => rfl
    | some d =>
      cases d <;> try rfl
      rename_i b
      show (if bnd b = true ∧ b ≤ 16777216 then Res.ok (rangeL 0 b, p2) else .bad) = if okR 0 b = true then Res.ok (rangeL 0 b, p2) else .bad
      by_cases h : bnd b = true ∧ b ≤ 16777216
      · rw [if_pos h, if_pos (okR_0.mpr h)]
      · rw [if_neg h, if_neg (fun z => h (okR_0.mp z))]
def kR3 (x : RV) (q : RV × F) : Res (List D × F) := (ofOpt (view q.2 x)).bind fun x => (ofOpt (view q.2 q.1)).bind fun y => rng2 x y q.2
@[simp] theorem kR3_eq (x r : RV) : kR3 x (r, f) = (ofOpt (view f x)).bind fun x => (ofOpt (view f r)).bind fun y => rng2 x y f := nr rfl
def kR2 (G : Call) (b : Ex) (p : RV × F) : Res (List D × F) := (evE G b p.2).bind (kR3 p.1)
@[simp] theorem kR2_eq (b : Ex) (r : RV) : kR2 G b (r, f) = (evE G b f).bind (kR3 r) := nr rfl
@[simp] theorem evI_rng2 (a b : Ex) : evI G (.rng [a, b]) f = (evE G a f).bind (kR2 G b) := by
  rw [evI, evEs_cons]
  cases evE G a f with
  | bad => rfl
  | ok p =>
    obtain ⟨p1, p2⟩ := p
    rw [rbnd_ok, rbnd_ok, kEs_eq, evEs_cons, kR2_eq]
    cases evE G b p2 with
    | bad => rfl
    | ok q =>
      obtain ⟨q1, q2⟩ := q
      rw [rbnd_ok, rbnd_ok, kEs_eq, evEs_nil, rbnd_ok, kCons_eq, rbnd_ok, kCons_eq, rbnd_ok, kR3_eq]
      dsimp only
      rw [views_cons]
      cases view q2 p1 with
      | none => rfl
      | some x =>
        rw [views_cons]
        cases view q2 q1 with
        | none => cases x <;> rfl
        | some y =>
          cases x <;> cases y <;> try rfl
          rename_i a b
          show (if bnd a = true ∧ bnd b = true ∧ b - a ≤ 16777216 then Res.ok (rangeL a b, q2) else .bad) = if okR a b = true then Res.ok (rangeL a b, q2) else .bad
          by_cases h : bnd a = true ∧ bnd b = true ∧ b - a ≤ 16777216
          · rw [if_pos h, if_pos (okR_2.mpr h)]
          · rw [if_neg h, if_neg (fun z => h (okR_2.mp z))]
def kN2 (q : D × F) : Res (List D × F) := match q.1 with
  | .list ds => .ok (enumL 0 ds, q.2)
  | .tuple ds => .ok (enumL 0 ds, q.2)
  | _ => .bad
@[simp] theorem kN2_list (ds : List D) : kN2 (.list ds, f) = .ok (enumL 0 ds, f) := nr rfl
@[simp] theorem kN2_tuple (ds : List D) : kN2 (.tuple ds, f) = .ok (enumL 0 ds, f) := nr rfl
def kN1 (p : RV × F) : Res (List D × F) := (ofOpt (frz p.2 p.1)).bind kN2
@[simp] theorem kN1_eq (r : RV) : kN1 (r, f) = (ofOpt (frz f r)).bind kN2 := nr rfl
@[simp] theorem evI_enum (e : Ex) : evI G (.enum e) f = (evE G e f).bind kN1 := by rw [evI] <;> rfl
def kZ3 (q : List D × F) : Res (List D × F) := match q.1 with
  | [.list xs, .list ys] => .ok (zipL xs ys, q.2)
  | [.tuple xs, .tuple ys] => .ok (zipL xs ys, q.2)
  | _ => .bad
@[simp] theorem kZ3_list (xs ys : List D) : kZ3 ([.list xs, .list ys], f) = .ok (zipL xs ys, f) := nr rfl
@[simp] theorem kZ3_tuple (xs ys : List D) : kZ3 ([.tuple xs, .tuple ys], f) = .ok (zipL xs ys, f) := nr rfl
def kZ2 (r : RV) (q : RV × F) : Res (List D × F) := (ofOpt (frzs q.2 [r, q.1])).bind kZ3
@[simp] theorem kZ2_eq (r r2 : RV) : kZ2 r (r2, f) = (ofOpt (frzs f [r, r2])).bind kZ3 := nr rfl
def kZ1 (G : Call) (b : Ex) (p : RV × F) : Res (List D × F) := (evE G b p.2).bind (kZ2 p.1)
@[simp] theorem kZ1_eq (b : Ex) (r : RV) : kZ1 G b (r, f) = (evE G b f).bind (kZ2 r) := nr rfl
@[simp] theorem evI_zip (a b : Ex) : evI G (.zip a b) f = (evE G a f).bind (kZ1 G b) := by rw [evI]; rfl
def kEx (p : RV × F) : Out := .nx p.2
@[simp] theorem kEx_eq (r : RV) : kEx (r, f) = .nx f := nr rfl
@[simp] theorem xS_ex (e : Ex) : xS G (.ex e) f = Out.of (evE G e f) kEx := by rw [xS]; rfl
def kAsg (i : Nat) (p : RV × F) : Out := Out.of (ofOpt (bindN p.2 i p.1)) .nx
@[simp] theorem kAsg_eq (i : Nat) (r : RV) : kAsg i (r, f) = Out.of (ofOpt (bindN f i r)) .nx := nr rfl
@[simp] theorem xS_asg (i : Nat) (e : Ex) : xS G (.asg (.name i) e) f = Out.of (evE G e f) (kAsg i) := by rw [xS]; rfl
def kAsgT3 (f : F) (ρ1 : List LV) : Out := .nx { f with ρ := ρ1 }
@[simp] theorem kAsgT3_eq (ρ1 : List LV) : kAsgT3 f ρ1 = .nx { f with ρ := ρ1 } := nr rfl
def kAsgT2 (t : Tg) (q : D × F) : Out := Out.of (ofOpt (bindT t q.1 q.2.ρ)) (kAsgT3 q.2)
@[simp] theorem kAsgT2_eq (t : Tg) (x : D) : kAsgT2 t (x, f) = Out.of (ofOpt (bindT t x f.ρ)) (kAsgT3 f) := nr rfl
def kAsgT (t : Tg) (p : RV × F) : Out := Out.of (ofOpt (frz p.2 p.1)) (kAsgT2 t)
@[simp] theorem kAsgT_eq (t : Tg) (r : RV) : kAsgT t (r, f) = Out.of (ofOpt (frz f r)) (kAsgT2 t) := nr rfl
@[simp] theorem xS_asgT (ts : List Tg) (e : Ex) : xS G (.asg (.tup ts) e) f = Out.of (evE G e f) (kAsgT (.tup ts)) := by
  rw [xS]
  · rfl
  · intro i e
    cases e
def kPar2 (is : List Nat) (q : List RV × F) : Out := Out.of (ofOpt (bindNs q.2 is q.1)) .nx
@[simp] theorem kPar2_eq (is : List Nat) (rs : List RV) : kPar2 is (rs, f) = Out.of (ofOpt (bindNs f is rs)) .nx := nr rfl
def kPar (is : List Nat) (p : List RV × F) : Out := Out.of (ofOpt (prepN p.2 p.1)) (kPar2 is)
@[simp] theorem kPar_eq (is : List Nat) (rs : List RV) : kPar is (rs, f) = Out.of (ofOpt (prepN f rs)) (kPar2 is) := nr rfl
@[simp] theorem xS_par (is : List Nat) (es : List Ex) : xS G (.par is es) f = Out.of (evEs G es f) (kPar is) := by rw [xS]; rfl
def kSub6 (f : F) (l : Loc) (o : Ob) : Out := .nx (put1 f l (.own o))
@[simp] theorem kSub6_eq (l : Loc) (o : Ob) : kSub6 f l o = .nx (put1 f l (.own o)) := nr rfl
def kSub5 (f : F) (y : D) (k : D) (l : Loc × Ob) : Out := Out.of (ofOpt (putO l.2 k y)) (kSub6 f l.1)
@[simp] theorem kSub5_eq (y k : D) (l : Loc) (o : Ob) : kSub5 f y k (l, o) = Out.of (ofOpt (putO o k y)) (kSub6 f l) := nr rfl
def kSub4 (f : F) (y : D) (q : RV) (k : D) : Out := Out.of (ofOpt (ownAt f q)) (kSub5 f y k)
@[simp] theorem kSub4_eq (y : D) (q : RV) (k : D) : kSub4 f y q k = Out.of (ofOpt (ownAt f q)) (kSub5 f y k) := nr rfl
def kSub3 (y : D) (q : RV) (r : RV × F) : Out := Out.of (ofOpt (view r.2 r.1)) (kSub4 r.2 y q)
@[simp] theorem kSub3_eq (y : D) (q r : RV) : kSub3 y q (r, f) = Out.of (ofOpt (view f r)) (kSub4 f y q) := nr rfl
def kSub2 (G : Call) (i : Ex) (y : D) (q : RV × F) : Out := Out.of (evE G i q.2) (kSub3 y q.1)
@[simp] theorem kSub2_eq (i : Ex) (y : D) (q : RV) : kSub2 G i y (q, f) = Out.of (evE G i f) (kSub3 y q) := nr rfl
def kSub1 (G : Call) (a i : Ex) (y : D × F) : Out := Out.of (evE G a y.2) (kSub2 G i y.1)
@[simp] theorem kSub1_eq (a i : Ex) (y : D) : kSub1 G a i (y, f) = Out.of (evE G a f) (kSub2 G i y) := nr rfl
def kSub (G : Call) (a i : Ex) (p : RV × F) : Out := Out.of (ofOpt (frz p.2 p.1)) (kSub1 G a i)
@[simp] theorem kSub_eq (a i : Ex) (r : RV) : kSub G a i (r, f) = Out.of (ofOpt (frz f r)) (kSub1 G a i) := nr rfl
@[simp] theorem xS_sub (a i e : Ex) : xS G (.sub a i e) f = Out.of (evE G e f) (kSub G a i) := by rw [xS]; rfl
def kTs6 (f : F) (l : Loc) (j : Nat) (y2 : D) (o : Ob) : Out := let f3 := put1 f l (.own o); .nx { f3 with ρ := f3.ρ.set j (.d y2) }
@[simp] theorem kTs6_eq (l : Loc) (j : Nat) (y2 : D) (o : Ob) : kTs6 f l j y2 o = .nx { (put1 f l (.own o)) with ρ := (put1 f l (.own o)).ρ.set j (.d y2) } := nr rfl
def kTs5 (f : F) (j : Nat) (y1 y2 : D) (k : D) (l : Loc × Ob) : Out := Out.of (ofOpt (putO l.2 k y1)) (kTs6 f l.1 j y2)
@[simp] theorem kTs5_eq (j : Nat) (y1 y2 k : D) (l : Loc) (o : Ob) : kTs5 f j y1 y2 k (l, o) = Out.of (ofOpt (putO o k y1)) (kTs6 f l j y2) := nr rfl
def kTs4 (f : F) (j : Nat) (y1 y2 : D) (q : RV) (k : D) : Out := Out.of (ofOpt (ownAt f q)) (kTs5 f j y1 y2 k)
@[simp] theorem kTs4_eq (j : Nat) (y1 y2 : D) (q : RV) (k : D) : kTs4 f j y1 y2 q k = Out.of (ofOpt (ownAt f q)) (kTs5 f j y1 y2 k) := nr rfl
def kTs3 (j : Nat) (y1 y2 : D) (q : RV) (r : RV × F) : Out := Out.of (ofOpt (view r.2 r.1)) (kTs4 r.2 j y1 y2 q)
@[simp] theorem kTs3_eq (j : Nat) (y1 y2 : D) (q r : RV) : kTs3 j y1 y2 q (r, f) = Out.of (ofOpt (view f r)) (kTs4 f j y1 y2 q) := nr rfl
def kTs2 (G : Call) (i : Ex) (j : Nat) (y1 y2 : D) (q : RV × F) : Out := Out.of (evE G i q.2) (kTs3 j y1 y2 q.1)
@[simp] theorem kTs2_eq (i : Ex) (j : Nat) (y1 y2 : D) (q : RV) : kTs2 G i j y1 y2 (q, f) = Out.of (evE G i f) (kTs3 j y1 y2 q) := nr rfl
def kTs1 (G : Call) (a i : Ex) (j : Nat) (y : D × F) : Out := match y.1 with
    | .tuple [y1, y2] => Out.of (evE G a y.2) (kTs2 G i j y1 y2)
    | _ => .bad
@[simp] theorem kTs1_eq (a i : Ex) (j : Nat) (y1 y2 : D) : kTs1 G a i j (.tuple [y1, y2], f) = Out.of (evE G a f) (kTs2 G i j y1 y2) := nr rfl
def kTs (G : Call) (a i : Ex) (j : Nat) (p : RV × F) : Out := Out.of (ofOpt (frz p.2 p.1)) (kTs1 G a i j)
@[simp] theorem kTs_eq (a i : Ex) (j : Nat) (r : RV) : kTs G a i j (r, f) = Out.of (ofOpt (frz f r)) (kTs1 G a i j) := nr rfl
@[simp] theorem xS_tsub (a i : Ex) (j : Nat) (e : Ex) : xS G (.tsub a i j e) f = Out.of (evE G e f) (kTs G a i j) := by rw [xS] <;> rfl
def kAug3 (i : Nat) (f : F) (z : Int) : Out := .nx { f with ρ := f.ρ.set i (.d (.int z)) }
@[simp] theorem kAug3_eq (i : Nat) (z : Int) : kAug3 i f z = .nx { f with ρ := f.ρ.set i (.d (.int z)) } := nr rfl
def kAug2 (i : Nat) (o : Op) (a : Int) (p : RV × F) : Out := Out.of (ofOpt ((view p.2 p.1).bind fun y => augI o a y)) (kAug3 i p.2)
@[simp] theorem kAug2_eq (i : Nat) (o : Op) (a : Int) (r : RV) : kAug2 i o a (r, f) = Out.of (ofOpt ((view f r).bind fun y => augI o a y)) (kAug3 i f) := nr rfl
def kAug (G : Call) (i : Nat) (o : Op) (e : Ex) (f : F) : Option LV → Out
  | some (.d (.int a)) => Out.of (evE G e f) (kAug2 i o a)
  | _ => .bad
@[simp] theorem kAug_eq (i : Nat) (o : Op) (e : Ex) (a : Int) : kAug G i o e f (some (.d (.int a))) = Out.of (evE G e f) (kAug2 i o a) := nr rfl
@[simp] theorem xS_aug (i : Nat) (o : Op) (e : Ex) : xS G (.aug i o e) f = kAug G i o e f f.ρ[i]? := by rw [xS] <;> rfl
def kRet2 (q : RR × F) : Out := .rt q.1 q.2
@[simp] theorem kRet2_eq (r : RR) : kRet2 (r, f) = .rt r f := nr rfl
def kRet (p : RV × F) : Out := Out.of (ofOpt (retR p.2 p.1)) kRet2
@[simp] theorem kRet_eq (r : RV) : kRet (r, f) = Out.of (ofOpt (retR f r)) kRet2 := nr rfl
@[simp] theorem xS_ret (e : Ex) : xS G (.ret e) f = Out.of (evE G e f) kRet := by rw [xS]; rfl
@[simp] theorem xS_retN : xS G .retN f = .rt (.d .none) f := by rw [xS]
def kIfs (G : Call) (a b : List Sm) (p : Bool × F) : Out := if p.1 = true then xSs G a p.2 else xSs G b p.2
@[simp] theorem kIfs_eq (a b : List Sm) (t : Bool) : kIfs G a b (t, f) = if t = true then xSs G a f else xSs G b f := nr rfl
@[simp] theorem xS_ifs (c : Ex) (a b : List Sm) : xS G (.ifs c a b) f = Out.of (evC G c f) (kIfs G a b) := by rw [xS]; rfl
def kFor (B : F → Out) (t : Tg) (p : List D × F) : Out := forLoop B t p.1 p.2
@[simp] theorem kFor_eq (B : F → Out) (t : Tg) (ds : List D) : kFor B t (ds, f) = forLoop B t ds f := nr rfl
@[simp] theorem xS_for (t : Tg) (it : It) (b : List Sm) : xS G (.for t it b) f = Out.of (evI G it f) (kFor (xSs G b) t) := by rw [xS]; rfl
def kFk2 (G : Call) (t : Tg) (b : List Sm) (f : F) (n : Nat) (ds : List D) : Out := forLoopK n ds (xSs G b) t ds f
@[simp] theorem kFk2_eq (t : Tg) (b : List Sm) (n : Nat) (ds : List D) : kFk2 G t b f n ds = forLoopK n ds (xSs G b) t ds f := nr rfl
def kFk1 (G : Call) (t : Tg) (b : List Sm) (f : F) (n : Nat) : Out := Out.of (ofOpt (lstS f n)) (kFk2 G t b f n)
@[simp] theorem kFk1_eq (t : Tg) (b : List Sm) (n : Nat) : kFk1 G t b f n = Out.of (ofOpt (lstS f n)) (kFk2 G t b f n) := nr rfl
def kFk0 (G : Call) (t : Tg) (b : List Sm) (f : F) (ds : List D) : Out := forLoop (xSs G b) t ds f
@[simp] theorem kFk0_eq (t : Tg) (b : List Sm) (ds : List D) : kFk0 G t b f ds = forLoop (xSs G b) t ds f := nr rfl
def kFk (G : Call) (t : Tg) (j : Nat) (b : List Sm) (f : F) : Option D → Out
  | some x => Out.of (ofOpt (itemsD (norm x))) (kFk0 G t b f)
  | none => Out.of (ofOpt (refAt f j)) (kFk1 G t b f)
@[simp] theorem kFk_some (t : Tg) (j : Nat) (b : List Sm) (x : D) : kFk G t j b f (some x) = Out.of (ofOpt (itemsD (norm x))) (kFk0 G t b f) := nr rfl
@[simp] theorem kFk_none (t : Tg) (j : Nat) (b : List Sm) : kFk G t j b f none = Out.of (ofOpt (refAt f j)) (kFk1 G t b f) := nr rfl
@[simp] theorem refAt_eq (j : Nat) : refAt f j = match f.ρ[j]? with
  | some (.c n) => some n
  | _ => none := nr rfl
@[simp] theorem lstS_eq (n : Nat) : lstS f n = match f.S[n]? with
  | some (.own (.lst xs)) => some xs
  | some (.d (.list xs)) => some xs
  | _ => none := nr rfl
@[simp] theorem xS_fork (t : Tg) (j : Nat) (b : List Sm) : xS G (.fork t j b) f = kFk G t j b f (isDat f j) := by
  rw [xS]
  cases h : isDat f j with
  | some x => rfl
  | none => rfl
@[simp] theorem xS_whl (c : Ex) (b : List Sm) : xS G (.whl c b) f = whlLoop (evC G c) (xSs G b) fuel f := by rw [xS]
@[simp] theorem xS_brk : xS G .brk f = .bk f := by rw [xS]
@[simp] theorem xS_cont : xS G .cont f = .ct f := by rw [xS]
@[simp] theorem xS_raise (c : Str) : xS G (.raise c) f = .rt (.ex c) f := by rw [xS]
@[simp] theorem xS_clx (e : Ex) : xS G (.clx e) f = Out.of (evX G e f) kClx := by rw [xS]
@[simp] theorem xS_clr (e : Ex) : xS G (.clr e) f = Out.of (evX G e f) kClr := by rw [xS]
@[simp] theorem xS_cla (i : Nat) (e : Ex) : xS G (.cla i e) f = Out.of (evX G e f) (kCla i) := by rw [xS]
@[simp] theorem xS_clt (ts : List Tg) (e : Ex) : xS G (.clt ts e) f = Out.of (evX G e f) (kClt ts) := by rw [xS]
@[simp] theorem xS_trys (b : List Sm) (cs all : List Str) (h : List Sm) : xS G (.trys b cs all h) f = kTry cs all (xSs G h) (xSs G b f) := by rw [xS]
@[simp] theorem kClx_ex (c : Str) : kClx (.ex c, f) = .rt (.ex c) f := nr rfl
@[simp] theorem kClx_d (x : D) : kClx (.d x, f) = .nx f := nr rfl
@[simp] theorem kClx_fr (o : Ob) : kClx (.fr o, f) = .nx f := nr rfl
@[simp] theorem kClr_eq (r : RR) : kClr (r, f) = .rt r f := nr rfl
@[simp] theorem kCla_ex (i : Nat) (c : Str) : kCla i (.ex c, f) = .rt (.ex c) f := nr rfl
@[simp] theorem kCla_d (i : Nat) (x : D) : kCla i (.d x, f) = .nx { f with ρ := f.ρ.set i (.d x) } := nr rfl
@[simp] theorem kCla_fr (i : Nat) (o : Ob) : kCla i (.fr o, f) = .nx { f with ρ := f.ρ.set i (.own o) } := nr rfl
@[simp] theorem kClt_ex (ts : List Tg) (c : Str) : kClt ts (.ex c, f) = .rt (.ex c) f := nr rfl
@[simp] theorem kClt_d (ts : List Tg) (x : D) : kClt ts (.d x, f) = Out.of (ofOpt (bindT (.tup ts) x f.ρ)) (kAsgT3 f) := nr rfl
@[simp] theorem kClt_fr (ts : List Tg) (o : Ob) : kClt ts (.fr o, f) = Out.of (ofOpt (bindT (.tup ts) o.d f.ρ)) (kAsgT3 f) := nr rfl
@[simp] theorem kTry_nx (cs all : List Str) (h : F → Out) : kTry cs all h (.nx f) = .nx f := nr rfl
@[simp] theorem kTry_bk (cs all : List Str) (h : F → Out) : kTry cs all h (.bk f) = .bk f := nr rfl
@[simp] theorem kTry_ct (cs all : List Str) (h : F → Out) : kTry cs all h (.ct f) = .ct f := nr rfl
@[simp] theorem kTry_d (cs all : List Str) (h : F → Out) (x : D) : kTry cs all h (.rt (.d x) f) = .rt (.d x) f := nr rfl
@[simp] theorem kTry_fr (cs all : List Str) (h : F → Out) (o : Ob) : kTry cs all h (.rt (.fr o) f) = .rt (.fr o) f := nr rfl
@[simp] theorem kTry_ex (cs all : List Str) (h : F → Out) (c : Str) : kTry cs all h (.rt (.ex c) f) = if all.contains c = true then (if cs.contains c = true then noEx (h f) else .rt (.ex c) f) else .bad := nr rfl
@[simp] theorem noEx_nx : noEx (.nx f) = .nx f := nr rfl
@[simp] theorem noEx_d (x : D) : noEx (.rt (.d x) f) = .rt (.d x) f := nr rfl
@[simp] theorem noEx_fr (o : Ob) : noEx (.rt (.fr o) f) = .rt (.fr o) f := nr rfl
@[simp] theorem xS_pass : xS G .pass f = .nx f := by rw [xS]
@[simp] theorem xSs_nil : xSs G [] f = .nx f := by rw [xSs]
@[simp] theorem xSs_cons (s : Sm) (ss : List Sm) : xSs G (s :: ss) f = (xS G s f).seq (xSs G ss) := by rw [xSs]
def kC2 (f : F) (t : Bool) : Res (Bool × F) := .ok (t, f)
@[simp] theorem kC2_eq (t : Bool) : kC2 f t = .ok (t, f) := nr rfl
def kC1 (p : RV × F) : Res (Bool × F) := (ofOpt ((view p.2 p.1).bind truth)).bind (kC2 p.2)
@[simp] theorem kC1_eq (r : RV) : kC1 (r, f) = (ofOpt ((view f r).bind truth)).bind (kC2 f) := nr rfl
@[simp] theorem evC_eq (e : Ex) : evC G e f = (evE G e f).bind kC1 := nr rfl
end
section
variable (f : F)
@[simp] theorem bindN_fr (i : Nat) (o : Ob) : bindN f i (.fr o) = some { f with ρ := f.ρ.set i (.own o) } := nr rfl
@[simp] theorem bindN_ce (i n : Nat) : bindN f i (.ce n) = some { f with ρ := f.ρ.set i (.c n) } := nr rfl
@[simp] theorem bindN_d (i : Nat) (x : D) : bindN f i (.d x) = some { f with ρ := f.ρ.set i (.d x) } := nr rfl
@[simp] theorem bindN_vr (i j : Nat) : bindN f i (.vr j) = (frz f (.vr j)).map fun p => { p.2 with ρ := p.2.ρ.set i (.d p.1) } := nr rfl
@[simp] theorem prepN_nil : prepN f [] = some ([], f) := nr rfl
@[simp] theorem prepN_vr (i : Nat) (rs : List RV) : prepN f (.vr i :: rs) = (frz f (.vr i)).bind fun p => (prepN p.2 rs).bind fun q => some (.d p.1 :: q.1, q.2) := nr rfl
@[simp] theorem prepN_d (x : D) (rs : List RV) : prepN f (.d x :: rs) = (prepN f rs).bind fun q => some (.d x :: q.1, q.2) := nr rfl
@[simp] theorem prepN_fr (o : Ob) (rs : List RV) : prepN f (.fr o :: rs) = (prepN f rs).bind fun q => some (.fr o :: q.1, q.2) := nr rfl
@[simp] theorem prepN_ce (n : Nat) (rs : List RV) : prepN f (.ce n :: rs) = (prepN f rs).bind fun q => some (.ce n :: q.1, q.2) := nr rfl
@[simp] theorem bindNs_nil : bindNs f [] [] = some f := nr rfl
@[simp] theorem bindNs_cons (i : Nat) (is : List Nat) (r : RV) (rs : List RV) : bindNs f (i :: is) (r :: rs) = (bindN f i r).bind fun f1 => bindNs f1 is rs := nr rfl
@[simp] theorem retR_d (x : D) : retR f (.d x) = some (.d x, f) := nr rfl
@[simp] theorem retR_fr (o : Ob) : retR f (.fr o) = some (.fr o, f) := nr rfl
@[simp] theorem retR_vr (i : Nat) : retR f (.vr i) = (match f.ρ[i]? with
    | some (.own o) => some (.fr o, { f with ρ := f.ρ.set i .no })
    | some (.d x) => some (.d x, f)
    | _ => none) := nr rfl
@[simp] theorem retR_ce (n : Nat) : retR f (.ce n) = (frz f (.ce n)).map fun p => (.d p.1, p.2) := nr rfl
@[simp] theorem bindT_name (i : Nat) (x : D) (ρ : List LV) : bindT (.name i) x ρ = some (ρ.set i (.d x)) := by rw [bindT]
@[simp] theorem bindT_tup (ts : List Tg) (ds : List D) (ρ : List LV) : bindT (.tup ts) (.tuple ds) ρ = bindTs ts ds ρ := by rw [bindT]
@[simp] theorem bindTs_nil (ρ : List LV) : bindTs [] [] ρ = some ρ := by rw [bindTs]
@[simp] theorem bindTs_cons (t : Tg) (ts : List Tg) (d : D) (ds : List D) (ρ : List LV) : bindTs (t :: ts) (d :: ds) ρ = (bindT t d ρ).bind fun ρ1 => bindTs ts ds ρ1 := by rw [bindTs]
@[simp] theorem wipeL_nil (ρ : List LV) : wipeL ρ [] = ρ := nr rfl
@[simp] theorem wipeL_cons (ρ : List LV) (v : Nat) (vs : List Nat) : wipeL ρ (v :: vs) = (wipeL ρ vs).set v .no := nr rfl
@[simp] theorem backL_nil (ρ0 ρ : List LV) : backL ρ0 ρ [] = ρ := nr rfl
@[simp] theorem backL_cons (ρ0 ρ : List LV) (v : Nat) (vs : List Nat) : backL ρ0 ρ (v :: vs) = (backL ρ0 ρ vs).set v (ρ0.getD v .no) := nr rfl
@[simp] theorem noOwn_nil (ρ : List LV) : noOwn ρ [] = true := nr rfl
@[simp] theorem noOwn_cons (ρ : List LV) (v : Nat) (vs : List Nat) : noOwn ρ (v :: vs) = ((match ρ[v]? with
  | some (.own _) => false
  | some _ => true
  | none => false) && noOwn ρ vs) := nr rfl
@[simp] theorem tgI_name (i : Nat) : tgI (.name i) = [i] := by rw [tgI]
@[simp] theorem tgI_tup (ts : List Tg) : tgI (.tup ts) = tgIs ts := by rw [tgI]
@[simp] theorem tgIs_nil : tgIs [] = [] := by rw [tgIs]
@[simp] theorem tgIs_cons (t : Tg) (ts : List Tg) : tgIs (t :: ts) = tgI t ++ tgIs ts := by rw [tgIs]
@[simp] theorem permR_nil {α : Type} (rs : List α) : permR rs [] = [] := nr rfl
@[simp] theorem permR_c {α : Type} (rs : List α) (i : Nat) (pm : List Nat) : permR rs (i :: pm) = (rs[i]?).toList ++ permR rs pm := by
  unfold permR
  rw [List.filterMap_cons]
  cases rs[i]? <;> rfl
@[simp] theorem ownAt_vr (i : Nat) : ownAt f (.vr i) = (match f.ρ[i]? with
    | some (.own o) => some (.inl i, o)
    | _ => none) := nr rfl
@[simp] theorem ownAt_ce (n : Nat) : ownAt f (.ce n) = (match f.S[n]? with
    | some (.own o) => some (.inr n, o)
    | _ => none) := nr rfl
@[simp] theorem put1_inl (i : Nat) (u : SV) : put1 f (.inl i) u = { f with ρ := f.ρ.set i u.lv } := nr rfl
@[simp] theorem put1_inr (n : Nat) (u : SV) : put1 f (.inr n) u = { f with S := f.S.set n u } := nr rfl
@[simp] theorem clr1_inl (i : Nat) : clr1 f (.inl i) = { f with ρ := f.ρ.set i .no } := nr rfl
@[simp] theorem clr1_inr (n : Nat) : clr1 f (.inr n) = { f with S := f.S.set n .no } := nr rfl
@[simp] theorem lv_no : SV.no.lv = .no := nr rfl
@[simp] theorem lv_d (x : D) : (SV.d x).lv = .d x := nr rfl
@[simp] theorem lv_own (o : Ob) : (SV.own o).lv = .own o := nr rfl
@[simp] theorem svok_d (x : D) : (SV.d x).ok = true := nr rfl
@[simp] theorem svok_own (o : Ob) : (SV.own o).ok = true := nr rfl
@[simp] theorem clr_nil : clr f [] = f := nr rfl
@[simp] theorem clr_cons (l : Loc) (ls : List Loc) : clr f (l :: ls) = clr (clr1 f l) ls := nr rfl
@[simp] theorem putB_nil : putB f [] [] = some f := nr rfl
@[simp] theorem putB_cons (l : Loc) (ls : List Loc) (u : SV) (us : List SV) : putB f (l :: ls) (u :: us) = putB (put1 f l u) ls us := nr rfl
@[simp] theorem toArg_d (x : D) : toArg f (.d x) = some (.d x) := nr rfl
@[simp] theorem toArg_fr (o : Ob) : toArg f (.fr o) = some (.o o) := nr rfl
@[simp] theorem toArg_vr (i : Nat) : toArg f (.vr i) = (match f.ρ[i]? with
    | some (.own o) => some (.r o)
    | some (.d x) => some (.d x)
    | _ => none) := nr rfl
@[simp] theorem toArg_ce (n : Nat) : toArg f (.ce n) = (match f.S[n]? with
    | some (.own o) => some (.r o)
    | some (.d x) => some (.d x)
    | _ => none) := nr rfl
@[simp] theorem toArgs_nil : toArgs f [] = some [] := nr rfl
@[simp] theorem toArgs_c (r : RV) (rs : List RV) : toArgs f (r :: rs) = (toArg f r).bind fun a => (toArgs f rs).bind fun l => some (a :: l) := nr rfl
@[simp] theorem locs_nil : locs f [] = [] := nr rfl
@[simp] theorem locs_d (x : D) (rs : List RV) : locs f (.d x :: rs) = locs f rs := nr rfl
@[simp] theorem locs_fr (o : Ob) (rs : List RV) : locs f (.fr o :: rs) = locs f rs := nr rfl
@[simp] theorem locs_vr (i : Nat) (rs : List RV) : locs f (.vr i :: rs) = (match f.ρ[i]? with
    | some (.own _) => .inl i :: locs f rs
    | _ => locs f rs) := nr rfl
@[simp] theorem locs_ce (n : Nat) (rs : List RV) : locs f (.ce n :: rs) = (match f.S[n]? with
    | some (.own _) => .inr n :: locs f rs
    | _ => locs f rs) := nr rfl
@[simp] theorem entry_eq (d : Df) (args : List Arg) : entry d args = ⟨entR 0 args ++ List.replicate (d.ns - d.np) .no, entS args⟩ := nr rfl
@[simp] theorem entR_nil (n : Nat) : entR n [] = [] := nr rfl
@[simp] theorem entR_d (n : Nat) (x : D) (r : List Arg) : entR n (.d x :: r) = .d x :: entR n r := nr rfl
@[simp] theorem entR_o (n : Nat) (o : Ob) (r : List Arg) : entR n (.o o :: r) = .own o :: entR n r := nr rfl
@[simp] theorem entR_r (n : Nat) (o : Ob) (r : List Arg) : entR n (.r o :: r) = .c n :: entR (n + 1) r := nr rfl
@[simp] theorem entS_nil : entS [] = [] := nr rfl
@[simp] theorem entS_d (x : D) (r : List Arg) : entS (.d x :: r) = entS r := nr rfl
@[simp] theorem entS_o (o : Ob) (r : List Arg) : entS (.o o :: r) = entS r := nr rfl
@[simp] theorem entS_r (o : Ob) (r : List Arg) : entS (.r o :: r) = .own o :: entS r := nr rfl
end
end Vm
set_option maxRecDepth 100000
set_option maxHeartbeats 1000000
namespace Vm
open PySem PySem.Spec L2
/-! ### operations on known data, for simp -/
@[simp] theorem run_add (a b : D) : Op.run .add [a, b] = runAdd a b := nr rfl
@[simp] theorem run_sub (a b : D) : Op.run .sub [a, b] = runInts (fun _ _ => true) (fun i j => .int (i - j)) a b := nr rfl
@[simp] theorem run_mul (a b : D) : Op.run .mul [a, b] = runMul a b := nr rfl
@[simp] theorem run_fdiv (a b : D) : Op.run .fdiv [a, b] = runInts (fun _ j => decide (0 < j) && decide (j < 1073741824)) (fun i j => .int (i / j)) a b := nr rfl
@[simp] theorem run_mod (a b : D) : Op.run .mod [a, b] = runInts (fun _ j => decide (0 < j)) (fun i j => .int (i % j)) a b := nr rfl
@[simp] theorem run_pow (a b : D) : Op.run .pow [a, b] = runInts (fun i j => decide (0 ≤ j) && decide (j ≤ 1000000) && decide (i.natAbs < 2 ^ 64)) (fun i j => .int (i ^ j.toNat)) a b := nr rfl
@[simp] theorem run_neg (a : D) : Op.run .neg [a] = runNeg a := nr rfl
@[simp] theorem run_not (a : D) : Op.run .not [a] = (truth a).map fun b => .d (.bool (!b)) := nr rfl
@[simp] theorem run_lt (a b : D) : Op.run .lt [a, b] = runLt a b := nr rfl
@[simp] theorem run_le (a b : D) : Op.run .le [a, b] = runInts (fun _ _ => true) (fun i j => .bool (decide (i ≤ j))) a b := nr rfl
@[simp] theorem run_gt (a b : D) : Op.run .gt [a, b] = runInts (fun _ _ => true) (fun i j => .bool (decide (j < i))) a b := nr rfl
@[simp] theorem run_ge (a b : D) : Op.run .ge [a, b] = runInts (fun _ _ => true) (fun i j => .bool (decide (j ≤ i))) a b := nr rfl
@[simp] theorem run_eq (a b : D) : Op.run .eq [a, b] = runEq false a b := nr rfl
@[simp] theorem run_ne (a b : D) : Op.run .ne [a, b] = runEq true a b := nr rfl
@[simp] theorem run_isn (a : D) : Op.run .isn [a] = some (.d (.bool (isNone a))) := nr rfl
@[simp] theorem run_isnn (a : D) : Op.run .isnn [a] = some (.d (.bool (!isNone a))) := nr rfl
@[simp] theorem run_mem (a b : D) : Op.run .mem [a, b] = (memD a b).map fun b => .d (.bool b) := nr rfl
@[simp] theorem run_nmem (a b : D) : Op.run .nmem [a, b] = (memD a b).map fun b => .d (.bool (!b)) := nr rfl
@[simp] theorem run_item (a b : D) : Op.run .item [a, b] = (itemD a b).map .d := nr rfl
@[simp] theorem run_slice00 (a : D) : Op.run (.slice false false) [a] = sliceD a none none := nr rfl
@[simp] theorem run_slice10 (x a : D) : Op.run (.slice true false) [x, a] = (intD a).bind fun a => sliceD x (some a) none := nr rfl
@[simp] theorem run_slice01 (x a : D) : Op.run (.slice false true) [x, a] = (intD a).bind fun a => sliceD x none (some a) := nr rfl
@[simp] theorem run_len (a : D) : Op.run .len [a] = (lenD a).map fun n : Nat => RR.d (.int (n : Int)) := nr rfl
@[simp] theorem run_int (a : D) : Op.run .int [a] = runInt a := nr rfl
@[simp] theorem run_abs (a : D) : Op.run .abs [a] = runAbs a := nr rfl
@[simp] theorem run_min2 (a b : D) : Op.run .min2 [a, b] = runInts (fun _ _ => true) (fun i j => .int (if j < i then j else i)) a b := nr rfl
@[simp] theorem run_max2 (a b : D) : Op.run .max2 [a, b] = runInts (fun _ _ => true) (fun i j => .int (if j > i then j else i)) a b := nr rfl
@[simp] theorem run_min1 (a : D) : Op.run .min1 [a] = runInts1 runMin1 a := nr rfl
@[simp] theorem run_max1 (a : D) : Op.run .max1 [a] = runInts1 runMax1 a := nr rfl
@[simp] theorem run_repr (a : D) : Op.run .repr [a] = runRepr a := nr rfl
@[simp] theorem run_tuple (a : D) : Op.run .tuple [a] = runSeq (fun ds => .d (.tuple ds)) a := nr rfl
@[simp] theorem run_list (a : D) : Op.run .list [a] = runSeq (fun ds => .fr (.lst ds)) a := nr rfl
@[simp] theorem run_any (a : D) : Op.run .any [a] = runBools1 (fun bs => bs.any id) a := nr rfl
@[simp] theorem run_all (a : D) : Op.run .all [a] = runBools1 (fun bs => bs.all id) a := nr rfl
@[simp] theorem run_sum (a : D) : Op.run .sum [a] = runSum a := nr rfl
@[simp] theorem runSum_list (ds : List D) : runSum (.list ds) = (intsD ds).bind fun ns => some (.d (.int ns.sum)) := nr rfl
@[simp] theorem runSum_tuple (ds : List D) : runSum (.tuple ds) = (intsD ds).bind fun ns => some (.d (.int ns.sum)) := nr rfl
@[simp] theorem run_sorted (a : D) : Op.run .sorted [a] = runSorted a := nr rfl
@[simp] theorem run_divmod (a b : D) : Op.run .divmod [a, b] = runInts (fun _ j => decide (0 < j) && decide (j < 1073741824)) (fun i j => .tuple [.int (i / j), .int (i % j)]) a b := nr rfl
@[simp] theorem run_rev (a : D) : Op.run .rev [a] = runRev a := nr rfl
@[simp] theorem run_mget1 (a b : D) : Op.run .mget1 [a, b] = runGet1 a b := nr rfl
@[simp] theorem run_mget2 (a b c : D) : Op.run .mget2 [a, b, c] = runGet2 a b c := nr rfl
@[simp] theorem run_maxd (a b : D) : Op.run .maxd [a, b] = runMaxd a b := nr rfl
@[simp] theorem run_mind (a b : D) : Op.run .mind [a, b] = runMind a b := nr rfl
@[simp] theorem scD_int (i : Int) : scD (.int i) = some (.d (.int i)) := nr rfl
@[simp] theorem scD_none : scD .none = some (.d .none) := nr rfl
@[simp] theorem run_tindex (a b : D) : Op.run .tindex [a, b] = runTIdx a b := nr rfl
@[simp] theorem run_tcount (a b : D) : Op.run .tcount [a, b] = runTCnt a b := nr rfl
@[simp] theorem run_lcount (a b : D) : Op.run .lcount [a, b] = runLCnt a b := nr rfl
@[simp] theorem run_ptuple (a : D) : Op.run .ptuple [a] = runPtup a := nr rfl
@[simp] theorem runPtup_list (ds : List D) : runPtup (.list ds) = some (.d (pl ds)) := nr rfl
@[simp] theorem runTCnt_t (ds : List D) (k : D) : runTCnt (.tuple ds) k = cntD ds k := nr rfl
@[simp] theorem runLCnt_l (ds : List D) (k : D) : runLCnt (.list ds) k = cntD ds k := nr rfl
@[simp] theorem runTIdx_t (ds : List D) (k : D) : runTIdx (.tuple ds) k = idxD ds k := nr rfl
@[simp] theorem cntD_int (ds : List D) (k : Int) : cntD ds (.int k) = (intsD ds).bind fun ns => some (.d (.int ((ns.count k : Nat) : Int))) := nr rfl
@[simp] theorem run_lindex (a b : D) : Op.run .lindex [a, b] = runLIdx a b := nr rfl
@[simp] theorem run_isI (t : String) (x : D) : Op.run (.isI t) [x] = (kitB (tyD x) t).map fun b => .d (.bool b) := nr rfl
@[simp] theorem runRev_list (ds : List D) : runRev (.list ds) = some (.fr (.lst ds.reverse)) := nr rfl
@[simp] theorem runRev_tuple (ds : List D) : runRev (.tuple ds) = some (.d (.tuple ds.reverse)) := nr rfl
@[simp] theorem runAdd_int (i j : Int) : runAdd (.int i) (.int j) = some (.d (.int (i + j))) := nr rfl
@[simp] theorem runAdd_str (i j : Str) : runAdd (.str i) (.str j) = if szB (i.length + j.length) = true then some (.d (.str (i ++ j))) else none := by rw [runAdd]; exact ite_szB
@[simp] theorem runAdd_tuple (i j : List D) : runAdd (.tuple i) (.tuple j) = if szB (i.length + j.length) = true then some (.d (.tuple (i ++ j))) else none := by rw [runAdd]; exact ite_szB
@[simp] theorem runAdd_list (i j : List D) : runAdd (.list i) (.list j) = if szB (i.length + j.length) = true then some (.fr (.lst (i ++ j))) else none := by rw [runAdd]; exact ite_szB
@[simp] theorem runMul_int (i j : Int) : runMul (.int i) (.int j) = if (-(2 ^ 64) < i ∧ i < 2 ^ 64) ∨ (-(2 ^ 64) < j ∧ j < 2 ^ 64) then some (.d (.int (i * j))) else none := by rw [runMul]
def mulB (n : Nat) (k : Int) : Bool := decide (-(2 ^ 63) ≤ k ∧ k < 2 ^ 63 ∧ n * k.toNat ≤ 16777216)
theorem mulB_of {n : Nat} {k : Int} (h1 : -(2 ^ 63) ≤ k) (h2 : k < 2 ^ 63) (h3 : n * k.toNat ≤ 16777216) : mulB n k = true := decide_eq_true ⟨h1, h2, h3⟩
@[simp] theorem runMul_list (xs : List D) (k : Int) : runMul (.list xs) (.int k) = if mulB xs.length k = true then some (.fr (.lst (List.replicate k.toNat xs).flatten)) else none := by
  rw [runMul]
  unfold mulB
  by_cases h : -(2 ^ 63) ≤ k ∧ k < 2 ^ 63 ∧ xs.length * k.toNat ≤ 16777216
  · rw [if_pos h, if_pos (decide_eq_true h)]
  · rw [if_neg h, if_neg (by simpa using h)]
def mulT (n : Nat) (k : Int) : Bool := decide (-1000 ≤ k ∧ k ≤ 1000 ∧ n ≤ 1000)
theorem mulT_of {n : Nat} {k : Int} (h1 : -1000 ≤ k) (h2 : k ≤ 1000) (h3 : n ≤ 1000) : mulT n k = true := decide_eq_true ⟨h1, h2, h3⟩
@[simp] theorem runMul_tuple (xs : List D) (k : Int) : runMul (.tuple xs) (.int k) = if mulT xs.length k = true then some (.d (.tuple (List.replicate k.toNat xs).flatten)) else none := by
  rw [runMul]
  unfold mulT
  by_cases h : -1000 ≤ k ∧ k ≤ 1000 ∧ xs.length ≤ 1000
  · rw [if_pos h, if_pos (decide_eq_true h)]
  · rw [if_neg h, if_neg (by simpa using h)]
@[simp] theorem runInts_int (c : Int → Int → Bool) (g : Int → Int → D) (i j : Int) : runInts c g (.int i) (.int j) = if c i j = true then some (.d (g i j)) else none := by rw [runInts]
@[simp] theorem runLt_int (i j : Int) : runLt (.int i) (.int j) = some (.d (.bool (decide (i < j)))) := nr rfl
@[simp] theorem runNeg_int (i : Int) : runNeg (.int i) = some (.d (.int (-i))) := nr rfl
@[simp] theorem runAbs_int (i : Int) : runAbs (.int i) = some (.d (.int (if i < 0 then -i else i))) := nr rfl
@[simp] theorem runInt_int (i : Int) : runInt (.int i) = some (.d (.int i)) := nr rfl
@[simp] theorem runInt_bool (b : Bool) : runInt (.bool b) = some (.d (.int (if b then 1 else 0))) := nr rfl
@[simp] theorem intD_int (i : Int) : intD (.int i) = some i := nr rfl
@[simp] theorem runSeq_list (g : List D → RR) (ds : List D) : runSeq g (.list ds) = some (g ds) := nr rfl
@[simp] theorem runSeq_tuple (g : List D → RR) (ds : List D) : runSeq g (.tuple ds) = some (g ds) := nr rfl
@[simp] theorem runInts1_list (g : List Int → Option RR) (ds : List D) : runInts1 g (.list ds) = (intsD ds).bind g := nr rfl
@[simp] theorem runBools1_list (g : List Bool → Bool) (ds : List D) : runBools1 g (.list ds) = (boolsD ds).map fun bs => .d (.bool (g bs)) := nr rfl
@[simp] theorem intsD_nil : intsD [] = some [] := nr rfl
@[simp] theorem intsD_cons (i : Int) (r : List D) : intsD (.int i :: r) = (intsD r).map (i :: ·) := nr rfl
@[simp] theorem boolsD_nil : boolsD [] = some [] := nr rfl
@[simp] theorem boolsD_cons (i : Bool) (r : List D) : boolsD (.bool i :: r) = (boolsD r).map (i :: ·) := nr rfl
@[simp] theorem intsD_map (l : List Int) : intsD (l.map .int) = some l := by
  induction l with
  | nil => rfl
  | cons x l ih => rw [List.map_cons, intsD_cons, ih]; rfl
@[simp] theorem boolsD_map (l : List Bool) : boolsD (l.map .bool) = some l := by
  induction l with
  | nil => rfl
  | cons x l ih => rw [List.map_cons, boolsD_cons, ih]; rfl
@[simp] theorem intsD_mapf {α : Type} (g : α → Int) (l : List α) : intsD (l.map fun x => PyData.int (g x)) = some (l.map g) := by
  induction l with
  | nil => rfl
  | cons x l ih => rw [List.map_cons, intsD_cons, ih]; rfl
@[simp] theorem boolsD_mapf {α : Type} (g : α → Bool) (l : List α) : boolsD (l.map fun x => PyData.bool (g x)) = some (l.map g) := by
  induction l with
  | nil => rfl
  | cons x l ih => rw [List.map_cons, boolsD_cons, ih]; rfl
theorem opt_map_bind {α β γ : Type} (o : Option α) (f : α → β) (g : β → Option γ) : (o.map f).bind g = o.bind fun a => g (f a) := by cases o <;> rfl
@[simp] theorem intsD_append : ∀ a b : List D, intsD (a ++ b) = (intsD a).bind fun x => (intsD b).map (x ++ ·)
  | [], b => by simp
  | .int i :: a, b => by
    rw [List.cons_append, intsD_cons, intsD_cons, intsD_append a b]
    cases intsD a <;> cases intsD b <;> simp
  | .none :: _, _ => rfl
  | .bool _ :: _, _ => rfl
  | .str _ :: _, _ => rfl
  | .list _ :: _, _ => rfl
  | .tuple _ :: _, _ => rfl
  | .dict _ :: _, _ => rfl
@[simp] theorem boolsD_append : ∀ a b : List D, boolsD (a ++ b) = (boolsD a).bind fun x => (boolsD b).map (x ++ ·)
  | [], b => by simp
  | .bool i :: a, b => by
    rw [List.cons_append, boolsD_cons, boolsD_cons, boolsD_append a b]
    cases boolsD a <;> cases boolsD b <;> simp
  | .none :: _, _ => rfl
  | .int _ :: _, _ => rfl
  | .str _ :: _, _ => rfl
  | .list _ :: _, _ => rfl
  | .tuple _ :: _, _ => rfl
  | .dict _ :: _, _ => rfl
@[simp] theorem runMax1_cons (n : Int) (r : List Int) : runMax1 (n :: r) = some (.d (.int (maxI n r))) := nr rfl
@[simp] theorem runMin1_cons (n : Int) (r : List Int) : runMin1 (n :: r) = some (.d (.int (minI n r))) := nr rfl
theorem maxI_fold (n : Int) (r : List Int) : maxI n r = r.foldl max n := by
  induction r generalizing n with
  | nil => rfl
  | cons x r ih =>
    rw [List.foldl_cons, ← ih]
    show maxI (if x > n then x else n) r = _
    congr 1
    split <;> omega
theorem minI_fold (n : Int) (r : List Int) : minI n r = r.foldl min n := by
  induction r generalizing n with
  | nil => rfl
  | cons x r ih =>
    rw [List.foldl_cons, ← ih]
    show minI (if x < n then x else n) r = _
    congr 1
    split <;> omega
@[simp] theorem truth_none : truth .none = some false := nr rfl
@[simp] theorem truth_bool (b : Bool) : truth (.bool b) = some b := nr rfl
@[simp] theorem truth_int (i : Int) : truth (.int i) = some (i != 0) := nr rfl
@[simp] theorem truth_str (s : Str) : truth (.str s) = if szB (s.length) = true then some ((s.length : Int) != 0) else none := by rw [truth]; exact ite_szB
@[simp] theorem truth_list (xs : List D) : truth (.list xs) = some (!xs.isEmpty) := nr rfl
@[simp] theorem truth_tuple (xs : List D) : truth (.tuple xs) = some (!xs.isEmpty) := nr rfl
@[simp] theorem truth_dict (xs : List (D × D)) : truth (.dict xs) = some (!xs.isEmpty) := nr rfl
@[simp] theorem lenD_list (ds : List D) : lenD (.list ds) = some ds.length := nr rfl
@[simp] theorem lenD_tuple (ds : List D) : lenD (.tuple ds) = some ds.length := nr rfl
@[simp] theorem lenD_dict (ds : List (D × D)) : lenD (.dict ds) = some ds.length := nr rfl
@[simp] theorem lenD_str (s : Str) : lenD (.str s) = if szB (s.length) = true then some s.length else none := by rw [lenD]; exact ite_szB
@[simp] theorem itemD_list (ds : List D) (i : Int) : itemD (.list ds) (.int i) = atI ds i := nr rfl
@[simp] theorem itemD_tuple (ds : List D) (i : Int) : itemD (.tuple ds) (.int i) = atI ds i := nr rfl
@[simp] theorem sliceD_list (ds : List D) (lo hi : Option Int) : sliceD (.list ds) lo hi = some (.fr (.lst (cutD ds lo hi))) := nr rfl
@[simp] theorem sliceD_tuple (ds : List D) (lo hi : Option Int) : sliceD (.tuple ds) lo hi = some (.d (.tuple (cutD ds lo hi))) := nr rfl
@[simp] theorem itemsD_list (ds : List D) : itemsD (.list ds) = some ds := nr rfl
@[simp] theorem itemsD_tuple (ds : List D) : itemsD (.tuple ds) = some ds := nr rfl
@[simp] theorem isNone_none : isNone .none = true := nr rfl
@[simp] theorem isNone_bool (b : Bool) : isNone (.bool b) = false := nr rfl
@[simp] theorem isNone_int (b : Int) : isNone (.int b) = false := nr rfl
@[simp] theorem isNone_str (b : Str) : isNone (.str b) = false := nr rfl
@[simp] theorem isNone_list (b : List D) : isNone (.list b) = false := nr rfl
@[simp] theorem isNone_tuple (b : List D) : isNone (.tuple b) = false := nr rfl
@[simp] theorem isNone_dict (b : List (D × D)) : isNone (.dict b) = false := nr rfl
@[simp] theorem tyD_none : tyD .none = "NoneType" := nr rfl
@[simp] theorem tyD_bool (b : Bool) : tyD (.bool b) = "bool" := nr rfl
@[simp] theorem tyD_int (b : Int) : tyD (.int b) = "int" := nr rfl
@[simp] theorem tyD_str (b : Str) : tyD (.str b) = "str" := nr rfl
@[simp] theorem tyD_list (b : List D) : tyD (.list b) = "list" := nr rfl
@[simp] theorem tyD_tuple (b : List D) : tyD (.tuple b) = "tuple" := nr rfl
@[simp] theorem tyD_dict (b : List (D × D)) : tyD (.dict b) = "dict" := nr rfl
@[simp] theorem mur_append (xs : List D) (y : D) : Mu.run .append (.lst xs) [y] = if szL (xs.length) = true then some (.lst (xs ++ [y]), .none) else none := by rw [Mu.run]; exact ite_szL
@[simp] theorem mur_extend (xs ys : List D) : Mu.run .extend (.lst xs) [.list ys] = if szB (xs.length + ys.length) = true then some (.lst (xs ++ ys), .none) else none := by rw [Mu.run]; exact ite_szB
@[simp] theorem mur_pop0 (xs : List D) : Mu.run .pop0 (.lst xs) [] = (xs[xs.length - 1]?).map fun y => (.lst xs.dropLast, y) := nr rfl
@[simp] theorem putO_lst (xs : List D) (i : Int) (y : D) : putO (.lst xs) (.int i) y = (ixN xs.length i).map fun j => .lst (xs.set j y) := nr rfl
@[simp] theorem putO_dct (kvs : List (Key × D)) (k y : D) : putO (.dct kvs) k y = (keyD k).bind fun k => if szL kvs.length = true then some (.dct (putD kvs k y)) else none := by rw [putO]; simp only [ite_szL]
@[simp] theorem augI_add (a b : Int) : augI .add a (.int b) = some (a + b) := nr rfl
@[simp] theorem augI_sub (a b : Int) : augI .sub a (.int b) = some (a - b) := nr rfl
theorem atI_pos {α : Type} {xs : List α} {i : Int} (h : 0 ≤ i) : atI xs i = xs[i.toNat]? := by
  unfold atI ixN
  rw [if_pos h]
  split
  · rfl
  · rw [List.getElem?_eq_none (by omega)]; rfl
theorem atI_neg {α : Type} {xs : List α} {i : Int} (h : i < 0) (h2 : -(xs.length : Int) ≤ i) : atI xs i = xs[(i + xs.length).toNat]? := by
  unfold atI ixN
  rw [if_neg (by omega), if_pos h2]
  rfl
@[simp] theorem atI_nat {α : Type} (xs : List α) (i : Nat) : atI xs (i : Int) = xs[i]? := by
  rw [atI_pos (by omega), Int.toNat_natCast]
@[simp] theorem atI_0 {α : Type} (xs : List α) : atI xs 0 = xs[0]? := atI_pos (by omega)
@[simp] theorem atI_1 {α : Type} (xs : List α) : atI xs 1 = xs[1]? := atI_pos (by omega)
@[simp] theorem atI_2 {α : Type} (xs : List α) : atI xs 2 = xs[2]? := atI_pos (by omega)
@[simp] theorem atI_3 {α : Type} (xs : List α) : atI xs 3 = xs[3]? := atI_pos (by omega)
@[simp] theorem atI_last {α : Type} (xs : List α) : atI xs (-1) = xs.getLast? := by
  cases xs with
  | nil => rfl
  | cons x r =>
    rw [atI_neg (by omega) (by simp; omega), List.getLast?_eq_getElem?]
    congr 1
    simp only [List.length_cons]
    omega
@[simp] theorem atI_map {α β : Type} (g : α → β) (xs : List α) (i : Int) : atI (xs.map g) i = (atI xs i).map g := by
  unfold atI
  rw [List.length_map]
  cases ixN xs.length i with
  | none => rfl
  | some j => simp
@[simp] theorem cutD_00 (xs : List D) : cutD xs none none = xs := by simp [cutD, HT.sIx]
@[simp] theorem cutD_to (xs : List D) (n : Nat) : cutD xs none (some (n : Int)) = xs.take n := by
  simp only [cutD, HT.sIx_nat, HT.sIx_none, List.drop_zero, Nat.sub_zero]
  by_cases h : n ≤ xs.length
  · rw [Nat.min_eq_left h]
  · rw [Nat.min_eq_right (by omega), List.take_of_length_le (by omega), List.take_of_length_le (by omega)]
@[simp] theorem cutD_from (xs : List D) (n : Nat) : cutD xs (some (n : Int)) none = xs.drop n := by
  simp only [cutD, HT.sIx_nat, HT.sIx_none]
  rw [List.take_of_length_le (by simp)]
  by_cases h : n ≤ xs.length
  · rw [Nat.min_eq_left h]
  · rw [Nat.min_eq_right (by omega), List.drop_eq_nil_of_le (by omega), List.drop_eq_nil_of_le (by omega)]
@[simp] theorem cutD_ft (xs : List D) (m n : Nat) : cutD xs (some (m : Int)) (some (n : Int)) = (xs.take n).drop m := by
  simp only [cutD, HT.sIx_nat]
  rw [List.drop_take]
  by_cases h : m ≤ xs.length
  · rw [Nat.min_eq_left h]
    by_cases h2 : n ≤ xs.length
    · rw [Nat.min_eq_left h2]
    · rw [Nat.min_eq_right (by omega), List.take_of_length_le (by simp), List.take_of_length_le (by simp; omega)]
  · have e1 : List.drop m xs = [] := List.drop_eq_nil_of_le (by omega)
    have e2 : List.drop xs.length xs = [] := List.drop_eq_nil_of_le (by omega)
    rw [Nat.min_eq_right (show xs.length ≤ m by omega), e1, e2]
    simp
@[simp] theorem cutD_to1 (xs : List D) (n : Nat) : cutD xs none (some ((n : Int) + 1)) = xs.take (n + 1) := cutD_to xs (n + 1)
theorem cutD_toI (xs : List D) {i : Int} (h : 0 ≤ i) : cutD xs none (some i) = xs.take i.toNat := by
  have := cutD_to xs i.toNat
  rw [Int.toNat_of_nonneg h] at this
  exact this
theorem cutD_fromI (xs : List D) {i : Int} (h : 0 ≤ i) : cutD xs (some i) none = xs.drop i.toNat := by
  have := cutD_from xs i.toNat
  rw [Int.toNat_of_nonneg h] at this
  exact this
/-- xs[-1:] -/
@[simp] theorem cutD_last (xs : List D) : cutD xs (some (-1)) none = xs.getLast?.toList := by
  have e : HT.sIx xs.length 0 (some (-1)) = xs.length - 1 := by
    show (if (-1 : Int) < 0 then ((-1 : Int) + (xs.length : Int)).toNat else min (-1 : Int).toNat xs.length) = xs.length - 1
    rw [if_pos (by omega)]
    omega
  simp only [cutD, e, HT.sIx_none]
  cases h : xs.getLast? with
  | none => rw [List.getLast?_eq_none_iff] at h; subst h; rfl
  | some y =>
    obtain ⟨M, rfl⟩ := List.getLast?_eq_some_iff.mp h
    simp [List.take_of_length_le]
@[simp] theorem kb_int_int : kitB "int" "int" = some true := by decide +kernel
@[simp] theorem kb_int_bool : kitB "int" "bool" = some false := by decide +kernel
@[simp] theorem kb_int_str : kitB "int" "str" = some false := by decide +kernel
@[simp] theorem kb_int_tuple : kitB "int" "tuple" = some false := by decide +kernel
@[simp] theorem kb_int_list : kitB "int" "list" = some false := by decide +kernel
@[simp] theorem kb_int_dict : kitB "int" "dict" = some false := by decide +kernel
@[simp] theorem kb_bool_int : kitB "bool" "int" = some true := by decide +kernel
@[simp] theorem kb_bool_bool : kitB "bool" "bool" = some true := by decide +kernel
@[simp] theorem kb_bool_str : kitB "bool" "str" = some false := by decide +kernel
@[simp] theorem kb_bool_tuple : kitB "bool" "tuple" = some false := by decide +kernel
@[simp] theorem kb_bool_list : kitB "bool" "list" = some false := by decide +kernel
@[simp] theorem kb_bool_dict : kitB "bool" "dict" = some false := by decide +kernel
@[simp] theorem kb_str_int : kitB "str" "int" = some false := by decide +kernel
@[simp] theorem kb_str_bool : kitB "str" "bool" = some false := by decide +kernel
@[simp] theorem kb_str_str : kitB "str" "str" = some true := by decide +kernel
@[simp] theorem kb_str_tuple : kitB "str" "tuple" = some false := by decide +kernel
@[simp] theorem kb_str_list : kitB "str" "list" = some false := by decide +kernel
@[simp] theorem kb_str_dict : kitB "str" "dict" = some false := by decide +kernel
@[simp] theorem kb_tuple_int : kitB "tuple" "int" = some false := by decide +kernel
@[simp] theorem kb_tuple_bool : kitB "tuple" "bool" = some false := by decide +kernel
@[simp] theorem kb_tuple_str : kitB "tuple" "str" = some false := by decide +kernel
@[simp] theorem kb_tuple_tuple : kitB "tuple" "tuple" = some true := by decide +kernel
@[simp] theorem kb_tuple_list : kitB "tuple" "list" = some false := by decide +kernel
@[simp] theorem kb_tuple_dict : kitB "tuple" "dict" = some false := by decide +kernel
@[simp] theorem kb_list_int : kitB "list" "int" = some false := by decide +kernel
@[simp] theorem kb_list_bool : kitB "list" "bool" = some false := by decide +kernel
@[simp] theorem kb_list_str : kitB "list" "str" = some false := by decide +kernel
@[simp] theorem kb_list_tuple : kitB "list" "tuple" = some false := by decide +kernel
@[simp] theorem kb_list_list : kitB "list" "list" = some true := by decide +kernel
@[simp] theorem kb_list_dict : kitB "list" "dict" = some false := by decide +kernel
@[simp] theorem kb_none_int : kitB "NoneType" "int" = some false := by decide +kernel
@[simp] theorem kb_none_bool : kitB "NoneType" "bool" = some false := by decide +kernel
@[simp] theorem kb_none_str : kitB "NoneType" "str" = some false := by decide +kernel
@[simp] theorem kb_none_tuple : kitB "NoneType" "tuple" = some false := by decide +kernel
@[simp] theorem kb_none_list : kitB "NoneType" "list" = some false := by decide +kernel
@[simp] theorem kb_none_dict : kitB "NoneType" "dict" = some false := by decide +kernel
@[simp] theorem kb_dict_int : kitB "dict" "int" = some false := by decide +kernel
@[simp] theorem kb_dict_bool : kitB "dict" "bool" = some false := by decide +kernel
@[simp] theorem kb_dict_str : kitB "dict" "str" = some false := by decide +kernel
@[simp] theorem kb_dict_tuple : kitB "dict" "tuple" = some false := by decide +kernel
@[simp] theorem kb_dict_list : kitB "dict" "list" = some false := by decide +kernel
@[simp] theorem kb_dict_dict : kitB "dict" "dict" = some true := by decide +kernel
/-! ### data of a kind -/
/-- a tuple of ints -/
abbrev iT (l : List Int) : D := .tuple (l.map .int)
/-- a list of ints -/
abbrev iL (l : List Int) : D := .list (l.map .int)
abbrev iP (p : Int × Int) : D := .tuple [.int p.1, .int p.2]
/-- a tuple of pairs of ints -/
abbrev iPs (l : List (Int × Int)) : D := .tuple (l.map iP)
/-! ### == of scalars, of tuples of ints; repr of them -/
theorem eqv_int (a b : Int) : PyData.eqv (.int a) (.int b) = (a == b) := by rw [PyData.eqv]
@[simp] theorem runEq_int (neg : Bool) (a b : Int) : runEq neg (.int a) (.int b) = some (.d (.bool (if neg then !(a == b) else a == b))) := by
  unfold runEq
  rw [if_pos (by simp [SeqAt.shaped, PyData.canLay0, PyData.depth]), eqv_int]
theorem eqvAll_ints (a b : List Int) : PyData.eqvAll (a.map .int) (b.map .int) = (a == b) := by
  induction a generalizing b with
  | nil => cases b <;> simp [PyData.eqvAll]
  | cons x a ih => cases b with
    | nil => simp [PyData.eqvAll]
    | cons y b => simp [PyData.eqvAll, ih, eqv_int]
theorem canLay_ints (a : List Int) : PyData.canLayAll0 (a.map .int) = true := by
  induction a with
  | nil => simp [PyData.canLayAll0]
  | cons x a ih => simp [PyData.canLayAll0, PyData.canLay0, ih]
theorem depth_ints (a : List Int) : PyData.depthAll (a.map .int) = 0 := by
  induction a with
  | nil => simp [PyData.depthAll]
  | cons x a ih => simp [PyData.depthAll, PyData.depth, ih]
theorem shaped_iL (a : List Int) : SeqAt.shaped (iL a) = true := by
  simp [SeqAt.shaped, iL, PyData.canLay0, PyData.depth, canLay_ints, depth_ints]
theorem shaped_iT (a : List Int) : SeqAt.shaped (iT a) = true := by
  simp [SeqAt.shaped, iT, PyData.canLay0, PyData.depth, canLay_ints, depth_ints]
@[simp] theorem runEq_iL (neg : Bool) (a b : List Int) : runEq neg (.list (a.map .int)) (.list (b.map .int)) = some (.d (.bool (if neg then !(a == b) else a == b))) := by
  unfold runEq
  have h1 := shaped_iL a
  have h2 := shaped_iL b
  rw [if_pos (by rw [h1, h2]; simp), PyData.eqv, eqvAll_ints]
@[simp] theorem runEq_iT (neg : Bool) (a b : List Int) : runEq neg (.tuple (a.map .int)) (.tuple (b.map .int)) = some (.d (.bool (if neg then !(a == b) else a == b))) := by
  unfold runEq
  have h1 := shaped_iT a
  have h2 := shaped_iT b
  rw [if_pos (by rw [h1, h2]; simp), PyData.eqv, eqvAll_ints]
theorem shaped_iPs (a : List (Int × Int)) : SeqAt.shaped (iPs a) = true := by
  have h1 : PyData.canLayAll0 (a.map iP) = true := by
    induction a with
    | nil => simp [PyData.canLayAll0]
    | cons x a ih => simp [PyData.canLayAll0, PyData.canLay0, iP, ih]
  have h2 : PyData.depthAll (a.map iP) ≤ 1 := by
    clear h1
    induction a with
    | nil => simp [PyData.depthAll]
    | cons x a ih => simp [PyData.depthAll, PyData.depth, iP]; omega
  simp only [SeqAt.shaped, iPs, PyData.canLay0, PyData.depth, h1, Bool.true_and]
  exact decide_eq_true (by omega)
theorem runEq_nil (neg : Bool) (ds : List D) (h : SeqAt.shaped (.tuple ds) = true) : runEq neg (.tuple ds) (.tuple []) = some (.d (.bool (if neg then !ds.isEmpty else ds.isEmpty))) := by
  unfold runEq
  have h2 : SeqAt.shaped (.tuple []) = true := shaped_iT []
  rw [if_pos (by rw [h, h2]; simp), PyData.eqv]
  cases ds <;> simp [PyData.eqvAll]
@[simp] theorem runEq_iPs_nil (neg : Bool) (a : List (Int × Int)) : runEq neg (.tuple (a.map iP)) (.tuple []) = some (.d (.bool (if neg then !a.isEmpty else a.isEmpty))) := by
  rw [runEq_nil _ _ (shaped_iPs a)]
  simp
@[simp] theorem runEq_str (neg : Bool) (a b : Str) : runEq neg (.str a) (.str b) = some (.d (.bool (if neg then !(a == b) else a == b))) := by
  unfold runEq
  rw [if_pos (by simp [twoStr]), PyData.eqv]
/-! ### repr of data that is small -/
/-- ints below 10^12, few leaves -/
def reprOk (d : D) : Prop := PyData.layable0 d = true ∧ d.intsShort 13 = true ∧ d.showable = true
theorem runRepr_of {d : D} (h : reprOk d) : runRepr d = some (.d (.str d.shown)) := by
  obtain ⟨h1, h2, h3⟩ := h
  have h4 := PyProof.Rows.shown_le13 h1 h2
  have h5 : (PyData.canLay0 d && decide (PyData.depth d ≤ 64) && decide (PyData.weight d ≤ 2 ^ 20)) = true := h1
  simp only [Bool.and_eq_true, decide_eq_true_eq] at h5
  unfold runRepr
  rw [if_pos ⟨h5.1.1, h3, h5.1.2, by omega⟩]
theorem log_small {i : Int} (h : i.natAbs < 10 ^ 12) : i.natAbs.log2 < 40 := by
  by_cases z : i.natAbs = 0
  · rw [z]; decide
  · rw [Nat.log2_lt z]
    omega
theorem weight_ints (a : List Int) (h : ∀ x ∈ a, x.natAbs < 10 ^ 12) : PyData.weightAll (a.map .int) ≤ 50 * a.length := by
  induction a with
  | nil => simp [PyData.weightAll]
  | cons x a ih =>
    have h1 := log_small (h x (List.mem_cons_self ..))
    have h2 := ih fun y hy => h y (List.mem_cons_of_mem _ hy)
    simp only [List.map_cons, PyData.weightAll, PyData.weight, List.length_cons]
    split <;> omega
theorem short_ints (a : List Int) (h : ∀ x ∈ a, x.natAbs < 10 ^ 12) : PyData.intsShortAll 13 (a.map .int) = true := by
  induction a with
  | nil => simp [PyData.intsShortAll]
  | cons x a ih =>
    have h1 := PyData.shown_int_le (h x (List.mem_cons_self ..))
    have h2 := ih fun y hy => h y (List.mem_cons_of_mem _ hy)
    simp [PyData.intsShortAll, PyData.intsShort, h1, h2]
theorem showable_ints (a : List Int) (h : ∀ x ∈ a, x.natAbs < 10 ^ 12) : PyData.showableAll (a.map .int) = true := by
  induction a with
  | nil => simp [PyData.showableAll]
  | cons x a ih =>
    have h1 := log_small (h x (List.mem_cons_self ..))
    have h2 := ih fun y hy => h y (List.mem_cons_of_mem _ hy)
    simp [PyData.showableAll, PyData.showable, h2]
    omega
theorem repr_iT {a : List Int} (hl : a.length ≤ 20000) (h : ∀ x ∈ a, x.natAbs < 10 ^ 12) : reprOk (iT a) := by
  have h1 := weight_ints a h
  refine ⟨?_, ?_, ?_⟩
  · simp [PyData.layable0, iT, PyData.canLay0, PyData.depth, PyData.weight, canLay_ints, depth_ints]
    exact decide_eq_true (by omega)
  · simp [iT, PyData.intsShort, short_ints a h]
  · simp [iT, PyData.showable, showable_ints a h]
theorem repr_iL {a : List Int} (hl : a.length ≤ 20000) (h : ∀ x ∈ a, x.natAbs < 10 ^ 12) : reprOk (iL a) := by
  have h1 := weight_ints a h
  refine ⟨?_, ?_, ?_⟩
  · simp [PyData.layable0, iL, PyData.canLay0, PyData.depth, PyData.weight, canLay_ints, depth_ints]
    exact decide_eq_true (by omega)
  · simp [iL, PyData.intsShort, short_ints a h]
  · simp [iL, PyData.showable, showable_ints a h]
theorem optMapList {α β : Type} (g : α → β) (o : Option α) : (Option.map g o).toList = o.toList.map g := by cases o <;> rfl
theorem optLen {α : Type} (o : Option α) : o.toList.length ≤ 1 := by cases o <;> simp
theorem bnd_nat (k : Nat) (h : k ≤ 16777216) : bnd (k : Int) = true := by
  unfold bnd
  simp only [Bool.and_eq_true, decide_eq_true_eq]
  omega
theorem bnd_int (k : Int) (h : -16777216 ≤ k) (h2 : k ≤ 16777216) : bnd k = true := by
  unfold bnd
  simp only [Bool.and_eq_true, decide_eq_true_eq]
  omega
@[simp] theorem bnd_0 : bnd 0 = true := bnd_nat 0 (by omega)
/-! ### two ways that meet again -/
section
variable {c : Prop} [Decidable c]
@[simp] theorem ite_ok {α : Type} (a b : α) : (if c then Res.ok a else Res.ok b) = Res.ok (if c then a else b) := by split <;> rfl
@[simp] theorem ite_pair {α β : Type} (a b : α) (f : β) : (if c then (a, f) else (b, f)) = (if c then a else b, f) := by split <;> rfl
@[simp] theorem ite_rvd (a b : D) : (if c then RV.d a else RV.d b) = RV.d (if c then a else b) := by split <;> rfl
@[simp] theorem ite_int (a b : Int) : (if c then PyData.int a else PyData.int b) = PyData.int (if c then a else b) := by split <;> rfl
@[simp] theorem ite_bool (a b : Bool) : (if c then PyData.bool a else PyData.bool b) = PyData.bool (if c then a else b) := by split <;> rfl
@[simp] theorem ite_tuple (a b : List D) : (if c then PyData.tuple a else PyData.tuple b) = PyData.tuple (if c then a else b) := by split <;> rfl
theorem sat_ite {α : Type} (x y : Res α) (P : α → Prop) : (if c then x else y).Sat P ↔ if c then x.Sat P else y.Sat P := by split <;> rfl
theorem osat_ite (x y : Out) (Q : Po) : (if c then x else y).Sat Q ↔ if c then x.Sat Q else y.Sat Q := by split <;> rfl
end
end Vm
set_option maxRecDepth 100000
set_option maxHeartbeats 1000000
namespace Vm
open PySem PySem.Spec L2
/-! ### small data: its repr is had, it may be compared -/
def RO (d : D) (w k : Nat) : Prop := PyData.canLay0 d = true ∧ PyData.depth d ≤ k ∧ PyData.weight d ≤ w ∧ PyData.intsShort 13 d = true ∧ PyData.showable d = true
def ROs (ds : List D) (w k : Nat) : Prop := PyData.canLayAll0 ds = true ∧ PyData.depthAll ds ≤ k ∧ PyData.weightAll ds ≤ w ∧ PyData.intsShortAll 13 ds = true ∧ PyData.showableAll ds = true
theorem RO.int {i : Int} (h : i.natAbs < 10 ^ 12) : RO (.int i) 50 0 := by
  have h1 := log_small h
  refine ⟨by simp [PyData.canLay0], by simp [PyData.depth], ?_, ?_, ?_⟩
  · simp only [PyData.weight]; split <;> omega
  · simp [PyData.intsShort, PyData.shown_int_le h]
  · simp [PyData.showable]; omega
theorem RO.int' {i : Int} (h1 : -999999999999 ≤ i) (h2 : i ≤ 999999999999) : RO (.int i) 50 0 := RO.int (by omega)
theorem RO.none : RO .none 0 0 := ⟨by simp [PyData.canLay0], by simp [PyData.depth], by simp [PyData.weight], by simp [PyData.intsShort], by simp [PyData.showable]⟩
theorem RO.bool {b : Bool} : RO (.bool b) 0 0 := ⟨by simp [PyData.canLay0], by simp [PyData.depth], by simp [PyData.weight], by simp [PyData.intsShort], by simp [PyData.showable]⟩
theorem RO.str {s : Str} (h : PyData.strOk s = true) : RO (.str s) s.cps.size 0 := ⟨by simp [PyData.canLay0, h], by simp [PyData.depth], by simp [PyData.weight], by simp [PyData.intsShort], by simp [PyData.showable]⟩
theorem ROs.nil {k : Nat} : ROs [] 0 k := ⟨by simp [PyData.canLayAll0], by simp [PyData.depthAll], by simp [PyData.weightAll], by simp [PyData.intsShortAll], by simp [PyData.showableAll]⟩
theorem RO.mono {d : D} {w k w' k' : Nat} (h : RO d w k) (h1 : w ≤ w') (h2 : k ≤ k') : RO d w' k' := ⟨h.1, Nat.le_trans h.2.1 h2, Nat.le_trans h.2.2.1 h1, h.2.2.2⟩
theorem ROs.mono {d : List D} {w k w' k' : Nat} (h : ROs d w k) (h1 : w ≤ w') (h2 : k ≤ k') : ROs d w' k' := ⟨h.1, Nat.le_trans h.2.1 h2, Nat.le_trans h.2.2.1 h1, h.2.2.2⟩
theorem ROs.cons {d : D} {ds : List D} {w w' k k' : Nat} (h : RO d w k) (h' : ROs ds w' k') : ROs (d :: ds) (w + 1 + w') (max k k') := by
  obtain ⟨a1, a2, a3, a4, a5⟩ := h
  obtain ⟨b1, b2, b3, b4, b5⟩ := h'
  refine ⟨by simp [PyData.canLayAll0, a1, b1], ?_, ?_, by simp [PyData.intsShortAll, a4, b4], by simp [PyData.showableAll, a5, b5]⟩
  · simp only [PyData.depthAll]; omega
  · simp only [PyData.weightAll]; omega
theorem ROs.app {ds es : List D} {w w' k k' : Nat} (h : ROs ds w k) (h' : ROs es w' k') : ROs (ds ++ es) (w + w') (max k k') := by
  induction ds generalizing w with
  | nil => exact h'.mono (by omega) (by omega)
  | cons d ds ih =>
    obtain ⟨a1, a2, a3, a4, a5⟩ := h
    simp only [PyData.canLayAll0, PyData.depthAll, PyData.weightAll, PyData.intsShortAll, PyData.showableAll, Bool.and_eq_true] at a1 a2 a3 a4 a5
    have h1 : RO d (PyData.weight d) k := ⟨a1.1, by omega, Nat.le_refl _, a4.1, a5.1⟩
    have h2 : ROs ds (PyData.weightAll ds) k := ⟨a1.2, by omega, Nat.le_refl _, a4.2, a5.2⟩
    exact (ROs.cons h1 (ih h2)).mono (by omega) (by omega)
theorem ROs.all {ds : List D} {w k : Nat} (h : ∀ d ∈ ds, RO d w k) : ROs ds (ds.length * (w + 1)) k := by
  induction ds with
  | nil => exact ROs.nil.mono (by simp) (Nat.le_refl _)
  | cons d ds ih =>
    have := ROs.cons (h d (List.mem_cons_self ..)) (ih fun e he => h e (List.mem_cons_of_mem _ he))
    refine this.mono ?_ (by omega)
    rw [List.length_cons, Nat.succ_mul]; omega
theorem ROs.map {α : Type} {g : α → D} {l : List α} {w k : Nat} (h : ∀ x ∈ l, RO (g x) w k) : ROs (l.map g) (l.length * (w + 1)) k := by
  have := ROs.all (ds := l.map g) (w := w) (k := k) fun d hd => by
    obtain ⟨x, hx, rfl⟩ := List.mem_map.mp hd
    exact h x hx
  rwa [List.length_map] at this
theorem RO.tuple {ds : List D} {w k : Nat} (h : ROs ds w k) : RO (.tuple ds) w (k + 1) := by
  obtain ⟨a1, a2, a3, a4, a5⟩ := h
  exact ⟨by simp [PyData.canLay0, a1], by simp only [PyData.depth]; omega, by simp only [PyData.weight]; omega, by simp [PyData.intsShort, a4], by simp [PyData.showable, a5]⟩
theorem RO.list {ds : List D} {w k : Nat} (h : ROs ds w k) : RO (.list ds) w (k + 1) := by
  obtain ⟨a1, a2, a3, a4, a5⟩ := h
  exact ⟨by simp [PyData.canLay0, a1], by simp only [PyData.depth]; omega, by simp only [PyData.weight]; omega, by simp [PyData.intsShort, a4], by simp [PyData.showable, a5]⟩
theorem RO.norm {d : D} {w k : Nat} (h : RO d w k) : Vm.norm d = d := by
  cases d with
  | dict kvs => have := h.1; simp [PyData.canLay0] at this
  | _ => rfl
theorem RO.ok {d : D} {w k : Nat} (h : RO d w k) (h1 : w ≤ 1048576) (h2 : k ≤ 64) : reprOk d := by
  obtain ⟨a1, a2, a3, a4, a5⟩ := h
  refine ⟨?_, a4, a5⟩
  show (PyData.canLay0 d && decide (PyData.depth d ≤ 64) && decide (PyData.weight d ≤ 2 ^ 20)) = true
  rw [a1, decide_eq_true (by omega), decide_eq_true (show PyData.weight d ≤ 2 ^ 20 by omega)]; rfl
theorem RO.repr {d : D} {w k : Nat} (h : RO d w k) (h1 : w ≤ 1048576) (h2 : k ≤ 64) : runRepr d = some (.d (.str d.shown)) := runRepr_of (h.ok h1 h2)
theorem RO.shaped {d : D} {w k : Nat} (h : RO d w k) (h2 : k ≤ 64) : SeqAt.shaped d = true := by
  show (PyData.canLay0 d && decide (PyData.depth d ≤ 64)) = true
  rw [h.1, decide_eq_true (by have := h.2.1; omega)]; rfl
theorem RO.iP {p : Int × Int} (h1 : -999999999999 ≤ p.1) (h2 : p.1 ≤ 999999999999) (h3 : -999999999999 ≤ p.2) (h4 : p.2 ≤ 999999999999) : RO (Vm.iP p) 102 1 :=
  RO.tuple ((ROs.cons (RO.int' h1 h2) (ROs.cons (RO.int' h3 h4) ROs.nil (k' := 0))).mono (by omega) (by omega))
mutual
theorem eqv_self : ∀ d : D, PyData.canLay0 d = true → PyData.eqv d d = true
  | .none, _ => by simp [PyData.eqv]
  | .bool b, _ => by simp [PyData.eqv]
  | .int i, _ => by simp [PyData.eqv]
  | .str s, _ => by simp [PyData.eqv]
  | .list xs, h => by simp only [PyData.canLay0] at h; simp only [PyData.eqv]; exact eqv_selfs xs h
  | .tuple xs, h => by simp only [PyData.canLay0] at h; simp only [PyData.eqv]; exact eqv_selfs xs h
  | .dict _, h => by simp [PyData.canLay0] at h
theorem eqv_selfs : ∀ ds : List D, PyData.canLayAll0 ds = true → PyData.eqvAll ds ds = true
  | [], _ => by simp [PyData.eqvAll]
  | d :: ds, h => by
    simp only [PyData.canLayAll0, Bool.and_eq_true] at h
    simp only [PyData.eqvAll, eqv_self d h.1, eqv_selfs ds h.2, Bool.and_self]
end
/-- == of two small ones -/
theorem runEq_small {neg : Bool} {a b : D} {w w' k k' : Nat} (ha : RO a w k) (hb : RO b w' k') (h : k ≤ 64) (h' : k' ≤ 64) : runEq neg a b = some (.d (.bool (if neg then !PyData.eqv a b else PyData.eqv a b))) := by
  unfold runEq
  rw [if_pos (by rw [ha.shaped h, hb.shaped h']; simp)]
theorem runEq_lnil (neg : Bool) (ds : List D) {w k : Nat} (h : ROs ds w k) (hk : k ≤ 63) : runEq neg (.list ds) (.list []) = some (.d (.bool (if neg then !ds.isEmpty else ds.isEmpty))) := by
  rw [runEq_small (RO.list h) (RO.list ROs.nil) (by omega) (by omega) (k' := 1)]
  cases ds <;> simp [PyData.eqv, PyData.eqvAll]
theorem runEq_tnil (neg : Bool) (ds : List D) {w k : Nat} (h : ROs ds w k) (hk : k ≤ 63) : runEq neg (.tuple ds) (.tuple []) = some (.d (.bool (if neg then !ds.isEmpty else ds.isEmpty))) := by
  rw [runEq_small (RO.tuple h) (RO.tuple ROs.nil) (by omega) (by omega) (k' := 1)]
  cases ds <;> simp [PyData.eqv, PyData.eqvAll]
theorem ROs.sub {ds es : List D} {w k : Nat} (h : ∀ d ∈ ds, RO d w k) (hs : ∀ e ∈ es, e ∈ ds) : ROs es (es.length * (w + 1)) k := ROs.all fun e he => h e (hs e he)
theorem RO_iPs {R : List (Int × Int)} (h : ∀ p ∈ R, (-999999999999 ≤ p.1 ∧ p.1 ≤ 999999999999) ∧ -999999999999 ≤ p.2 ∧ p.2 ≤ 999999999999) : RO (.tuple (R.map Vm.iP)) (R.length * 103) 2 :=
  RO.tuple (ROs.map fun p hp => RO.iP (h p hp).1.1 (h p hp).1.2 (h p hp).2.1 (h p hp).2.2)
end Vm
namespace Pol
/-! ### asks, limits, hours: the arithmetic -/
abbrev Lim := List (Int × Int)
def opn (C : List Int) (t : Int) : Bool := decide (C.getD (t % (C.length : Int)).toNat 0 = 1)
def back (L : List Int) (k : Int) : Int := L.getD (L.length - k.toNat) 0
def bnds (P : Lim) (L : List Int) : List Int := (P.filter fun p => decide (p.1 ≤ (L.length : Int))).map fun p => back L p.1 + p.2
def low (P : Lim) (L : List Int) (s : Int) : Int := (L.getLast?.toList ++ bnds P L).foldl max s
def upO (C : List Int) : Nat → Int → Int
  | 0, t => t
  | n + 1, t => if opn C t = true then t else upO C n (t + 1)
def nxt (P : Lim) (C L : List Int) (s : Int) : Int := upO C C.length (low P L s)
def soon (P : Lim) (C : List Int) : Nat → List Int → Int → List Int
  | 0, _, _ => []
  | n + 1, L, s => nxt P C L s :: soon P C n (L ++ [nxt P C L s]) s
/-- one more ask is let -/
def may (P : Lim) (C L : List Int) (t : Int) : Prop := opn C t = true ∧ ∀ p ∈ P, p.1 ≤ (L.length : Int) → back L p.1 + p.2 ≤ t
def up (L : List Int) : Prop := L.Pairwise (· ≤ ·)
/-- polite -/
def pol (P : Lim) (C L : List Int) : Prop := ∀ i, i < L.length → may P C (L.take i) (L.getD i 0)
def okC (C : List Int) : Prop := 1 ∈ C
def okP (P : Lim) (K W : Int) : Prop := ∀ p ∈ P, 1 ≤ p.1 ∧ p.1 ≤ K ∧ 1 ≤ p.2 ∧ p.2 ≤ W
theorem foldmax_le {l : List Int} {s t : Int} : l.foldl max s ≤ t ↔ s ≤ t ∧ ∀ x ∈ l, x ≤ t := by
  induction l generalizing s with
  | nil => simp
  | cons a l ih =>
    rw [List.foldl_cons, ih]
    simp only [List.mem_cons, forall_eq_or_imp]
    constructor
    · rintro ⟨h1, h2⟩; exact ⟨by omega, by omega, h2⟩
    · rintro ⟨h1, h2, h3⟩; exact ⟨by omega, h3⟩
theorem low_le {P : Lim} {L : List Int} {s t : Int} : low P L s ≤ t ↔ s ≤ t ∧ (∀ x ∈ L.getLast?, x ≤ t) ∧ ∀ p ∈ P, p.1 ≤ (L.length : Int) → back L p.1 + p.2 ≤ t := by
  unfold low bnds
  rw [foldmax_le]
  simp only [List.mem_append, List.mem_map, List.mem_filter, decide_eq_true_eq, Option.mem_toList, Option.mem_def]
  constructor
  · rintro ⟨h1, h2⟩
    exact ⟨h1, fun x hx => h2 x (.inl hx), fun p hp hl => h2 _ (.inr ⟨p, ⟨hp, hl⟩, rfl⟩)⟩
  · rintro ⟨h1, h2, h3⟩
    refine ⟨h1, ?_⟩
    rintro x (hx | ⟨p, ⟨hp, hl⟩, rfl⟩)
    · exact h2 x hx
    · exact h3 p hp hl
theorem opn_ex {C : List Int} (h : okC C) (t : Int) : ∃ k : Nat, k < C.length ∧ opn C (t + k) = true := by
  obtain ⟨j, hj, e⟩ := List.mem_iff_getElem.mp h
  have hn : (0 : Int) < C.length := by omega
  refine ⟨((j - t) % (C.length : Int)).toNat, ?_, ?_⟩
  · have h1 := Int.emod_lt_of_pos ((j : Int) - t) hn
    have h2 := Int.emod_nonneg ((j : Int) - t) (by omega : (C.length : Int) ≠ 0)
    omega
  · have h2 := Int.emod_nonneg ((j : Int) - t) (by omega : (C.length : Int) ≠ 0)
    have e1 : (t + (((j - t) % (C.length : Int)).toNat : Int)) % (C.length : Int) = j := by
      rw [Int.toNat_of_nonneg h2, Int.add_emod, Int.emod_emod, ← Int.add_emod]
      rw [show t + (↑j - t) = (j : Int) by omega]
      exact Int.emod_eq_of_lt (by omega) (by omega)
    unfold opn
    rw [e1]
    simp [hj, e]
theorem upO_ge (C : List Int) (n : Nat) (t : Int) : t ≤ upO C n t ∧ upO C n t ≤ t + n := by
  induction n generalizing t with
  | zero => simp [upO]
  | succ n ih =>
    unfold upO
    split
    · omega
    · have := ih (t + 1); omega
theorem upO_least (C : List Int) (n : Nat) (t u : Int) (h1 : t ≤ u) (h2 : opn C u = true) : upO C n t ≤ u := by
  induction n generalizing t with
  | zero => simpa [upO]
  | succ n ih =>
    unfold upO
    split
    · omega
    · rename_i hn
      refine ih (t + 1) ?_
      have : t ≠ u := fun e => hn (e ▸ h2)
      omega
theorem upO_opn (C : List Int) (n : Nat) (t : Int) (h : ∃ k : Nat, k < n ∧ opn C (t + k) = true) : opn C (upO C n t) = true := by
  induction n generalizing t with
  | zero => obtain ⟨k, hk, _⟩ := h; omega
  | succ n ih =>
    unfold upO
    split
    · assumption
    · rename_i hn
      obtain ⟨k, hk, e⟩ := h
      cases k with
      | zero => simp at e; exact absurd e hn
      | succ k => exact ih (t + 1) ⟨k, by omega, by rw [← e]; congr 1; omega⟩
theorem nxt_least {P : Lim} {C L : List Int} {s t : Int} (h : low P L s ≤ t) (ho : opn C t = true) : nxt P C L s ≤ t := upO_least C _ _ t h ho
theorem nxt_low (P : Lim) (C L : List Int) (s : Int) : low P L s ≤ nxt P C L s := (upO_ge C _ _).1
theorem nxt_opn {P : Lim} {C L : List Int} {s : Int} (h : okC C) : opn C (nxt P C L s) = true := upO_opn C _ _ (opn_ex h _)
theorem nxt_may {P : Lim} {C L : List Int} {s : Int} (h : okC C) : may P C L (nxt P C L s) := ⟨nxt_opn h, (low_le.mp (nxt_low P C L s)).2.2⟩
theorem nxt_since (P : Lim) (C L : List Int) (s : Int) : s ≤ nxt P C L s := (low_le.mp (nxt_low P C L s)).1
theorem nxt_last (P : Lim) (C L : List Int) (s : Int) : ∀ x ∈ L.getLast?, x ≤ nxt P C L s := (low_le.mp (nxt_low P C L s)).2.1
/-- rows that are later at each place -/
def ge (L M : List Int) : Prop := L.length = M.length ∧ ∀ i, L.getD i 0 ≤ M.getD i 0
theorem ge.refl (L : List Int) : ge L L := ⟨rfl, fun i => Int.le_refl _⟩
theorem ge.snoc {L M : List Int} {a b : Int} (h : ge L M) (hab : a ≤ b) : ge (L ++ [a]) (M ++ [b]) := by
  obtain ⟨h1, h2⟩ := h
  refine ⟨by simp [h1], fun i => ?_⟩
  have := h2 i
  simp only [List.getD_eq_getElem?_getD, List.getElem?_append] at this ⊢
  rw [h1]
  split
  · exact this
  · cases i - M.length <;> simp <;> omega
theorem ge.back {L M : List Int} (h : ge L M) (k : Int) : back L k ≤ back M k := by
  unfold Pol.back
  rw [h.1]
  exact h.2 _
theorem ge.last {L M : List Int} {t : Int} (h : ge L M) (hm : ∀ x ∈ M.getLast?, x ≤ t) : ∀ x ∈ L.getLast?, x ≤ t := by
  intro x hx
  rw [List.getLast?_eq_getElem?, Option.mem_def] at hx
  have h2 := h.2 (L.length - 1)
  simp only [List.getD_eq_getElem?_getD, hx] at h2
  cases e : M.getLast? with
  | none => rw [List.getLast?_eq_none_iff] at e; subst e; have := h.1; simp at this; subst this; simp at hx
  | some y =>
    have := hm y (by simp [e])
    rw [List.getLast?_eq_getElem?, ← h.1] at e
    rw [e] at h2
    simp at h2
    omega
theorem nxt_mono {P : Lim} {C L M : List Int} {s t : Int} (h : ge L M) (hs : s ≤ t) (hl : ∀ x ∈ M.getLast?, x ≤ t) (hm : may P C M t) : nxt P C L s ≤ t := by
  refine nxt_least (low_le.mpr ⟨hs, h.last hl, fun p hp hk => ?_⟩) hm.1
  rw [h.1] at hk
  have := hm.2 p hp hk
  have := h.back p.1
  omega
theorem pol_snoc {P : Lim} {C L : List Int} {t : Int} : pol P C (L ++ [t]) ↔ pol P C L ∧ may P C L t := by
  unfold pol
  constructor
  · intro h
    constructor
    · intro i hi
      have := h i (by simp; omega)
      rw [List.take_append_of_le_length (by omega)] at this
      simpa [List.getD_eq_getElem?_getD, List.getElem?_append, hi] using this
    · simpa [List.getD_eq_getElem?_getD] using h L.length (by simp)
  · rintro ⟨h1, h2⟩ i hi
    simp at hi
    by_cases e : i < L.length
    · rw [List.take_append_of_le_length (by omega)]
      simpa [List.getD_eq_getElem?_getD, List.getElem?_append, e] using h1 i e
    · have e : i = L.length := by omega
      subst e
      simpa [List.getD_eq_getElem?_getD] using h2
theorem up_snoc {L : List Int} {t : Int} : up (L ++ [t]) ↔ up L ∧ ∀ x ∈ L, x ≤ t := by
  unfold up
  rw [List.pairwise_append]
  simp
theorem up_last {L : List Int} {t : Int} (h : up L) (hl : ∀ x ∈ L.getLast?, x ≤ t) : ∀ x ∈ L, x ≤ t := by
  intro x hx
  cases e : L.getLast? with
  | none => rw [List.getLast?_eq_none_iff] at e; subst e; simp at hx
  | some y =>
    have h1 := hl y (by simp [e])
    obtain ⟨M, rfl⟩ := List.getLast?_eq_some_iff.mp e
    rw [up_snoc] at h
    rw [List.mem_append] at hx
    rcases hx with hx | hx
    · have := h.2 x hx; omega
    · simp at hx; omega
theorem soon_length (P : Lim) (C : List Int) (n : Nat) (L : List Int) (s : Int) : (soon P C n L s).length = n := by
  induction n generalizing L with
  | zero => rfl
  | succ n ih => simp [soon, ih]
theorem soon_pol {P : Lim} {C : List Int} (hc : okC C) (n : Nat) {L : List Int} {s : Int} (hp : pol P C L) : pol P C (L ++ soon P C n L s) := by
  induction n generalizing L with
  | zero => simpa [soon]
  | succ n ih =>
    have := ih (L := L ++ [nxt P C L s]) (pol_snoc.mpr ⟨hp, nxt_may hc⟩)
    simpa [soon] using this
theorem soon_up {P : Lim} {C : List Int} (n : Nat) {L : List Int} {s : Int} (hp : up L) : up (L ++ soon P C n L s) := by
  induction n generalizing L with
  | zero => simpa [soon]
  | succ n ih =>
    have := ih (L := L ++ [nxt P C L s]) (up_snoc.mpr ⟨hp, up_last hp (nxt_last P C L s)⟩)
    simpa [soon] using this
theorem soon_add (P : Lim) (C : List Int) (m n : Nat) (L : List Int) (s : Int) : soon P C (m + n) L s = soon P C m L s ++ soon P C n (L ++ soon P C m L s) s := by
  induction m generalizing L with
  | zero => simp [soon]
  | succ m ih =>
    rw [Nat.succ_add]
    simp [soon, ih]
theorem soon_take (P : Lim) (C : List Int) {m n : Nat} (h : m ≤ n) (L : List Int) (s : Int) : (soon P C n L s).take m = soon P C m L s := by
  obtain ⟨k, rfl⟩ := Nat.exists_eq_add_of_le h
  rw [soon_add]
  rw [List.take_append_of_le_length (by simp [soon_length])]
  rw [List.take_of_length_le (by simp [soon_length])]
theorem soon_drop (P : Lim) (C : List Int) {m n : Nat} (h : m ≤ n) (L : List Int) (s : Int) : (soon P C n L s).drop m = soon P C (n - m) (L ++ soon P C m L s) s := by
  obtain ⟨k, rfl⟩ := Nat.exists_eq_add_of_le h
  rw [soon_add, List.drop_append_of_le_length (by simp [soon_length]), List.drop_of_length_le (by simp [soon_length])]
  simp
theorem soon_since (P : Lim) (C : List Int) (n : Nat) (L : List Int) (s : Int) : ∀ x ∈ soon P C n L s, s ≤ x := by
  induction n generalizing L with
  | zero => simp [soon]
  | succ n ih =>
    intro x hx
    simp only [soon, List.mem_cons] at hx
    rcases hx with rfl | hx
    · exact nxt_since _ _ _ _
    · exact ih _ x hx
/-- counted: how many asks lie in the W moments up to t -/
def cnt (L : List Int) (t W : Int) : Nat := (L.filter fun x => decide (x > t - W)).length
theorem cnt_snoc (L : List Int) (a t W : Int) : cnt (L ++ [a]) t W = cnt L t W + if a > t - W then 1 else 0 := by
  unfold cnt
  rw [List.filter_append, List.length_append]
  split <;> simp [*]
theorem revInd {α : Type} {p : List α → Prop} (h0 : p []) (h1 : ∀ L a, p L → p (L ++ [a])) (L : List α) : p L := by
  have : ∀ n (L : List α), L.length = n → p L := by
    intro n
    induction n with
    | zero => intro L h; rw [List.length_eq_zero_iff] at h; subst h; exact h0
    | succ n ih =>
      intro L h
      have hn : L ≠ [] := by intro e; subst e; simp at h
      rw [← List.dropLast_concat_getLast hn]
      exact h1 _ _ (ih _ (by simp [h]))
  exact this _ L rfl
/-- in an ascending row at least k lie above a bound exactly if the k-th last one does -/
theorem cnt_up' (t W : Int) {L : List Int} : ∀ (h : up L) (k : Nat) (hk : 1 ≤ k), k ≤ cnt L t W ↔ k ≤ L.length ∧ L.getD (L.length - k) 0 > t - W := by
  refine revInd (p := fun L => ∀ (h : up L) (k : Nat) (hk : 1 ≤ k), k ≤ cnt L t W ↔ k ≤ L.length ∧ L.getD (L.length - k) 0 > t - W) (fun h k hk => by simp only [cnt, List.filter_nil, List.length_nil]; omega) (fun L a ih h k hk => ?_) L
  · rw [up_snoc] at h
    rw [cnt_snoc]
    by_cases ha : a > t - W
    · rw [if_pos ha]
      by_cases h1 : k = 1
      · subst h1
        simp [List.getD_eq_getElem?_getD, ha]
      · have := ih h.1 (k - 1) (by omega)
        rw [show (k ≤ cnt L t W + 1) ↔ (k - 1 ≤ cnt L t W) by omega, this]
        simp only [List.length_append, List.length_cons, List.length_nil]
        have e : L.length + (0 + 1) - k = L.length - (k - 1) := by omega
        rw [e]
        constructor
        · rintro ⟨q1, q2⟩
          refine ⟨by omega, ?_⟩
          rw [List.getD_eq_getElem?_getD, List.getElem?_append_left (by omega), ← List.getD_eq_getElem?_getD]
          exact q2
        · rintro ⟨q1, q2⟩
          refine ⟨by omega, ?_⟩
          rw [List.getD_eq_getElem?_getD, List.getElem?_append_left (by omega), ← List.getD_eq_getElem?_getD] at q2
          exact q2
    · rw [if_neg ha]
      have z : cnt L t W = 0 := by
        unfold cnt
        rw [List.length_eq_zero_iff, List.filter_eq_nil_iff]
        intro x hx
        have := h.2 x hx
        simp; omega
      rw [z]
      constructor
      · omega
      · rintro ⟨q1, q2⟩
        exfalso
        simp only [List.length_append, List.length_cons, List.length_nil] at q1 q2
        rw [List.getD_eq_getElem?_getD, List.getElem?_eq_getElem (by simp; omega)] at q2
        simp only [Option.getD_some] at q2
        by_cases h1 : k = 1
        · subst h1; simp at q2; omega
        · rw [List.getElem_append_left (by omega)] at q2
          have := h.2 _ (List.getElem_mem (by omega : L.length + (0+1) - k < L.length))
          omega
theorem cnt_up {L : List Int} (h : up L) {k : Nat} (hk : 1 ≤ k) (t W : Int) : k ≤ cnt L t W ↔ k ≤ L.length ∧ L.getD (L.length - k) 0 > t - W := cnt_up' t W h k hk
theorem may_cnt {P : Lim} {C L : List Int} {t : Int} (h : up L) (hp : ∀ p ∈ P, 1 ≤ p.1) : may P C L t ↔ opn C t = true ∧ ∀ p ∈ P, (cnt L t p.2 : Int) + 1 ≤ p.1 := by
  unfold may
  refine and_congr_right fun _ => forall_congr' fun p => forall_congr' fun hm => ?_
  have hk := hp p hm
  have := cnt_up h (k := p.1.toNat) (by omega) t p.2
  have e : back L p.1 = L.getD (L.length - p.1.toNat) 0 := rfl
  rw [e]
  constructor
  · intro q
    have : ¬ p.1.toNat ≤ cnt L t p.2 := by
      rw [this]
      rintro ⟨z1, z2⟩
      have := q (by omega)
      omega
    omega
  · intro q hl
    have : ¬ (p.1.toNat ≤ L.length ∧ L.getD (L.length - p.1.toNat) 0 > t - p.2) := by
      rw [← this]; omega
    have : ¬ L.getD (L.length - p.1.toNat) 0 > t - p.2 := fun z => this ⟨by omega, z⟩
    omega
theorem nxt_bound {P : Lim} {C L : List Int} {s B W : Int} (hw : 0 ≤ W) (hP : ∀ p ∈ P, 1 ≤ p.1 ∧ p.2 ≤ W) (hs : s ≤ B) (hL : ∀ x ∈ L, x ≤ B) : nxt P C L s ≤ B + W + C.length := by
  have h1 : low P L s ≤ B + W := by
    refine low_le.mpr ⟨by omega, fun x hx => ?_, fun p hp hk => ?_⟩
    · have := hL x (List.mem_of_getLast? hx); omega
    · have h2 := hP p hp
      have : back L p.1 ≤ B := by
        unfold back
        rw [List.getD_eq_getElem?_getD, List.getElem?_eq_getElem (by omega)]
        exact hL _ (List.getElem_mem _)
      omega
  have := (upO_ge C C.length (low P L s)).2
  unfold nxt
  omega
end Pol
namespace Pol
/-! ### the most asks in some moments, always open -/
theorem opn_one (t : Int) : opn [1] t = true := by
  unfold opn
  have : (t % (([1] : List Int).length : Int)).toNat = 0 := by
    have h : (([1] : List Int).length : Int) = 1 := rfl
    rw [h, Int.emod_one]; rfl
  rw [this]; rfl
theorem okC_one : okC [1] := by simp [okC]
theorem nxt_one (P : Lim) (L : List Int) (s : Int) : nxt P [1] L s = low P L s := by
  unfold nxt
  show (if opn [1] (low P L s) = true then low P L s else _) = _
  rw [if_pos (opn_one _)]
theorem may_one {P : Lim} {L : List Int} {t : Int} : may P [1] L t ↔ ∀ p ∈ P, p.1 ≤ (L.length : Int) → back L p.1 + p.2 ≤ t := by
  unfold may
  simp [opn_one]
/-- the greatest number of asks in m moments (for limits that are some) -/
def mst (P : Lim) (m : Nat) : Nat := ((soon P [1] (6 * m + 1) [] 0).filter fun x => decide (x < (m : Int))).length
theorem soon_snoc' (P : Lim) (C : List Int) (j : Nat) (L : List Int) (s : Int) : soon P C (j + 1) L s = soon P C j L s ++ [nxt P C (L ++ soon P C j L s) s] := by
  rw [soon_add]
  simp [soon]
theorem soon_at {P : Lim} {C A : List Int} {s : Int} {K i : Nat} (hK : i < K) : (soon P C K A s).getD i 0 = nxt P C (A ++ soon P C i A s) s := by
  have h1 := soon_snoc' P C i A s
  have h2 : (soon P C K A s).take (i + 1) = soon P C (i + 1) A s := soon_take P C hK A s
  have h3 : ((soon P C K A s).take (i + 1)).getD i 0 = (soon P C K A s).getD i 0 := by
    simp [List.getD_eq_getElem?_getD]
  rw [← h3, h2, h1]
  have := soon_length P C i A s
  simp [List.getD_eq_getElem?_getD, this]
/-- K asks take W moments -/
theorem soon_step {P : Lim} {C : List Int} {s : Int} {n i : Nat} {p : Int × Int} (hC : okC C) (hp : p ∈ P) (h1 : 1 ≤ p.1) (hi : p.1.toNat ≤ i) (hn : i < n) : (soon P C n [] s).getD (i - p.1.toNat) 0 + p.2 ≤ (soon P C n [] s).getD i 0 := by
  have e := soon_at (P := P) (C := C) (A := []) (s := s) hn
  rw [List.nil_append] at e
  have m := (nxt_may (P := P) (L := soon P C i [] s) (s := s) hC).2 p hp (by rw [soon_length]; omega)
  rw [e]
  have e2 : back (soon P C i [] s) p.1 = (soon P C n [] s).getD (i - p.1.toNat) 0 := by
    unfold back
    rw [soon_length, ← soon_take P C (Nat.le_of_lt hn) [] s]
    simp only [List.getD_eq_getElem?_getD]
    rw [List.getElem?_take_of_lt (by omega)]
  omega
theorem soon_up' {P : Lim} {C : List Int} {s : Int} {n : Nat} : up (soon P C n [] s) := by
  have := soon_up (P := P) (C := C) n (L := []) (s := s) List.Pairwise.nil
  simpa using this
theorem up_get {L : List Int} (h : up L) {i j : Nat} (hij : i ≤ j) (hj : j < L.length) : L.getD i 0 ≤ L.getD j 0 := by
  rw [List.getD_eq_getElem?_getD, List.getD_eq_getElem?_getD, List.getElem?_eq_getElem hj, List.getElem?_eq_getElem (by omega)]
  simp only [Option.getD_some]
  by_cases e : i = j
  · subst e; exact Int.le_refl _
  · exact List.pairwise_iff_getElem.mp h i j (by omega) hj (by omega)
/-- they grow: behind 6 k asks k moments are gone -/
theorem soon_grow {P : Lim} {C : List Int} (hC : okC C) (hP : okP P 6 12) (hne : P ≠ []) {s : Int} : ∀ (k n : Nat), 6 * k < n → s + k ≤ (soon P C n [] s).getD (6 * k) 0 := by
  intro k
  induction k with
  | zero =>
    intro n hn
    have : (soon P C n [] s).getD 0 0 ∈ soon P C n [] s := by
      rw [List.getD_eq_getElem?_getD, List.getElem?_eq_getElem (by rw [soon_length]; omega)]
      exact List.getElem_mem _
    have := soon_since P C n [] s _ this
    simpa using this
  | succ k ih =>
    intro n hn
    obtain ⟨p, P', rfl⟩ : ∃ p P', P = p :: P' := by cases P with | nil => exact absurd rfl hne | cons p P' => exact ⟨p, P', rfl⟩
    have hp := hP p (List.mem_cons_self ..)
    have h1 := soon_step (P := p :: P') (C := C) (s := s) (n := n) (i := 6 * (k + 1)) (p := p) hC (List.mem_cons_self ..) hp.1 (by omega) hn
    have h2 := up_get (soon_up' (P := p :: P') (C := C) (s := s) (n := n)) (i := 6 * k) (j := 6 * (k + 1) - p.1.toNat) (by omega) (by rw [soon_length]; omega)
    have h3 := ih n (by omega)
    omega
/-- a row that ascends is cut in two by a bound -/
theorem up_split {L : List Int} (h : up L) (b : Int) : L = (L.filter fun x => decide (x < b)) ++ L.filter fun x => !decide (x < b) := by
  induction L with
  | nil => rfl
  | cons x L ih =>
    unfold up at h
    rw [List.pairwise_cons] at h
    by_cases hx : x < b
    · rw [List.filter_cons_of_pos (by simpa using hx), List.filter_cons_of_neg (by simpa using hx), List.cons_append, ← ih h.2]
    · have e : L.filter (fun x => decide (x < b)) = [] := by
        rw [List.filter_eq_nil_iff]
        intro y hy
        have := h.1 y hy
        simp; omega
      have e2 : L.filter (fun x => !decide (x < b)) = L := by
        rw [List.filter_eq_self]
        intro y hy
        have := h.1 y hy
        simp; omega
      rw [List.filter_cons_of_neg (by simpa using hx), List.filter_cons_of_pos (by simpa using hx), e, e2]
      rfl
theorem mst_eq {P : Lim} (hP : okP P 6 12) (hne : P ≠ []) {m j n : Nat} (hn : n = 6 * m + 1 ∨ 6 * m + 1 ≤ n) (h1 : ∀ x ∈ soon P [1] j [] 0, x < (m : Int)) (h2 : (m : Int) ≤ nxt P [1] (soon P [1] j [] 0) 0) : ((soon P [1] n [] 0).filter fun x => decide (x < (m : Int))).length = j := by
  have hn' : 6 * m + 1 ≤ n := by omega
  have hj : j ≤ 6 * m := by
    apply Decidable.byContradiction
    intro z
    have h3 := soon_grow okC_one hP hne (s := 0) m j (by omega)
    have : (soon P [1] j [] 0).getD (6 * m) 0 ∈ soon P [1] j [] 0 := by
      rw [List.getD_eq_getElem?_getD, List.getElem?_eq_getElem (by rw [soon_length]; omega)]
      exact List.getElem_mem _
    have := h1 _ this
    omega
  obtain ⟨k, rfl⟩ : ∃ k, n = j + (k + 1) := ⟨n - j - 1, by omega⟩
  rw [soon_add, List.nil_append, List.filter_append, List.length_append]
  have e1 : (soon P [1] j [] 0).filter (fun x => decide (x < (m : Int))) = soon P [1] j [] 0 := by
    rw [List.filter_eq_self]
    intro x hx
    simpa using h1 x hx
  have e2 : (soon P [1] (k + 1) (soon P [1] j [] 0) 0).filter (fun x => decide (x < (m : Int))) = [] := by
    rw [List.filter_eq_nil_iff]
    intro x hx
    have hu := soon_up (P := P) (C := [1]) (k + 1) (L := soon P [1] j [] 0) (s := 0) soon_up'
    unfold up at hu
    rw [List.pairwise_append] at hu
    have hu2 := hu.2.1
    simp only [soon] at hx hu2
    rw [List.pairwise_cons] at hu2
    rw [List.mem_cons] at hx
    rcases hx with rfl | hx
    · simp; omega
    · have := hu2.1 x hx
      simp; omega
  rw [e1, e2, soon_length]
  rfl
theorem low_shift (P : Lim) (L : List Int) (s d : Int) (hp : ∀ p ∈ P, 1 ≤ p.1) : low P (L.map (· + d)) (s + d) = low P L s + d := by
  apply Int.le_antisymm
  · refine low_le.mpr ⟨?_, ?_, ?_⟩
    · have := (low_le.mp (Int.le_refl (low P L s))).1; omega
    · intro x hx
      rw [List.getLast?_map] at hx
      obtain ⟨y, hy, rfl⟩ := Option.map_eq_some_iff.mp (Option.mem_def.mp hx)
      have := (low_le.mp (Int.le_refl (low P L s))).2.1 y hy
      omega
    · intro p hm hk
      rw [List.length_map] at hk
      have h1 := hp p hm
      have := (low_le.mp (Int.le_refl (low P L s))).2.2 p hm hk
      have e : back (L.map (· + d)) p.1 = back L p.1 + d := by
        unfold back
        rw [List.length_map, List.getD_eq_getElem?_getD, List.getD_eq_getElem?_getD, List.getElem?_map, List.getElem?_eq_getElem (by omega)]
        rfl
      omega
  · have : low P L s ≤ low P (L.map (· + d)) (s + d) - d := by
      have h0 := low_le.mp (Int.le_refl (low P (L.map (· + d)) (s + d)))
      refine low_le.mpr ⟨by have := h0.1; omega, fun x hx => ?_, fun p hm hk => ?_⟩
      · have := h0.2.1 (x + d) (by rw [List.getLast?_map, Option.mem_def.mp hx]; rfl)
        omega
      · have h1 := hp p hm
        have := h0.2.2 p hm (by rw [List.length_map]; exact hk)
        have e : back (L.map (· + d)) p.1 = back L p.1 + d := by
          unfold back
          rw [List.length_map, List.getD_eq_getElem?_getD, List.getD_eq_getElem?_getD, List.getElem?_map, List.getElem?_eq_getElem (by omega)]
          rfl
        omega
    omega
theorem soon_shift {P : Lim} (hp : ∀ p ∈ P, 1 ≤ p.1) (n : Nat) (L : List Int) (s d : Int) : soon P [1] n (L.map (· + d)) (s + d) = (soon P [1] n L s).map (· + d) := by
  induction n generalizing L with
  | zero => rfl
  | succ n ih =>
    simp only [soon, List.map_cons]
    rw [nxt_one, nxt_one, low_shift P L s d hp]
    have := ih (L ++ [low P L s])
    rw [List.map_append] at this
    rw [← this]
    rfl
theorem soon_shift0 {P : Lim} (hp : ∀ p ∈ P, 1 ≤ p.1) (n : Nat) (s : Int) : soon P [1] n [] s = (soon P [1] n [] 0).map (· + s) := by
  have := soon_shift hp n [] 0 s
  simpa using this
theorem ge_soon {P : Lim} {M : List Int} {a : Int} (hu : up M) (hm : pol P [1] M) (ha : ∀ x ∈ M, a ≤ x) : ∀ j, j ≤ M.length → ge (soon P [1] j [] a) (M.take j) := by
  intro j
  induction j with
  | zero => intro _; simpa [soon] using ge.refl []
  | succ j ih =>
    intro hj
    rw [soon_snoc', List.nil_append, ← List.take_append_getElem (show j < M.length by omega)]
    refine (ih (by omega)).snoc ?_
    have h1 := hm j (by omega)
    have e : M.getD j 0 = M[j] := by rw [List.getD_eq_getElem?_getD, List.getElem?_eq_getElem (by omega)]; rfl
    rw [e] at h1
    refine nxt_mono (ih (by omega)) (ha _ (List.getElem_mem _)) ?_ h1
    intro x hx
    rw [List.getLast?_eq_getElem?, Option.mem_def, List.length_take, Nat.min_eq_left (by omega)] at hx
    by_cases hj0 : j = 0
    · subst hj0; simp at hx
    · rw [List.getElem?_take_of_lt (by omega), List.getElem?_eq_getElem (by omega)] at hx
      cases hx
      exact List.pairwise_iff_getElem.mp hu (j - 1) j (by omega) (by omega) (by omega)
/-- as many asks as the greedy ones at most -/
theorem len_mst {P : Lim} (hP : okP P 6 12) (hne : P ≠ []) {M : List Int} {a : Int} {m : Nat} (hu : up M) (hm : pol P [1] M) (ha : ∀ x ∈ M, a ≤ x ∧ x < a + m) : M.length ≤ mst P m := by
  have h1 := ge_soon hu hm (fun x hx => (ha x hx).1) M.length (Nat.le_refl _)
  rw [List.take_length] at h1
  have hlt : ∀ x ∈ soon P [1] M.length [] 0, x < (m : Int) := by
    intro x hx
    obtain ⟨i, hi, rfl⟩ := List.mem_iff_getElem.mp hx
    have h2 := h1.2 i
    rw [soon_shift0 (fun p hp => (hP p hp).1)] at h2
    rw [soon_length] at hi
    rw [List.getD_eq_getElem?_getD, List.getD_eq_getElem?_getD, List.getElem?_map, List.getElem?_eq_getElem (by rw [soon_length]; exact hi), List.getElem?_eq_getElem hi] at h2
    simp only [Option.map_some, Option.getD_some] at h2
    have := ha M[i] (List.getElem_mem _)
    omega
  have hlen : M.length ≤ 6 * m + 1 := by
    apply Decidable.byContradiction
    intro z
    have h3 := soon_grow okC_one hP hne (s := 0) m M.length (by omega)
    have : (soon P [1] M.length [] 0).getD (6 * m) 0 ∈ soon P [1] M.length [] 0 := by
      rw [List.getD_eq_getElem?_getD, List.getElem?_eq_getElem (by rw [soon_length]; omega)]
      exact List.getElem_mem _
    have := hlt _ this
    omega
  unfold mst
  have e : soon P [1] M.length [] 0 = ((soon P [1] (6 * m + 1) [] 0).take M.length) := (soon_take P [1] hlen [] 0).symm
  have e2 : (soon P [1] M.length [] 0).filter (fun x => decide (x < (m : Int))) = soon P [1] M.length [] 0 := by
    rw [List.filter_eq_self]; intro x hx; simpa using hlt x hx
  have h4 : ((soon P [1] M.length [] 0).filter fun x => decide (x < (m : Int))).length ≤ ((soon P [1] (6 * m + 1) [] 0).filter fun x => decide (x < (m : Int))).length := by
    rw [e]
    exact ((List.take_sublist _ _).filter _).length_le
  rw [e2, soon_length] at h4
  exact h4
theorem pol_back {P : Lim} {A B : List Int} (hp : ∀ p ∈ P, 1 ≤ p.1) (h : pol P [1] (A ++ B)) : pol P [1] B := by
  intro i hi
  have h1 := h (A.length + i) (by rw [List.length_append]; omega)
  rw [may_one] at h1 ⊢
  intro p hm hk
  have h0 := hp p hm
  rw [List.length_take, Nat.min_eq_left (by omega)] at hk
  have h2 := h1 p hm (by rw [List.length_take, List.length_append]; omega)
  have e1 : (A ++ B).getD (A.length + i) 0 = B.getD i 0 := by
    rw [List.getD_eq_getElem?_getD, List.getD_eq_getElem?_getD, List.getElem?_append_right (by omega)]
    congr 2; omega
  have e2 : back ((A ++ B).take (A.length + i)) p.1 = back (B.take i) p.1 := by
    unfold back
    rw [List.length_take, List.length_take, List.length_append, Nat.min_eq_left (by omega), Nat.min_eq_left (by omega)]
    rw [List.getD_eq_getElem?_getD, List.getD_eq_getElem?_getD, List.getElem?_take_of_lt (by omega), List.getElem?_take_of_lt (by omega), List.getElem?_append_right (by omega)]
    congr 2; omega
  rw [e1, e2] at h2
  exact h2
theorem pol_front {P : Lim} {C A B : List Int} (h : pol P C (A ++ B)) : pol P C A := by
  intro i hi
  have := h i (by rw [List.length_append]; omega)
  rw [List.take_append_of_le_length (by omega)] at this
  rw [List.getD_eq_getElem?_getD, List.getElem?_append_left hi, ← List.getD_eq_getElem?_getD] at this
  exact this
/-- in any m moments -/
theorem win_mst {P : Lim} (hP : okP P 6 12) (hne : P ≠ []) {L : List Int} (hu : up L) (hm : pol P [1] L) (a : Int) (m : Nat) : (L.filter fun x => decide (a ≤ x) && decide (x < a + m)).length ≤ mst P m := by
  have e1 := up_split hu a
  have u1 : up (L.filter fun x => !decide (x < a)) := hu.sublist List.filter_sublist
  have e2 := up_split u1 (a + m)
  have p1 : pol P [1] (L.filter fun x => !decide (x < a)) := pol_back (fun p hp => (hP p hp).1) (A := L.filter fun x => decide (x < a)) (by rw [← e1]; exact hm)
  rw [e2] at p1
  have p2 := pol_front p1
  have e3 : (L.filter fun x => decide (a ≤ x) && decide (x < a + m)) = ((L.filter fun x => !decide (x < a)).filter fun x => decide (x < a + m)) := by
    rw [List.filter_filter]
    apply List.filter_congr
    intro x _
    by_cases h1 : a ≤ x <;> by_cases h2 : x < a + m <;> simp [h1, h2] <;> omega
  rw [e3]
  refine len_mst hP hne (u1.sublist List.filter_sublist) p2 (a := a) ?_
  intro x hx
  rw [List.mem_filter, List.mem_filter] at hx
  simp at hx
  omega
end Pol
set_option maxRecDepth 100000
set_option maxHeartbeats 0
namespace T
open PySem PySem.Spec Vm
abbrev i_is_whole : Nat := 0
abbrev i_is_between : Nat := 1
abbrev i_is_from : Nat := 2
abbrev i_is_tuple_up_to : Nat := 3
abbrev i_is_limit : Nat := 4
abbrev i_are_limits : Nat := 5
abbrev i_are_hours : Nat := 6
abbrev i_is_rules_pair : Nat := 7
abbrev i_is_open_at : Nat := 8
abbrev i_is_crowded : Nat := 9
abbrev i_first_wrong_by : Nat := 10
abbrev i_is_polite_by : Nat := 11
abbrev i_next_ask : Nat := 12
abbrev i_soonest_by : Nat := 13
abbrev i_most_from_by : Nat := 14
abbrev i_most_by : Nat := 15
abbrev i_tidied_by : Nat := 16
abbrev i_tidied_hours_by : Nat := 17
abbrev i_check_number : Nat := 18
abbrev i_check_moment : Nat := 19
abbrev i_check_limits : Nat := 20
abbrev i_check_hours : Nat := 21
abbrev i_are_some_rules : Nat := 22
abbrev i_check_rules : Nat := 23
abbrev i_check_asks : Nat := 24
abbrev i_check_polite : Nat := 25
abbrev i_is_polite : Nat := 26
abbrev i_soonest : Nat := 27
abbrev i_most_table : Nat := 28
abbrev i_tidied : Nat := 29
abbrev i_tidied_hours : Nat := 30
abbrev i_joined : Nat := 31
abbrev i_is_up_to : Nat := 32
abbrev i_loose_row_by : Nat := 33
abbrev i_is_stricter_by : Nat := 34
abbrev i_parting_row_by : Nat := 35
abbrev i_are_alike_limits : Nat := 36
abbrev i_are_alike_rules : Nat := 37
abbrev i__law_well : Nat := 38
abbrev i__law_pick : Nat := 39
abbrev i__law_one : Nat := 40
abbrev i__law_open : Nat := 41
abbrev i__law_wrong_at : Nat := 42
abbrev i__law_soonest : Nat := 43
abbrev i__law_some_limits : Nat := 44
abbrev i__law_some_hours : Nat := 45
abbrev i__law_some_row : Nat := 46
abbrev i__law_seven : Nat := 47
abbrev i__law_tidy : Nat := 48
abbrev i__law_other_limits : Nat := 49
abbrev i__law_rows : Nat := 50
abbrev i__law_joined : Nat := 51
abbrev i__law_hours_right : Nat := 52
abbrev i__law_ladder_right : Nat := 53
abbrev i__law_right : Nat := 54
abbrev i_law : Nat := 55
/-- is_whole(value): slots 0=value -/
def ir_is_whole : List Sm := [.ret (.and (.op (.isI "int") [(.v 0)]) (.op .not [(.op (.isI "bool") [(.v 0)])]))]
/-- is_between(value, low, high): slots 0=value 1=low 2=high -/
def ir_is_between : List Sm := [.ret (.and (.call i_is_whole [(.v 0)]) (.ch .le .le (.v 1) (.v 0) (.v 2)))]
/-- is_from(value, low): slots 0=value 1=low -/
def ir_is_from : List Sm := [.ret (.and (.call i_is_whole [(.v 0)]) (.op .ge [(.v 0), (.v 1)]))]
/-- is_tuple_up_to(value, low, high): slots 0=value 1=low 2=high -/
def ir_is_tuple_up_to : List Sm := [.ret (.and (.op (.isI "tuple") [(.v 0)]) (.ch .le .le (.v 1) (.op .len [(.v 0)]) (.v 2)))]
/-- is_limit(value): slots 0=value -/
def ir_is_limit : List Sm := [.ifs (.op .not [(.call i_is_tuple_up_to [(.v 0), (.k (.int 2)), (.k (.int 2))])]) [.ret (.k (.bool false))] [], .ret (.and (.call i_is_between [(.op .item [(.v 0), (.k (.int 0))]), (.k (.int 1)), (.k (.int 6))]) (.call i_is_between [(.op .item [(.v 0), (.k (.int 1))]), (.k (.int 1)), (.k (.int 12))]))]
/-- are_limits(value): slots 0=value 1=pair -/
def ir_are_limits : List Sm := [.ret (.and (.call i_is_tuple_up_to [(.v 0), (.k (.int 0)), (.k (.int 4))]) (.op .all [(.lc (.name 1) (.seq (.v 0)) [] (.call i_is_limit [(.v 1)]) [1])]))]
/-- are_hours(value): slots 0=value 1=hour -/
def ir_are_hours : List Sm := [.ifs (.or (.op .not [(.call i_is_tuple_up_to [(.v 0), (.k (.int 1)), (.k (.int 12))])]) (.op .not [(.op .all [(.lc (.name 1) (.seq (.v 0)) [] (.call i_is_between [(.v 1), (.k (.int 0)), (.k (.int 1))]) [1])])])) [.ret (.k (.bool false))] [], .ret (.op .mem [(.k (.int 1)), (.v 0)])]
/-- is_rules_pair(limits, hours): slots 0=limits 1=hours -/
def ir_is_rules_pair : List Sm := [.ret (.and (.call i_are_limits [(.v 0)]) (.call i_are_hours [(.v 1)]))]
/-- is_open_at(hours, moment): slots 0=hours 1=moment -/
def ir_is_open_at : List Sm := [.ret (.op .eq [(.op .item [(.v 0), (.op .mod [(.v 1), (.op .len [(.v 0)])])]), (.k (.int 1))])]
/-- is_crowded(limits, asks, index): slots 0=limits 1=asks 2=index 3=many 4=size -/
def ir_is_crowded : List Sm := [.ret (.op .any [(.lc (.tup [(.name 3), (.name 4)]) (.seq (.v 0)) [] (.and (.op .ge [(.v 2), (.v 3)]) (.op .lt [(.op .item [(.v 1), (.v 2)]), (.op .add [(.op .item [(.v 1), (.op .sub [(.v 2), (.v 3)])]), (.v 4)])])) [3, 4])])]
/-- first_wrong_by(rules, asks): slots 0=rules 1=asks 2=limits 3=hours 4=index 5=moment -/
def ir_first_wrong_by : List Sm := [.asg (.tup [(.name 2), (.name 3)]) (.v 0), .for (.tup [(.name 4), (.name 5)]) (.enum (.v 1)) [.ifs (.or (.op .not [(.call i_is_open_at [(.v 3), (.v 5)])]) (.call i_is_crowded [(.v 2), (.v 1), (.v 4)])) [.ret (.v 4)] []], .ret (.k .none)]
/-- is_polite_by(rules, asks): slots 0=rules 1=asks -/
def ir_is_polite_by : List Sm := [.ret (.op .isn [(.call i_first_wrong_by [(.v 0), (.v 1)])])]
/-- next_ask(rules, asks, since): slots 0=rules 1=asks 2=since 3=bounds 4=found 5=limits 6=hours 7=many 8=size -/
def ir_next_ask : List Sm := [.asg (.tup [(.name 5), (.name 6)]) (.v 0), .asg (.name 3) (.lc (.tup [(.name 7), (.name 8)]) (.seq (.v 5)) [(.op .ge [(.op .len [(.v 1)]), (.v 7)])] (.op .add [(.op .item [(.v 1), (.op .neg [(.v 7)])]), (.v 8)]) [7, 8]), .asg (.name 4) (.op .max1 [(.op .add [(.op .add [(.lst [(.v 2)]), (.op (.slice true false) [(.v 1), (.op .neg [(.k (.int 1))])])]), (.v 3)])]), .whl (.op .not [(.call i_is_open_at [(.v 6), (.v 4)])]) [.aug 4 .add (.k (.int 1))], .ret (.v 4)]
/-- soonest_by(rules, asks, many, since): slots 0=rules 1=asks 2=many 3=since 4=told 5=_ -/
def ir_soonest_by : List Sm := [.asg (.name 4) (.op .list [(.v 1)]), .for (.name 5) (.rng [(.v 2)]) [.ex (.mu .append (.v 4) [(.call i_next_ask [(.v 0), (.v 4), (.v 3)])])], .ret (.op .tuple [(.op (.slice true false) [(.v 4), (.op .len [(.v 1)])])])]
/-- most_from_by(rules, moment, moments): slots 0=rules 1=moment 2=moments 3=told 4=found 5=limits 6=hours 7=k -/
def ir_most_from_by : List Sm := [.asg (.tup [(.name 5), (.name 6)]) (.v 0), .ifs (.op .eq [(.v 5), (.tup [])]) [.ret (.ife (.op .any [(.lc (.name 7) (.rng [(.v 2)]) [] (.call i_is_open_at [(.v 6), (.op .add [(.v 1), (.v 7)])]) [7])]) (.k .none) (.k (.int 0)))] [], .asg (.name 3) (.lst []), .asg (.name 4) (.call i_next_ask [(.v 0), (.v 3), (.v 1)]), .whl (.op .lt [(.v 4), (.op .add [(.v 1), (.v 2)])]) [.ex (.mu .append (.v 3) [(.v 4)]), .asg (.name 4) (.call i_next_ask [(.v 0), (.v 3), (.v 1)])], .ret (.op .len [(.v 3)])]
/-- most_by(limits, moments): slots 0=limits 1=moments -/
def ir_most_by : List Sm := [.ret (.call i_most_from_by [(.tup [(.v 0), (.k (.tuple [.int 1]))]), (.k (.int 0)), (.v 1)])]
/-- tidied_by(limits): slots 0=limits 1=asks 2=found 3=many -/
def ir_tidied_by : List Sm := [.asg (.name 1) (.call i_soonest_by [(.tup [(.v 0), (.k (.tuple [.int 1]))]), (.tup []), (.op .add [(.k (.int 6)), (.k (.int 1))]), (.k (.int 0))]), .asg (.name 2) (.tup []), .for (.name 3) (.rng [(.k (.int 1)), (.op .add [(.k (.int 6)), (.k (.int 1))])]) [.ifs (.op .gt [(.op .item [(.v 1), (.v 3)]), (.op .item [(.call i_soonest_by [(.tup [(.v 2), (.k (.tuple [.int 1]))]), (.tup []), (.op .add [(.v 3), (.k (.int 1))]), (.k (.int 0))]), (.v 3)])]) [.asg (.name 2) (.tups [true, false] [(.v 2), (.tup [(.v 3), (.op .item [(.v 1), (.v 3)])])])] []], .ret (.v 2)]
/-- tidied_hours_by(hours): slots 0=hours 1=size -/
def ir_tidied_hours_by : List Sm := [.for (.name 1) (.rng [(.k (.int 1)), (.op .len [(.v 0)])]) [.ifs (.and (.op .eq [(.op .mod [(.op .len [(.v 0)]), (.v 1)]), (.k (.int 0))]) (.op .eq [(.op .mul [(.op (.slice false true) [(.v 0), (.v 1)]), (.op .fdiv [(.op .len [(.v 0)]), (.v 1)])]), (.v 0)])) [.ret (.op (.slice false true) [(.v 0), (.v 1)])] []], .ret (.v 0)]
/-- check_number(value, low, high): slots 0=value 1=low 2=high -/
def ir_check_number : List Sm := [.ifs (.op .not [(.call i_is_between [(.v 0), (.v 1), (.v 2)])]) [.never] []]
/-- check_moment(value): slots 0=value -/
def ir_check_moment : List Sm := [.ifs (.op .not [(.call i_is_from [(.v 0), (.k (.int 0))])]) [.never] []]
/-- check_limits(value): slots 0=value -/
def ir_check_limits : List Sm := [.ifs (.op .not [(.call i_are_limits [(.v 0)])]) [.never] []]
/-- check_hours(value): slots 0=value -/
def ir_check_hours : List Sm := [.ifs (.op .not [(.call i_are_hours [(.v 0)])]) [.never] []]
/-- are_some_rules(value): slots 0=value -/
def ir_are_some_rules : List Sm := [.ret (.and (.call i_is_tuple_up_to [(.v 0), (.k (.int 2)), (.k (.int 2))]) (.call i_is_rules_pair [(.op .item [(.v 0), (.k (.int 0))]), (.op .item [(.v 0), (.k (.int 1))])]))]
/-- check_rules(value): slots 0=value -/
def ir_check_rules : List Sm := [.ifs (.op .not [(.call i_are_some_rules [(.v 0)])]) [.never] []]
/-- check_asks(value): slots 0=value 1=index 2=moment -/
def ir_check_asks : List Sm := [.ifs (.op .not [(.call i_is_tuple_up_to [(.v 0), (.k (.int 0)), (.k (.int 200))])]) [.never] [], .for (.tup [(.name 1), (.name 2)]) (.enum (.v 0)) [.ifs (.or (.op .not [(.call i_is_from [(.v 2), (.k (.int 0))])]) (.and (.op .gt [(.v 1), (.k (.int 0))]) (.op .lt [(.v 2), (.op .item [(.v 0), (.op .sub [(.v 1), (.k (.int 1))])])]))) [.never] []]]
/-- check_polite(rules, asks): slots 0=rules 1=asks 2=wrong -/
def ir_check_polite : List Sm := [.asg (.name 2) (.call i_first_wrong_by [(.v 0), (.v 1)]), .ifs (.op .isnn [(.v 2)]) [.never] []]
/-- is_polite(rules, asks): slots 0=rules 1=asks -/
def ir_is_polite : List Sm := [.ex (.call i_check_rules [(.v 0)]), .ex (.call i_check_asks [(.v 1)]), .ret (.call i_is_polite_by [(.v 0), (.v 1)])]
/-- soonest(rules, asks, many, since): slots 0=rules 1=asks 2=many 3=since -/
def ir_soonest : List Sm := [.ex (.call i_check_rules [(.v 0)]), .ex (.call i_check_asks [(.v 1)]), .ex (.call i_check_number [(.v 2), (.k (.int 0)), (.k (.int 100))]), .ex (.call i_check_moment [(.v 3)]), .ex (.call i_check_polite [(.v 0), (.v 1)]), .ret (.call i_soonest_by [(.v 0), (.v 1), (.v 2), (.v 3)])]
/-- most_table(limits): slots 0=limits 1=moments -/
def ir_most_table : List Sm := [.ex (.call i_check_limits [(.v 0)]), .ret (.op .tuple [(.lc (.name 1) (.rng [(.k (.int 1)), (.op .add [(.k (.int 12)), (.k (.int 1))])]) [] (.call i_most_by [(.v 0), (.v 1)]) [1])])]
/-- tidied(limits): slots 0=limits -/
def ir_tidied : List Sm := [.ex (.call i_check_limits [(.v 0)]), .ret (.call i_tidied_by [(.v 0)])]
/-- tidied_hours(hours): slots 0=hours -/
def ir_tidied_hours : List Sm := [.ex (.call i_check_hours [(.v 0)]), .ret (.call i_tidied_hours_by [(.v 0)])]
/-- joined(limits, other): slots 0=limits 1=other 2=found -/
def ir_joined : List Sm := [.ex (.call i_check_limits [(.v 0)]), .ex (.call i_check_limits [(.v 1)]), .asg (.name 2) (.call i_tidied_by [(.op .add [(.v 0), (.v 1)])]), .ifs (.op .gt [(.op .len [(.v 2)]), (.k (.int 4))]) [.raise "TooMany"] [], .ret (.v 2)]
/-- is_up_to(many, bound): slots 0=many 1=bound -/
def ir_is_up_to : List Sm := [.ret (.and (.op .isnn [(.v 0)]) (.op .le [(.v 0), (.v 1)]))]
/-- loose_row_by(rules, other): slots 0=rules 1=other 2=moment 3=hours 4=others 5=many 6=size -/
def ir_loose_row_by : List Sm := [.par [3, 4] [(.op .item [(.v 0), (.k (.int 1))]), (.op .item [(.v 1), (.k (.int 1))])], .for (.name 2) (.rng [(.op .lcm [(.op .len [(.v 3)]), (.op .len [(.v 4)])])]) [.ifs (.and (.call i_is_open_at [(.v 3), (.v 2)]) (.op .not [(.call i_is_open_at [(.v 4), (.v 2)])])) [.ret (.tup [(.v 2)])] []], .for (.tup [(.name 5), (.name 6)]) (.seq (.op .item [(.v 1), (.k (.int 0))])) [.for (.name 2) (.rng [(.op .len [(.v 3)])]) [.ifs (.op .not [(.call i_is_up_to [(.call i_most_from_by [(.v 0), (.v 2), (.v 6)]), (.v 5)])]) [.ret (.call i_soonest_by [(.v 0), (.tup []), (.op .add [(.v 5), (.k (.int 1))]), (.v 2)])] []]], .ret (.k .none)]
/-- is_stricter_by(limits, other): slots 0=limits 1=other -/
def ir_is_stricter_by : List Sm := [.ret (.op .isn [(.call i_loose_row_by [(.tup [(.v 0), (.k (.tuple [.int 1]))]), (.tup [(.v 1), (.k (.tuple [.int 1]))])])])]
/-- parting_row_by(rules, other): slots 0=rules 1=other 2=found -/
def ir_parting_row_by : List Sm := [.asg (.name 2) (.call i_loose_row_by [(.v 0), (.v 1)]), .ret (.ife (.op .isn [(.v 2)]) (.call i_loose_row_by [(.v 1), (.v 0)]) (.v 2))]
/-- are_alike_limits(limits, other): slots 0=limits 1=other -/
def ir_are_alike_limits : List Sm := [.ex (.call i_check_limits [(.v 0)]), .ex (.call i_check_limits [(.v 1)]), .ret (.and (.call i_is_stricter_by [(.v 0), (.v 1)]) (.call i_is_stricter_by [(.v 1), (.v 0)]))]
/-- are_alike_rules(rules, other): slots 0=rules 1=other -/
def ir_are_alike_rules : List Sm := [.ex (.call i_check_rules [(.v 0)]), .ex (.call i_check_rules [(.v 1)]), .ret (.op .isn [(.call i_parting_row_by [(.v 0), (.v 1)])])]
/-- _law_well(_law_script, _law_turn): slots 0=_law_script 1=_law_turn 2=_law_mixed 3=_law_each 4=_law_cell 5=_law_digits -/
def ir__law_well : List Sm := [.asg (.name 2) (.op .add [(.k (.int 179426549)), (.op .mul [(.k (.int 5003)), (.v 1)])]), .for (.name 3) (.seq (.op (.slice false true) [(.v 0), (.k (.int 9))])) [.asg (.name 2) (.op .mod [(.op .int [(.op .add [(.op .add [(.op .mul [(.v 2), (.k (.int 30011))]), (.op .mul [(.op .mod [(.op .int [(.v 3)]), (.k (.int 2038074743))]), (.k (.int 7001))])]), (.k (.int 13))])]), (.k (.int 2038074743))])], .asg (.name 4) (.ife (.op .lt [(.v 1), (.op .len [(.v 0)])]) (.op .int [(.op .item [(.v 0), (.v 1)])]) (.v 2)), .asg (.name 5) (.ife (.op .ge [(.op .abs [(.v 4)]), (.op .pow [(.k (.int 10)), (.k (.int 18))])]) (.op .abs [(.v 4)]) (.k (.int 0))), .asg (.name 2) (.op .mod [(.op .int [(.op .add [(.op .add [(.op .mul [(.v 2), (.k (.int 16807))]), (.op .mul [(.op .mod [(.op .int [(.v 4)]), (.k (.int 2038074743))]), (.k (.int 39373))])]), (.k (.int 29))])]), (.k (.int 2038074743))]), .ret (.lst [(.v 5), (.v 2), (.k (.int 0))])]
/-- _law_pick(_law_well_here, _law_top): slots 0=_law_well_here 1=_law_top 2=_law_digit -/
def ir__law_pick : List Sm := [.ifs (.op .gt [(.op .item [(.v 0), (.k (.int 0))]), (.k (.int 0))]) [.tsub (.v 0) (.k (.int 0)) 2 (.op .divmod [(.op .item [(.v 0), (.k (.int 0))]), (.v 1)]), .ret (.v 2)] [], .sub (.v 0) (.k (.int 2)) (.op .add [(.op .item [(.v 0), (.k (.int 2))]), (.k (.int 1))]), .sub (.v 0) (.k (.int 1)) (.op .mod [(.op .int [(.op .add [(.op .mul [(.op .item [(.v 0), (.k (.int 1))]), (.k (.int 48271))]), (.op .mul [(.k (.int 1013)), (.op .item [(.v 0), (.k (.int 2))])])])]), (.k (.int 2038074743))]), .ret (.op .mod [(.op .int [(.op .fdiv [(.op .item [(.v 0), (.k (.int 1))]), (.k (.int 23))])]), (.v 1)])]
/-- _law_one(_law_well_here, _law_some): slots 0=_law_well_here 1=_law_some -/
def ir__law_one : List Sm := [.ret (.op .item [(.v 1), (.call i__law_pick [(.v 0), (.op .len [(.v 1)])])])]
/-- _law_open(_law_clock, _law_time): slots 0=_law_clock 1=_law_time -/
def ir__law_open : List Sm := [.ret (.op .eq [(.op .item [(.v 0), (.op .mod [(.op .int [(.v 1)]), (.op .len [(.v 0)])])]), (.k (.int 1))])]
/-- _law_wrong_at(_law_pairs, _law_clock, _law_row): slots 0=_law_pairs 1=_law_clock 2=_law_row 3=_law_at 4=_law_time 5=_law_pair 6=_law_other -/
def ir__law_wrong_at : List Sm := [.for (.tup [(.name 3), (.name 4)]) (.enum (.v 2)) [.ifs (.op .not [(.call i__law_open [(.v 1), (.v 4)])]) [.ret (.v 3)] [], .for (.name 5) (.seq (.v 0)) [.ifs (.op .gt [(.op .len [(.lc (.name 6) (.seq (.op (.slice false true) [(.v 2), (.op .add [(.v 3), (.k (.int 1))])])) [(.op .gt [(.v 6), (.op .sub [(.v 4), (.op .item [(.v 5), (.k (.int 1))])])])] (.v 6) [6])]), (.op .item [(.v 5), (.k (.int 0))])]) [.ret (.v 3)] []]], .ret (.k .none)]
/-- _law_soonest(_law_pairs, _law_clock, _law_row, _law_number, _law_start): slots 0=_law_pairs 1=_law_clock 2=_law_row 3=_law_number 4=_law_start 5=_law_line 6=_law_turn 7=_law_time 8=_law_pair 9=_law_step -/
def ir__law_soonest : List Sm := [.asg (.name 5) (.op .list [(.v 2)]), .for (.name 6) (.rng [(.v 3)]) [.asg (.name 7) (.op .max1 [(.op .add [(.lst [(.v 4)]), (.op (.slice true false) [(.v 5), (.op .neg [(.k (.int 1))])])])]), .fork (.name 8) 0 [.ifs (.op .ge [(.op .len [(.v 5)]), (.op .item [(.v 8), (.k (.int 0))])]) [.asg (.name 7) (.op .max2 [(.v 7), (.op .add [(.op .item [(.v 5), (.op .sub [(.op .len [(.v 5)]), (.op .item [(.v 8), (.k (.int 0))])])]), (.op .item [(.v 8), (.k (.int 1))])])])] []], .for (.name 9) (.rng [(.op .len [(.v 1)])]) [.ifs (.op .not [(.call i__law_open [(.v 1), (.v 7)])]) [.asg (.name 7) (.op .add [(.v 7), (.k (.int 1))])] []], .ex (.mu .append (.v 5) [(.v 7)])], .ret (.op (.slice true false) [(.v 5), (.op .len [(.v 2)])])]
/-- _law_some_limits(_law_well_here, _law_top, _law_width): slots 0=_law_well_here 1=_law_top 2=_law_width 3=_law_number 4=_law_turn -/
def ir__law_some_limits : List Sm := [.asg (.name 3) (.call i__law_one [(.v 0), (.lst [(.k (.int 1)), (.k (.int 1)), (.k (.int 1)), (.k (.int 2)), (.k (.int 2)), (.k (.int 2)), (.k (.int 3)), (.k (.int 4)), (.k (.int 0))])]), .ret (.op .tuple [(.lc (.name 4) (.rng [(.v 3)]) [] (.tup [(.op .add [(.k (.int 1)), (.call i__law_pick [(.v 0), (.v 1)])]), (.op .add [(.k (.int 1)), (.call i__law_pick [(.v 0), (.v 2)])])]) [4])])]
/-- _law_some_hours(_law_well_here, _law_top): slots 0=_law_well_here 1=_law_top 2=_law_row 3=_law_turn -/
def ir__law_some_hours : List Sm := [.asg (.name 2) (.lc (.name 3) (.rng [(.op .add [(.k (.int 1)), (.call i__law_pick [(.v 0), (.v 1)])])]) [] (.call i__law_one [(.v 0), (.lst [(.k (.int 1)), (.k (.int 1)), (.k (.int 0))])]) [3]), .sub (.v 2) (.call i__law_pick [(.v 0), (.op .len [(.v 2)])]) (.k (.int 1)), .ret (.op .tuple [(.v 2)])]
/-- _law_some_row(_law_well_here, _law_pairs, _law_clock, _law_number, _law_top): slots 0=_law_well_here 1=_law_pairs 2=_law_clock 3=_law_number 4=_law_top 5=_law_line 6=_law_turn 7=_law_ahead -/
def ir__law_some_row : List Sm := [.asg (.name 5) (.lst []), .for (.name 6) (.rng [(.v 3)]) [.asg (.name 7) (.op .add [(.op .max1 [(.op .add [(.lst [(.k (.int 0))]), (.op (.slice true false) [(.v 5), (.op .neg [(.k (.int 1))])])])]), (.call i__law_one [(.v 0), (.lst [(.k (.int 0)), (.k (.int 0)), (.k (.int 0)), (.k (.int 1)), (.call i__law_pick [(.v 0), (.op .add [(.v 4), (.k (.int 1))])])])])]), .asg (.name 5) (.op .add [(.v 5), (.call i__law_soonest [(.v 1), (.v 2), (.v 5), (.k (.int 1)), (.v 7)])])], .ret (.op .tuple [(.v 5)])]
/-- _law_seven(_law_pairs): slots 0=_law_pairs -/
def ir__law_seven : List Sm := [.ret (.call i__law_soonest [(.v 0), (.tup [(.k (.int 1))]), (.tup []), (.k (.int 7)), (.k (.int 0))])]
/-- _law_tidy(_law_pairs): slots 0=_law_pairs 1=_law_k 2=_law_found 3=_law_seven_here -/
def ir__law_tidy : List Sm := [.par [2, 3] [(.lst []), (.call i__law_seven [(.v 0)])], .for (.name 1) (.rng [(.k (.int 1)), (.k (.int 7))]) [.ifs (.op .gt [(.op .item [(.v 3), (.v 1)]), (.op .item [(.call i__law_seven [(.v 2)]), (.v 1)])]) [.ex (.mu .append (.v 2) [(.tup [(.v 1), (.op .item [(.v 3), (.v 1)])])])] []], .ret (.op .tuple [(.v 2)])]
/-- _law_other_limits(_law_well_here, _law_pairs): slots 0=_law_well_here 1=_law_pairs 2=_law_way 3=_law_at 4=_law_seven_here 5=_law_k 6=_law_first 7=_law_wide -/
def ir__law_other_limits : List Sm := [.asg (.name 2) (.call i__law_pick [(.v 0), (.k (.int 5))]), .ifs (.or (.op .eq [(.v 2), (.k (.int 0))]) (.op .eq [(.v 1), (.tup [])])) [.ret (.op .rev [(.v 1)])] [], .par [4, 5] [(.call i__law_seven [(.v 1)]), (.op .add [(.k (.int 1)), (.call i__law_pick [(.v 0), (.k (.int 6))])])], .ifs (.and (.op .eq [(.v 2), (.k (.int 1))]) (.and (.op .lt [(.op .len [(.v 1)]), (.k (.int 4))]) (.op .gt [(.op .item [(.v 4), (.v 5)]), (.k (.int 0))]))) [.ret (.ife (.op .gt [(.op .item [(.v 4), (.v 5)]), (.k (.int 1))]) (.op .add [(.v 1), (.tup [(.tup [(.v 5), (.op .sub [(.op .min2 [(.k (.int 12)), (.op .item [(.v 4), (.v 5)])]), (.call i__law_pick [(.v 0), (.k (.int 2))])])])])]) (.op .add [(.v 1), (.tup [(.tup [(.v 5), (.k (.int 1))])])]))] [], .asg (.name 3) (.call i__law_pick [(.v 0), (.op .len [(.v 1)])]), .asg (.tup [(.name 6), (.name 7)]) (.op .item [(.v 1), (.v 3)]), .ifs (.op .eq [(.v 2), (.k (.int 2))]) [.ret (.op .add [(.op .add [(.op (.slice false true) [(.v 1), (.v 3)]), (.tup [(.tup [(.v 6), (.op .max2 [(.k (.int 1)), (.op .min2 [(.k (.int 12)), (.op .add [(.v 7), (.call i__law_one [(.v 0), (.lst [(.op .neg [(.k (.int 1))]), (.k (.int 1))])])])])])])])]), (.op (.slice true false) [(.v 1), (.op .add [(.v 3), (.k (.int 1))])])])] [], .ifs (.op .eq [(.v 2), (.k (.int 3))]) [.ret (.op .add [(.op (.slice false true) [(.v 1), (.v 3)]), (.op (.slice true false) [(.v 1), (.op .add [(.v 3), (.k (.int 1))])])])] [], .ret (.call i__law_some_limits [(.v 0), (.k (.int 6)), (.k (.int 12))])]
/-- _law_rows(_law_well_here, _law_pairs, _law_other): slots 0=_law_well_here 1=_law_pairs 2=_law_other 3=_law_listed 4=_law_turn 5=_law_row 6=_law_at -/
def ir__law_rows : List Sm := [.asg (.name 3) (.lst [(.op .tuple [(.call i__law_soonest [(.v 1), (.tup [(.k (.int 1))]), (.tup []), (.k (.int 8)), (.k (.int 0))])]), (.op .tuple [(.call i__law_soonest [(.v 2), (.tup [(.k (.int 1))]), (.tup []), (.k (.int 8)), (.k (.int 0))])])]), .for (.name 4) (.rng [(.k (.int 3))]) [.asg (.name 5) (.op .list [(.call i__law_some_row [(.v 0), (.call i__law_one [(.v 0), (.lst [(.v 1), (.v 2)])]), (.tup [(.k (.int 1))]), (.k (.int 7)), (.k (.int 4))])]), .asg (.name 6) (.call i__law_pick [(.v 0), (.op .len [(.v 5)])]), .sub (.v 5) (.v 6) (.op .max2 [(.k (.int 0)), (.op .add [(.op .item [(.v 5), (.v 6)]), (.call i__law_one [(.v 0), (.lst [(.op .neg [(.k (.int 1))]), (.k (.int 0)), (.k (.int 1))])])])]), .ex (.mu .append (.v 3) [(.op .tuple [(.op .sorted [(.v 5)])])])], .ret (.v 3)]
/-- _law_joined(_law_pairs, _law_other): slots 0=_law_pairs 1=_law_other -/
def ir__law_joined : List Sm := [.trys [.clr (.call i_joined [(.v 0), (.v 1)])] ([("TooMany" : Str)] : List Str) ([("TooMany" : Str)] : List Str) [.ret (.tup [(.k (.str "many"))])]]
/-- _law_hours_right(_law_well_here): slots 0=_law_well_here 1=_law_clock 2=_law_fit 3=_law_size 4=_law_time -/
def ir__law_hours_right : List Sm := [.asg (.name 1) (.call i__law_some_hours [(.v 0), (.call i__law_one [(.v 0), (.lst [(.k (.int 3)), (.k (.int 6)), (.k (.int 12))])])]), .asg (.name 1) (.ife (.op .lt [(.op .len [(.v 1)]), (.k (.int 7))]) (.op .mul [(.v 1), (.call i__law_one [(.v 0), (.lst [(.k (.int 1)), (.k (.int 2)), (.ife (.op .lt [(.op .len [(.v 1)]), (.k (.int 5))]) (.k (.int 3)) (.k (.int 1)))])])]) (.v 1)), .asg (.name 2) (.op .len [(.v 1)]), .for (.name 3) (.rng [(.op .sub [(.op .len [(.v 1)]), (.k (.int 1))]), (.k (.int 0)), (.op .neg [(.k (.int 1))])]) [.ifs (.op .eq [(.lc (.name 4) (.rng [(.op .mul [(.v 3), (.op .len [(.v 1)])])]) [(.op .ne [(.call i__law_open [(.v 1), (.v 4)]), (.call i__law_open [(.op (.slice false true) [(.v 1), (.v 3)]), (.v 4)])])] (.v 4) [4]), (.lst [])]) [.asg (.name 2) (.v 3)] []], .ifs (.op .ne [(.op .repr [(.call i_tidied_hours [(.v 1)])]), (.op .repr [(.op (.slice false true) [(.v 1), (.v 2)])])]) [.ret (.k (.bool false))] [], .ret (.op .eq [(.op .repr [(.call i_are_alike_rules [(.tup [(.tup [(.tup [(.k (.int 2)), (.k (.int 9))])]), (.v 1)]), (.tup [(.tup [(.tup [(.k (.int 2)), (.k (.int 9))]), (.tup [(.k (.int 6)), (.k (.int 1))])]), (.op (.slice false true) [(.v 1), (.v 2)])])])]), (.k (.str "True"))])]
/-- _law_ladder_right(_law_well_here): slots 0=_law_well_here 1=_law_ladder 2=_law_due 3=_law_at 4=_law_size 5=_law_one_here 6=_law_other 7=_law_k 8=_law_wide -/
def ir__law_ladder_right : List Sm := [.asg (.name 1) (.lc (.name 7) (.rng [(.k (.int 1)), (.k (.int 7))]) [] (.tup [(.v 7), (.op .sub [(.op .mul [(.k (.int 2)), (.v 7)]), (.call i__law_one [(.v 0), (.lst [(.k (.int 1)), (.k (.int 1)), (.k (.int 1)), (.k (.int 0)), (.k (.int 3))])])])]) [7]), .asg (.name 1) (.lc (.tup [(.name 7), (.name 8)]) (.seq (.v 1)) [] (.tup [(.v 7), (.op .max2 [(.k (.int 1)), (.v 8)])]) [7, 8]), .par [3, 4] [(.op .add [(.k (.int 1)), (.call i__law_pick [(.v 0), (.k (.int 3))])]), (.call i__law_one [(.v 0), (.lst [(.k (.int 6)), (.k (.int 6)), (.k (.int 5)), (.k (.int 4))])])], .par [5, 6] [(.op .tuple [(.op (.slice false true) [(.v 1), (.v 3)])]), (.op .tuple [(.op (.slice false true) [(.sl2 (.v 1) (.v 3) (.v 4)), (.k (.int 4))])])], .asg (.name 2) (.call i__law_tidy [(.op .add [(.v 5), (.v 6)])]), .ifs (.op .ne [(.op .repr [(.call i__law_joined [(.v 6), (.v 5)])]), (.op .repr [(.ife (.op .gt [(.op .len [(.v 2)]), (.k (.int 4))]) (.tup [(.k (.str "many"))]) (.v 2))])]) [.ret (.k (.bool false))] [], .ret (.op .eq [(.op .repr [(.call i_tidied [(.v 5)])]), (.op .repr [(.call i__law_tidy [(.v 5)])])])]
/-- _law_right(_law_well_here): slots 0=_law_well_here 1=_law_pairs 2=_law_other 3=_law_is_alike 4=_law_answers 5=_law_both 6=_law_row 7=_law_told 8=_law_due 9=_law_shared 10=_law_crews 11=_law_truths 12=_law_each -/
def ir__law_right : List Sm := [.asg (.name 1) (.call i__law_some_limits [(.v 0), (.k (.int 6)), (.k (.int 12))]), .asg (.name 2) (.call i__law_other_limits [(.v 0), (.v 1)]), .par [7, 8] [(.call i_tidied [(.v 1)]), (.call i__law_tidy [(.v 1)])], .ifs (.or (.op .ne [(.op .repr [(.v 7)]), (.op .repr [(.v 8)])]) (.or (.op .ne [(.op .repr [(.call i_tidied [(.v 2)])]), (.op .repr [(.call i__law_tidy [(.v 2)])])]) (.op .ne [(.op .repr [(.call i_tidied [(.v 8)])]), (.op .repr [(.v 8)])]))) [.ret (.k (.bool false))] [], .asg (.name 3) (.op .eq [(.call i__law_seven [(.v 1)]), (.call i__law_seven [(.v 2)])]), .asg (.name 4) (.lst [(.call i_are_alike_limits [(.v 1), (.v 2)]), (.call i_are_alike_limits [(.v 1), (.v 8)]), (.op .eq [(.call i_most_table [(.v 1)]), (.call i_most_table [(.v 2)])])]), .ex (.mu .append (.v 4) [(.op .eq [(.callk i_soonest [0, 1, 2, 3] [(.tup [(.v 1), (.tup [(.k (.int 1))])]), (.tup []), (.k (.int 7)), (.k (.int 0))]), (.callk i_soonest [0, 1, 2, 3] [(.tup [(.v 2), (.tup [(.k (.int 1))])]), (.tup []), (.k (.int 7)), (.k (.int 0))])])]), .ifs (.or (.op .ne [(.op .repr [(.v 4)]), (.op .repr [(.lst [(.v 3), (.k (.bool true)), (.v 3), (.v 3)])])]) (.op .ne [(.op .eq [(.v 8), (.call i__law_tidy [(.v 2)])]), (.v 3)])) [.ret (.k (.bool false))] [], .asg (.name 5) (.call i__law_tidy [(.op .add [(.v 1), (.v 2)])]), .par [9, 10] [(.call i__law_joined [(.v 1), (.v 2)]), (.k (.int 0))], .ifs (.op .ne [(.op .repr [(.v 9)]), (.op .repr [(.ife (.op .gt [(.op .len [(.v 5)]), (.k (.int 4))]) (.tup [(.k (.str "many"))]) (.v 5))])]) [.ret (.k (.bool false))] [], .for (.name 6) (.seq (.call i__law_rows [(.v 0), (.v 1), (.v 2)])) [.asg (.name 11) (.lc (.name 12) (.seq (.lst [(.v 1), (.v 2)])) [] (.op .isn [(.call i__law_wrong_at [(.v 12), (.tup [(.k (.int 1))]), (.v 6)])]) [12]), .ifs (.op .ne [(.op .repr [(.lst [(.call i_is_polite [(.tup [(.v 8), (.tup [(.k (.int 1))])]), (.v 6)]), (.call i_is_polite [(.tup [(.v 2), (.tup [(.k (.int 1))])]), (.v 6)])])]), (.op .repr [(.v 11)])]) [.ret (.k (.bool false))] [], .ifs (.and (.op .le [(.op .len [(.v 5)]), (.k (.int 4))]) (.op .ne [(.op .repr [(.call i_is_polite [(.tup [(.v 9), (.tup [(.k (.int 1))])]), (.v 6)])]), (.op .repr [(.and (.op .item [(.v 11), (.k (.int 0))]) (.op .item [(.v 11), (.k (.int 1))]))])])) [.ret (.k (.bool false))] [], .asg (.name 10) (.op .add [(.v 10), (.op .int [(.op .ne [(.op .item [(.v 11), (.k (.int 0))]), (.op .item [(.v 11), (.k (.int 1))])])])])], .ret (.and (.op .ne [(.op .gt [(.v 10), (.k (.int 0))]), (.v 3)]) (.and (.call i__law_hours_right [(.v 0)]) (.call i__law_ladder_right [(.v 0)])))]
/-- law(_law_script): slots 0=_law_script 1=_law_turn -/
def ir_law : List Sm := [.ret (.op .all [(.lc (.name 1) (.rng [(.op .max2 [(.k (.int 2)), (.op .min2 [(.op .len [(.v 0)]), (.k (.int 4))])])]) [] (.call i__law_right [(.call i__law_well [(.v 0), (.v 1)])]) [1])])]
def dfs : List Df := [⟨1, 1, ir_is_whole⟩, ⟨3, 3, ir_is_between⟩, ⟨2, 2, ir_is_from⟩, ⟨3, 3, ir_is_tuple_up_to⟩, ⟨1, 1, ir_is_limit⟩, ⟨1, 2, ir_are_limits⟩, ⟨1, 2, ir_are_hours⟩, ⟨2, 2, ir_is_rules_pair⟩, ⟨2, 2, ir_is_open_at⟩, ⟨3, 5, ir_is_crowded⟩, ⟨2, 6, ir_first_wrong_by⟩, ⟨2, 2, ir_is_polite_by⟩, ⟨3, 9, ir_next_ask⟩, ⟨4, 6, ir_soonest_by⟩, ⟨3, 8, ir_most_from_by⟩, ⟨2, 2, ir_most_by⟩, ⟨1, 4, ir_tidied_by⟩, ⟨1, 2, ir_tidied_hours_by⟩, ⟨3, 3, ir_check_number⟩, ⟨1, 1, ir_check_moment⟩, ⟨1, 1, ir_check_limits⟩, ⟨1, 1, ir_check_hours⟩, ⟨1, 1, ir_are_some_rules⟩, ⟨1, 1, ir_check_rules⟩, ⟨1, 3, ir_check_asks⟩, ⟨2, 3, ir_check_polite⟩, ⟨2, 2, ir_is_polite⟩, ⟨4, 4, ir_soonest⟩, ⟨1, 2, ir_most_table⟩, ⟨1, 1, ir_tidied⟩, ⟨1, 1, ir_tidied_hours⟩, ⟨2, 3, ir_joined⟩, ⟨2, 2, ir_is_up_to⟩, ⟨2, 7, ir_loose_row_by⟩, ⟨2, 2, ir_is_stricter_by⟩, ⟨2, 3, ir_parting_row_by⟩, ⟨2, 2, ir_are_alike_limits⟩, ⟨2, 2, ir_are_alike_rules⟩, ⟨2, 6, ir__law_well⟩, ⟨2, 3, ir__law_pick⟩, ⟨2, 2, ir__law_one⟩, ⟨2, 2, ir__law_open⟩, ⟨3, 7, ir__law_wrong_at⟩, ⟨5, 10, ir__law_soonest⟩, ⟨3, 5, ir__law_some_limits⟩, ⟨2, 4, ir__law_some_hours⟩, ⟨5, 8, ir__law_some_row⟩, ⟨1, 1, ir__law_seven⟩, ⟨1, 4, ir__law_tidy⟩, ⟨2, 8, ir__law_other_limits⟩, ⟨3, 7, ir__law_rows⟩, ⟨2, 2, ir__law_joined⟩, ⟨1, 5, ir__law_hours_right⟩, ⟨1, 9, ir__law_ladder_right⟩, ⟨1, 13, ir__law_right⟩, ⟨1, 2, ir_law⟩]
theorem run_is_whole (n : Nat) (a0 : Vm.Arg) : runD dfs (n + 1) i_is_whole [a0] = finish (xSs (runD dfs n) ir_is_whole (entry ⟨1, 1, ir_is_whole⟩ [a0])) := run_fin (d := ⟨1, 1, ir_is_whole⟩) rfl rfl
theorem run_is_between (n : Nat) (a0 a1 a2 : Vm.Arg) : runD dfs (n + 1) i_is_between [a0, a1, a2] = finish (xSs (runD dfs n) ir_is_between (entry ⟨3, 3, ir_is_between⟩ [a0, a1, a2])) := run_fin (d := ⟨3, 3, ir_is_between⟩) rfl rfl
theorem run_is_from (n : Nat) (a0 a1 : Vm.Arg) : runD dfs (n + 1) i_is_from [a0, a1] = finish (xSs (runD dfs n) ir_is_from (entry ⟨2, 2, ir_is_from⟩ [a0, a1])) := run_fin (d := ⟨2, 2, ir_is_from⟩) rfl rfl
theorem run_is_tuple_up_to (n : Nat) (a0 a1 a2 : Vm.Arg) : runD dfs (n + 1) i_is_tuple_up_to [a0, a1, a2] = finish (xSs (runD dfs n) ir_is_tuple_up_to (entry ⟨3, 3, ir_is_tuple_up_to⟩ [a0, a1, a2])) := run_fin (d := ⟨3, 3, ir_is_tuple_up_to⟩) rfl rfl
theorem run_is_limit (n : Nat) (a0 : Vm.Arg) : runD dfs (n + 1) i_is_limit [a0] = finish (xSs (runD dfs n) ir_is_limit (entry ⟨1, 1, ir_is_limit⟩ [a0])) := run_fin (d := ⟨1, 1, ir_is_limit⟩) rfl rfl
theorem run_are_limits (n : Nat) (a0 : Vm.Arg) : runD dfs (n + 1) i_are_limits [a0] = finish (xSs (runD dfs n) ir_are_limits (entry ⟨1, 2, ir_are_limits⟩ [a0])) := run_fin (d := ⟨1, 2, ir_are_limits⟩) rfl rfl
theorem run_are_hours (n : Nat) (a0 : Vm.Arg) : runD dfs (n + 1) i_are_hours [a0] = finish (xSs (runD dfs n) ir_are_hours (entry ⟨1, 2, ir_are_hours⟩ [a0])) := run_fin (d := ⟨1, 2, ir_are_hours⟩) rfl rfl
theorem run_is_rules_pair (n : Nat) (a0 a1 : Vm.Arg) : runD dfs (n + 1) i_is_rules_pair [a0, a1] = finish (xSs (runD dfs n) ir_is_rules_pair (entry ⟨2, 2, ir_is_rules_pair⟩ [a0, a1])) := run_fin (d := ⟨2, 2, ir_is_rules_pair⟩) rfl rfl
theorem run_is_open_at (n : Nat) (a0 a1 : Vm.Arg) : runD dfs (n + 1) i_is_open_at [a0, a1] = finish (xSs (runD dfs n) ir_is_open_at (entry ⟨2, 2, ir_is_open_at⟩ [a0, a1])) := run_fin (d := ⟨2, 2, ir_is_open_at⟩) rfl rfl
theorem run_is_crowded (n : Nat) (a0 a1 a2 : Vm.Arg) : runD dfs (n + 1) i_is_crowded [a0, a1, a2] = finish (xSs (runD dfs n) ir_is_crowded (entry ⟨3, 5, ir_is_crowded⟩ [a0, a1, a2])) := run_fin (d := ⟨3, 5, ir_is_crowded⟩) rfl rfl
theorem run_first_wrong_by (n : Nat) (a0 a1 : Vm.Arg) : runD dfs (n + 1) i_first_wrong_by [a0, a1] = finish (xSs (runD dfs n) ir_first_wrong_by (entry ⟨2, 6, ir_first_wrong_by⟩ [a0, a1])) := run_fin (d := ⟨2, 6, ir_first_wrong_by⟩) rfl rfl
theorem run_is_polite_by (n : Nat) (a0 a1 : Vm.Arg) : runD dfs (n + 1) i_is_polite_by [a0, a1] = finish (xSs (runD dfs n) ir_is_polite_by (entry ⟨2, 2, ir_is_polite_by⟩ [a0, a1])) := run_fin (d := ⟨2, 2, ir_is_polite_by⟩) rfl rfl
theorem run_next_ask (n : Nat) (a0 a1 a2 : Vm.Arg) : runD dfs (n + 1) i_next_ask [a0, a1, a2] = finish (xSs (runD dfs n) ir_next_ask (entry ⟨3, 9, ir_next_ask⟩ [a0, a1, a2])) := run_fin (d := ⟨3, 9, ir_next_ask⟩) rfl rfl
theorem run_soonest_by (n : Nat) (a0 a1 a2 a3 : Vm.Arg) : runD dfs (n + 1) i_soonest_by [a0, a1, a2, a3] = finish (xSs (runD dfs n) ir_soonest_by (entry ⟨4, 6, ir_soonest_by⟩ [a0, a1, a2, a3])) := run_fin (d := ⟨4, 6, ir_soonest_by⟩) rfl rfl
theorem run_most_from_by (n : Nat) (a0 a1 a2 : Vm.Arg) : runD dfs (n + 1) i_most_from_by [a0, a1, a2] = finish (xSs (runD dfs n) ir_most_from_by (entry ⟨3, 8, ir_most_from_by⟩ [a0, a1, a2])) := run_fin (d := ⟨3, 8, ir_most_from_by⟩) rfl rfl
theorem run_most_by (n : Nat) (a0 a1 : Vm.Arg) : runD dfs (n + 1) i_most_by [a0, a1] = finish (xSs (runD dfs n) ir_most_by (entry ⟨2, 2, ir_most_by⟩ [a0, a1])) := run_fin (d := ⟨2, 2, ir_most_by⟩) rfl rfl
theorem run_tidied_by (n : Nat) (a0 : Vm.Arg) : runD dfs (n + 1) i_tidied_by [a0] = finish (xSs (runD dfs n) ir_tidied_by (entry ⟨1, 4, ir_tidied_by⟩ [a0])) := run_fin (d := ⟨1, 4, ir_tidied_by⟩) rfl rfl
theorem run_tidied_hours_by (n : Nat) (a0 : Vm.Arg) : runD dfs (n + 1) i_tidied_hours_by [a0] = finish (xSs (runD dfs n) ir_tidied_hours_by (entry ⟨1, 2, ir_tidied_hours_by⟩ [a0])) := run_fin (d := ⟨1, 2, ir_tidied_hours_by⟩) rfl rfl
theorem run_check_number (n : Nat) (a0 a1 a2 : Vm.Arg) : runD dfs (n + 1) i_check_number [a0, a1, a2] = finish (xSs (runD dfs n) ir_check_number (entry ⟨3, 3, ir_check_number⟩ [a0, a1, a2])) := run_fin (d := ⟨3, 3, ir_check_number⟩) rfl rfl
theorem run_check_moment (n : Nat) (a0 : Vm.Arg) : runD dfs (n + 1) i_check_moment [a0] = finish (xSs (runD dfs n) ir_check_moment (entry ⟨1, 1, ir_check_moment⟩ [a0])) := run_fin (d := ⟨1, 1, ir_check_moment⟩) rfl rfl
theorem run_check_limits (n : Nat) (a0 : Vm.Arg) : runD dfs (n + 1) i_check_limits [a0] = finish (xSs (runD dfs n) ir_check_limits (entry ⟨1, 1, ir_check_limits⟩ [a0])) := run_fin (d := ⟨1, 1, ir_check_limits⟩) rfl rfl
theorem run_check_hours (n : Nat) (a0 : Vm.Arg) : runD dfs (n + 1) i_check_hours [a0] = finish (xSs (runD dfs n) ir_check_hours (entry ⟨1, 1, ir_check_hours⟩ [a0])) := run_fin (d := ⟨1, 1, ir_check_hours⟩) rfl rfl
theorem run_are_some_rules (n : Nat) (a0 : Vm.Arg) : runD dfs (n + 1) i_are_some_rules [a0] = finish (xSs (runD dfs n) ir_are_some_rules (entry ⟨1, 1, ir_are_some_rules⟩ [a0])) := run_fin (d := ⟨1, 1, ir_are_some_rules⟩) rfl rfl
theorem run_check_rules (n : Nat) (a0 : Vm.Arg) : runD dfs (n + 1) i_check_rules [a0] = finish (xSs (runD dfs n) ir_check_rules (entry ⟨1, 1, ir_check_rules⟩ [a0])) := run_fin (d := ⟨1, 1, ir_check_rules⟩) rfl rfl
theorem run_check_asks (n : Nat) (a0 : Vm.Arg) : runD dfs (n + 1) i_check_asks [a0] = finish (xSs (runD dfs n) ir_check_asks (entry ⟨1, 3, ir_check_asks⟩ [a0])) := run_fin (d := ⟨1, 3, ir_check_asks⟩) rfl rfl
theorem run_check_polite (n : Nat) (a0 a1 : Vm.Arg) : runD dfs (n + 1) i_check_polite [a0, a1] = finish (xSs (runD dfs n) ir_check_polite (entry ⟨2, 3, ir_check_polite⟩ [a0, a1])) := run_fin (d := ⟨2, 3, ir_check_polite⟩) rfl rfl
theorem run_is_polite (n : Nat) (a0 a1 : Vm.Arg) : runD dfs (n + 1) i_is_polite [a0, a1] = finish (xSs (runD dfs n) ir_is_polite (entry ⟨2, 2, ir_is_polite⟩ [a0, a1])) := run_fin (d := ⟨2, 2, ir_is_polite⟩) rfl rfl
theorem run_soonest (n : Nat) (a0 a1 a2 a3 : Vm.Arg) : runD dfs (n + 1) i_soonest [a0, a1, a2, a3] = finish (xSs (runD dfs n) ir_soonest (entry ⟨4, 4, ir_soonest⟩ [a0, a1, a2, a3])) := run_fin (d := ⟨4, 4, ir_soonest⟩) rfl rfl
theorem run_most_table (n : Nat) (a0 : Vm.Arg) : runD dfs (n + 1) i_most_table [a0] = finish (xSs (runD dfs n) ir_most_table (entry ⟨1, 2, ir_most_table⟩ [a0])) := run_fin (d := ⟨1, 2, ir_most_table⟩) rfl rfl
theorem run_tidied (n : Nat) (a0 : Vm.Arg) : runD dfs (n + 1) i_tidied [a0] = finish (xSs (runD dfs n) ir_tidied (entry ⟨1, 1, ir_tidied⟩ [a0])) := run_fin (d := ⟨1, 1, ir_tidied⟩) rfl rfl
theorem run_tidied_hours (n : Nat) (a0 : Vm.Arg) : runD dfs (n + 1) i_tidied_hours [a0] = finish (xSs (runD dfs n) ir_tidied_hours (entry ⟨1, 1, ir_tidied_hours⟩ [a0])) := run_fin (d := ⟨1, 1, ir_tidied_hours⟩) rfl rfl
theorem run_joined (n : Nat) (a0 a1 : Vm.Arg) : runD dfs (n + 1) i_joined [a0, a1] = finish (xSs (runD dfs n) ir_joined (entry ⟨2, 3, ir_joined⟩ [a0, a1])) := run_fin (d := ⟨2, 3, ir_joined⟩) rfl rfl
theorem run_is_up_to (n : Nat) (a0 a1 : Vm.Arg) : runD dfs (n + 1) i_is_up_to [a0, a1] = finish (xSs (runD dfs n) ir_is_up_to (entry ⟨2, 2, ir_is_up_to⟩ [a0, a1])) := run_fin (d := ⟨2, 2, ir_is_up_to⟩) rfl rfl
theorem run_loose_row_by (n : Nat) (a0 a1 : Vm.Arg) : runD dfs (n + 1) i_loose_row_by [a0, a1] = finish (xSs (runD dfs n) ir_loose_row_by (entry ⟨2, 7, ir_loose_row_by⟩ [a0, a1])) := run_fin (d := ⟨2, 7, ir_loose_row_by⟩) rfl rfl
theorem run_is_stricter_by (n : Nat) (a0 a1 : Vm.Arg) : runD dfs (n + 1) i_is_stricter_by [a0, a1] = finish (xSs (runD dfs n) ir_is_stricter_by (entry ⟨2, 2, ir_is_stricter_by⟩ [a0, a1])) := run_fin (d := ⟨2, 2, ir_is_stricter_by⟩) rfl rfl
theorem run_parting_row_by (n : Nat) (a0 a1 : Vm.Arg) : runD dfs (n + 1) i_parting_row_by [a0, a1] = finish (xSs (runD dfs n) ir_parting_row_by (entry ⟨2, 3, ir_parting_row_by⟩ [a0, a1])) := run_fin (d := ⟨2, 3, ir_parting_row_by⟩) rfl rfl
theorem run_are_alike_limits (n : Nat) (a0 a1 : Vm.Arg) : runD dfs (n + 1) i_are_alike_limits [a0, a1] = finish (xSs (runD dfs n) ir_are_alike_limits (entry ⟨2, 2, ir_are_alike_limits⟩ [a0, a1])) := run_fin (d := ⟨2, 2, ir_are_alike_limits⟩) rfl rfl
theorem run_are_alike_rules (n : Nat) (a0 a1 : Vm.Arg) : runD dfs (n + 1) i_are_alike_rules [a0, a1] = finish (xSs (runD dfs n) ir_are_alike_rules (entry ⟨2, 2, ir_are_alike_rules⟩ [a0, a1])) := run_fin (d := ⟨2, 2, ir_are_alike_rules⟩) rfl rfl
theorem run__law_well (n : Nat) (a0 a1 : Vm.Arg) : runD dfs (n + 1) i__law_well [a0, a1] = finish (xSs (runD dfs n) ir__law_well (entry ⟨2, 6, ir__law_well⟩ [a0, a1])) := run_fin (d := ⟨2, 6, ir__law_well⟩) rfl rfl
theorem run__law_pick (n : Nat) (a0 a1 : Vm.Arg) : runD dfs (n + 1) i__law_pick [a0, a1] = finish (xSs (runD dfs n) ir__law_pick (entry ⟨2, 3, ir__law_pick⟩ [a0, a1])) := run_fin (d := ⟨2, 3, ir__law_pick⟩) rfl rfl
theorem run__law_one (n : Nat) (a0 a1 : Vm.Arg) : runD dfs (n + 1) i__law_one [a0, a1] = finish (xSs (runD dfs n) ir__law_one (entry ⟨2, 2, ir__law_one⟩ [a0, a1])) := run_fin (d := ⟨2, 2, ir__law_one⟩) rfl rfl
theorem run__law_open (n : Nat) (a0 a1 : Vm.Arg) : runD dfs (n + 1) i__law_open [a0, a1] = finish (xSs (runD dfs n) ir__law_open (entry ⟨2, 2, ir__law_open⟩ [a0, a1])) := run_fin (d := ⟨2, 2, ir__law_open⟩) rfl rfl
theorem run__law_wrong_at (n : Nat) (a0 a1 a2 : Vm.Arg) : runD dfs (n + 1) i__law_wrong_at [a0, a1, a2] = finish (xSs (runD dfs n) ir__law_wrong_at (entry ⟨3, 7, ir__law_wrong_at⟩ [a0, a1, a2])) := run_fin (d := ⟨3, 7, ir__law_wrong_at⟩) rfl rfl
theorem run__law_soonest (n : Nat) (a0 a1 a2 a3 a4 : Vm.Arg) : runD dfs (n + 1) i__law_soonest [a0, a1, a2, a3, a4] = finish (xSs (runD dfs n) ir__law_soonest (entry ⟨5, 10, ir__law_soonest⟩ [a0, a1, a2, a3, a4])) := run_fin (d := ⟨5, 10, ir__law_soonest⟩) rfl rfl
theorem run__law_some_limits (n : Nat) (a0 a1 a2 : Vm.Arg) : runD dfs (n + 1) i__law_some_limits [a0, a1, a2] = finish (xSs (runD dfs n) ir__law_some_limits (entry ⟨3, 5, ir__law_some_limits⟩ [a0, a1, a2])) := run_fin (d := ⟨3, 5, ir__law_some_limits⟩) rfl rfl
theorem run__law_some_hours (n : Nat) (a0 a1 : Vm.Arg) : runD dfs (n + 1) i__law_some_hours [a0, a1] = finish (xSs (runD dfs n) ir__law_some_hours (entry ⟨2, 4, ir__law_some_hours⟩ [a0, a1])) := run_fin (d := ⟨2, 4, ir__law_some_hours⟩) rfl rfl
theorem run__law_some_row (n : Nat) (a0 a1 a2 a3 a4 : Vm.Arg) : runD dfs (n + 1) i__law_some_row [a0, a1, a2, a3, a4] = finish (xSs (runD dfs n) ir__law_some_row (entry ⟨5, 8, ir__law_some_row⟩ [a0, a1, a2, a3, a4])) := run_fin (d := ⟨5, 8, ir__law_some_row⟩) rfl rfl
theorem run__law_seven (n : Nat) (a0 : Vm.Arg) : runD dfs (n + 1) i__law_seven [a0] = finish (xSs (runD dfs n) ir__law_seven (entry ⟨1, 1, ir__law_seven⟩ [a0])) := run_fin (d := ⟨1, 1, ir__law_seven⟩) rfl rfl
theorem run__law_tidy (n : Nat) (a0 : Vm.Arg) : runD dfs (n + 1) i__law_tidy [a0] = finish (xSs (runD dfs n) ir__law_tidy (entry ⟨1, 4, ir__law_tidy⟩ [a0])) := run_fin (d := ⟨1, 4, ir__law_tidy⟩) rfl rfl
theorem run__law_other_limits (n : Nat) (a0 a1 : Vm.Arg) : runD dfs (n + 1) i__law_other_limits [a0, a1] = finish (xSs (runD dfs n) ir__law_other_limits (entry ⟨2, 8, ir__law_other_limits⟩ [a0, a1])) := run_fin (d := ⟨2, 8, ir__law_other_limits⟩) rfl rfl
theorem run__law_rows (n : Nat) (a0 a1 a2 : Vm.Arg) : runD dfs (n + 1) i__law_rows [a0, a1, a2] = finish (xSs (runD dfs n) ir__law_rows (entry ⟨3, 7, ir__law_rows⟩ [a0, a1, a2])) := run_fin (d := ⟨3, 7, ir__law_rows⟩) rfl rfl
theorem run__law_joined (n : Nat) (a0 a1 : Vm.Arg) : runD dfs (n + 1) i__law_joined [a0, a1] = finish (xSs (runD dfs n) ir__law_joined (entry ⟨2, 2, ir__law_joined⟩ [a0, a1])) := run_fin (d := ⟨2, 2, ir__law_joined⟩) rfl rfl
theorem run__law_hours_right (n : Nat) (a0 : Vm.Arg) : runD dfs (n + 1) i__law_hours_right [a0] = finish (xSs (runD dfs n) ir__law_hours_right (entry ⟨1, 5, ir__law_hours_right⟩ [a0])) := run_fin (d := ⟨1, 5, ir__law_hours_right⟩) rfl rfl
theorem run__law_ladder_right (n : Nat) (a0 : Vm.Arg) : runD dfs (n + 1) i__law_ladder_right [a0] = finish (xSs (runD dfs n) ir__law_ladder_right (entry ⟨1, 9, ir__law_ladder_right⟩ [a0])) := run_fin (d := ⟨1, 9, ir__law_ladder_right⟩) rfl rfl
theorem run__law_right (n : Nat) (a0 : Vm.Arg) : runD dfs (n + 1) i__law_right [a0] = finish (xSs (runD dfs n) ir__law_right (entry ⟨1, 13, ir__law_right⟩ [a0])) := run_fin (d := ⟨1, 13, ir__law_right⟩) rfl rfl
theorem run_law (n : Nat) (a0 : Vm.Arg) : runD dfs (n + 1) i_law [a0] = finish (xSs (runD dfs n) ir_law (entry ⟨1, 2, ir_law⟩ [a0])) := run_fin (d := ⟨1, 2, ir_law⟩) rfl rfl
end T
set_option maxRecDepth 100000
set_option maxHeartbeats 0
namespace T
open PySem PySem.Spec Vm
def top (i : Nat) : Stmt := PySem.Challenge.pw_gentlerounds_k14_whole_tidied_limits_let.main.body.getD i (.Pass ⟨0, 0, 0, 0⟩)
def bd (i : Nat) : List Stmt := match top i with
  | .FunctionDef _ _ b _ _ _ _ _ _ _ => b
  | _ => []
def sc (i : Nat) : Scope := match top i with
  | .FunctionDef _ _ _ _ _ _ s _ _ _ => s
  | _ => ⟨.module, [], false, false, []⟩
def G0 : Gam := { N := [], sc := sc 0, defs := [(("is_whole" : Str), ([("value" : Str)] : List Str)), (("is_between" : Str), ([("value" : Str), ("low" : Str), ("high" : Str)] : List Str)), (("is_from" : Str), ([("value" : Str), ("low" : Str)] : List Str)), (("is_tuple_up_to" : Str), ([("value" : Str), ("low" : Str), ("high" : Str)] : List Str)), (("is_limit" : Str), ([("value" : Str)] : List Str)), (("are_limits" : Str), ([("value" : Str)] : List Str)), (("are_hours" : Str), ([("value" : Str)] : List Str)), (("is_rules_pair" : Str), ([("limits" : Str), ("hours" : Str)] : List Str)), (("is_open_at" : Str), ([("hours" : Str), ("moment" : Str)] : List Str)), (("is_crowded" : Str), ([("limits" : Str), ("asks" : Str), ("index" : Str)] : List Str)), (("first_wrong_by" : Str), ([("rules" : Str), ("asks" : Str)] : List Str)), (("is_polite_by" : Str), ([("rules" : Str), ("asks" : Str)] : List Str)), (("next_ask" : Str), ([("rules" : Str), ("asks" : Str), ("since" : Str)] : List Str)), (("soonest_by" : Str), ([("rules" : Str), ("asks" : Str), ("many" : Str), ("since" : Str)] : List Str)), (("most_from_by" : Str), ([("rules" : Str), ("moment" : Str), ("moments" : Str)] : List Str)), (("most_by" : Str), ([("limits" : Str), ("moments" : Str)] : List Str)), (("tidied_by" : Str), ([("limits" : Str)] : List Str)), (("tidied_hours_by" : Str), ([("hours" : Str)] : List Str)), (("check_number" : Str), ([("value" : Str), ("low" : Str), ("high" : Str)] : List Str)), (("check_moment" : Str), ([("value" : Str)] : List Str)), (("check_limits" : Str), ([("value" : Str)] : List Str)), (("check_hours" : Str), ([("value" : Str)] : List Str)), (("are_some_rules" : Str), ([("value" : Str)] : List Str)), (("check_rules" : Str), ([("value" : Str)] : List Str)), (("check_asks" : Str), ([("value" : Str)] : List Str)), (("check_polite" : Str), ([("rules" : Str), ("asks" : Str)] : List Str)), (("is_polite" : Str), ([("rules" : Str), ("asks" : Str)] : List Str)), (("soonest" : Str), ([("rules" : Str), ("asks" : Str), ("many" : Str), ("since" : Str)] : List Str)), (("most_table" : Str), ([("limits" : Str)] : List Str)), (("tidied" : Str), ([("limits" : Str)] : List Str)), (("tidied_hours" : Str), ([("hours" : Str)] : List Str)), (("joined" : Str), ([("limits" : Str), ("other" : Str)] : List Str)), (("is_up_to" : Str), ([("many" : Str), ("bound" : Str)] : List Str)), (("loose_row_by" : Str), ([("rules" : Str), ("other" : Str)] : List Str)), (("is_stricter_by" : Str), ([("limits" : Str), ("other" : Str)] : List Str)), (("parting_row_by" : Str), ([("rules" : Str), ("other" : Str)] : List Str)), (("are_alike_limits" : Str), ([("limits" : Str), ("other" : Str)] : List Str)), (("are_alike_rules" : Str), ([("rules" : Str), ("other" : Str)] : List Str)), (("_law_well" : Str), ([("_law_script" : Str), ("_law_turn" : Str)] : List Str)), (("_law_pick" : Str), ([("_law_well_here" : Str), ("_law_top" : Str)] : List Str)), (("_law_one" : Str), ([("_law_well_here" : Str), ("_law_some" : Str)] : List Str)), (("_law_open" : Str), ([("_law_clock" : Str), ("_law_time" : Str)] : List Str)), (("_law_wrong_at" : Str), ([("_law_pairs" : Str), ("_law_clock" : Str), ("_law_row" : Str)] : List Str)), (("_law_soonest" : Str), ([("_law_pairs" : Str), ("_law_clock" : Str), ("_law_row" : Str), ("_law_number" : Str), ("_law_start" : Str)] : List Str)), (("_law_some_limits" : Str), ([("_law_well_here" : Str), ("_law_top" : Str), ("_law_width" : Str)] : List Str)), (("_law_some_hours" : Str), ([("_law_well_here" : Str), ("_law_top" : Str)] : List Str)), (("_law_some_row" : Str), ([("_law_well_here" : Str), ("_law_pairs" : Str), ("_law_clock" : Str), ("_law_number" : Str), ("_law_top" : Str)] : List Str)), (("_law_seven" : Str), ([("_law_pairs" : Str)] : List Str)), (("_law_tidy" : Str), ([("_law_pairs" : Str)] : List Str)), (("_law_other_limits" : Str), ([("_law_well_here" : Str), ("_law_pairs" : Str)] : List Str)), (("_law_rows" : Str), ([("_law_well_here" : Str), ("_law_pairs" : Str), ("_law_other" : Str)] : List Str)), (("_law_joined" : Str), ([("_law_pairs" : Str), ("_law_other" : Str)] : List Str)), (("_law_hours_right" : Str), ([("_law_well_here" : Str)] : List Str)), (("_law_ladder_right" : Str), ([("_law_well_here" : Str)] : List Str)), (("_law_right" : Str), ([("_law_well_here" : Str)] : List Str)), (("law" : Str), ([("_law_script" : Str)] : List Str))], cs := [(("MOST_LIMITS" : Str), (.int 4 : PyData)), (("MOST_ASKS" : Str), (.int 6 : PyData)), (("MOST_MOMENTS" : Str), (.int 12 : PyData)), (("MOST_HOURS" : Str), (.int 12 : PyData)), (("ALWAYS" : Str), (.tuple [.int 1] : PyData)), (("MOST_ROW" : Str), (.int 200 : PyData)), (("MOST_WINDOW" : Str), (.int 100 : PyData))], bs := ([("ValueError" : Str), ("abs" : Str), ("all" : Str), ("any" : Str), ("bool" : Str), ("divmod" : Str), ("enumerate" : Str), ("int" : Str), ("isinstance" : Str), ("len" : Str), ("list" : Str), ("max" : Str), ("min" : Str), ("range" : Str), ("repr" : Str), ("sorted" : Str), ("tuple" : Str)] : List Str), kws := [(("soonest" : Str), 3, ([] : List Str), ([.int 0] : List PyData), ([0, 1, 2, 3] : List Nat))], kwo := ([("soonest" : Str)] : List Str), fn := fun _ => true, xs := ([("TooMany" : Str)] : List Str), xc := ([("TooMany" : Str)] : List Str), xm := [(("TooMany" : Str), ("TooMany" : Str))], rz := ([("joined" : Str)] : List Str), lc := true }
theorem irok_is_whole : cSs 80 { G0 with N := ([("value" : Str)] : List Str), sc := sc 11 } (bd 11) = some ir_is_whole := by kernel_rfl
theorem irok_is_between : cSs 80 { G0 with N := ([("value" : Str), ("low" : Str), ("high" : Str)] : List Str), sc := sc 12 } (bd 12) = some ir_is_between := by kernel_rfl
theorem irok_is_from : cSs 80 { G0 with N := ([("value" : Str), ("low" : Str)] : List Str), sc := sc 13 } (bd 13) = some ir_is_from := by kernel_rfl
theorem irok_is_tuple_up_to : cSs 80 { G0 with N := ([("value" : Str), ("low" : Str), ("high" : Str)] : List Str), sc := sc 14 } (bd 14) = some ir_is_tuple_up_to := by kernel_rfl
theorem irok_is_limit : cSs 80 { G0 with N := ([("value" : Str)] : List Str), sc := sc 21 } (bd 21) = some ir_is_limit := by kernel_rfl
theorem irok_are_limits : cSs 80 { G0 with N := ([("value" : Str), ("pair" : Str)] : List Str), sc := sc 22 } (bd 22) = some ir_are_limits := by kernel_rfl
theorem irok_are_hours : cSs 80 { G0 with N := ([("value" : Str), ("hour" : Str)] : List Str), sc := sc 23 } (bd 23) = some ir_are_hours := by kernel_rfl
theorem irok_is_rules_pair : cSs 80 { G0 with N := ([("limits" : Str), ("hours" : Str)] : List Str), sc := sc 24 } (bd 24) = some ir_is_rules_pair := by kernel_rfl
theorem irok_is_open_at : cSs 80 { G0 with N := ([("hours" : Str), ("moment" : Str)] : List Str), sc := sc 25 } (bd 25) = some ir_is_open_at := by kernel_rfl
theorem irok_is_crowded : cSs 80 { G0 with N := ([("limits" : Str), ("asks" : Str), ("index" : Str), ("many" : Str), ("size" : Str)] : List Str), sc := sc 26 } (bd 26) = some ir_is_crowded := by kernel_rfl
theorem irok_first_wrong_by : cSs 80 { G0 with N := ([("rules" : Str), ("asks" : Str), ("limits" : Str), ("hours" : Str), ("index" : Str), ("moment" : Str)] : List Str), sc := sc 27 } (bd 27) = some ir_first_wrong_by := by kernel_rfl
theorem irok_is_polite_by : cSs 80 { G0 with N := ([("rules" : Str), ("asks" : Str)] : List Str), sc := sc 28 } (bd 28) = some ir_is_polite_by := by kernel_rfl
theorem irok_next_ask : cSs 80 { G0 with N := ([("rules" : Str), ("asks" : Str), ("since" : Str), ("bounds" : Str), ("found" : Str), ("limits" : Str), ("hours" : Str), ("many" : Str), ("size" : Str)] : List Str), sc := sc 29 } (bd 29) = some ir_next_ask := by kernel_rfl
theorem irok_soonest_by : cSs 80 { G0 with N := ([("rules" : Str), ("asks" : Str), ("many" : Str), ("since" : Str), ("told" : Str), ("_" : Str)] : List Str), sc := sc 30 } (bd 30) = some ir_soonest_by := by kernel_rfl
theorem irok_most_from_by : cSs 80 { G0 with N := ([("rules" : Str), ("moment" : Str), ("moments" : Str), ("told" : Str), ("found" : Str), ("limits" : Str), ("hours" : Str), ("k" : Str)] : List Str), sc := sc 31 } (bd 31) = some ir_most_from_by := by kernel_rfl
theorem irok_most_by : cSs 80 { G0 with N := ([("limits" : Str), ("moments" : Str)] : List Str), sc := sc 32 } (bd 32) = some ir_most_by := by kernel_rfl
theorem irok_tidied_by : cSs 80 { G0 with N := ([("limits" : Str), ("asks" : Str), ("found" : Str), ("many" : Str)] : List Str), sc := sc 33 } (bd 33) = some ir_tidied_by := by kernel_rfl
theorem irok_tidied_hours_by : cSs 80 { G0 with N := ([("hours" : Str), ("size" : Str)] : List Str), sc := sc 34 } (bd 34) = some ir_tidied_hours_by := by kernel_rfl
theorem irok_check_number : cSs 80 { G0 with N := ([("value" : Str), ("low" : Str), ("high" : Str)] : List Str), sc := sc 38 } (bd 38) = some ir_check_number := by kernel_rfl
theorem irok_check_moment : cSs 80 { G0 with N := ([("value" : Str)] : List Str), sc := sc 39 } (bd 39) = some ir_check_moment := by kernel_rfl
theorem irok_check_limits : cSs 80 { G0 with N := ([("value" : Str)] : List Str), sc := sc 40 } (bd 40) = some ir_check_limits := by kernel_rfl
theorem irok_check_hours : cSs 80 { G0 with N := ([("value" : Str)] : List Str), sc := sc 41 } (bd 41) = some ir_check_hours := by kernel_rfl
theorem irok_are_some_rules : cSs 80 { G0 with N := ([("value" : Str)] : List Str), sc := sc 42 } (bd 42) = some ir_are_some_rules := by kernel_rfl
theorem irok_check_rules : cSs 80 { G0 with N := ([("value" : Str)] : List Str), sc := sc 43 } (bd 43) = some ir_check_rules := by kernel_rfl
theorem irok_check_asks : cSs 80 { G0 with N := ([("value" : Str), ("index" : Str), ("moment" : Str)] : List Str), sc := sc 44 } (bd 44) = some ir_check_asks := by kernel_rfl
theorem irok_check_polite : cSs 80 { G0 with N := ([("rules" : Str), ("asks" : Str), ("wrong" : Str)] : List Str), sc := sc 45 } (bd 45) = some ir_check_polite := by kernel_rfl
theorem irok_is_polite : cSs 80 { G0 with N := ([("rules" : Str), ("asks" : Str)] : List Str), sc := sc 47 } (bd 47) = some ir_is_polite := by kernel_rfl
theorem irok_soonest : cSs 80 { G0 with N := ([("rules" : Str), ("asks" : Str), ("many" : Str), ("since" : Str)] : List Str), sc := sc 48 } (bd 48) = some ir_soonest := by kernel_rfl
theorem irok_most_table : cSs 80 { G0 with N := ([("limits" : Str), ("moments" : Str)] : List Str), sc := sc 49 } (bd 49) = some ir_most_table := by kernel_rfl
theorem irok_tidied : cSs 80 { G0 with N := ([("limits" : Str)] : List Str), sc := sc 50 } (bd 50) = some ir_tidied := by kernel_rfl
theorem irok_tidied_hours : cSs 80 { G0 with N := ([("hours" : Str)] : List Str), sc := sc 51 } (bd 51) = some ir_tidied_hours := by kernel_rfl
theorem irok_joined : cSs 80 { G0 with N := ([("limits" : Str), ("other" : Str), ("found" : Str)] : List Str), sc := sc 52 } (bd 52) = some ir_joined := by kernel_rfl
theorem irok_is_up_to : cSs 80 { G0 with N := ([("many" : Str), ("bound" : Str)] : List Str), sc := sc 54 } (bd 54) = some ir_is_up_to := by kernel_rfl
theorem irok_loose_row_by : cSs 80 { G0 with N := ([("rules" : Str), ("other" : Str), ("moment" : Str), ("hours" : Str), ("others" : Str), ("many" : Str), ("size" : Str)] : List Str), sc := sc 55 } (bd 55) = some ir_loose_row_by := by kernel_rfl
theorem irok_is_stricter_by : cSs 80 { G0 with N := ([("limits" : Str), ("other" : Str)] : List Str), sc := sc 56 } (bd 56) = some ir_is_stricter_by := by kernel_rfl
theorem irok_parting_row_by : cSs 80 { G0 with N := ([("rules" : Str), ("other" : Str), ("found" : Str)] : List Str), sc := sc 57 } (bd 57) = some ir_parting_row_by := by kernel_rfl
theorem irok_are_alike_limits : cSs 80 { G0 with N := ([("limits" : Str), ("other" : Str)] : List Str), sc := sc 59 } (bd 59) = some ir_are_alike_limits := by kernel_rfl
theorem irok_are_alike_rules : cSs 80 { G0 with N := ([("rules" : Str), ("other" : Str)] : List Str), sc := sc 60 } (bd 60) = some ir_are_alike_rules := by kernel_rfl
theorem irok__law_well : cSs 80 { G0 with N := ([("_law_script" : Str), ("_law_turn" : Str), ("_law_mixed" : Str), ("_law_each" : Str), ("_law_cell" : Str), ("_law_digits" : Str)] : List Str), sc := sc 62 } (bd 62) = some ir__law_well := by kernel_rfl
theorem irok__law_pick : cSs 80 { G0 with N := ([("_law_well_here" : Str), ("_law_top" : Str), ("_law_digit" : Str)] : List Str), sc := sc 63 } (bd 63) = some ir__law_pick := by kernel_rfl
theorem irok__law_one : cSs 80 { G0 with N := ([("_law_well_here" : Str), ("_law_some" : Str)] : List Str), sc := sc 64 } (bd 64) = some ir__law_one := by kernel_rfl
theorem irok__law_open : cSs 80 { G0 with N := ([("_law_clock" : Str), ("_law_time" : Str)] : List Str), sc := sc 65 } (bd 65) = some ir__law_open := by kernel_rfl
theorem irok__law_wrong_at : cSs 80 { G0 with N := ([("_law_pairs" : Str), ("_law_clock" : Str), ("_law_row" : Str), ("_law_at" : Str), ("_law_time" : Str), ("_law_pair" : Str), ("_law_other" : Str)] : List Str), sc := sc 66 } (bd 66) = some ir__law_wrong_at := by kernel_rfl
theorem irok__law_soonest : cSs 80 { G0 with N := ([("_law_pairs" : Str), ("_law_clock" : Str), ("_law_row" : Str), ("_law_number" : Str), ("_law_start" : Str), ("_law_line" : Str), ("_law_turn" : Str), ("_law_time" : Str), ("_law_pair" : Str), ("_law_step" : Str)] : List Str), sc := sc 67, kf := true } (bd 67) = some ir__law_soonest := by kernel_rfl
theorem irok__law_some_limits : cSs 80 { G0 with N := ([("_law_well_here" : Str), ("_law_top" : Str), ("_law_width" : Str), ("_law_number" : Str), ("_law_turn" : Str)] : List Str), sc := sc 68 } (bd 68) = some ir__law_some_limits := by kernel_rfl
theorem irok__law_some_hours : cSs 80 { G0 with N := ([("_law_well_here" : Str), ("_law_top" : Str), ("_law_row" : Str), ("_law_turn" : Str)] : List Str), sc := sc 69 } (bd 69) = some ir__law_some_hours := by kernel_rfl
theorem irok__law_some_row : cSs 80 { G0 with N := ([("_law_well_here" : Str), ("_law_pairs" : Str), ("_law_clock" : Str), ("_law_number" : Str), ("_law_top" : Str), ("_law_line" : Str), ("_law_turn" : Str), ("_law_ahead" : Str)] : List Str), sc := sc 70 } (bd 70) = some ir__law_some_row := by kernel_rfl
theorem irok__law_seven : cSs 80 { G0 with N := ([("_law_pairs" : Str)] : List Str), sc := sc 71 } (bd 71) = some ir__law_seven := by kernel_rfl
theorem irok__law_tidy : cSs 80 { G0 with N := ([("_law_pairs" : Str), ("_law_k" : Str), ("_law_found" : Str), ("_law_seven_here" : Str)] : List Str), sc := sc 72 } (bd 72) = some ir__law_tidy := by kernel_rfl
theorem irok__law_other_limits : cSs 80 { G0 with N := ([("_law_well_here" : Str), ("_law_pairs" : Str), ("_law_way" : Str), ("_law_at" : Str), ("_law_seven_here" : Str), ("_law_k" : Str), ("_law_first" : Str), ("_law_wide" : Str)] : List Str), sc := sc 73 } (bd 73) = some ir__law_other_limits := by kernel_rfl
theorem irok__law_rows : cSs 80 { G0 with N := ([("_law_well_here" : Str), ("_law_pairs" : Str), ("_law_other" : Str), ("_law_listed" : Str), ("_law_turn" : Str), ("_law_row" : Str), ("_law_at" : Str)] : List Str), sc := sc 74 } (bd 74) = some ir__law_rows := by kernel_rfl
theorem irok__law_joined : cSs 80 { G0 with N := ([("_law_pairs" : Str), ("_law_other" : Str)] : List Str), sc := sc 75 } (bd 75) = some ir__law_joined := by kernel_rfl
theorem irok__law_hours_right : cSs 80 { G0 with N := ([("_law_well_here" : Str), ("_law_clock" : Str), ("_law_fit" : Str), ("_law_size" : Str), ("_law_time" : Str)] : List Str), sc := sc 76 } (bd 76) = some ir__law_hours_right := by kernel_rfl
theorem irok__law_ladder_right : cSs 80 { G0 with N := ([("_law_well_here" : Str), ("_law_ladder" : Str), ("_law_due" : Str), ("_law_at" : Str), ("_law_size" : Str), ("_law_one_here" : Str), ("_law_other" : Str), ("_law_k" : Str), ("_law_wide" : Str)] : List Str), sc := sc 77 } (bd 77) = some ir__law_ladder_right := by kernel_rfl
theorem irok__law_right : cSs 80 { G0 with N := ([("_law_well_here" : Str), ("_law_pairs" : Str), ("_law_other" : Str), ("_law_is_alike" : Str), ("_law_answers" : Str), ("_law_both" : Str), ("_law_row" : Str), ("_law_told" : Str), ("_law_due" : Str), ("_law_shared" : Str), ("_law_crews" : Str), ("_law_truths" : Str), ("_law_each" : Str)] : List Str), sc := sc 78 } (bd 78) = some ir__law_right := by kernel_rfl
theorem irok_law : cSs 80 { G0 with N := ([("_law_script" : Str), ("_law_turn" : Str)] : List Str), sc := sc 79 } (bd 79) = some ir_law := by kernel_rfl
end T
set_option maxRecDepth 100000
set_option maxHeartbeats 1000000
namespace Pol
/-! ### the greedy asks one by one; tidied limits -/
def ok1 (P : Lim) : Prop := ∀ p ∈ P, 1 ≤ p.1 ∧ 1 ≤ p.2
theorem okP.ok1 {P : Lim} {K W : Int} (h : okP P K W) : Pol.ok1 P := fun p hp => ⟨(h p hp).1, (h p hp).2.2.1⟩
def ak (P : Lim) (k : Nat) : Int := nxt P [1] (soon P [1] k [] 0) 0
theorem ak_at {P : Lim} {n i : Nat} (h : i < n) : (soon P [1] n [] 0).getD i 0 = ak P i := by
  have := soon_at (P := P) (C := [1]) (A := []) (s := 0) h
  rwa [List.nil_append] at this
theorem ak_get {P : Lim} {n i : Nat} (h : i < (soon P [1] n [] 0).length) : (soon P [1] n [] 0)[i] = ak P i := by
  have e := ak_at (P := P) (n := n) (i := i) (by rw [soon_length] at h; exact h)
  rw [List.getD_eq_getElem?_getD, List.getElem?_eq_getElem h] at e
  exact e
theorem ak_back {P : Lim} {k : Nat} {p : Int × Int} (h1 : 1 ≤ p.1) (h2 : p.1.toNat ≤ k) : back (soon P [1] k [] 0) p.1 = ak P (k - p.1.toNat) := by
  unfold back
  rw [soon_length]
  exact ak_at (by omega)
theorem ak_le {P : Lim} (hp : ok1 P) {k : Nat} {t : Int} : ak P k ≤ t ↔ 0 ≤ t ∧ (1 ≤ k → ak P (k - 1) ≤ t) ∧ ∀ p ∈ P, p.1.toNat ≤ k → ak P (k - p.1.toNat) + p.2 ≤ t := by
  have e : ak P k = low P (soon P [1] k [] 0) 0 := nxt_one ..
  rw [e, low_le]
  constructor
  · rintro ⟨h1, h2, h3⟩
    refine ⟨h1, fun hk => ?_, fun p hm hk => ?_⟩
    · apply h2
      rw [List.getLast?_eq_getElem?, soon_length, List.getElem?_eq_getElem (by rw [soon_length]; omega), ak_get]
      rfl
    · have := h3 p hm (by rw [soon_length]; have := hp p hm; omega)
      rwa [ak_back (hp p hm).1 hk] at this
  · rintro ⟨h1, h2, h3⟩
    refine ⟨h1, fun x hx => ?_, fun p hm hk => ?_⟩
    · rw [List.getLast?_eq_getElem?, soon_length] at hx
      by_cases hk : 1 ≤ k
      · rw [List.getElem?_eq_getElem (by rw [soon_length]; omega), ak_get] at hx
        cases hx
        exact h2 hk
      · have : k = 0 := by omega
        subst this
        simp [soon] at hx
    · rw [soon_length] at hk
      have := h3 p hm (by omega)
      rwa [ak_back (hp p hm).1 (by omega)]
theorem ak_nn {P : Lim} (hp : ok1 P) (k : Nat) : 0 ≤ ak P k := ((ak_le hp).mp (Int.le_refl _)).1
theorem ak_up {P : Lim} (hp : ok1 P) (k : Nat) : ak P k ≤ ak P (k + 1) := ((ak_le (k := k + 1) hp).mp (Int.le_refl _)).2.1 (by omega)
theorem ak_step {P : Lim} (hp : ok1 P) {k : Nat} {p : Int × Int} (hm : p ∈ P) (hk : p.1.toNat ≤ k) : ak P (k - p.1.toNat) + p.2 ≤ ak P k := ((ak_le hp).mp (Int.le_refl _)).2.2 p hm hk
theorem ak_0 {P : Lim} (hp : ok1 P) : ak P 0 = 0 := by
  have h1 := ak_nn hp 0
  have h2 : ak P 0 ≤ 0 := (ak_le hp).mpr ⟨Int.le_refl _, fun h => by omega, fun p hm h => by have := hp p hm; omega⟩
  omega
/-- a polite row's asks k apart: as far as the greedy ones -/
theorem row_far {P : Lim} (hp : ok1 P) {M : List Int} (hu : up M) (hm : pol P [1] M) {i k : Nat} (h : i + k < M.length) : M.getD i 0 + ak P k ≤ M.getD (i + k) 0 := by
  have e : M = M.take i ++ M.drop i := (List.take_append_drop i M).symm
  have hm2 : pol P [1] (M.drop i) := by
    rw [e] at hm
    exact pol_back (fun p h => (hp p h).1) hm
  have hu2 : up (M.drop i) := List.Pairwise.sublist (List.drop_sublist ..) hu
  have hge : ∀ x ∈ M.drop i, M.getD i 0 ≤ x := by
    intro x hx
    obtain ⟨j, hj, rfl⟩ := List.mem_iff_getElem.mp hx
    rw [List.length_drop] at hj
    have := up_get hu (show i ≤ i + j by omega) (by omega)
    rw [List.getElem_drop]
    rw [List.getD_eq_getElem?_getD, List.getD_eq_getElem?_getD, List.getElem?_eq_getElem (show i + j < M.length by omega)] at this
    rw [List.getD_eq_getElem?_getD]
    exact this
  have h1 := (ge_soon hu2 hm2 hge (k + 1) (by rw [List.length_drop]; omega)).2 k
  rw [soon_shift0 (fun p h => (hp p h).1), List.getD_eq_getElem?_getD, List.getElem?_map, List.getElem?_eq_getElem (by rw [soon_length]; omega), ak_get] at h1
  have hM : ((M.drop i).take (k + 1)).getD k 0 = M.getD (i + k) 0 := by
    rw [List.getD_eq_getElem?_getD, List.getElem?_take_of_lt (by omega), List.getElem?_drop, ← List.getD_eq_getElem?_getD]
  rw [hM] at h1
  simp only [Option.map_some, Option.getD_some] at h1
  omega
theorem ak_pol {P : Lim} (n : Nat) : pol P [1] (soon P [1] n [] 0) := by
  have := soon_pol (P := P) okC_one n (L := []) (s := 0) (fun i h => by simp at h)
  simpa using this
theorem ak_super {P : Lim} (hp : ok1 P) (i j : Nat) : ak P i + ak P j ≤ ak P (i + j) := by
  have := row_far hp (soon_up' (P := P) (C := [1]) (s := 0) (n := i + j + 1)) (ak_pol _) (i := i) (k := j) (by rw [soon_length]; omega)
  rwa [ak_at (by omega), ak_at (by omega)] at this
theorem ak_le_of {P : Lim} (hp : ok1 P) {i j : Nat} (h : i ≤ j) : ak P i ≤ ak P j := by
  have h1 := ak_super hp i (j - i)
  have h2 := ak_nn hp (j - i)
  rw [show i + (j - i) = j by omega] at h1
  omega
/-- P's greedy asks keep Q -/
def st (P Q : Lim) : Prop := ∀ q ∈ Q, q.2 ≤ ak P q.1.toNat
theorem st_ge {P Q : Lim} (hp : ok1 P) (hq : ok1 Q) (h : st P Q) : ∀ k, ak Q k ≤ ak P k := by
  intro k
  induction k using Nat.strongRecOn with
  | ind k ih =>
    rw [ak_le hq]
    refine ⟨ak_nn hp k, fun hk => ?_, fun q hm hk => ?_⟩
    · have h1 := ih (k - 1) (by omega)
      have h2 := ak_up hp (k - 1)
      rw [show k - 1 + 1 = k by omega] at h2
      omega
    · have h0 := hq q hm
      have h1 := ih (k - q.1.toNat) (by omega)
      have h2 := h q hm
      have h3 := ak_super hp (k - q.1.toNat) q.1.toNat
      rw [show k - q.1.toNat + q.1.toNat = k by omega] at h3
      omega
theorem ge_st {P Q : Lim} (hq : ok1 Q) (h6 : ∀ q ∈ Q, q.1 ≤ 6) (h : ∀ k, k ≤ 6 → ak Q k ≤ ak P k) : st P Q := fun q hm => by
  have h0 := hq q hm
  have h1 := h6 q hm
  have h2 := h q.1.toNat (by omega)
  have h3 := ak_step hq hm (Nat.le_refl q.1.toNat)
  rw [Nat.sub_self, ak_0 hq] at h3
  omega
theorem pol_iff {P : Lim} (hp : ok1 P) {M : List Int} : pol P [1] M ↔ ∀ p ∈ P, ∀ i, i + p.1.toNat < M.length → M.getD i 0 + p.2 ≤ M.getD (i + p.1.toNat) 0 := by
  have key : ∀ p ∈ P, ∀ j, j < M.length → p.1.toNat ≤ j → back (M.take j) p.1 = M.getD (j - p.1.toNat) 0 := fun p hm j hj hk => by
    have := hp p hm
    unfold back
    rw [List.length_take, Nat.min_eq_left (by omega), List.getD_eq_getElem?_getD, List.getElem?_take_of_lt (by omega), ← List.getD_eq_getElem?_getD]
  constructor
  · intro h p hm i hi
    have h1 := may_one.mp (h (i + p.1.toNat) hi) p hm (by rw [List.length_take]; have := hp p hm; omega)
    rw [key p hm _ hi (by omega)] at h1
    rwa [show i + p.1.toNat - p.1.toNat = i by omega] at h1
  · intro h j hj
    rw [may_one]
    intro p hm hk
    rw [List.length_take] at hk
    have h0 := hp p hm
    rw [key p hm j hj (by omega)]
    have := h p hm (j - p.1.toNat) (by omega)
    rwa [show j - p.1.toNat + p.1.toNat = j by omega] at this
theorem st_pol {P Q : Lim} (hp : ok1 P) (hq : ok1 Q) (h : st P Q) {M : List Int} (hu : up M) (hm : pol P [1] M) : pol Q [1] M := by
  rw [pol_iff hq]
  intro q hq1 i hi
  have h1 := row_far hp hu hm hi
  have h2 := h q hq1
  omega
theorem pol_app {P Q : Lim} (hp : ok1 P) (hq : ok1 Q) {M : List Int} : pol (P ++ Q) [1] M ↔ pol P [1] M ∧ pol Q [1] M := by
  have ho : ok1 (P ++ Q) := fun p h => by
    rcases List.mem_append.mp h with h | h
    · exact hp p h
    · exact hq p h
  rw [pol_iff ho, pol_iff hp, pol_iff hq]
  constructor
  · intro h; exact ⟨fun p hm => h p (List.mem_append_left _ hm), fun p hm => h p (List.mem_append_right _ hm)⟩
  · rintro ⟨h1, h2⟩ p hm
    rcases List.mem_append.mp hm with hm | hm
    · exact h1 p hm
    · exact h2 p hm
/-! ### tidied -/
def tdF (P : Lim) : Nat → Lim
  | 0 => []
  | k + 1 => if ak P (k + 1) > ak (tdF P k) (k + 1) then tdF P k ++ [(((k + 1 : Nat) : Int), ak P (k + 1))] else tdF P k
def td (P : Lim) : Lim := tdF P 6
theorem tdF_mem {P : Lim} (hp : ok1 P) : ∀ k, (∀ q ∈ tdF P k, 1 ≤ q.1 ∧ q.1 ≤ k ∧ 1 ≤ q.2 ∧ q.2 = ak P q.1.toNat)
  | 0 => fun q h => by cases h
  | k + 1 => by
    have ih := tdF_mem hp k
    have hF : ok1 (tdF P k) := fun q h => ⟨(ih q h).1, (ih q h).2.2.1⟩
    intro q h
    unfold tdF at h
    split at h
    · rename_i hgt
      rcases List.mem_append.mp h with h | h
      · have := ih q h
        refine ⟨this.1, by push_cast; omega, this.2.2⟩
      · simp only [List.mem_singleton] at h
        subst h
        have := ak_nn hF (k + 1)
        refine ⟨by push_cast; omega, Int.le_refl _, by show 1 ≤ ak P (k + 1); omega, ?_⟩
        show ak P (k + 1) = ak P (((k + 1 : Nat) : Int)).toNat
        rw [Int.toNat_natCast]
    · have := ih q h
      refine ⟨this.1, by push_cast; omega, this.2.2⟩
theorem tdF_ok {P : Lim} (hp : ok1 P) (k : Nat) : ok1 (tdF P k) := fun q h => ⟨(tdF_mem hp k q h).1, (tdF_mem hp k q h).2.2.1⟩
theorem tdF_le {P : Lim} (hp : ok1 P) (k j : Nat) : ak (tdF P k) j ≤ ak P j :=
  st_ge hp (tdF_ok hp k) (fun q h => by have := (tdF_mem hp k q h).2.2.2; omega) j
theorem ak_app {F : Lim} {q : Int × Int} (hF : ok1 F) (hq : 1 ≤ q.1 ∧ 1 ≤ q.2) : ∀ j : Nat, (j : Int) < q.1 → ak (F ++ [q]) j = ak F j := by
  have hF2 : ok1 (F ++ [q]) := fun p h => by
    rcases List.mem_append.mp h with h | h
    · exact hF p h
    · simp only [List.mem_singleton] at h; subst h; exact hq
  intro j
  induction j using Nat.strongRecOn with
  | ind j ih =>
    intro hj
    have h1 : ak (F ++ [q]) j ≤ ak F j := by
      rw [ak_le hF2]
      refine ⟨ak_nn hF j, fun hk => ?_, fun p hm hk => ?_⟩
      · rw [ih (j - 1) (by omega) (by omega)]
        have := ak_up hF (j - 1)
        rwa [show j - 1 + 1 = j by omega] at this
      · rcases List.mem_append.mp hm with hm | hm
        · have := hF p hm
          rw [ih (j - p.1.toNat) (by omega) (by omega)]
          exact ak_step hF hm hk
        · simp only [List.mem_singleton] at hm; subst hm; omega
    have h2 : ak F j ≤ ak (F ++ [q]) j := by
      rw [ak_le hF]
      refine ⟨ak_nn hF2 j, fun hk => ?_, fun p hm hk => ?_⟩
      · rw [← ih (j - 1) (by omega) (by omega)]
        have := ak_up hF2 (j - 1)
        rwa [show j - 1 + 1 = j by omega] at this
      · have := hF p hm
        rw [← ih (j - p.1.toNat) (by omega) (by omega)]
        exact ak_step hF2 (List.mem_append_left _ hm) hk
    omega
theorem tdF_succ (P : Lim) (k : Nat) : tdF P (k + 1) = if ak P (k + 1) > ak (tdF P k) (k + 1) then tdF P k ++ [(((k + 1 : Nat) : Int), ak P (k + 1))] else tdF P k := rfl
theorem tdF_eq {P : Lim} (hp : ok1 P) : ∀ k j, j ≤ k → ak (tdF P k) j = ak P j
  | 0, j, h => by
    have : j = 0 := by omega
    subst this
    rw [ak_0 hp, ak_0 (tdF_ok hp 0)]
  | k + 1, j, h => by
    have hF := tdF_ok hp k
    have hle := tdF_le hp (k + 1) j
    by_cases q : j ≤ k
    · have e := tdF_eq hp k j q
      rw [tdF_succ]
      split
      · rename_i hgt
        have := ak_nn hF (k + 1)
        rw [ak_app (q := (((k + 1 : Nat) : Int), ak P (k + 1))) hF ⟨by push_cast; omega, by show 1 ≤ ak P (k + 1); omega⟩ j (by push_cast; omega)]
        exact e
      · exact e
    · have : j = k + 1 := by omega
      subst this
      have hok := tdF_ok hp (k + 1)
      revert hle hok
      show ak (tdF P (k + 1)) (k + 1) ≤ _ → _ → ak (tdF P (k + 1)) (k + 1) = _
      rw [tdF_succ]
      split
      · intro hle hok
        have := ak_step (k := k + 1) hok (List.mem_append_right _ (List.mem_singleton.mpr rfl)) (by simp)
        simp only [Int.toNat_natCast, Nat.sub_self, ak_0 hok] at this
        omega
      · intro hle hok; omega
theorem td_ok {P : Lim} (hp : ok1 P) : ok1 (td P) := tdF_ok hp 6
theorem td_6 {P : Lim} (hp : ok1 P) : ∀ q ∈ td P, q.1 ≤ 6 := fun q h => (tdF_mem hp 6 q h).2.1
theorem td_ak {P : Lim} (hp : ok1 P) (h6 : ∀ q ∈ P, q.1 ≤ 6) (k : Nat) : ak (td P) k = ak P k := by
  have h1 : st P (td P) := fun q h => by have := (tdF_mem hp 6 q h).2.2.2; omega
  have h2 : st (td P) P := ge_st hp h6 fun k hk => by rw [show ak (td P) k = ak P k from tdF_eq hp 6 k hk]; exact Int.le_refl _
  have := st_ge hp (td_ok hp) h1 k
  have := st_ge (td_ok hp) hp h2 k
  omega
/-- what is added was said -/
theorem tdF_why {P : Lim} (hp : ok1 P) {k : Nat} (h : ak P (k + 1) > ak (tdF P k) (k + 1)) : ∃ p ∈ P, p.1 = ((k + 1 : Nat) : Int) ∧ ak (tdF P k) (k + 1) < p.2 := by
  by_cases q : ∃ p ∈ P, p.1 = ((k + 1 : Nat) : Int) ∧ ak (tdF P k) (k + 1) < p.2
  · exact q
  · exfalso
    have hF := tdF_ok hp k
    have : ak P (k + 1) ≤ ak (tdF P k) (k + 1) := by
      rw [ak_le hp]
      refine ⟨ak_nn hF _, fun _ => ?_, fun p hm hk => ?_⟩
      · rw [Nat.add_sub_cancel, ← tdF_eq hp k k (Nat.le_refl _)]
        exact ak_up hF k
      · have h0 := hp p hm
        by_cases e : p.1 = ((k + 1 : Nat) : Int)
        · have e2 : k + 1 - p.1.toNat = 0 := by omega
          rw [e2, ak_0 hp]
          have : ¬ ak (tdF P k) (k + 1) < p.2 := fun h => q ⟨p, hm, e, h⟩
          omega
        · have h1 := ak_step hp hm (Nat.le_refl p.1.toNat)
          rw [Nat.sub_self, ak_0 hp] at h1
          rw [← tdF_eq hp k (k + 1 - p.1.toNat) (by omega)]
          rw [← tdF_eq hp k p.1.toNat (by omega)] at h1
          have h2 := ak_super hF (k + 1 - p.1.toNat) p.1.toNat
          rw [show k + 1 - p.1.toNat + p.1.toNat = k + 1 by omega] at h2
          omega
    omega
theorem tdF_len {P : Lim} (hp : ok1 P) : ∀ k, (tdF P k).length ≤ P.countP fun p => decide (p.1 ≤ (k : Int))
  | 0 => Nat.zero_le _
  | k + 1 => by
    have ih := tdF_len hp k
    have hmono : ∀ l : Lim, (l.countP fun p => decide (p.1 ≤ (k : Int))) + (l.countP fun p => decide (p.1 = ((k + 1 : Nat) : Int))) ≤ l.countP fun p => decide (p.1 ≤ ((k + 1 : Nat) : Int)) := by
      intro l
      induction l with
      | nil => simp
      | cons p l ihl =>
        simp only [List.countP_cons, decide_eq_true_eq]
        push_cast at ihl ⊢
        repeat' split
        all_goals omega
    have := hmono P
    unfold tdF
    split
    · rename_i hgt
      obtain ⟨p, hm, he, _⟩ := tdF_why hp hgt
      have : 1 ≤ P.countP fun p => decide (p.1 = ((k + 1 : Nat) : Int)) := List.countP_pos_iff.mpr ⟨p, hm, by simpa using he⟩
      rw [List.length_append, List.length_singleton]
      omega
    · omega
theorem td_len {P : Lim} (hp : ok1 P) : (td P).length ≤ P.length := Nat.le_trans (tdF_len hp 6) (List.countP_le_length)
theorem tdF_12 {P : Lim} {W : Int} (hp : ok1 P) (h12 : ∀ p ∈ P, p.2 ≤ W) (h0 : 0 ≤ W) : ∀ k, ∀ q ∈ tdF P k, q.2 ≤ W
  | 0 => fun q h => by cases h
  | k + 1 => by
    intro q h
    unfold tdF at h
    split at h
    · rename_i hgt
      rcases List.mem_append.mp h with h | h
      · exact tdF_12 hp h12 h0 k q h
      · simp only [List.mem_singleton] at h
        subst h
        show ak P (k + 1) ≤ W
        obtain ⟨p0, hm0, _, hlt⟩ := tdF_why hp hgt
        have hW := h12 p0 hm0
        have hF := tdF_ok hp k
        rw [ak_le hp]
        refine ⟨h0, fun _ => ?_, fun p hm hk => ?_⟩
        · rw [Nat.add_sub_cancel, ← tdF_eq hp k k (Nat.le_refl _)]
          have := ak_up hF k
          omega
        · have hp0 := hp p hm
          by_cases e : p.1 = ((k + 1 : Nat) : Int)
          · have e2 : k + 1 - p.1.toNat = 0 := by omega
            rw [e2, ak_0 hp]
            have := h12 p hm
            omega
          · have h1 := ak_step hp hm (Nat.le_refl p.1.toNat)
            rw [Nat.sub_self, ak_0 hp] at h1
            rw [← tdF_eq hp k (k + 1 - p.1.toNat) (by omega)]
            rw [← tdF_eq hp k p.1.toNat (by omega)] at h1
            have h2 := ak_super hF (k + 1 - p.1.toNat) p.1.toNat
            rw [show k + 1 - p.1.toNat + p.1.toNat = k + 1 by omega] at h2
            omega
    · exact tdF_12 hp h12 h0 k q h
theorem tdF_congr {P Q : Lim} (h : ∀ k, k ≤ 6 → ak P k = ak Q k) : ∀ k, k ≤ 6 → tdF P k = tdF Q k
  | 0, _ => rfl
  | k + 1, hk => by
    unfold tdF
    rw [tdF_congr h k (by omega), h (k + 1) hk]
theorem td_congr {P Q : Lim} (h : ∀ k, k ≤ 6 → ak P k = ak Q k) : td P = td Q := tdF_congr h 6 (Nat.le_refl _)
theorem td_td {P : Lim} (hp : ok1 P) : td (td P) = td P := td_congr fun k hk => tdF_eq hp 6 k hk
theorem td_inj {P Q : Lim} (hp : ok1 P) (hq : ok1 Q) (h : td P = td Q) (k : Nat) (hk : k ≤ 6) : ak P k = ak Q k := by
  rw [← tdF_eq hp 6 k hk, ← tdF_eq hq 6 k hk]
  show ak (td P) k = ak (td Q) k
  rw [h]
end Pol
set_option maxRecDepth 100000
set_option maxHeartbeats 1000000
namespace T
open PySem PySem.Spec Vm Pol
theorem r_is_whole (n : Nat) (i : Int) : runD dfs (n + 1) i_is_whole [.d (.int i)] = .ok (.d (.bool true), []) := by
  rw [run_is_whole]
  simp [ir_is_whole]
theorem r_is_between (n : Nat) (i a b : Int) : runD dfs (n + 2) i_is_between [.d (.int i), .d (.int a), .d (.int b)] = .ok (.d (.bool (decide (a ≤ i ∧ i ≤ b))), []) := by
  rw [run_is_between]
  simp [ir_is_between, r_is_whole]
theorem r_is_from (n : Nat) (i a : Int) : runD dfs (n + 2) i_is_from [.d (.int i), .d (.int a)] = .ok (.d (.bool (decide (a ≤ i))), []) := by
  rw [run_is_from]
  simp [ir_is_from, r_is_whole]
theorem r_is_tuple_up_to (n : Nat) (ds : List D) (a b : Int) : runD dfs (n + 1) i_is_tuple_up_to [.d (.tuple ds), .d (.int a), .d (.int b)] = .ok (.d (.bool (decide (a ≤ ds.length ∧ ds.length ≤ b))), []) := by
  rw [run_is_tuple_up_to]
  simp [ir_is_tuple_up_to]
theorem r_is_limit (n : Nat) (p : Int × Int) : runD dfs (n + 3) i_is_limit [.d (iP p)] = .ok (.d (.bool (decide ((1 ≤ p.1 ∧ p.1 ≤ 6) ∧ 1 ≤ p.2 ∧ p.2 ≤ 12))), []) := by
  rw [run_is_limit]
  simp [ir_is_limit, r_is_tuple_up_to, r_is_between]
  by_cases h : 1 ≤ p.1 ∧ p.1 ≤ 6 <;> simp [h]
theorem r_are_limits (n : Nat) (P : Lim) (hl : P.length ≤ 4) (hp : okP P 6 12) : runD dfs (n + 4) i_are_limits [.d (iPs P)] = .ok (.d (.bool true), []) := by
  have h1 : (P.length : Int) ≤ 4 := by omega
  rw [run_are_limits]
  simp [ir_are_limits, r_is_tuple_up_to, h1]
  rw [lc_pure (fun p => iP p) (fun _ => true) (fun p => .bool true)]
  · simp
  · omega
  · intro p h
    have := hp p h
    simp [r_is_limit]
    omega
def okH (C : List Int) : Prop := 1 ≤ C.length ∧ C.length ≤ 12 ∧ okC C ∧ ∀ x ∈ C, 0 ≤ x ∧ x ≤ 1
theorem r_are_hours (n : Nat) (C : List Int) (h : okH C) : runD dfs (n + 4) i_are_hours [.d (iT C)] = .ok (.d (.bool true), []) := by
  obtain ⟨h1, h2, h3, h4⟩ := h
  have h1' : (1 : Int) ≤ C.length := by omega
  have h2' : (C.length : Int) ≤ 12 := by omega
  rw [run_are_hours]
  simp [ir_are_hours, r_is_tuple_up_to, h1', h2']
  rw [lc_pure (fun p => .int p) (fun _ => true) (fun p => .bool true)]
  · simp [memD, flatD, eqF]
    exact h3
  · omega
  · intro p h
    have := h4 p h
    simp [r_is_between]
    omega
theorem r_is_rules_pair (n : Nat) (P : Lim) (C : List Int) (hl : P.length ≤ 4) (hp : okP P 6 12) (h : okH C) : runD dfs (n + 5) i_is_rules_pair [.d (iPs P), .d (iT C)] = .ok (.d (.bool true), []) := by
  rw [run_is_rules_pair]
  simp [ir_is_rules_pair, r_are_limits n P hl hp, r_are_hours n C h]
theorem r_is_open_at (n : Nat) (C : List Int) (t : Int) (h : 1 ≤ C.length) : runD dfs (n + 1) i_is_open_at [.d (iT C), .d (.int t)] = .ok (.d (.bool (opn C t)), []) := by
  have h1 : (0 : Int) < C.length := by omega
  have h2 := Int.emod_nonneg t (by omega : (C.length : Int) ≠ 0)
  have h3 := Int.emod_lt_of_pos t h1
  rw [run_is_open_at]
  obtain ⟨x, e⟩ : ∃ x, C[(t % (C.length : Int)).toNat]? = some x := ⟨_, List.getElem?_eq_getElem (by omega)⟩
  have h0 : 0 < C.length := by omega
  simp [ir_is_open_at, h0, atI_pos h2, e, opn]
  rfl
def crowd (P : Lim) (L : List Int) (i : Nat) : Bool := P.any fun p => decide (p.1 ≤ i) && decide (L.getD i 0 < L.getD (i - p.1).toNat 0 + p.2)
theorem r_is_crowded (n : Nat) (P : Lim) (L : List Int) (i : Nat) (hP : P.length ≤ 16777216) (hp : ∀ p ∈ P, 1 ≤ p.1) (hi : i < L.length) : runD dfs (n + 1) i_is_crowded [.d (iPs P), .d (iT L), .d (.int i)] = .ok (.d (.bool (crowd P L i)), []) := by
  rw [run_is_crowded]
  simp [ir_is_crowded]
  rw [lc_pure (fun p => iP p) (fun _ => true) (fun p => .bool (decide (p.1 ≤ i) && decide (L.getD i 0 < L.getD (i - p.1).toNat 0 + p.2)))]
  · simp [crowd]
  · omega
  · intro p h
    have := hp p h
    by_cases h1 : p.1 ≤ i
    · obtain ⟨x, e⟩ : ∃ x, L[((i : Int) - p.1).toNat]? = some x := ⟨_, List.getElem?_eq_getElem (by omega)⟩
      simp [h1, hi, atI_pos (xs := L) (show 0 ≤ (i : Int) - p.1 by omega), e]
    · simp [h1]
def wrong (P : Lim) (C L : List Int) : Option Nat := (List.range L.length).find? fun i => !opn C (L.getD i 0) || crowd P L i
def optI : Option Nat → D
  | none => .none
  | some i => .int i
theorem wrong_some {P : Lim} {C L : List Int} {k : Nat} (hk : k < L.length) (h : ∀ i, i < k → (!opn C (L.getD i 0) || crowd P L i) = false) (hw : (!opn C (L.getD k 0) || crowd P L k) = true) : wrong P C L = some k := by
  unfold wrong
  rw [List.find?_eq_some_iff_getElem]
  refine ⟨hw, k, by simpa using hk, by simp, fun j hj => ?_⟩
  have := h j hj
  simpa using this
theorem wrong_none {P : Lim} {C L : List Int} (h : ∀ i, i < L.length → (!opn C (L.getD i 0) || crowd P L i) = false) : wrong P C L = none := by
  unfold wrong
  rw [List.find?_eq_none]
  intro i hi
  rw [h i (by simpa using hi)]
  simp
theorem r_first_wrong_by (n : Nat) (P : Lim) (C L : List Int) (hP : P.length ≤ 16777216) (hp : ∀ p ∈ P, 1 ≤ p.1) (hC : 1 ≤ C.length) : runD dfs (n + 2) i_first_wrong_by [.d (.tuple [iPs P, iT C]), .d (iT L)] = .ok (.d (optI (wrong P C L)), []) := by
  rw [run_first_wrong_by]
  simp [ir_first_wrong_by]
  rw [← sat_iff, finish_sat]
  simp
  refine for_idx _ (fun k f => (∃ a b, f = ⟨[.d (.tuple [iPs P, iT C]), .d (iT L), .d (iPs P), .d (iT C), a, b], []⟩) ∧ ∀ i, i < k → (!opn C (L.getD i 0) || crowd P L i) = false) _ ⟨⟨_, _, rfl⟩, fun i h => by omega⟩ ?_ ?_
  · rintro k hk f ⟨⟨a, b, rfl⟩, h⟩
    rw [enumL_length, List.length_map] at hk
    have e : L.getD k 0 = L[k] := by simp [hk]
    cases h1 : opn C L[k] with
    | false =>
      have w := wrong_some hk h (by rw [e, h1]; rfl)
      simp [r_is_open_at, hC, h1, w, optI]
    | true =>
      cases h2 : crowd P L k with
      | true =>
        have w := wrong_some hk h (by rw [h2]; simp)
        simp [r_is_open_at, r_is_crowded n P L k hP hp hk, hC, h1, h2, w, optI]
      | false =>
        simp [r_is_open_at, r_is_crowded n P L k hP hp hk, hC, h1, h2]
        intro i hi
        by_cases q : i < k
        · have := h i q; simpa using this
        · have : i = k := by omega
          subst this
          simp [hk, h1, h2]
  · rintro f ⟨⟨a, b, rfl⟩, h⟩
    simp at h
    rw [wrong_none (by simpa using h)]
    simp [optI]
theorem crowd_iff {P : Lim} {L : List Int} {i : Nat} (hp : ∀ p ∈ P, 1 ≤ p.1) (hi : i < L.length) : crowd P L i = false ↔ ∀ p ∈ P, p.1 ≤ ((L.take i).length : Int) → back (L.take i) p.1 + p.2 ≤ L.getD i 0 := by
  unfold crowd
  rw [← Bool.not_eq_true, List.any_eq_true]
  simp only [not_exists, not_and]
  refine forall_congr' fun p => forall_congr' fun hm => ?_
  have h0 := hp p hm
  have e : (L.take i).length = i := by simp; omega
  rw [e]
  unfold back
  rw [e]
  simp only [Bool.and_eq_true, decide_eq_true_eq, not_and, Int.not_lt]
  refine forall_congr' fun hl => ?_
  have e2 : ((i : Int) - p.1).toNat = i - p.1.toNat := by omega
  have e3 : (L.take i).getD (i - p.1.toNat) 0 = L.getD (i - p.1.toNat) 0 := by
    simp only [List.getD_eq_getElem?_getD]
    rw [List.getElem?_take_of_lt (by omega)]
  rw [e2, e3]
theorem wrong_pol {P : Lim} {C L : List Int} (hp : ∀ p ∈ P, 1 ≤ p.1) : wrong P C L = none ↔ pol P C L := by
  constructor
  · intro h i hi
    unfold wrong at h
    rw [List.find?_eq_none] at h
    have := h i (by simpa using hi)
    simp only [Bool.not_eq_true, Bool.or_eq_false_iff, Bool.not_eq_false'] at this
    exact ⟨this.1, (crowd_iff hp hi).mp this.2⟩
  · intro h
    refine wrong_none fun i hi => ?_
    have := h i hi
    rw [this.1, (crowd_iff hp hi).mpr this.2]
    rfl
theorem r_is_polite_by (n : Nat) (P : Lim) (C L : List Int) (hP : P.length ≤ 16777216) (hp : ∀ p ∈ P, 1 ≤ p.1) (hC : 1 ≤ C.length) : runD dfs (n + 3) i_is_polite_by [.d (.tuple [iPs P, iT C]), .d (iT L)] = .ok (.d (.bool (decide (wrong P C L = none))), []) := by
  rw [run_is_polite_by]
  simp [ir_is_polite_by, r_first_wrong_by n P C L hP hp hC]
  cases wrong P C L <;> simp [optI]
theorem r_check_number (n : Nat) (i a b : Int) (h1 : a ≤ i) (h2 : i ≤ b) : runD dfs (n + 3) i_check_number [.d (.int i), .d (.int a), .d (.int b)] = .ok (.d .none, []) := by
  rw [run_check_number]
  simp [ir_check_number, r_is_between, h1, h2]
theorem r_check_moment (n : Nat) (i : Int) (h1 : 0 ≤ i) : runD dfs (n + 3) i_check_moment [.d (.int i)] = .ok (.d .none, []) := by
  rw [run_check_moment]
  simp [ir_check_moment, r_is_from, h1]
theorem r_are_some_rules (n : Nat) (P : Lim) (C : List Int) (hl : P.length ≤ 4) (hp : okP P 6 12) (h : okH C) : runD dfs (n + 6) i_are_some_rules [.d (.tuple [iPs P, iT C])] = .ok (.d (.bool true), []) := by
  rw [run_are_some_rules]
  simp [ir_are_some_rules, r_is_tuple_up_to, r_is_rules_pair n P C hl hp h]
theorem r_check_rules (n : Nat) (P : Lim) (C : List Int) (hl : P.length ≤ 4) (hp : okP P 6 12) (h : okH C) : runD dfs (n + 7) i_check_rules [.d (.tuple [iPs P, iT C])] = .ok (.d .none, []) := by
  rw [run_check_rules]
  simp [ir_check_rules, r_are_some_rules n P C hl hp h]
/-- asks as they are to be: ascending from 0 on -/
def okA (L : List Int) : Prop := up L ∧ ∀ x ∈ L, 0 ≤ x
theorem r_check_asks (n : Nat) (L : List Int) (hl : L.length ≤ 200) (h : okA L) : runD dfs (n + 3) i_check_asks [.d (iT L)] = .ok (.d .none, []) := by
  have h1 : (L.length : Int) ≤ 200 := by omega
  rw [run_check_asks]
  simp [ir_check_asks, r_is_tuple_up_to, h1, hl]
  rw [← sat_iff, finish_sat]
  simp
  refine for_idx _ (fun k f => (∃ a b, f = ⟨[.d (iT L), a, b], []⟩)) _ ⟨_, _, rfl⟩ ?_ ?_
  · rintro k hk f ⟨a, b, rfl⟩
    rw [enumL_length, List.length_map] at hk
    have h2 := h.2 L[k] (List.getElem_mem _)
    by_cases hk0 : k = 0
    · subst hk0
      simp [r_is_from, h2]
    · obtain ⟨j, rfl⟩ : ∃ j, k = j + 1 := ⟨k - 1, by omega⟩
      have e1 : ((j : Int) + 1) - 1 = (j : Int) := by omega
      have e2 : ¬ L[j + 1] < L[j] := by
        have := List.pairwise_iff_getElem.mp h.1 j (j + 1) (by omega) hk (by omega)
        omega
      simp [r_is_from, h2, e1, e2, show j < L.length by omega, show (0 : Int) < (j : Int) + 1 by omega]
  · rintro f ⟨a, b, rfl⟩
    simp
theorem r_check_polite (n : Nat) (P : Lim) (C L : List Int) (hP : P.length ≤ 16777216) (hp : ∀ p ∈ P, 1 ≤ p.1) (hC : 1 ≤ C.length) (h : pol P C L) : runD dfs (n + 3) i_check_polite [.d (.tuple [iPs P, iT C]), .d (iT L)] = .ok (.d .none, []) := by
  rw [run_check_polite]
  have w := (wrong_pol hp).mpr h
  simp [ir_check_polite, r_first_wrong_by n P C L hP hp hC, w, optI]
theorem r_next_ask (n : Nat) (P : Lim) (C L : List Int) (s : Int) (hP : P.length ≤ 16777000) (hp : ∀ p ∈ P, 1 ≤ p.1) (hC : okC C) (hC2 : C.length ≤ 900000) :
    runD dfs (n + 2) i_next_ask [.d (.tuple [iPs P, iT C]), .r (.lst (L.map .int)), .d (.int s)] = .ok (.d (.int (nxt P C L s)), [.own (.lst (L.map .int))]) := by
  have hC1 : 1 ≤ C.length := by
    cases C with
    | nil => cases hC
    | cons => simp
  rw [run_next_ask]
  simp [ir_next_ask]
  rw [lc_pure (fun p => iP p) (fun p => decide (p.1 ≤ (L.length : Int))) (fun p => .int (back L p.1 + p.2))]
  · have hl := List.length_filter_le (fun p : Int × Int => decide (p.1 ≤ (L.length : Int))) P
    have hl2 := optLen L.getLast?
    have hl4 : (P.filter fun p : Int × Int => decide (p.1 ≤ (L.length : Int))).map (fun p => PyData.int (back L p.1 + p.2)) = (bnds P L).map .int := by simp [bnds]
    have hl5 : (bnds P L).length ≤ P.length := by simpa [bnds] using hl
    rw [hl4]
    simp (disch := first | omega | (simp; done) | (simp; omega)) [szB_of, optMapList]
    rw [← sat_iff, finish_sat]
    have hlow : maxI s (L.getLast?.toList ++ bnds P L) = low P L s := maxI_fold _ _
    simp [hlow]
    have hn := upO_ge C C.length (low P L s)
    have ho := nxt_opn (P := P) (L := L) (s := s) hC
    refine whl_sat (fun m f => ∃ t, f = ⟨[.d (.tuple [iPs P, iT C]), .c 0, .d (.int s), .own (.lst ((bnds P L).map .int)), .d (.int t), .d (iPs P), .d (iT C), .no, .no], [.own (.lst (L.map .int))]⟩ ∧ low P L s ≤ t ∧ t ≤ nxt P C L s ∧ m = (nxt P C L s - t).toNat) ?_ _ (nxt P C L s - low P L s).toNat _ (by unfold nxt fuel; omega) ⟨_, rfl, Int.le_refl _, nxt_low P C L s, rfl⟩
    rintro m f ⟨t, rfl, h1, h2, rfl⟩
    cases h : opn C t with
    | true =>
      have e : t = nxt P C L s := by have := nxt_least h1 h; omega
      subst e
      simp [r_is_open_at, hC1, ho]
    | false =>
      have h3 : t ≠ nxt P C L s := by intro z; rw [z, ho] at h; cases h
      have h4 : t + 1 ≤ nxt P C L s := by omega
      simp [r_is_open_at, hC1, h, h4]
      omega
  · omega
  · intro p h
    have := hp p h
    by_cases h1 : p.1 ≤ (L.length : Int)
    · obtain ⟨x, e⟩ : ∃ x, L[(-p.1 + L.length).toNat]? = some x := ⟨_, List.getElem?_eq_getElem (by omega)⟩
      have e2 : L.length - p.1.toNat = (-p.1 + L.length).toNat := by omega
      simp [h1, atI_neg (xs := L) (show -p.1 < 0 by omega) (by omega), e, back, e2]
    · simp [h1]
theorem soon_snoc (P : Lim) (C : List Int) (j : Nat) (L : List Int) (s : Int) : soon P C (j + 1) L s = soon P C j L s ++ [nxt P C (L ++ soon P C j L s) s] := by
  rw [soon_add]
  simp [soon]
theorem r_soonest_by (n : Nat) (P : Lim) (C L : List Int) (s : Int) (k : Nat) (hP : P.length ≤ 16777000) (hp : ∀ p ∈ P, 1 ≤ p.1) (hC : okC C) (hC2 : C.length ≤ 900000) (hL : L.length + k ≤ 16777000) :
    runD dfs (n + 3) i_soonest_by [.d (.tuple [iPs P, iT C]), .d (iT L), .d (.int k), .d (.int s)] = .ok (.d (iT (soon P C k L s)), []) := by
  have hk : okR 0 k = true := okR_of (by omega) (by omega) (by omega) (by omega) (by omega)
  rw [run_soonest_by]
  simp [ir_soonest_by, hk]
  rw [← sat_iff, finish_sat]
  simp
  refine for_idx _ (fun j f => ∃ x, f = ⟨[.d (.tuple [iPs P, iT C]), .d (iT L), .d (.int k), .d (.int s), .own (.lst ((L ++ soon P C j L s).map .int)), x], []⟩) _ ⟨_, by simp [soon]; rfl⟩ ?_ ?_
  · rintro j hj f ⟨x, rfl⟩
    simp at hj
    have hlen := soon_length P C j L s
    have := r_next_ask n P C (L ++ soon P C j L s) s hP hp hC hC2
    simp at this
    simp (disch := first | omega | (simp; done) | (simp; omega)) [this, szL_of]
    rw [soon_snoc]
    simp
  · rintro f ⟨x, rfl⟩
    simp
abbrev W3 (d m c : Int) : Ob := .lst [.int d, .int m, .int c]
/-- a well, any -/
def IsW (o : Ob) : Prop := ∃ d m c, o = W3 d m c
/-- data, and the well that was drawn from -/
def Gives (Q : D → Prop) (p : RR × List SV) : Prop := ∃ x w, Q x ∧ IsW w ∧ p = (.d x, [.own w])
def GivesW (p : RR × List SV) : Prop := ∃ w, IsW w ∧ p = (.fr w, [])
theorem r_pick (n : Nat) (w : Ob) (hw : IsW w) (top : Int) (h1 : 0 < top) (h2 : top < 1073741824) :
    (runD dfs (n + 1) i__law_pick [.r w, .d (.int top)]).Sat (Gives fun x => ∃ r : Int, x = .int r ∧ 0 ≤ r ∧ r < top) := by
  obtain ⟨d, m, c, rfl⟩ := hw
  rw [run__law_pick, finish_sat]
  by_cases hd : 0 < d
  · simp [ir__law_pick, hd, h1, h2, L2.ixN]
    exact ⟨_, _, ⟨_, rfl, Int.emod_nonneg _ (by omega), Int.emod_lt_of_pos _ h1⟩, ⟨_, _, _, rfl⟩, rfl⟩
  · simp [ir__law_pick, hd, h1, h2, L2.ixN]
    exact ⟨_, _, ⟨_, rfl, Int.emod_nonneg _ (by omega), Int.emod_lt_of_pos _ h1⟩, ⟨_, _, _, rfl⟩, rfl⟩
theorem r_one (n : Nat) (w : Ob) (hw : IsW w) (a : Vm.Arg) (ds : List D) (ha : a = .o (.lst ds) ∨ a = .d (.tuple ds) ∨ a = .d (.list ds)) (h1 : 0 < ds.length) (h2 : ds.length < 1073741824) :
    (runD dfs (n + 2) i__law_one [.r w, a]).Sat (Gives fun x => x ∈ ds) := by
  rw [run__law_one, finish_sat]
  rcases ha with rfl | rfl | rfl <;>
  · simp [ir__law_one]
    refine (r_pick n w hw ds.length (by omega) (by omega)).mono ?_
    rintro _ ⟨_, w', ⟨r, rfl, h3, h4⟩, h5, rfl⟩
    obtain ⟨x, e⟩ : ∃ x, ds[r.toNat]? = some x := ⟨_, List.getElem?_eq_getElem (by omega)⟩
    simp [atI_pos h3, e]
    exact ⟨_, _, List.mem_of_getElem? e, h5, rfl⟩
theorem r_law_open (n : Nat) (C : List Int) (t : Int) (h : 1 ≤ C.length) : runD dfs (n + 1) i__law_open [.d (iT C), .d (.int t)] = .ok (.d (.bool (opn C t)), []) := by
  have h1 : (0 : Int) < C.length := by omega
  have h2 := Int.emod_nonneg t (by omega : (C.length : Int) ≠ 0)
  have h3 := Int.emod_lt_of_pos t h1
  rw [run__law_open]
  obtain ⟨x, e⟩ : ∃ x, C[(t % (C.length : Int)).toNat]? = some x := ⟨_, List.getElem?_eq_getElem (by omega)⟩
  have h0 : 0 < C.length := by omega
  simp [ir__law_open, h0, atI_pos h2, e, opn]
  rfl
theorem cutD_mem {xs : List D} {lo hi : Option Int} {x : D} (h : x ∈ cutD xs lo hi) : x ∈ xs := List.mem_of_mem_drop (List.mem_of_mem_take h)
theorem r_well (n : Nat) (ns : List Int) (t : Nat) : (runD dfs (n + 1) i__law_well [.d (iL ns), .d (.int t)]).Sat GivesW := by
  rw [run__law_well, finish_sat]
  simp [ir__law_well]
  refine for_idx _ (fun k f => ∃ m a, f = ⟨[.d (iL ns), .d (.int t), .d (.int m), a, .no, .no], []⟩) _ ⟨_, _, rfl⟩ ?_ ?_
  · rintro k hk f ⟨m, a, rfl⟩
    have := cutD_mem (List.getElem_mem hk)
    rw [List.mem_map] at this
    obtain ⟨x, hx, e⟩ := this
    rw [← e]
    simp
  · rintro f ⟨m, a, rfl⟩
    by_cases h1 : t < ns.length
    · obtain ⟨x, e⟩ : ∃ x, ns[t]? = some x := ⟨_, List.getElem?_eq_getElem h1⟩
      simp [h1, e]
      exact ⟨_, ⟨_, _, _, rfl⟩, rfl⟩
    · simp [h1]
      exact ⟨_, ⟨_, _, _, rfl⟩, rfl⟩
theorem cnt_take (L : List Int) (k : Nat) (hk : k < L.length) (W : Int) (hW : 1 ≤ W) : cnt (L.take (k + 1)) L[k] W = cnt (L.take k) L[k] W + 1 := by
  rw [← List.take_append_getElem hk, cnt_snoc, if_pos (by omega)]
theorem pol_cnt {P : Lim} {C L : List Int} (hp : ∀ p ∈ P, 1 ≤ p.1 ∧ 1 ≤ p.2) (hu : up L) (h : pol P C L) (k : Nat) (hk : k < L.length) : opn C L[k] = true ∧ ∀ p ∈ P, (cnt (L.take (k + 1)) L[k] p.2 : Int) ≤ p.1 := by
  have h1 := h k hk
  have e : L.getD k 0 = L[k] := by simp [hk]
  rw [e, may_cnt (hu.sublist (List.take_sublist _ _)) (fun p hm => (hp p hm).1)] at h1
  refine ⟨h1.1, fun p hm => ?_⟩
  have h2 := h1.2 p hm
  rw [cnt_take L k hk p.2 (hp p hm).2]
  omega
theorem filt_cnt (L : List Int) (t W : Int) : (L.filter fun x => decide (t - W < x)).length = cnt L t W := rfl
theorem r_wrong_at (n : Nat) (P : Lim) (C L : List Int) (hp : ∀ p ∈ P, 1 ≤ p.1 ∧ 1 ≤ p.2) (hC : 1 ≤ C.length) (hL : L.length ≤ 16777216) (hu : up L) (h : pol P C L) : runD dfs (n + 2) i__law_wrong_at [.d (iPs P), .d (iT C), .d (iT L)] = .ok (.d .none, []) := by
  rw [run__law_wrong_at, ← sat_iff, finish_sat]
  simp [ir__law_wrong_at]
  refine for_idx _ (fun k f => ∃ a b c, f = ⟨[.d (iPs P), .d (iT C), .d (iT L), a, b, c, .no], []⟩) _ ⟨_, _, _, rfl⟩ ?_ ?_
  · rintro k hk f ⟨a, b, c, rfl⟩
    rw [enumL_length, List.length_map] at hk
    have hc := pol_cnt hp hu h k hk
    simp [r_law_open, hC, hc.1]
    refine for_idx _ (fun j f => ∃ c, f = ⟨[.d (iPs P), .d (iT C), .d (iT L), .d (.int k), .d (.int L[k]), c, .no], []⟩) _ ⟨_, rfl⟩ ?_ ?_
    · rintro j hj f ⟨c, rfl⟩
      rw [List.length_map] at hj
      have hc2 := hc.2 P[j] (List.getElem_mem _)
      simp
      rw [← List.map_take, lc_pure (fun x => .int x) (fun x => decide (L[k] - P[j].2 < x)) (fun x => .int x)]
      · simp [filt_cnt]
        rw [if_neg (by omega)]
        simp
      · simp; omega
      · intro x hx
        simp
    · rintro f ⟨c, rfl⟩
      simp
  · rintro f ⟨a, b, c, rfl⟩
    simp
/-- a value of ints as it comes to a def: a tuple, a list, a list by reference -/
def seqA : Nat → List Int → Vm.Arg
  | 0, L => .d (iT L)
  | 1, L => .d (iL L)
  | _, L => .r (.lst (L.map .int))
def seqS : Nat → List Int → List SV
  | 0, _ => []
  | 1, _ => []
  | _, L => [.own (.lst (L.map .int))]
theorem low_fold (P : Lim) (L : List Int) (s : Int) : (P.foldl (fun m p => if p.1 ≤ (L.length : Int) then max m (L.getD (L.length - p.1.toNat) 0 + p.2) else m) (L.getLast?.toList.foldl max s)) = low P L s := by
  unfold low bnds
  rw [List.foldl_append]
  generalize L.getLast?.toList.foldl max s = a
  induction P generalizing a with
  | nil => rfl
  | cons p P ih =>
    rw [List.foldl_cons, ih]
    by_cases h : p.1 ≤ (L.length : Int)
    · rw [if_pos h, List.filter_cons_of_pos (by simpa using h)]
      rfl
    · rw [if_neg h, List.filter_cons_of_neg (by simpa using h)]
theorem upO_for (C : List Int) (n : Nat) (t : Int) : upO C n (upO C 1 t) = upO C (n + 1) t := by
  by_cases h : opn C t = true
  · have e : upO C 1 t = t := by simp [upO, h]
    rw [e]
    conv => rhs; unfold upO
    rw [if_pos h]
    cases n with
    | zero => rfl
    | succ n => unfold upO; rw [if_pos h]
  · have e : upO C 1 t = t + 1 := by simp [upO, h]
    rw [e]
    conv => rhs; unfold upO
    rw [if_neg h]
theorem upO_snoc (C : List Int) (n : Nat) (t : Int) : upO C (n + 1) t = upO C 1 (upO C n t) := by
  induction n generalizing t with
  | zero => rfl
  | succ n ih =>
    rw [← upO_for, ih, upO_for]
theorem foldl_take_succ {α β : Type} (g : β → α → β) (b : β) (l : List α) (j : Nat) (h : j < l.length) : (l.take (j + 1)).foldl g b = g ((l.take j).foldl g b) l[j] := by
  rw [← List.take_append_getElem h, List.foldl_append]
  rfl
theorem law_soonest_loop (n : Nat) (P : Lim) (C L : List Int) (k : Nat) (s : Int) (hp : ∀ p ∈ P, 1 ≤ p.1) (hC : 1 ≤ C.length) (hC2 : C.length ≤ 900000) (hL : L.length + k ≤ 16777000) (X : LV) (S : List SV) :
    (forLoop (xSs (runD dfs (n + 1)) (forB ir__law_soonest 1)) (.name 6) (rangeL 0 k) ⟨[.d (iPs P), .d (iT C), X, .d (.int k), .d (.int s), .own (.lst (L.map .int)), .no, .no, .no, .no], S⟩).Sat
      { nx := fun f => ∃ a b c d, f = ⟨[.d (iPs P), .d (iT C), X, .d (.int k), .d (.int s), .own (.lst ((L ++ soon P C k L s).map .int)), a, b, c, d], S⟩ } := by
  have hc : okR 0 C.length = true := okR_of (by omega) (by omega) (by omega) (by omega) (by omega)
  refine for_idx _ (fun j f => ∃ a b c d, f = ⟨[.d (iPs P), .d (iT C), X, .d (.int k), .d (.int s), .own (.lst ((L ++ soon P C j L s).map .int)), a, b, c, d], S⟩) _ ⟨.no, .no, .no, .no, by simp [soon]⟩ ?_ ?_
  · rintro j hj f ⟨a, b, c, d, rfl⟩
    simp at hj
    have hlen := soon_length P C j L s
    rw [soon_snoc]
    generalize hM : L ++ soon P C j L s = M
    have hM2 : M.length = L.length + j := by rw [← hM]; simp [hlen]
    have hl2 := optLen M.getLast?
    simp (disch := first | omega | (simp; done) | (simp; omega)) [forB, ir__law_soonest, szB_of, optMapList, maxI_fold]
    refine for_idx _ (fun i f => ∃ c, f = ⟨[.d (iPs P), .d (iT C), X, .d (.int k), .d (.int s), .own (.lst (M.map .int)), .d (.int j), .d (.int ((P.take i).foldl (fun m p => if p.1 ≤ (M.length : Int) then max m (M.getD (M.length - p.1.toNat) 0 + p.2) else m) (M.getLast?.toList.foldl max s))), c, d], S⟩) _ ⟨_, by simp; rfl⟩ ?_ ?_
    · rintro i hi f ⟨c, rfl⟩
      rw [List.length_map] at hi
      rw [foldl_take_succ _ _ _ _ hi]
      generalize (P.take i).foldl (fun m p => if p.1 ≤ (M.length : Int) then max m (M.getD (M.length - p.1.toNat) 0 + p.2) else m) (M.getLast?.toList.foldl max s) = v
      have hp1 := hp P[i] (List.getElem_mem _)
      by_cases hq : P[i].1 ≤ (M.length : Int)
      · obtain ⟨x, e⟩ : ∃ x, M[((M.length : Int) - P[i].1).toNat]? = some x := ⟨M[((M.length : Int) - P[i].1).toNat]'(by omega), List.getElem?_eq_getElem _⟩
        have e2 : M.length - P[i].1.toNat = ((M.length : Int) - P[i].1).toNat := by omega
        simp [hq, atI_pos (xs := M) (show 0 ≤ (M.length : Int) - P[i].1 by omega), e, e2]
        omega
      · simp [hq]
    · rintro f ⟨c, rfl⟩
      rw [List.length_map, List.take_length, low_fold]
      simp [hc]
      refine for_idx _ (fun i f => ∃ d, f = ⟨[.d (iPs P), .d (iT C), X, .d (.int k), .d (.int s), .own (.lst (M.map .int)), .d (.int j), .d (.int (upO C i (low P M s))), c, d], S⟩) _ ⟨_, rfl⟩ ?_ ?_
      · rintro i hi f ⟨d, rfl⟩
        rw [upO_snoc]
        generalize upO C i (low P M s) = v
        cases ho : opn C v with
        | true => simp [r_law_open, hC, ho, upO]
        | false => simp [r_law_open, hC, ho, upO]
      · rintro f ⟨d, rfl⟩
        have e : M.length < 16777216 := by omega
        simp [szL_of e, nxt]
        rw [← hM]
        simp
  · rintro f ⟨a, b, c, d, rfl⟩
    simp
theorem r_law_soonest (m : Nat) (n : Nat) (P : Lim) (C L : List Int) (k : Nat) (s : Int) (hp : ∀ p ∈ P, 1 ≤ p.1) (hC : 1 ≤ C.length) (hC2 : C.length ≤ 900000) (hL : L.length + k ≤ 16777000) :
    runD dfs (n + 2) i__law_soonest [.d (iPs P), .d (iT C), seqA m L, .d (.int k), .d (.int s)] = .ok (.fr (.lst ((soon P C k L s).map .int)), seqS m L) := by
  have hk : okR 0 k = true := okR_of (by omega) (by omega) (by omega) (by omega) (by omega)
  rw [run__law_soonest, ← sat_iff, finish_sat]
  match m with
  | 0 =>
    simp [ir__law_soonest, seqA, seqS, hk]
    refine (law_soonest_loop n P C L k s hp hC hC2 hL _ _).mono ?_ (fun _ _ h => h.elim) (fun _ h => h.elim) (fun _ h => h.elim)
    rintro f ⟨a, b, c, d, rfl⟩
    simp
  | 1 =>
    simp [ir__law_soonest, seqA, seqS, hk]
    refine (law_soonest_loop n P C L k s hp hC hC2 hL _ _).mono ?_ (fun _ _ h => h.elim) (fun _ h => h.elim) (fun _ h => h.elim)
    rintro f ⟨a, b, c, d, rfl⟩
    simp
  | m + 2 =>
    simp [ir__law_soonest, seqA, seqS, hk]
    refine (law_soonest_loop n P C L k s hp hC hC2 hL _ _).mono ?_ (fun _ _ h => h.elim) (fun _ h => h.elim) (fun _ h => h.elim)
    rintro f ⟨a, b, c, d, rfl⟩
    simp
theorem r_some_limits (n : Nat) (w : Ob) (hw : IsW w) (top width : Int) (h1 : 0 < top) (h2 : top < 1073741824) (h3 : 0 < width) (h4 : width < 1073741824) :
    (runD dfs (n + 3) i__law_some_limits [.r w, .d (.int top), .d (.int width)]).Sat (Gives fun x => ∃ P : Lim, x = iPs P ∧ P.length ≤ 4 ∧ okP P top width) := by
  rw [run__law_some_limits, finish_sat]
  simp [ir__law_some_limits]
  refine (r_one n w hw _ _ (.inl rfl) (by simp) (by simp)).mono ?_
  rintro _ ⟨x, w', hx, hw', rfl⟩
  obtain ⟨k, rfl, hk⟩ : ∃ k : Nat, x = .int k ∧ k ≤ 4 := by
    simp at hx
    rcases hx with rfl | rfl | rfl | rfl | rfl
    · exact ⟨1, rfl, by omega⟩
    · exact ⟨2, rfl, by omega⟩
    · exact ⟨3, rfl, by omega⟩
    · exact ⟨4, rfl, by omega⟩
    · exact ⟨0, rfl, by omega⟩
  have hok : okR 0 k = true := okR_of (by omega) (by omega) (by omega) (by omega) (by omega)
  simp [hok]
  refine lc_idx _ (fun j acc f => (∃ w, IsW w ∧ f = ⟨[.c 0, .d (.int top), .d (.int width), .d (.int k), .no], [.own w]⟩) ∧ ∃ P : Lim, acc = P.map iP ∧ P.length = j ∧ okP P top width) _ ⟨⟨w', hw', rfl⟩, [], rfl, rfl, fun p hp => by cases hp⟩ ?_ ?_
  · rintro j hj acc f ⟨⟨w, hw, rfl⟩, P, rfl, hl, hP⟩
    simp at hj
    simp
    refine (r_pick (n + 1) w hw top h1 h2).mono ?_
    rintro _ ⟨_, w1, ⟨r1, rfl, a1, a2⟩, hw1, rfl⟩
    simp
    refine (r_pick (n + 1) w1 hw1 width h3 h4).mono ?_
    rintro _ ⟨_, w2, ⟨r2, rfl, b1, b2⟩, hw2, rfl⟩
    simp
    refine ⟨by omega, hw2, P ++ [(1 + r1, 1 + r2)], by simp, by simp [hl], ?_⟩
    intro p hp
    rw [List.mem_append] at hp
    rcases hp with hp | hp
    · exact hP p hp
    · simp at hp; subst hp; simp; omega
  · rintro acc f ⟨⟨w, hw, rfl⟩, P, rfl, hl, hP⟩
    simp at hl
    simp
    exact ⟨_, _, ⟨P, rfl, by omega, hP⟩, hw, rfl⟩
theorem r_some_hours (n : Nat) (w : Ob) (hw : IsW w) (top : Int) (h1 : 0 < top) (h2 : top ≤ 12) :
    (runD dfs (n + 3) i__law_some_hours [.r w, .d (.int top)]).Sat (Gives fun x => ∃ C : List Int, x = iT C ∧ okH C) := by
  rw [run__law_some_hours, finish_sat]
  simp [ir__law_some_hours]
  refine (r_pick (n + 1) w hw top h1 (by omega)).mono ?_
  rintro _ ⟨_, w1, ⟨r, rfl, a1, a2⟩, hw1, rfl⟩
  have hok : okR 0 (1 + r) = true := okR_of (by omega) (by omega) (by omega) (by omega) (by omega)
  simp [hok]
  refine lc_idx _ (fun j acc f => (∃ w, IsW w ∧ f = ⟨[.c 0, .d (.int top), .no, .no], [.own w]⟩) ∧ ∃ C : List Int, acc = C.map .int ∧ C.length = j ∧ ∀ x ∈ C, 0 ≤ x ∧ x ≤ 1) _ ⟨⟨w1, hw1, rfl⟩, [], rfl, rfl, fun p hp => by cases hp⟩ ?_ ?_
  · rintro j hj acc f ⟨⟨w, hw, rfl⟩, C, rfl, hl, hC⟩
    simp at hj
    simp
    refine (r_one n w hw _ _ (.inl rfl) (by simp) (by simp)).mono ?_
    rintro _ ⟨x, w', hx, hw', rfl⟩
    obtain ⟨k, rfl, hk, hk2⟩ : ∃ k : Int, x = .int k ∧ 0 ≤ k ∧ k ≤ 1 := by
      simp at hx
      rcases hx with rfl | rfl
      · exact ⟨1, rfl, by omega, by omega⟩
      · exact ⟨0, rfl, by omega, by omega⟩
    simp
    refine ⟨by omega, hw', C ++ [k], by simp, by simp [hl], ?_⟩
    intro x hx
    rw [List.mem_append] at hx
    rcases hx with hx | hx
    · exact hC x hx
    · simp at hx; subst hx; omega
  · rintro acc f ⟨⟨w, hw, rfl⟩, C, rfl, hl, hC⟩
    simp at hl
    simp
    refine (r_pick (n + 1) w hw C.length (by omega) (by omega)).mono ?_
    rintro _ ⟨_, w2, ⟨r2, rfl, b1, b2⟩, hw2, rfl⟩
    have e : L2.ixN C.length r2 = some r2.toNat := by
      unfold L2.ixN
      rw [if_pos b1, if_pos b2]
    simp [e]
    rw [← List.map_set]
    refine ⟨_, _, ⟨C.set r2.toNat 1, by simp, by simp; omega, by simp; omega, List.mem_set (by omega) 1, ?_⟩, hw2, rfl⟩
    intro x hx
    rcases List.mem_or_eq_of_mem_set hx with hx | rfl
    · exact hC x hx
    · omega
theorem last_le {L : List Int} {B : Int} (h : ∀ x ∈ L, x ≤ B) (hB : 0 ≤ B) (s : Int) (hs : s ≤ B) : L.getLast?.toList.foldl max s ≤ B := by
  rw [foldmax_le]
  refine ⟨hs, fun x hx => h x ?_⟩
  rw [Option.mem_toList] at hx
  exact List.mem_of_getLast? hx
theorem r_some_row (n : Nat) (w : Ob) (hw : IsW w) (P : Lim) (C : List Int) (k : Nat) (top : Int) (h1 : 0 ≤ top) (h2 : top ≤ 100) (hk : k ≤ 100) (hP : okP P 6 12) (hC : okH C) :
    (runD dfs (n + 4) i__law_some_row [.r w, .d (iPs P), .d (iT C), .d (.int k), .d (.int top)]).Sat (Gives fun x => ∃ L : List Int, x = iT L ∧ L.length = k ∧ okA L ∧ pol P C L ∧ ∀ x ∈ L, x ≤ 200 * k) := by
  have hok : okR 0 k = true := okR_of (by omega) (by omega) (by omega) (by omega) (by omega)
  rw [run__law_some_row, finish_sat]
  simp [ir__law_some_row, hok]
  obtain ⟨J, hJ⟩ := opq fun (j : Nat) (f : F) => ∃ w L a b, IsW w ∧ f = ⟨[.c 0, .d (iPs P), .d (iT C), .d (.int k), .d (.int top), .own (.lst (L.map .int)), a, b], [.own w]⟩ ∧ L.length = j ∧ okA L ∧ pol P C L ∧ ∀ x ∈ L, x ≤ 200 * j
  refine for_idx _ J _ (by rw [hJ]; exact ⟨w, [], _, _, hw, rfl, rfl, ⟨List.Pairwise.nil, by simp⟩, fun i hi => by simp at hi, by simp⟩) ?_ ?_
  · intro j hj f h
    rw [hJ] at h
    obtain ⟨w, L, a, b, hw, rfl, hl, hA, hp, hb⟩ := h
    simp at hj
    have hl2 := optLen L.getLast?
    have hm := last_le hb (by omega) 0 (by omega)
    have hm2 : 0 ≤ L.getLast?.toList.foldl max 0 := (foldmax_le.mp (Int.le_refl _)).1
    rw [← maxI_fold] at hm hm2
    simp (disch := first | omega | (simp; done) | (simp; omega)) [szB_of, optMapList]
    generalize maxI 0 L.getLast?.toList = v at hm hm2 ⊢
    refine (r_pick (n + 2) w hw (top + 1) (by omega) (by omega)).mono ?_
    rintro _ ⟨_, w1, ⟨r, rfl, a1, a2⟩, hw1, rfl⟩
    simp
    refine (r_one (n + 1) w1 hw1 _ _ (.inl rfl) (by simp) (by simp)).mono ?_
    rintro _ ⟨x, w2, hx, hw2, rfl⟩
    obtain ⟨d, rfl, hd, hd2⟩ : ∃ d : Int, x = .int d ∧ 0 ≤ d ∧ d ≤ 100 := by
      simp at hx
      rcases hx with rfl | rfl | rfl
      · exact ⟨0, rfl, by omega, by omega⟩
      · exact ⟨1, rfl, by omega, by omega⟩
      · exact ⟨r, rfl, by omega, by omega⟩
    have := r_law_soonest 2 (n + 1) P C L 1 (v + d) (fun p h => (hP p h).1) hC.1 (by have := hC.2.1; omega) (by omega)
    simp [seqA, seqS, soon] at this
    simp (disch := first | omega | (simp; done) | (simp; omega)) [this, szB_of]
    have hge := nxt_since P C L (v + d)
    have hbd := nxt_bound (P := P) (C := C) (L := L) (s := v + d) (B := 200 * j + 100) (W := 12) (by omega) (fun p h => ⟨(hP p h).1, (hP p h).2.2.2⟩) (by omega) (fun x hx => by have := hb x hx; omega)
    have hlst := nxt_last P C L (v + d)
    have hC2 := hC.2.1
    rw [hJ]
    refine ⟨_, L ++ [nxt P C L (v + d)], .d (.int j), .d (.int (v + d)), hw2, by simp, by simp [hl], ⟨up_snoc.mpr ⟨hA.1, up_last hA.1 hlst⟩, ?_⟩, pol_snoc.mpr ⟨hp, nxt_may hC.2.2.1⟩, ?_⟩
    · intro x hx
      rw [List.mem_append] at hx
      rcases hx with hx | hx
      · exact hA.2 x hx
      · simp at hx; omega
    · intro x hx
      rw [List.mem_append] at hx
      rcases hx with hx | hx
      · have := hb x hx; omega
      · simp at hx; omega
  · intro f h
    rw [hJ] at h
    obtain ⟨w, L, a, b, hw, rfl, hl, hA, hp, hb⟩ := h
    simp at hl hb
    simp
    exact ⟨_, _, ⟨L, rfl, hl, hA, hp, hb⟩, hw, rfl⟩
theorem r_soonest (n : Nat) (P : Lim) (C L : List Int) (k : Nat) (s : Int) (hl : P.length ≤ 4) (hp : okP P 6 12) (hC : okH C) (hA : okA L) (hL : L.length ≤ 200) (hpol : pol P C L) (hk : k ≤ 100) (hs : 0 ≤ s) :
    runD dfs (n + 8) i_soonest [.d (.tuple [iPs P, iT C]), .d (iT L), .d (.int k), .d (.int s)] = .ok (.d (iT (soon P C k L s)), []) := by
  have hp1 : ∀ p ∈ P, 1 ≤ p.1 := fun p h => (hp p h).1
  have hC2 := hC.2.1
  rw [run_soonest]
  simp [ir_soonest, r_check_rules n P C hl hp hC, r_check_asks (n + 4) L hL hA, r_check_number (n + 4) k 0 100 (by omega) (by omega), r_check_moment (n + 4) s hs,
    r_check_polite (n + 4) P C L (by omega) hp1 hC.1 hpol, r_soonest_by (n + 4) P C L s k (by omega) hp1 hC.2.2.1 (by omega) (by omega)]
theorem r_is_polite (n : Nat) (P : Lim) (C L : List Int) (hl : P.length ≤ 4) (hp : okP P 6 12) (hC : okH C) (hA : okA L) (hL : L.length ≤ 200) (hpol : pol P C L) :
    runD dfs (n + 8) i_is_polite [.d (.tuple [iPs P, iT C]), .d (iT L)] = .ok (.d (.bool true), []) := by
  have hp1 : ∀ p ∈ P, 1 ≤ p.1 := fun p h => (hp p h).1
  have w := (wrong_pol hp1).mpr hpol
  rw [run_is_polite]
  simp [ir_is_polite, r_check_rules n P C hl hp hC, r_check_asks (n + 4) L hL hA, r_is_polite_by (n + 4) P C L (by omega) hp1 hC.1, w]
theorem okP.mono {P : Lim} {a b c d : Int} (h : okP P a b) (h1 : a ≤ c) (h2 : b ≤ d) : okP P c d := fun p hp => by
  have := h p hp
  omega
theorem soon_bd {P : Lim} {C : List Int} (hp : okP P 6 12) (hC : okH C) (n : Nat) {L : List Int} {s B : Int} (hs : s ≤ B) (hL : ∀ x ∈ L, x ≤ B) : ∀ x ∈ soon P C n L s, x ≤ B + 24 * n := by
  induction n generalizing L B with
  | zero => intro x hx; cases hx
  | succ n ih =>
    have h1 := nxt_bound (P := P) (C := C) (L := L) (s := s) (B := B) (W := 12) (by omega) (fun p h => ⟨(hp p h).1, (hp p h).2.2.2⟩) hs hL
    have h2 := hC.2.1
    intro x hx
    simp only [soon, List.mem_cons] at hx
    rcases hx with rfl | hx
    · omega
    · have := ih (L := L ++ [nxt P C L s]) (B := B + 24) (by omega) (fun y hy => by
        rw [List.mem_append, List.mem_singleton] at hy
        rcases hy with hy | rfl
        · have := hL y hy; omega
        · omega) x hx
      omega
theorem okA_soon {P : Lim} {C : List Int} (n : Nat) {L : List Int} {s : Int} (hA : okA L) (hs : 0 ≤ s) : okA (L ++ soon P C n L s) := by
  refine ⟨soon_up n hA.1, fun x hx => ?_⟩
  rw [List.mem_append] at hx
  rcases hx with hx | hx
  · exact hA.2 x hx
  · have := soon_since P C n L s x hx; omega
theorem soon_last {P : Lim} {C : List Int} (n : Nat) {L : List Int} {s : Int} (hA : okA L) : ∀ x ∈ soon P C n L s, ∀ y ∈ L, y ≤ x := by
  have h := soon_up (P := P) (C := C) n (s := s) hA.1
  unfold up at h
  rw [List.pairwise_append] at h
  exact fun x hx y hy => h.2.2 y hy x hx
theorem soon_get {P : Lim} {C A : List Int} {s : Int} {K i : Nat} (hK : i < K) : (soon P C K A s).getD i 0 = nxt P C (A ++ (soon P C K A s).take i) s := by
  rw [soon_take P C (Nat.le_of_lt hK)]
  have h1 := soon_snoc P C i A s
  have h2 : (soon P C K A s).take (i + 1) = soon P C (i + 1) A s := soon_take P C hK A s
  have h3 : ((soon P C K A s).take (i + 1)).getD i 0 = (soon P C K A s).getD i 0 := by
    simp [List.getD_eq_getElem?_getD]
  rw [← h3, h2, h1]
  have := soon_length P C i A s
  simp [List.getD_eq_getElem?_getD, this]
@[simp] theorem norm_optI (o : Option Nat) : norm (optI o) = optI o := by cases o <;> rfl
theorem r_check_limits (n : Nat) (P : Lim) (hl : P.length ≤ 4) (hp : okP P 6 12) : runD dfs (n + 5) i_check_limits [.d (iPs P)] = .ok (.d .none, []) := by
  rw [run_check_limits]
  simp [ir_check_limits, r_are_limits n P hl hp]
theorem lt_grow {P : Lim} (hP : okP P 6 12) (hne : P ≠ []) {m j : Nat} (h : nxt P [1] (soon P [1] j [] 0) 0 < (m : Int)) : j < 6 * m := by
  apply Decidable.byContradiction
  intro z
  have h1 := soon_grow okC_one hP hne (s := 0) m (j + 1) (by omega)
  have h2 := up_get (soon_up' (P := P) (C := [1]) (s := 0) (n := j + 1)) (i := 6 * m) (j := j) (by omega) (by rw [soon_length]; omega)
  have h3 := soon_at (P := P) (C := [1]) (A := []) (s := 0) (show j < j + 1 by omega)
  rw [List.nil_append] at h3
  omega
theorem r_most_from_by (n : Nat) (P : Lim) (m : Nat) (hP : okP P 6 12) (hne : P ≠ []) (hl : P.length ≤ 4) (hm : m ≤ 1000) : runD dfs (n + 3) i_most_from_by [.d (.tuple [iPs P, iT [1]]), .d (.int 0), .d (.int m)] = .ok (.d (.int (mst P m)), []) := by
  have hp1 : ∀ p ∈ P, 1 ≤ p.1 := fun p h => (hP p h).1
  have hemp : P.isEmpty = false := by cases P with | nil => exact absurd rfl hne | cons => rfl
  rw [run_most_from_by, ← sat_iff, finish_sat]
  have h0 := r_next_ask (n + 0) P [1] [] 0 (by omega) hp1 okC_one (by simp)
  simp at h0
  simp [ir_most_from_by, hemp, h0]
  refine whl_sat (fun k f => ∃ j : Nat, f = ⟨[.d (.tuple [iPs P, iT [1]]), .d (.int 0), .d (.int m), .own (.lst ((soon P [1] j [] 0).map .int)), .d (.int (nxt P [1] (soon P [1] j [] 0) 0)), .d (iPs P), .d (iT [1]), .no], []⟩ ∧ k = 6 * m - j ∧ ∀ x ∈ soon P [1] j [] 0, x < (m : Int)) ?_ _ (6 * m) _ (by unfold fuel; omega) ⟨0, by simp [soon], by omega, by simp [soon]⟩
  rintro k f ⟨j, rfl, rfl, hj⟩
  have hlen := soon_length P [1] j [] 0
  by_cases hq : nxt P [1] (soon P [1] j [] 0) 0 < (m : Int)
  · have hj6 := lt_grow hP hne hq
    have h1 := r_next_ask n P [1] (soon P [1] (j + 1) [] 0) 0 (by omega) hp1 okC_one (by simp)
    have e : soon P [1] (j + 1) [] 0 = soon P [1] j [] 0 ++ [nxt P [1] (soon P [1] j [] 0) 0] := by
      have := soon_snoc' P [1] j [] 0
      simpa using this
    rw [e] at h1
    simp only [List.map_append, List.map_cons, List.map_nil, iT] at h1
    simp (disch := first | omega | (simp; done) | (simp; omega)) [hq, szL_of, h1, iT]
    refine ⟨6 * m - (j + 1), by omega, j + 1, ?_, rfl, ?_⟩
    · rw [e]; simp
    · rw [e]
      intro x hx
      rw [List.mem_append, List.mem_singleton] at hx
      rcases hx with hx | rfl
      · exact hj x hx
      · exact hq
  · simp [hq, hlen]
    have := mst_eq hP hne (n := 6 * m + 1) (.inl rfl) hj (by omega)
    unfold mst
    omega
/-- the most, or none where there are no limits -/
def mo (P : Lim) (m : Nat) : Option Nat := if P = [] then none else some (mst P m)
theorem r_most_by (n : Nat) (P : Lim) (m : Nat) (hP : okP P 6 12) (hl : P.length ≤ 4) (hm : m ≤ 1000) (h1 : 1 ≤ m) : runD dfs (n + 4) i_most_by [.d (iPs P), .d (.int m)] = .ok (.d (optI (mo P m)), []) := by
  rw [run_most_by]
  by_cases hne : P = []
  · subst hne
    have hok : okR 0 m = true := okR_of (by omega) (by omega) (by omega) (by omega) (by omega)
    have hf : runD dfs (n + 3) i_most_from_by [.d (.tuple [.tuple [], .tuple [.int 1]]), .d (.int 0), .d (.int m)] = .ok (.d .none, []) := by
      rw [run_most_from_by]
      have he := runEq_iPs_nil false []
      simp at he
      simp [ir_most_from_by, he, hok]
      have e : rangeL 0 (m : Int) = (List.range m).map fun i : Nat => PyData.int (i : Int) := by simp [rangeL]
      rw [e, lc_pure (fun i : Nat => PyData.int (i : Int)) (fun _ => true) (fun i => .bool true)]
      · simp
        exact ⟨0, by omega⟩
      · simp; omega
      · intro i hi
        have ho := r_is_open_at (n + 1) [1] (0 + (i : Int)) (by simp)
        rw [opn_one] at ho
        simp [iT] at ho
        simp [ho]
    simp [ir_most_by, hf, mo, optI, iPs]
  · have := r_most_from_by n P m hP hne hl hm
    simp only [iT, List.map_cons, List.map_nil] at this
    simp [ir_most_by, this, mo, hne, optI]
def upTo (o : Option Nat) (k : Int) : Bool := match o with
  | none => false
  | some a => decide ((a : Int) ≤ k)
theorem r_is_up_to (n : Nat) (o : Option Nat) (k : Int) : runD dfs (n + 1) i_is_up_to [.d (optI o), .d (.int k)] = .ok (.d (.bool (upTo o k)), []) := by
  rw [run_is_up_to]
  cases o <;> simp [ir_is_up_to, optI, upTo]
@[simp] theorem runSorted_list (ds : List D) : runSorted (.list ds) = (intsD ds).map fun ns => RR.fr (.lst ((sortI ns).map .int)) := nr rfl
/-- the law's finding: closed, or one too many -/
def bad1 (P : Lim) (C L : List Int) (i : Nat) : Bool := !opn C (L.getD i 0) || P.any fun p => decide (p.1 < (cnt (L.take (i + 1)) (L.getD i 0) p.2 : Int))
def wrg (P : Lim) (C L : List Int) : Option Nat := (List.range L.length).find? (bad1 P C L)
theorem wrg_some {P : Lim} {C L : List Int} {k : Nat} (hk : k < L.length) (h : ∀ i, i < k → bad1 P C L i = false) (hw : bad1 P C L k = true) : wrg P C L = some k := by
  unfold wrg
  rw [List.find?_eq_some_iff_getElem]
  refine ⟨hw, k, by simpa using hk, by simp, fun j hj => ?_⟩
  have := h j hj
  simpa using this
theorem wrg_none {P : Lim} {C L : List Int} (h : ∀ i, i < L.length → bad1 P C L i = false) : wrg P C L = none := by
  unfold wrg
  rw [List.find?_eq_none]
  intro i hi
  rw [h i (by simpa using hi)]
  simp
theorem any_take {α : Type} {q : α → Bool} {l : List α} {j : Nat} (h : j < l.length) (hq : q l[j] = true) : l.any q = true := List.any_eq_true.mpr ⟨_, List.getElem_mem h, hq⟩
theorem wrong_loop (n : Nat) (P : Lim) (C L : List Int) (X : LV) (S S2 : List SV) (hX : X = .d (iT L) ∧ S = [] ∧ S2 = [] ∨ X = .c 0 ∧ S = [.own (.lst (L.map .int))] ∧ S2 = [.d (iL L)]) (hC : 1 ≤ C.length) (hL : L.length ≤ 16777216) :
    Vm.finish (xSs (runD dfs (n + 1)) ir__law_wrong_at ⟨[.d (iPs P), .d (iT C), X, .no, .no, .no, .no], S⟩) = .ok (.d (optI (wrg P C L)), S2) := by
  rw [← sat_iff, finish_sat]
  rcases hX with ⟨rfl, rfl, rfl⟩ | ⟨rfl, rfl, rfl⟩
  all_goals
    simp [ir__law_wrong_at]
  · refine for_idx _ (fun k f => (∃ a b c, f = ⟨[.d (iPs P), .d (iT C), .d (iT L), a, b, c, .no], []⟩) ∧ ∀ i, i < k → bad1 P C L i = false) _ ⟨⟨_, _, _, rfl⟩, fun i h => by omega⟩ ?_ ?_
    · rintro k hk f ⟨⟨a, b, c, rfl⟩, h⟩
      rw [enumL_length, List.length_map] at hk
      have e : L.getD k 0 = L[k] := by simp [hk]
      cases ho : opn C L[k] with
      | false =>
        have w := wrg_some hk h (by unfold bad1; rw [e, ho]; rfl)
        simp [r_law_open, hC, ho, w, optI]
      | true =>
        simp [r_law_open, hC, ho]
        refine for_idx _ (fun j f => (∃ c, f = ⟨[.d (iPs P), .d (iT C), .d (iT L), .d (.int k), .d (.int L[k]), c, .no], []⟩) ∧ ∀ p ∈ P.take j, ¬ p.1 < (cnt (L.take (k + 1)) L[k] p.2 : Int)) _ ⟨⟨_, rfl⟩, fun p hp => by simp at hp⟩ ?_ ?_
        · rintro j hj f ⟨⟨c, rfl⟩, h2⟩
          rw [List.length_map] at hj
          simp
          rw [← List.map_take, lc_pure (fun x => .int x) (fun x => decide (L[k] - P[j].2 < x)) (fun x => .int x)]
          · simp [filt_cnt]
            by_cases hq : P[j].1 < (cnt (L.take (k + 1)) L[k] P[j].2 : Int)
            · have w := wrg_some hk h (by unfold bad1; rw [any_take hj (by rw [e]; simpa using hq)]; simp)
              simp [hq, w, optI]
            · simp [hq]
              intro a b hab
              rw [← List.take_append_getElem hj, List.mem_append, List.mem_singleton] at hab
              rcases hab with hab | hab
              · have := h2 _ hab; simpa using this
              · rw [← hab] at hq; simpa using hq
          · simp; omega
          · intro x hx
            simp
        · rintro f ⟨⟨c, rfl⟩, h2⟩
          rw [List.length_map, List.take_length] at h2
          have hb : bad1 P C L k = false := by
            unfold bad1
            rw [e, ho, Bool.not_true, Bool.false_or, ← Bool.not_eq_true, List.any_eq_true]
            rintro ⟨p, hp, hq⟩
            exact h2 p hp (by simpa using hq)
          simp
          intro i hi
          by_cases q : i < k
          · exact h i q
          · have : i = k := by omega
            subst this; exact hb
    · rintro f ⟨⟨a, b, c, rfl⟩, h⟩
      rw [enumL_length, List.length_map] at h
      simp [wrg_none h, optI]
  · refine for_idx _ (fun k f => (∃ a b c, f = ⟨[.d (iPs P), .d (iT C), .c 0, a, b, c, .no], [.d (iL L)]⟩) ∧ ∀ i, i < k → bad1 P C L i = false) _ ⟨⟨_, _, _, rfl⟩, fun i h => by omega⟩ ?_ ?_
    · rintro k hk f ⟨⟨a, b, c, rfl⟩, h⟩
      rw [enumL_length, List.length_map] at hk
      have e : L.getD k 0 = L[k] := by simp [hk]
      cases ho : opn C L[k] with
      | false =>
        have w := wrg_some hk h (by unfold bad1; rw [e, ho]; rfl)
        simp [r_law_open, hC, ho, w, optI]
      | true =>
        simp [r_law_open, hC, ho]
        refine for_idx _ (fun j f => (∃ c, f = ⟨[.d (iPs P), .d (iT C), .c 0, .d (.int k), .d (.int L[k]), c, .no], [.d (iL L)]⟩) ∧ ∀ p ∈ P.take j, ¬ p.1 < (cnt (L.take (k + 1)) L[k] p.2 : Int)) _ ⟨⟨_, rfl⟩, fun p hp => by simp at hp⟩ ?_ ?_
        · rintro j hj f ⟨⟨c, rfl⟩, h2⟩
          rw [List.length_map] at hj
          simp
          rw [← List.map_take, lc_pure (fun x => .int x) (fun x => decide (L[k] - P[j].2 < x)) (fun x => .int x)]
          · simp [filt_cnt]
            by_cases hq : P[j].1 < (cnt (L.take (k + 1)) L[k] P[j].2 : Int)
            · have w := wrg_some hk h (by unfold bad1; rw [any_take hj (by rw [e]; simpa using hq)]; simp)
              simp [hq, w, optI]
            · simp [hq]
              intro a b hab
              rw [← List.take_append_getElem hj, List.mem_append, List.mem_singleton] at hab
              rcases hab with hab | hab
              · have := h2 _ hab; simpa using this
              · rw [← hab] at hq; simpa using hq
          · simp; omega
          · intro x hx
            simp
        · rintro f ⟨⟨c, rfl⟩, h2⟩
          rw [List.length_map, List.take_length] at h2
          have hb : bad1 P C L k = false := by
            unfold bad1
            rw [e, ho, Bool.not_true, Bool.false_or, ← Bool.not_eq_true, List.any_eq_true]
            rintro ⟨p, hp, hq⟩
            exact h2 p hp (by simpa using hq)
          simp
          intro i hi
          by_cases q : i < k
          · exact h i q
          · have : i = k := by omega
            subst this; exact hb
    · rintro f ⟨⟨a, b, c, rfl⟩, h⟩
      rw [enumL_length, List.length_map] at h
      simp [wrg_none h, optI]
theorem r_wrg_T (n : Nat) (P : Lim) (C L : List Int) (hC : 1 ≤ C.length) (hL : L.length ≤ 16777216) : runD dfs (n + 2) i__law_wrong_at [.d (iPs P), .d (iT C), .d (iT L)] = .ok (.d (optI (wrg P C L)), []) := by
  rw [run__law_wrong_at]
  exact wrong_loop n P C L _ _ _ (.inl ⟨rfl, rfl, rfl⟩) hC hL
theorem r_wrg_R (n : Nat) (P : Lim) (C L : List Int) (hC : 1 ≤ C.length) (hL : L.length ≤ 16777216) : runD dfs (n + 2) i__law_wrong_at [.d (iPs P), .d (iT C), .r (.lst (L.map .int))] = .ok (.d (optI (wrg P C L)), [.d (iL L)]) := by
  rw [run__law_wrong_at]
  exact wrong_loop n P C L _ _ _ (.inr ⟨rfl, rfl, rfl⟩) hC hL
/-- polite, by the law's own counting -/
theorem wrg_pol {P : Lim} {C L : List Int} (hp : ∀ p ∈ P, 1 ≤ p.1 ∧ 1 ≤ p.2) (hu : up L) (h : pol P C L) : wrg P C L = none := by
  refine wrg_none fun i hi => ?_
  have hc := pol_cnt hp hu h i hi
  have e : L.getD i 0 = L[i] := by simp [hi]
  unfold bad1
  rw [e, hc.1, Bool.not_true, Bool.false_or, ← Bool.not_eq_true, List.any_eq_true]
  rintro ⟨p, hm, hq⟩
  have := hc.2 p hm
  simp at hq
  omega
theorem sortI_up : ∀ {L : List Int}, up L → sortI L = L
  | [], _ => rfl
  | x :: r, h => by
    unfold up at h
    rw [List.pairwise_cons] at h
    show insI x (sortI r) = x :: r
    rw [sortI_up h.2]
    cases r with
    | nil => rfl
    | cons y t =>
      have := h.1 y (List.mem_cons_self ..)
      show (if x ≤ y then _ else _) = _
      rw [if_pos this]
theorem sI_perm1 (x : Int) : ∀ l : List Int, (insI x l).Perm (x :: l)
  | [] => .refl _
  | y :: r => by
    show (if x ≤ y then x :: y :: r else y :: insI x r).Perm _
    split
    · exact .refl _
    · exact ((sI_perm1 x r).cons y).trans (.swap x y r)
theorem sI_perm : ∀ l : List Int, (sortI l).Perm l
  | [] => .refl _
  | x :: r => (sI_perm1 x _).trans ((sI_perm r).cons x)
theorem sI_up1 (x : Int) : ∀ l : List Int, up l → up (insI x l)
  | [], _ => by show up [x]; unfold up; exact List.pairwise_singleton _ _
  | y :: r, h => by
    show up (if x ≤ y then x :: y :: r else y :: insI x r)
    have h' := h
    unfold up at h
    rw [List.pairwise_cons] at h
    split
    · rename_i hxy
      unfold up
      rw [List.pairwise_cons]
      refine ⟨fun z hz => ?_, h'⟩
      rw [List.mem_cons] at hz
      rcases hz with rfl | hz
      · exact hxy
      · have := h.1 z hz; omega
    · rename_i hxy
      unfold up
      rw [List.pairwise_cons]
      refine ⟨fun z hz => ?_, sI_up1 x r h.2⟩
      rw [(sI_perm1 x r).mem_iff, List.mem_cons] at hz
      rcases hz with rfl | hz
      · omega
      · exact h.1 z hz
theorem sI_up : ∀ l : List Int, up (sortI l)
  | [] => List.Pairwise.nil
  | x :: r => sI_up1 x _ (sI_up r)
theorem mst_le (P : Lim) (m : Nat) : mst P m ≤ 6 * m + 1 := by
  unfold mst
  have := List.length_filter_le (fun x => decide (x < (m : Int))) (soon P [1] (6 * m + 1) [] 0)
  rw [soon_length] at this
  exact this
@[simp] theorem runEq_bool (neg : Bool) (a b : Bool) : runEq neg (.bool a) (.bool b) = some (.d (.bool (if neg then !(a == b) else a == b))) := by
  cases neg <;> cases a <;> cases b <;> rfl
theorem repr_b (b : Bool) : runRepr (.bool b) = some (.d (.str (PyData.bool b).shown)) := RO.repr RO.bool (by omega) (by omega)
theorem shown_b (b : Bool) : (PyData.bool b).shown = if b then Str.ofString "True" else Str.ofString "False" := by cases b <;> simp [PyData.shown]
theorem repr_i (i : Int) (h1 : -999999999999 ≤ i) (h2 : i ≤ 999999999999) : runRepr (.int i) = some (.d (.str (PyData.int i).shown)) := RO.repr (RO.int' h1 h2) (by omega) (by omega)
end T
set_option maxRecDepth 100000
set_option maxHeartbeats 1000000
namespace Pol
/-! ### hours that are told anew, their least size -/
theorem opn_nat (C : List Int) (t : Nat) : opn C (t : Int) = decide (C.getD (t % C.length) 0 = 1) := by
  unfold opn
  rw [show ((t : Int) % (C.length : Int)).toNat = t % C.length by rw [← Int.natCast_emod]; rfl]
def perB (C : List Int) (s : Nat) : Bool := decide (C.length % s = 0) && decide ((List.replicate (C.length / s) (C.take s)).flatten = C)
def conB (C : List Int) (s : Nat) : Prop := ∀ t : Nat, t < s * C.length → opn C (t : Int) = opn (C.take s) (t : Int)
theorem rep_get (l : List Int) (hl : 0 < l.length) : ∀ (k i : Nat), i < k * l.length → (List.replicate k l).flatten.getD i 0 = l.getD (i % l.length) 0
  | 0, i, h => by omega
  | k + 1, i, h => by
    rw [List.replicate_succ, List.flatten_cons]
    by_cases q : i < l.length
    · rw [List.getD_eq_getElem?_getD, List.getElem?_append_left q, Nat.mod_eq_of_lt q, ← List.getD_eq_getElem?_getD]
    · have h2 : i - l.length < k * l.length := by rw [Nat.succ_mul] at h; omega
      rw [List.getD_eq_getElem?_getD, List.getElem?_append_right (by omega), ← List.getD_eq_getElem?_getD, rep_get l hl k _ h2]
      congr 1
      conv => rhs; rw [show i = i - l.length + l.length by omega, Nat.add_mod_right]
theorem take_get {C : List Int} {s i : Nat} (h : i < s) : (C.take s).getD i 0 = C.getD i 0 := by
  rw [List.getD_eq_getElem?_getD, List.getElem?_take_of_lt h, ← List.getD_eq_getElem?_getD]
/-- the function of the clock has the period -/
def Per (f : Nat → Bool) (g : Nat) : Prop := ∀ t, f (t + g) = f t
theorem Per.mul {f : Nat → Bool} {g : Nat} (h : Per f g) : ∀ k t, f (t + k * g) = f t
  | 0, t => by simp
  | k + 1, t => by rw [Nat.succ_mul, ← Nat.add_assoc, h, Per.mul h k t]
theorem Per.mod {f : Nat → Bool} {g : Nat} (h : Per f g) (t : Nat) : f (t % g) = f t := by
  have := Per.mul h (t / g) (t % g)
  rw [Nat.mul_comm, Nat.mod_add_div] at this
  exact this.symm
theorem Per.gcd {f : Nat → Bool} : ∀ {a b : Nat}, Per f a → Per f b → Per f (Nat.gcd a b) := by
  intro a b
  induction a, b using Nat.gcd.induction with
  | H0 n => intro _ h; rwa [Nat.gcd_zero_left]
  | H1 m n hm ih =>
    intro ha hb
    rw [Nat.gcd_rec]
    refine ih ?_ ha
    intro t
    have h1 := Per.mul ha (n / m) (t + n % m)
    have e : t + n % m + n / m * m = t + n := by
      have := Nat.mod_add_div n m
      rw [Nat.mul_comm] at this
      omega
    rw [e, hb] at h1
    exact h1.symm
theorem opn_per {C : List Int} : Per (fun t => opn C (t : Int)) C.length := fun t => by
  show opn C ((t + C.length : Nat) : Int) = opn C (t : Int)
  rw [opn_nat, opn_nat, Nat.add_mod_right]
theorem con_all {C : List Int} {s : Nat} (h1 : 1 ≤ s) (h2 : s ≤ C.length) (h : conB C s) (t : Nat) : opn C (t : Int) = opn (C.take s) (t : Int) := by
  have hl : (C.take s).length = s := by rw [List.length_take]; omega
  have p1 : Per (fun t => opn C (t : Int)) (s * C.length) := fun t => Per.mul opn_per s t
  have p2 : Per (fun t => opn (C.take s) (t : Int)) (s * C.length) := fun t => by
    have := Per.mul (opn_per (C := C.take s)) C.length t
    rwa [hl, Nat.mul_comm] at this
  have hpos : 0 < s * C.length := Nat.mul_pos (by omega) (by omega)
  have e1 := p1.mod t
  have e2 := p2.mod t
  have e3 := h (t % (s * C.length)) (Nat.mod_lt _ hpos)
  exact e1.symm.trans (e3.trans e2)
theorem con_per {C : List Int} {s : Nat} (h1 : 1 ≤ s) (h2 : s ≤ C.length) (h : conB C s) : Per (fun t => opn C (t : Int)) s := fun t => by
  have hl : (C.take s).length = s := by rw [List.length_take]; omega
  show opn C ((t + s : Nat) : Int) = opn C (t : Int)
  rw [con_all h1 h2 h, con_all h1 h2 h, opn_nat, opn_nat, hl, Nat.add_mod_right]
theorem per_con {C : List Int} {s : Nat} (h1 : 1 ≤ s) (h2 : s ≤ C.length) (h : Per (fun t => opn C (t : Int)) s) : conB C s := fun t _ => by
  have hl : (C.take s).length = s := by rw [List.length_take]; omega
  have hm := Nat.mod_lt t (show 0 < s by omega)
  have e : opn C (t : Int) = opn C ((t % s : Nat) : Int) := (h.mod t).symm
  rw [e, opn_nat, opn_nat, hl, take_get hm, Nat.mod_eq_of_lt (show t % s < C.length by omega)]
theorem perB_con {C : List Int} {s : Nat} (h1 : 1 ≤ s) (h2 : s ≤ C.length) (h : perB C s = true) : conB C s := by
  unfold perB at h
  simp only [Bool.and_eq_true, decide_eq_true_eq] at h
  obtain ⟨hd, he⟩ := h
  have hl : (C.take s).length = s := by rw [List.length_take]; omega
  have hk : C.length / s * s = C.length := Nat.div_mul_cancel (Nat.dvd_of_mod_eq_zero hd)
  intro t _
  rw [opn_nat, opn_nat, hl]
  have hm := Nat.mod_lt t (show 0 < C.length by omega)
  have := rep_get (C.take s) (by omega) (C.length / s) (t % C.length) (by rw [hl, hk]; exact hm)
  rw [he, hl] at this
  rw [this, Nat.mod_mod_of_dvd _ (Nat.dvd_of_mod_eq_zero hd)]
theorem con_perB {C : List Int} {s : Nat} (h1 : 1 ≤ s) (h2 : s ≤ C.length) (hC : ∀ x ∈ C, 0 ≤ x ∧ x ≤ 1) (hd : C.length % s = 0) (h : conB C s) : perB C s = true := by
  unfold perB
  simp only [Bool.and_eq_true, decide_eq_true_eq]
  refine ⟨hd, ?_⟩
  have hl : (C.take s).length = s := by rw [List.length_take]; omega
  have hk : C.length / s * s = C.length := Nat.div_mul_cancel (Nat.dvd_of_mod_eq_zero hd)
  have hlen : (List.replicate (C.length / s) (C.take s)).flatten.length = C.length := by
    rw [List.length_flatten, List.map_replicate, List.sum_replicate_nat, hl, hk]
  apply List.ext_getElem hlen
  intro i hi1 hi2
  have e1 := rep_get (C.take s) (by omega) (C.length / s) i (by rw [hl, hk]; exact hi2)
  rw [List.getD_eq_getElem?_getD, List.getElem?_eq_getElem hi1] at e1
  have hm := Nat.mod_lt i (show 0 < s by omega)
  rw [hl, take_get hm] at e1
  simp only [Option.getD_some] at e1
  rw [e1]
  have e2 := con_all h1 h2 h i
  rw [opn_nat, opn_nat, hl, take_get hm, Nat.mod_eq_of_lt hi2, decide_eq_decide] at e2
  have g1 : C.getD i 0 = C[i] := by rw [List.getD_eq_getElem?_getD, List.getElem?_eq_getElem hi2]; rfl
  have hms : i % s < C.length := by omega
  have g2 : C.getD (i % s) 0 = C[i % s] := by rw [List.getD_eq_getElem?_getD, List.getElem?_eq_getElem hms]; rfl
  have b1 := hC _ (List.getElem_mem hi2)
  have b2 := hC _ (List.getElem_mem hms)
  rw [g1, g2] at e2
  rw [g2]
  omega
theorem con_gcd {C : List Int} {s : Nat} (h1 : 1 ≤ s) (h2 : s ≤ C.length) (h : conB C s) : conB C (Nat.gcd s C.length) := by
  have hg := Nat.gcd_le_left C.length (show 0 < s by omega)
  have hg0 := Nat.gcd_pos_of_pos_left C.length (show 0 < s by omega)
  exact per_con (by omega) (by omega) (Per.gcd (con_per h1 h2 h) opn_per)
/-- the two ways to the least size meet -/
theorem fit_eq {C : List Int} (hC : ∀ x ∈ C, 0 ≤ x ∧ x ≤ 1) {s r : Nat} (s1 : 1 ≤ s) (s2 : s ≤ C.length) (s3 : s < C.length → perB C s = true) (s4 : ∀ q, 1 ≤ q → q < s → perB C q = false)
    (r1 : 1 ≤ r) (r2 : r ≤ C.length) (r3 : r < C.length → conB C r) (r4 : ∀ q, 1 ≤ q → q < r → ¬ conB C q) : s = r := by
  by_cases a : s < r
  · exact absurd (perB_con s1 s2 (s3 (by omega))) (r4 s s1 a)
  · by_cases b : r < s
    · have hc := r3 (by omega)
      by_cases d : C.length % r = 0
      · have := con_perB r1 r2 hC d hc
        rw [s4 r r1 b] at this
        cases this
      · have hg := Nat.gcd_le_left C.length (show 0 < r by omega)
        have hg0 := Nat.gcd_pos_of_pos_left C.length (show 0 < r by omega)
        have hne : Nat.gcd r C.length ≠ r := fun e => d (Nat.mod_eq_zero_of_dvd (by rw [← e]; exact Nat.gcd_dvd_right ..))
        exact absurd (con_gcd r1 r2 hc) (r4 _ (by omega) (by omega))
    · omega
end Pol
set_option maxRecDepth 100000
set_option maxHeartbeats 1000000
namespace Vm
open PySem PySem.Spec
theorem obnd {α β : Type} (a : α) (g : α → Option β) : (some a).bind g = g a := nr rfl
section
variable {G : Call} {f : F}
@[simp] theorem evSt_nil (fl : List Bool) : evSt G [] fl f = .ok ([], f) := by rw [evSt]
def kStF (G : Call) (es : List Ex) (fl : List Bool) (p : RV × F) : Res (List RV × F) := (evSt G es fl p.2).bind (kCons p.1)
@[simp] theorem kStF_eq (es : List Ex) (fl : List Bool) (r : RV) : kStF G es fl (r, f) = (evSt G es fl f).bind (kCons r) := nr rfl
def kApp (a : List RV) (q : List RV × F) : Res (List RV × F) := .ok (a ++ q.1, q.2)
@[simp] theorem kApp_eq (a rs : List RV) : kApp a (rs, f) = .ok (a ++ rs, f) := nr rfl
def kStT (G : Call) (es : List Ex) (fl : List Bool) (p : RV × F) : Res (List RV × F) := match p.1 with
  | .d (.tuple ds) => (evSt G es fl p.2).bind (kApp (ds.map RV.d))
  | .d (.list ds) => (evSt G es fl p.2).bind (kApp (ds.map RV.d))
  | _ => .bad
@[simp] theorem kStT_tup (es : List Ex) (fl : List Bool) (ds : List D) : kStT G es fl (.d (.tuple ds), f) = (evSt G es fl f).bind (kApp (ds.map RV.d)) := nr rfl
@[simp] theorem kStT_lst (es : List Ex) (fl : List Bool) (ds : List D) : kStT G es fl (.d (.list ds), f) = (evSt G es fl f).bind (kApp (ds.map RV.d)) := nr rfl
@[simp] theorem evSt_false (e : Ex) (es : List Ex) (fl : List Bool) : evSt G (e :: es) (false :: fl) f = (evE G e f).bind (kStF G es fl) := by rw [evSt]; rfl
@[simp] theorem evSt_true (e : Ex) (es : List Ex) (fl : List Bool) : evSt G (e :: es) (true :: fl) f = (evE G e f).bind (kStT G es fl) := by
  rw [evSt]
  congr 1
  funext p
  obtain ⟨r, f⟩ := p
  unfold kStT
  rcases r with (x | _ | _ | _)
  · cases x <;> rfl
  all_goals rfl
@[simp] theorem evE_tups (fl : List Bool) (es : List Ex) : evE G (.tups fl es) f = (evSt G es fl f).bind kTup := by rw [evE]; rfl
theorem frzs_ints (L : List Int) : frzs f (L.map fun i => RV.d (.int i)) = some (L.map .int, f) := by
  induction L with
  | nil => rfl
  | cons x L ih => simp [ih]
end
@[simp] theorem cutD_from0 (xs : List D) : cutD xs (some 0) none = xs := by
  have := cutD_from xs 0
  simpa using this
theorem eqDs_pairs (P : List (Int × Int)) : eqDs (P.map iP) (P.map iP) = true := by
  induction P with
  | nil => rfl
  | cons p P ih =>
    show (eqD (iP p) (iP p) && eqDs (P.map iP) (P.map iP)) = true
    rw [ih]
    have : eqD (iP p) (iP p) = true := by
      show eqDs [.int p.1, .int p.2] [.int p.1, .int p.2] = true
      simp [eqDs, eqD]
    rw [this]; rfl
theorem keepS_pairs (P : List (Int × Int)) (ρ : List LV) (S : List SV) : keepS 0 (P.map iP) ⟨ρ, .own (.lst (P.map iP)) :: S⟩ = true := eqDs_pairs P
end Vm
namespace T
open PySem PySem.Spec Vm Pol
theorem law_soonest_loop_r (n : Nat) (P : Lim) (C L : List Int) (k : Nat) (s : Int) (hp : ∀ p ∈ P, 1 ≤ p.1) (hC : 1 ≤ C.length) (hC2 : C.length ≤ 900000) (hL : L.length + k ≤ 16777000) (X : LV) :
    (forLoop (xSs (runD dfs (n + 1)) (forB ir__law_soonest 1)) (.name 6) (rangeL 0 k) ⟨[.c 0, .d (iT C), X, .d (.int k), .d (.int s), .own (.lst (L.map .int)), .no, .no, .no, .no], [.own (.lst (P.map iP))]⟩).Sat
      { nx := fun f => ∃ a b c d, f = ⟨[.c 0, .d (iT C), X, .d (.int k), .d (.int s), .own (.lst ((L ++ soon P C k L s).map .int)), a, b, c, d], [.own (.lst (P.map iP))]⟩ } := by
  have hc : okR 0 C.length = true := okR_of (by omega) (by omega) (by omega) (by omega) (by omega)
  refine for_idx _ (fun j f => ∃ a b c d, f = ⟨[.c 0, .d (iT C), X, .d (.int k), .d (.int s), .own (.lst ((L ++ soon P C j L s).map .int)), a, b, c, d], [.own (.lst (P.map iP))]⟩) _ ⟨.no, .no, .no, .no, by simp [soon]⟩ ?_ ?_
  · rintro j hj f ⟨a, b, c, d, rfl⟩
    simp at hj
    have hlen := soon_length P C j L s
    rw [soon_snoc]
    generalize hM : L ++ soon P C j L s = M
    have hM2 : M.length = L.length + j := by rw [← hM]; simp [hlen]
    have hl2 := optLen M.getLast?
    simp (disch := first | omega | (simp; done) | (simp; omega)) [forB, ir__law_soonest, szB_of, optMapList, maxI_fold]
    refine forK_idx _ (fun i f => ∃ c, f = ⟨[.c 0, .d (iT C), X, .d (.int k), .d (.int s), .own (.lst (M.map .int)), .d (.int j), .d (.int ((P.take i).foldl (fun m p => if p.1 ≤ (M.length : Int) then max m (M.getD (M.length - p.1.toNat) 0 + p.2) else m) (M.getLast?.toList.foldl max s))), c, d], [.own (.lst (P.map iP))]⟩) _ ⟨_, by simp; rfl⟩ ?_ ?_ ?_
    · rintro i hi f ⟨c, rfl⟩
      rw [List.length_map] at hi
      rw [foldl_take_succ _ _ _ _ hi]
      generalize (P.take i).foldl (fun m p => if p.1 ≤ (M.length : Int) then max m (M.getD (M.length - p.1.toNat) 0 + p.2) else m) (M.getLast?.toList.foldl max s) = v
      have hp1 := hp P[i] (List.getElem_mem _)
      by_cases hq : P[i].1 ≤ (M.length : Int)
      · obtain ⟨x, e⟩ : ∃ x, M[((M.length : Int) - P[i].1).toNat]? = some x := ⟨M[((M.length : Int) - P[i].1).toNat]'(by omega), List.getElem?_eq_getElem _⟩
        have e2 : M.length - P[i].1.toNat = ((M.length : Int) - P[i].1).toNat := by omega
        simp [hq, atI_pos (xs := M) (show 0 ≤ (M.length : Int) - P[i].1 by omega), e, e2]
        omega
      · simp [hq]
    · rintro f ⟨c, rfl⟩
      rw [List.length_map, List.take_length, low_fold]
      simp [hc]
      refine for_idx _ (fun i f => ∃ d, f = ⟨[.c 0, .d (iT C), X, .d (.int k), .d (.int s), .own (.lst (M.map .int)), .d (.int j), .d (.int (upO C i (low P M s))), c, d], [.own (.lst (P.map iP))]⟩) _ ⟨_, rfl⟩ ?_ ?_
      · rintro i hi f ⟨d, rfl⟩
        rw [upO_snoc]
        generalize upO C i (low P M s) = v
        cases ho : opn C v with
        | true => simp [r_law_open, hC, ho, upO]
        | false => simp [r_law_open, hC, ho, upO]
      · rintro f ⟨d, rfl⟩
        have e : M.length < 16777216 := by omega
        simp [szL_of e, nxt]
        rw [← hM]
        simp
    · rintro k f ⟨c, rfl⟩
      exact keepS_pairs P _ _
  · rintro f ⟨a, b, c, d, rfl⟩
    simp
theorem r_law_soonest_r (n : Nat) (P : Lim) (k : Nat) (s : Int) (hp : ∀ p ∈ P, 1 ≤ p.1) (hk : k ≤ 1000) :
    runD dfs (n + 2) i__law_soonest [.r (.lst (P.map iP)), .d (iT [1]), .d (.tuple []), .d (.int k), .d (.int s)] = .ok (.fr (.lst ((soon P [1] k [] s).map .int)), [.own (.lst (P.map iP))]) := by
  have hok : okR 0 k = true := okR_of (by omega) (by omega) (by omega) (by omega) (by omega)
  rw [run__law_soonest, ← sat_iff, finish_sat]
  have ht := law_soonest_loop_r n P [1] [] k s hp (by simp) (by simp) (by simp; omega) (.d (.tuple []))
  simp at ht
  simp [ir__law_soonest, hok]
  refine ht.mono ?_ (fun _ _ h => h.elim) (fun _ h => h.elim) (fun _ h => h.elim)
  rintro f ⟨a, b, c, d, rfl⟩
  simp
def sv (P : Lim) : List Int := soon P [1] 7 [] 0
theorem sv_len (P : Lim) : (sv P).length = 7 := soon_length ..
theorem sv_get {P : Lim} {k : Nat} (h : k < 7) : (sv P)[k]? = some (ak P k) := by
  have hl := sv_len P
  rw [List.getElem?_eq_getElem (by omega)]
  exact congrArg some (ak_get (P := P) (n := 7) (by rw [soon_length]; exact h))
theorem r_law_seven (n : Nat) (P : Lim) (hp : ok1 P) : runD dfs (n + 3) i__law_seven [.d (iPs P)] = .ok (.fr (.lst ((sv P).map .int)), []) := by
  have e := r_law_soonest 0 n P [1] [] 7 0 (fun p h => (hp p h).1) (by simp) (by simp) (by simp)
  simp [seqA, seqS] at e
  simp only [iT, List.map_cons, List.map_nil] at e
  rw [run__law_seven]
  simp [ir__law_seven, e, sv]
theorem r_law_seven_r (n : Nat) (P : Lim) (hp : ok1 P) : runD dfs (n + 3) i__law_seven [.r (.lst (P.map iP))] = .ok (.fr (.lst ((sv P).map .int)), [.own (.lst (P.map iP))]) := by
  have e := r_law_soonest_r n P 7 0 (fun p h => (hp p h).1) (by omega)
  simp at e
  simp only [iT, List.map_cons, List.map_nil] at e
  rw [run__law_seven]
  simp [ir__law_seven, e, sv]
theorem frzs_pairs {f : F} (P : Lim) : frzs f (P.map fun p => RV.d (iP p)) = some (P.map iP, f) := by
  induction P with
  | nil => rfl
  | cons x P ih => simp [ih]
theorem tdF_len6 {P : Lim} : ∀ k, (tdF P k).length ≤ k
  | 0 => Nat.le_refl _
  | k + 1 => by
    have := tdF_len6 (P := P) k
    rw [tdF_succ]
    split
    · rw [List.length_append, List.length_singleton]; omega
    · omega
theorem r_tidied_by (n : Nat) (P : Lim) (hp : ok1 P) (hl : P.length ≤ 1000) : runD dfs (n + 4) i_tidied_by [.d (iPs P)] = .ok (.d (iPs (td P)), []) := by
  have e0 := r_soonest_by n P [1] [] 0 7 (by omega) (fun p h => (hp p h).1) okC_one (by simp) (by simp)
  simp at e0
  simp only [iT, iPs, List.map_cons, List.map_nil] at e0
  have hok : okR 1 7 = true := okR_of (by omega) (by omega) (by omega) (by omega) (by omega)
  rw [run_tidied_by, ← sat_iff, finish_sat]
  simp [ir_tidied_by, e0, hok]
  refine for_idx _ (fun k f => ∃ c, f = ⟨[.d (iPs P), .d (iT (sv P)), .d (iPs (tdF P k)), c], []⟩) _ ⟨_, rfl⟩ ?_ ?_
  · rintro k hk0 f ⟨c, rfl⟩
    have hk := hk0
    simp at hk
    have hF := tdF_ok hp k
    have hFl := tdF_len6 (P := P) k
    have hs := tdF_succ P k
    have er : (rangeL 1 7)[k]'hk0 = .int ((k + 1 : Nat) : Int) := by simp; omega
    rw [er]
    have hm : k + 1 < 7 := by omega
    generalize tdF P (k + 1) = F2 at hs ⊢
    generalize tdF P k = F at hs hF hFl ⊢
    generalize k + 1 = m at hs hm ⊢
    have e1 := r_soonest_by n F [1] [] 0 (m + 1) (by omega) (fun p h => (hF p h).1) okC_one (by simp) (by simp; omega)
    have g1 : (sv P)[m]? = some (ak P m) := sv_get hm
    have g2 : (soon F [1] (m + 1) [] 0)[m]? = some (ak F m) := by
      rw [List.getElem?_eq_getElem (by rw [soon_length]; omega)]
      exact congrArg some (ak_get (P := F) (n := m + 1) (by rw [soon_length]; omega))
    have fz : ∀ f : Vm.F, frzs f (F.map (fun p => RV.d (iP p)) ++ [RV.d (.tuple [.int (m : Int), .int (ak P m)])]) = some (F.map iP ++ [.tuple [.int (m : Int), .int (ak P m)]], f) := fun f => by
      have := frzs_pairs (f := f) (F ++ [((m : Int), ak P m)])
      simpa using this
    have hz := szB_of (n := F.length + 1) (by omega)
    simp at e1
    simp only [iT, iPs, List.map_cons, List.map_nil] at e1
    by_cases q : ak P m > ak F m
    · rw [if_pos q] at hs
      subst hs
      have q2 : ak F m < ak P m := q
      simp [e1, g1, g2, q2, fz, hz, Function.comp_def]
    · rw [if_neg q] at hs
      have q2 : ¬ ak F m < ak P m := q
      subst hs
      simp [e1, g1, g2, q2]
  · rintro f ⟨c, rfl⟩
    simp [td]
theorem r_law_tidy (n : Nat) (P : Lim) (hp : ok1 P) : runD dfs (n + 4) i__law_tidy [.d (iPs P)] = .ok (.d (iPs (td P)), []) := by
  have e0 := r_law_seven n P hp
  have hok : okR 1 7 = true := okR_of (by omega) (by omega) (by omega) (by omega) (by omega)
  rw [run__law_tidy, ← sat_iff, finish_sat]
  simp [ir__law_tidy, e0, hok]
  refine for_idx _ (fun k f => ∃ c, f = ⟨[.d (iPs P), c, .own (.lst ((tdF P k).map iP)), .own (.lst ((sv P).map .int))], []⟩) _ ⟨_, rfl⟩ ?_ ?_
  · rintro k hk0 f ⟨c, rfl⟩
    have hk := hk0
    simp at hk
    have hF := tdF_ok hp k
    have hFl := tdF_len6 (P := P) k
    have hs := tdF_succ P k
    have er : (rangeL 1 7)[k]'hk0 = .int ((k + 1 : Nat) : Int) := by simp; omega
    rw [er]
    have hm : k + 1 < 7 := by omega
    generalize tdF P (k + 1) = F2 at hs ⊢
    generalize tdF P k = F at hs hF hFl ⊢
    generalize k + 1 = m at hs hm ⊢
    have e1 := r_law_seven_r n F hF
    have g1 : (sv P)[m]? = some (ak P m) := sv_get hm
    have g2 : (sv F)[m]? = some (ak F m) := sv_get hm
    have hz := szL_of (n := F.length) (by omega)
    by_cases q : ak P m > ak F m
    · rw [if_pos q] at hs
      subst hs
      have q2 : ak F m < ak P m := q
      simp [e1, g1, g2, q2, hz]
    · rw [if_neg q] at hs
      have q2 : ¬ ak F m < ak P m := q
      subst hs
      simp [e1, g1, g2, q2]
  · rintro f ⟨c, rfl⟩
    simp [td]
/-! ### the entries -/
theorem okP.td {P : Lim} (h : okP P 6 12) : okP (td P) 6 12 := fun q hq => by
  have h1 := tdF_mem h.ok1 6 q hq
  have h2 := tdF_12 h.ok1 (fun p hp => (h p hp).2.2.2) (by omega) 6 q hq
  exact ⟨h1.1, h1.2.1, h1.2.2.1, h2⟩
theorem r_tidied (n : Nat) (P : Lim) (hp : okP P 6 12) (hl : P.length ≤ 4) : runD dfs (n + 6) i_tidied [.d (iPs P)] = .ok (.d (iPs (Pol.td P)), []) := by
  have e1 := r_check_limits n P hl hp
  have e2 := r_tidied_by (n + 1) P hp.ok1 (by omega)
  rw [run_tidied]
  simp [ir_tidied, e1, e2]
theorem ok1_app {P Q : Lim} (hp : ok1 P) (hq : ok1 Q) : ok1 (P ++ Q) := fun p h => by
  rcases List.mem_append.mp h with h | h
  · exact hp p h
  · exact hq p h
theorem r_joined (n : Nat) (P Q : Lim) (hp : okP P 6 12) (hl : P.length ≤ 4) (hq : okP Q 6 12) (hl2 : Q.length ≤ 4) (h : (Pol.td (P ++ Q)).length ≤ 4) : runD dfs (n + 6) i_joined [.d (iPs P), .d (iPs Q)] = .ok (.d (iPs (Pol.td (P ++ Q))), []) := by
  have e1 := r_check_limits n P hl hp
  have e2 := r_check_limits n Q hl2 hq
  have e3 := r_tidied_by (n + 1) (P ++ Q) (ok1_app hp.ok1 hq.ok1) (by simp; omega)
  have es := szB_of (n := P.length + Q.length) (by omega)
  simp only [iPs, List.map_append] at e3
  have h2 : ¬ (4 : Int) < (Pol.td (P ++ Q)).length := by omega
  rw [run_joined]
  simp [ir_joined, e1, e2, e3, es, h2]
theorem r_joined_many (n : Nat) (P Q : Lim) (hp : okP P 6 12) (hl : P.length ≤ 4) (hq : okP Q 6 12) (hl2 : Q.length ≤ 4) (h : 4 < (Pol.td (P ++ Q)).length) : runD dfs (n + 6) i_joined [.d (iPs P), .d (iPs Q)] = .ok (.ex "TooMany", []) := by
  have e1 := r_check_limits n P hl hp
  have e2 := r_check_limits n Q hl2 hq
  have e3 := r_tidied_by (n + 1) (P ++ Q) (ok1_app hp.ok1 hq.ok1) (by simp; omega)
  have es := szB_of (n := P.length + Q.length) (by omega)
  simp only [iPs, List.map_append] at e3
  have h2 : (4 : Int) < (Pol.td (P ++ Q)).length := by omega
  rw [run_joined]
  simp [ir_joined, e1, e2, e3, es, h2]
def jn (P Q : Lim) : D := if 4 < (Pol.td (P ++ Q)).length then .tuple [.str "many"] else iPs (Pol.td (P ++ Q))
theorem r_law_joined (n : Nat) (P Q : Lim) (hp : okP P 6 12) (hl : P.length ≤ 4) (hq : okP Q 6 12) (hl2 : Q.length ≤ 4) : runD dfs (n + 7) i__law_joined [.d (iPs P), .d (iPs Q)] = .ok (.d (jn P Q), []) := by
  rw [run__law_joined]
  unfold jn
  by_cases h : 4 < (Pol.td (P ++ Q)).length
  · simp [ir__law_joined, r_joined_many n P Q hp hl hq hl2 h, h]
  · simp [ir__law_joined, r_joined n P Q hp hl hq hl2 (by omega), h]
end T
set_option maxRecDepth 100000
set_option maxHeartbeats 1000000
namespace T
open PySem PySem.Spec Vm Pol
theorem run_lcm (a b : Nat) (ha : a < 2 ^ 64) (hb : b < 2 ^ 64) : Op.run .lcm [.int (a : Int), .int (b : Int)] = some (.d (.int ((Nat.lcm a b : Nat) : Int))) := by
  show (if (decide ((a : Int).natAbs < 2 ^ 64) && decide ((b : Int).natAbs < 2 ^ 64)) = true then _ else _) = _
  rw [if_pos (by simp; omega)]
  rfl
abbrev Ru (P : Lim) (C : List Int) : D := .tuple [iPs P, iT C]
theorem r_mfb (n : Nat) (P : Lim) (m : Nat) (hP : okP P 6 12) (hl : P.length ≤ 4) (hm : m ≤ 1000) (h1 : 1 ≤ m) : runD dfs (n + 3) i_most_from_by [.d (Ru P [1]), .d (.int 0), .d (.int m)] = .ok (.d (optI (mo P m)), []) := by
  by_cases hne : P = []
  · subst hne
    have hok : okR 0 m = true := okR_of (by omega) (by omega) (by omega) (by omega) (by omega)
    rw [run_most_from_by]
    have he := runEq_iPs_nil false []
    simp at he
    simp [ir_most_from_by, he, hok]
    have e : rangeL 0 (m : Int) = (List.range m).map fun i : Nat => PyData.int (i : Int) := by simp [rangeL]
    rw [e, lc_pure (fun i : Nat => PyData.int (i : Int)) (fun _ => true) (fun i => .bool true)]
    · simp [mo, optI]
      exact ⟨0, by omega⟩
    · simp; omega
    · intro i hi
      have ho := r_is_open_at (n + 1) [1] (0 + (i : Int)) (by simp)
      rw [opn_one] at ho
      simp only [Int.zero_add] at ho
      simp [ho]
  · rw [r_most_from_by n P m hP hne hl hm]
    simp [mo, hne, optI]
/-! ### stricter -/
def stB (P Q : Lim) : Bool := Q.all fun q => decide (q.2 ≤ ak P q.1.toNat)
theorem stB_st {P Q : Lim} : stB P Q = true ↔ st P Q := by
  unfold stB st
  rw [List.all_eq_true]
  constructor
  · intro h q hq; simpa using h q hq
  · intro h q hq; simpa using h q hq
theorem ak_nil (k : Nat) : ak [] k = 0 := by
  have hp : ok1 [] := fun p h => by cases h
  induction k with
  | zero => exact ak_0 hp
  | succ k ih =>
    have h1 := ak_nn hp (k + 1)
    have h2 : ak [] (k + 1) ≤ 0 := (ak_le hp).mpr ⟨Int.le_refl _, fun _ => by rw [Nat.add_sub_cancel, ih]; omega, fun p h => by cases h⟩
    omega
theorem mst_ak {P : Lim} (hP : okP P 6 12) (hne : P ≠ []) {m k : Nat} (h1 : 1 ≤ m) : mst P m ≤ k ↔ (m : Int) ≤ ak P k := by
  have hp := hP.ok1
  have hup := soon_up' (P := P) (C := [1]) (s := 0) (n := 6 * m + 1)
  have hlen := soon_length P [1] (6 * m + 1) [] 0
  have hg : (m : Int) ≤ ak P (6 * m) := by
    have := soon_grow okC_one hP hne (s := 0) m (6 * m + 1) (by omega)
    rw [ak_at (by omega)] at this
    omega
  unfold mst
  constructor
  · intro h
    by_cases q : (m : Int) ≤ ak P k
    · exact q
    · exfalso
      have hk : k < 6 * m := by
        by_cases c : k < 6 * m
        · exact c
        · have := ak_le_of hp (show 6 * m ≤ k by omega); omega
      have hsub : ((soon P [1] (6 * m + 1) [] 0).take (k + 1)).filter (fun x => decide (x < (m : Int))) = (soon P [1] (6 * m + 1) [] 0).take (k + 1) := by
        rw [List.filter_eq_self]
        intro x hx
        obtain ⟨i, hi, rfl⟩ := List.mem_iff_getElem.mp hx
        rw [List.length_take] at hi
        rw [List.getElem_take, ak_get]
        have := ak_le_of hp (show i ≤ k by omega)
        simp; omega
      have hle : (((soon P [1] (6 * m + 1) [] 0).take (k + 1)).filter (fun x => decide (x < (m : Int)))).length ≤ ((soon P [1] (6 * m + 1) [] 0).filter (fun x => decide (x < (m : Int)))).length :=
        ((List.take_sublist ..).filter _).length_le
      rw [hsub, List.length_take, hlen] at hle
      omega
  · intro h
    have e : (soon P [1] (6 * m + 1) [] 0) = (soon P [1] (6 * m + 1) [] 0).take k ++ (soon P [1] (6 * m + 1) [] 0).drop k := (List.take_append_drop ..).symm
    have hd : ((soon P [1] (6 * m + 1) [] 0).drop k).filter (fun x => decide (x < (m : Int))) = [] := by
      rw [List.filter_eq_nil_iff]
      intro x hx
      obtain ⟨i, hi, rfl⟩ := List.mem_iff_getElem.mp hx
      rw [List.getElem_drop, ak_get]
      have := ak_le_of hp (show k ≤ k + i by omega)
      simp; omega
    rw [e, List.filter_append, hd, List.append_nil]
    have h2 := List.length_filter_le (fun x => decide (x < (m : Int))) ((soon P [1] (6 * m + 1) [] 0).take k)
    rw [List.length_take] at h2
    omega
theorem up_ak {P : Lim} (hP : okP P 6 12) {q : Int × Int} (h1 : 1 ≤ q.1) (h2 : 1 ≤ q.2) : upTo (mo P q.2.toNat) q.1 = decide (q.2 ≤ ak P q.1.toNat) := by
  unfold mo
  by_cases hne : P = []
  · subst hne
    rw [if_pos rfl, ak_nil]
    simp [upTo]; omega
  · rw [if_neg hne]
    have := mst_ak hP hne (m := q.2.toNat) (k := q.1.toNat) (by omega)
    simp only [upTo]
    rw [decide_eq_decide]
    omega
def Gx (p : RR × List SV) (b : Bool) : Prop := ∃ X, p = (.d X, []) ∧ isNone X = b ∧ norm X = X
theorem r_loose1 (n : Nat) (P Q : Lim) (hP : okP P 6 12) (hl : P.length ≤ 4) (hQ : okP Q 6 12) (hl2 : Q.length ≤ 4) : (runD dfs (n + 4) i_loose_row_by [.d (Ru P [1]), .d (Ru Q [1])]).Sat fun p => Gx p (stB P Q) := by
  have hok : okR 0 1 = true := okR_of (by omega) (by omega) (by omega) (by omega) (by omega)
  have ho := r_is_open_at (n + 2) [1] 0 (by simp)
  rw [opn_one] at ho
  have hlc : Op.run .lcm [.int 1, .int 1] = some (.d (.int 1)) := run_lcm 1 1 (by omega) (by omega)
  rw [run_loose_row_by, finish_sat]
  simp [ir_loose_row_by, hlc, hok]
  obtain ⟨J, hJ⟩ := opq fun (k : Nat) (f : F) => ∃ c, f = ⟨[.d (Ru P [1]), .d (Ru Q [1]), c, .d (iT [1]), .d (iT [1]), .no, .no], []⟩
  refine for_idx _ J _ (by rw [hJ]; exact ⟨_, rfl⟩) ?_ ?_
  · intro k hk f h
    rw [hJ] at h
    obtain ⟨c, rfl⟩ := h
    simp at hk
    subst hk
    simp [ho]
    rw [hJ]
    exact ⟨_, rfl⟩
  · intro f h
    rw [hJ] at h
    obtain ⟨c, rfl⟩ := h
    simp
    obtain ⟨J2, hJ2⟩ := opq fun (k : Nat) (f : F) => (∃ c a b, f = ⟨[.d (Ru P [1]), .d (Ru Q [1]), c, .d (iT [1]), .d (iT [1]), a, b], []⟩) ∧ ∀ q ∈ Q.take k, q.2 ≤ ak P q.1.toNat
    refine for_idx _ J2 _ (by rw [hJ2]; exact ⟨⟨_, _, _, rfl⟩, fun q h => by simp at h⟩) ?_ ?_
    · intro k hk f h
      rw [hJ2] at h
      obtain ⟨⟨c, a, b, rfl⟩, hq⟩ := h
      rw [List.length_map] at hk
      have hq0 := hQ Q[k] (List.getElem_mem hk)
      obtain ⟨m, hm⟩ : ∃ m : Nat, Q[k].2 = m := ⟨Q[k].2.toNat, by omega⟩
      have e1 := r_mfb n P m hP hl (by omega) (by omega)
      have e2 := r_is_up_to (n + 2) (mo P m) Q[k].1
      have e3 := up_ak hP (q := Q[k]) hq0.1 hq0.2.2.1
      rw [hm, Int.toNat_natCast] at e3
      rw [e3] at e2
      simp [hm, hok]
      refine for_idx _ (fun i f => (∃ c, f = ⟨[.d (Ru P [1]), .d (Ru Q [1]), c, .d (iT [1]), .d (iT [1]), .d (.int Q[k].1), .d (.int m)], []⟩) ∧ (0 < i → (m : Int) ≤ ak P Q[k].1.toNat)) _ ⟨⟨_, rfl⟩, fun h => by omega⟩ ?_ ?_
      · rintro i hi f ⟨⟨c, rfl⟩, hh⟩
        simp at hi
        subst hi
        by_cases q : (m : Int) ≤ ak P Q[k].1.toNat
        · simp [e1, e2, q]
        · have q2 : stB P Q = false := by
            unfold stB
            rw [List.all_eq_false]
            exact ⟨Q[k], List.getElem_mem hk, by rw [hm]; simpa using q⟩
          have e4 := r_soonest_by n P [1] [] 0 (Q[k].1.toNat + 1) (by omega) (fun p h => (hP p h).1) okC_one (by simp) (by simp; omega)
          have ei : ((Q[k].1.toNat + 1 : Nat) : Int) = Q[k].1 + 1 := by omega
          rw [ei] at e4
          simp only [iT, List.map_nil] at e4
          simp [e1, e2, q, e4, q2, Gx]
      · rintro f ⟨⟨c, rfl⟩, hh⟩
        have hh := hh (by simp)
        simp
        rw [hJ2]
        refine ⟨⟨_, _, _, rfl⟩, fun q hq2 => ?_⟩
        rw [← List.take_append_getElem hk, List.mem_append, List.mem_singleton] at hq2
        rcases hq2 with h | h
        · exact hq q h
        · rw [h, hm]; exact hh
    · intro f h
      rw [hJ2] at h
      obtain ⟨⟨c, a, b, rfl⟩, hq⟩ := h
      rw [List.length_map, List.take_length] at hq
      have : stB P Q = true := stB_st.mpr hq
      simp [Gx, this]
end T
set_option maxRecDepth 100000
set_option maxHeartbeats 1000000
namespace T
open PySem PySem.Spec Vm Pol
theorem r_is_stricter_by (n : Nat) (P Q : Lim) (hP : okP P 6 12) (hl : P.length ≤ 4) (hQ : okP Q 6 12) (hl2 : Q.length ≤ 4) : runD dfs (n + 5) i_is_stricter_by [.d (iPs P), .d (iPs Q)] = .ok (.d (.bool (stB P Q)), []) := by
  rw [run_is_stricter_by, ← sat_iff, finish_sat]
  have h := r_loose1 n P Q hP hl hQ hl2
  simp only [Ru, iT, List.map_cons, List.map_nil] at h
  simp [ir_is_stricter_by]
  refine h.mono ?_
  rintro _ ⟨X, rfl, h1, h2⟩
  simp [h1, h2]
def alB (P Q : Lim) : Bool := stB P Q && stB Q P
theorem r_are_alike_limits (n : Nat) (P Q : Lim) (hP : okP P 6 12) (hl : P.length ≤ 4) (hQ : okP Q 6 12) (hl2 : Q.length ≤ 4) : runD dfs (n + 6) i_are_alike_limits [.d (iPs P), .d (iPs Q)] = .ok (.d (.bool (alB P Q)), []) := by
  rw [run_are_alike_limits]
  have e1 := r_check_limits n P hl hP
  have e2 := r_check_limits n Q hl2 hQ
  have e3 := r_is_stricter_by n P Q hP hl hQ hl2
  have e4 := r_is_stricter_by n Q P hQ hl2 hP hl
  unfold alB
  cases h : stB P Q <;> simp [ir_are_alike_limits, e1, e2, e3, e4, h]
theorem al_ak {P Q : Lim} (hP : okP P 6 12) (hQ : okP Q 6 12) : alB P Q = true ↔ ∀ k, ak P k = ak Q k := by
  unfold alB
  rw [Bool.and_eq_true, stB_st, stB_st]
  constructor
  · rintro ⟨h1, h2⟩ k
    have := st_ge hP.ok1 hQ.ok1 h1 k
    have := st_ge hQ.ok1 hP.ok1 h2 k
    omega
  · intro h
    exact ⟨ge_st hQ.ok1 (fun q hq => (hQ q hq).2.1) fun k _ => by rw [h k]; exact Int.le_refl _, ge_st hP.ok1 (fun q hq => (hP q hq).2.1) fun k _ => by rw [h k]; exact Int.le_refl _⟩
theorem al_6 {P Q : Lim} (hP : okP P 6 12) (hQ : okP Q 6 12) (h : ∀ k, k ≤ 6 → ak P k = ak Q k) : alB P Q = true := by
  unfold alB
  rw [Bool.and_eq_true, stB_st, stB_st]
  exact ⟨ge_st hQ.ok1 (fun q hq => (hQ q hq).2.1) fun k hk => by rw [h k hk]; exact Int.le_refl _, ge_st hP.ok1 (fun q hq => (hP q hq).2.1) fun k hk => by rw [h k hk]; exact Int.le_refl _⟩
theorem sv_eq {P Q : Lim} : sv P = sv Q ↔ ∀ k, k ≤ 6 → ak P k = ak Q k := by
  constructor
  · intro h k hk
    have h1 := sv_get (P := P) (show k < 7 by omega)
    have h2 := sv_get (P := Q) (show k < 7 by omega)
    rw [h, h2] at h1
    exact (Option.some.inj h1).symm
  · intro h
    apply List.ext_getElem (by rw [sv_len, sv_len])
    intro i h1 h2
    rw [sv_len] at h1
    have g1 := sv_get (P := P) h1
    have g2 := sv_get (P := Q) h1
    rw [List.getElem?_eq_getElem (by rw [sv_len]; exact h1)] at g1 g2
    rw [Option.some.inj g1, Option.some.inj g2, h i (by omega)]
theorem sv_al {P Q : Lim} (hP : okP P 6 12) (hQ : okP Q 6 12) : (sv P == sv Q) = alB P Q := by
  rw [Bool.eq_iff_iff, beq_iff_eq, sv_eq]
  exact ⟨al_6 hP hQ, fun h k _ => (al_ak hP hQ).mp h k⟩
theorem td_al {P Q : Lim} (hP : okP P 6 12) (hQ : okP Q 6 12) : (Pol.td P == Pol.td Q) = alB P Q := by
  rw [Bool.eq_iff_iff, beq_iff_eq]
  exact ⟨fun h => al_6 hP hQ (td_inj hP.ok1 hQ.ok1 h), fun h => td_congr fun k _ => (al_ak hP hQ).mp h k⟩
theorem td_alike {P : Lim} (hP : okP P 6 12) : alB P (Pol.td P) = true := (al_ak hP (okP.td hP)).mpr fun k => (td_ak hP.ok1 (fun q h => (hP q h).2.1) k).symm
/-! ### the tables -/
def tbl (P : Lim) : D := .tuple ((List.range 12).map fun i => optI (mo P (i + 1)))
theorem r_most_table (n : Nat) (P : Lim) (hP : okP P 6 12) (hl : P.length ≤ 4) : runD dfs (n + 6) i_most_table [.d (iPs P)] = .ok (.d (tbl P), []) := by
  have e1 := r_check_limits n P hl hP
  have hok : okR 1 13 = true := okR_of (by omega) (by omega) (by omega) (by omega) (by omega)
  have er : rangeL 1 13 = (List.range 12).map fun i : Nat => PyData.int (1 + (i : Int)) := by simp [rangeL]
  rw [run_most_table]
  simp [ir_most_table, e1, hok, er]
  rw [lc_pure (fun i : Nat => PyData.int (1 + (i : Int))) (fun _ => true) (fun i => optI (mo P (i + 1)))]
  · have ef : (List.range 12).filter (fun _ => true) = List.range 12 := List.filter_eq_self.mpr (by simp)
    rw [ef]
    simp [tbl]
  · simp
  · intro i hi
    have := List.mem_range.mp hi
    have e2 := r_most_by (n + 1) P (i + 1) hP hl (by omega) (by omega)
    have ei : ((i + 1 : Nat) : Int) = 1 + (i : Int) := by omega
    rw [ei] at e2
    simp [e2]
theorem eqv_opt (a b : Option Nat) : PyData.eqv (optI a) (optI b) = (a == b) := by
  cases a with
  | none => cases b <;> simp [optI, PyData.eqv]
  | some a => cases b with
    | none => simp [optI, PyData.eqv]
    | some b =>
      simp only [optI, PyData.eqv]
      rw [Bool.eq_iff_iff]
      simp
      omega
theorem eqvAll_opt : ∀ a b : List (Option Nat), PyData.eqvAll (a.map optI) (b.map optI) = (a == b)
  | [], [] => by simp [PyData.eqvAll]
  | [], _ :: _ => by simp [PyData.eqvAll]
  | _ :: _, [] => by simp [PyData.eqvAll]
  | x :: a, y :: b => by
    simp only [List.map_cons, PyData.eqvAll, eqv_opt, eqvAll_opt a b]
    rfl
theorem mo_al {P Q : Lim} (hP : okP P 6 12) (hQ : okP Q 6 12) : (((List.range 12).map fun i => mo P (i + 1)) == ((List.range 12).map fun i => mo Q (i + 1))) = alB P Q := by
  rw [Bool.eq_iff_iff, beq_iff_eq]
  have half : ∀ {P Q : Lim}, okP P 6 12 → okP Q 6 12 → (∀ m, m < 12 → mo P (m + 1) = mo Q (m + 1)) → stB P Q = true := fun {P Q} hP hQ h => by
    unfold stB
    rw [List.all_eq_true]
    intro q hq
    have h0 := hQ q hq
    have e1 := up_ak hP (q := q) h0.1 h0.2.2.1
    have e2 := up_ak hQ (q := q) h0.1 h0.2.2.1
    have e3 := h (q.2.toNat - 1) (by omega)
    rw [show q.2.toNat - 1 + 1 = q.2.toNat by omega] at e3
    rw [← e1, e3, e2]
    have := ak_step hQ.ok1 hq (Nat.le_refl q.1.toNat)
    rw [Nat.sub_self, ak_0 hQ.ok1] at this
    simp; omega
  constructor
  · intro h
    have hm : ∀ m, m < 12 → mo P (m + 1) = mo Q (m + 1) := fun m hm => by
      have := congrArg (fun l => l[m]?) h
      simpa [hm] using this
    unfold alB
    rw [half hP hQ hm, half hQ hP (fun m h => (hm m h).symm)]
    rfl
  · intro h
    apply List.map_congr_left
    intro i hi
    have hk := (al_ak hP hQ).mp h
    by_cases e1 : P = []
    · by_cases e2 : Q = []
      · rw [e1, e2]
      · exfalso
        obtain ⟨q, hq⟩ := List.exists_mem_of_ne_nil Q e2
        have := ak_step hQ.ok1 hq (Nat.le_refl q.1.toNat)
        rw [Nat.sub_self, ak_0 hQ.ok1, ← hk, e1, ak_nil] at this
        have := hQ q hq
        omega
    · by_cases e2 : Q = []
      · exfalso
        obtain ⟨q, hq⟩ := List.exists_mem_of_ne_nil P e1
        have := ak_step hP.ok1 hq (Nat.le_refl q.1.toNat)
        rw [Nat.sub_self, ak_0 hP.ok1, hk, e2, ak_nil] at this
        have := hP q hq
        omega
      · unfold mo
        rw [if_neg e1, if_neg e2]
        have a1 := (mst_ak hP e1 (m := i + 1) (k := mst P (i + 1)) (by omega)).mp (Nat.le_refl _)
        have a2 := (mst_ak hQ e2 (m := i + 1) (k := mst Q (i + 1)) (by omega)).mp (Nat.le_refl _)
        rw [hk] at a1
        rw [← hk] at a2
        have b1 := (mst_ak hQ e2 (m := i + 1) (k := mst P (i + 1)) (by omega)).mpr a1
        have b2 := (mst_ak hP e1 (m := i + 1) (k := mst Q (i + 1)) (by omega)).mpr a2
        congr 1
        omega
theorem RO_optw {o : Option Nat} (h : ∀ g, o = some g → g ≤ 100000) : RO (optI o) 50 0 := by
  cases o with
  | none => exact RO.none.mono (by omega) (by omega)
  | some g => exact RO.int' (by omega) (by have := h g rfl; omega)
theorem RO_tbl (P : Lim) : RO (tbl P) (12 * 51) 1 := by
  unfold tbl
  have := ROs.map (g := fun i => optI (mo P (i + 1))) (l := List.range 12) (w := 50) (k := 0) fun i hi => RO_optw fun g hg => by
    have hi := List.mem_range.mp hi
    unfold mo at hg
    split at hg
    · cases hg
    · cases hg
      have := mst_le P (i + 1)
      omega
  rw [List.length_range] at this
  exact RO.tuple this
theorem eq_tbl {P Q : Lim} (hP : okP P 6 12) (hQ : okP Q 6 12) : runEq false (tbl P) (tbl Q) = some (.d (.bool (alB P Q))) := by
  rw [runEq_small (RO_tbl P) (RO_tbl Q) (by omega) (by omega)]
  unfold tbl
  have := eqvAll_opt ((List.range 12).map fun i => mo P (i + 1)) ((List.range 12).map fun i => mo Q (i + 1))
  rw [mo_al hP hQ, List.map_map, List.map_map] at this
  simp only [PyData.eqv]
  rw [show PyData.eqvAll ((List.range 12).map fun i => optI (mo P (i + 1))) ((List.range 12).map fun i => optI (mo Q (i + 1))) = alB P Q from this]
  rfl
end T
set_option maxRecDepth 100000
set_option maxHeartbeats 1000000
namespace T
open PySem PySem.Spec Vm Pol
variable {P : Lim}
theorem okP_app {P Q : Lim} {K W : Int} (h1 : okP P K W) (h2 : okP Q K W) : okP (P ++ Q) K W := fun p h => by
  rcases List.mem_append.mp h with h | h
  · exact h1 p h
  · exact h2 p h
theorem okP_take {P : Lim} {K W : Int} (h1 : okP P K W) (k : Nat) : okP (P.take k) K W := fun p h => h1 p (List.mem_of_mem_take h)
theorem okP_drop {P : Lim} {K W : Int} (h1 : okP P K W) (k : Nat) : okP (P.drop k) K W := fun p h => h1 p (List.mem_of_mem_drop h)
theorem okP_one {q : Int × Int} (h : 1 ≤ q.1 ∧ q.1 ≤ 6 ∧ 1 ≤ q.2 ∧ q.2 ≤ 12) : okP [q] 6 12 := fun p hp => by
  simp only [List.mem_singleton] at hp; subst hp; exact h
theorem cut1 (xs : List D) (j : Nat) : cutD xs (some ((j : Int) + 1)) none = xs.drop (j + 1) := cutD_from xs (j + 1)
def GQ (x : D) : Prop := ∃ Q : Lim, x = iPs Q ∧ Q.length ≤ 4 ∧ okP Q 6 12
theorem r_other_limits (n : Nat) (w : Ob) (hw : IsW w) (P : Lim) (hP : okP P 6 12) (hl : P.length ≤ 4) : (runD dfs (n + 4) i__law_other_limits [.r w, .d (iPs P)]).Sat (Gives GQ) := by
  have e7 := r_law_seven n P hP.ok1
  rw [run__law_other_limits, finish_sat]
  simp [ir__law_other_limits]
  refine (r_pick (n + 2) w hw 5 (by omega) (by omega)).mono ?_
  rintro _ ⟨_, w1, ⟨r, rfl, a1, a2⟩, hw1, rfl⟩
  have ene : runEq false (.tuple (P.map iP)) (.tuple []) = some (.d (.bool P.isEmpty)) := runEq_iPs_nil false P
  by_cases hr : r = 0 ∨ P = []
  · have hrev : GQ (.tuple (P.map iP).reverse) := ⟨P.reverse, by simp, by simpa using hl, fun p h => hP p (List.mem_reverse.mp h)⟩
    by_cases h0 : r = 0
    · simp [h0]
      exact ⟨_, _, hrev, hw1, rfl⟩
    · have hp : P = [] := hr.resolve_left h0
      simp [h0, ene]
      simp [hp]
      exact ⟨_, _, ⟨[], rfl, by simp, fun p h => by cases h⟩, hw1, rfl⟩
  have h0 : ¬ r = 0 := fun h => hr (.inl h)
  have hne : P ≠ [] := fun h => hr (.inr h)
  have hne2 : P.isEmpty = false := by cases P with | nil => exact absurd rfl hne | cons _ _ => rfl
  have hpos : 0 < P.length := List.length_pos_iff.mpr hne
  rw [hne2] at ene
  simp [h0, ene, e7]
  refine (r_pick (n + 2) w1 hw1 6 (by omega) (by omega)).mono ?_
  rintro _ ⟨_, w2, ⟨r2, rfl, b1, b2⟩, hw2, rfl⟩
  obtain ⟨k, hk, hk1, hk2⟩ : ∃ k : Nat, 1 + r2 = k ∧ 1 ≤ k ∧ k ≤ 6 := ⟨(1 + r2).toNat, by omega, by omega, by omega⟩
  have g1 : (sv P)[k]? = some (ak P k) := sv_get (by omega)
  have hrest : ∀ f : Vm.F, f = ⟨[.c 0, .d (iPs P), .d (.int r), .no, .own (.lst ((sv P).map .int)), .d (.int k), .no, .no], [.own w2]⟩ →
      (xSs (runD dfs (n + 3)) (ir__law_other_limits.drop 4) f).Sat { nx := fun f => (∀ x ∈ f.S, x.ok = true) ∧ Gives GQ (.d .none, f.S), rt := fun r f => (∀ x ∈ f.S, x.ok = true) ∧ Gives GQ (r, f.S) } := by
    rintro _ rfl
    simp [ir__law_other_limits]
    refine (r_pick (n + 2) w2 hw2 P.length (by omega) (by omega)).mono ?_
    rintro _ ⟨_, w3, ⟨r3, rfl, c1, c2⟩, hw3, rfl⟩
    obtain ⟨j, rfl⟩ : ∃ j : Nat, r3 = j := ⟨r3.toNat, by omega⟩
    have hj : j < P.length := by omega
    have hq := hP P[j] (List.getElem_mem hj)
    by_cases q2 : r = 2
    · simp [hj, q2]
      refine (r_one (n + 1) w3 hw3 _ _ (.inl rfl) (by simp) (by simp)).mono ?_
      rintro _ ⟨x, w4, hx, hw4, rfl⟩
      obtain ⟨d, rfl, hd, hd2⟩ : ∃ d : Int, x = .int d ∧ -1 ≤ d ∧ d ≤ 1 := by
        simp at hx
        rcases hx with rfl | rfl <;> exact ⟨_, rfl, by omega, by omega⟩
      obtain ⟨v, hv, hv1, hv2⟩ : ∃ v, (if 1 < (if P[j].2 + d < 12 then P[j].2 + d else 12) then (if P[j].2 + d < 12 then P[j].2 + d else 12) else 1) = v ∧ 1 ≤ v ∧ v ≤ 12 := by
        refine ⟨_, rfl, ?_, ?_⟩ <;> (repeat' split) <;> omega
      simp (disch := first | omega | (simp; done) | (simp; omega)) [hv, szB_of, cut1]
      exact ⟨_, _, ⟨P.take j ++ ([(P[j].1, v)] ++ P.drop (j + 1)), by simp, by simp; omega, okP_app (okP_take hP j) (okP_app (okP_one ⟨hq.1, hq.2.1, hv1, hv2⟩) (okP_drop hP _))⟩, hw4, rfl⟩
    · by_cases q3 : r = 3
      · simp (disch := first | omega | (simp; done) | (simp; omega)) [hj, q2, q3, cut1, szB_of]
        exact ⟨_, _, ⟨P.take j ++ P.drop (j + 1), by simp, by simp; omega, okP_app (okP_take hP j) (okP_drop hP _)⟩, hw3, rfl⟩
      · simp [hj, q2, q3]
        refine (r_some_limits n w3 hw3 6 12 (by omega) (by omega) (by omega) (by omega)).mono ?_
        rintro _ ⟨_, w4, ⟨Q, rfl, hQl, hQ⟩, hw4, rfl⟩
        simp
        exact ⟨_, _, ⟨Q, rfl, hQl, hQ⟩, hw4, rfl⟩
  by_cases hc : r = 1 ∧ P.length < 4 ∧ 0 < ak P k
  · obtain ⟨rfl, hc2, hc3⟩ := hc
    have hc4 : (P.length : Int) < 4 := by omega
    by_cases hc5 : 1 < ak P k
    · simp [hk, g1, hc4, hc3, hc5]
      refine (r_pick (n + 2) w2 hw2 2 (by omega) (by omega)).mono ?_
      rintro _ ⟨_, w3, ⟨r3, rfl, c1, c2⟩, hw3, rfl⟩
      obtain ⟨v, hv, hv1, hv2⟩ : ∃ v, (if ak P k < 12 then ak P k else 12) - r3 = v ∧ 1 ≤ v ∧ v ≤ 12 := by
        refine ⟨_, rfl, ?_, ?_⟩ <;> split <;> omega
      simp (disch := first | omega | (simp; done) | (simp; omega)) [hv, szB_of]
      exact ⟨_, _, ⟨P ++ [((k : Int), v)], by simp, by simp; omega, okP_app hP (okP_one ⟨by show (1 : Int) ≤ k; omega, by show (k : Int) ≤ 6; omega, hv1, hv2⟩)⟩, hw3, rfl⟩
    · simp (disch := first | omega | (simp; done) | (simp; omega)) [hk, g1, hc4, hc3, hc5, szB_of]
      exact ⟨_, _, ⟨P ++ [((k : Int), 1)], by simp, by simp; omega, okP_app hP (okP_one ⟨by show (1 : Int) ≤ k; omega, by show (k : Int) ≤ 6; omega, by show (1 : Int) ≤ 1; omega, by show (1 : Int) ≤ 12; omega⟩)⟩, hw2, rfl⟩
  · have hh := hrest _ rfl
    simp [ir__law_other_limits] at hh
    have hc' : ¬ (r = 1 ∧ (P.length : Int) < 4 ∧ 0 < ak P k) := fun h => hc ⟨h.1, by omega, h.2.2⟩
    simp [hk, g1, hc']
    exact hh
/-! ### rows -/
def rowsOk (P Q : Lim) (Ls : List (List Int)) : Prop := (∀ L ∈ Ls, okA L ∧ L.length ≤ 8 ∧ ∀ x ∈ L, x ≤ 100000) ∧ soon P [1] 8 [] 0 ∈ Ls ∧ soon Q [1] 8 [] 0 ∈ Ls ∧ Ls.length ≤ 5
def GR (P Q : Lim) (p : RR × List SV) : Prop := ∃ w Ls, IsW w ∧ rowsOk P Q Ls ∧ p = (.fr (.lst (Ls.map iT)), [.own w])
theorem soon8_ok {P : Lim} (hP : okP P 6 12) : okA (soon P [1] 8 [] 0) ∧ (soon P [1] 8 [] 0).length ≤ 8 ∧ ∀ x ∈ soon P [1] 8 [] 0, x ≤ 100000 := by
  refine ⟨⟨soon_up', fun x hx => soon_since P [1] 8 [] 0 x hx⟩, by rw [soon_length]; exact Nat.le_refl _, fun x hx => ?_⟩
  have := soon_bd hP (C := [1]) ⟨by simp, by simp, okC_one, by simp⟩ 8 (L := []) (s := 0) (B := 0) (by omega) (by simp) x hx
  omega
theorem r_law_rows (n : Nat) (w : Ob) (hw : IsW w) (P Q : Lim) (hP : okP P 6 12) (hQ : okP Q 6 12) : (runD dfs (n + 5) i__law_rows [.r w, .d (iPs P), .d (iPs Q)]).Sat (GR P Q) := by
  have e1 := r_law_soonest 0 (n + 2) P [1] [] 8 0 (fun p h => (hP p h).1) (by simp) (by simp) (by simp)
  have e2 := r_law_soonest 0 (n + 2) Q [1] [] 8 0 (fun p h => (hQ p h).1) (by simp) (by simp) (by simp)
  simp [seqA, seqS] at e1 e2
  simp only [iT, List.map_cons, List.map_nil] at e1 e2
  have hok : okR 0 3 = true := okR_of (by omega) (by omega) (by omega) (by omega) (by omega)
  have hC1 : okH [1] := ⟨by simp, by simp, okC_one, by simp⟩
  rw [run__law_rows, finish_sat]
  simp [ir__law_rows, e1, e2, hok]
  obtain ⟨J, hJ⟩ := opq fun (k : Nat) (f : Vm.F) => ∃ (w : Ob) (Ls : List (List Int)) (a b c : LV), IsW w ∧ f = ⟨[.c 0, .d (iPs P), .d (iPs Q), .own (.lst (Ls.map iT)), a, b, c], [.own w]⟩ ∧ Ls.length = k + 2 ∧ (∀ L ∈ Ls, okA L ∧ L.length ≤ 8 ∧ ∀ x ∈ L, x ≤ 100000) ∧ soon P [1] 8 [] 0 ∈ Ls ∧ soon Q [1] 8 [] 0 ∈ Ls
  refine for_idx _ J _ ?_ ?_ ?_
  · rw [hJ]
    refine ⟨w, [soon P [1] 8 [] 0, soon Q [1] 8 [] 0], _, _, _, hw, rfl, rfl, ?_, by simp, by simp⟩
    intro L hL
    simp at hL
    rcases hL with rfl | rfl
    · exact soon8_ok hP
    · exact soon8_ok hQ
  · intro k hk f h
    rw [hJ] at h
    obtain ⟨w1, Ls, a, b, c, hw1, rfl, hLl, hLs, m1, m2⟩ := h
    simp at hk
    simp
    refine (r_one (n + 2) w1 hw1 _ _ (.inl rfl) (by simp) (by simp)).mono ?_
    rintro _ ⟨x, w2, hx, hw2, rfl⟩
    obtain ⟨R, rfl, hR⟩ : ∃ R : Lim, x = iPs R ∧ okP R 6 12 := by
      simp at hx
      rcases hx with rfl | rfl
      · exact ⟨P, rfl, hP⟩
      · exact ⟨Q, rfl, hQ⟩
    have rs := r_some_row n w2 hw2 R [1] 7 4 (by omega) (by omega) (by omega) hR hC1
    simp only [iT, List.map_cons, List.map_nil] at rs
    simp
    refine rs.mono ?_
    rintro _ ⟨_, w3, ⟨L, rfl, hl, hA, hpol, hB⟩, hw3, rfl⟩
    simp
    refine (r_pick (n + 3) w3 hw3 L.length (by omega) (by omega)).mono ?_
    rintro _ ⟨_, w4, ⟨r, rfl, a1, a2⟩, hw4, rfl⟩
    obtain ⟨j, rfl⟩ : ∃ j : Nat, r = j := ⟨r.toNat, by omega⟩
    have hj : j < L.length := by omega
    simp [hj]
    refine (r_one (n + 2) w4 hw4 _ _ (.inl rfl) (by simp) (by simp)).mono ?_
    rintro _ ⟨x, w5, hx, hw5, rfl⟩
    obtain ⟨d, rfl, hd, hd2⟩ : ∃ d : Int, x = .int d ∧ -1 ≤ d ∧ d ≤ 1 := by
      simp at hx
      rcases hx with rfl | rfl | rfl <;> exact ⟨_, rfl, by omega, by omega⟩
    have hx0 := hA.2 L[j] (List.getElem_mem hj)
    have hx1 := hB L[j] (List.getElem_mem hj)
    obtain ⟨v, hv, hv0, hv1⟩ : ∃ v : Int, (if 0 < L[j] + d then L[j] + d else 0) = v ∧ 0 ≤ v ∧ v ≤ 2000 := by
      refine ⟨_, rfl, ?_⟩
      split <;> omega
    have hixn : L2.ixN L.length (j : Int) = some j := by
      unfold L2.ixN
      rw [if_pos (by omega), if_pos (by omega : (j : Int) < L.length), Int.toNat_natCast]
    have hset : (L.map PyData.int).set j (.int v) = (L.set j v).map .int := by rw [List.map_set]
    have hz := szL_of (n := Ls.length) (by omega)
    simp [hv, hixn, hset, -List.map_set, hz]
    rw [hJ]
    have hS : okA (sortI (L.set j v)) ∧ (sortI (L.set j v)).length ≤ 8 ∧ ∀ x ∈ sortI (L.set j v), x ≤ 100000 := by
      have hb : ∀ x ∈ L.set j v, 0 ≤ x ∧ x ≤ 100000 := fun x hx => by
        rcases List.mem_or_eq_of_mem_set hx with h | h
        · have := hA.2 x h; have := hB x h; omega
        · omega
      refine ⟨⟨sI_up _, fun x hx => (hb x ((sI_perm _).mem_iff.mp hx)).1⟩, ?_, fun x hx => (hb x ((sI_perm _).mem_iff.mp hx)).2⟩
      rw [(sI_perm _).length_eq, List.length_set]
      omega
    refine ⟨w5, Ls ++ [sortI (L.set j v)], _, _, _, hw5, by rw [List.map_append]; rfl, by simp [hLl], ?_, List.mem_append_left _ m1, List.mem_append_left _ m2⟩
    intro M hM
    rcases List.mem_append.mp hM with h | h
    · exact hLs M h
    · simp only [List.mem_singleton] at h
      subst h
      exact hS
  · intro f h
    rw [hJ] at h
    obtain ⟨w1, Ls, a, b, c, hw1, rfl, hLl, hLs, m1, m2⟩ := h
    simp at hLl
    simp
    exact ⟨w1, Ls, hw1, ⟨hLs, m1, m2, by omega⟩, rfl⟩
end T
set_option maxRecDepth 100000
set_option maxHeartbeats 1000000
namespace T
open PySem PySem.Spec Vm Pol
theorem getD_lt {l : List Int} {i : Nat} (h : i < l.length) : l.getD i 0 = l[i] := by simp [h]
def bad (P : Lim) (C L : List Int) (i : Nat) : Bool := !opn C (L.getD i 0) || crowd P L i
theorem wrong_bad (P : Lim) (C L : List Int) : wrong P C L = (List.range L.length).find? (bad P C L) := rfl
theorem up_take {L : List Int} (h : up L) (k : Nat) : up (L.take k) := List.Pairwise.sublist (List.take_sublist ..) h
theorem bad_eq {P : Lim} {C L : List Int} (hp : ∀ p ∈ P, 1 ≤ p.1 ∧ 1 ≤ p.2) (hu : up L) {i : Nat} (hi : i < L.length) : bad1 P C L i = bad P C L i := by
  unfold bad1 bad crowd
  congr 1
  rw [Bool.eq_iff_iff]
  simp only [List.any_eq_true, Bool.and_eq_true, decide_eq_true_eq]
  have key : ∀ p ∈ P, (p.1 < (cnt (L.take (i + 1)) (L.getD i 0) p.2 : Int) ↔ p.1 ≤ (i : Int) ∧ L.getD i 0 < L.getD ((i : Int) - p.1).toNat 0 + p.2) := by
    intro p hm
    have h1 := hp p hm
    have h := cnt_up (up_take hu (i + 1)) (show 1 ≤ p.1.toNat + 1 by omega) (L.getD i 0) p.2
    have hl : (L.take (i + 1)).length = i + 1 := by rw [List.length_take]; omega
    rw [hl] at h
    by_cases q : p.1 ≤ (i : Int)
    · have e : (L.take (i + 1)).getD (i + 1 - (p.1.toNat + 1)) 0 = L.getD ((i : Int) - p.1).toNat 0 := by
        rw [getD_lt (by rw [hl]; omega), List.getElem_take, ← getD_lt (by omega)]
        congr 1
        omega
      rw [e] at h
      omega
    · omega
  constructor
  · rintro ⟨p, hm, h⟩; exact ⟨p, hm, (key p hm).mp h⟩
  · rintro ⟨p, hm, h⟩; exact ⟨p, hm, (key p hm).mpr h⟩
theorem find_congr {α : Type} {p q : α → Bool} : ∀ {l : List α}, (∀ x ∈ l, p x = q x) → l.find? p = l.find? q
  | [], _ => rfl
  | x :: l, h => by
    rw [List.find?_cons, List.find?_cons, h x (List.mem_cons_self ..), find_congr fun y hy => h y (List.mem_cons_of_mem _ hy)]
theorem wrg_wrong {P : Lim} {C L : List Int} (hp : ∀ p ∈ P, 1 ≤ p.1 ∧ 1 ≤ p.2) (hu : up L) : wrg P C L = wrong P C L :=
  find_congr fun i hi => bad_eq hp hu (List.mem_range.mp hi)
variable {P : Lim} {C L : List Int} {t : Int}
theorem isNone_optI (o : Option Nat) : isNone (optI o) = decide (o = none) := by cases o <;> simp [optI]
theorem r_is_polite_any (n : Nat) (hP : okP P 6 12) (hlen : P.length ≤ 4) (hC : okH C) (hA : okA L) (hL : L.length ≤ 200) : runD dfs (n + 8) i_is_polite [.d (Ru P C), .d (iT L)] = .ok (.d (.bool (isNone (optI (wrong P C L)))), []) := by
  rw [run_is_polite]
  simp [ir_is_polite, r_check_rules n P C hlen hP hC, r_check_asks (n + 4) L hL hA, r_is_polite_by (n + 4) P C L (by omega) (fun p h => (hP p h).1) hC.1, isNone_optI]
theorem ak_mem {P Q : Lim} (hp : ok1 P) (hq : ok1 Q) (h : ∀ p, p ∈ P ↔ p ∈ Q) (k : Nat) : ak P k = ak Q k := by
  have half : ∀ {P Q : Lim}, ok1 P → ok1 Q → (∀ p, p ∈ Q → p ∈ P) → st P Q := fun {P Q} hp hq h q hm => by
    have := ak_step hp (h q hm) (Nat.le_refl q.1.toNat)
    rw [Nat.sub_self, ak_0 hp] at this
    omega
  have h1 := st_ge hp hq (half hp hq fun p hm => (h p).mpr hm) k
  have h2 := st_ge hq hp (half hq hp fun p hm => (h p).mp hm) k
  omega
theorem td_swap {P Q : Lim} (hp : ok1 P) (hq : ok1 Q) : Pol.td (P ++ Q) = Pol.td (Q ++ P) :=
  td_congr fun k _ => ak_mem (ok1_app hp hq) (ok1_app hq hp) (fun p => by simp [or_comm]) k
theorem jn_swap {P Q : Lim} (hp : ok1 P) (hq : ok1 Q) : jn P Q = jn Q P := by unfold jn; rw [td_swap hp hq]
theorem RO_lim {P : Lim} (hP : okP P 6 12) : RO (iPs P) (P.length * 103) 2 := RO_iPs fun p hp => by have := hP p hp; omega
theorem td_big {P : Lim} (hp : ok1 P) (h12 : ∀ p ∈ P, p.2 ≤ 12) : okP (Pol.td P) 6 12 := fun q hq => by
  have h1 := tdF_mem hp 6 q hq
  have h2 := tdF_12 hp h12 (by omega) 6 q hq
  exact ⟨h1.1, h1.2.1, h1.2.2.1, h2⟩
theorem RO_jn {P Q : Lim} (hP : okP P 6 12) (hQ : okP Q 6 12) : RO (jn P Q) 2000 2 := by
  unfold jn
  split
  · exact (RO.tuple (ROs.cons (RO.str (s := "many") (by decide +kernel)) (ROs.nil (k := 0)))).mono (by decide +kernel) (by decide)
  · have hb := td_big (P := P ++ Q) (ok1_app hP.ok1 hQ.ok1) (fun p hp => ((okP_app hP hQ) p hp).2.2.2)
    exact (RO_lim hb).mono (by omega) (by omega)
theorem r_ladder (n : Nat) (w : Ob) (hw : IsW w) : (runD dfs (n + 8) i__law_ladder_right [.r w]).Sat (Gives fun x => x = .bool true) := by
  have hok : okR 1 7 = true := okR_of (by omega) (by omega) (by omega) (by omega) (by omega)
  rw [run__law_ladder_right, finish_sat]
  simp [ir__law_ladder_right, hok]
  obtain ⟨J, hJ⟩ := opq fun (k : Nat) (acc : List D) (f : Vm.F) => ∃ (w : Ob) (M : Lim), IsW w ∧ f = ⟨[.c 0, .no, .no, .no, .no, .no, .no, .no, .no], [.own w]⟩ ∧ acc = M.map iP ∧ M.length = k ∧ ∀ p ∈ M, 1 ≤ p.1 ∧ p.1 ≤ 6 ∧ p.2 ≤ 12 ∧ -10 ≤ p.2
  refine lc_idx _ J _ (by rw [hJ]; exact ⟨w, [], hw, rfl, rfl, rfl, fun p h => by cases h⟩) ?_ ?_
  · intro k hk0 acc f h
    rw [hJ] at h
    obtain ⟨w1, M, hw1, rfl, rfl, hM, hb⟩ := h
    have hk := hk0
    simp at hk
    simp
    refine (r_one (n + 5) w1 hw1 _ _ (.inl rfl) (by simp) (by simp)).mono ?_
    rintro _ ⟨x, w2, hx, hw2, rfl⟩
    obtain ⟨d, rfl, hd, hd2⟩ : ∃ d : Int, x = .int d ∧ 0 ≤ d ∧ d ≤ 3 := by
      simp at hx
      rcases hx with rfl | rfl | rfl <;> exact ⟨_, rfl, by omega, by omega⟩
    simp
    refine ⟨by omega, ?_⟩
    rw [hJ]
    refine ⟨w2, M ++ [(1 + (k : Int), 2 * (1 + (k : Int)) - d)], hw2, rfl, by simp, by simp [hM], fun p hp => ?_⟩
    rcases List.mem_append.mp hp with h | h
    · exact hb p h
    · simp at h; subst h; simp; omega
  · intro acc f h
    rw [hJ] at h
    obtain ⟨w1, M, hw1, rfl, rfl, hM, hb⟩ := h
    simp at hM
    simp
    rw [lc_pure (fun p => iP p) (fun _ => true) (fun p : Int × Int => iP (p.1, if 1 < p.2 then p.2 else 1))]
    · have ef : M.filter (fun _ => true) = M := List.filter_eq_self.mpr (by simp)
      obtain ⟨N, hN⟩ : ∃ N : Lim, M.map (fun p : Int × Int => (p.1, if 1 < p.2 then p.2 else 1)) = N := ⟨_, rfl⟩
      have eN : (M.map fun p : Int × Int => iP (p.1, if 1 < p.2 then p.2 else 1)) = N.map iP := by rw [← hN, List.map_map]; rfl
      have hNl : N.length = 6 := by rw [← hN, List.length_map]; exact hM
      have hNo : okP N 6 12 := fun p hp => by
        rw [← hN] at hp
        obtain ⟨q, hq, rfl⟩ := List.mem_map.mp hp
        have := hb q hq
        dsimp only
        refine ⟨this.1, this.2.1, ?_, ?_⟩ <;> split <;> omega
      rw [ef, eN]
      simp
      refine (r_pick (n + 6) w1 hw1 3 (by omega) (by omega)).mono ?_
      rintro _ ⟨_, w2, ⟨r, rfl, a1, a2⟩, hw2, rfl⟩
      obtain ⟨at', hat, hat1, hat2⟩ : ∃ a : Nat, 1 + r = a ∧ 1 ≤ a ∧ a ≤ 3 := ⟨(1 + r).toNat, by omega, by omega, by omega⟩
      simp [hat]
      refine (r_one (n + 5) w2 hw2 _ _ (.inl rfl) (by simp) (by simp)).mono ?_
      rintro _ ⟨x, w3, hx, hw3, rfl⟩
      obtain ⟨sz, rfl, hsz⟩ : ∃ s : Nat, x = .int s ∧ s ≤ 6 := by
        simp at hx
        rcases hx with rfl | rfl | rfl
        · exact ⟨6, rfl, by omega⟩
        · exact ⟨5, rfl, by omega⟩
        · exact ⟨4, rfl, by omega⟩
      have y7 : ∀ xs : List D, cutD xs none (some 4) = xs.take 4 := fun xs => cutD_to xs 4
      simp [y7]
      simp only [← List.map_take, ← List.map_drop]
      have hA : okP (N.take at') 6 12 := okP_take hNo _
      have hAl : (N.take at').length ≤ 4 := by rw [List.length_take]; omega
      have hB : okP (((N.take sz).drop at').take 4) 6 12 := okP_take (okP_drop (okP_take hNo _) _) _
      have hBl : (((N.take sz).drop at').take 4).length ≤ 4 := by rw [List.length_take]; omega
      have hszb : szB (min at' N.length + min 4 (min sz N.length - at')) = true := szB_of (by omega)
      rw [hszb]
      generalize N.take at' = A at hA hAl ⊢
      generalize ((N.take sz).drop at').take 4 = B at hB hBl ⊢
      have e1 := r_law_tidy (n + 3) (A ++ B) (ok1_app hA.ok1 hB.ok1)
      have e2 := r_law_joined n B A hB hBl hA hAl
      rw [jn_swap hB.ok1 hA.ok1] at e2
      have e3 := r_tidied (n + 1) A hA hAl
      have e4 := r_law_tidy (n + 3) A hA.ok1
      simp only [iPs, List.map_append] at e1
      obtain ⟨s1, hs1⟩ : ∃ s, runRepr (jn A B) = some (.d (.str s)) := ⟨_, RO.repr (RO_jn hA hB) (by omega) (by omega)⟩
      obtain ⟨s2, hs2⟩ : ∃ s, runRepr (iPs (Pol.td A)) = some (.d (.str s)) := ⟨_, RO.repr (RO_lim (okP.td hA)) (by have := td_len hA.ok1; omega) (by omega)⟩
      have hnj : norm (jn A B) = jn A B := (RO_jn hA hB).norm
      by_cases q : 4 < (Pol.td (A ++ B)).length
      · have q2 : (4 : Int) < (Pol.td (A ++ B)).length := by omega
        have ej : jn A B = .tuple [.str "many"] := by unfold jn; rw [if_pos q]
        rw [ej] at e2 hs1
        simp [e1, e2, e3, e4, hs1, hs2, q2]
        exact ⟨_, _, rfl, hw3, rfl⟩
      · have q2 : ¬ (4 : Int) < (Pol.td (A ++ B)).length := by omega
        have ej : jn A B = iPs (Pol.td (A ++ B)) := by unfold jn; rw [if_neg q]
        rw [ej] at e2 hs1
        simp [e1, e2, e3, e4, hs1, hs2, q2]
        exact ⟨_, _, rfl, hw3, rfl⟩
    · omega
    · intro p hp
      simp
end T
set_option maxRecDepth 100000
set_option maxHeartbeats 1000000
namespace T
open PySem PySem.Spec Vm Pol
variable {P : Lim} {C : List Int}
theorem r_check_hours (n : Nat) (h : okH C) : runD dfs (n + 5) i_check_hours [.d (iT C)] = .ok (.d .none, []) := by
  rw [run_check_hours]
  simp [ir_check_hours, r_are_hours n C h]
theorem runMulT (xs : List D) (q : Nat) (h : q ≤ 1000) (h2 : xs.length ≤ 1000) : runMul (.tuple xs) (.int (q : Int)) = some (.d (.tuple (List.replicate q xs).flatten)) := by
  rw [runMul_tuple, if_pos (mulT_of (by omega) (by omega) h2)]
  simp
def Fit (C : List Int) (s : Nat) : Prop := 1 ≤ s ∧ s ≤ C.length ∧ (s < C.length → perB C s = true) ∧ ∀ q, 1 ≤ q → q < s → perB C q = false
theorem r_tidied_hours (n : Nat) (h : okH C) : (runD dfs (n + 6) i_tidied_hours [.d (iT C)]).Sat fun p => ∃ s, Fit C s ∧ p = (.d (iT (C.take s)), []) := by
  have e1 := r_check_hours n h
  have hC1 := h.1
  have hC2 := h.2.1
  have hok : okR 1 C.length = true := okR_of (by omega) (by omega) (by omega) (by omega) (by omega)
  have e2 : (runD dfs (n + 5) i_tidied_hours_by [.d (iT C)]).Sat fun p => ∃ s, Fit C s ∧ p = (.d (iT (C.take s)), []) := by
    rw [run_tidied_hours_by, finish_sat]
    simp [ir_tidied_hours_by, hok]
    obtain ⟨J, hJ⟩ := opq fun (k : Nat) (f : Vm.F) => (∃ c, f = ⟨[.d (iT C), c], []⟩) ∧ ∀ q, 1 ≤ q → q < k + 1 → perB C q = false
    refine for_idx _ J _ (by rw [hJ]; exact ⟨⟨_, rfl⟩, fun q h1 h2 => by omega⟩) ?_ ?_
    · intro k hk0 f hf
      rw [hJ] at hf
      obtain ⟨⟨c, rfl⟩, hq⟩ := hf
      have hk := hk0
      simp at hk
      have er : (rangeL 1 (C.length : Int))[k]'hk0 = .int ((k + 1 : Nat) : Int) := by simp; omega
      rw [er]
      have hm : k + 1 < C.length := by omega
      have hfin : J (k + 1) = J (k + 1) := rfl
      generalize hs : k + 1 = s at hm hq ⊢
      have hs1 : 1 ≤ s := by omega
      have hs0 : 0 < s := by omega
      have hs30 : (s : Int) < 1073741824 := by omega
      have hdiv : ((C.length : Int) / (s : Int)) = ((C.length / s : Nat) : Int) := by omega
      have hmod : ((C.length : Int) % (s : Int)) = ((C.length % s : Nat) : Int) := by omega
      have hdl : C.length / s ≤ 12 := Nat.le_trans (Nat.div_le_self ..) hC2
      have z1 := runMulT ((C.take s).map .int) (C.length / s) (by omega) (by simp; omega)
      have z2 : (List.replicate (C.length / s) ((C.take s).map PyData.int)).flatten = ((List.replicate (C.length / s) (C.take s)).flatten).map .int := by
        rw [List.map_flatten, List.map_replicate]
      rw [z2] at z1
      have z3 := runEq_iT false ((List.replicate (C.length / s) (C.take s)).flatten) C
      rw [← z2, List.map_take] at z3
      simp only [List.map_take] at z1
      rw [← hdiv] at z1
      have hp : perB C s = (decide (C.length % s = 0) && ((List.replicate (C.length / s) (C.take s)).flatten == C)) := by
        have hb : decide ((List.replicate (C.length / s) (C.take s)).flatten = C) = ((List.replicate (C.length / s) (C.take s)).flatten == C) := by
          rw [Bool.eq_iff_iff, decide_eq_true_eq, beq_iff_eq]
        unfold perB
        rw [hb]
      by_cases d : C.length % s = 0
      · have dz : ((C.length : Int) % (s : Int)) = 0 := by omega
        cases b : ((List.replicate (C.length / s) (C.take s)).flatten == C) with
        | true =>
          rw [b] at z3 hp
          rw [decide_eq_true d] at hp
          simp [-Option.bind_some, obnd, -runMul_tuple, -runEq_iT, dz, hs0, hs30, z1, z3, hs1]
          exact ⟨s, ⟨hs1, by omega, fun _ => hp, hq⟩, rfl⟩
        | false =>
          rw [b] at z3 hp
          rw [Bool.and_false] at hp
          simp [-Option.bind_some, obnd, -runMul_tuple, -runEq_iT, dz, hs0, hs30, z1, z3, hs1]
          rw [hJ]
          refine ⟨⟨_, rfl⟩, fun q h1 h2 => ?_⟩
          by_cases e : q < s
          · exact hq q h1 e
          · have : q = s := by omega
            rw [this]; exact hp
      · have dz : ¬ ((C.length : Int) % (s : Int)) = 0 := by omega
        have hp2 : perB C s = false := by rw [hp, decide_eq_false d]; rfl
        simp [dz, hs0]
        rw [hJ]
        refine ⟨⟨_, rfl⟩, fun q h1 h2 => ?_⟩
        by_cases e : q < s
        · exact hq q h1 e
        · have : q = s := by omega
          rw [this]; exact hp2
    · intro f hf
      rw [hJ] at hf
      obtain ⟨⟨c, rfl⟩, hq⟩ := hf
      simp at hq
      simp
      exact ⟨C.length, ⟨hC1, Nat.le_refl _, fun h => by omega, fun q h1 h2 => hq q h1 (by omega)⟩, by rw [← List.map_take, List.take_length]⟩
  rw [run_tidied_hours, finish_sat]
  simp [ir_tidied_hours, e1]
  refine e2.mono ?_
  rintro _ ⟨s, hs, rfl⟩
  simp
  exact ⟨s, hs, rfl⟩
/-- at most two where (2, 9) is asked for -/
theorem r_most2 (n : Nat) (P : Lim) (C : List Int) (t : Int) (m : Nat) (hP : okP P 6 12) (h29 : ((2, 9) : Int × Int) ∈ P) (hl : P.length ≤ 4) (hC : okH C) (hm : m ≤ 9) (ht : 0 ≤ t) (ht2 : t ≤ 1000) :
    (runD dfs (n + 3) i_most_from_by [.d (Ru P C), .d (.int t), .d (.int m)]).Sat fun p => ∃ c : Nat, c ≤ 2 ∧ p = (.d (.int c), []) := by
  have hp1 : ∀ p ∈ P, 1 ≤ p.1 := fun p h => (hP p h).1
  have hemp : P.isEmpty = false := by cases P with | nil => cases h29 | cons => rfl
  have hC2 := hC.2.1
  rw [run_most_from_by, finish_sat]
  have h0 := r_next_ask (n + 0) P C [] t (by omega) hp1 hC.2.2.1 (by omega)
  simp at h0
  simp [ir_most_from_by, hemp, h0]
  refine whl_sat (fun k f => ∃ j : Nat, f = ⟨[.d (Ru P C), .d (.int t), .d (.int m), .own (.lst ((soon P C j [] t).map .int)), .d (.int (nxt P C (soon P C j [] t) t)), .d (iPs P), .d (iT C), .no], []⟩ ∧ k = 2 - j ∧ j ≤ 2) ?_ _ 2 _ (by unfold fuel; omega) ⟨0, by simp [soon], by omega, by omega⟩
  rintro k f ⟨j, rfl, rfl, hj⟩
  have hlen := soon_length P C j [] t
  by_cases hq : nxt P C (soon P C j [] t) t < t + (m : Int)
  · have hj2 : j < 2 := by
      by_cases c : j < 2
      · exact c
      · exfalso
        have : j = 2 := by omega
        subst this
        have hm1 := (nxt_may (P := P) (C := C) (L := soon P C 2 [] t) (s := t) hC.2.2.1).2 (2, 9) h29 (by rw [hlen]; decide)
        have hb : t ≤ back (soon P C 2 [] t) 2 := by
          unfold back
          rw [hlen]
          have h2 := soon_since P C 2 [] t
          show t ≤ (soon P C 2 [] t).getD 0 0
          rw [List.getD_eq_getElem?_getD, List.getElem?_eq_getElem (by rw [hlen]; omega)]
          exact h2 _ (List.getElem_mem _)
        dsimp only at hm1
        omega
    have h1 := r_next_ask n P C (soon P C (j + 1) [] t) t (by omega) hp1 hC.2.2.1 (by omega)
    have e : soon P C (j + 1) [] t = soon P C j [] t ++ [nxt P C (soon P C j [] t) t] := by
      have := soon_snoc' P C j [] t
      simpa using this
    rw [e] at h1
    simp only [List.map_append, List.map_cons, List.map_nil, iT] at h1
    simp (disch := first | omega | (simp; done) | (simp; omega)) [hq, szL_of, h1, iT]
    refine ⟨2 - (j + 1), by omega, j + 1, ?_, rfl, by omega⟩
    rw [e]; simp
  · simp [hq, hlen]
    exact ⟨j, hj, rfl⟩
end T
set_option maxRecDepth 100000
set_option maxHeartbeats 1000000
namespace T
open PySem PySem.Spec Vm Pol
variable {P : Lim} {C : List Int}
theorem r_loose0 (n : Nat) (P Q : Lim) (C D : List Int) (hP : okP P 6 12) (hl : P.length ≤ 4) (h29 : ((2, 9) : Int × Int) ∈ P) (hQ : ∀ q ∈ Q, 2 ≤ q.1 ∧ 1 ≤ q.2 ∧ q.2 ≤ 9) (hC : okH C) (hD : okH D)
    (ho : ∀ t : Nat, opn C (t : Int) = true → opn D (t : Int) = true) : runD dfs (n + 4) i_loose_row_by [.d (Ru P C), .d (Ru Q D)] = .ok (.d .none, []) := by
  have hC1 := hC.1
  have hC2 := hC.2.1
  have hD2 := hD.2.1
  have hlc := run_lcm C.length D.length (by omega) (by omega)
  have hll : Nat.lcm C.length D.length ≤ 144 := by
    have h1 : Nat.lcm C.length D.length ≤ C.length * D.length := Nat.div_le_self ..
    have h2 : C.length * D.length ≤ 12 * 12 := Nat.mul_le_mul hC2 hD2
    omega
  have hok : okR 0 (Nat.lcm C.length D.length : Nat) = true := okR_of (by omega) (by omega) (by omega) (by omega) (by omega)
  have hok2 : okR 0 C.length = true := okR_of (by omega) (by omega) (by omega) (by omega) (by omega)
  rw [run_loose_row_by, ← sat_iff, finish_sat]
  generalize Nat.lcm C.length D.length = lc at hlc hll hok
  simp [ir_loose_row_by, hlc, hok]
  obtain ⟨J, hJ⟩ := opq fun (k : Nat) (f : Vm.F) => ∃ c, f = ⟨[.d (Ru P C), .d (Ru Q D), c, .d (iT C), .d (iT D), .no, .no], []⟩
  refine for_idx _ J _ (by rw [hJ]; exact ⟨_, rfl⟩) ?_ ?_
  · intro k hk f h
    rw [hJ] at h
    obtain ⟨c, rfl⟩ := h
    have o1 := r_is_open_at (n + 2) C (k : Int) hC.1
    have o2 := r_is_open_at (n + 2) D (k : Int) hD.1
    cases q : opn C (k : Int) with
    | false =>
      simp [o1, q]
      rw [hJ]
      exact ⟨_, rfl⟩
    | true =>
      simp [o1, o2, q, ho k q]
      rw [hJ]
      exact ⟨_, rfl⟩
  · intro f h
    rw [hJ] at h
    obtain ⟨c, rfl⟩ := h
    simp
    obtain ⟨J2, hJ2⟩ := opq fun (k : Nat) (f : Vm.F) => ∃ c a b, f = ⟨[.d (Ru P C), .d (Ru Q D), c, .d (iT C), .d (iT D), a, b], []⟩
    refine for_idx _ J2 _ (by rw [hJ2]; exact ⟨_, _, _, rfl⟩) ?_ ?_
    · intro k hk f h
      rw [hJ2] at h
      obtain ⟨c, a, b, rfl⟩ := h
      rw [List.length_map] at hk
      have hq0 := hQ Q[k] (List.getElem_mem hk)
      obtain ⟨m, hm⟩ : ∃ m : Nat, Q[k].2 = m := ⟨Q[k].2.toNat, by omega⟩
      simp [hm, hok2]
      obtain ⟨J3, hJ3⟩ := opq fun (i : Nat) (f : Vm.F) => ∃ c, f = ⟨[.d (Ru P C), .d (Ru Q D), c, .d (iT C), .d (iT D), .d (.int Q[k].1), .d (.int m)], []⟩
      refine for_idx _ J3 _ (by rw [hJ3]; exact ⟨_, rfl⟩) ?_ ?_
      · intro i hi f h
        rw [hJ3] at h
        obtain ⟨c, rfl⟩ := h
        simp at hi
        have e1 := r_most2 n P C (i : Int) m hP h29 hl hC (by omega) (by omega) (by omega)
        simp
        refine e1.mono ?_
        rintro _ ⟨x, hx, rfl⟩
        have e2 := r_is_up_to (n + 2) (some x) Q[k].1
        have e3 : upTo (some x) Q[k].1 = true := by simp only [upTo, decide_eq_true_eq]; omega
        rw [e3] at e2
        simp only [optI] at e2
        simp [e2]
        rw [hJ3]
        exact ⟨_, rfl⟩
      · intro f h
        rw [hJ3] at h
        obtain ⟨c, rfl⟩ := h
        simp
        rw [hJ2]
        exact ⟨_, _, _, rfl⟩
    · intro f h
      rw [hJ2] at h
      obtain ⟨c, a, b, rfl⟩ := h
      simp
abbrev A1 : Lim := [(2, 9)]
abbrev B1 : Lim := [(2, 9), (6, 1)]
theorem okA1 : okP A1 6 12 := fun p hp => by simp at hp; subst hp; simp
theorem okB1 : okP B1 6 12 := fun p hp => by simp at hp; rcases hp with rfl | rfl <;> simp
theorem r_alike_rules (n : Nat) (C D : List Int) (hC : okH C) (hD : okH D) (ho : ∀ t : Nat, opn C (t : Int) = opn D (t : Int)) : runD dfs (n + 8) i_are_alike_rules [.d (Ru A1 C), .d (Ru B1 D)] = .ok (.d (.bool true), []) := by
  have l1 := r_loose0 (n + 2) A1 B1 C D okA1 (by simp) (by simp) (fun q hq => by simp at hq; rcases hq with rfl | rfl <;> simp) hC hD (fun t h => by rw [← ho]; exact h)
  have l2 := r_loose0 (n + 2) B1 A1 D C okB1 (by simp) (by simp) (fun q hq => by simp at hq; subst hq; simp) hD hC (fun t h => by rw [ho]; exact h)
  have c1 := r_check_rules n A1 C (by simp) okA1 hC
  have c2 := r_check_rules n B1 D (by simp) okB1 hD
  have pr : runD dfs (n + 7) i_parting_row_by [.d (Ru A1 C), .d (Ru B1 D)] = .ok (.d .none, []) := by
    rw [run_parting_row_by]
    simp [ir_parting_row_by, l1, l2]
  rw [run_are_alike_rules]
  simp [ir_are_alike_rules, c1, c2, pr]
theorem okH_take {s : Nat} (hC : okH C) (h1 : 1 ≤ s) (h2 : s ≤ C.length) (hf : conB C s) : okH (C.take s) := by
  have hl : (C.take s).length = s := by rw [List.length_take]; omega
  refine ⟨by omega, by have := hC.2.1; omega, ?_, fun x hx => hC.2.2.2 x (List.mem_of_mem_take hx)⟩
  obtain ⟨i, hi, e⟩ := List.mem_iff_getElem.mp hC.2.2.1
  have h3 : opn C ((i : Nat) : Int) = true := by
    rw [opn_nat, Nat.mod_eq_of_lt hi, List.getD_eq_getElem?_getD, List.getElem?_eq_getElem hi, e]; rfl
  rw [con_all h1 h2 hf i, opn_nat, hl, decide_eq_true_eq] at h3
  have hm := Nat.mod_lt i (show 0 < s by omega)
  rw [List.getD_eq_getElem?_getD, List.getElem?_eq_getElem (by rw [hl]; exact hm)] at h3
  have h4 : (C.take s)[i % s] = 1 := h3
  unfold okC
  rw [← h4]
  exact List.getElem_mem _
theorem con_len {C : List Int} : conB C C.length := fun t _ => by rw [List.take_length]
theorem evI_rng3 {G : Call} {e1 e2 e3 : Ex} {f : Vm.F} {a b : Int} (h : evEs G [e1, e2, e3] f = .ok ([.d (.int a), .d (.int b), .d (.int (-1))], f)) (ha : bnd a = true) (hb : bnd b = true) (hab : a - b ≤ 16777216) : evI G (.rng [e1, e2, e3]) f = .ok (rangeD a b, f) := by
  unfold evI
  rw [h]
  show (if bnd a = true ∧ bnd b = true ∧ (-1 : Int) = -1 ∧ a - b ≤ 16777216 then Res.ok (rangeD a b, f) else .bad) = _
  rw [if_pos ⟨ha, hb, rfl, hab⟩]
theorem rangeD_length (a b : Int) : (rangeD a b).length = (a - b).toNat := by simp [rangeD]
theorem rangeD_get (a b : Int) (k : Nat) (h : k < (rangeD a b).length) : (rangeD a b)[k] = .int (a - (k : Int)) := by simp [rangeD]
theorem fl_con {C : List Int} {s : Nat} : ((List.range (s * C.length)).filter fun t : Nat => opn C (t : Int) != opn (C.take s) (t : Int)) = [] ↔ conB C s := by
  rw [List.filter_eq_nil_iff]
  unfold conB
  constructor
  · intro h t ht
    have := h t (List.mem_range.mpr ht)
    simpa using this
  · intro h t ht
    have := h t (List.mem_range.mp ht)
    simpa using this
theorem hours_tail (n : Nat) (w : Ob) (hw : IsW w) (hC : okH C) : (xSs (runD dfs (n + 8)) (ir__law_hours_right.drop 2) ⟨[.c 0, .d (iT C), .no, .no, .no], [.own w]⟩).Sat { nx := fun f => (∀ x ∈ f.S, x.ok = true) ∧ Gives (fun x => x = .bool true) (.d .none, f.S), rt := fun r f => (∀ x ∈ f.S, x.ok = true) ∧ Gives (fun x => x = .bool true) (r, f.S) } := by
  have hC1 := hC.1
  have hC2 := hC.2.1
  have hev : evI (runD dfs (n + 8)) (.rng [.op .sub [.op .len [.v 1], .k (.int 1)], .k (.int 0), .op .neg [.k (.int 1)]]) ⟨[.c 0, .d (iT C), .d (.int C.length), .no, .no], [.own w]⟩ = .ok (rangeD ((C.length : Int) - 1) 0, ⟨[.c 0, .d (iT C), .d (.int C.length), .no, .no], [.own w]⟩) :=
    evI_rng3 (by simp) (bnd_int _ (by omega) (by omega)) (by decide) (by omega)
  simp [ir__law_hours_right, hev]
  obtain ⟨J, hJ⟩ := opq fun (k : Nat) (f : Vm.F) => ∃ (r : Nat) (c : LV), f = ⟨[.c 0, .d (iT C), .d (.int r), c, .no], [.own w]⟩ ∧ 1 ≤ r ∧ r ≤ C.length ∧ (r < C.length → conB C r) ∧ ∀ q, 1 ≤ q → C.length - k ≤ q → q < r → ¬ conB C q
  refine for_idx _ J _ (by rw [hJ]; exact ⟨C.length, _, rfl, hC1, Nat.le_refl _, fun h => by omega, fun q _ h1 h2 => by omega⟩) ?_ ?_
  · intro k hk0 f h
    rw [hJ] at h
    obtain ⟨r, c, rfl, h1, h2, h3, h4⟩ := h
    have hk := hk0
    rw [rangeD_length] at hk
    rw [rangeD_get]
    obtain ⟨s, hs, hs1, hs2⟩ : ∃ s : Nat, (C.length : Int) - 1 - (k : Int) = s ∧ 1 ≤ s ∧ s + k + 1 = C.length := ⟨C.length - 1 - k, by omega, by omega, by omega⟩
    rw [hs]
    obtain ⟨N, hN⟩ : ∃ N, s * C.length = N := ⟨_, rfl⟩
    have hN2 : N ≤ 144 := by
      have : s * C.length ≤ 12 * 12 := Nat.mul_le_mul (by omega) hC2
      omega
    have eN : (s : Int) * (C.length : Int) = (N : Int) := by rw [← hN]; push_cast; rfl
    have hokN : okR 0 (N : Int) = true := okR_of (by omega) (by omega) (by omega) (by omega) (by omega)
    have erN : rangeL 0 (N : Int) = (List.range N).map fun i : Nat => PyData.int (i : Int) := by simp [rangeL]
    have b1 : -18446744073709551616 < (s : Int) := by omega
    have b2 : (s : Int) < 18446744073709551616 := by omega
    simp [-Option.bind_some, obnd, b1, b2, eN, hokN, erN]
    rw [lc_pure (fun i : Nat => PyData.int (i : Int)) (fun t : Nat => opn C (t : Int) != opn (C.take s) (t : Int)) (fun i : Nat => .int (i : Int))]
    · have hf := @fl_con C s
      rw [hN] at hf
      generalize (List.range N).filter (fun t : Nat => opn C (t : Int) != opn (C.take s) (t : Int)) = fl at hf
      have ee := runEq_iL false (fl.map fun i : Nat => (i : Int)) []
      rw [List.map_map] at ee
      by_cases q : conB C s
      · have : fl = [] := hf.mpr q
        subst this
        simp at ee
        simp [ee]
        rw [hJ]
        exact ⟨s, _, rfl, hs1, by omega, fun _ => q, fun q _ h5 h6 => by omega⟩
      · have hne : fl ≠ [] := fun h => q (hf.mp h)
        have hb : ((fl.map fun i : Nat => (i : Int)) == []) = false := by
          cases fl with
          | nil => exact absurd rfl hne
          | cons _ _ => rfl
        rw [hb] at ee
        simp only [List.map_nil] at ee
        have ee' : runEq false (.list (fl.map fun i : Nat => PyData.int (i : Int))) (.list []) = some (.d (.bool false)) := ee
        simp [ee']
        rw [hJ]
        refine ⟨r, _, rfl, h1, h2, h3, fun q' g1 g2 g3 => ?_⟩
        by_cases e : q' = s
        · rw [e]; exact q
        · exact h4 q' g1 (by omega) g3
    · simp; omega
    · intro t ht
      have o1 := r_law_open (n + 7) C (t : Int) hC1
      have o2 := r_law_open (n + 7) (C.take s) (t : Int) (by rw [List.length_take]; omega)
      simp only [iT, List.map_take] at o2
      cases q1 : opn C (t : Int) <;> cases q2 : opn (C.take s) (t : Int) <;> simp [o1, o2, q1, q2]
  · intro f h
    rw [hJ] at h
    obtain ⟨r, c, rfl, h1, h2, h3, h4⟩ := h
    rw [rangeD_length] at h4
    have tp : runRepr (.bool true) = some (.d (.str (Str.ofString "True"))) := by
      rw [repr_b, shown_b]; rfl
    have hcr : conB C r := by
      by_cases e : r < C.length
      · exact h3 e
      · have : r = C.length := by omega
        rw [this]; exact con_len
    simp
    refine (r_tidied_hours (n + 2) hC).mono ?_
    rintro _ ⟨s, hs, rfl⟩
    have e : s = r := fit_eq hC.2.2.2 hs.1 hs.2.1 hs.2.2.1 hs.2.2.2 h1 h2 h3 (fun q g1 g2 => h4 q g1 (by omega) g2)
    subst e
    have hD := okH_take hC h1 h2 hcr
    have ar := r_alike_rules n C (C.take s) hC hD (fun t => con_all h1 h2 hcr t)
    have rr := repr_iT (a := C.take s) (by rw [List.length_take]; omega) (fun x hx => by have := hC.2.2.2 x (List.mem_of_mem_take hx); omega)
    have rp := runRepr_of rr
    simp only [Ru, iPs, iT, iP, List.map_cons, List.map_nil, List.map_take] at ar rp
    simp [rp, ar, tp]
    exact ⟨_, _, rfl, hw, rfl⟩
theorem okH_rep {k : Nat} (hC : okH C) (h1 : 1 ≤ k) (h2 : k * C.length ≤ 12) : okH (List.replicate k C).flatten := by
  have hl : (List.replicate k C).flatten.length = k * C.length := by rw [List.length_flatten, List.map_replicate, List.sum_replicate_nat]
  have := Nat.le_mul_of_pos_left C.length (show 0 < k by omega)
  have := hC.1
  refine ⟨by omega, by omega, ?_, fun x hx => ?_⟩
  · unfold okC
    rw [List.mem_flatten]
    exact ⟨C, List.mem_replicate.mpr ⟨by omega, rfl⟩, hC.2.2.1⟩
  · rw [List.mem_flatten] at hx
    obtain ⟨l, hl, hx⟩ := hx
    rw [List.eq_of_mem_replicate hl] at hx
    exact hC.2.2.2 x hx
theorem r_hours_right (n : Nat) (w : Ob) (hw : IsW w) : (runD dfs (n + 9) i__law_hours_right [.r w]).Sat (Gives fun x => x = .bool true) := by
  rw [run__law_hours_right, finish_sat]
  simp [ir__law_hours_right]
  refine (r_one (n + 6) w hw _ _ (.inl rfl) (by simp) (by simp)).mono ?_
  rintro _ ⟨x, w1, hx, hw1, rfl⟩
  obtain ⟨tp, rfl, ht, ht2⟩ : ∃ d : Int, x = .int d ∧ 0 < d ∧ d ≤ 12 := by
    simp at hx
    rcases hx with rfl | rfl | rfl <;> exact ⟨_, rfl, by omega, by omega⟩
  simp
  refine (r_some_hours (n + 5) w1 hw1 tp (by omega) (by omega)).mono ?_
  rintro _ ⟨_, w2, ⟨C0, rfl, hC0⟩, hw2, rfl⟩
  simp
  by_cases q7 : (C0.length : Int) < 7
  · simp [q7]
    refine (r_one (n + 6) w2 hw2 _ _ (.inl rfl) (by simp) (by simp)).mono ?_
    rintro _ ⟨x, w3, hx, hw3, rfl⟩
    obtain ⟨k, rfl, hk, hk2, hk3⟩ : ∃ k : Nat, x = .int k ∧ 1 ≤ k ∧ k ≤ 3 ∧ k * C0.length ≤ 12 := by
      have h7 : C0.length < 7 := by omega
      by_cases q5 : (C0.length : Int) < 5
      · simp [q5] at hx
        rcases hx with rfl | rfl | rfl
        · exact ⟨1, rfl, by omega, by omega, by omega⟩
        · exact ⟨2, rfl, by omega, by omega, by omega⟩
        · exact ⟨3, rfl, by omega, by omega, by omega⟩
      · simp [q5] at hx
        rcases hx with rfl | rfl | rfl
        · exact ⟨1, rfl, by omega, by omega, by omega⟩
        · exact ⟨2, rfl, by omega, by omega, by omega⟩
        · exact ⟨1, rfl, by omega, by omega, by omega⟩
    have z1 := runMulT (C0.map .int) k (by omega) (by have := hC0.2.1; simp; omega)
    have z2 : (List.replicate k (C0.map PyData.int)).flatten = ((List.replicate k C0).flatten).map .int := by
      rw [List.map_flatten, List.map_replicate]
    rw [z2] at z1
    have hO := okH_rep hC0 hk hk3
    generalize (List.replicate k C0).flatten = C1 at z1 hO
    have ht := hours_tail n w3 hw3 hO
    simp [ir__law_hours_right] at ht
    simp [-Option.bind_some, obnd, -runMul_tuple, z1]
    exact ht
  · have ht := hours_tail n w2 hw2 hC0
    simp [ir__law_hours_right] at ht
    simp [q7]
    exact ht
end T
set_option maxRecDepth 100000
set_option maxHeartbeats 2000000
namespace T
open PySem PySem.Spec Vm Pol
theorem eqv_pairs : ∀ a b : Lim, PyData.eqvAll (a.map iP) (b.map iP) = (a == b)
  | [], [] => by simp [PyData.eqvAll]
  | [], _ :: _ => by simp [PyData.eqvAll]
  | _ :: _, [] => by simp [PyData.eqvAll]
  | x :: a, y :: b => by
    have e : PyData.eqv (iP x) (iP y) = (x == y) := by
      obtain ⟨x1, x2⟩ := x
      obtain ⟨y1, y2⟩ := y
      simp only [iP, PyData.eqv, PyData.eqvAll, eqv_int, Bool.and_true]
      rfl
    simp only [List.map_cons, PyData.eqvAll, e, eqv_pairs a b]
    rfl
theorem runEq_iPs {P Q : Lim} (hP : okP P 6 12) (hQ : okP Q 6 12) (h1 : P.length ≤ 100) (h2 : Q.length ≤ 100) (neg : Bool) : runEq neg (.tuple (P.map iP)) (.tuple (Q.map iP)) = some (.d (.bool (if neg then !(P == Q) else P == Q))) := by
  rw [runEq_small (RO_lim hP) (RO_lim hQ) (by omega) (by omega)]
  simp only [PyData.eqv, eqv_pairs]
def pb (R : Lim) (L : List Int) : Bool := isNone (optI (wrong R [1] L))
theorem pb_pol {R : Lim} {L : List Int} (h : ok1 R) : pb R L = true ↔ pol R [1] L := by
  unfold pb
  rw [isNone_optI, decide_eq_true_eq]
  exact wrong_pol fun p hp => (h p hp).1
theorem pb_eq {R S : Lim} {L : List Int} (hr : ok1 R) (hs : ok1 S) (hu : up L) (h1 : st R S) (h2 : st S R) : pb R L = pb S L := by
  rw [Bool.eq_iff_iff, pb_pol hr, pb_pol hs]
  exact ⟨st_pol hr hs h1 hu, st_pol hs hr h2 hu⟩
theorem st_of_ak {R S : Lim} (hs : ok1 S) (h6 : ∀ q ∈ S, q.1 ≤ 6) (h : ∀ k, ak S k = ak R k) : st R S := ge_st hs h6 fun k _ => by rw [h k]; exact Int.le_refl _
theorem pb_td {P : Lim} {L : List Int} (hp : ok1 P) (h6 : ∀ q ∈ P, q.1 ≤ 6) (hu : up L) : pb (Pol.td P) L = pb P L :=
  pb_eq (td_ok hp) hp hu (st_of_ak hp h6 fun k => (td_ak hp h6 k).symm) (st_of_ak (td_ok hp) (td_6 hp) fun k => td_ak hp h6 k)
theorem pb_both {P Q : Lim} {L : List Int} (hP : okP P 6 12) (hQ : okP Q 6 12) (hu : up L) : pb (Pol.td (P ++ Q)) L = (pb P L && pb Q L) := by
  have h6 : ∀ q ∈ P ++ Q, q.1 ≤ 6 := fun q hq => ((okP_app hP hQ) q hq).2.1
  rw [pb_td (ok1_app hP.ok1 hQ.ok1) h6 hu, Bool.eq_iff_iff, Bool.and_eq_true, pb_pol (ok1_app hP.ok1 hQ.ok1), pb_pol hP.ok1, pb_pol hQ.ok1]
  exact pol_app hP.ok1 hQ.ok1
theorem pb_st {P Q : Lim} (hP : okP P 6 12) (hQ : okP Q 6 12) (h : pb Q (soon P [1] 8 [] 0) = true) : st P Q := fun q hq => by
  rw [pb_pol hQ.ok1, pol_iff hQ.ok1] at h
  have h0 := hQ q hq
  have := h q hq 0 (by rw [soon_length]; omega)
  rw [Nat.zero_add, ak_at (by omega), ak_at (by omega), ak_0 hP.ok1] at this
  omega
theorem crews_al {P Q : Lim} (hP : okP P 6 12) (hQ : okP Q 6 12) {Ls : List (List Int)} (h : rowsOk P Q Ls) : (∃ L ∈ Ls, pb P L ≠ pb Q L) ↔ alB P Q = false := by
  constructor
  · rintro ⟨L, hL, hne⟩
    cases q : alB P Q with
    | false => rfl
    | true =>
      exfalso
      have hk := (al_ak hP hQ).mp q
      exact hne (pb_eq hP.ok1 hQ.ok1 (h.1 L hL).1.1 (st_of_ak hQ.ok1 (fun q hq => (hQ q hq).2.1) fun k => (hk k).symm) (st_of_ak hP.ok1 (fun q hq => (hP q hq).2.1) hk))
  · intro q
    have p1 : pb P (soon P [1] 8 [] 0) = true := (pb_pol hP.ok1).mpr (ak_pol 8)
    have p2 : pb Q (soon Q [1] 8 [] 0) = true := (pb_pol hQ.ok1).mpr (ak_pol 8)
    by_cases a : pb Q (soon P [1] 8 [] 0) = true
    · by_cases b : pb P (soon Q [1] 8 [] 0) = true
      · exfalso
        have h1 := stB_st.mpr (pb_st hP hQ a)
        have h2 := stB_st.mpr (pb_st hQ hP b)
        unfold alB at q
        rw [h1, h2] at q
        cases q
      · exact ⟨_, h.2.2.1, by rw [p2]; intro e; exact b e⟩
    · exact ⟨_, h.2.1, by rw [p1]; intro e; exact a e.symm⟩
theorem rows_tail (n : Nat) (P Q : Lim) (hP : okP P 6 12) (hPl : P.length ≤ 4) (hQ : okP Q 6 12) (hQl : Q.length ≤ 4) (w : Ob) (hw : IsW w) (ans : Ob) (X : D) (hX : ¬ 4 < (Pol.td (P ++ Q)).length → X = iPs (Pol.td (P ++ Q))) (hXn : norm X = X) :
    (xSs (runD dfs (n + 9)) (ir__law_right.drop 11) ⟨[.own w, .d (iPs P), .d (iPs Q), .d (.bool (alB P Q)), .own ans, .d (.tuple ((Pol.td (P ++ Q)).map iP)), .no, .d (iPs (Pol.td P)), .d (iPs (Pol.td P)), .d X, .d (.int 0), .no, .no], []⟩).Sat
      { nx := fun f => (∀ x ∈ f.S, x.ok = true) ∧ (RR.d .none = .d (.bool true) ∧ f.S = []), rt := fun r f => (∀ x ∈ f.S, x.ok = true) ∧ (r = .d (.bool true) ∧ f.S = []) } := by
  have hpq := ok1_app hP.ok1 hQ.ok1
  have hT := okP.td hP
  have hTl := td_len hP.ok1
  have hB := td_big (P := P ++ Q) hpq (fun p hp => ((okP_app hP hQ) p hp).2.2.2)
  have hC1 : okH [1] := ⟨by simp, by simp, okC_one, by simp⟩
  simp [ir__law_right]
  refine (r_law_rows (n + 4) w hw P Q hP hQ).mono ?_
  rintro _ ⟨w1, Ls, hw1, hR, rfl⟩
  simp
  obtain ⟨J, hJ⟩ := opq fun (k : Nat) (f : Vm.F) => ∃ (c : Nat) (a b : LV), f = ⟨[.own w1, .d (iPs P), .d (iPs Q), .d (.bool (alB P Q)), .own ans, .d (.tuple ((Pol.td (P ++ Q)).map iP)), a, .d (iPs (Pol.td P)), .d (iPs (Pol.td P)), .d X, .d (.int c), b, .no], []⟩ ∧ c ≤ k ∧ (0 < c ↔ ∃ L ∈ Ls.take k, pb P L ≠ pb Q L)
  refine for_idx _ J _ (by rw [hJ]; exact ⟨0, _, _, rfl, by omega, by simp⟩) ?_ ?_
  · intro k hk f h
    rw [hJ] at h
    obtain ⟨c, a, b, rfl, hck, hc⟩ := h
    rw [List.length_map] at hk
    have hL := hR.1 Ls[k] (List.getElem_mem hk)
    have hu := hL.1.1
    have ww : ∀ R : Lim, okP R 6 12 → runD dfs (n + 9) i__law_wrong_at [.d (iPs R), .d (iT [1]), .d (iT Ls[k])] = .ok (.d (optI (wrong R [1] Ls[k])), []) := fun R hR2 => by
      have := r_wrg_T (n + 7) R [1] Ls[k] (by simp) (by omega)
      rwa [wrg_wrong hR2.ok1 hu] at this
    have w1' := ww P hP
    have w2' := ww Q hQ
    have p1 := r_is_polite_any (n + 1) hT (by omega) hC1 hL.1 (by omega)
    have p2 := r_is_polite_any (n + 1) hQ hQl hC1 hL.1 (by omega)
    have f1 : isNone (optI (wrong (Pol.td P) [1] Ls[k])) = pb P Ls[k] := pb_td hP.ok1 (fun q hq => (hP q hq).2.1) hu
    have f2 : isNone (optI (wrong Q [1] Ls[k])) = pb Q Ls[k] := rfl
    rw [f1] at p1
    rw [f2] at p2
    simp only [iPs, iT, List.map_cons, List.map_nil, Ru] at w1' w2' p1 p2
    have hl2 : ([.tuple (P.map iP), .tuple (Q.map iP)] : List D) = ([P, Q] : List Lim).map (fun R => .tuple (R.map iP)) := rfl
    have hn : ∀ o : Option Nat, norm (optI o) = optI o := fun o => by cases o <;> rfl
    obtain ⟨z1, hz1⟩ : ∃ s, runRepr (.list [.bool (pb P Ls[k]), .bool (pb Q Ls[k])]) = some (.d (.str s)) :=
      ⟨_, RO.repr (RO.list (ROs.cons RO.bool (ROs.cons RO.bool (ROs.nil (k := 0))))) (by omega) (by omega)⟩
    obtain ⟨z2, hz2⟩ : ∃ s, runRepr (.bool (pb P Ls[k] && pb Q Ls[k])) = some (.d (.str s)) := ⟨_, repr_b _⟩
    have hmk : Ls[k] ∈ Ls.take (k + 1) := by
      rw [← List.take_append_getElem hk]
      exact List.mem_append_right _ (List.mem_singleton.mpr rfl)
    have hsp : ∀ M, M ∈ Ls.take (k + 1) → M ∈ Ls.take k ∨ M = Ls[k] := fun M hM => by
      rw [← List.take_append_getElem hk, List.mem_append, List.mem_singleton] at hM
      exact hM
    have hup : ∀ M, M ∈ Ls.take k → M ∈ Ls.take (k + 1) := fun M hM => by
      rw [← List.take_append_getElem hk]
      exact List.mem_append_left _ hM
    have step1 : pb P Ls[k] ≠ pb Q Ls[k] → ∀ a b, J (k + 1) ⟨[.own w1, .d (iPs P), .d (iPs Q), .d (.bool (alB P Q)), .own ans, .d (.tuple ((Pol.td (P ++ Q)).map iP)), a, .d (iPs (Pol.td P)), .d (iPs (Pol.td P)), .d X, .d (.int ((c : Int) + 1)), b, .no], []⟩ := by
      intro hne a b
      rw [hJ]
      refine ⟨c + 1, a, b, by push_cast; rfl, by omega, fun _ => ⟨Ls[k], hmk, hne⟩, fun _ => by omega⟩
    have step0 : pb P Ls[k] = pb Q Ls[k] → ∀ a b, J (k + 1) ⟨[.own w1, .d (iPs P), .d (iPs Q), .d (.bool (alB P Q)), .own ans, .d (.tuple ((Pol.td (P ++ Q)).map iP)), a, .d (iPs (Pol.td P)), .d (iPs (Pol.td P)), .d X, .d (.int (c : Int)), b, .no], []⟩ := by
      intro he a b
      rw [hJ]
      refine ⟨c, a, b, rfl, by omega, fun h => ?_, ?_⟩
      · obtain ⟨M, hM, hne⟩ := hc.mp h
        exact ⟨M, hup M hM, hne⟩
      · rintro ⟨M, hM, hne⟩
        rcases hsp M hM with h | h
        · exact hc.mpr ⟨M, h, hne⟩
        · rw [h] at hne
          exact absurd he hne
    simp
    rw [hl2, lc_pure (fun R : Lim => .tuple (R.map iP)) (fun _ => true) (fun R => .bool (pb R Ls[k]))]
    · simp [p1, p2, hz1]
      by_cases q : (Pol.td (P ++ Q)).length ≤ 4
      · have q' : ((Pol.td (P ++ Q)).length : Int) ≤ 4 := by omega
        have hX' := hX (by omega)
        have p3 := r_is_polite_any (n + 1) hB q hC1 hL.1 (by omega)
        have f3 : isNone (optI (wrong (Pol.td (P ++ Q)) [1] Ls[k])) = (pb P Ls[k] && pb Q Ls[k]) := pb_both hP hQ hu
        rw [f3] at p3
        simp only [iPs, iT, List.map_cons, List.map_nil, Ru] at p3
        clear hXn
        subst hX'
        revert p3 step0 step1
        generalize pb P Ls[k] = x
        generalize pb Q Ls[k] = y
        intro p3 step1 step0
        cases x <;> cases y <;> simp [q', p3, repr_b]
        · exact step0 rfl _ _
        · exact step1 (by simp) _ _
        · exact step1 (by simp) _ _
        · exact step0 rfl _ _
      · have q' : ¬ ((Pol.td (P ++ Q)).length : Int) ≤ 4 := by omega
        revert step0 step1
        generalize pb P Ls[k] = x
        generalize pb Q Ls[k] = y
        intro step1 step0
        cases x <;> cases y <;> simp [q']
        · exact step0 rfl _ _
        · exact step1 (by simp) _ _
        · exact step1 (by simp) _ _
        · exact step0 rfl _ _
    · simp
    · intro R hR2
      simp at hR2
      rcases hR2 with rfl | rfl
      · simp [w1', pb]
      · simp [w2', pb]
  · intro f h
    rw [hJ] at h
    obtain ⟨c, a, b, rfl, hck, hc⟩ := h
    rw [List.length_map, List.take_length] at hc
    have hca := (crews_al hP hQ hR)
    rw [← hc] at hca
    have hne : runEq true (.bool (decide (0 < c))) (.bool (alB P Q)) = some (.d (.bool true)) := by
      rw [runEq_bool]
      cases q : alB P Q with
      | true =>
        have h2 : ¬ 0 < c := fun h => by have := hca.mp h; rw [q] at this; cases this
        rw [decide_eq_false h2]
        rfl
      | false =>
        have h2 := hca.mpr q
        rw [decide_eq_true h2]
        rfl
    simp [-runEq_bool, hne]
    refine (r_hours_right n w1 hw1).mono ?_
    rintro _ ⟨_, w2, rfl, hw2, rfl⟩
    simp
    refine (r_ladder (n + 1) w2 hw2).mono ?_
    rintro _ ⟨_, w3, rfl, hw3, rfl⟩
    simp
theorem r_right (n : Nat) (w : Ob) (hw : IsW w) : (runD dfs (n + 10) i__law_right [.o w]).Sat fun p => p = (.d (.bool true), []) := by
  rw [run__law_right, finish_sat]
  simp [ir__law_right]
  refine (r_some_limits (n + 6) w hw 6 12 (by omega) (by omega) (by omega) (by omega)).mono ?_
  rintro _ ⟨_, w1, ⟨P, rfl, hPl, hP⟩, hw1, rfl⟩
  simp
  refine (r_other_limits (n + 5) w1 hw1 P hP hPl).mono ?_
  rintro _ ⟨_, w2, ⟨Q, rfl, hQl, hQ⟩, hw2, rfl⟩
  have hpq := ok1_app hP.ok1 hQ.ok1
  have t1 := r_tidied (n + 3) P hP hPl
  have t2 := r_tidied (n + 3) Q hQ hQl
  have hT := okP.td hP
  have hTl := td_len hP.ok1
  have hT2 := okP.td hQ
  have hTl2 := td_len hQ.ok1
  have t3 := r_tidied (n + 3) (Pol.td P) hT (by omega)
  rw [td_td hP.ok1] at t3
  have y1 := r_law_tidy (n + 5) P hP.ok1
  have y2 := r_law_tidy (n + 5) Q hQ.ok1
  have y3 := r_law_tidy (n + 5) (P ++ Q) hpq
  simp only [iPs, List.map_append] at y3
  have v1 := r_law_seven (n + 6) P hP.ok1
  have v2 := r_law_seven (n + 6) Q hQ.ok1
  have a1 := r_are_alike_limits (n + 3) P Q hP hPl hQ hQl
  have a2 := r_are_alike_limits (n + 3) P (Pol.td P) hP hPl hT (by omega)
  rw [td_alike hP] at a2
  have b1 := r_most_table (n + 3) P hP hPl
  have b2 := r_most_table (n + 3) Q hQ hQl
  have hC1 : okH [1] := ⟨by simp, by simp, okC_one, by simp⟩
  have hA0 : okA [] := ⟨List.Pairwise.nil, by simp⟩
  have s1 := r_soonest (n + 1) P [1] [] 7 0 hPl hP hC1 hA0 (by simp) (fun i h => by simp at h) (by omega) (by omega)
  have s2 := r_soonest (n + 1) Q [1] [] 7 0 hQl hQ hC1 hA0 (by simp) (fun i h => by simp at h) (by omega) (by omega)
  simp at s1 s2
  simp only [iPs, iT, List.map_cons, List.map_nil] at s1 s2
  have q1 : runEq false (.list ((sv P).map .int)) (.list ((sv Q).map .int)) = some (.d (.bool (alB P Q))) := by rw [runEq_iL, sv_al hP hQ]; rfl
  have q2 : runEq false (.tuple ((soon P [1] 7 [] 0).map .int)) (.tuple ((soon Q [1] 7 [] 0).map .int)) = some (.d (.bool (alB P Q))) := by
    rw [runEq_iT]
    show some (RR.d (.bool (sv P == sv Q))) = _
    rw [sv_al hP hQ]
  have q3 := eq_tbl hP hQ
  have q4 : runEq false (.tuple ((Pol.td P).map iP)) (.tuple ((Pol.td Q).map iP)) = some (.d (.bool (alB P Q))) := by
    rw [runEq_iPs hT hT2 (by omega) (by omega), ← td_al hP hQ]; rfl
  have jj := r_law_joined (n + 2) P Q hP hPl hQ hQl
  obtain ⟨z1, hz1⟩ : ∃ s, runRepr (iPs (Pol.td P)) = some (.d (.str s)) := ⟨_, RO.repr (RO_lim hT) (by omega) (by omega)⟩
  obtain ⟨z2, hz2⟩ : ∃ s, runRepr (iPs (Pol.td Q)) = some (.d (.str s)) := ⟨_, RO.repr (RO_lim hT2) (by omega) (by omega)⟩
  obtain ⟨z3, hz3⟩ : ∃ s, runRepr (jn P Q) = some (.d (.str s)) := ⟨_, RO.repr (RO_jn hP hQ) (by omega) (by omega)⟩
  obtain ⟨z4, hz4⟩ : ∃ s, runRepr (.list [.bool (alB P Q), .bool true, .bool (alB P Q), .bool (alB P Q)]) = some (.d (.str s)) :=
    ⟨_, RO.repr (RO.list (ROs.cons RO.bool (ROs.cons RO.bool (ROs.cons RO.bool (ROs.cons RO.bool (ROs.nil (k := 0))))))) (by omega) (by omega)⟩
  have es := szB_of (n := P.length + Q.length) (by omega)
  have hnt : norm (tbl P) = tbl P := (RO_tbl P).norm
  have hnt2 : norm (tbl Q) = tbl Q := (RO_tbl Q).norm
  have hnj : norm (jn P Q) = jn P Q := (RO_jn hP hQ).norm
  simp [t1, t2, t3, y1, y2, y3, v1, v2, a1, a2, b1, b2, s1, s2, q1, q2, q3, q4, jj, hz1, hz2, hz3, hz4, es, hnt, hnt2, hnj]
  have rt := rows_tail n P Q hP hPl hQ hQl w2 hw2 (.lst [.bool (alB P Q), .bool true, .bool (alB P Q), .bool (alB P Q)]) (jn P Q) (fun h => by unfold jn; rw [if_neg h]) hnj
  simp [ir__law_right] at rt
  by_cases q : 4 < (Pol.td (P ++ Q)).length
  · have q2 : (4 : Int) < (Pol.td (P ++ Q)).length := by omega
    have ej : jn P Q = .tuple [.str "many"] := by unfold jn; rw [if_pos q]
    have hz3' := hz3
    rw [ej] at hz3'
    simp [q2, hz3']
    exact rt
  · have q2 : ¬ (4 : Int) < (Pol.td (P ++ Q)).length := by omega
    have ej : jn P Q = iPs (Pol.td (P ++ Q)) := by unfold jn; rw [if_neg q]
    have hz3' := hz3
    rw [ej] at hz3'
    simp [q2, hz3']
    exact rt
theorem r_law (n : Nat) (ns : List Int) (hl : ns.length ≤ 63) : runD dfs (n + 11) i_law [.d (.list (ns.map .int))] = .ok (.d (.bool true), []) := by
  rw [run_law, ← sat_iff, finish_sat]
  simp [ir_law]
  generalize hm : (if (if 4 < (ns.length : Int) then 4 else (ns.length : Int)) > 2 then (if 4 < (ns.length : Int) then 4 else (ns.length : Int)) else 2) = m
  have hm2 : 0 ≤ m ∧ m ≤ 4 := by rw [← hm]; split <;> split <;> omega
  have hok : okR 0 m = true := okR_of (by omega) (by omega) (by omega) (by omega) (by omega)
  simp [hok]
  refine lc_idx _ (fun j acc f => f = ⟨[.d (.list (ns.map .int)), .no], []⟩ ∧ ∃ bs : List Bool, acc = bs.map .bool ∧ bs.all id = true ∧ bs.length = j) _ ⟨rfl, [], rfl, rfl, rfl⟩ ?_ ?_
  · rintro j hj acc f ⟨rfl, bs, rfl, hb, hl⟩
    simp at hj
    simp
    refine (r_well (n + 9) ns j).mono ?_
    rintro _ ⟨w, hw, rfl⟩
    simp
    refine (r_right n w hw).mono ?_
    rintro _ rfl
    simp
    exact ⟨by omega, bs ++ [true], by simp, by simpa using hb, by simp [hl]⟩
  · rintro acc f ⟨rfl, bs, rfl, hb, hl⟩
    simp
    simpa using hb
end T
set_option maxRecDepth 100000
set_option maxHeartbeats 1000000
namespace Vm
open PySem PySem.Spec PyProof.Rows L2
/-! ### the facts of all defs of a law, put together -/
section
variable (K : PySem.W.Frag) (mg : Str → Option Value) (Γ : Gam) (defs : List Df)
def KwFact (fd : FuncData) (ps : List Str) (n : Nat) (ks : List Str) (ds : List D) (pm : List Nat) : Prop :=
  pm.length = ps.length ∧ pm.Nodup ∧ (∀ i ∈ pm, i < n + ks.length + ds.length) ∧ ∃ (zs : List V) (dus : List Value), Vals zs dus ∧ (∀ L H, RdA K L H ds zs) ∧
      ∀ (s : Shared) (us ws : List Value), K.In s.heap → us.length = n → ws.length = ks.length → BindsTo s fd ⟨us, ks.zip ws⟩ (ps.zip (permR (us ++ (ws ++ dus)) pm))
def DfFact (x : Str) (ps : List Str) (g : Nat) : Prop := ∃ f fd, mg x = some (.ref f) ∧ PySem.W.keepIn K (.ref f) = true ∧ (Γ.kwo.contains x = false → ∀ us : List Value, us.length = ps.length → bindArgs fd ⟨us, []⟩ = pure (ps.zip us)) ∧
    (∀ n ks ds pm, (x, n, ks, ds, pm) ∈ Γ.kws → KwFact K fd ps n ks ds pm) ∧ DefOk K Γ defs g f fd ps
def AllDf (P : Str → List Str → Nat → Prop) : List (Str × List Str) → Nat → Prop
  | [], _ => True
  | y :: r, n => P y.1 y.2 n ∧ AllDf P r (n + 1)
theorem allDf_at {P : Str → List Str → Nat → Prop} {x : Str} {g : Nat} {ps : List Str} : ∀ {l : List (Str × List Str)} {n : Nat}, AllDf P l n → defOf l x n = some (g, ps) → P x ps g
  | [], _, _, h => by cases h
  | y :: r, n, a, h => by
    unfold defOf at h
    split at h
    · rename_i e
      cases h
      subst e
      exact a.1
    · exact allDf_at a.2 h
def CsFact (x : Str) (d : D) : Prop := ∃ u v, mg x = some u ∧ RelV v u ∧ ∀ L H, Rd K L H d v
def AllCs (P : Str → D → Prop) : List (Str × D) → Prop
  | [] => True
  | y :: r => P y.1 y.2 ∧ AllCs P r
theorem allCs_at {P : Str → D → Prop} {x : Str} {d : D} : ∀ {l : List (Str × D)}, AllCs P l → l.lookup x = some d → P x d
  | [], _, h => by cases h
  | y :: r, a, h => by
    obtain ⟨y1, y2⟩ := y
    rw [List.lookup_cons] at h
    split at h
    · rename_i e
      cases h
      rw [beq_iff_eq.mp e]
      exact a.1
    · exact allCs_at a.2 h
def AllBs (P : Str → Prop) : List Str → Prop
  | [] => True
  | y :: r => P y ∧ AllBs P r
theorem allBs_at {P : Str → Prop} {x : Str} : ∀ {l : List Str}, AllBs P l → l.contains x = true → P x
  | [], _, h => by cases h
  | y :: r, a, h => by
    rw [List.contains_cons, Bool.or_eq_true] at h
    rcases h with h | h
    · rw [beq_iff_eq.mp h]; exact a.1
    · exact allBs_at a.2 h
theorem wok_of (h1 : AllDf (DfFact K mg Γ defs) Γ.defs 0) (h2 : AllCs (CsFact K mg) Γ.cs) (h3 : AllBs (fun x => mg x = none) Γ.bs) (h4 : XsOk Γ K mg) : WOk K mg Γ defs :=
  ⟨fun x g ps h => allDf_at h1 h, fun x d h => allCs_at h2 h, fun x h => allBs_at h3 h, h4⟩
end
section
variable {K : PySem.W.Frag} {x qual : Str} {params : Arguments} {body : List Stmt} {scope : Scope} {dvs : List V} {kws : List (Str × V)} {f : Addr} {fd : FuncData} {ps : List Str}
/-- by position, all parameters written -/
theorem bind_plain (F : FunD K x qual params body scope [] kws f fd)
    (h : ∀ (kV doc pm : Value) (an : Option Addr) (cdv ct : Value) (us : List Value), us.length = ps.length → bindArgs (PySem.W.fnOf x qual params body scope .none kV doc pm an cdv ct) ⟨us, []⟩ = pure (ps.zip us)) :
    ∀ us : List Value, us.length = ps.length → bindArgs fd ⟨us, []⟩ = pure (ps.zip us) := by
  obtain ⟨oc, od, dV, kV, doc, pm, an, cdv, ct, osl, rfl, lk, hcd, hD, hK⟩ := F.ex
  rcases hD with ⟨_, rfl⟩ | ⟨e, _⟩
  · exact h kV doc pm an cdv ct
  · exact absurd rfl e
/-- by names; nothing is left out -/
theorem bind_names (F : FunD K x qual params body scope [] kws f fd) {n : Nat} {ks : List Str} {pm : List Nat} (h0 : pm.length = ps.length ∧ pm.Nodup ∧ ∀ i ∈ pm, i < n + ks.length + 0)
    (h : ∀ (kV doc pm' : Value) (an : Option Addr) (cdv ct : Value) (us ws : List Value), us.length = n → ws.length = ks.length → bindArgs (PySem.W.fnOf x qual params body scope .none kV doc pm' an cdv ct) ⟨us, ks.zip ws⟩ = pure (ps.zip (permR (us ++ (ws ++ [])) pm))) :
    KwFact K fd ps n ks [] pm := by
  obtain ⟨oc, od, dV, kV, doc, pm', an, cdv, ct, osl, rfl, lk, hcd, hD, hK⟩ := F.ex
  rcases hD with ⟨_, rfl⟩ | ⟨e, _⟩
  · exact ⟨h0.1, h0.2.1, h0.2.2, [], [], .nil, fun _ _ => RdA.nil, fun s us ws _ h1 h2 => .of_eq (h kV doc pm' an cdv ct us ws h1 h2)⟩
  · exact absurd rfl e
/-- with parameters that go by keyword alone; those left out have defaults (ms, data ds) -/
theorem bind_kwo (F : FunD K x qual params body scope [] kws f fd) {n : Nat} {ks : List Str} {ds : List D} {pm : List Nat} (ms : List (Str × V)) (h0 : pm.length = ps.length ∧ pm.Nodup ∧ ∀ i ∈ pm, i < n + ks.length + ds.length) (hk : kws ≠ []) (hms : ∀ q ∈ ms, q ∈ kws)
    (hd : ∀ L H, RdA K L H ds (ms.map (·.2)))
    (h : ∀ (E : Addr) (doc pm' : Value) (an : Option Addr) (cdv ct : Value) (us ws mv : List Value), us.length = n → ws.length = ks.length → mv.length = ms.length →
      KwChain E ((ms.map (·.1)).zip mv) (bindArgs (PySem.W.fnOf x qual params body scope .none (.ref E) doc pm' an cdv ct) ⟨us, ks.zip ws⟩) (ps.zip (permR (us ++ (ws ++ mv)) pm))) :
    KwFact K fd ps n ks ds pm := by
  obtain ⟨oc, od, dV, kV, doc, pm', an, cdv, ct, osl, rfl, lk, hcd, hD, hK⟩ := F.ex
  rcases hD with ⟨_, rfl⟩ | ⟨e, _⟩
  · rcases hK with e | ⟨E, rfl, hq⟩
    · exact absurd e hk
    · obtain ⟨mv, hl, rk, hks⟩ := kwd_vals (ms := ms) fun q hm => hq q (hms q hm)
      exact ⟨h0.1, h0.2.1, h0.2.2, _, mv, rk, hd, fun s us ws X h1 h2 => L2.BindsTo.of_looks fun M => KwChain.looks X hks (h E doc pm' an cdv ct us ws mv h1 h2 hl)⟩
  · exact absurd rfl e
/-- positional defaults, all left out, no keyword-only ones: f(e, ..) -/
theorem bind_dfl (F : FunD K x qual params body scope dvs kws f fd) {n : Nat} {ks : List Str} {ds : List D} {pm : List Nat} (j : Nat) (h0 : pm.length = ps.length ∧ pm.Nodup ∧ ∀ i ∈ pm, i < n + ks.length + ds.length) (hn : dvs ≠ [])
    (hd : ∀ L H, RdA K L H ds (dvs.drop j))
    (h : ∀ (T : Addr) (kV doc pm' : Value) (an : Option Addr) (cdv ct : Value) (us ws its : List Value), us.length = n → ws.length = ks.length → its.length = dvs.length →
      ∃ k, bindArgs (PySem.W.fnOf x qual params body scope (.ref T) kV doc pm' an cdv ct) ⟨us, ks.zip ws⟩ = seqItems? (.ref T) >>= k ∧ k (some its.toArray) = pure (ps.zip (permR (us ++ (ws ++ its.drop j)) pm))) :
    KwFact K fd ps n ks ds pm := by
  obtain ⟨oc, od, dV, kV, doc, pm', an, cdv, ct, osl, rfl, lk, hcd, hD, hK⟩ := F.ex
  rcases hD with ⟨e, _⟩ | ⟨_, T, o, its, m, rfl, lT, oT, rT⟩
  · exact absurd e hn
  · refine ⟨h0.1, h0.2.1, h0.2.2, _, its.drop j, rT.drop j, hd, fun s us ws X h1 h2 => L2.BindsTo.of_looks fun M => ?_⟩
    obtain ⟨k, e1, e2⟩ := h T kV doc pm' an cdv ct us ws its h1 h2 rT.length.symm
    rw [e1]
    exact looks_items X lT oT (.of_pure e2)
/-- a def's calls by keyword, one by one -/
theorem kws_of {Γ : Gam} {x : Str} {P : Nat → List Str → List D → List Nat → Prop} {l : List (Str × Nat × List Str × List D × List Nat)} (e : (Γ.kws.filter fun q => decide (q.1 = x)) = l) (h : ∀ q ∈ l, P q.2.1 q.2.2.1 q.2.2.2.1 q.2.2.2.2) :
    ∀ n ks ds pm, (x, n, ks, ds, pm) ∈ Γ.kws → P n ks ds pm := by
  intro n ks ds pm hm
  have : (x, n, ks, ds, pm) ∈ l := by
    rw [← e, List.mem_filter]
    exact ⟨hm, by simp⟩
  exact h _ this
end
section
variable {K : PySem.W.Frag} {h : Heap} {mg : Str → Option Value}
theorem cs_int (X : K.In h) (G : h.Ns mainGlobals mg) {x : Str} {i : Int} (c : (He.Fa.int x i).ok K = true) : CsFact K mg x (.int i) := by
  obtain ⟨t, e⟩ := He.int_ok X G c
  exact ⟨_, .int i, e, ⟨t, rfl⟩, fun L H => rd_int⟩
theorem cs_str (X : K.In h) (G : h.Ns mainGlobals mg) {x z : Str} (c : (He.Fa.str x z).ok K = true) : CsFact K mg x (.str z) := by
  obtain ⟨t, e⟩ := He.str_ok X G c
  exact ⟨_, .str z, e, ⟨t, rfl⟩, fun L H => rd_str⟩
end
end Vm
set_option maxRecDepth 100000
set_option maxHeartbeats 1000000
namespace Vm
open PySem PySem.Spec PyProof.Rows L2
/-! ### constants of a law's top that are tuples of scalars -/
def svD : D → V
  | .bool b => .bl b
  | .int i => .int i
  | .str s => .str s
  | _ => .non
def isS : D → Bool
  | .none => true
  | .bool _ => true
  | .int _ => true
  | .str _ => true
  | _ => false
def okA : List D → List Value → Bool
  | [], [] => true
  | d :: ds, u :: us => isS d && (He.relB (svD d) u && okA ds us)
  | _, _ => false
def okT (K : PySem.W.Frag) (ds : List D) : Value → Bool
  | .ref a => (match K.lookup a with
    | some ⟨.type c, _, .seq its _, _⟩ => decide (c = "tuple") && (decide (its.size ≤ sizeLine) && okA ds its.toList)
    | _ => false)
  | _ => false
def tupB (K : PySem.W.Frag) (x : Str) (ds : List D) : Bool := match PySem.W.nsIn K mainGlobals x with
  | some (some u) => okT K ds u
  | _ => false
theorem rdS {K : PySem.W.Frag} {L : ASet} {H : Hp} {d : D} (h : isS d = true) : Rd K L H d (svD d) := by
  cases d with
  | none => exact rd_none
  | bool b => exact rd_bool
  | int i => exact rd_int
  | str s => exact rd_str
  | _ => cases h
theorem okA_ok {K : PySem.W.Frag} : ∀ {ds : List D} {us : List Value}, okA ds us = true → Vals (ds.map svD) us ∧ ∀ L H, RdA K L H ds (ds.map svD)
  | [], [], _ => ⟨.nil, fun _ _ => RdA.nil⟩
  | d :: ds, u :: us, h => by
    obtain ⟨h1, h2⟩ := He.ba (show (isS d && (He.relB (svD d) u && okA ds us)) = true from h)
    obtain ⟨h3, h4⟩ := He.ba h2
    obtain ⟨i1, i2⟩ := okA_ok (K := K) h4
    exact ⟨.cons (He.relB_ok h3) i1, fun L H => RdA.cons (rdS h1) (i2 L H)⟩
section
variable {K : PySem.W.Frag} {h : Heap} {mg : Str → Option Value}
theorem cs_tup (X : K.In h) (G : h.Ns mainGlobals mg) {x : Str} {ds : List D} (c : tupB K x ds = true) : CsFact K mg x (.tuple ds) := by
  unfold tupB at c
  cases e : PySem.W.nsIn K mainGlobals x with
  | none => rw [e] at c; cases c
  | some o =>
    rw [e] at c
    cases o with
    | none => cases c
    | some u =>
      have c2 : okT K ds u = true := c
      cases u with
      | ref a =>
        have c3 : (match K.lookup a with
          | some ⟨.type c, _, .seq its _, _⟩ => decide (c = "tuple") && (decide (its.size ≤ sizeLine) && okA ds its.toList)
          | _ => false) = true := c2
        split at c3
        · rename_i cl od its n sl q
          obtain ⟨g1, g2⟩ := He.ba c3
          obtain ⟨g3, g4⟩ := He.ba g2
          have g1 : cl = "tuple" := of_decide_eq_true g1
          subst g1
          obtain ⟨v1, v2⟩ := okA_ok (K := K) g4
          refine ⟨_, .ref a, PySem.W.mg_of X G e, rfl, fun L H => ?_⟩
          unfold Rd
          exact ⟨a, _, rfl, .inr ⟨_, its, n, q, rfl, rfl, of_decide_eq_true g3, v1⟩, v2 L H⟩
        · cases c3
      | _ => cases c2
end
/-! ### exception classes -/
def excB (K : PySem.W.Frag) (x : Str) : Bool := match PySem.W.nsIn K mainGlobals x with
  | some (some (.ref C)) => PySem.W.excIn K C bmVE "ValueError.__new__" && (PySem.W.keepIn K (.ref C) && ((match PySem.W.subIn K (.ref C) (.type "BaseException") with
      | some b => b
      | none => false) && (match PySem.W.typeIn K (.ref C) with
      | some (.type t) => decide (t = "type")
      | _ => false)))
  | _ => false
def mtB (K : PySem.W.Frag) (D : Value) (b : Bool) (x : Str) : Bool := match PySem.W.nsIn K mainGlobals x with
  | some (some (.ref C)) => (match PySem.W.exmOne K (.ref C) D with
      | some b' => b' == b
      | none => false)
  | _ => false
abbrev Xz : Type := List Str × List Str × List (Str × Str) × Bool
def lcB (K : PySem.W.Frag) : Bool := match PySem.W.nsIn K mainGlobals "lcm" with
  | some (some (.builtin b)) => b == "math.lcm"
  | _ => false
def xmt (xm : List (Str × Str)) (x : Str) : List Str := (xm.filter fun q => decide (q.2 = x)).map (·.1)
def catB (K : PySem.W.Frag) (z : Xz) (c : Str) : Bool := match PySem.W.nsIn K mainGlobals c with
  | some (some (.ref D)) => z.1.all fun y => mtB K (.ref D) ((xmt z.2.2.1 c).contains y) y
  | _ => false
def xzB (K : PySem.W.Frag) (z : Xz) : Bool := z.1.all (excB K) && (z.2.1.all (catB K z) && (!z.2.2.2 || lcB K))
section
variable {K : PySem.W.Frag} {h : Heap} {mg : Str → Option Value}
theorem xz_ok (X : K.In h) (G : h.Ns mainGlobals mg) {Γ : Gam} (c : xzB K (Γ.xs, Γ.xc, Γ.xm, Γ.lc) = true) : XsOk Γ K mg := by
  unfold xzB at c
  obtain ⟨c1, c2⟩ := He.ba c
  obtain ⟨c2, c3⟩ := He.ba c2
  refine ⟨fun x hx => ?_, fun x hx => ?_, fun hl => ?_⟩
  · have hm : x ∈ Γ.xs := by simpa using hx
    have b := List.all_eq_true.mp c1 x hm
    unfold excB at b
    split at b
    · rename_i C e
      obtain ⟨b1, b⟩ := He.ba b
      obtain ⟨b2, b⟩ := He.ba b
      obtain ⟨b3, b4⟩ := He.ba b
      refine ⟨C, PySem.W.mg_of X G e, b1, b2, ?_, ?_⟩
      · split at b3
        · rename_i q; rw [q, b3]
        · cases b3
      · split at b4
        · rename_i t q; rw [q, of_decide_eq_true b4]
        · cases b4
    · cases b
  · have hm : x ∈ Γ.xc := by simpa using hx
    have b := List.all_eq_true.mp c2 x hm
    unfold catB at b
    split at b
    · rename_i C e
      refine ⟨C, PySem.W.mg_of X G e, fun y cls hy hmg => ?_⟩
      have hm : y ∈ Γ.xs := by simpa using hy
      have b := List.all_eq_true.mp b y hm
      unfold mtB at b
      split at b
      · rename_i Y ey
        have e2 := PySem.W.mg_of X G ey
        rw [hmg] at e2
        cases e2
        split at b
        · rename_i b' q
          rw [q, eq_of_beq b]
          rfl
        · cases b
      · cases b
    · cases b
  · rw [hl] at c3
    have c3 : lcB K = true := c3
    unfold lcB at c3
    split at c3
    · rename_i b e
      rw [PySem.W.mg_of X G e, eq_of_beq c3]
    · cases c3
end
/-! ### the Hook, with such constants -/
abbrev Tz : Type := List (Str × List D)
def obsZ (fa : List He.Fa) (fn : List He.DefD) (ts : Tz) (xz : Xz) (K : PySem.W.Frag) : He.AlD × Bool := (He.obsD fa fn K, (ts.all fun t => tupB K t.1 t.2) && xzB K xz)
def obsZG (n : Nat) (fa : List He.Fa) (fn : List He.DefD) (ts : Tz) (xz : Xz) (g : Addr → Option Obj) : He.AlD × Bool := obsZ fa fn ts xz (He.frG g (He.asD g n))
def SaysZ (fa : List He.Fa) (fn : List He.DefD) (ts : Tz) (xz : Xz) (K : PySem.W.Frag) : Prop := obsZ fa fn ts xz K = (He.valD fn, true)
def hookZ (n : Nat) (fa : List He.Fa) (fn : List He.DefD) (ts : Tz) (xz : Xz) : PySem.W.Hook where
  α := He.AlD × Bool
  obs := fun s => obsZG n fa fn ts xz s.heap.get?
  val := fun _ => (He.valD fn, true)
  says := fun _ h => ∃ K : PySem.W.Frag, K.In h ∧ SaysZ fa fn ts xz K
  of := fun _ _ e => ⟨_, He.frG_in, e⟩
  keeps := fun _ _ _ ⟨K, hK, c⟩ k => ⟨K, PySem.W.Frag.In.keeps hK k, c⟩
theorem obsZG_eq {n : Nat} {fa : List He.Fa} {fn : List He.DefD} {ts : Tz} {xz : Xz} {g : Addr → Option Obj} {s : Shared} (h : ∀ a, g a = s.heap.get? a) : obsZG n fa fn ts xz g = (hookZ n fa fn ts xz).obs s := by
  have e : g = s.heap.get? := funext h
  rw [e] <;> rfl
theorem SaysZ.d {fa : List He.Fa} {fn : List He.DefD} {ts : Tz} {xz : Xz} {K : PySem.W.Frag} (c : SaysZ fa fn ts xz K) : He.SaysD fa fn K := congrArg (fun z : He.AlD × Bool => z.1) c
theorem SaysZ.t {fa : List He.Fa} {fn : List He.DefD} {ts : Tz} {xz : Xz} {K : PySem.W.Frag} (c : SaysZ fa fn ts xz K) (i : Nat) {t : Str × List D} (h : ts[i]? = some t := by rfl) : tupB K t.1 t.2 = true := by
  have c1 : ((ts.all fun t => tupB K t.1 t.2) && xzB K xz) = true := congrArg (fun z : He.AlD × Bool => z.2) c
  exact List.all_eq_true.mp (He.ba c1).1 t (List.mem_of_getElem? h)
theorem SaysZ.x {fa : List He.Fa} {fn : List He.DefD} {ts : Tz} {xz : Xz} {K : PySem.W.Frag} (c : SaysZ fa fn ts xz K) : xzB K xz = true := by
  have c1 : ((ts.all fun t => tupB K t.1 t.2) && xzB K xz) = true := congrArg (fun z : He.AlD × Bool => z.2) c
  exact (He.ba c1).2
end Vm
set_option maxRecDepth 100000
set_option maxHeartbeats 0
namespace T
open PySem PySem.Spec PyProof.Rows L2 Vm
def ag (i : Nat) : Arguments := match top i with
  | .FunctionDef _ a _ _ _ _ _ _ _ _ => a
  | _ => ⟨[], [], none, [], [], none, []⟩
def d_is_whole : He.DefD := ⟨("is_whole", none), "is_whole", "is_whole", ag 11, bd 11, sc 11, [], []⟩
def d_is_between : He.DefD := ⟨("is_between", none), "is_between", "is_between", ag 12, bd 12, sc 12, [], []⟩
def d_is_from : He.DefD := ⟨("is_from", none), "is_from", "is_from", ag 13, bd 13, sc 13, [], []⟩
def d_is_tuple_up_to : He.DefD := ⟨("is_tuple_up_to", none), "is_tuple_up_to", "is_tuple_up_to", ag 14, bd 14, sc 14, [], []⟩
def d_is_limit : He.DefD := ⟨("is_limit", none), "is_limit", "is_limit", ag 21, bd 21, sc 21, [], []⟩
def d_are_limits : He.DefD := ⟨("are_limits", none), "are_limits", "are_limits", ag 22, bd 22, sc 22, [], []⟩
def d_are_hours : He.DefD := ⟨("are_hours", none), "are_hours", "are_hours", ag 23, bd 23, sc 23, [], []⟩
def d_is_rules_pair : He.DefD := ⟨("is_rules_pair", none), "is_rules_pair", "is_rules_pair", ag 24, bd 24, sc 24, [], []⟩
def d_is_open_at : He.DefD := ⟨("is_open_at", none), "is_open_at", "is_open_at", ag 25, bd 25, sc 25, [], []⟩
def d_is_crowded : He.DefD := ⟨("is_crowded", none), "is_crowded", "is_crowded", ag 26, bd 26, sc 26, [], []⟩
def d_first_wrong_by : He.DefD := ⟨("first_wrong_by", none), "first_wrong_by", "first_wrong_by", ag 27, bd 27, sc 27, [], []⟩
def d_is_polite_by : He.DefD := ⟨("is_polite_by", none), "is_polite_by", "is_polite_by", ag 28, bd 28, sc 28, [], []⟩
def d_next_ask : He.DefD := ⟨("next_ask", none), "next_ask", "next_ask", ag 29, bd 29, sc 29, [], []⟩
def d_soonest_by : He.DefD := ⟨("soonest_by", none), "soonest_by", "soonest_by", ag 30, bd 30, sc 30, [], []⟩
def d_most_from_by : He.DefD := ⟨("most_from_by", none), "most_from_by", "most_from_by", ag 31, bd 31, sc 31, [], []⟩
def d_most_by : He.DefD := ⟨("most_by", none), "most_by", "most_by", ag 32, bd 32, sc 32, [], []⟩
def d_tidied_by : He.DefD := ⟨("tidied_by", none), "tidied_by", "tidied_by", ag 33, bd 33, sc 33, [], []⟩
def d_tidied_hours_by : He.DefD := ⟨("tidied_hours_by", none), "tidied_hours_by", "tidied_hours_by", ag 34, bd 34, sc 34, [], []⟩
def d_check_number : He.DefD := ⟨("check_number", none), "check_number", "check_number", ag 38, bd 38, sc 38, [], []⟩
def d_check_moment : He.DefD := ⟨("check_moment", none), "check_moment", "check_moment", ag 39, bd 39, sc 39, [], []⟩
def d_check_limits : He.DefD := ⟨("check_limits", none), "check_limits", "check_limits", ag 40, bd 40, sc 40, [], []⟩
def d_check_hours : He.DefD := ⟨("check_hours", none), "check_hours", "check_hours", ag 41, bd 41, sc 41, [], []⟩
def d_are_some_rules : He.DefD := ⟨("are_some_rules", none), "are_some_rules", "are_some_rules", ag 42, bd 42, sc 42, [], []⟩
def d_check_rules : He.DefD := ⟨("check_rules", none), "check_rules", "check_rules", ag 43, bd 43, sc 43, [], []⟩
def d_check_asks : He.DefD := ⟨("check_asks", none), "check_asks", "check_asks", ag 44, bd 44, sc 44, [], []⟩
def d_check_polite : He.DefD := ⟨("check_polite", none), "check_polite", "check_polite", ag 45, bd 45, sc 45, [], []⟩
def d_is_polite : He.DefD := ⟨("is_polite", none), "is_polite", "is_polite", ag 47, bd 47, sc 47, [], []⟩
def d_soonest : He.DefD := ⟨("soonest", none), "soonest", "soonest", ag 48, bd 48, sc 48, [], [(("since" : Str), .int 0)]⟩
def d_most_table : He.DefD := ⟨("most_table", none), "most_table", "most_table", ag 49, bd 49, sc 49, [], []⟩
def d_tidied : He.DefD := ⟨("tidied", none), "tidied", "tidied", ag 50, bd 50, sc 50, [], []⟩
def d_tidied_hours : He.DefD := ⟨("tidied_hours", none), "tidied_hours", "tidied_hours", ag 51, bd 51, sc 51, [], []⟩
def d_joined : He.DefD := ⟨("joined", none), "joined", "joined", ag 52, bd 52, sc 52, [], []⟩
def d_is_up_to : He.DefD := ⟨("is_up_to", none), "is_up_to", "is_up_to", ag 54, bd 54, sc 54, [], []⟩
def d_loose_row_by : He.DefD := ⟨("loose_row_by", none), "loose_row_by", "loose_row_by", ag 55, bd 55, sc 55, [], []⟩
def d_is_stricter_by : He.DefD := ⟨("is_stricter_by", none), "is_stricter_by", "is_stricter_by", ag 56, bd 56, sc 56, [], []⟩
def d_parting_row_by : He.DefD := ⟨("parting_row_by", none), "parting_row_by", "parting_row_by", ag 57, bd 57, sc 57, [], []⟩
def d_are_alike_limits : He.DefD := ⟨("are_alike_limits", none), "are_alike_limits", "are_alike_limits", ag 59, bd 59, sc 59, [], []⟩
def d_are_alike_rules : He.DefD := ⟨("are_alike_rules", none), "are_alike_rules", "are_alike_rules", ag 60, bd 60, sc 60, [], []⟩
def d__law_well : He.DefD := ⟨("_law_well", none), "_law_well", "_law_well", ag 62, bd 62, sc 62, [], []⟩
def d__law_pick : He.DefD := ⟨("_law_pick", none), "_law_pick", "_law_pick", ag 63, bd 63, sc 63, [], []⟩
def d__law_one : He.DefD := ⟨("_law_one", none), "_law_one", "_law_one", ag 64, bd 64, sc 64, [], []⟩
def d__law_open : He.DefD := ⟨("_law_open", none), "_law_open", "_law_open", ag 65, bd 65, sc 65, [], []⟩
def d__law_wrong_at : He.DefD := ⟨("_law_wrong_at", none), "_law_wrong_at", "_law_wrong_at", ag 66, bd 66, sc 66, [], []⟩
def d__law_soonest : He.DefD := ⟨("_law_soonest", none), "_law_soonest", "_law_soonest", ag 67, bd 67, sc 67, [], []⟩
def d__law_some_limits : He.DefD := ⟨("_law_some_limits", none), "_law_some_limits", "_law_some_limits", ag 68, bd 68, sc 68, [], []⟩
def d__law_some_hours : He.DefD := ⟨("_law_some_hours", none), "_law_some_hours", "_law_some_hours", ag 69, bd 69, sc 69, [], []⟩
def d__law_some_row : He.DefD := ⟨("_law_some_row", none), "_law_some_row", "_law_some_row", ag 70, bd 70, sc 70, [], []⟩
def d__law_seven : He.DefD := ⟨("_law_seven", none), "_law_seven", "_law_seven", ag 71, bd 71, sc 71, [], []⟩
def d__law_tidy : He.DefD := ⟨("_law_tidy", none), "_law_tidy", "_law_tidy", ag 72, bd 72, sc 72, [], []⟩
def d__law_other_limits : He.DefD := ⟨("_law_other_limits", none), "_law_other_limits", "_law_other_limits", ag 73, bd 73, sc 73, [], []⟩
def d__law_rows : He.DefD := ⟨("_law_rows", none), "_law_rows", "_law_rows", ag 74, bd 74, sc 74, [], []⟩
def d__law_joined : He.DefD := ⟨("_law_joined", none), "_law_joined", "_law_joined", ag 75, bd 75, sc 75, [], []⟩
def d__law_hours_right : He.DefD := ⟨("_law_hours_right", none), "_law_hours_right", "_law_hours_right", ag 76, bd 76, sc 76, [], []⟩
def d__law_ladder_right : He.DefD := ⟨("_law_ladder_right", none), "_law_ladder_right", "_law_ladder_right", ag 77, bd 77, sc 77, [], []⟩
def d__law_right : He.DefD := ⟨("_law_right", none), "_law_right", "_law_right", ag 78, bd 78, sc 78, [], []⟩
def d_law : He.DefD := ⟨("law", none), "law", "law", ag 79, bd 79, sc 79, [], []⟩
def fn : List He.DefD := [d_is_whole, d_is_between, d_is_from, d_is_tuple_up_to, d_is_limit, d_are_limits, d_are_hours, d_is_rules_pair, d_is_open_at, d_is_crowded, d_first_wrong_by, d_is_polite_by, d_next_ask, d_soonest_by, d_most_from_by, d_most_by, d_tidied_by, d_tidied_hours_by, d_check_number, d_check_moment, d_check_limits, d_check_hours, d_are_some_rules, d_check_rules, d_check_asks, d_check_polite, d_is_polite, d_soonest, d_most_table, d_tidied, d_tidied_hours, d_joined, d_is_up_to, d_loose_row_by, d_is_stricter_by, d_parting_row_by, d_are_alike_limits, d_are_alike_rules, d__law_well, d__law_pick, d__law_one, d__law_open, d__law_wrong_at, d__law_soonest, d__law_some_limits, d__law_some_hours, d__law_some_row, d__law_seven, d__law_tidy, d__law_other_limits, d__law_rows, d__law_joined, d__law_hours_right, d__law_ladder_right, d__law_right, d_law]
def fa : List He.Fa := [.glo "is_whole", .glo "is_between", .glo "is_from", .glo "is_tuple_up_to", .glo "is_limit", .glo "are_limits", .glo "are_hours", .glo "is_rules_pair", .glo "is_open_at", .glo "is_crowded", .glo "first_wrong_by", .glo "is_polite_by", .glo "next_ask", .glo "soonest_by", .glo "most_from_by", .glo "most_by", .glo "tidied_by", .glo "tidied_hours_by", .glo "check_number", .glo "check_moment", .glo "check_limits", .glo "check_hours", .glo "are_some_rules", .glo "check_rules", .glo "check_asks", .glo "check_polite", .glo "is_polite", .glo "soonest", .glo "most_table", .glo "tidied", .glo "tidied_hours", .glo "joined", .glo "is_up_to", .glo "loose_row_by", .glo "is_stricter_by", .glo "parting_row_by", .glo "are_alike_limits", .glo "are_alike_rules", .glo "_law_well", .glo "_law_pick", .glo "_law_one", .glo "_law_open", .glo "_law_wrong_at", .glo "_law_soonest", .glo "_law_some_limits", .glo "_law_some_hours", .glo "_law_some_row", .glo "_law_seven", .glo "_law_tidy", .glo "_law_other_limits", .glo "_law_rows", .glo "_law_joined", .glo "_law_hours_right", .glo "_law_ladder_right", .glo "_law_right", .glo "law", .int "MOST_LIMITS" 4, .int "MOST_ASKS" 6, .int "MOST_MOMENTS" 12, .int "MOST_HOURS" 12, .int "MOST_ROW" 200, .int "MOST_WINDOW" 100, .free "ValueError", .free "abs", .free "all", .free "any", .free "bool", .free "divmod", .free "enumerate", .free "int", .free "isinstance", .free "len", .free "list", .free "max", .free "min", .free "range", .free "repr", .free "sorted", .free "tuple"]
def names0 : List PySem.Str := [("CrawlError" : PySem.Str), ("InvalidNumber" : PySem.Str), ("InvalidLimits" : PySem.Str), ("InvalidHours" : PySem.Str), ("InvalidRules" : PySem.Str), ("InvalidAsks" : PySem.Str), ("NotPolite" : PySem.Str), ("TooMany" : PySem.Str), ("is_whole" : PySem.Str), ("is_between" : PySem.Str), ("is_from" : PySem.Str), ("is_tuple_up_to" : PySem.Str), ("MOST_LIMITS" : PySem.Str), ("MOST_ASKS" : PySem.Str), ("MOST_MOMENTS" : PySem.Str), ("MOST_HOURS" : PySem.Str), ("ALWAYS" : PySem.Str), ("is_limit" : PySem.Str), ("are_limits" : PySem.Str), ("are_hours" : PySem.Str), ("is_rules_pair" : PySem.Str), ("is_open_at" : PySem.Str), ("is_crowded" : PySem.Str), ("first_wrong_by" : PySem.Str), ("is_polite_by" : PySem.Str), ("next_ask" : PySem.Str), ("soonest_by" : PySem.Str), ("most_from_by" : PySem.Str), ("most_by" : PySem.Str), ("tidied_by" : PySem.Str), ("tidied_hours_by" : PySem.Str), ("MOST_ROW" : PySem.Str), ("MOST_WINDOW" : PySem.Str), ("check_number" : PySem.Str), ("check_moment" : PySem.Str), ("check_limits" : PySem.Str), ("check_hours" : PySem.Str), ("are_some_rules" : PySem.Str), ("check_rules" : PySem.Str)]
def names1 : List PySem.Str := [("check_asks" : PySem.Str), ("check_polite" : PySem.Str), ("is_polite" : PySem.Str), ("soonest" : PySem.Str), ("most_table" : PySem.Str), ("tidied" : PySem.Str), ("tidied_hours" : PySem.Str), ("joined" : PySem.Str), ("is_up_to" : PySem.Str), ("loose_row_by" : PySem.Str), ("is_stricter_by" : PySem.Str), ("parting_row_by" : PySem.Str), ("are_alike_limits" : PySem.Str), ("are_alike_rules" : PySem.Str), ("_law_well" : PySem.Str), ("_law_pick" : PySem.Str), ("_law_one" : PySem.Str), ("_law_open" : PySem.Str), ("_law_wrong_at" : PySem.Str), ("_law_soonest" : PySem.Str), ("_law_some_limits" : PySem.Str), ("_law_some_hours" : PySem.Str), ("_law_some_row" : PySem.Str), ("_law_seven" : PySem.Str), ("_law_tidy" : PySem.Str), ("_law_other_limits" : PySem.Str), ("_law_rows" : PySem.Str), ("_law_joined" : PySem.Str), ("_law_hours_right" : PySem.Str), ("_law_ladder_right" : PySem.Str), ("_law_right" : PySem.Str)]
def xz : Vm.Xz := (([("TooMany" : Str)] : List Str), ([("TooMany" : Str)] : List Str), [(("TooMany" : Str), ("TooMany" : Str))], true)
def tz : Vm.Tz := [(("ALWAYS" : Str), [.int 1])]
abbrev R : PySem.W.OpenRow := PySem.W.OpenLaw.row PySem.Challenge.rw_gentlerounds_k14_whole_tidied_limits_let
abbrev hk : PySem.W.Hook := Vm.hookZ 4 fa fn tz xz
def ob (s : PySem.W.SharedT) : He.AlD × Bool := Vm.obsZG 4 fa fn tz xz (HandSHeadRun.getT s)
theorem ob_eq (s : PySem.W.SharedT) : ob s = hk.obs s.abs := Vm.obsZG_eq (HandSHeadRun.getT_eq s)
theorem run (w : World) : HandSHeadRun.RunEqI R (PySem.W.view R.prog [0, 79]) hk ob 8095 (names0 ++ names1) w := by
  unfold HandSHeadRun.RunEqI
  kernel_rfl
theorem s_is_whole : FnScope ([("value" : Str)] : List Str) ([("value" : Str)] : List Str) (sc 11) := ⟨by kernel_rfl, by kernel_rfl, by kernel_rfl, by decide +kernel, by kernel_rfl, by decide +kernel, by decide +kernel⟩
theorem s_is_between : FnScope ([("value" : Str), ("low" : Str), ("high" : Str)] : List Str) ([("value" : Str), ("low" : Str), ("high" : Str)] : List Str) (sc 12) := ⟨by kernel_rfl, by kernel_rfl, by kernel_rfl, by decide +kernel, by kernel_rfl, by decide +kernel, by decide +kernel⟩
theorem s_is_from : FnScope ([("value" : Str), ("low" : Str)] : List Str) ([("value" : Str), ("low" : Str)] : List Str) (sc 13) := ⟨by kernel_rfl, by kernel_rfl, by kernel_rfl, by decide +kernel, by kernel_rfl, by decide +kernel, by decide +kernel⟩
theorem s_is_tuple_up_to : FnScope ([("value" : Str), ("low" : Str), ("high" : Str)] : List Str) ([("value" : Str), ("low" : Str), ("high" : Str)] : List Str) (sc 14) := ⟨by kernel_rfl, by kernel_rfl, by kernel_rfl, by decide +kernel, by kernel_rfl, by decide +kernel, by decide +kernel⟩
theorem s_is_limit : FnScope ([("value" : Str)] : List Str) ([("value" : Str)] : List Str) (sc 21) := ⟨by kernel_rfl, by kernel_rfl, by kernel_rfl, by decide +kernel, by kernel_rfl, by decide +kernel, by decide +kernel⟩
theorem s_are_limits : FnScope ([("value" : Str), ("pair" : Str)] : List Str) ([("value" : Str)] : List Str) (sc 22) := ⟨by kernel_rfl, by kernel_rfl, by kernel_rfl, by decide +kernel, by kernel_rfl, by decide +kernel, by decide +kernel⟩
theorem s_are_hours : FnScope ([("value" : Str), ("hour" : Str)] : List Str) ([("value" : Str)] : List Str) (sc 23) := ⟨by kernel_rfl, by kernel_rfl, by kernel_rfl, by decide +kernel, by kernel_rfl, by decide +kernel, by decide +kernel⟩
theorem s_is_rules_pair : FnScope ([("limits" : Str), ("hours" : Str)] : List Str) ([("limits" : Str), ("hours" : Str)] : List Str) (sc 24) := ⟨by kernel_rfl, by kernel_rfl, by kernel_rfl, by decide +kernel, by kernel_rfl, by decide +kernel, by decide +kernel⟩
theorem s_is_open_at : FnScope ([("hours" : Str), ("moment" : Str)] : List Str) ([("hours" : Str), ("moment" : Str)] : List Str) (sc 25) := ⟨by kernel_rfl, by kernel_rfl, by kernel_rfl, by decide +kernel, by kernel_rfl, by decide +kernel, by decide +kernel⟩
theorem s_is_crowded : FnScope ([("limits" : Str), ("asks" : Str), ("index" : Str), ("many" : Str), ("size" : Str)] : List Str) ([("limits" : Str), ("asks" : Str), ("index" : Str)] : List Str) (sc 26) := ⟨by kernel_rfl, by kernel_rfl, by kernel_rfl, by decide +kernel, by kernel_rfl, by decide +kernel, by decide +kernel⟩
theorem s_first_wrong_by : FnScope ([("rules" : Str), ("asks" : Str), ("limits" : Str), ("hours" : Str), ("index" : Str), ("moment" : Str)] : List Str) ([("rules" : Str), ("asks" : Str)] : List Str) (sc 27) := ⟨by kernel_rfl, by kernel_rfl, by kernel_rfl, by decide +kernel, by kernel_rfl, by decide +kernel, by decide +kernel⟩
theorem s_is_polite_by : FnScope ([("rules" : Str), ("asks" : Str)] : List Str) ([("rules" : Str), ("asks" : Str)] : List Str) (sc 28) := ⟨by kernel_rfl, by kernel_rfl, by kernel_rfl, by decide +kernel, by kernel_rfl, by decide +kernel, by decide +kernel⟩
theorem s_next_ask : FnScope ([("rules" : Str), ("asks" : Str), ("since" : Str), ("bounds" : Str), ("found" : Str), ("limits" : Str), ("hours" : Str), ("many" : Str), ("size" : Str)] : List Str) ([("rules" : Str), ("asks" : Str), ("since" : Str)] : List Str) (sc 29) := ⟨by kernel_rfl, by kernel_rfl, by kernel_rfl, by decide +kernel, by kernel_rfl, by decide +kernel, by decide +kernel⟩
theorem s_soonest_by : FnScope ([("rules" : Str), ("asks" : Str), ("many" : Str), ("since" : Str), ("told" : Str), ("_" : Str)] : List Str) ([("rules" : Str), ("asks" : Str), ("many" : Str), ("since" : Str)] : List Str) (sc 30) := ⟨by kernel_rfl, by kernel_rfl, by kernel_rfl, by decide +kernel, by kernel_rfl, by decide +kernel, by decide +kernel⟩
theorem s_most_from_by : FnScope ([("rules" : Str), ("moment" : Str), ("moments" : Str), ("told" : Str), ("found" : Str), ("limits" : Str), ("hours" : Str), ("k" : Str)] : List Str) ([("rules" : Str), ("moment" : Str), ("moments" : Str)] : List Str) (sc 31) := ⟨by kernel_rfl, by kernel_rfl, by kernel_rfl, by decide +kernel, by kernel_rfl, by decide +kernel, by decide +kernel⟩
theorem s_most_by : FnScope ([("limits" : Str), ("moments" : Str)] : List Str) ([("limits" : Str), ("moments" : Str)] : List Str) (sc 32) := ⟨by kernel_rfl, by kernel_rfl, by kernel_rfl, by decide +kernel, by kernel_rfl, by decide +kernel, by decide +kernel⟩
theorem s_tidied_by : FnScope ([("limits" : Str), ("asks" : Str), ("found" : Str), ("many" : Str)] : List Str) ([("limits" : Str)] : List Str) (sc 33) := ⟨by kernel_rfl, by kernel_rfl, by kernel_rfl, by decide +kernel, by kernel_rfl, by decide +kernel, by decide +kernel⟩
theorem s_tidied_hours_by : FnScope ([("hours" : Str), ("size" : Str)] : List Str) ([("hours" : Str)] : List Str) (sc 34) := ⟨by kernel_rfl, by kernel_rfl, by kernel_rfl, by decide +kernel, by kernel_rfl, by decide +kernel, by decide +kernel⟩
theorem s_check_number : FnScope ([("value" : Str), ("low" : Str), ("high" : Str)] : List Str) ([("value" : Str), ("low" : Str), ("high" : Str)] : List Str) (sc 38) := ⟨by kernel_rfl, by kernel_rfl, by kernel_rfl, by decide +kernel, by kernel_rfl, by decide +kernel, by decide +kernel⟩
theorem s_check_moment : FnScope ([("value" : Str)] : List Str) ([("value" : Str)] : List Str) (sc 39) := ⟨by kernel_rfl, by kernel_rfl, by kernel_rfl, by decide +kernel, by kernel_rfl, by decide +kernel, by decide +kernel⟩
theorem s_check_limits : FnScope ([("value" : Str)] : List Str) ([("value" : Str)] : List Str) (sc 40) := ⟨by kernel_rfl, by kernel_rfl, by kernel_rfl, by decide +kernel, by kernel_rfl, by decide +kernel, by decide +kernel⟩
theorem s_check_hours : FnScope ([("value" : Str)] : List Str) ([("value" : Str)] : List Str) (sc 41) := ⟨by kernel_rfl, by kernel_rfl, by kernel_rfl, by decide +kernel, by kernel_rfl, by decide +kernel, by decide +kernel⟩
theorem s_are_some_rules : FnScope ([("value" : Str)] : List Str) ([("value" : Str)] : List Str) (sc 42) := ⟨by kernel_rfl, by kernel_rfl, by kernel_rfl, by decide +kernel, by kernel_rfl, by decide +kernel, by decide +kernel⟩
theorem s_check_rules : FnScope ([("value" : Str)] : List Str) ([("value" : Str)] : List Str) (sc 43) := ⟨by kernel_rfl, by kernel_rfl, by kernel_rfl, by decide +kernel, by kernel_rfl, by decide +kernel, by decide +kernel⟩
theorem s_check_asks : FnScope ([("value" : Str), ("index" : Str), ("moment" : Str)] : List Str) ([("value" : Str)] : List Str) (sc 44) := ⟨by kernel_rfl, by kernel_rfl, by kernel_rfl, by decide +kernel, by kernel_rfl, by decide +kernel, by decide +kernel⟩
theorem s_check_polite : FnScope ([("rules" : Str), ("asks" : Str), ("wrong" : Str)] : List Str) ([("rules" : Str), ("asks" : Str)] : List Str) (sc 45) := ⟨by kernel_rfl, by kernel_rfl, by kernel_rfl, by decide +kernel, by kernel_rfl, by decide +kernel, by decide +kernel⟩
theorem s_is_polite : FnScope ([("rules" : Str), ("asks" : Str)] : List Str) ([("rules" : Str), ("asks" : Str)] : List Str) (sc 47) := ⟨by kernel_rfl, by kernel_rfl, by kernel_rfl, by decide +kernel, by kernel_rfl, by decide +kernel, by decide +kernel⟩
theorem s_soonest : FnScope ([("rules" : Str), ("asks" : Str), ("many" : Str), ("since" : Str)] : List Str) ([("rules" : Str), ("asks" : Str), ("many" : Str), ("since" : Str)] : List Str) (sc 48) := ⟨by kernel_rfl, by kernel_rfl, by kernel_rfl, by decide +kernel, by kernel_rfl, by decide +kernel, by decide +kernel⟩
theorem s_most_table : FnScope ([("limits" : Str), ("moments" : Str)] : List Str) ([("limits" : Str)] : List Str) (sc 49) := ⟨by kernel_rfl, by kernel_rfl, by kernel_rfl, by decide +kernel, by kernel_rfl, by decide +kernel, by decide +kernel⟩
theorem s_tidied : FnScope ([("limits" : Str)] : List Str) ([("limits" : Str)] : List Str) (sc 50) := ⟨by kernel_rfl, by kernel_rfl, by kernel_rfl, by decide +kernel, by kernel_rfl, by decide +kernel, by decide +kernel⟩
theorem s_tidied_hours : FnScope ([("hours" : Str)] : List Str) ([("hours" : Str)] : List Str) (sc 51) := ⟨by kernel_rfl, by kernel_rfl, by kernel_rfl, by decide +kernel, by kernel_rfl, by decide +kernel, by decide +kernel⟩
theorem s_joined : FnScope ([("limits" : Str), ("other" : Str), ("found" : Str)] : List Str) ([("limits" : Str), ("other" : Str)] : List Str) (sc 52) := ⟨by kernel_rfl, by kernel_rfl, by kernel_rfl, by decide +kernel, by kernel_rfl, by decide +kernel, by decide +kernel⟩
theorem s_is_up_to : FnScope ([("many" : Str), ("bound" : Str)] : List Str) ([("many" : Str), ("bound" : Str)] : List Str) (sc 54) := ⟨by kernel_rfl, by kernel_rfl, by kernel_rfl, by decide +kernel, by kernel_rfl, by decide +kernel, by decide +kernel⟩
theorem s_loose_row_by : FnScope ([("rules" : Str), ("other" : Str), ("moment" : Str), ("hours" : Str), ("others" : Str), ("many" : Str), ("size" : Str)] : List Str) ([("rules" : Str), ("other" : Str)] : List Str) (sc 55) := ⟨by kernel_rfl, by kernel_rfl, by kernel_rfl, by decide +kernel, by kernel_rfl, by decide +kernel, by decide +kernel⟩
theorem s_is_stricter_by : FnScope ([("limits" : Str), ("other" : Str)] : List Str) ([("limits" : Str), ("other" : Str)] : List Str) (sc 56) := ⟨by kernel_rfl, by kernel_rfl, by kernel_rfl, by decide +kernel, by kernel_rfl, by decide +kernel, by decide +kernel⟩
theorem s_parting_row_by : FnScope ([("rules" : Str), ("other" : Str), ("found" : Str)] : List Str) ([("rules" : Str), ("other" : Str)] : List Str) (sc 57) := ⟨by kernel_rfl, by kernel_rfl, by kernel_rfl, by decide +kernel, by kernel_rfl, by decide +kernel, by decide +kernel⟩
theorem s_are_alike_limits : FnScope ([("limits" : Str), ("other" : Str)] : List Str) ([("limits" : Str), ("other" : Str)] : List Str) (sc 59) := ⟨by kernel_rfl, by kernel_rfl, by kernel_rfl, by decide +kernel, by kernel_rfl, by decide +kernel, by decide +kernel⟩
theorem s_are_alike_rules : FnScope ([("rules" : Str), ("other" : Str)] : List Str) ([("rules" : Str), ("other" : Str)] : List Str) (sc 60) := ⟨by kernel_rfl, by kernel_rfl, by kernel_rfl, by decide +kernel, by kernel_rfl, by decide +kernel, by decide +kernel⟩
theorem s__law_well : FnScope ([("_law_script" : Str), ("_law_turn" : Str), ("_law_mixed" : Str), ("_law_each" : Str), ("_law_cell" : Str), ("_law_digits" : Str)] : List Str) ([("_law_script" : Str), ("_law_turn" : Str)] : List Str) (sc 62) := ⟨by kernel_rfl, by kernel_rfl, by kernel_rfl, by decide +kernel, by kernel_rfl, by decide +kernel, by decide +kernel⟩
theorem s__law_pick : FnScope ([("_law_well_here" : Str), ("_law_top" : Str), ("_law_digit" : Str)] : List Str) ([("_law_well_here" : Str), ("_law_top" : Str)] : List Str) (sc 63) := ⟨by kernel_rfl, by kernel_rfl, by kernel_rfl, by decide +kernel, by kernel_rfl, by decide +kernel, by decide +kernel⟩
theorem s__law_one : FnScope ([("_law_well_here" : Str), ("_law_some" : Str)] : List Str) ([("_law_well_here" : Str), ("_law_some" : Str)] : List Str) (sc 64) := ⟨by kernel_rfl, by kernel_rfl, by kernel_rfl, by decide +kernel, by kernel_rfl, by decide +kernel, by decide +kernel⟩
theorem s__law_open : FnScope ([("_law_clock" : Str), ("_law_time" : Str)] : List Str) ([("_law_clock" : Str), ("_law_time" : Str)] : List Str) (sc 65) := ⟨by kernel_rfl, by kernel_rfl, by kernel_rfl, by decide +kernel, by kernel_rfl, by decide +kernel, by decide +kernel⟩
theorem s__law_wrong_at : FnScope ([("_law_pairs" : Str), ("_law_clock" : Str), ("_law_row" : Str), ("_law_at" : Str), ("_law_time" : Str), ("_law_pair" : Str), ("_law_other" : Str)] : List Str) ([("_law_pairs" : Str), ("_law_clock" : Str), ("_law_row" : Str)] : List Str) (sc 66) := ⟨by kernel_rfl, by kernel_rfl, by kernel_rfl, by decide +kernel, by kernel_rfl, by decide +kernel, by decide +kernel⟩
theorem s__law_soonest : FnScope ([("_law_pairs" : Str), ("_law_clock" : Str), ("_law_row" : Str), ("_law_number" : Str), ("_law_start" : Str), ("_law_line" : Str), ("_law_turn" : Str), ("_law_time" : Str), ("_law_pair" : Str), ("_law_step" : Str)] : List Str) ([("_law_pairs" : Str), ("_law_clock" : Str), ("_law_row" : Str), ("_law_number" : Str), ("_law_start" : Str)] : List Str) (sc 67) := ⟨by kernel_rfl, by kernel_rfl, by kernel_rfl, by decide +kernel, by kernel_rfl, by decide +kernel, by decide +kernel⟩
theorem s__law_some_limits : FnScope ([("_law_well_here" : Str), ("_law_top" : Str), ("_law_width" : Str), ("_law_number" : Str), ("_law_turn" : Str)] : List Str) ([("_law_well_here" : Str), ("_law_top" : Str), ("_law_width" : Str)] : List Str) (sc 68) := ⟨by kernel_rfl, by kernel_rfl, by kernel_rfl, by decide +kernel, by kernel_rfl, by decide +kernel, by decide +kernel⟩
theorem s__law_some_hours : FnScope ([("_law_well_here" : Str), ("_law_top" : Str), ("_law_row" : Str), ("_law_turn" : Str)] : List Str) ([("_law_well_here" : Str), ("_law_top" : Str)] : List Str) (sc 69) := ⟨by kernel_rfl, by kernel_rfl, by kernel_rfl, by decide +kernel, by kernel_rfl, by decide +kernel, by decide +kernel⟩
theorem s__law_some_row : FnScope ([("_law_well_here" : Str), ("_law_pairs" : Str), ("_law_clock" : Str), ("_law_number" : Str), ("_law_top" : Str), ("_law_line" : Str), ("_law_turn" : Str), ("_law_ahead" : Str)] : List Str) ([("_law_well_here" : Str), ("_law_pairs" : Str), ("_law_clock" : Str), ("_law_number" : Str), ("_law_top" : Str)] : List Str) (sc 70) := ⟨by kernel_rfl, by kernel_rfl, by kernel_rfl, by decide +kernel, by kernel_rfl, by decide +kernel, by decide +kernel⟩
theorem s__law_seven : FnScope ([("_law_pairs" : Str)] : List Str) ([("_law_pairs" : Str)] : List Str) (sc 71) := ⟨by kernel_rfl, by kernel_rfl, by kernel_rfl, by decide +kernel, by kernel_rfl, by decide +kernel, by decide +kernel⟩
theorem s__law_tidy : FnScope ([("_law_pairs" : Str), ("_law_k" : Str), ("_law_found" : Str), ("_law_seven_here" : Str)] : List Str) ([("_law_pairs" : Str)] : List Str) (sc 72) := ⟨by kernel_rfl, by kernel_rfl, by kernel_rfl, by decide +kernel, by kernel_rfl, by decide +kernel, by decide +kernel⟩
theorem s__law_other_limits : FnScope ([("_law_well_here" : Str), ("_law_pairs" : Str), ("_law_way" : Str), ("_law_at" : Str), ("_law_seven_here" : Str), ("_law_k" : Str), ("_law_first" : Str), ("_law_wide" : Str)] : List Str) ([("_law_well_here" : Str), ("_law_pairs" : Str)] : List Str) (sc 73) := ⟨by kernel_rfl, by kernel_rfl, by kernel_rfl, by decide +kernel, by kernel_rfl, by decide +kernel, by decide +kernel⟩
theorem s__law_rows : FnScope ([("_law_well_here" : Str), ("_law_pairs" : Str), ("_law_other" : Str), ("_law_listed" : Str), ("_law_turn" : Str), ("_law_row" : Str), ("_law_at" : Str)] : List Str) ([("_law_well_here" : Str), ("_law_pairs" : Str), ("_law_other" : Str)] : List Str) (sc 74) := ⟨by kernel_rfl, by kernel_rfl, by kernel_rfl, by decide +kernel, by kernel_rfl, by decide +kernel, by decide +kernel⟩
theorem s__law_joined : FnScope ([("_law_pairs" : Str), ("_law_other" : Str)] : List Str) ([("_law_pairs" : Str), ("_law_other" : Str)] : List Str) (sc 75) := ⟨by kernel_rfl, by kernel_rfl, by kernel_rfl, by decide +kernel, by kernel_rfl, by decide +kernel, by decide +kernel⟩
theorem s__law_hours_right : FnScope ([("_law_well_here" : Str), ("_law_clock" : Str), ("_law_fit" : Str), ("_law_size" : Str), ("_law_time" : Str)] : List Str) ([("_law_well_here" : Str)] : List Str) (sc 76) := ⟨by kernel_rfl, by kernel_rfl, by kernel_rfl, by decide +kernel, by kernel_rfl, by decide +kernel, by decide +kernel⟩
theorem s__law_ladder_right : FnScope ([("_law_well_here" : Str), ("_law_ladder" : Str), ("_law_due" : Str), ("_law_at" : Str), ("_law_size" : Str), ("_law_one_here" : Str), ("_law_other" : Str), ("_law_k" : Str), ("_law_wide" : Str)] : List Str) ([("_law_well_here" : Str)] : List Str) (sc 77) := ⟨by kernel_rfl, by kernel_rfl, by kernel_rfl, by decide +kernel, by kernel_rfl, by decide +kernel, by decide +kernel⟩
theorem s__law_right : FnScope ([("_law_well_here" : Str), ("_law_pairs" : Str), ("_law_other" : Str), ("_law_is_alike" : Str), ("_law_answers" : Str), ("_law_both" : Str), ("_law_row" : Str), ("_law_told" : Str), ("_law_due" : Str), ("_law_shared" : Str), ("_law_crews" : Str), ("_law_truths" : Str), ("_law_each" : Str)] : List Str) ([("_law_well_here" : Str)] : List Str) (sc 78) := ⟨by kernel_rfl, by kernel_rfl, by kernel_rfl, by decide +kernel, by kernel_rfl, by decide +kernel, by decide +kernel⟩
theorem s_law : FnScope ([("_law_script" : Str), ("_law_turn" : Str)] : List Str) ([("_law_script" : Str)] : List Str) (sc 79) := ⟨by kernel_rfl, by kernel_rfl, by kernel_rfl, by decide +kernel, by kernel_rfl, by decide +kernel, by decide +kernel⟩
section
variable {K : PySem.W.Frag} {h : Heap} {mg : Str → Option Value}
theorem f_is_whole (X : K.In h) (G : h.Ns mainGlobals mg) (c : He.SaysD fa fn K) : DfFact K mg G0 dfs "is_whole" ([("value" : Str)] : List Str) 0 := by
  obtain ⟨fd, F⟩ := c.def_ 0 (d := d_is_whole) rfl
  refine ⟨_, fd, He.glo_ok X G (c.fact 0 (f := .glo "is_whole") rfl), F.kp, fun _ => bind_plain F fun _ _ _ _ _ _ us hl => match us, hl with | [_], _ => rfl, kws_of (l := []) (by kernel_rfl) (by
    intro q hq
    cases hq), ?_⟩
  exact ⟨"is_whole", "is_whole", ag 11, bd 11, sc 11, _, _, ([("value" : Str)] : List Str), ir_is_whole, 80, false, false, false, F, s_is_whole, irok_is_whole, rfl⟩
theorem f_is_between (X : K.In h) (G : h.Ns mainGlobals mg) (c : He.SaysD fa fn K) : DfFact K mg G0 dfs "is_between" ([("value" : Str), ("low" : Str), ("high" : Str)] : List Str) 1 := by
  obtain ⟨fd, F⟩ := c.def_ 1 (d := d_is_between) rfl
  refine ⟨_, fd, He.glo_ok X G (c.fact 1 (f := .glo "is_between") rfl), F.kp, fun _ => bind_plain F fun _ _ _ _ _ _ us hl => match us, hl with | [_, _, _], _ => rfl, kws_of (l := []) (by kernel_rfl) (by
    intro q hq
    cases hq), ?_⟩
  exact ⟨"is_between", "is_between", ag 12, bd 12, sc 12, _, _, ([("value" : Str), ("low" : Str), ("high" : Str)] : List Str), ir_is_between, 80, false, false, false, F, s_is_between, irok_is_between, rfl⟩
theorem f_is_from (X : K.In h) (G : h.Ns mainGlobals mg) (c : He.SaysD fa fn K) : DfFact K mg G0 dfs "is_from" ([("value" : Str), ("low" : Str)] : List Str) 2 := by
  obtain ⟨fd, F⟩ := c.def_ 2 (d := d_is_from) rfl
  refine ⟨_, fd, He.glo_ok X G (c.fact 2 (f := .glo "is_from") rfl), F.kp, fun _ => bind_plain F fun _ _ _ _ _ _ us hl => match us, hl with | [_, _], _ => rfl, kws_of (l := []) (by kernel_rfl) (by
    intro q hq
    cases hq), ?_⟩
  exact ⟨"is_from", "is_from", ag 13, bd 13, sc 13, _, _, ([("value" : Str), ("low" : Str)] : List Str), ir_is_from, 80, false, false, false, F, s_is_from, irok_is_from, rfl⟩
theorem f_is_tuple_up_to (X : K.In h) (G : h.Ns mainGlobals mg) (c : He.SaysD fa fn K) : DfFact K mg G0 dfs "is_tuple_up_to" ([("value" : Str), ("low" : Str), ("high" : Str)] : List Str) 3 := by
  obtain ⟨fd, F⟩ := c.def_ 3 (d := d_is_tuple_up_to) rfl
  refine ⟨_, fd, He.glo_ok X G (c.fact 3 (f := .glo "is_tuple_up_to") rfl), F.kp, fun _ => bind_plain F fun _ _ _ _ _ _ us hl => match us, hl with | [_, _, _], _ => rfl, kws_of (l := []) (by kernel_rfl) (by
    intro q hq
    cases hq), ?_⟩
  exact ⟨"is_tuple_up_to", "is_tuple_up_to", ag 14, bd 14, sc 14, _, _, ([("value" : Str), ("low" : Str), ("high" : Str)] : List Str), ir_is_tuple_up_to, 80, false, false, false, F, s_is_tuple_up_to, irok_is_tuple_up_to, rfl⟩
theorem f_is_limit (X : K.In h) (G : h.Ns mainGlobals mg) (c : He.SaysD fa fn K) : DfFact K mg G0 dfs "is_limit" ([("value" : Str)] : List Str) 4 := by
  obtain ⟨fd, F⟩ := c.def_ 4 (d := d_is_limit) rfl
  refine ⟨_, fd, He.glo_ok X G (c.fact 4 (f := .glo "is_limit") rfl), F.kp, fun _ => bind_plain F fun _ _ _ _ _ _ us hl => match us, hl with | [_], _ => rfl, kws_of (l := []) (by kernel_rfl) (by
    intro q hq
    cases hq), ?_⟩
  exact ⟨"is_limit", "is_limit", ag 21, bd 21, sc 21, _, _, ([("value" : Str)] : List Str), ir_is_limit, 80, false, false, false, F, s_is_limit, irok_is_limit, rfl⟩
theorem f_are_limits (X : K.In h) (G : h.Ns mainGlobals mg) (c : He.SaysD fa fn K) : DfFact K mg G0 dfs "are_limits" ([("value" : Str)] : List Str) 5 := by
  obtain ⟨fd, F⟩ := c.def_ 5 (d := d_are_limits) rfl
  refine ⟨_, fd, He.glo_ok X G (c.fact 5 (f := .glo "are_limits") rfl), F.kp, fun _ => bind_plain F fun _ _ _ _ _ _ us hl => match us, hl with | [_], _ => rfl, kws_of (l := []) (by kernel_rfl) (by
    intro q hq
    cases hq), ?_⟩
  exact ⟨"are_limits", "are_limits", ag 22, bd 22, sc 22, _, _, ([("value" : Str), ("pair" : Str)] : List Str), ir_are_limits, 80, false, false, false, F, s_are_limits, irok_are_limits, rfl⟩
theorem f_are_hours (X : K.In h) (G : h.Ns mainGlobals mg) (c : He.SaysD fa fn K) : DfFact K mg G0 dfs "are_hours" ([("value" : Str)] : List Str) 6 := by
  obtain ⟨fd, F⟩ := c.def_ 6 (d := d_are_hours) rfl
  refine ⟨_, fd, He.glo_ok X G (c.fact 6 (f := .glo "are_hours") rfl), F.kp, fun _ => bind_plain F fun _ _ _ _ _ _ us hl => match us, hl with | [_], _ => rfl, kws_of (l := []) (by kernel_rfl) (by
    intro q hq
    cases hq), ?_⟩
  exact ⟨"are_hours", "are_hours", ag 23, bd 23, sc 23, _, _, ([("value" : Str), ("hour" : Str)] : List Str), ir_are_hours, 80, false, false, false, F, s_are_hours, irok_are_hours, rfl⟩
theorem f_is_rules_pair (X : K.In h) (G : h.Ns mainGlobals mg) (c : He.SaysD fa fn K) : DfFact K mg G0 dfs "is_rules_pair" ([("limits" : Str), ("hours" : Str)] : List Str) 7 := by
  obtain ⟨fd, F⟩ := c.def_ 7 (d := d_is_rules_pair) rfl
  refine ⟨_, fd, He.glo_ok X G (c.fact 7 (f := .glo "is_rules_pair") rfl), F.kp, fun _ => bind_plain F fun _ _ _ _ _ _ us hl => match us, hl with | [_, _], _ => rfl, kws_of (l := []) (by kernel_rfl) (by
    intro q hq
    cases hq), ?_⟩
  exact ⟨"is_rules_pair", "is_rules_pair", ag 24, bd 24, sc 24, _, _, ([("limits" : Str), ("hours" : Str)] : List Str), ir_is_rules_pair, 80, false, false, false, F, s_is_rules_pair, irok_is_rules_pair, rfl⟩
theorem f_is_open_at (X : K.In h) (G : h.Ns mainGlobals mg) (c : He.SaysD fa fn K) : DfFact K mg G0 dfs "is_open_at" ([("hours" : Str), ("moment" : Str)] : List Str) 8 := by
  obtain ⟨fd, F⟩ := c.def_ 8 (d := d_is_open_at) rfl
  refine ⟨_, fd, He.glo_ok X G (c.fact 8 (f := .glo "is_open_at") rfl), F.kp, fun _ => bind_plain F fun _ _ _ _ _ _ us hl => match us, hl with | [_, _], _ => rfl, kws_of (l := []) (by kernel_rfl) (by
    intro q hq
    cases hq), ?_⟩
  exact ⟨"is_open_at", "is_open_at", ag 25, bd 25, sc 25, _, _, ([("hours" : Str), ("moment" : Str)] : List Str), ir_is_open_at, 80, false, false, false, F, s_is_open_at, irok_is_open_at, rfl⟩
theorem f_is_crowded (X : K.In h) (G : h.Ns mainGlobals mg) (c : He.SaysD fa fn K) : DfFact K mg G0 dfs "is_crowded" ([("limits" : Str), ("asks" : Str), ("index" : Str)] : List Str) 9 := by
  obtain ⟨fd, F⟩ := c.def_ 9 (d := d_is_crowded) rfl
  refine ⟨_, fd, He.glo_ok X G (c.fact 9 (f := .glo "is_crowded") rfl), F.kp, fun _ => bind_plain F fun _ _ _ _ _ _ us hl => match us, hl with | [_, _, _], _ => rfl, kws_of (l := []) (by kernel_rfl) (by
    intro q hq
    cases hq), ?_⟩
  exact ⟨"is_crowded", "is_crowded", ag 26, bd 26, sc 26, _, _, ([("limits" : Str), ("asks" : Str), ("index" : Str), ("many" : Str), ("size" : Str)] : List Str), ir_is_crowded, 80, false, false, false, F, s_is_crowded, irok_is_crowded, rfl⟩
theorem f_first_wrong_by (X : K.In h) (G : h.Ns mainGlobals mg) (c : He.SaysD fa fn K) : DfFact K mg G0 dfs "first_wrong_by" ([("rules" : Str), ("asks" : Str)] : List Str) 10 := by
  obtain ⟨fd, F⟩ := c.def_ 10 (d := d_first_wrong_by) rfl
  refine ⟨_, fd, He.glo_ok X G (c.fact 10 (f := .glo "first_wrong_by") rfl), F.kp, fun _ => bind_plain F fun _ _ _ _ _ _ us hl => match us, hl with | [_, _], _ => rfl, kws_of (l := []) (by kernel_rfl) (by
    intro q hq
    cases hq), ?_⟩
  exact ⟨"first_wrong_by", "first_wrong_by", ag 27, bd 27, sc 27, _, _, ([("rules" : Str), ("asks" : Str), ("limits" : Str), ("hours" : Str), ("index" : Str), ("moment" : Str)] : List Str), ir_first_wrong_by, 80, false, false, false, F, s_first_wrong_by, irok_first_wrong_by, rfl⟩
theorem f_is_polite_by (X : K.In h) (G : h.Ns mainGlobals mg) (c : He.SaysD fa fn K) : DfFact K mg G0 dfs "is_polite_by" ([("rules" : Str), ("asks" : Str)] : List Str) 11 := by
  obtain ⟨fd, F⟩ := c.def_ 11 (d := d_is_polite_by) rfl
  refine ⟨_, fd, He.glo_ok X G (c.fact 11 (f := .glo "is_polite_by") rfl), F.kp, fun _ => bind_plain F fun _ _ _ _ _ _ us hl => match us, hl with | [_, _], _ => rfl, kws_of (l := []) (by kernel_rfl) (by
    intro q hq
    cases hq), ?_⟩
  exact ⟨"is_polite_by", "is_polite_by", ag 28, bd 28, sc 28, _, _, ([("rules" : Str), ("asks" : Str)] : List Str), ir_is_polite_by, 80, false, false, false, F, s_is_polite_by, irok_is_polite_by, rfl⟩
theorem f_next_ask (X : K.In h) (G : h.Ns mainGlobals mg) (c : He.SaysD fa fn K) : DfFact K mg G0 dfs "next_ask" ([("rules" : Str), ("asks" : Str), ("since" : Str)] : List Str) 12 := by
  obtain ⟨fd, F⟩ := c.def_ 12 (d := d_next_ask) rfl
  refine ⟨_, fd, He.glo_ok X G (c.fact 12 (f := .glo "next_ask") rfl), F.kp, fun _ => bind_plain F fun _ _ _ _ _ _ us hl => match us, hl with | [_, _, _], _ => rfl, kws_of (l := []) (by kernel_rfl) (by
    intro q hq
    cases hq), ?_⟩
  exact ⟨"next_ask", "next_ask", ag 29, bd 29, sc 29, _, _, ([("rules" : Str), ("asks" : Str), ("since" : Str), ("bounds" : Str), ("found" : Str), ("limits" : Str), ("hours" : Str), ("many" : Str), ("size" : Str)] : List Str), ir_next_ask, 80, false, false, false, F, s_next_ask, irok_next_ask, rfl⟩
theorem f_soonest_by (X : K.In h) (G : h.Ns mainGlobals mg) (c : He.SaysD fa fn K) : DfFact K mg G0 dfs "soonest_by" ([("rules" : Str), ("asks" : Str), ("many" : Str), ("since" : Str)] : List Str) 13 := by
  obtain ⟨fd, F⟩ := c.def_ 13 (d := d_soonest_by) rfl
  refine ⟨_, fd, He.glo_ok X G (c.fact 13 (f := .glo "soonest_by") rfl), F.kp, fun _ => bind_plain F fun _ _ _ _ _ _ us hl => match us, hl with | [_, _, _, _], _ => rfl, kws_of (l := []) (by kernel_rfl) (by
    intro q hq
    cases hq), ?_⟩
  exact ⟨"soonest_by", "soonest_by", ag 30, bd 30, sc 30, _, _, ([("rules" : Str), ("asks" : Str), ("many" : Str), ("since" : Str), ("told" : Str), ("_" : Str)] : List Str), ir_soonest_by, 80, false, false, false, F, s_soonest_by, irok_soonest_by, rfl⟩
theorem f_most_from_by (X : K.In h) (G : h.Ns mainGlobals mg) (c : He.SaysD fa fn K) : DfFact K mg G0 dfs "most_from_by" ([("rules" : Str), ("moment" : Str), ("moments" : Str)] : List Str) 14 := by
  obtain ⟨fd, F⟩ := c.def_ 14 (d := d_most_from_by) rfl
  refine ⟨_, fd, He.glo_ok X G (c.fact 14 (f := .glo "most_from_by") rfl), F.kp, fun _ => bind_plain F fun _ _ _ _ _ _ us hl => match us, hl with | [_, _, _], _ => rfl, kws_of (l := []) (by kernel_rfl) (by
    intro q hq
    cases hq), ?_⟩
  exact ⟨"most_from_by", "most_from_by", ag 31, bd 31, sc 31, _, _, ([("rules" : Str), ("moment" : Str), ("moments" : Str), ("told" : Str), ("found" : Str), ("limits" : Str), ("hours" : Str), ("k" : Str)] : List Str), ir_most_from_by, 80, false, false, false, F, s_most_from_by, irok_most_from_by, rfl⟩
theorem f_most_by (X : K.In h) (G : h.Ns mainGlobals mg) (c : He.SaysD fa fn K) : DfFact K mg G0 dfs "most_by" ([("limits" : Str), ("moments" : Str)] : List Str) 15 := by
  obtain ⟨fd, F⟩ := c.def_ 15 (d := d_most_by) rfl
  refine ⟨_, fd, He.glo_ok X G (c.fact 15 (f := .glo "most_by") rfl), F.kp, fun _ => bind_plain F fun _ _ _ _ _ _ us hl => match us, hl with | [_, _], _ => rfl, kws_of (l := []) (by kernel_rfl) (by
    intro q hq
    cases hq), ?_⟩
  exact ⟨"most_by", "most_by", ag 32, bd 32, sc 32, _, _, ([("limits" : Str), ("moments" : Str)] : List Str), ir_most_by, 80, false, false, false, F, s_most_by, irok_most_by, rfl⟩
theorem f_tidied_by (X : K.In h) (G : h.Ns mainGlobals mg) (c : He.SaysD fa fn K) : DfFact K mg G0 dfs "tidied_by" ([("limits" : Str)] : List Str) 16 := by
  obtain ⟨fd, F⟩ := c.def_ 16 (d := d_tidied_by) rfl
  refine ⟨_, fd, He.glo_ok X G (c.fact 16 (f := .glo "tidied_by") rfl), F.kp, fun _ => bind_plain F fun _ _ _ _ _ _ us hl => match us, hl with | [_], _ => rfl, kws_of (l := []) (by kernel_rfl) (by
    intro q hq
    cases hq), ?_⟩
  exact ⟨"tidied_by", "tidied_by", ag 33, bd 33, sc 33, _, _, ([("limits" : Str), ("asks" : Str), ("found" : Str), ("many" : Str)] : List Str), ir_tidied_by, 80, false, false, false, F, s_tidied_by, irok_tidied_by, rfl⟩
theorem f_tidied_hours_by (X : K.In h) (G : h.Ns mainGlobals mg) (c : He.SaysD fa fn K) : DfFact K mg G0 dfs "tidied_hours_by" ([("hours" : Str)] : List Str) 17 := by
  obtain ⟨fd, F⟩ := c.def_ 17 (d := d_tidied_hours_by) rfl
  refine ⟨_, fd, He.glo_ok X G (c.fact 17 (f := .glo "tidied_hours_by") rfl), F.kp, fun _ => bind_plain F fun _ _ _ _ _ _ us hl => match us, hl with | [_], _ => rfl, kws_of (l := []) (by kernel_rfl) (by
    intro q hq
    cases hq), ?_⟩
  exact ⟨"tidied_hours_by", "tidied_hours_by", ag 34, bd 34, sc 34, _, _, ([("hours" : Str), ("size" : Str)] : List Str), ir_tidied_hours_by, 80, false, false, false, F, s_tidied_hours_by, irok_tidied_hours_by, rfl⟩
theorem f_check_number (X : K.In h) (G : h.Ns mainGlobals mg) (c : He.SaysD fa fn K) : DfFact K mg G0 dfs "check_number" ([("value" : Str), ("low" : Str), ("high" : Str)] : List Str) 18 := by
  obtain ⟨fd, F⟩ := c.def_ 18 (d := d_check_number) rfl
  refine ⟨_, fd, He.glo_ok X G (c.fact 18 (f := .glo "check_number") rfl), F.kp, fun _ => bind_plain F fun _ _ _ _ _ _ us hl => match us, hl with | [_, _, _], _ => rfl, kws_of (l := []) (by kernel_rfl) (by
    intro q hq
    cases hq), ?_⟩
  exact ⟨"check_number", "check_number", ag 38, bd 38, sc 38, _, _, ([("value" : Str), ("low" : Str), ("high" : Str)] : List Str), ir_check_number, 80, false, false, false, F, s_check_number, irok_check_number, rfl⟩
theorem f_check_moment (X : K.In h) (G : h.Ns mainGlobals mg) (c : He.SaysD fa fn K) : DfFact K mg G0 dfs "check_moment" ([("value" : Str)] : List Str) 19 := by
  obtain ⟨fd, F⟩ := c.def_ 19 (d := d_check_moment) rfl
  refine ⟨_, fd, He.glo_ok X G (c.fact 19 (f := .glo "check_moment") rfl), F.kp, fun _ => bind_plain F fun _ _ _ _ _ _ us hl => match us, hl with | [_], _ => rfl, kws_of (l := []) (by kernel_rfl) (by
    intro q hq
    cases hq), ?_⟩
  exact ⟨"check_moment", "check_moment", ag 39, bd 39, sc 39, _, _, ([("value" : Str)] : List Str), ir_check_moment, 80, false, false, false, F, s_check_moment, irok_check_moment, rfl⟩
theorem f_check_limits (X : K.In h) (G : h.Ns mainGlobals mg) (c : He.SaysD fa fn K) : DfFact K mg G0 dfs "check_limits" ([("value" : Str)] : List Str) 20 := by
  obtain ⟨fd, F⟩ := c.def_ 20 (d := d_check_limits) rfl
  refine ⟨_, fd, He.glo_ok X G (c.fact 20 (f := .glo "check_limits") rfl), F.kp, fun _ => bind_plain F fun _ _ _ _ _ _ us hl => match us, hl with | [_], _ => rfl, kws_of (l := []) (by kernel_rfl) (by
    intro q hq
    cases hq), ?_⟩
  exact ⟨"check_limits", "check_limits", ag 40, bd 40, sc 40, _, _, ([("value" : Str)] : List Str), ir_check_limits, 80, false, false, false, F, s_check_limits, irok_check_limits, rfl⟩
theorem f_check_hours (X : K.In h) (G : h.Ns mainGlobals mg) (c : He.SaysD fa fn K) : DfFact K mg G0 dfs "check_hours" ([("value" : Str)] : List Str) 21 := by
  obtain ⟨fd, F⟩ := c.def_ 21 (d := d_check_hours) rfl
  refine ⟨_, fd, He.glo_ok X G (c.fact 21 (f := .glo "check_hours") rfl), F.kp, fun _ => bind_plain F fun _ _ _ _ _ _ us hl => match us, hl with | [_], _ => rfl, kws_of (l := []) (by kernel_rfl) (by
    intro q hq
    cases hq), ?_⟩
  exact ⟨"check_hours", "check_hours", ag 41, bd 41, sc 41, _, _, ([("value" : Str)] : List Str), ir_check_hours, 80, false, false, false, F, s_check_hours, irok_check_hours, rfl⟩
theorem f_are_some_rules (X : K.In h) (G : h.Ns mainGlobals mg) (c : He.SaysD fa fn K) : DfFact K mg G0 dfs "are_some_rules" ([("value" : Str)] : List Str) 22 := by
  obtain ⟨fd, F⟩ := c.def_ 22 (d := d_are_some_rules) rfl
  refine ⟨_, fd, He.glo_ok X G (c.fact 22 (f := .glo "are_some_rules") rfl), F.kp, fun _ => bind_plain F fun _ _ _ _ _ _ us hl => match us, hl with | [_], _ => rfl, kws_of (l := []) (by kernel_rfl) (by
    intro q hq
    cases hq), ?_⟩
  exact ⟨"are_some_rules", "are_some_rules", ag 42, bd 42, sc 42, _, _, ([("value" : Str)] : List Str), ir_are_some_rules, 80, false, false, false, F, s_are_some_rules, irok_are_some_rules, rfl⟩
theorem f_check_rules (X : K.In h) (G : h.Ns mainGlobals mg) (c : He.SaysD fa fn K) : DfFact K mg G0 dfs "check_rules" ([("value" : Str)] : List Str) 23 := by
  obtain ⟨fd, F⟩ := c.def_ 23 (d := d_check_rules) rfl
  refine ⟨_, fd, He.glo_ok X G (c.fact 23 (f := .glo "check_rules") rfl), F.kp, fun _ => bind_plain F fun _ _ _ _ _ _ us hl => match us, hl with | [_], _ => rfl, kws_of (l := []) (by kernel_rfl) (by
    intro q hq
    cases hq), ?_⟩
  exact ⟨"check_rules", "check_rules", ag 43, bd 43, sc 43, _, _, ([("value" : Str)] : List Str), ir_check_rules, 80, false, false, false, F, s_check_rules, irok_check_rules, rfl⟩
theorem f_check_asks (X : K.In h) (G : h.Ns mainGlobals mg) (c : He.SaysD fa fn K) : DfFact K mg G0 dfs "check_asks" ([("value" : Str)] : List Str) 24 := by
  obtain ⟨fd, F⟩ := c.def_ 24 (d := d_check_asks) rfl
  refine ⟨_, fd, He.glo_ok X G (c.fact 24 (f := .glo "check_asks") rfl), F.kp, fun _ => bind_plain F fun _ _ _ _ _ _ us hl => match us, hl with | [_], _ => rfl, kws_of (l := []) (by kernel_rfl) (by
    intro q hq
    cases hq), ?_⟩
  exact ⟨"check_asks", "check_asks", ag 44, bd 44, sc 44, _, _, ([("value" : Str), ("index" : Str), ("moment" : Str)] : List Str), ir_check_asks, 80, false, false, false, F, s_check_asks, irok_check_asks, rfl⟩
theorem f_check_polite (X : K.In h) (G : h.Ns mainGlobals mg) (c : He.SaysD fa fn K) : DfFact K mg G0 dfs "check_polite" ([("rules" : Str), ("asks" : Str)] : List Str) 25 := by
  obtain ⟨fd, F⟩ := c.def_ 25 (d := d_check_polite) rfl
  refine ⟨_, fd, He.glo_ok X G (c.fact 25 (f := .glo "check_polite") rfl), F.kp, fun _ => bind_plain F fun _ _ _ _ _ _ us hl => match us, hl with | [_, _], _ => rfl, kws_of (l := []) (by kernel_rfl) (by
    intro q hq
    cases hq), ?_⟩
  exact ⟨"check_polite", "check_polite", ag 45, bd 45, sc 45, _, _, ([("rules" : Str), ("asks" : Str), ("wrong" : Str)] : List Str), ir_check_polite, 80, false, false, false, F, s_check_polite, irok_check_polite, rfl⟩
theorem f_is_polite (X : K.In h) (G : h.Ns mainGlobals mg) (c : He.SaysD fa fn K) : DfFact K mg G0 dfs "is_polite" ([("rules" : Str), ("asks" : Str)] : List Str) 26 := by
  obtain ⟨fd, F⟩ := c.def_ 26 (d := d_is_polite) rfl
  refine ⟨_, fd, He.glo_ok X G (c.fact 26 (f := .glo "is_polite") rfl), F.kp, fun _ => bind_plain F fun _ _ _ _ _ _ us hl => match us, hl with | [_, _], _ => rfl, kws_of (l := []) (by kernel_rfl) (by
    intro q hq
    cases hq), ?_⟩
  exact ⟨"is_polite", "is_polite", ag 47, bd 47, sc 47, _, _, ([("rules" : Str), ("asks" : Str)] : List Str), ir_is_polite, 80, false, false, false, F, s_is_polite, irok_is_polite, rfl⟩
theorem f_soonest (X : K.In h) (G : h.Ns mainGlobals mg) (c : He.SaysD fa fn K) : DfFact K mg G0 dfs "soonest" ([("rules" : Str), ("asks" : Str), ("many" : Str), ("since" : Str)] : List Str) 27 := by
  obtain ⟨fd, F⟩ := c.def_ 27 (d := d_soonest) rfl
  refine ⟨_, fd, He.glo_ok X G (c.fact 27 (f := .glo "soonest") rfl), F.kp, fun e => absurd e (by decide +kernel), kws_of (l := [(("soonest" : Str), 3, ([] : List Str), ([.int 0] : List PyData), ([0, 1, 2, 3] : List Nat))]) (by kernel_rfl) (by
    intro q hq
    simp only [List.mem_cons, List.not_mem_nil, or_false] at hq
    rcases hq with rfl
    · exact bind_kwo (ps := ([("rules" : Str), ("asks" : Str), ("many" : Str), ("since" : Str)] : List Str)) F [(("since" : Str), (.int 0 : V))] (by decide) (by intro z; cases z) (by intro q hq; first | exact hq | cases hq) (fun L H => by simp only [List.map]; exact RdA.cons rd_int (RdA.nil)) fun _ _ _ _ _ _ us ws mv h1 h2 h3 => match us, ws, mv, h1, h2, h3 with | [_, _, _], [], [_], _, _, _ => ⟨_, _, _, _, _, _, rfl, rfl, (by show _ = _; rfl)⟩), ?_⟩
  exact ⟨"soonest", "soonest", ag 48, bd 48, sc 48, _, _, ([("rules" : Str), ("asks" : Str), ("many" : Str), ("since" : Str)] : List Str), ir_soonest, 80, false, false, false, F, s_soonest, irok_soonest, rfl⟩
theorem f_most_table (X : K.In h) (G : h.Ns mainGlobals mg) (c : He.SaysD fa fn K) : DfFact K mg G0 dfs "most_table" ([("limits" : Str)] : List Str) 28 := by
  obtain ⟨fd, F⟩ := c.def_ 28 (d := d_most_table) rfl
  refine ⟨_, fd, He.glo_ok X G (c.fact 28 (f := .glo "most_table") rfl), F.kp, fun _ => bind_plain F fun _ _ _ _ _ _ us hl => match us, hl with | [_], _ => rfl, kws_of (l := []) (by kernel_rfl) (by
    intro q hq
    cases hq), ?_⟩
  exact ⟨"most_table", "most_table", ag 49, bd 49, sc 49, _, _, ([("limits" : Str), ("moments" : Str)] : List Str), ir_most_table, 80, false, false, false, F, s_most_table, irok_most_table, rfl⟩
theorem f_tidied (X : K.In h) (G : h.Ns mainGlobals mg) (c : He.SaysD fa fn K) : DfFact K mg G0 dfs "tidied" ([("limits" : Str)] : List Str) 29 := by
  obtain ⟨fd, F⟩ := c.def_ 29 (d := d_tidied) rfl
  refine ⟨_, fd, He.glo_ok X G (c.fact 29 (f := .glo "tidied") rfl), F.kp, fun _ => bind_plain F fun _ _ _ _ _ _ us hl => match us, hl with | [_], _ => rfl, kws_of (l := []) (by kernel_rfl) (by
    intro q hq
    cases hq), ?_⟩
  exact ⟨"tidied", "tidied", ag 50, bd 50, sc 50, _, _, ([("limits" : Str)] : List Str), ir_tidied, 80, false, false, false, F, s_tidied, irok_tidied, rfl⟩
theorem f_tidied_hours (X : K.In h) (G : h.Ns mainGlobals mg) (c : He.SaysD fa fn K) : DfFact K mg G0 dfs "tidied_hours" ([("hours" : Str)] : List Str) 30 := by
  obtain ⟨fd, F⟩ := c.def_ 30 (d := d_tidied_hours) rfl
  refine ⟨_, fd, He.glo_ok X G (c.fact 30 (f := .glo "tidied_hours") rfl), F.kp, fun _ => bind_plain F fun _ _ _ _ _ _ us hl => match us, hl with | [_], _ => rfl, kws_of (l := []) (by kernel_rfl) (by
    intro q hq
    cases hq), ?_⟩
  exact ⟨"tidied_hours", "tidied_hours", ag 51, bd 51, sc 51, _, _, ([("hours" : Str)] : List Str), ir_tidied_hours, 80, false, false, false, F, s_tidied_hours, irok_tidied_hours, rfl⟩
theorem f_joined (X : K.In h) (G : h.Ns mainGlobals mg) (c : He.SaysD fa fn K) : DfFact K mg G0 dfs "joined" ([("limits" : Str), ("other" : Str)] : List Str) 31 := by
  obtain ⟨fd, F⟩ := c.def_ 31 (d := d_joined) rfl
  refine ⟨_, fd, He.glo_ok X G (c.fact 31 (f := .glo "joined") rfl), F.kp, fun _ => bind_plain F fun _ _ _ _ _ _ us hl => match us, hl with | [_, _], _ => rfl, kws_of (l := []) (by kernel_rfl) (by
    intro q hq
    cases hq), ?_⟩
  exact ⟨"joined", "joined", ag 52, bd 52, sc 52, _, _, ([("limits" : Str), ("other" : Str), ("found" : Str)] : List Str), ir_joined, 80, false, false, false, F, s_joined, irok_joined, rfl⟩
theorem f_is_up_to (X : K.In h) (G : h.Ns mainGlobals mg) (c : He.SaysD fa fn K) : DfFact K mg G0 dfs "is_up_to" ([("many" : Str), ("bound" : Str)] : List Str) 32 := by
  obtain ⟨fd, F⟩ := c.def_ 32 (d := d_is_up_to) rfl
  refine ⟨_, fd, He.glo_ok X G (c.fact 32 (f := .glo "is_up_to") rfl), F.kp, fun _ => bind_plain F fun _ _ _ _ _ _ us hl => match us, hl with | [_, _], _ => rfl, kws_of (l := []) (by kernel_rfl) (by
    intro q hq
    cases hq), ?_⟩
  exact ⟨"is_up_to", "is_up_to", ag 54, bd 54, sc 54, _, _, ([("many" : Str), ("bound" : Str)] : List Str), ir_is_up_to, 80, false, false, false, F, s_is_up_to, irok_is_up_to, rfl⟩
theorem f_loose_row_by (X : K.In h) (G : h.Ns mainGlobals mg) (c : He.SaysD fa fn K) : DfFact K mg G0 dfs "loose_row_by" ([("rules" : Str), ("other" : Str)] : List Str) 33 := by
  obtain ⟨fd, F⟩ := c.def_ 33 (d := d_loose_row_by) rfl
  refine ⟨_, fd, He.glo_ok X G (c.fact 33 (f := .glo "loose_row_by") rfl), F.kp, fun _ => bind_plain F fun _ _ _ _ _ _ us hl => match us, hl with | [_, _], _ => rfl, kws_of (l := []) (by kernel_rfl) (by
    intro q hq
    cases hq), ?_⟩
  exact ⟨"loose_row_by", "loose_row_by", ag 55, bd 55, sc 55, _, _, ([("rules" : Str), ("other" : Str), ("moment" : Str), ("hours" : Str), ("others" : Str), ("many" : Str), ("size" : Str)] : List Str), ir_loose_row_by, 80, false, false, false, F, s_loose_row_by, irok_loose_row_by, rfl⟩
theorem f_is_stricter_by (X : K.In h) (G : h.Ns mainGlobals mg) (c : He.SaysD fa fn K) : DfFact K mg G0 dfs "is_stricter_by" ([("limits" : Str), ("other" : Str)] : List Str) 34 := by
  obtain ⟨fd, F⟩ := c.def_ 34 (d := d_is_stricter_by) rfl
  refine ⟨_, fd, He.glo_ok X G (c.fact 34 (f := .glo "is_stricter_by") rfl), F.kp, fun _ => bind_plain F fun _ _ _ _ _ _ us hl => match us, hl with | [_, _], _ => rfl, kws_of (l := []) (by kernel_rfl) (by
    intro q hq
    cases hq), ?_⟩
  exact ⟨"is_stricter_by", "is_stricter_by", ag 56, bd 56, sc 56, _, _, ([("limits" : Str), ("other" : Str)] : List Str), ir_is_stricter_by, 80, false, false, false, F, s_is_stricter_by, irok_is_stricter_by, rfl⟩
theorem f_parting_row_by (X : K.In h) (G : h.Ns mainGlobals mg) (c : He.SaysD fa fn K) : DfFact K mg G0 dfs "parting_row_by" ([("rules" : Str), ("other" : Str)] : List Str) 35 := by
  obtain ⟨fd, F⟩ := c.def_ 35 (d := d_parting_row_by) rfl
  refine ⟨_, fd, He.glo_ok X G (c.fact 35 (f := .glo "parting_row_by") rfl), F.kp, fun _ => bind_plain F fun _ _ _ _ _ _ us hl => match us, hl with | [_, _], _ => rfl, kws_of (l := []) (by kernel_rfl) (by
    intro q hq
    cases hq), ?_⟩
  exact ⟨"parting_row_by", "parting_row_by", ag 57, bd 57, sc 57, _, _, ([("rules" : Str), ("other" : Str), ("found" : Str)] : List Str), ir_parting_row_by, 80, false, false, false, F, s_parting_row_by, irok_parting_row_by, rfl⟩
theorem f_are_alike_limits (X : K.In h) (G : h.Ns mainGlobals mg) (c : He.SaysD fa fn K) : DfFact K mg G0 dfs "are_alike_limits" ([("limits" : Str), ("other" : Str)] : List Str) 36 := by
  obtain ⟨fd, F⟩ := c.def_ 36 (d := d_are_alike_limits) rfl
  refine ⟨_, fd, He.glo_ok X G (c.fact 36 (f := .glo "are_alike_limits") rfl), F.kp, fun _ => bind_plain F fun _ _ _ _ _ _ us hl => match us, hl with | [_, _], _ => rfl, kws_of (l := []) (by kernel_rfl) (by
    intro q hq
    cases hq), ?_⟩
  exact ⟨"are_alike_limits", "are_alike_limits", ag 59, bd 59, sc 59, _, _, ([("limits" : Str), ("other" : Str)] : List Str), ir_are_alike_limits, 80, false, false, false, F, s_are_alike_limits, irok_are_alike_limits, rfl⟩
theorem f_are_alike_rules (X : K.In h) (G : h.Ns mainGlobals mg) (c : He.SaysD fa fn K) : DfFact K mg G0 dfs "are_alike_rules" ([("rules" : Str), ("other" : Str)] : List Str) 37 := by
  obtain ⟨fd, F⟩ := c.def_ 37 (d := d_are_alike_rules) rfl
  refine ⟨_, fd, He.glo_ok X G (c.fact 37 (f := .glo "are_alike_rules") rfl), F.kp, fun _ => bind_plain F fun _ _ _ _ _ _ us hl => match us, hl with | [_, _], _ => rfl, kws_of (l := []) (by kernel_rfl) (by
    intro q hq
    cases hq), ?_⟩
  exact ⟨"are_alike_rules", "are_alike_rules", ag 60, bd 60, sc 60, _, _, ([("rules" : Str), ("other" : Str)] : List Str), ir_are_alike_rules, 80, false, false, false, F, s_are_alike_rules, irok_are_alike_rules, rfl⟩
theorem f__law_well (X : K.In h) (G : h.Ns mainGlobals mg) (c : He.SaysD fa fn K) : DfFact K mg G0 dfs "_law_well" ([("_law_script" : Str), ("_law_turn" : Str)] : List Str) 38 := by
  obtain ⟨fd, F⟩ := c.def_ 38 (d := d__law_well) rfl
  refine ⟨_, fd, He.glo_ok X G (c.fact 38 (f := .glo "_law_well") rfl), F.kp, fun _ => bind_plain F fun _ _ _ _ _ _ us hl => match us, hl with | [_, _], _ => rfl, kws_of (l := []) (by kernel_rfl) (by
    intro q hq
    cases hq), ?_⟩
  exact ⟨"_law_well", "_law_well", ag 62, bd 62, sc 62, _, _, ([("_law_script" : Str), ("_law_turn" : Str), ("_law_mixed" : Str), ("_law_each" : Str), ("_law_cell" : Str), ("_law_digits" : Str)] : List Str), ir__law_well, 80, false, false, false, F, s__law_well, irok__law_well, rfl⟩
theorem f__law_pick (X : K.In h) (G : h.Ns mainGlobals mg) (c : He.SaysD fa fn K) : DfFact K mg G0 dfs "_law_pick" ([("_law_well_here" : Str), ("_law_top" : Str)] : List Str) 39 := by
  obtain ⟨fd, F⟩ := c.def_ 39 (d := d__law_pick) rfl
  refine ⟨_, fd, He.glo_ok X G (c.fact 39 (f := .glo "_law_pick") rfl), F.kp, fun _ => bind_plain F fun _ _ _ _ _ _ us hl => match us, hl with | [_, _], _ => rfl, kws_of (l := []) (by kernel_rfl) (by
    intro q hq
    cases hq), ?_⟩
  exact ⟨"_law_pick", "_law_pick", ag 63, bd 63, sc 63, _, _, ([("_law_well_here" : Str), ("_law_top" : Str), ("_law_digit" : Str)] : List Str), ir__law_pick, 80, false, false, false, F, s__law_pick, irok__law_pick, rfl⟩
theorem f__law_one (X : K.In h) (G : h.Ns mainGlobals mg) (c : He.SaysD fa fn K) : DfFact K mg G0 dfs "_law_one" ([("_law_well_here" : Str), ("_law_some" : Str)] : List Str) 40 := by
  obtain ⟨fd, F⟩ := c.def_ 40 (d := d__law_one) rfl
  refine ⟨_, fd, He.glo_ok X G (c.fact 40 (f := .glo "_law_one") rfl), F.kp, fun _ => bind_plain F fun _ _ _ _ _ _ us hl => match us, hl with | [_, _], _ => rfl, kws_of (l := []) (by kernel_rfl) (by
    intro q hq
    cases hq), ?_⟩
  exact ⟨"_law_one", "_law_one", ag 64, bd 64, sc 64, _, _, ([("_law_well_here" : Str), ("_law_some" : Str)] : List Str), ir__law_one, 80, false, false, false, F, s__law_one, irok__law_one, rfl⟩
theorem f__law_open (X : K.In h) (G : h.Ns mainGlobals mg) (c : He.SaysD fa fn K) : DfFact K mg G0 dfs "_law_open" ([("_law_clock" : Str), ("_law_time" : Str)] : List Str) 41 := by
  obtain ⟨fd, F⟩ := c.def_ 41 (d := d__law_open) rfl
  refine ⟨_, fd, He.glo_ok X G (c.fact 41 (f := .glo "_law_open") rfl), F.kp, fun _ => bind_plain F fun _ _ _ _ _ _ us hl => match us, hl with | [_, _], _ => rfl, kws_of (l := []) (by kernel_rfl) (by
    intro q hq
    cases hq), ?_⟩
  exact ⟨"_law_open", "_law_open", ag 65, bd 65, sc 65, _, _, ([("_law_clock" : Str), ("_law_time" : Str)] : List Str), ir__law_open, 80, false, false, false, F, s__law_open, irok__law_open, rfl⟩
theorem f__law_wrong_at (X : K.In h) (G : h.Ns mainGlobals mg) (c : He.SaysD fa fn K) : DfFact K mg G0 dfs "_law_wrong_at" ([("_law_pairs" : Str), ("_law_clock" : Str), ("_law_row" : Str)] : List Str) 42 := by
  obtain ⟨fd, F⟩ := c.def_ 42 (d := d__law_wrong_at) rfl
  refine ⟨_, fd, He.glo_ok X G (c.fact 42 (f := .glo "_law_wrong_at") rfl), F.kp, fun _ => bind_plain F fun _ _ _ _ _ _ us hl => match us, hl with | [_, _, _], _ => rfl, kws_of (l := []) (by kernel_rfl) (by
    intro q hq
    cases hq), ?_⟩
  exact ⟨"_law_wrong_at", "_law_wrong_at", ag 66, bd 66, sc 66, _, _, ([("_law_pairs" : Str), ("_law_clock" : Str), ("_law_row" : Str), ("_law_at" : Str), ("_law_time" : Str), ("_law_pair" : Str), ("_law_other" : Str)] : List Str), ir__law_wrong_at, 80, false, false, false, F, s__law_wrong_at, irok__law_wrong_at, rfl⟩
theorem f__law_soonest (X : K.In h) (G : h.Ns mainGlobals mg) (c : He.SaysD fa fn K) : DfFact K mg G0 dfs "_law_soonest" ([("_law_pairs" : Str), ("_law_clock" : Str), ("_law_row" : Str), ("_law_number" : Str), ("_law_start" : Str)] : List Str) 43 := by
  obtain ⟨fd, F⟩ := c.def_ 43 (d := d__law_soonest) rfl
  refine ⟨_, fd, He.glo_ok X G (c.fact 43 (f := .glo "_law_soonest") rfl), F.kp, fun _ => bind_plain F fun _ _ _ _ _ _ us hl => match us, hl with | [_, _, _, _, _], _ => rfl, kws_of (l := []) (by kernel_rfl) (by
    intro q hq
    cases hq), ?_⟩
  exact ⟨"_law_soonest", "_law_soonest", ag 67, bd 67, sc 67, _, _, ([("_law_pairs" : Str), ("_law_clock" : Str), ("_law_row" : Str), ("_law_number" : Str), ("_law_start" : Str), ("_law_line" : Str), ("_law_turn" : Str), ("_law_time" : Str), ("_law_pair" : Str), ("_law_step" : Str)] : List Str), ir__law_soonest, 80, false, false, true, F, s__law_soonest, irok__law_soonest, rfl⟩
theorem f__law_some_limits (X : K.In h) (G : h.Ns mainGlobals mg) (c : He.SaysD fa fn K) : DfFact K mg G0 dfs "_law_some_limits" ([("_law_well_here" : Str), ("_law_top" : Str), ("_law_width" : Str)] : List Str) 44 := by
  obtain ⟨fd, F⟩ := c.def_ 44 (d := d__law_some_limits) rfl
  refine ⟨_, fd, He.glo_ok X G (c.fact 44 (f := .glo "_law_some_limits") rfl), F.kp, fun _ => bind_plain F fun _ _ _ _ _ _ us hl => match us, hl with | [_, _, _], _ => rfl, kws_of (l := []) (by kernel_rfl) (by
    intro q hq
    cases hq), ?_⟩
  exact ⟨"_law_some_limits", "_law_some_limits", ag 68, bd 68, sc 68, _, _, ([("_law_well_here" : Str), ("_law_top" : Str), ("_law_width" : Str), ("_law_number" : Str), ("_law_turn" : Str)] : List Str), ir__law_some_limits, 80, false, false, false, F, s__law_some_limits, irok__law_some_limits, rfl⟩
theorem f__law_some_hours (X : K.In h) (G : h.Ns mainGlobals mg) (c : He.SaysD fa fn K) : DfFact K mg G0 dfs "_law_some_hours" ([("_law_well_here" : Str), ("_law_top" : Str)] : List Str) 45 := by
  obtain ⟨fd, F⟩ := c.def_ 45 (d := d__law_some_hours) rfl
  refine ⟨_, fd, He.glo_ok X G (c.fact 45 (f := .glo "_law_some_hours") rfl), F.kp, fun _ => bind_plain F fun _ _ _ _ _ _ us hl => match us, hl with | [_, _], _ => rfl, kws_of (l := []) (by kernel_rfl) (by
    intro q hq
    cases hq), ?_⟩
  exact ⟨"_law_some_hours", "_law_some_hours", ag 69, bd 69, sc 69, _, _, ([("_law_well_here" : Str), ("_law_top" : Str), ("_law_row" : Str), ("_law_turn" : Str)] : List Str), ir__law_some_hours, 80, false, false, false, F, s__law_some_hours, irok__law_some_hours, rfl⟩
theorem f__law_some_row (X : K.In h) (G : h.Ns mainGlobals mg) (c : He.SaysD fa fn K) : DfFact K mg G0 dfs "_law_some_row" ([("_law_well_here" : Str), ("_law_pairs" : Str), ("_law_clock" : Str), ("_law_number" : Str), ("_law_top" : Str)] : List Str) 46 := by
  obtain ⟨fd, F⟩ := c.def_ 46 (d := d__law_some_row) rfl
  refine ⟨_, fd, He.glo_ok X G (c.fact 46 (f := .glo "_law_some_row") rfl), F.kp, fun _ => bind_plain F fun _ _ _ _ _ _ us hl => match us, hl with | [_, _, _, _, _], _ => rfl, kws_of (l := []) (by kernel_rfl) (by
    intro q hq
    cases hq), ?_⟩
  exact ⟨"_law_some_row", "_law_some_row", ag 70, bd 70, sc 70, _, _, ([("_law_well_here" : Str), ("_law_pairs" : Str), ("_law_clock" : Str), ("_law_number" : Str), ("_law_top" : Str), ("_law_line" : Str), ("_law_turn" : Str), ("_law_ahead" : Str)] : List Str), ir__law_some_row, 80, false, false, false, F, s__law_some_row, irok__law_some_row, rfl⟩
theorem f__law_seven (X : K.In h) (G : h.Ns mainGlobals mg) (c : He.SaysD fa fn K) : DfFact K mg G0 dfs "_law_seven" ([("_law_pairs" : Str)] : List Str) 47 := by
  obtain ⟨fd, F⟩ := c.def_ 47 (d := d__law_seven) rfl
  refine ⟨_, fd, He.glo_ok X G (c.fact 47 (f := .glo "_law_seven") rfl), F.kp, fun _ => bind_plain F fun _ _ _ _ _ _ us hl => match us, hl with | [_], _ => rfl, kws_of (l := []) (by kernel_rfl) (by
    intro q hq
    cases hq), ?_⟩
  exact ⟨"_law_seven", "_law_seven", ag 71, bd 71, sc 71, _, _, ([("_law_pairs" : Str)] : List Str), ir__law_seven, 80, false, false, false, F, s__law_seven, irok__law_seven, rfl⟩
theorem f__law_tidy (X : K.In h) (G : h.Ns mainGlobals mg) (c : He.SaysD fa fn K) : DfFact K mg G0 dfs "_law_tidy" ([("_law_pairs" : Str)] : List Str) 48 := by
  obtain ⟨fd, F⟩ := c.def_ 48 (d := d__law_tidy) rfl
  refine ⟨_, fd, He.glo_ok X G (c.fact 48 (f := .glo "_law_tidy") rfl), F.kp, fun _ => bind_plain F fun _ _ _ _ _ _ us hl => match us, hl with | [_], _ => rfl, kws_of (l := []) (by kernel_rfl) (by
    intro q hq
    cases hq), ?_⟩
  exact ⟨"_law_tidy", "_law_tidy", ag 72, bd 72, sc 72, _, _, ([("_law_pairs" : Str), ("_law_k" : Str), ("_law_found" : Str), ("_law_seven_here" : Str)] : List Str), ir__law_tidy, 80, false, false, false, F, s__law_tidy, irok__law_tidy, rfl⟩
theorem f__law_other_limits (X : K.In h) (G : h.Ns mainGlobals mg) (c : He.SaysD fa fn K) : DfFact K mg G0 dfs "_law_other_limits" ([("_law_well_here" : Str), ("_law_pairs" : Str)] : List Str) 49 := by
  obtain ⟨fd, F⟩ := c.def_ 49 (d := d__law_other_limits) rfl
  refine ⟨_, fd, He.glo_ok X G (c.fact 49 (f := .glo "_law_other_limits") rfl), F.kp, fun _ => bind_plain F fun _ _ _ _ _ _ us hl => match us, hl with | [_, _], _ => rfl, kws_of (l := []) (by kernel_rfl) (by
    intro q hq
    cases hq), ?_⟩
  exact ⟨"_law_other_limits", "_law_other_limits", ag 73, bd 73, sc 73, _, _, ([("_law_well_here" : Str), ("_law_pairs" : Str), ("_law_way" : Str), ("_law_at" : Str), ("_law_seven_here" : Str), ("_law_k" : Str), ("_law_first" : Str), ("_law_wide" : Str)] : List Str), ir__law_other_limits, 80, false, false, false, F, s__law_other_limits, irok__law_other_limits, rfl⟩
theorem f__law_rows (X : K.In h) (G : h.Ns mainGlobals mg) (c : He.SaysD fa fn K) : DfFact K mg G0 dfs "_law_rows" ([("_law_well_here" : Str), ("_law_pairs" : Str), ("_law_other" : Str)] : List Str) 50 := by
  obtain ⟨fd, F⟩ := c.def_ 50 (d := d__law_rows) rfl
  refine ⟨_, fd, He.glo_ok X G (c.fact 50 (f := .glo "_law_rows") rfl), F.kp, fun _ => bind_plain F fun _ _ _ _ _ _ us hl => match us, hl with | [_, _, _], _ => rfl, kws_of (l := []) (by kernel_rfl) (by
    intro q hq
    cases hq), ?_⟩
  exact ⟨"_law_rows", "_law_rows", ag 74, bd 74, sc 74, _, _, ([("_law_well_here" : Str), ("_law_pairs" : Str), ("_law_other" : Str), ("_law_listed" : Str), ("_law_turn" : Str), ("_law_row" : Str), ("_law_at" : Str)] : List Str), ir__law_rows, 80, false, false, false, F, s__law_rows, irok__law_rows, rfl⟩
theorem f__law_joined (X : K.In h) (G : h.Ns mainGlobals mg) (c : He.SaysD fa fn K) : DfFact K mg G0 dfs "_law_joined" ([("_law_pairs" : Str), ("_law_other" : Str)] : List Str) 51 := by
  obtain ⟨fd, F⟩ := c.def_ 51 (d := d__law_joined) rfl
  refine ⟨_, fd, He.glo_ok X G (c.fact 51 (f := .glo "_law_joined") rfl), F.kp, fun _ => bind_plain F fun _ _ _ _ _ _ us hl => match us, hl with | [_, _], _ => rfl, kws_of (l := []) (by kernel_rfl) (by
    intro q hq
    cases hq), ?_⟩
  exact ⟨"_law_joined", "_law_joined", ag 75, bd 75, sc 75, _, _, ([("_law_pairs" : Str), ("_law_other" : Str)] : List Str), ir__law_joined, 80, false, false, false, F, s__law_joined, irok__law_joined, rfl⟩
theorem f__law_hours_right (X : K.In h) (G : h.Ns mainGlobals mg) (c : He.SaysD fa fn K) : DfFact K mg G0 dfs "_law_hours_right" ([("_law_well_here" : Str)] : List Str) 52 := by
  obtain ⟨fd, F⟩ := c.def_ 52 (d := d__law_hours_right) rfl
  refine ⟨_, fd, He.glo_ok X G (c.fact 52 (f := .glo "_law_hours_right") rfl), F.kp, fun _ => bind_plain F fun _ _ _ _ _ _ us hl => match us, hl with | [_], _ => rfl, kws_of (l := []) (by kernel_rfl) (by
    intro q hq
    cases hq), ?_⟩
  exact ⟨"_law_hours_right", "_law_hours_right", ag 76, bd 76, sc 76, _, _, ([("_law_well_here" : Str), ("_law_clock" : Str), ("_law_fit" : Str), ("_law_size" : Str), ("_law_time" : Str)] : List Str), ir__law_hours_right, 80, false, false, false, F, s__law_hours_right, irok__law_hours_right, rfl⟩
theorem f__law_ladder_right (X : K.In h) (G : h.Ns mainGlobals mg) (c : He.SaysD fa fn K) : DfFact K mg G0 dfs "_law_ladder_right" ([("_law_well_here" : Str)] : List Str) 53 := by
  obtain ⟨fd, F⟩ := c.def_ 53 (d := d__law_ladder_right) rfl
  refine ⟨_, fd, He.glo_ok X G (c.fact 53 (f := .glo "_law_ladder_right") rfl), F.kp, fun _ => bind_plain F fun _ _ _ _ _ _ us hl => match us, hl with | [_], _ => rfl, kws_of (l := []) (by kernel_rfl) (by
    intro q hq
    cases hq), ?_⟩
  exact ⟨"_law_ladder_right", "_law_ladder_right", ag 77, bd 77, sc 77, _, _, ([("_law_well_here" : Str), ("_law_ladder" : Str), ("_law_due" : Str), ("_law_at" : Str), ("_law_size" : Str), ("_law_one_here" : Str), ("_law_other" : Str), ("_law_k" : Str), ("_law_wide" : Str)] : List Str), ir__law_ladder_right, 80, false, false, false, F, s__law_ladder_right, irok__law_ladder_right, rfl⟩
theorem f__law_right (X : K.In h) (G : h.Ns mainGlobals mg) (c : He.SaysD fa fn K) : DfFact K mg G0 dfs "_law_right" ([("_law_well_here" : Str)] : List Str) 54 := by
  obtain ⟨fd, F⟩ := c.def_ 54 (d := d__law_right) rfl
  refine ⟨_, fd, He.glo_ok X G (c.fact 54 (f := .glo "_law_right") rfl), F.kp, fun _ => bind_plain F fun _ _ _ _ _ _ us hl => match us, hl with | [_], _ => rfl, kws_of (l := []) (by kernel_rfl) (by
    intro q hq
    cases hq), ?_⟩
  exact ⟨"_law_right", "_law_right", ag 78, bd 78, sc 78, _, _, ([("_law_well_here" : Str), ("_law_pairs" : Str), ("_law_other" : Str), ("_law_is_alike" : Str), ("_law_answers" : Str), ("_law_both" : Str), ("_law_row" : Str), ("_law_told" : Str), ("_law_due" : Str), ("_law_shared" : Str), ("_law_crews" : Str), ("_law_truths" : Str), ("_law_each" : Str)] : List Str), ir__law_right, 80, false, false, false, F, s__law_right, irok__law_right, rfl⟩
theorem f_law (X : K.In h) (G : h.Ns mainGlobals mg) (c : He.SaysD fa fn K) : DfFact K mg G0 dfs "law" ([("_law_script" : Str)] : List Str) 55 := by
  obtain ⟨fd, F⟩ := c.def_ 55 (d := d_law) rfl
  refine ⟨_, fd, He.glo_ok X G (c.fact 55 (f := .glo "law") rfl), F.kp, fun _ => bind_plain F fun _ _ _ _ _ _ us hl => match us, hl with | [_], _ => rfl, kws_of (l := []) (by kernel_rfl) (by
    intro q hq
    cases hq), ?_⟩
  exact ⟨"law", "law", ag 79, bd 79, sc 79, _, _, ([("_law_script" : Str), ("_law_turn" : Str)] : List Str), ir_law, 80, false, false, false, F, s_law, irok_law, rfl⟩
theorem wok (X : K.In h) (G : h.Ns mainGlobals mg) (cz : Vm.SaysZ fa fn tz xz K) : WOk K mg G0 dfs := by
  have c := cz.d
  refine wok_of K mg G0 dfs ?_ ?_ ?_ (xz_ok X G cz.x)
  · exact ⟨f_is_whole X G c, f_is_between X G c, f_is_from X G c, f_is_tuple_up_to X G c, f_is_limit X G c, f_are_limits X G c, f_are_hours X G c, f_is_rules_pair X G c, f_is_open_at X G c, f_is_crowded X G c, f_first_wrong_by X G c, f_is_polite_by X G c, f_next_ask X G c, f_soonest_by X G c, f_most_from_by X G c, f_most_by X G c, f_tidied_by X G c, f_tidied_hours_by X G c, f_check_number X G c, f_check_moment X G c, f_check_limits X G c, f_check_hours X G c, f_are_some_rules X G c, f_check_rules X G c, f_check_asks X G c, f_check_polite X G c, f_is_polite X G c, f_soonest X G c, f_most_table X G c, f_tidied X G c, f_tidied_hours X G c, f_joined X G c, f_is_up_to X G c, f_loose_row_by X G c, f_is_stricter_by X G c, f_parting_row_by X G c, f_are_alike_limits X G c, f_are_alike_rules X G c, f__law_well X G c, f__law_pick X G c, f__law_one X G c, f__law_open X G c, f__law_wrong_at X G c, f__law_soonest X G c, f__law_some_limits X G c, f__law_some_hours X G c, f__law_some_row X G c, f__law_seven X G c, f__law_tidy X G c, f__law_other_limits X G c, f__law_rows X G c, f__law_joined X G c, f__law_hours_right X G c, f__law_ladder_right X G c, f__law_right X G c, f_law X G c, trivial⟩
  · exact ⟨cs_int X G (c.fact 56 (f := .int "MOST_LIMITS" 4) rfl), cs_int X G (c.fact 57 (f := .int "MOST_ASKS" 6) rfl), cs_int X G (c.fact 58 (f := .int "MOST_MOMENTS" 12) rfl), cs_int X G (c.fact 59 (f := .int "MOST_HOURS" 12) rfl), cs_tup X G (cz.t 0 rfl), cs_int X G (c.fact 60 (f := .int "MOST_ROW" 200) rfl), cs_int X G (c.fact 61 (f := .int "MOST_WINDOW" 100) rfl), trivial⟩
  · exact ⟨He.free_ok X G (c.fact 62 (f := .free "ValueError") rfl), He.free_ok X G (c.fact 63 (f := .free "abs") rfl), He.free_ok X G (c.fact 64 (f := .free "all") rfl), He.free_ok X G (c.fact 65 (f := .free "any") rfl), He.free_ok X G (c.fact 66 (f := .free "bool") rfl), He.free_ok X G (c.fact 67 (f := .free "divmod") rfl), He.free_ok X G (c.fact 68 (f := .free "enumerate") rfl), He.free_ok X G (c.fact 69 (f := .free "int") rfl), He.free_ok X G (c.fact 70 (f := .free "isinstance") rfl), He.free_ok X G (c.fact 71 (f := .free "len") rfl), He.free_ok X G (c.fact 72 (f := .free "list") rfl), He.free_ok X G (c.fact 73 (f := .free "max") rfl), He.free_ok X G (c.fact 74 (f := .free "min") rfl), He.free_ok X G (c.fact 75 (f := .free "range") rfl), He.free_ok X G (c.fact 76 (f := .free "repr") rfl), He.free_ok X G (c.fact 77 (f := .free "sorted") rfl), He.free_ok X G (c.fact 78 (f := .free "tuple") rfl), trivial⟩
end
theorem facts {P : Program} {w : World} {K : PySem.W.Frag} {h : Heap} {mg : Str → Option Value} {f : Addr} (X : K.In h) (G : h.Ns mainGlobals mg) (hfa : mg ("law" : Str) = some (.ref f)) (cz : Vm.SaysZ fa fn tz xz K) :
    ∃ fd : FuncData, (∀ (s : Shared) (u : Value), BindsTo s fd ⟨[u], []⟩ [(("_law_script" : Str), u)]) ∧ ∀ base : Heap, K.In base → base.Ns mainGlobals mg → FnG P w K mg base 11 f fd ["_law_script"] (spG K mg 1 (runD dfs 11 55)) := by
  obtain ⟨f2, fd, e1, kp, hb, _, D⟩ := f_law X G cz.d
  have e := hfa.symm.trans e1
  cases e
  exact ⟨fd, fun s u => .of_eq (hb (by decide +kernel) [u] rfl), fun base _ _ => fn_all (wok X G cz) 11 55 f fd ["_law_script"] D⟩
end T
open PySem PySem.W PySem.Calls PyProof.Rows
theorem PySem.Challenge.cw_gentlerounds_k14_whole_tidied_limits_let_holds : PySem.Challenge.rw_gentlerounds_k14_whole_tidied_limits_let.Holds := by
  w_on; o_law
  refine HandSHeadRun.head_imp (r := OpenLaw.row PySem.Challenge.rw_gentlerounds_k14_whole_tidied_limits_let) (q := view (OpenLaw.row PySem.Challenge.rw_gentlerounds_k14_whole_tidied_limits_let).prog [0, 79]) (H := T.hk) (ob := T.ob) (M := 8095) (loose := T.names0 ++ T.names1) (d := HandSHeadRun.topDef (OpenLaw.row PySem.Challenge.rw_gentlerounds_k14_whole_tidied_limits_let).prog 79) (kwd := []) T.ob_eq
    T.run (by kernel_rfl) (by kernel_rfl) (by kernel_rfl) (by rfl) (by first | assumption | decide +kernel) (by decide +kernel) ⟨rfl, rfl, rfl, rfl, rfl, by decide +kernel⟩ ?hw ?hc
  case hw => w_witness2
  case hc =>
    refine Vm.walk_G (l := PySem.Challenge.rw_gentlerounds_k14_whole_tidied_limits_let) (n := 63) (k := 11) (g := 55) (x := "_law_script") (defs := T.dfs) rfl (by decide) (by kernel_rfl) ⟨rfl, by decide, by decide⟩ ?F (fun ns hl => T.r_law 0 ns hl)
    intro w mg fa h Y G hmg0
    obtain ⟨K, KX, c⟩ := Y
    have hmg : mg ("law" : PySem.Str) = some (.ref fa) := by
      have e : (HandSHeadRun.topDef (OpenLaw.row PySem.Challenge.rw_gentlerounds_k14_whole_tidied_limits_let).prog 79).name = ("law" : PySem.Str) := by kernel_rfl
      rw [← e]
      exact hmg0
    obtain ⟨fd, hb, hF⟩ := T.facts (P := (PySem.Challenge.rw_gentlerounds_k14_whole_tidied_limits_let).prog) (w := w) KX G hmg c
    exact ⟨K, fd, KX, hb, hF⟩
