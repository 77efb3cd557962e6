import PyProof.Rows.All
import Wide.All
import OpenK.AllK
import Wide.FinOn
import KE.KStateDown
import HandS.ForSpec
import HandS.ForMost
import HandS.More
import HandS.Words
import HandS.WordsExc
import HandS.Defaults
import HandS.Flow
import HandS.Style
import HandS.TupAny
import HandS.TupMul
import HandS.SortInts
import HandS.SortOrd
import HandS.StrMore
import HandS.IsInst
import HandS.Deep
import HandS.Wide
import HandS.WideBits
import HandS.Head0
import HandS.Head1
import HandS.Head2
import HandS.HeadEnd
import HandS.HeadHook1
import HandS.HeadHook2
import KE.SortData
import PyProof.Rows.IntBool
import PyProof.TupleOfSeq
import KE.KTupSum
import HandS.Zip
import KE.GoesMore
import KE.GoesEnum
import KE.KIndexOf
import KE.Datum
import HandS.Star
import KE.DataMinMax
import HandS.SortKw
import ObjForm.LawKit
import KE.KMathGC
import HandS.Small
import HandS.TryOnly
import HandS.ExcOwn
import HandS.ReplaceLit
import HandS.Codes
import HandS.ReplaceList
import PyProof.Rows.StrCountLaw
import HandS.MakeKwOnly
import PySem.Challenge.RW_gentlerounds_k04_whole_places_tell_how_t
set_option Elab.async false
set_option linter.all false
set_option maxRecDepth 100000
set_option maxHeartbeats 1000000
namespace Vm
open PySem PySem.Spec PyProof.Rows L2
abbrev D := PyData
abbrev bmVE : List Value := [.type "ValueError", .type "Exception", .type "BaseException", .type "object"]
/-! ### constants of a law's top that are tuples of scalars -/
def svD : D → V
  | .bool b => .bl b
  | .int i => .int i
  | .str s => .str s
  | _ => .non
def isS : D → Bool
  | .none => true
  | .bool _ => true
  | .int _ => true
  | .str _ => true
  | _ => false
def okA : List D → List Value → Bool
  | [], [] => true
  | d :: ds, u :: us => isS d && (He.relB (svD d) u && okA ds us)
  | _, _ => false
def okT (K : PySem.W.Frag) (ds : List D) : Value → Bool
  | .ref a => (match K.lookup a with
    | some ⟨.type c, _, .seq its _, _⟩ => decide (c = "tuple") && (decide (its.size ≤ sizeLine) && okA ds its.toList)
    | _ => false)
  | _ => false
def tupB (K : PySem.W.Frag) (x : Str) (ds : List D) : Bool := match PySem.W.nsIn K mainGlobals x with
  | some (some u) => okT K ds u
  | _ => false
/-! ### exception classes -/
def excB (K : PySem.W.Frag) (x : Str) : Bool := match PySem.W.nsIn K mainGlobals x with
  | some (some (.ref C)) => PySem.W.excIn K C bmVE "ValueError.__new__" && (PySem.W.keepIn K (.ref C) && ((match PySem.W.subIn K (.ref C) (.type "BaseException") with
      | some b => b
      | none => false) && (match PySem.W.typeIn K (.ref C) with
      | some (.type t) => decide (t = "type")
      | _ => false)))
  | _ => false
def mtB (K : PySem.W.Frag) (D : Value) (b : Bool) (x : Str) : Bool := match PySem.W.nsIn K mainGlobals x with
  | some (some (.ref C)) => (match PySem.W.exmOne K (.ref C) D with
      | some b' => b' == b
      | none => false)
  | _ => false
abbrev Xz : Type := List Str × List Str × List (Str × Str) × Bool
def lcB (K : PySem.W.Frag) : Bool := match PySem.W.nsIn K mainGlobals "lcm" with
  | some (some (.builtin b)) => b == "math.lcm"
  | _ => false
def xmt (xm : List (Str × Str)) (x : Str) : List Str := (xm.filter fun q => decide (q.2 = x)).map (·.1)
def catB (K : PySem.W.Frag) (z : Xz) (c : Str) : Bool := match PySem.W.nsIn K mainGlobals c with
  | some (some (.ref D)) => z.1.all fun y => mtB K (.ref D) ((xmt z.2.2.1 c).contains y) y
  | _ => false
def xzB (K : PySem.W.Frag) (z : Xz) : Bool := z.1.all (excB K) && (z.2.1.all (catB K z) && (!z.2.2.2 || lcB K))
/-! ### the Hook, with such constants -/
abbrev Tz : Type := List (Str × List D)
def obsZ (fa : List He.Fa) (fn : List He.DefD) (ts : Tz) (xz : Xz) (K : PySem.W.Frag) : He.AlD × Bool := (He.obsD fa fn K, (ts.all fun t => tupB K t.1 t.2) && xzB K xz)
def obsZG (n : Nat) (fa : List He.Fa) (fn : List He.DefD) (ts : Tz) (xz : Xz) (g : Addr → Option Obj) : He.AlD × Bool := obsZ fa fn ts xz (He.frG g (He.asD g n))
def SaysZ (fa : List He.Fa) (fn : List He.DefD) (ts : Tz) (xz : Xz) (K : PySem.W.Frag) : Prop := obsZ fa fn ts xz K = (He.valD fn, true)
def hookZ (n : Nat) (fa : List He.Fa) (fn : List He.DefD) (ts : Tz) (xz : Xz) : PySem.W.Hook where
  α := He.AlD × Bool
  obs := fun s => obsZG n fa fn ts xz s.heap.get?
  val := fun _ => (He.valD fn, true)
  says := fun _ h => ∃ K : PySem.W.Frag, K.In h ∧ SaysZ fa fn ts xz K
  of := fun _ _ e => ⟨_, He.frG_in, e⟩
  keeps := fun _ _ _ ⟨K, hK, c⟩ k => ⟨K, PySem.W.Frag.In.keeps hK k, c⟩
theorem obsZG_eq {n : Nat} {fa : List He.Fa} {fn : List He.DefD} {ts : Tz} {xz : Xz} {g : Addr → Option Obj} {s : Shared} (h : ∀ a, g a = s.heap.get? a) : obsZG n fa fn ts xz g = (hookZ n fa fn ts xz).obs s := by
  have e : g = s.heap.get? := funext h
  rw [e] <;> rfl
theorem SaysZ.d {fa : List He.Fa} {fn : List He.DefD} {ts : Tz} {xz : Xz} {K : PySem.W.Frag} (c : SaysZ fa fn ts xz K) : He.SaysD fa fn K := congrArg (fun z : He.AlD × Bool => z.1) c
theorem SaysZ.t {fa : List He.Fa} {fn : List He.DefD} {ts : Tz} {xz : Xz} {K : PySem.W.Frag} (c : SaysZ fa fn ts xz K) (i : Nat) {t : Str × List D} (h : ts[i]? = some t := by rfl) : tupB K t.1 t.2 = true := by
  have c1 : ((ts.all fun t => tupB K t.1 t.2) && xzB K xz) = true := congrArg (fun z : He.AlD × Bool => z.2) c
  exact List.all_eq_true.mp (He.ba c1).1 t (List.mem_of_getElem? h)
theorem SaysZ.x {fa : List He.Fa} {fn : List He.DefD} {ts : Tz} {xz : Xz} {K : PySem.W.Frag} (c : SaysZ fa fn ts xz K) : xzB K xz = true := by
  have c1 : ((ts.all fun t => tupB K t.1 t.2) && xzB K xz) = true := congrArg (fun z : He.AlD × Bool => z.2) c
  exact (He.ba c1).2
end Vm
set_option maxRecDepth 100000
set_option maxHeartbeats 0
namespace T
open PySem PySem.Spec PyProof.Rows L2 Vm
def top (i : Nat) : Stmt := PySem.Challenge.pw_gentlerounds_k04_whole_places_tell_how_t.main.body.getD i (.Pass ⟨0, 0, 0, 0⟩)
def bd (i : Nat) : List Stmt := match top i with
  | .FunctionDef _ _ b _ _ _ _ _ _ _ => b
  | _ => []
def sc (i : Nat) : Scope := match top i with
  | .FunctionDef _ _ _ _ _ _ s _ _ _ => s
  | _ => ⟨.module, [], false, false, []⟩
def ag (i : Nat) : Arguments := match top i with
  | .FunctionDef _ a _ _ _ _ _ _ _ _ => a
  | _ => ⟨[], [], none, [], [], none, []⟩
def d_is_path : He.DefD := ⟨("is_path", none), "is_path", "is_path", ag 6, bd 6, sc 6, [], []⟩
def d_check_path : He.DefD := ⟨("check_path", none), "check_path", "check_path", ag 8, bd 8, sc 8, [], []⟩
def d_is_some_pattern : He.DefD := ⟨("is_some_pattern", none), "is_some_pattern", "is_some_pattern", ag 11, bd 11, sc 11, [], []⟩
def d_body_by : He.DefD := ⟨("body_by", none), "body_by", "body_by", ag 12, bd 12, sc 12, [], []⟩
def d_closed_places : He.DefD := ⟨("closed_places", none), "closed_places", "closed_places", ag 13, bd 13, sc 13, [], []⟩
def d_first_places : He.DefD := ⟨("first_places", none), "first_places", "first_places", ag 14, bd 14, sc 14, [], []⟩
def d_led_places : He.DefD := ⟨("led_places", none), "led_places", "led_places", ag 15, bd 15, sc 15, [], []⟩
def d_places_by : He.DefD := ⟨("places_by", none), "places_by", "places_by", ag 16, bd 16, sc 16, [], []⟩
def d_does_meet : He.DefD := ⟨("does_meet", none), "does_meet", "does_meet", ag 17, bd 17, sc 17, [], []⟩
def d_check_pattern : He.DefD := ⟨("check_pattern", none), "check_pattern", "check_pattern", ag 19, bd 19, sc 19, [], []⟩
def d_places : He.DefD := ⟨("places", none), "places", "places", ag 20, bd 20, sc 20, [], []⟩
def d_next_places : He.DefD := ⟨("next_places", none), "next_places", "next_places", ag 21, bd 21, sc 21, [], []⟩
def d_meets : He.DefD := ⟨("meets", none), "meets", "meets", ag 22, bd 22, sc 22, [], []⟩
def d__law_well : He.DefD := ⟨("_law_well", none), "_law_well", "_law_well", ag 24, bd 24, sc 24, [], []⟩
def d__law_pick : He.DefD := ⟨("_law_pick", none), "_law_pick", "_law_pick", ag 25, bd 25, sc 25, [], []⟩
def d__law_one : He.DefD := ⟨("_law_one", none), "_law_one", "_law_one", ag 26, bd 26, sc 26, [], []⟩
def d__law_signs : He.DefD := ⟨("_law_signs", none), "_law_signs", "_law_signs", ag 27, bd 27, sc 27, [], []⟩
def d__law_alphabet : He.DefD := ⟨("_law_alphabet", none), "_law_alphabet", "_law_alphabet", ag 28, bd 28, sc 28, [], []⟩
def d__law_body : He.DefD := ⟨("_law_body", none), "_law_body", "_law_body", ag 29, bd 29, sc 29, [], []⟩
def d__law_fits : He.DefD := ⟨("_law_fits", none), "_law_fits", "_law_fits", ag 30, bd 30, sc 30, [], []⟩
def d__law_some_pattern : He.DefD := ⟨("_law_some_pattern", none), "_law_some_pattern", "_law_some_pattern", ag 31, bd 31, sc 31, [], []⟩
def d__law_some_path : He.DefD := ⟨("_law_some_path", none), "_law_some_path", "_law_some_path", ag 32, bd 32, sc 32, [], []⟩
def d__law_due_places : He.DefD := ⟨("_law_due_places", none), "_law_due_places", "_law_due_places", ag 33, bd 33, sc 33, [], []⟩
def d__law_walk_right : He.DefD := ⟨("_law_walk_right", none), "_law_walk_right", "_law_walk_right", ag 34, bd 34, sc 34, [], []⟩
def d__law_right : He.DefD := ⟨("_law_right", none), "_law_right", "_law_right", ag 35, bd 35, sc 35, [], []⟩
def d_law : He.DefD := ⟨("law", none), "law", "law", ag 36, bd 36, sc 36, [], []⟩
def fn : List He.DefD := [d_is_path, d_check_path, d_is_some_pattern, d_body_by, d_closed_places, d_first_places, d_led_places, d_places_by, d_does_meet, d_check_pattern, d_places, d_next_places, d_meets, d__law_well, d__law_pick, d__law_one, d__law_signs, d__law_alphabet, d__law_body, d__law_fits, d__law_some_pattern, d__law_some_path, d__law_due_places, d__law_walk_right, d__law_right, d_law]
def fa : List He.Fa := [.glo "is_path", .glo "check_path", .glo "is_some_pattern", .glo "body_by", .glo "closed_places", .glo "first_places", .glo "led_places", .glo "places_by", .glo "does_meet", .glo "check_pattern", .glo "places", .glo "next_places", .glo "meets", .glo "_law_well", .glo "_law_pick", .glo "_law_one", .glo "_law_signs", .glo "_law_alphabet", .glo "_law_body", .glo "_law_fits", .glo "_law_some_pattern", .glo "_law_some_path", .glo "_law_due_places", .glo "_law_walk_right", .glo "_law_right", .glo "law", .str "SIGNS" "-./0123456789_abcdefghijklmnopqrstuvwxyz", .int "MOST_SIGNS" 12, .free "ValueError", .free "abs", .free "all", .free "divmod", .free "enumerate", .free "int", .free "isinstance", .free "len", .free "max", .free "min", .free "range", .free "repr", .free "sorted", .free "str", .free "tuple"]
def names0 : List PySem.Str := [("CrawlError" : PySem.Str), ("InvalidPath" : PySem.Str), ("InvalidPattern" : PySem.Str), ("SIGNS" : PySem.Str), ("is_path" : PySem.Str), ("check_path" : PySem.Str), ("MOST_SIGNS" : PySem.Str), ("is_some_pattern" : PySem.Str), ("body_by" : PySem.Str), ("closed_places" : PySem.Str), ("first_places" : PySem.Str), ("led_places" : PySem.Str), ("places_by" : PySem.Str), ("does_meet" : PySem.Str), ("check_pattern" : PySem.Str), ("places" : PySem.Str), ("next_places" : PySem.Str), ("meets" : PySem.Str), ("_law_well" : PySem.Str), ("_law_pick" : PySem.Str), ("_law_one" : PySem.Str), ("_law_signs" : PySem.Str), ("_law_alphabet" : PySem.Str), ("_law_body" : PySem.Str), ("_law_fits" : PySem.Str), ("_law_some_pattern" : PySem.Str), ("_law_some_path" : PySem.Str), ("_law_due_places" : PySem.Str), ("_law_walk_right" : PySem.Str), ("_law_right" : PySem.Str)]
def xz : Vm.Xz := (([] : List Str), ([] : List Str), [], false)
def tz : Vm.Tz := []
abbrev R : PySem.W.OpenRow := PySem.W.OpenLaw.row PySem.Challenge.rw_gentlerounds_k04_whole_places_tell_how_t
abbrev hk : PySem.W.Hook := Vm.hookZ 2 fa fn tz xz
def ob (s : PySem.W.SharedT) : He.AlD × Bool := Vm.obsZG 2 fa fn tz xz (HandSHeadRun.getT s)
theorem ob_eq (s : PySem.W.SharedT) : ob s = hk.obs s.abs := Vm.obsZG_eq (HandSHeadRun.getT_eq s)
theorem run (w : World) : HandSHeadRun.RunEq R (PySem.W.view R.prog [36]) hk ob 4227 (names0) w := by
  intro os
  kernel_rfl
end T
set_option maxRecDepth 100000
set_option maxHeartbeats 4000000
namespace Vm
open PySem PySem.Spec PyProof.Rows L2
/-! ### data and what stands for it -/
def kD : Key → D
  | .inl i => .int i
  | .inr x => .str x
section
variable (K : PySem.W.Frag) (L : Addr → Prop) (H : Hp)
def KL (a : Addr) (vs : List V) : Prop := ∃ (its : List Value) (n : Nat), K.lookup a = some { cls := .type "list", data := .seq its.toArray n } ∧ its.length ≤ sizeLine ∧ Vals vs its
def SL (a : Addr) (vs : List V) : Prop := (¬ L a ∧ L2.Rd H a (.lst vs)) ∨ KL K a vs
def LL (a : Addr) (vs : List V) : Prop := L2.Rd H a (.lst vs) ∨ KL K a vs
def ST (a : Addr) (vs : List V) : Prop := (¬ L a ∧ L2.Rd H a (.tup vs)) ∨
  ∃ (o : Obj) (its : Array Value) (n : Nat), K.lookup a = some o ∧ o.cls = .type "tuple" ∧ o.data = .seq its n ∧ its.size ≤ sizeLine ∧ Vals vs its.toList
mutual
def Rd : D → V → Prop
  | .none, v => v = .non
  | .bool b, v => v = .bl b
  | .int i, v => v = .int i
  | .str s, v => v = .str s
  | .list ds, v => ∃ a vs, v = .ref a ∧ SL K L H a vs ∧ RdA ds vs
  | .tuple ds, v => ∃ a vs, v = .ref a ∧ ST K L H a vs ∧ RdA ds vs
  | .dict kvs, v => ∃ a hv, v = .ref a ∧ ¬ L a ∧ H a = some (.dK hv) ∧ RdK kvs hv
def RdA : List D → List V → Prop
  | [], vs => vs = []
  | d :: ds, vs => ∃ v r, vs = v :: r ∧ Rd d v ∧ RdA ds r
def RdK : List (D × D) → List (Key × V) → Prop
  | [], hv => hv = []
  | (k, d) :: ds, hv => ∃ kk v r, hv = (kk, v) :: r ∧ kD kk = k ∧ Rd d v ∧ RdK ds r
end
end
/-- what one step leaves: the tracked things that are not owned stay, and stay not owned -/
def Ext (L : Addr → Prop) (H : Hp) (L' : Addr → Prop) (H' : Hp) : Prop := ∀ a o, H a = some o → ¬ L a → H' a = some o ∧ ¬ L' a
theorem Ext.refl {L H} : Ext L H L H := fun _ _ e n => ⟨e, n⟩
theorem Ext.trans {L1 H1 L2 H2 L3 H3} (x : Ext L1 H1 L2 H2) (y : Ext L2 H2 L3 H3) : Ext L1 H1 L3 H3 := fun a o e n => let ⟨e2, n2⟩ := x a o e n; y a o e2 n2
section
variable {K : PySem.W.Frag} {L L' : Addr → Prop} {H H' : Hp}
theorem SL.ext {a : Addr} {vs : List V} (x : Ext L H L' H') (h : SL K L H a vs) : SL K L' H' a vs := by
  rcases h with ⟨n, h | ⟨o, h⟩⟩ | h
  · obtain ⟨e, n'⟩ := x _ _ h n; exact .inl ⟨n', .inl e⟩
  · obtain ⟨e, n'⟩ := x _ _ h n; exact .inl ⟨n', .inr ⟨o, e⟩⟩
  · exact .inr h
theorem ST.ext {a : Addr} {vs : List V} (x : Ext L H L' H') (h : ST K L H a vs) : ST K L' H' a vs := by
  rcases h with ⟨n, h | ⟨o, h⟩⟩ | h
  · obtain ⟨e, n'⟩ := x _ _ h n; exact .inl ⟨n', .inl e⟩
  · obtain ⟨e, n'⟩ := x _ _ h n; exact .inl ⟨n', .inr ⟨o, e⟩⟩
  · exact .inr h
theorem LL.sq {a : Addr} {vs : List V} (h : LL K H a vs) : SqL K H a vs := h.imp id fun ⟨its, n, h1, h2, h3⟩ => ⟨_, its.toArray, n, h1, rfl, rfl, rfl, by simpa using h2, by simpa using h3⟩
theorem SL.ll {a : Addr} {vs : List V} (h : SL K L H a vs) : LL K H a vs := h.imp (fun x => x.2) id
theorem SL.sq {a : Addr} {vs : List V} (h : SL K L H a vs) : SqL K H a vs := h.ll.sq
theorem LL.obj {X : Cx} {pins : List (Addr × Obj)} {σ : L2.St} {s : Shared} {a : Addr} {vs : List V} (I : Inv X pins σ H s) (h : LL X.K H a vs) : vs.length ≤ sizeLine ∧ ∃ (its : List Value) (n : Nat), Vals vs its ∧ s.heap.get? a = some { cls := .type "list", data := .seq its.toArray n } := by
  rcases h with h | ⟨its, n, h1, h2, h3⟩
  · obtain ⟨z, its, n, r, e⟩ := h.ok I.hok
    exact ⟨z, its, n, r, e⟩
  · exact ⟨by rw [h3.length]; exact h2, its, n, h3, I.kIn _ _ h1⟩
theorem ST.sq {a : Addr} {vs : List V} (h : ST K L H a vs) : SqT K H a vs := h.imp (fun x => x.2) id
mutual
theorem Rd.ext (x : Ext L H L' H') : ∀ {d : D} {v : V}, Rd K L H d v → Rd K L' H' d v
  | .none, _, h => h
  | .bool _, _, h => h
  | .int _, _, h => h
  | .str _, _, h => h
  | .list _, _, h => by
    unfold Rd at h ⊢
    obtain ⟨a, vs, e, s, r⟩ := h
    exact ⟨a, vs, e, s.ext x, RdA.ext x r⟩
  | .tuple _, _, h => by
    unfold Rd at h ⊢
    obtain ⟨a, vs, e, s, r⟩ := h
    exact ⟨a, vs, e, s.ext x, RdA.ext x r⟩
  | .dict _, _, h => by
    unfold Rd at h ⊢
    obtain ⟨a, hv, e, n, s, r⟩ := h
    obtain ⟨s', n'⟩ := x _ _ s n
    exact ⟨a, hv, e, n', s', RdK.ext x r⟩
theorem RdA.ext (x : Ext L H L' H') : ∀ {ds : List D} {vs : List V}, RdA K L H ds vs → RdA K L' H' ds vs
  | [], _, h => h
  | _ :: _, _, h => by
    unfold RdA at h ⊢
    obtain ⟨v, r, e, h1, h2⟩ := h
    exact ⟨v, r, e, Rd.ext x h1, RdA.ext x h2⟩
theorem RdK.ext (x : Ext L H L' H') : ∀ {ds : List (D × D)} {vs : List (Key × V)}, RdK K L H ds vs → RdK K L' H' ds vs
  | [], _, h => h
  | (_, _) :: _, _, h => by
    unfold RdK at h ⊢
    obtain ⟨kk, v, r, e, ek, h1, h2⟩ := h
    exact ⟨kk, v, r, e, ek, Rd.ext x h1, RdK.ext x h2⟩
end
theorem RdA.len : ∀ {ds : List D} {vs : List V}, RdA K L H ds vs → vs.length = ds.length
  | [], _, h => by unfold RdA at h; subst h; rfl
  | _ :: _, _, h => by
    unfold RdA at h
    obtain ⟨v, r, e, _, h2⟩ := h
    subst e
    simp [RdA.len h2]
theorem RdA.get : ∀ {ds : List D} {vs : List V} {i : Nat} {d : D}, RdA K L H ds vs → ds[i]? = some d → ∃ v, vs[i]? = some v ∧ Rd K L H d v
  | [], _, _, _, _, e => by simp at e
  | _ :: _, _, 0, _, h, e => by
    unfold RdA at h
    obtain ⟨v, r, e1, h1, _⟩ := h
    subst e1
    simp at e; subst e
    exact ⟨v, rfl, h1⟩
  | _ :: _, _, i + 1, _, h, e => by
    unfold RdA at h
    obtain ⟨v, r, e1, _, h2⟩ := h
    subst e1
    simp at e
    obtain ⟨w, q1, q2⟩ := RdA.get h2 e
    exact ⟨w, by simpa using q1, q2⟩
theorem RdA.app : ∀ {ds es : List D} {vs us : List V}, RdA K L H ds vs → RdA K L H es us → RdA K L H (ds ++ es) (vs ++ us)
  | [], _, _, _, h, h' => by unfold RdA at h; subst h; exact h'
  | _ :: _, _, _, _, h, h' => by
    unfold RdA at h
    obtain ⟨v, r, e1, h1, h2⟩ := h
    subst e1
    show RdA K L H (_ :: (_ ++ _)) (v :: (r ++ _))
    unfold RdA
    exact ⟨v, _, rfl, h1, RdA.app h2 h'⟩
theorem RdA.one {d : D} {v : V} (h : Rd K L H d v) : RdA K L H [d] [v] := by
  unfold RdA; exact ⟨v, [], rfl, h, by unfold RdA; rfl⟩
theorem RdA.nil : RdA K L H [] [] := by unfold RdA; rfl
theorem RdA.cons {d : D} {v : V} {ds : List D} {vs : List V} (h : Rd K L H d v) (h2 : RdA K L H ds vs) : RdA K L H (d :: ds) (v :: vs) := by
  unfold RdA; exact ⟨v, vs, rfl, h, h2⟩
theorem RdA.mem : ∀ {ds : List D} {vs : List V}, RdA K L H ds vs → ∀ v ∈ vs, ∃ d ∈ ds, Rd K L H d v
  | [], _, h, v, hv => by unfold RdA at h; subst h; cases hv
  | _ :: _, _, h, v, hv => by
    unfold RdA at h
    obtain ⟨w, r, e1, h1, h2⟩ := h
    subst e1
    rcases List.mem_cons.mp hv with e | hv
    · subst e; exact ⟨_, List.mem_cons_self .., h1⟩
    · obtain ⟨d, hd, q⟩ := RdA.mem h2 v hv
      exact ⟨d, List.mem_cons_of_mem _ hd, q⟩
theorem RdA.drop : ∀ {ds : List D} {vs : List V} (n : Nat), RdA K L H ds vs → RdA K L H (ds.drop n) (vs.drop n)
  | _, _, 0, h => h
  | [], _, n + 1, h => by unfold RdA at h; subst h; exact RdA.nil
  | _ :: _, _, n + 1, h => by
    unfold RdA at h
    obtain ⟨v, r, e1, _, h2⟩ := h
    subst e1
    exact RdA.drop n h2
theorem RdA.take : ∀ {ds : List D} {vs : List V} (n : Nat), RdA K L H ds vs → RdA K L H (ds.take n) (vs.take n)
  | _, _, 0, _ => by simp; exact RdA.nil
  | [], _, n + 1, h => by unfold RdA at h; subst h; exact RdA.nil
  | _ :: _, _, n + 1, h => by
    unfold RdA at h
    obtain ⟨v, r, e1, h1, h2⟩ := h
    subst e1
    exact RdA.cons h1 (RdA.take n h2)
theorem RdA.set : ∀ {ds : List D} {vs : List V} (n : Nat) {d : D} {v : V}, RdA K L H ds vs → Rd K L H d v → RdA K L H (ds.set n d) (vs.set n v)
  | [], _, n, _, _, h, _ => by unfold RdA at h; subst h; exact RdA.nil
  | _ :: _, _, 0, _, _, h, hd => by
    unfold RdA at h
    obtain ⟨v, r, e1, h1, h2⟩ := h
    subst e1
    exact RdA.cons hd h2
  | _ :: _, _, n + 1, _, _, h, hd => by
    unfold RdA at h
    obtain ⟨v, r, e1, h1, h2⟩ := h
    subst e1
    exact RdA.cons h1 (RdA.set n h2 hd)
theorem RdA.ints : ∀ {ns : List Int} {vs : List V}, RdA K L H (ns.map .int) vs → vs = ns.map V.int
  | [], _, h => by simpa [RdA] using h
  | n :: ns, _, h => by
    simp only [List.map_cons] at h
    unfold RdA at h
    obtain ⟨v, r, e1, h1, h2⟩ := h
    unfold Rd at h1
    subst e1; subst h1
    rw [RdA.ints h2]; rfl
theorem RdA.strs : ∀ {ns : List Str} {vs : List V}, RdA K L H (ns.map .str) vs → vs = ns.map V.str
  | [], _, h => by simpa [RdA] using h
  | n :: ns, _, h => by
    simp only [List.map_cons] at h
    unfold RdA at h
    obtain ⟨v, r, e1, h1, h2⟩ := h
    unfold Rd at h1
    subst e1; subst h1
    rw [RdA.strs h2]; rfl
theorem RdA.bools : ∀ {ns : List Bool} {vs : List V}, RdA K L H (ns.map .bool) vs → vs = ns.map V.bl
  | [], _, h => by simpa [RdA] using h
  | n :: ns, _, h => by
    simp only [List.map_cons] at h
    unfold RdA at h
    obtain ⟨v, r, e1, h1, h2⟩ := h
    unfold Rd at h1
    subst e1; subst h1
    rw [RdA.bools h2]; rfl
end
end Vm
set_option maxRecDepth 100000
set_option maxHeartbeats 4000000
namespace Vm
open PySem PySem.Spec PyProof.Rows L2
/-! ### the small language -/
/-- an object that is changed in place -/
inductive Ob where
  | lst (xs : List D)
  | dct (kvs : List (Key × D))
def Ob.d : Ob → D
  | .lst xs => .list xs
  | .dct kvs => .dict (kvs.map fun p => (kD p.1, p.2))
/-- a slot: nothing known; data; an object of the slot's own; the object of the n-th argument that came by reference -/
inductive LV where
  | no | d (x : D) | own (o : Ob) | c (n : Nat)
/-- an object that came by reference: it may still be changed, or not any more -/
inductive SV where
  | no | d (x : D) | own (o : Ob)
/-- what an expression gives: data; a new object; the object in a slot; an object that came by reference -/
inductive RV where
  | d (x : D) | fr (o : Ob) | vr (i : Nat) | ce (n : Nat)
/-- an argument -/
inductive Arg where
  | d (x : D) | o (o : Ob) | r (o : Ob)
/-- what a def hands back -/
inductive RR where
  | d (x : D) | fr (o : Ob)
  /-- an exception of a class without fields leaves -/
  | ex (c : Str)
def RR.rv : RR → RV
  | .d x => .d x
  | .fr o => .fr o
  | .ex _ => .d .none
def RR.val : RR → Option RV
  | .d x => some (.d x)
  | .fr o => some (.fr o)
  | .ex _ => none
structure F where
  ρ : List LV
  S : List SV
inductive Res (α : Type) where
  | ok (a : α) | bad
def Res.bind {α β : Type} (x : Res α) (f : α → Res β) : Res β := match x with
  | .ok a => f a
  | .bad => .bad
def ofOpt {α : Type} : Option α → Res α
  | some a => .ok a
  | none => .bad
/-- a tuple of which it is known that it is laid as it is (without a dict), at the top of a value alone -/
def pl (ds : List D) : D := .dict [(.none, .tuple ds)]
def norm : D → D
  | .dict [(.none, .tuple ds)] => .tuple ds
  | x => x
def isPl : D → Bool
  | .dict [(.none, .tuple _)] => true
  | _ => false
def slotD : Option LV → Option D
  | some (.d x) => some (norm x)
  | some (.own o) => some o.d
  | _ => none
def cellD : Option SV → Option D
  | some (.d x) => some x
  | some (.own o) => some o.d
  | _ => none
/-- what is to be seen -/
def view (f : F) : RV → Option D
  | .d x => some (norm x)
  | .fr o => some o.d
  | .vr i => slotD f.ρ[i]?
  | .ce n => cellD f.S[n]?
/-- .. to be kept: nobody changes it from here on -/
def frz (f : F) : RV → Option (D × F)
  | .d x => some (norm x, f)
  | .fr o => some (o.d, f)
  | .vr i => match f.ρ[i]? with
    | some (.own o) => some (o.d, { f with ρ := f.ρ.set i (.d o.d) })
    | some (.d x) => some (norm x, f)
    | _ => none
  | .ce n => match f.S[n]? with
    | some (.own o) => some (o.d, { f with S := f.S.set n (.d o.d) })
    | some (.d x) => some (x, f)
    | _ => none
def views (f : F) : List RV → Option (List D)
  | [] => some []
  | r :: rs => (view f r).bind fun x => (views f rs).bind fun xs => some (x :: xs)
def frzs (f : F) : List RV → Option (List D × F)
  | [] => some ([], f)
  | r :: rs => (frz f r).bind fun p => (frzs p.2 rs).bind fun q => some (p.1 :: q.1, q.2)
/-- truth -/
def truth : D → Option Bool
  | .none => some false
  | .bool b => some b
  | .int i => some (i != 0)
  | .str s => if s.length ≤ 16777216 then some ((s.length : Int) != 0) else none
  | .list xs => some (!xs.isEmpty)
  | .tuple xs => some (!xs.isEmpty)
  | .dict kvs => some (!kvs.isEmpty)
/-- targets -/
inductive Tg where
  | name (i : Nat) | tup (ts : List Tg)
/-- strict operations: by the values that are seen -/
inductive Op where
  | add | sub | mul | fdiv | mod | pow | neg | not
  | lt | le | gt | ge | eq | ne | isn | isnn | mem | nmem | isb | isnb
  | item | slice (lo hi : Bool)
  | len | lcm | int | abs | min2 | max2 | repr | tuple | list | any | all | sum | sorted | divmod | ord | min1 | max1 | str | bool
  | isI (t : String) | rev | ptuple | repl (y z : Str)
  | mreplace | mcount | mstartswith | mfind | mjoin | msplit | mindex | mget1 | mget2 | lindex | tindex | lcount | tcount | mendswith | maxd | mind
inductive Mu where
  | append | extend | pop0 | pop1 | insert | add
mutual
inductive Ex where
  | k (x : D)
  | v (i : Nat)
  | op (o : Op) (es : List Ex)
  | tup (es : List Ex)
  | lst (es : List Ex)
  | dct (ks : List Key) (es : List Ex)
  | and (a b : Ex) | or (a b : Ex) | ife (c a b : Ex)
  | ch (o o' : Op) (a b c : Ex)
  | sl2 (a lo hi : Ex)
  | tups (fl : List Bool) (es : List Ex)
  | me (nm : Str) (a : Ex) (es : List Ex)
  | call (g : Nat) (es : List Ex)
  | callk (g : Nat) (pm : List Nat) (es : List Ex)
  | mu (m : Mu) (a : Ex) (es : List Ex)
  | lc (t : Tg) (it : It) (ifs : List Ex) (e : Ex) (own : List Nat)
  /-- .. over a list in a slot, which stays as it is -/
  | lck (t : Tg) (j : Nat) (ifs : List Ex) (e : Ex) (own : List Nat)
  | lc2 (t : Tg) (it : It) (ifs : List Ex) (t1 : Tg) (it1 : It) (ifs1 : List Ex) (e : Ex) (own own1 : List Nat)
inductive It where
  | seq (e : Ex) | rng (es : List Ex) | enum (e : Ex) | zip (a b : Ex) | items (e : Ex)
end
mutual
inductive Sm where
  | ex (e : Ex)
  | asg (t : Tg) (e : Ex)
  | par (is : List Nat) (es : List Ex)
  | sub (a : Ex) (i : Ex) (e : Ex)
  | tsub (a : Ex) (i : Ex) (j : Nat) (e : Ex)
  | aug (i : Nat) (o : Op) (e : Ex)
  | ret (e : Ex) | retN
  | ifs (c : Ex) (a b : List Sm)
  | for (t : Tg) (it : It) (b : List Sm)
  /-- over a list that came by reference in slot j and stays as it is -/
  | fork (t : Tg) (j : Nat) (b : List Sm)
  | whl (c : Ex) (b : List Sm)
  | brk | cont | pass | never
  /-- an exception leaves; a call that may let one out: f(..), return f(..), i = f(..), t = f(..); try: b / except: h for these classes -/
  | raise (c : Str)
  | clx (e : Ex) | clr (e : Ex) | cla (i : Nat) (e : Ex) | clt (ts : List Tg) (e : Ex)
  | trys (b : List Sm) (cs all : List Str) (h : List Sm)
end
end Vm
set_option maxRecDepth 100000
set_option maxHeartbeats 4000000
namespace Vm
open PySem PySem.Spec L2
abbrev ASet := Addr → Prop
/-! ### the frame and its heap -/
def Own (f : F) (as : List Addr) (σ : St) (a : Addr) : Prop :=
  (∃ (i : Nat) (o : Ob), f.ρ[i]? = some (.own o) ∧ σ[i]? = some (some (.ref a))) ∨ (∃ (n : Nat) (o : Ob), f.S[n]? = some (.own o) ∧ as[n]? = some a)
def Lv (A : ASet) (f : F) (as : List Addr) (σ : St) : ASet := fun a => A a ∨ Own f as σ a
def kvD (kvs : List (Key × D)) : List (D × D) := kvs.map fun p => (kD p.1, p.2)
def ObR (K : PySem.W.Frag) (L : ASet) (H : Hp) (a : Addr) : Ob → Prop
  | .lst xs => ∃ vs, H a = some (.lst vs) ∧ RdA K L H xs vs
  | .dct kvs => ∃ hv, H a = some (.dK hv) ∧ RdK K L H (kvD kvs) hv
/-- what came by reference and is not changed any more -/
def Cd (K : PySem.W.Frag) (L : ASet) (H : Hp) (x : D) (a : Addr) : Prop := Rd K L H x (.ref a) ∧ ¬ L a ∧ ∃ o, H a = some o
theorem Cd.ext {K : PySem.W.Frag} {L L' : ASet} {H H' : Hp} {x : D} {a : Addr} (e : Ext L H L' H') (h : Cd K L H x a) : Cd K L' H' x a := by
  obtain ⟨h1, h2, o, h3⟩ := h
  obtain ⟨q1, q2⟩ := e a o h3 h2
  exact ⟨h1.ext e, q2, o, q1⟩
/-- a tuple that is laid as it is -/
def PlT (L : ASet) (H : Hp) (v : V) : Prop := ∃ (a : Addr) (o : Obj) (vs : List V), v = .ref a ∧ ¬ L a ∧ H a = some (.frz o (.tup vs)) ∧ o.dict = none
def RdP (K : PySem.W.Frag) (L : ASet) (H : Hp) (x : D) (v : V) : Prop := Rd K L H x v ∨ ∃ ds, x = pl ds ∧ Rd K L H (.tuple ds) v ∧ PlT L H v
theorem PlT.ext {L L' : ASet} {H H' : Hp} {v : V} (x : Ext L H L' H') (h : PlT L H v) : PlT L' H' v := by
  obtain ⟨a, o, vs, e, n, h1, h2⟩ := h
  obtain ⟨q1, q2⟩ := x a _ h1 n
  exact ⟨a, o, vs, e, q2, q1, h2⟩
theorem RdP.ext {K : PySem.W.Frag} {L L' : ASet} {H H' : Hp} {x : D} {v : V} (e : Ext L H L' H') (h : RdP K L H x v) : RdP K L' H' x v := by
  rcases h with h | ⟨ds, h1, h2, h3⟩
  · exact .inl (h.ext e)
  · exact .inr ⟨ds, h1, h2.ext e, h3.ext e⟩
theorem Rd.norm {K : PySem.W.Frag} {L : ASet} {H : Hp} : ∀ {x : D} {v : V}, Rd K L H x v → Vm.norm x = x
  | .none, _, _ => rfl
  | .bool _, _, _ => rfl
  | .int _, _, _ => rfl
  | .str _, _, _ => rfl
  | .list _, _, _ => rfl
  | .tuple _, _, _ => rfl
  | .dict kvs, v, h => by
    unfold Vm.norm
    split
    · rename_i ds e
      exfalso
      cases e
      unfold Rd at h
      obtain ⟨a, hv, _, _, _, r⟩ := h
      unfold RdK at r
      obtain ⟨kk, _, _, _, ek, _⟩ := r
      cases kk <;> cases ek
    · rfl
theorem RdP.rd {K : PySem.W.Frag} {L : ASet} {H : Hp} {x : D} {v : V} (h : RdP K L H x v) : Rd K L H (Vm.norm x) v := by
  rcases h with h | ⟨ds, rfl, h2, _⟩
  · rw [h.norm]; exact h
  · exact h2
theorem norm_ob (o : Ob) : Vm.norm o.d = o.d := by
  cases o with
  | lst xs => rfl
  | dct kvs =>
    match kvs with
    | [] => rfl
    | [(k, x)] => cases k <;> rfl
    | p :: q :: r =>
      obtain ⟨k, x⟩ := p
      cases k <;> rfl
structure Rel (K : PySem.W.Frag) (A : ASet) (as : List Addr) (f : F) (σ : St) (H : Hp) : Prop where
  lenσ : σ.length = f.ρ.length
  lenS : as.length = f.S.length
  sd : ∀ (i : Nat) (x : D), f.ρ[i]? = some (.d x) → ∃ v, σ[i]? = some (some v) ∧ RdP K (Lv A f as σ) H x v
  so : ∀ (i : Nat) (o : Ob), f.ρ[i]? = some (.own o) → ∃ a, σ[i]? = some (some (.ref a)) ∧ ObR K (Lv A f as σ) H a o ∧ ¬ A a
  sc : ∀ (i n : Nat), f.ρ[i]? = some (.c n) → ∃ a, as[n]? = some a ∧ σ[i]? = some (some (.ref a))
  cd : ∀ (n : Nat) (x : D) (a : Addr), f.S[n]? = some (.d x) → as[n]? = some a → Cd K (Lv A f as σ) H x a
  co : ∀ (n : Nat) (o : Ob) (a : Addr), f.S[n]? = some (.own o) → as[n]? = some a → ObR K (Lv A f as σ) H a o ∧ ¬ A a
  i1 : ∀ (i j : Nat) (a : Addr) (o o' : Ob), f.ρ[i]? = some (.own o) → f.ρ[j]? = some (.own o') → σ[i]? = some (some (.ref a)) → σ[j]? = some (some (.ref a)) → i = j
  i2 : ∀ (i n : Nat) (a : Addr) (o o' : Ob), f.ρ[i]? = some (.own o) → f.S[n]? = some (.own o') → σ[i]? = some (some (.ref a)) → as[n]? = some a → False
  i3 : ∀ (n m : Nat) (a : Addr) (o o' : Ob), f.S[n]? = some (.own o) → f.S[m]? = some (.own o') → as[n]? = some a → as[m]? = some a → n = m
  al : ∀ a, A a → ∃ o, H a = some o
/-- what an expression's value is to what it gives -/
def RVR (K : PySem.W.Frag) (L A : ASet) (as : List Addr) (σ : St) (H : Hp) : RV → V → Prop
  | .d x, v => RdP K L H x v
  | .fr o, v => ∃ p, v = .ref p ∧ A p ∧ ObR K L H p o
  | .vr i, v => ∃ a, v = .ref a ∧ σ[i]? = some (some (.ref a))
  | .ce n, v => ∃ a, v = .ref a ∧ as[n]? = some a
def Rd1 (K : PySem.W.Frag) (L : ASet) (H : Hp) : D → V → Prop
  | .list ds, v => ∃ a vs, v = .ref a ∧ LL K H a vs ∧ RdA K L H ds vs
  | .dict kvs, v => ∃ a hv, v = .ref a ∧ H a = some (.dK hv) ∧ RdK K L H kvs hv
  | d, v => Rd K L H d v
section
variable {K : PySem.W.Frag} {L L' A A' : ASet} {H H' : Hp} {as : List Addr} {σ : St} {f f' : F}
theorem Rd.one : ∀ {d : D} {v : V}, Rd K L H d v → Rd1 K L H d v
  | .none, _, h => h
  | .bool _, _, h => h
  | .int _, _, h => h
  | .str _, _, h => h
  | .list _, _, h => by
    unfold Rd at h
    obtain ⟨a, vs, e, s, r⟩ := h
    exact ⟨a, vs, e, s.ll, r⟩
  | .tuple _, _, h => h
  | .dict _, _, h => by
    unfold Rd at h
    obtain ⟨a, hv, e, n, s, r⟩ := h
    exact ⟨a, hv, e, s, r⟩
theorem ObR.one {a : Addr} {o : Ob} (h : ObR K L H a o) : Rd1 K L H o.d (.ref a) := by
  cases o with
  | lst xs => obtain ⟨vs, e, r⟩ := h; exact ⟨a, vs, rfl, .inl (.inl e), r⟩
  | dct kvs => obtain ⟨hv, e, r⟩ := h; exact ⟨a, hv, rfl, e, r⟩
theorem ObR.rd {a : Addr} {o : Ob} (h : ObR K L H a o) (n : ¬ L a) : Rd K L H o.d (.ref a) := by
  cases o with
  | lst xs =>
    obtain ⟨vs, e, r⟩ := h
    show Rd K L H (.list xs) _
    unfold Rd
    exact ⟨a, vs, rfl, .inl ⟨n, .inl e⟩, r⟩
  | dct kvs =>
    obtain ⟨hv, e, r⟩ := h
    show Rd K L H (.dict _) _
    unfold Rd
    exact ⟨a, hv, rfl, n, e, r⟩
theorem ObR.ext {a : Addr} {o : Ob} (x : Ext L H L' H') (e : H' a = H a) (h : ObR K L H a o) : ObR K L' H' a o := by
  cases o with
  | lst xs => obtain ⟨vs, e', r⟩ := h; exact ⟨vs, e.trans e', r.ext x⟩
  | dct kvs => obtain ⟨hv, e', r⟩ := h; exact ⟨hv, e.trans e', r.ext x⟩
theorem ObR.some {a : Addr} {o : Ob} (h : ObR K L H a o) : ∃ u, H a = .some u := by
  cases o with
  | lst xs => obtain ⟨vs, e, _⟩ := h; exact ⟨_, e⟩
  | dct kvs => obtain ⟨hv, e, _⟩ := h; exact ⟨_, e⟩
/-- fewer owned ones: nothing else changes -/
theorem Ext.less (h : ∀ a, L' a → L a) : Ext L H L' H := fun a _ e n => ⟨e, fun z => n (h a z)⟩
theorem RVR.ext {rv : RV} {v : V} (x : Ext L H L' H') (k : ∀ a, A a → H' a = H a) (ha : ∀ a, A a → A' a) (h : RVR K L A as σ H rv v) : RVR K L' A' as σ H' rv v := by
  cases rv with
  | d y => exact RdP.ext x h
  | fr o => obtain ⟨p, e, q, r⟩ := h; exact ⟨p, e, ha p q, r.ext x (k p q)⟩
  | vr i => exact h
  | ce n => exact h
theorem view_rd1 {rv : RV} {v : V} {y : D} (R : Rel K A as f σ H) (h : RVR K (Lv A f as σ) A' as σ H rv v) (e : view f rv = some y) : Rd1 K (Lv A f as σ) H y v := by
  cases rv with
  | d x => cases e; exact Rd.one (RdP.rd h)
  | fr o =>
    cases e
    obtain ⟨p, e, _, r⟩ := h
    subst e
    exact r.one
  | vr i =>
    obtain ⟨a, e1, e2⟩ := h
    subst e1
    have e : slotD f.ρ[i]? = some y := e
    cases q : f.ρ[i]? with
    | none => rw [q] at e; cases e
    | some l =>
      rw [q] at e
      cases l with
      | no => cases e
      | d x =>
        cases e
        obtain ⟨v, h1, h2⟩ := R.sd i x q
        rw [e2] at h1; cases h1
        exact Rd.one h2.rd
      | own o =>
        cases e
        obtain ⟨b, h1, h2, _⟩ := R.so i o q
        rw [e2] at h1; cases h1
        exact h2.one
      | c n => cases e
  | ce n =>
    obtain ⟨a, e1, e2⟩ := h
    subst e1
    have e : cellD f.S[n]? = some y := e
    cases q : f.S[n]? with
    | none => rw [q] at e; cases e
    | some l =>
      rw [q] at e
      cases l with
      | no => cases e
      | d x => cases e; exact Rd.one (R.cd n y a q e2).1
      | own o => cases e; exact (R.co n o a q e2).1.one
/-- the frame stands, whatever its heap's other parts do -/
theorem Rel.step (R : Rel K A as f σ H) (hA : ∀ a, A' a → ∃ o, H' a = some o) (x : Ext (Lv A f as σ) H (Lv A' f as σ) H') (ko : ∀ a, Own f as σ a → H' a = H a) (nA : ∀ a, Own f as σ a → ¬ A' a) : Rel K A' as f σ H' where
  lenσ := R.lenσ
  lenS := R.lenS
  sd := fun i y e => let ⟨v, h1, h2⟩ := R.sd i y e; ⟨v, h1, h2.ext x⟩
  so := fun i o e => let ⟨a, h1, h2, h3⟩ := R.so i o e; ⟨a, h1, h2.ext x (ko a (.inl ⟨i, o, e, h1⟩)), nA a (.inl ⟨i, o, e, h1⟩)⟩
  sc := R.sc
  cd := fun n y a e e' => (R.cd n y a e e').ext x
  co := fun n o a e e' => ⟨(R.co n o a e e').1.ext x (ko a (.inr ⟨n, o, e, e'⟩)), nA a (.inr ⟨n, o, e, e'⟩)⟩
  i1 := R.i1
  i2 := R.i2
  i3 := R.i3
  al := hA
theorem Rel.nA (R : Rel K A as f σ H) {a : Addr} (h : Own f as σ a) : ¬ A a := by
  rcases h with ⟨i, o, e, e'⟩ | ⟨n, o, e, e'⟩
  · obtain ⟨b, h1, _, h3⟩ := R.so i o e
    rw [e'] at h1; cases h1; exact h3
  · exact (R.co n o a e e').2
theorem Rel.own_some (R : Rel K A as f σ H) {a : Addr} (h : Own f as σ a) : ∃ o, H a = some o := by
  rcases h with ⟨i, o, e, e'⟩ | ⟨n, o, e, e'⟩
  · obtain ⟨b, h1, h2, _⟩ := R.so i o e
    rw [e'] at h1; cases h1; exact h2.some
  · exact (R.co n o a e e').1.some
theorem Rel.less (R : Rel K A as f σ H) (h : ∀ a, A' a → A a) : Rel K A' as f σ H :=
  R.step (fun a q => R.al a (h a q)) (Ext.less fun a q => q.imp (h a) id) (fun _ _ => rfl) fun a q z => R.nA q (h a z)
theorem ext_less (h : ∀ a, A' a → A a) : Ext (Lv A f as σ) H (Lv A' f as σ) H := Ext.less fun a q => q.imp (h a) id
/-- a new thing is laid -/
theorem Rel.laid (R : Rel K A as f σ H) {p : Addr} {o : HO} (hp : H p = none) : Rel K (fun a => A a ∨ a = p) as f σ (upd H p o) ∧ Ext (Lv A f as σ) H (Lv (fun a => A a ∨ a = p) f as σ) (upd H p o) ∧ ∀ a, Lv A f as σ a → upd H p o a = H a := by
  have ne : ∀ a u, H a = some u → a ≠ p := fun a u e z => by subst z; rw [hp] at e; cases e
  have x : Ext (Lv A f as σ) H (Lv (fun a => A a ∨ a = p) f as σ) (upd H p o) := fun a u e n => ⟨by rw [upd_ne (ne a u e)]; exact e, fun z => by
    rcases z with (z | z) | z
    · exact n (.inl z)
    · exact ne a u e z
    · exact n (.inr z)⟩
  refine ⟨R.step (fun a q => ?_) x (fun a q => ?_) fun a q z => ?_, x, fun a q => ?_⟩
  · rcases q with q | q
    · obtain ⟨u, e⟩ := R.al a q
      exact ⟨u, by rw [upd_ne (ne a u e)]; exact e⟩
    · subst q; exact ⟨o, upd_same⟩
  · obtain ⟨u, e⟩ := R.own_some q
    exact upd_ne (ne a u e)
  · rcases z with z | z
    · exact R.nA q z
    · obtain ⟨u, e⟩ := R.own_some q
      exact ne a u e z
  · rcases q with q | q
    · obtain ⟨u, e⟩ := R.al a q
      exact upd_ne (ne a u e)
    · obtain ⟨u, e⟩ := R.own_some q
      exact upd_ne (ne a u e)
/-- .. and kept as data (a tuple) -/
theorem Rel.laid' (R : Rel K A as f σ H) {p : Addr} {o : HO} (hp : H p = none) : Rel K A as f σ (upd H p o) ∧ Ext (Lv A f as σ) H (Lv A f as σ) (upd H p o) ∧ (∀ a, Lv A f as σ a → upd H p o a = H a) ∧ ¬ Lv A f as σ p := by
  obtain ⟨R1, x1, k⟩ := R.laid (o := o) hp
  have n : ¬ Lv A f as σ p := fun z => by
    rcases z with z | z
    · obtain ⟨u, e⟩ := R.al p z; rw [hp] at e; cases e
    · obtain ⟨u, e⟩ := R.own_some z; rw [hp] at e; cases e
  exact ⟨R1.less fun a q => .inl q, x1.trans (ext_less fun a q => .inl q), k, n⟩
end
end Vm
set_option maxRecDepth 100000
set_option maxHeartbeats 4000000
namespace Vm
open PySem PySem.Spec L2
/-! ### the strict operations on data -/
def inS (x y : Str) : Bool := match x.cps.toList with
  | [c] => decide (c ∈ y.cps.toList)
  | _ => !(Builtin.Str.occurrences y x 0 y.length 1).isEmpty
def flatD : D → Bool
  | .none => true
  | .bool _ => true
  | .int _ => true
  | .str _ => true
  | _ => false
/-- two scalars, as == has them -/
def eqF : D → D → Bool
  | .none, .none => true
  | .bool a, .bool b => a == b
  | .bool a, .int b => (if a then 1 else 0) == b
  | .int a, .bool b => a == (if b then 1 else 0)
  | .int a, .int b => a == b
  | .str a, .str b => a == b
  | _, _ => false
def sign (c : Nat) : Str := ⟨#[c]⟩
def signs (s : Str) : List D := s.cps.toList.map fun c => PyData.str (sign c)
def itemsD : D → Option (List D)
  | .list ds => some ds
  | .tuple ds => some ds
  | .str s => if s.length ≤ 16777216 then some (signs s) else none
  | _ => none
def cutD (xs : List D) (lo hi : Option Int) : List D := (xs.drop (HT.sIx xs.length 0 lo)).take (HT.sIx xs.length xs.length hi - HT.sIx xs.length 0 lo)
def keyD : D → Option Key
  | .int i => some (.inl i)
  | .str s => some (.inr s)
  | _ => none
def intsD : List D → Option (List Int)
  | [] => some []
  | .int i :: r => (intsD r).map (i :: ·)
  | _ => none
def boolsD : List D → Option (List Bool)
  | [] => some []
  | .bool i :: r => (boolsD r).map (i :: ·)
  | _ => none
def strsD : List D → Option (List Str)
  | [] => some []
  | .str i :: r => (strsD r).map (i :: ·)
  | _ => none
def insI (x : Int) : List Int → List Int
  | [] => [x]
  | y :: r => if x ≤ y then x :: y :: r else y :: insI x r
def sortI : List Int → List Int
  | [] => []
  | x :: r => insI x (sortI r)
def tyD : D → String
  | .none => "NoneType"
  | .bool _ => "bool"
  | .int _ => "int"
  | .str _ => "str"
  | .list _ => "list"
  | .tuple _ => "tuple"
  | .dict _ => "dict"
def findK (kvs : List (D × D)) (k : D) : Option D := (kvs.find? fun p => eqF p.1 k).map (·.2)
def sliceD (x : D) (lo hi : Option Int) : Option RR := match x with
  | .list ds => some (.fr (.lst (cutD ds lo hi)))
  | .tuple ds => some (.d (.tuple (cutD ds lo hi)))
  | .str s => if s.length ≤ 16777216 then some (.d (.str (cutS s lo hi))) else none
  | _ => none
def maxI (m : Int) : List Int → Int
  | [] => m
  | x :: r => maxI (if x > m then x else m) r
def minI (m : Int) : List Int → Int
  | [] => m
  | x :: r => minI (if x < m then x else m) r
def runAdd : D → D → Option RR
  | .int i, .int j => some (.d (.int (i + j)))
  | .bool i, .int j => some (.d (.int ((if i = true then 1 else 0) + j)))
  | .str i, .str j => if i.length + j.length ≤ 16777216 then some (.d (.str (i ++ j))) else none
  | .tuple i, .tuple j => if i.length + j.length ≤ 16777216 then some (.d (.tuple (i ++ j))) else none
  | .list i, .list j => if i.length + j.length ≤ 16777216 then some (.fr (.lst (i ++ j))) else none
  | _, _ => none
/-- a number that is not so great that sizes matter -/
@[irreducible] def wideB (i : Int) : Bool := decide (i.natAbs < 2 ^ 4000)
def runMul : D → D → Option RR
  | .int i, .int j => if (-(2 ^ 64) < i ∧ i < 2 ^ 64) ∨ (-(2 ^ 64) < j ∧ j < 2 ^ 64) then some (.d (.int (i * j))) else if (wideB i && wideB j) = true then some (.d (.int (i * j))) else none
  | .int i, .bool j => some (.d (.int (i * if j = true then 1 else 0)))
  | .list xs, .int k => if -(2 ^ 63) ≤ k ∧ k < 2 ^ 63 ∧ xs.length * k.toNat ≤ 16777216 then some (.fr (.lst (List.replicate k.toNat xs).flatten)) else none
  | .tuple xs, .int k => if -1000 ≤ k ∧ k ≤ 1000 ∧ xs.length ≤ 1000 then some (.d (.tuple (List.replicate k.toNat xs).flatten)) else none
  | _, _ => none
def runInts (c : Int → Int → Bool) (g : Int → Int → D) : D → D → Option RR
  | .int i, .int j => if c i j = true then some (.d (g i j)) else none
  | _, _ => none
def runSub : D → D → Option RR
  | .int i, .int j => some (.d (.int (i - j)))
  | .bool i, .int j => some (.d (.int ((if i = true then 1 else 0) - j)))
  | _, _ => none
def runLt : D → D → Option RR
  | .int i, .int j => some (.d (.bool (decide (i < j))))
  | .str i, .str j => some (.d (.bool (decide (i.cps.toList < j.cps.toList))))
  | .tuple i, .tuple j => (intsD i).bind fun a => (intsD j).bind fun b => some (.d (.bool (HT.lexLt a b)))
  | _, _ => none
def runIs (neg : Bool) : D → D → Option RR
  | .bool a, .bool b => some (.d (.bool (if neg then !(a == b) else a == b)))
  | _, _ => none
def isNone : D → Bool
  | .none => true
  | _ => false
/-- x in y -/
def memD : D → D → Option Bool
  | .str x, .str y => some (inS x y)
  | x, .list ds => if (flatD x && ds.all flatD) = true then some (ds.any fun y => eqF y x) else none
  | x, .tuple ds => if (flatD x && ds.all flatD) = true then some (ds.any fun y => eqF y x) else none
  | _, _ => none
def itemD : D → D → Option D
  | .list ds, .int i => atI ds i
  | .tuple ds, .int i => atI ds i
  | .str s, .int i => if s.length ≤ 16777216 then (atI s.cps.toList i).map fun c => .str (sign c) else none
  | _, _ => none
def lenD : D → Option Nat
  | .list ds => some ds.length
  | .tuple ds => some ds.length
  | .str s => if s.length ≤ 16777216 then some s.length else none
  | .dict kvs => some kvs.length
  | _ => none
def runInt : D → Option RR
  | .int i => some (.d (.int i))
  | .bool b => some (.d (.int (if b then 1 else 0)))
  | _ => none
def runSeq (g : List D → RR) : D → Option RR
  | .list ds => some (g ds)
  | .tuple ds => some (g ds)
  | _ => none
def runInts1 (g : List Int → Option RR) : D → Option RR
  | .list ds => (intsD ds).bind g
  | _ => none
def runSum : D → Option RR
  | .list ds => (intsD ds).bind fun ns => some (.d (.int ns.sum))
  | .tuple ds => (intsD ds).bind fun ns => some (.d (.int ns.sum))
  | _ => none
def runBools1 (g : List Bool → Bool) : D → Option RR
  | .list ds => (boolsD ds).map fun bs => .d (.bool (g bs))
  | _ => none
/-- data that can be sorted together -/
def alikeB (ds : List D) : Bool := ds.all fun d => ds.all fun e => PySem.W.alike d e
def isTupD : D → Bool
  | .tuple _ => true
  | _ => false
def sortOkD (ds : List D) : Bool := alikeB ds && (PyData.canLayAll0 ds && (decide (PyData.depthAll ds ≤ 64) && (ds.all isTupD || ds.all fun d => !isTupD d && !isNone d)))
def sortD (ds : List D) : List D := ds.mergeSort (PySem.W.dataLe false id)
def sortL (ds : List D) : Option RR := match intsD ds with
  | some ns => some (.fr (.lst ((sortI ns).map .int)))
  | none => if sortOkD ds = true then some (.fr (.lst (sortD ds))) else none
def runSorted : D → Option RR
  | .list ds => sortL ds
  | .tuple ds => (intsD ds).map fun ns => .fr (.lst ((sortI ns).map .int))
  | .dict kvs => if kvs.length < 64 then (intsD (kvs.map (·.1))).map fun ns => .fr (.lst ((sortI ns).map .int)) else none
  | _ => none
def runRepr (x : D) : Option RR := if x.canLay0 = true ∧ x.showable = true ∧ x.depth ≤ 64 ∧ x.shown.length ≤ 16777216 then some (.d (.str x.shown)) else none
def runNeg : D → Option RR
  | .int i => some (.d (.int (-i)))
  | .bool i => some (.d (.int (-(if i = true then 1 else 0))))
  | _ => none
def runAbs : D → Option RR
  | .int i => some (.d (.int (if i < 0 then -i else i)))
  | _ => none
def twoStr : D → D → Bool
  | .str _, .str _ => true
  | _, _ => false
/-- one of two lists, of two tuples, has no items -/
def nilCmp : D → D → Bool
  | .list _, .list [] => true
  | .list [], .list _ => true
  | .tuple _, .tuple [] => true
  | .tuple [], .tuple _ => true
  | _, _ => false
def runEq (neg : Bool) (x y : D) : Option RR := if (twoStr x y || (nilCmp x y || (SeqAt.shaped x && SeqAt.shaped y))) = true then some (.d (.bool (if neg then !PyData.eqv x y else PyData.eqv x y))) else none
def intD : D → Option Int
  | .int i => some i
  | _ => none
def runMin1 : List Int → Option RR
  | [] => none
  | n :: r => some (.d (.int (minI n r)))
def runMax1 : List Int → Option RR
  | [] => none
  | n :: r => some (.d (.int (maxI n r)))
def dgetD (kvs : List (D × D)) (k : Key) : Option D := (kvs.find? fun kv => decide (keyD kv.1 = some k)).map (·.2)
/-- data that may be handed on as it is -/
def flat1 : D → Bool
  | .list _ => false
  | .dict _ => false
  | _ => true
def runGet1 : D → D → Option RR
  | .dict kvs, k => (keyD k).map fun k => .d ((dgetD kvs k).getD .none)
  | _, _ => none
def runGet2 : D → D → D → Option RR
  | .dict kvs, k, z => (keyD k).bind fun k => if flat1 z = true then some (.d ((dgetD kvs k).getD z)) else none
  | _, _, _ => none
def idxD (ds : List D) : D → Option RR
  | .int k => (intsD ds).bind fun ns => if k ∈ ns then some (.d (.int ((ns.idxOf k : Nat) : Int))) else none
  | _ => none
def runTIdx : D → D → Option RR
  | .tuple ds, k => idxD ds k
  | _, _ => none
def scD : D → Option RR
  | .int i => some (.d (.int i))
  | .none => some (.d .none)
  | _ => none
/-- max(xs, default=d), min(xs, default=d) -/
def runMaxd : D → D → Option RR
  | .list ds, d => (intsD ds).bind fun ns => match ns with
    | [] => scD d
    | n :: r => some (.d (.int (maxI n r)))
  | _, _ => none
def runMind : D → D → Option RR
  | .list ds, d => (intsD ds).bind fun ns => match ns with
    | [] => scD d
    | n :: r => some (.d (.int (minI n r)))
  | _, _ => none
def runLIdx : D → D → Option RR
  | .list ds, k => idxD ds k
  | _, _ => none
def cntD (ds : List D) : D → Option RR
  | .int k => (intsD ds).bind fun ns => some (.d (.int ((ns.count k : Nat) : Int)))
  | _ => none
def runTCnt : D → D → Option RR
  | .tuple ds, k => cntD ds k
  | _, _ => none
def runLCnt : D → D → Option RR
  | .list ds, k => cntD ds k
  | _, _ => none
/-- tuple(l), laid as it is -/
def runPtup : D → Option RR
  | .list ds => some (.d (pl ds))
  | _ => none
def runRev : D → Option RR
  | .list ds => some (.fr (.lst ds.reverse))
  | .tuple ds => some (.d (.tuple ds.reverse))
  | _ => none
/-- x.replace(y, z) -/
def runRepl (y z : Str) : D → Option RR
  | .str x => if x.length + (x.length + 1) * z.length ≤ 16777216 then some (.d (.str (Txt.replace x y z))) else none
  | _ => none
/-- x.count(y) of texts -/
def runScnt : D → D → Option RR
  | .str x, .str y => some (.d (.int ((Builtin.Str.occurrences x y 0 x.length (x.length + 1)).length : Nat)))
  | _, _ => none
def Op.run : Op → List D → Option RR
  | .add, [a, b] => runAdd a b
  | .sub, [a, b] => runSub a b
  | .mul, [a, b] => runMul a b
  | .fdiv, [a, b] => runInts (fun _ j => decide (0 < j) && (decide (j < 1073741824) || wideB j)) (fun i j => .int (i / j)) a b
  | .mod, [a, b] => runInts (fun _ j => decide (0 < j)) (fun i j => .int (i % j)) a b
  | .pow, [a, b] => runInts (fun i j => decide (0 ≤ j) && decide (j ≤ 1000000) && decide (i.natAbs < 2 ^ 64)) (fun i j => .int (i ^ j.toNat)) a b
  | .neg, [a] => runNeg a
  | .not, [x] => (truth x).map fun b => .d (.bool (!b))
  | .lt, [a, b] => runLt a b
  | .le, [a, b] => runInts (fun _ _ => true) (fun i j => .bool (decide (i ≤ j))) a b
  | .gt, [a, b] => runInts (fun _ _ => true) (fun i j => .bool (decide (j < i))) a b
  | .ge, [a, b] => runInts (fun _ _ => true) (fun i j => .bool (decide (j ≤ i))) a b
  | .eq, [x, y] => runEq false x y
  | .ne, [x, y] => runEq true x y
  | .isn, [x] => some (.d (.bool (isNone x)))
  | .isnn, [x] => some (.d (.bool (!isNone x)))
  | .isb, [x, y] => runIs false x y
  | .isnb, [x, y] => runIs true x y
  | .mem, [x, y] => (memD x y).map fun b => .d (.bool b)
  | .nmem, [x, y] => (memD x y).map fun b => .d (.bool (!b))
  | .item, [x, y] => (itemD x y).map .d
  | .slice false false, [x] => sliceD x none none
  | .slice true false, [x, a] => (intD a).bind fun a => sliceD x (some a) none
  | .slice false true, [x, b] => (intD b).bind fun b => sliceD x none (some b)
  | .slice true true, [x, a, b] => (intD a).bind fun a => (intD b).bind fun b => sliceD x (some a) (some b)
  | .len, [x] => (lenD x).map fun n : Nat => RR.d (.int (n : Int))
  | .int, [x] => runInt x
  | .abs, [x] => runAbs x
  | .min2, [a, b] => runInts (fun _ _ => true) (fun i j => .int (if j < i then j else i)) a b
  | .max2, [a, b] => runInts (fun _ _ => true) (fun i j => .int (if j > i then j else i)) a b
  | .min1, [x] => runInts1 runMin1 x
  | .max1, [x] => runInts1 runMax1 x
  | .repr, [x] => runRepr x
  | .tuple, [x] => runSeq (fun ds => .d (.tuple ds)) x
  | .list, [x] => runSeq (fun ds => .fr (.lst ds)) x
  | .any, [x] => runBools1 (fun bs => bs.any id) x
  | .all, [x] => runBools1 (fun bs => bs.all id) x
  | .sum, [x] => runSum x
  | .sorted, [x] => runSorted x
  | .lcm, [x, y] => runInts (fun i j => decide (i.natAbs < 2 ^ 64) && decide (j.natAbs < 2 ^ 64)) (fun i j => .int ((i.natAbs.lcm j.natAbs : Nat) : Int)) x y
  | .divmod, [a, b] => runInts (fun _ j => decide (0 < j) && decide (j < 1073741824)) (fun i j => .tuple [.int (i / j), .int (i % j)]) a b
  | .rev, [x] => runRev x
  | .mget1, [x, k] => runGet1 x k
  | .mget2, [x, k, z] => runGet2 x k z
  | .tindex, [x, k] => runTIdx x k
  | .tcount, [x, k] => runTCnt x k
  | .lcount, [x, k] => runLCnt x k
  | .ptuple, [x] => runPtup x
  | .lindex, [x, k] => runLIdx x k
  | .maxd, [x, d] => runMaxd x d
  | .mind, [x, d] => runMind x d
  | .repl y z, [x] => runRepl y z x
  | .mcount, [x, y] => runScnt x y
  | .isI t, [x] => (kitB (tyD x) t).map fun b => .d (.bool b)
  | _, _ => none
def Mu.run : Mu → Ob → List D → Option (Ob × D)
  | .append, .lst xs, [y] => if xs.length < 16777216 then some (.lst (xs ++ [y]), .none) else none
  | .extend, .lst xs, [.list ys] => if xs.length + ys.length ≤ 16777216 then some (.lst (xs ++ ys), .none) else none
  | .pop0, .lst xs, [] => (xs[xs.length - 1]?).map fun y => (.lst xs.dropLast, y)
  | _, _, _ => none
def putD (kvs : List (Key × D)) (k : Key) (y : D) : List (Key × D) :=
  if (kvs.any fun kv => decide (kv.1 = k)) = true then kvs.map (fun kv => if kv.1 = k then (kv.1, y) else kv) else kvs ++ [(k, y)]
/-- o[i] = y -/
def putO : Ob → D → D → Option Ob
  | .lst xs, .int i, y => (ixN xs.length i).map fun j => .lst (xs.set j y)
  | .dct kvs, k, y => (keyD k).bind fun k => if kvs.length < 16777216 then some (.dct (putD kvs k y)) else none
  | _, _, _ => none
/-! ### expressions -/
abbrev Call := Nat → List Arg → Res (RR × List SV)
def toArg (f : F) : RV → Option Arg
  | .d x => some (.d x)
  | .fr o => some (.o o)
  | .vr i => match f.ρ[i]? with
    | some (.own o) => some (.r o)
    | some (.d x) => some (.d x)
    | _ => none
  | .ce n => match f.S[n]? with
    | some (.own o) => some (.r o)
    | some (.d x) => some (.d x)
    | _ => none
def toArgs (f : F) : List RV → Option (List Arg)
  | [] => some []
  | r :: rs => (toArg f r).bind fun a => (toArgs f rs).bind fun l => some (a :: l)
/-- what goes by reference: slots, arguments -/
abbrev Loc := Sum Nat Nat
def locs (f : F) : List RV → List Loc
  | [] => []
  | .vr i :: rs => match f.ρ[i]? with
    | some (.own _) => .inl i :: locs f rs
    | _ => locs f rs
  | .ce n :: rs => match f.S[n]? with
    | some (.own _) => .inr n :: locs f rs
    | _ => locs f rs
  | _ :: rs => locs f rs
def SV.lv : SV → LV
  | .no => .no
  | .d x => .d x
  | .own o => .own o
def put1 (f : F) : Loc → SV → F
  | .inl i, u => { f with ρ := f.ρ.set i u.lv }
  | .inr n, u => { f with S := f.S.set n u }
def clr1 (f : F) : Loc → F
  | .inl i => { f with ρ := f.ρ.set i .no }
  | .inr n => { f with S := f.S.set n .no }
def clr (f : F) : List Loc → F
  | [] => f
  | l :: ls => clr (clr1 f l) ls
def putB (f : F) : List Loc → List SV → Option F
  | [], [] => some f
  | l :: ls, u :: us => putB (put1 f l u) ls us
  | _, _ => none
def doCallR (G : Call) (g : Nat) (f : F) (rvs : List RV) : Res (RR × F) :=
  (ofOpt (toArgs f rvs)).bind fun as => if (locs f rvs).Nodup then (G g as).bind fun p => (ofOpt (putB (clr f (locs f rvs)) (locs f rvs) p.2)).bind fun f2 => .ok (p.1, f2) else .bad
def doCall (G : Call) (g : Nat) (f : F) (rvs : List RV) : Res (RV × F) := (doCallR G g f rvs).bind fun p => (ofOpt p.1.val).bind fun r => .ok (r, p.2)
/-- the object at a place, if it is still to be changed -/
def ownAt (f : F) : RV → Option (Loc × Ob)
  | .vr i => match f.ρ[i]? with
    | some (.own o) => some (.inl i, o)
    | _ => none
  | .ce n => match f.S[n]? with
    | some (.own o) => some (.inr n, o)
    | _ => none
  | _ => none
mutual
def bindT : Tg → D → List LV → Option (List LV)
  | .name i, x, ρ => some (ρ.set i (.d x))
  | .tup ts, .tuple ds, ρ => bindTs ts ds ρ
  | .tup _, _, _ => none
def bindTs : List Tg → List D → List LV → Option (List LV)
  | [], [], ρ => some ρ
  | t :: ts, d :: ds, ρ => (bindT t d ρ).bind fun ρ1 => bindTs ts ds ρ1
  | _, _, _ => none
end
def wipeL (ρ : List LV) : List Nat → List LV
  | [] => ρ
  | v :: vs => (wipeL ρ vs).set v .no
def backL (ρ0 ρ : List LV) : List Nat → List LV
  | [] => ρ
  | v :: vs => (backL ρ0 ρ vs).set v (ρ0.getD v .no)
def permR {α : Type} (rs : List α) (pm : List Nat) : List α := pm.filterMap fun i => rs[i]?
def noOwn (ρ : List LV) (vs : List Nat) : Bool := vs.all fun v => match ρ[v]? with
  | some (.own _) => false
  | some _ => true
  | none => false
/-- the slots of a comprehension's names are kept as data first -/
def frz1 (f : F) (v : Nat) : F := match f.ρ[v]? with
  | some (.own o) => { f with ρ := f.ρ.set v (.d o.d) }
  | _ => f
def frzV (f : F) : List Nat → F
  | [] => f
  | v :: vs => frzV (frz1 f v) vs
def kFz (own : List Nat) (p : List D × F) : Res (List D × F) := .ok (p.1, frzV p.2 own)
mutual
def eqD : D → D → Bool
  | .none, .none => true
  | .bool a, .bool b => a == b
  | .int a, .int b => a == b
  | .str a, .str b => decide (a = b)
  | .list a, .list b => eqDs a b
  | .tuple a, .tuple b => eqDs a b
  | _, _ => false
def eqDs : List D → List D → Bool
  | [], [] => true
  | x :: xs, y :: ys => eqD x y && eqDs xs ys
  | _, _ => false
end
/-- the list in a slot -/
def lstAt (f : F) (j : Nat) : Option (List D) := match f.ρ[j]? with
  | some (.own (.lst xs)) => some xs
  | some (.c n) => (match f.S[n]? with
    | some (.own (.lst xs)) => some xs
    | some (.d (.list xs)) => some xs
    | _ => none)
  | _ => none
def keepB (j : Nat) (ds : List D) (f : F) : Bool := match lstAt f j with
  | some xs => eqDs xs ds
  | none => false
def isDat (f : F) (j : Nat) : Option D := match f.ρ[j]? with
  | some (.d x) => some x
  | _ => none
def evK (j : Nat) (ds : List D) (T : F → Res (Bool × F)) (f : F) : Res (Bool × F) := if keepB j ds f = true then T f else .bad
/-- the turns of a comprehension -/
def lcLoop (T : F → Res (Bool × F)) (E : F → Res (RV × F)) (t : Tg) (own : List Nat) : List D → List D → F → Res (List D × F)
  | [], acc, f => .ok (acc, f)
  | x :: xs, acc, f => (ofOpt (bindT t x f.ρ)).bind fun ρ1 => (T { f with ρ := ρ1 }).bind fun p =>
    if p.1 = true then (E p.2).bind fun q => (ofOpt (frz q.2 q.1)).bind fun r => if acc.length < 16777216 then lcLoop T E t own xs (acc ++ [r.1]) { r.2 with ρ := wipeL r.2.ρ own } else .bad
    else lcLoop T E t own xs acc { p.2 with ρ := wipeL p.2.ρ own }
/-- the turns of a comprehension of two clauses -/
def lc2Loop (T : F → Res (Bool × F)) (I1 : F → Res (List D × F)) (T1 : F → Res (Bool × F)) (E : F → Res (RV × F)) (t t1 : Tg) (own own1 : List Nat) : List D → List D → F → Res (List D × F)
  | [], acc, f => .ok (acc, f)
  | x :: xs, acc, f => (ofOpt (bindT t x f.ρ)).bind fun ρ1 => (T { f with ρ := ρ1 }).bind fun p =>
    if p.1 = true then (I1 p.2).bind fun q => (lcLoop T1 E t1 own1 q.1 acc { q.2 with ρ := wipeL q.2.ρ own1 }).bind fun r => lc2Loop T I1 T1 E t t1 own own1 xs r.1 { r.2 with ρ := wipeL r.2.ρ own }
    else lc2Loop T I1 T1 E t t1 own own1 xs acc { p.2 with ρ := wipeL p.2.ρ own }
/-- a, a - 1, .. , b + 1 -/
def rangeD (a b : Int) : List D := (List.range (a - b).toNat).map fun i : Nat => PyData.int (a - (i : Int))
def rangeL (a b : Int) : List D := (List.range (b - a).toNat).map fun i : Nat => PyData.int (a + (i : Int))
def rangeR (a : Int) (n : Nat) (c : Int) : List D := (List.range n).map fun i : Nat => PyData.int (a + (i : Int) * c)
def bnd (i : Int) : Bool := decide (-(2 ^ 62) ≤ i) && decide (i < 2 ^ 62)
def enumL : Nat → List D → List D
  | _, [] => []
  | n, x :: r => .tuple [.int n, x] :: enumL (n + 1) r
def zipL : List D → List D → List D
  | x :: r, y :: s => .tuple [x, y] :: zipL r s
  | _, _ => []
/-- a method: by its name, the object's type, how many arguments -/
def meTab : List ((String × String × Nat) × Op) := [(("get", "dict", 1), .mget1), (("get", "dict", 2), .mget2), (("index", "list", 1), .lindex), (("count", "list", 1), .lcount), (("count", "str", 1), .mcount)]
def plT (nm : Str) (n : Nat) : Option Op := if nm = "index" ∧ n = 1 then some .tindex else if nm = "count" ∧ n = 1 then some .tcount else none
def meT (nm : Str) (T : String) (n : Nat) : Option Op := (meTab.find? fun r => decide (Str.ofString r.1.1 = nm) && (r.1.2.1 == T) && (r.1.2.2 == n)).map (·.2)
/-- the method's operation; of a tuple only where it is known how it is laid -/
def meR (f : F) (nm : Str) (n : Nat) : RV → Option Op
  | .d x => if isPl x = true then plT nm n else meT nm (tyD (norm x)) n
  | r => (view f r).bind fun y => meT nm (tyD y) n
mutual
def tgI : Tg → List Nat
  | .name i => [i]
  | .tup ts => tgIs ts
def tgIs : List Tg → List Nat
  | [] => []
  | t :: ts => tgI t ++ tgIs ts
end
mutual
def evE (G : Call) : Ex → F → Res (RV × F)
  | .k x, f => .ok (.d x, f)
  | .v i, f => match f.ρ[i]? with
    | some (.d x) => .ok (.d x, f)
    | some (.own _) => .ok (.vr i, f)
    | some (.c n) => .ok (.ce n, f)
    | _ => .bad
  | .op o es, f => (evEs G es f).bind fun p => (ofOpt ((views p.2 p.1).bind o.run)).bind fun r => .ok (r.rv, p.2)
  | .tup es, f => (evEs G es f).bind fun p => (ofOpt (frzs p.2 p.1)).bind fun q => if q.1.length ≤ 16777216 then .ok (.d (.tuple q.1), q.2) else .bad
  | .lst es, f => (evEs G es f).bind fun p => (ofOpt (frzs p.2 p.1)).bind fun q => if q.1.length ≤ 16777216 then .ok (.fr (.lst q.1), q.2) else .bad
  | .dct ks es, f => match ks, es with
    | [], [] => .ok (.fr (.dct []), f)
    | _, _ => .bad
  | .sl2 a lo hi, f => (evE G a f).bind fun p => (evE G lo p.2).bind fun q => match q.1 with
    | .d (.int i) => (evE G hi q.2).bind fun r => match r.1 with
      | .d (.int j) => (ofOpt ((view r.2 p.1).bind fun x => sliceD x (some i) (some j))).bind fun rr => .ok (rr.rv, r.2)
      | _ => .bad
    | _ => .bad
  | .tups fl es, f => (evSt G es fl f).bind fun p => (ofOpt (frzs p.2 p.1)).bind fun q => if q.1.length ≤ 16777216 then .ok (.d (.tuple q.1), q.2) else .bad
  | .and a b, f => (evE G a f).bind fun p => (ofOpt ((view p.2 p.1).bind truth)).bind fun t => if t = true then evE G b p.2 else .ok p
  | .or a b, f => (evE G a f).bind fun p => (ofOpt ((view p.2 p.1).bind truth)).bind fun t => if t = true then .ok p else evE G b p.2
  | .ife c a b, f => (evE G c f).bind fun p => (ofOpt ((view p.2 p.1).bind truth)).bind fun t => if t = true then evE G a p.2 else evE G b p.2
  | .ch o o' a b c, f => (evE G a f).bind fun p => (evE G b p.2).bind fun q => (ofOpt ((views q.2 [p.1, q.1]).bind o.run)).bind fun r => match r with
    | .d (.bool true) => (evE G c q.2).bind fun u => (ofOpt ((views u.2 [q.1, u.1]).bind o'.run)).bind fun r2 => .ok (r2.rv, u.2)
    | .d (.bool false) => .ok (.d (.bool false), q.2)
    | _ => .bad
  | .call g es, f => (evEs G es f).bind fun p => doCall G g p.2 p.1
  | .callk g pm es, f => (evEs G es f).bind fun p => doCall G g p.2 (permR p.1 pm)
  | .me nm a es, f => (evE G a f).bind fun p => (ofOpt (meR p.2 nm es.length p.1)).bind fun o => (evEs G es p.2).bind fun q => (ofOpt ((views q.2 (p.1 :: q.1)).bind o.run)).bind fun r => .ok (r.rv, q.2)
  | .mu m a es, f => (evE G a f).bind fun p => (ofOpt ((view p.2 p.1).bind fun y => if tyD y = "list" then some () else none)).bind fun _ => (evEs G es p.2).bind fun q => (ofOpt (frzs q.2 q.1)).bind fun r => (ofOpt (ownAt r.2 p.1)).bind fun l => (ofOpt (m.run l.2 r.1)).bind fun u => .ok (.d u.2, put1 r.2 l.1 (.own u.1))
  | .lc t it ifs e own, f => ((evI G it f).bind (kFz own)).bind fun p => if noOwn p.2.ρ own = true ∧ (tgI t).all (own.contains ·) = true then
      (lcLoop (evT G ifs) (evE G e) t own p.1 [] { p.2 with ρ := wipeL p.2.ρ own }).bind fun q => .ok (.fr (.lst q.1), { q.2 with ρ := backL p.2.ρ q.2.ρ own })
    else .bad
  | .lck t j ifs e own, f => match isDat f j with
    | some x => (((ofOpt (itemsD (norm x))).bind fun l => .ok (l, f)).bind (kFz own)).bind fun p => if noOwn p.2.ρ own = true ∧ (tgI t).all (own.contains ·) = true then
      (lcLoop (evT G ifs) (evE G e) t own p.1 [] { p.2 with ρ := wipeL p.2.ρ own }).bind fun q => .ok (.fr (.lst q.1), { q.2 with ρ := backL p.2.ρ q.2.ρ own })
      else .bad
    | none => (ofOpt (lstAt f j)).bind fun ds => if noOwn (frzV f own).ρ own = true ∧ (tgI t).all (own.contains ·) = true ∧ own.contains j = false then
      (lcLoop (evK j ds (evT G ifs)) (evE G e) t own ds [] { (frzV f own) with ρ := wipeL (frzV f own).ρ own }).bind fun q => if keepB j ds q.2 = true then .ok (.fr (.lst q.1), { q.2 with ρ := backL (frzV f own).ρ q.2.ρ own }) else .bad
    else .bad
  | .lc2 t it ifs t1 it1 ifs1 e own own1, f => ((evI G it f).bind (kFz own)).bind fun p => if noOwn p.2.ρ own = true ∧ (tgI t).all (own.contains ·) = true ∧ (tgI t1).all (own1.contains ·) = true ∧ own1.all (own.contains ·) = true then
      (lc2Loop (evT G ifs) (evI G it1) (evT G ifs1) (evE G e) t t1 own own1 p.1 [] { p.2 with ρ := wipeL p.2.ρ own }).bind fun q => .ok (.fr (.lst q.1), { q.2 with ρ := backL p.2.ρ q.2.ρ own })
    else .bad
def evEs (G : Call) : List Ex → F → Res (List RV × F)
  | [], f => .ok ([], f)
  | e :: es, f => (evE G e f).bind fun p => (evEs G es p.2).bind fun q => .ok (p.1 :: q.1, q.2)
/-- .. some with a star -/
def evSt (G : Call) : List Ex → List Bool → F → Res (List RV × F)
  | [], _, f => .ok ([], f)
  | e :: es, fl, f => (evE G e f).bind fun p => match fl.headD false, p.1 with
    | false, r => (evSt G es fl.tail p.2).bind fun q => .ok (r :: q.1, q.2)
    | true, .d (.tuple ds) => (evSt G es fl.tail p.2).bind fun q => .ok (ds.map RV.d ++ q.1, q.2)
    | true, .d (.list ds) => (evSt G es fl.tail p.2).bind fun q => .ok (ds.map RV.d ++ q.1, q.2)
    | true, _ => .bad
/-- all tests of a comprehension -/
def evT (G : Call) : List Ex → F → Res (Bool × F)
  | [], f => .ok (true, f)
  | e :: es, f => (evE G e f).bind fun p => (ofOpt ((view p.2 p.1).bind truth)).bind fun t => if t = true then evT G es p.2 else .ok (false, p.2)
def evI (G : Call) : It → F → Res (List D × F)
  | .seq e, f => (evE G e f).bind fun p => (ofOpt (frz p.2 p.1)).bind fun q => (ofOpt (itemsD q.1)).bind fun l => .ok (l, q.2)
  | .rng es, f => (evEs G es f).bind fun p => (ofOpt (views p.2 p.1)).bind fun ds => match ds with
    | [.int b] => if bnd b = true ∧ b ≤ 16777216 then .ok (rangeL 0 b, p.2) else .bad
    | [.int a, .int b] => if bnd a = true ∧ bnd b = true ∧ b - a ≤ 16777216 then .ok (rangeL a b, p.2) else .bad
    | [.int a, .int b, .int c] => if bnd a = true ∧ bnd b = true ∧ c = -1 ∧ a - b ≤ 16777216 then .ok (rangeD a b, p.2) else .bad
    | _ => .bad
  | .enum e, f => (evE G e f).bind fun p => (ofOpt (frz p.2 p.1)).bind fun q => match q.1 with
    | .list ds => .ok (enumL 0 ds, q.2)
    | .tuple ds => .ok (enumL 0 ds, q.2)
    | .str s => if s.length ≤ 16777216 then .ok (enumL 0 (signs s), q.2) else .bad
    | _ => .bad
  | .zip a b, f => (evE G a f).bind fun p => (evE G b p.2).bind fun q => (ofOpt (frzs q.2 [p.1, q.1])).bind fun r => match r.1 with
    | [.list xs, .list ys] => .ok (zipL xs ys, r.2)
    | [.tuple xs, .tuple ys] => .ok (zipL xs ys, r.2)
    | _ => .bad
  | .items e, f => .bad
end
/-- a call that may let an exception out -/
def evX (G : Call) : Ex → F → Res (RR × F)
  | .call g es, f => (evEs G es f).bind fun p => doCallR G g p.2 p.1
  | .callk g pm es, f => (evEs G es f).bind fun p => doCallR G g p.2 (permR p.1 pm)
  | _, _ => .bad
/-! ### statements -/
inductive Out where
  | nx (f : F) | rt (r : RR) (f : F) | bk (f : F) | ct (f : F) | bad
def Out.of {α : Type} (x : Res α) (g : α → Out) : Out := match x with
  | .ok a => g a
  | .bad => .bad
def Out.seq (x : Out) (g : F → Out) : Out := match x with
  | .nx f => g f
  | y => y
/-- a name takes what an expression gives -/
def bindN (f : F) (i : Nat) : RV → Option F
  | .d x => some { f with ρ := f.ρ.set i (.d x) }
  | .fr o => some { f with ρ := f.ρ.set i (.own o) }
  | .ce n => some { f with ρ := f.ρ.set i (.c n) }
  | r => (frz f r).map fun p => { p.2 with ρ := p.2.ρ.set i (.d p.1) }
/-- slots' objects are kept as data -/
def prepN (f : F) : List RV → Option (List RV × F)
  | [] => some ([], f)
  | .vr i :: rs => (frz f (.vr i)).bind fun p => (prepN p.2 rs).bind fun q => some (.d p.1 :: q.1, q.2)
  | r :: rs => (prepN f rs).bind fun q => some (r :: q.1, q.2)
def bindNs (f : F) : List Nat → List RV → Option F
  | [], [] => some f
  | i :: is, r :: rs => (bindN f i r).bind fun f1 => bindNs f1 is rs
  | _, _ => none
/-- what a def hands back -/
def retR (f : F) : RV → Option (RR × F)
  | .d x => some (.d x, f)
  | .fr o => some (.fr o, f)
  | .vr i => match f.ρ[i]? with
    | some (.own o) => some (.fr o, { f with ρ := f.ρ.set i .no })
    | some (.d x) => some (.d x, f)
    | _ => none
  | r => (frz f r).map fun p => (.d p.1, p.2)
def forLoop (B : F → Out) (t : Tg) : List D → F → Out
  | [], f => .nx f
  | x :: xs, f => match bindT t x f.ρ with
    | none => .bad
    | some ρ1 => match B { f with ρ := ρ1 } with
      | .nx f2 => forLoop B t xs f2
      | .ct f2 => forLoop B t xs f2
      | .bk f2 => .nx f2
      | .rt r f2 => .rt r f2
      | .bad => .bad
/-- the list that came by reference as the n-th -/
def lstS (f : F) (n : Nat) : Option (List D) := match f.S[n]? with
  | some (.own (.lst xs)) => some xs
  | some (.d (.list xs)) => some xs
  | _ => none
def keepS (n : Nat) (ds : List D) (f : F) : Bool := match lstS f n with
  | some xs => eqDs xs ds
  | none => false
def refAt (f : F) (j : Nat) : Option Nat := match f.ρ[j]? with
  | some (.c n) => some n
  | _ => none
def forLoopK (n : Nat) (ds : List D) (B : F → Out) (t : Tg) : List D → F → Out
  | [], f => if keepS n ds f = true then .nx f else .bad
  | x :: xs, f => if keepS n ds f = true then (match bindT t x f.ρ with
    | none => .bad
    | some ρ1 => match B { f with ρ := ρ1 } with
      | .nx f2 => forLoopK n ds B t xs f2
      | .ct f2 => forLoopK n ds B t xs f2
      | .bk f2 => .nx f2
      | .rt r f2 => .rt r f2
      | .bad => .bad) else .bad
def whlLoop (C : F → Res (Bool × F)) (B : F → Out) : Nat → F → Out
  | 0, _ => .bad
  | n + 1, f => Out.of (C f) fun p => if p.1 = true then match B p.2 with
      | .nx f2 => whlLoop C B n f2
      | .ct f2 => whlLoop C B n f2
      | .bk f2 => .nx f2
      | .rt r f2 => .rt r f2
      | .bad => .bad
    else .nx p.2
def fuel : Nat := 1000000
def evC (G : Call) (e : Ex) (f : F) : Res (Bool × F) := (evE G e f).bind fun p => (ofOpt ((view p.2 p.1).bind truth)).bind fun t => .ok (t, p.2)
def augI : Op → Int → D → Option Int
  | .add, a, .int b => some (a + b)
  | .sub, a, .int b => some (a - b)
  | _, _, _ => none
def kClx (p : RR × F) : Out := match p.1 with
  | .ex c => .rt (.ex c) p.2
  | _ => .nx p.2
def kClr (p : RR × F) : Out := .rt p.1 p.2
def kCla (i : Nat) (p : RR × F) : Out := match p.1 with
  | .ex c => .rt (.ex c) p.2
  | .d x => Out.of (ofOpt (bindN p.2 i (.d x))) .nx
  | .fr o => Out.of (ofOpt (bindN p.2 i (.fr o))) .nx
def kClt (ts : List Tg) (p : RR × F) : Out := match p.1 with
  | .ex c => .rt (.ex c) p.2
  | .d x => Out.of (ofOpt (bindT (.tup ts) x p.2.ρ)) fun ρ1 => .nx { p.2 with ρ := ρ1 }
  | .fr o => Out.of (ofOpt (bindT (.tup ts) o.d p.2.ρ)) fun ρ1 => .nx { p.2 with ρ := ρ1 }
/-- what a try makes of its body's end; h: the clause's suite -/
def noEx : Out → Out
  | .rt (.ex _) _ => .bad
  | o => o
def kTry (cs all : List Str) (h : F → Out) : Out → Out
  | .rt (.ex c) f => if all.contains c = true then (if cs.contains c = true then noEx (h f) else .rt (.ex c) f) else .bad
  | o => o
mutual
def xS (G : Call) : Sm → F → Out
  | .ex e, f => Out.of (evE G e f) fun p => .nx p.2
  | .asg (.name i) e, f => Out.of (evE G e f) fun p => Out.of (ofOpt (bindN p.2 i p.1)) .nx
  | .asg t e, f => Out.of (evE G e f) fun p => Out.of (ofOpt (frz p.2 p.1)) fun q => Out.of (ofOpt (bindT t q.1 q.2.ρ)) fun ρ1 => .nx { q.2 with ρ := ρ1 }
  | .par is es, f => Out.of (evEs G es f) fun p => Out.of (ofOpt (prepN p.2 p.1)) fun q => Out.of (ofOpt (bindNs q.2 is q.1)) .nx
  | .sub a i e, f => Out.of (evE G e f) fun p => Out.of (ofOpt (frz p.2 p.1)) fun y => Out.of (evE G a y.2) fun q => Out.of (evE G i q.2) fun r => Out.of (ofOpt (view r.2 r.1)) fun k =>
      Out.of (ofOpt (ownAt r.2 q.1)) fun l => Out.of (ofOpt (putO l.2 k y.1)) fun o => .nx (put1 r.2 l.1 (.own o))
  | .tsub a i j e, f => Out.of (evE G e f) fun p => Out.of (ofOpt (frz p.2 p.1)) fun y => match y.1 with
    | .tuple [y1, y2] => Out.of (evE G a y.2) fun q => Out.of (evE G i q.2) fun r => Out.of (ofOpt (view r.2 r.1)) fun k =>
      Out.of (ofOpt (ownAt r.2 q.1)) fun l => Out.of (ofOpt (putO l.2 k y1)) fun o => let f3 := put1 r.2 l.1 (.own o); .nx { f3 with ρ := f3.ρ.set j (.d y2) }
    | _ => .bad
  | .aug i o e, f => match f.ρ[i]? with
    | some (.d (.int a)) => Out.of (evE G e f) fun p => Out.of (ofOpt ((view p.2 p.1).bind fun y => augI o a y)) fun z => .nx { p.2 with ρ := p.2.ρ.set i (.d (.int z)) }
    | _ => .bad
  | .ret e, f => Out.of (evE G e f) fun p => Out.of (ofOpt (retR p.2 p.1)) fun q => .rt q.1 q.2
  | .retN, f => .rt (.d .none) f
  | .ifs c a b, f => Out.of (evC G c f) fun p => if p.1 = true then xSs G a p.2 else xSs G b p.2
  | .for t it b, f => Out.of (evI G it f) fun p => forLoop (xSs G b) t p.1 p.2
  | .fork t j b, f => match isDat f j with
    | some x => Out.of (ofOpt (itemsD (norm x))) fun ds => forLoop (xSs G b) t ds f
    | none => Out.of (ofOpt (refAt f j)) fun n => Out.of (ofOpt (lstS f n)) fun ds => forLoopK n ds (xSs G b) t ds f
  | .whl c b, f => whlLoop (evC G c) (xSs G b) fuel f
  | .brk, f => .bk f
  | .cont, f => .ct f
  | .pass, f => .nx f
  | .never, _ => .bad
  | .raise c, f => .rt (.ex c) f
  | .clx e, f => Out.of (evX G e f) kClx
  | .clr e, f => Out.of (evX G e f) kClr
  | .cla i e, f => Out.of (evX G e f) (kCla i)
  | .clt ts e, f => Out.of (evX G e f) (kClt ts)
  | .trys b cs all h, f => kTry cs all (xSs G h) (xSs G b f)
def xSs (G : Call) : List Sm → F → Out
  | [], f => .nx f
  | s :: ss, f => (xS G s f).seq (xSs G ss)
end
/-- a def: parameters, slots, body -/
structure Df where
  np : Nat
  ns : Nat
  body : List Sm
def entR : Nat → List Arg → List LV
  | _, [] => []
  | n, .d x :: r => .d x :: entR n r
  | n, .o o :: r => .own o :: entR n r
  | n, .r _ :: r => .c n :: entR (n + 1) r
def entS : List Arg → List SV
  | [] => []
  | .r o :: r => .own o :: entS r
  | _ :: r => entS r
def entry (d : Df) (args : List Arg) : F := ⟨entR 0 args ++ List.replicate (d.ns - d.np) .no, entS args⟩
def SV.ok : SV → Bool
  | .no => false
  | _ => true
def runD (defs : List Df) : Nat → Call
  | 0, _, _ => .bad
  | n + 1, g, args => match defs[g]? with
    | none => .bad
    | some d => if args.length = d.np then match xSs (runD defs n) d.body (entry d args) with
        | .rt r f => if f.S.all SV.ok = true then .ok (r, f.S) else .bad
        | .nx f => if f.S.all SV.ok = true then .ok (.d .none, f.S) else .bad
        | _ => .bad
      else .bad
/-- one place for this equation -/
theorem evI_def (G : Call) (it : It) (f : F) : evI G it f = evI G it f := by
  unfold evI
  rfl
end Vm
set_option maxRecDepth 100000
set_option maxHeartbeats 4000000
namespace Vm
open PySem PySem.Spec L2
section
variable {K : PySem.W.Frag} {A A' : ASet} {H H' : Hp} {as : List Addr} {σ σ' : L2.St} {f : F}
/-- what a slot's new content asks -/
def SlotNew (K : PySem.W.Frag) (A A' : ASet) (as : List Addr) (f : F) (σ σ' : L2.St) (H H' : Hp) (i : Nat) : LV → Prop
  | .no => True
  | .d x => ∃ v, σ'[i]? = some (some v) ∧ RdP K (fun b => Lv A f as σ b ∧ ¬ ∃ o0, f.ρ[i]? = some (.own o0) ∧ σ[i]? = some (some (.ref b))) H' x v
  | .own o => ∃ a, σ'[i]? = some (some (.ref a)) ∧ ObR K (Lv A f as σ) H' a o ∧ ¬ A' a ∧ (A a ∨ ∃ o0, f.ρ[i]? = some (.own o0) ∧ σ[i]? = some (some (.ref a)))
  | .c n => ∃ a, as[n]? = some a ∧ σ'[i]? = some (some (.ref a))
theorem Rel.setSlot {i : Nat} {l : LV} (R : Rel K A as f σ H) (hi : i < f.ρ.length) (hσ : ∀ j, j ≠ i → σ'[j]? = σ[j]?) (hl : σ'.length = σ.length) (hA : ∀ a, A' a → A a)
    (hk : ∀ a, Own f as σ a → ¬ (∃ o, f.ρ[i]? = some (.own o) ∧ σ[i]? = some (some (.ref a))) → H' a = H a) (hn : ∀ a o, H a = some o → ¬ Lv A f as σ a → H' a = some o)
    (al : ∀ a, A' a → ∃ o, H' a = some o) (hx : SlotNew K A A' as f σ σ' H H' i l) :
    Rel K A' as { f with ρ := f.ρ.set i l } σ' H' ∧ Ext (Lv A f as σ) H (Lv A' { f with ρ := f.ρ.set i l } as σ') H' := by
  have get : ∀ j, (f.ρ.set i l)[j]? = if j = i then some l else f.ρ[j]? := fun j => by
    by_cases h : j = i
    · subst h; rw [if_pos rfl, List.getElem?_set_self hi]
    · rw [if_neg h, List.getElem?_set_ne (Ne.symm h)]
  have own : ∀ a, Own { f with ρ := f.ρ.set i l } as σ' a → Lv A f as σ a := fun a h => by
    rcases h with ⟨j, o, e, e'⟩ | ⟨n, o, e, e'⟩
    · have e : (f.ρ.set i l)[j]? = some (.own o) := e
      rw [get] at e
      by_cases h : j = i
      · rw [if_pos h] at e; cases e
        obtain ⟨b, h1, _, _, h4⟩ := hx
        rw [h, h1] at e'; cases e'
        rcases h4 with h4 | ⟨o0, h4, h5⟩
        · exact .inl h4
        · exact .inr (.inl ⟨i, o0, h4, h5⟩)
      · rw [if_neg h] at e
        rw [hσ j h] at e'
        exact .inr (.inl ⟨j, o, e, e'⟩)
    · exact .inr (.inr ⟨n, o, e, e'⟩)
  have less : ∀ a, Lv A' { f with ρ := f.ρ.set i l } as σ' a → Lv A f as σ a := fun a h => h.elim (fun z => .inl (hA a z)) (own a)
  have x : Ext (Lv A f as σ) H (Lv A' { f with ρ := f.ρ.set i l } as σ') H' := fun a o e n => ⟨hn a o e n, fun z => n (less a z)⟩
  have x' : Ext (Lv A f as σ) H' (Lv A' { f with ρ := f.ρ.set i l } as σ') H' := Ext.less less
  refine ⟨⟨?_, R.lenS, fun j y e => ?_, fun j o e => ?_, fun j n e => ?_, fun n y a e e' => ?_, fun n o a e e' => ?_, fun j k a o o' e1 e2 e3 e4 => ?_, fun j n a o o' e1 e2 e3 e4 => ?_, R.i3, al⟩, x⟩
  · show _ = (f.ρ.set i l).length
    rw [List.length_set, hl, R.lenσ]
  · have e : (f.ρ.set i l)[j]? = some (.d y) := e
    rw [get] at e
    by_cases h : j = i
    · rw [if_pos h] at e; cases e; subst h
      obtain ⟨v, h1, h2⟩ := hx
      refine ⟨v, h1, h2.ext (Ext.less fun b z => ⟨less b z, ?_⟩)⟩
      rintro ⟨o0, z1, z2⟩
      rcases z with z | ⟨k, o, e, e'⟩ | ⟨n, o, e, e'⟩
      · exact R.nA (.inl ⟨j, o0, z1, z2⟩) (hA b z)
      · have e : (f.ρ.set j (.d y))[k]? = some (.own o) := e
        rw [get] at e
        by_cases hk' : k = j
        · rw [if_pos hk'] at e; cases e
        · rw [if_neg hk'] at e
          rw [hσ k hk'] at e'
          exact hk' (R.i1 k j b o o0 e z1 e' z2)
      · exact R.i2 j n b o0 o z1 e z2 e'
    · rw [if_neg h] at e
      obtain ⟨v, h1, h2⟩ := R.sd j y e
      exact ⟨v, by rw [hσ j h]; exact h1, h2.ext x⟩
  · have e : (f.ρ.set i l)[j]? = some (.own o) := e
    rw [get] at e
    by_cases h : j = i
    · rw [if_pos h] at e; cases e; subst h
      obtain ⟨a, h1, h2, h3, _⟩ := hx
      exact ⟨a, h1, h2.ext x' rfl, h3⟩
    · rw [if_neg h] at e
      obtain ⟨a, h1, h2, h3⟩ := R.so j o e
      refine ⟨a, by rw [hσ j h]; exact h1, h2.ext x (hk a (.inl ⟨j, o, e, h1⟩) ?_), fun z => h3 (hA a z)⟩
      rintro ⟨o0, z1, z2⟩
      exact h (R.i1 j i a o o0 e z1 h1 z2)
  · have e : (f.ρ.set i l)[j]? = some (.c n) := e
    rw [get] at e
    by_cases h : j = i
    · rw [if_pos h] at e; cases e; subst h
      exact hx
    · rw [if_neg h] at e
      obtain ⟨a, h1, h2⟩ := R.sc j n e
      exact ⟨a, h1, by rw [hσ j h]; exact h2⟩
  · exact (R.cd n y a e e').ext x
  · obtain ⟨h1, h2⟩ := R.co n o a e e'
    refine ⟨h1.ext x (hk a (.inr ⟨n, o, e, e'⟩) ?_), fun z => h2 (hA a z)⟩
    rintro ⟨o0, z1, z2⟩
    exact R.i2 i n a o0 o z1 e z2 e'
  · have g1 : (f.ρ.set i l)[j]? = some (.own o) := e1
    have g2 : (f.ρ.set i l)[k]? = some (.own o') := e2
    rw [get] at g1 g2
    clear e1 e2
    by_cases h : j = i
    · by_cases h' : k = i
      · rw [h, h']
      · exfalso
        rw [if_neg h'] at g2
        rw [if_pos h] at g1; cases g1
        rw [hσ k h'] at e4
        obtain ⟨b, q1, _, _, q4⟩ := hx
        rw [h, q1] at e3; cases e3
        rcases q4 with q4 | ⟨o0, q4, q5⟩
        · exact R.nA (.inl ⟨k, o', g2, e4⟩) q4
        · exact h' (R.i1 k i a o' o0 g2 q4 e4 q5)
    · rw [if_neg h] at g1
      rw [hσ j h] at e3
      by_cases h' : k = i
      · exfalso
        rw [if_pos h'] at g2; cases g2
        obtain ⟨b, q1, _, _, q4⟩ := hx
        rw [h', q1] at e4; cases e4
        rcases q4 with q4 | ⟨o0, q4, q5⟩
        · exact R.nA (.inl ⟨j, o, g1, e3⟩) q4
        · exact h (R.i1 j i a o o0 g1 q4 e3 q5)
      · rw [if_neg h'] at g2
        rw [hσ k h'] at e4
        exact R.i1 j k a o o' g1 g2 e3 e4
  · have e1 : (f.ρ.set i l)[j]? = some (.own o) := e1
    rw [get] at e1
    by_cases h : j = i
    · rw [if_pos h] at e1; cases e1
      obtain ⟨b, q1, _, _, q4⟩ := hx
      rw [h, q1] at e3; cases e3
      rcases q4 with q4 | ⟨o0, q4, q5⟩
      · exact R.nA (.inr ⟨n, o', e2, e4⟩) q4
      · exact R.i2 i n a o0 o' q4 e2 q5 e4
    · rw [if_neg h] at e1
      rw [hσ j h] at e3
      exact R.i2 j n a o o' e1 e2 e3 e4
/-- .. an argument's object's -/
def CellNew (K : PySem.W.Frag) (A A' : ASet) (as : List Addr) (f : F) (σ : L2.St) (H H' : Hp) (n : Nat) (a : Addr) : SV → Prop
  | .no => True
  | .d x => Rd K (fun b => Lv A f as σ b ∧ b ≠ a) H' x (.ref a) ∧ ∃ o, H' a = some o
  | .own o => ObR K (Lv A f as σ) H' a o ∧ ¬ A' a ∧ ∃ o0, f.S[n]? = some (.own o0)
theorem Rel.setCell {n : Nat} {u : SV} {a : Addr} (R : Rel K A as f σ H) (hn0 : as[n]? = some a) (hA : ∀ a, A' a → A a)
    (hk : ∀ b, Own f as σ b → b ≠ a → H' b = H b) (hn : ∀ a o, H a = some o → ¬ Lv A f as σ a → H' a = some o)
    (al : ∀ a, A' a → ∃ o, H' a = some o) (ho : ∃ o0, f.S[n]? = some (.own o0)) (hx : CellNew K A A' as f σ H H' n a u) :
    Rel K A' as { f with S := f.S.set n u } σ H' ∧ Ext (Lv A f as σ) H (Lv A' { f with S := f.S.set n u } as σ) H' := by
  obtain ⟨o0, ho⟩ := ho
  have hi : n < f.S.length := (List.getElem?_eq_some_iff.mp ho).1
  have get : ∀ j, (f.S.set n u)[j]? = if j = n then some u else f.S[j]? := fun j => by
    by_cases h : j = n
    · subst h; rw [if_pos rfl, List.getElem?_set_self hi]
    · rw [if_neg h, List.getElem?_set_ne (Ne.symm h)]
  have own : ∀ b, Own { f with S := f.S.set n u } as σ b → Own f as σ b := fun b h => by
    rcases h with h | ⟨j, o, e, e'⟩
    · exact .inl h
    · have e : (f.S.set n u)[j]? = some (.own o) := e
      rw [get] at e
      by_cases h : j = n
      · subst h; exact .inr ⟨j, o0, ho, e'⟩
      · rw [if_neg h] at e
        exact .inr ⟨j, o, e, e'⟩
  have less : ∀ b, Lv A' { f with S := f.S.set n u } as σ b → Lv A f as σ b := fun b h => h.imp (hA b) (own b)
  have x : Ext (Lv A f as σ) H (Lv A' { f with S := f.S.set n u } as σ) H' := fun b o e q => ⟨hn b o e q, fun z => q (less b z)⟩
  have x' : Ext (Lv A f as σ) H' (Lv A' { f with S := f.S.set n u } as σ) H' := Ext.less less
  have oa : Own f as σ a := .inr ⟨n, o0, ho, hn0⟩
  refine ⟨⟨R.lenσ, ?_, fun j y e => ?_, fun j o e => ?_, R.sc, fun m y b e e' => ?_, fun m o b e e' => ?_, R.i1, fun j m b o o' e1 e2 e3 e4 => ?_, fun m k b o o' e1 e2 e3 e4 => ?_, al⟩, x⟩
  · show _ = (f.S.set n u).length
    rw [List.length_set, R.lenS]
  · obtain ⟨v, h1, h2⟩ := R.sd j y e
    exact ⟨v, h1, h2.ext x⟩
  · obtain ⟨b, h1, h2, h3⟩ := R.so j o e
    have nb : b ≠ a := fun z => by subst z; exact R.i2 j n b o o0 e ho h1 hn0
    exact ⟨b, h1, h2.ext x (hk b (.inl ⟨j, o, e, h1⟩) nb), fun z => h3 (hA b z)⟩
  · have e : (f.S.set n u)[m]? = some (.d y) := e
    rw [get] at e
    by_cases h : m = n
    · rw [if_pos h] at e; cases e; subst h
      rw [hn0] at e'; cases e'
      have nl : ¬ Lv A' { f with S := f.S.set m (.d y) } as σ a := fun z => by
        rcases z with z | z
        · exact R.nA oa (hA a z)
        · rcases z with ⟨j, o, e, e'⟩ | ⟨k, o, e, e'⟩
          · exact R.i2 j m a o o0 e ho e' hn0
          · have e : (f.S.set m (.d y))[k]? = some (.own o) := e
            rw [get] at e
            by_cases hk' : k = m
            · rw [if_pos hk'] at e; cases e
            · rw [if_neg hk'] at e
              exact hk' (R.i3 k m a o o0 e ho e' hn0)
      exact ⟨Rd.ext (Ext.less fun b z => ⟨less b z, fun zb => nl (by rw [← zb]; exact z)⟩) hx.1, nl, hx.2⟩
    · rw [if_neg h] at e
      exact (R.cd m y b e e').ext x
  · have e : (f.S.set n u)[m]? = some (.own o) := e
    rw [get] at e
    by_cases h : m = n
    · rw [if_pos h] at e; cases e; subst h
      rw [hn0] at e'; cases e'
      obtain ⟨q1, q2, _⟩ := hx
      exact ⟨q1.ext x' rfl, q2⟩
    · rw [if_neg h] at e
      obtain ⟨q1, q2⟩ := R.co m o b e e'
      have nb : b ≠ a := fun z => by subst z; exact h (R.i3 m n b o o0 e ho e' hn0)
      exact ⟨q1.ext x (hk b (.inr ⟨m, o, e, e'⟩) nb), fun z => q2 (hA b z)⟩
  · have e2 : (f.S.set n u)[m]? = some (.own o') := e2
    rw [get] at e2
    by_cases h : m = n
    · rw [h] at e4; exact R.i2 j n b o o0 e1 ho e3 e4
    · rw [if_neg h] at e2; exact R.i2 j m b o o' e1 e2 e3 e4
  · have e1 : (f.S.set n u)[m]? = some (.own o) := e1
    have e2 : (f.S.set n u)[k]? = some (.own o') := e2
    rw [get] at e1 e2
    have q : ∀ j, (∃ o, (if j = n then some u else f.S[j]?) = some (.own o)) → ∃ o, f.S[j]? = some (.own o) := fun j ⟨o, z⟩ => by
      by_cases h : j = n
      · rw [h]; exact ⟨o0, ho⟩
      · rw [if_neg h] at z; exact ⟨o, z⟩
    obtain ⟨p1, z1⟩ := q m ⟨o, e1⟩
    obtain ⟨p2, z2⟩ := q k ⟨o', e2⟩
    exact R.i3 m k b p1 p2 z1 z2 e3 e4
end
end Vm
set_option maxRecDepth 100000
set_option maxHeartbeats 4000000
namespace Vm
open PySem PySem.Spec L2
section
variable {K : PySem.W.Frag} {A A' : ASet} {H H' : Hp} {as : List Addr} {σ σ' : L2.St} {f f' : F} {rv : RV} {v : V} {x : D}
/-- what pends without this value -/
def lessF (A : ASet) : RV → V → ASet
  | .fr _, v => fun a => A a ∧ V.ref a ≠ v
  | _, _ => A
theorem lessF_sub : ∀ {rv : RV} {a : Addr}, lessF A rv v a → A a
  | .d _, _, h => h
  | .fr _, _, h => h.1
  | .vr _, _, h => h
  | .ce _, _, h => h
theorem lessF_mem {P : ASet} (hP : ∀ a, P a → A a) (hn : ∀ o, rv = .fr o → ∀ a, v = .ref a → ¬ P a) : ∀ a, P a → lessF A rv v a := fun a h => by
  cases rv with
  | d _ => exact hP a h
  | fr o => exact ⟨hP a h, fun z => hn o rfl a z.symm h⟩
  | vr _ => exact hP a h
  | ce _ => exact hP a h
theorem lt_of_get {α : Type} {l : List α} {i : Nat} {a : α} (h : l[i]? = some a) : i < l.length := (List.getElem?_eq_some_iff.mp h).1
theorem frz_ok (R : Rel K A as f σ H) (h : RVR K (Lv A f as σ) A as σ H rv v) (e : frz f rv = some (x, f')) :
    Rel K (lessF A rv v) as f' σ H ∧ Rd K (Lv (lessF A rv v) f' as σ) H x v ∧ Ext (Lv A f as σ) H (Lv (lessF A rv v) f' as σ) H := by
  cases rv with
  | d y => cases e; exact ⟨R, RdP.rd h, Ext.refl⟩
  | fr o =>
    cases e
    obtain ⟨p, e1, e2, e3⟩ := h
    subst e1
    have sub : ∀ a, lessF A (.fr o) (.ref p) a → A a := fun a h => h.1
    have x : Ext (Lv A f as σ) H (Lv (lessF A (.fr o) (.ref p)) f as σ) H := ext_less sub
    refine ⟨R.less sub, (e3.ext x rfl).rd fun z => ?_, x⟩
    rcases z with z | z
    · exact z.2 rfl
    · exact R.nA z e2
  | vr i =>
    obtain ⟨a, e1, e2⟩ := h
    subst e1
    unfold frz at e
    simp only at e
    cases q : f.ρ[i]? with
    | none => rw [q] at e; cases e
    | some l =>
      rw [q] at e
      cases l with
      | no => cases e
      | c n => cases e
      | d y =>
        cases e
        obtain ⟨w, h1, h2⟩ := R.sd i y q
        rw [e2] at h1; cases h1
        exact ⟨R, h2.rd, Ext.refl⟩
      | own o =>
        cases e
        obtain ⟨b, h1, h2, h3⟩ := R.so i o q
        rw [e2] at h1; cases h1
        have fz : Rd K (fun b => Lv A f as σ b ∧ ¬ ∃ o0, f.ρ[i]? = some (.own o0) ∧ σ[i]? = some (some (.ref b))) H o.d (.ref a) := (h2.ext (Ext.less fun b z => z.1) rfl).rd fun z => z.2 ⟨o, q, e2⟩
        obtain ⟨R2, x2⟩ := R.setSlot (i := i) (l := .d o.d) (σ' := σ) (A' := A) (H' := H) (lt_of_get q) (fun _ _ => rfl) rfl (fun _ z => z) (fun _ _ _ => rfl) (fun _ _ e _ => e) R.al ⟨_, e2, .inl fz⟩
        obtain ⟨w, h4, h5⟩ := R2.sd i o.d (by show (f.ρ.set i (.d o.d))[i]? = _; rw [List.getElem?_set_self (lt_of_get q)])
        rw [e2] at h4; cases h4
        have h6 := h5.rd
        rw [norm_ob] at h6
        exact ⟨R2, h6, x2⟩
  | ce n =>
    obtain ⟨a, e1, e2⟩ := h
    subst e1
    unfold frz at e
    simp only at e
    cases q : f.S[n]? with
    | none => rw [q] at e; cases e
    | some l =>
      rw [q] at e
      cases l with
      | no => cases e
      | d y => cases e; exact ⟨R, (R.cd n x a q e2).1, Ext.refl⟩
      | own o =>
        cases e
        obtain ⟨h2, h3⟩ := R.co n o a q e2
        have fz : Rd K (fun b => Lv A f as σ b ∧ b ≠ a) H o.d (.ref a) := (h2.ext (Ext.less fun b z => z.1) rfl).rd fun z => z.2 rfl
        obtain ⟨R2, x2⟩ := R.setCell (n := n) (u := .d o.d) (A' := A) (H' := H) e2 (fun _ z => z) (fun _ _ _ => rfl) (fun _ _ e _ => e) R.al ⟨o, q⟩ ⟨fz, h2.some⟩
        exact ⟨R2, (R2.cd n o.d a (by show (f.S.set n (.d o.d))[n]? = _; rw [List.getElem?_set_self (lt_of_get q)]) e2).1, x2⟩
/-! ### several values -/
def RVRs (K : PySem.W.Frag) (L A : ASet) (as : List Addr) (σ : L2.St) (H : Hp) : List RV → List V → Prop
  | [], vs => vs = []
  | r :: rs, vs => ∃ v ws, vs = v :: ws ∧ RVR K L A as σ H r v ∧ RVRs K L A as σ H rs ws
def frs : List RV → List V → List V
  | .fr _ :: rs, v :: vs => v :: frs rs vs
  | _ :: rs, _ :: vs => frs rs vs
  | _, _ => []
structure FrOk (P : ASet) (rvs : List RV) (vs : List V) : Prop where
  nd : (frs rvs vs).Nodup
  np : ∀ a, V.ref a ∈ frs rvs vs → ¬ P a
theorem RVRs.ext {L L' : ASet} (x : Ext L H L' H') (k : ∀ a, A a → H' a = H a) (ha : ∀ a, A a → A' a) : ∀ {rvs : List RV} {vs : List V}, RVRs K L A as σ H rvs vs → RVRs K L' A' as σ H' rvs vs
  | [], _, h => h
  | _ :: _, _, ⟨v, ws, e, h1, h2⟩ => ⟨v, ws, e, h1.ext x k ha, RVRs.ext x k ha h2⟩
theorem Rd1.ext {L L' : ASet} {H : Hp} (x : Ext L H L' H) : ∀ {d : D} {v : V}, Rd1 K L H d v → Rd1 K L' H d v
  | .none, _, h => Rd.ext x h
  | .bool _, _, h => Rd.ext x h
  | .int _, _, h => Rd.ext x h
  | .str _, _, h => Rd.ext x h
  | .tuple _, _, h => Rd.ext x h
  | .list _, _, ⟨a, vs, e, s, r⟩ => ⟨a, vs, e, s, r.ext x⟩
  | .dict _, _, ⟨a, hv, e, s, r⟩ => ⟨a, hv, e, s, r.ext x⟩
def Rd1s (K : PySem.W.Frag) (L : ASet) (H : Hp) : List D → List V → Prop
  | [], vs => vs = []
  | d :: ds, vs => ∃ v ws, vs = v :: ws ∧ Rd1 K L H d v ∧ Rd1s K L H ds ws
theorem Rd1s.ext {L L' : ASet} {H : Hp} (x : Ext L H L' H) : ∀ {ds : List D} {vs : List V}, Rd1s K L H ds vs → Rd1s K L' H ds vs
  | [], _, h => h
  | _ :: _, _, ⟨v, ws, e, h1, h2⟩ => ⟨v, ws, e, h1.ext x, Rd1s.ext x h2⟩
theorem views_rd1 (R : Rel K A as f σ H) : ∀ {rvs : List RV} {vs : List V} {ys : List D}, RVRs K (Lv A f as σ) A' as σ H rvs vs → views f rvs = some ys → Rd1s K (Lv A f as σ) H ys vs
  | [], _, _, h, e => by cases e; exact h
  | r :: rs, _, _, ⟨v, ws, e0, h1, h2⟩, e => by
    unfold views at e
    cases q : view f r with
    | none => rw [q] at e; cases e
    | some y =>
      rw [q] at e
      cases q2 : views f rs with
      | none => simp [q2] at e
      | some ys' =>
        simp only [q2, Option.bind_some] at e
        cases e
        exact ⟨v, ws, e0, view_rd1 R h1 q, views_rd1 R h2 q2⟩
theorem frs_sub : ∀ {rvs : List RV} {vs : List V} {w : V}, RVRs K L A as σ H rvs vs → w ∈ frs rvs vs → ∃ a, w = .ref a ∧ A a
  | [], _, _, _, h => by simp [frs] at h
  | r :: rs, _, w, ⟨v, ws, e0, h1, h2⟩, h => by
    subst e0
    cases r with
    | fr o =>
      rcases List.mem_cons.mp (show w ∈ v :: frs rs ws from h) with e | h
      · subst e
        obtain ⟨p, e, q, _⟩ := h1
        exact ⟨p, e, q⟩
      · exact frs_sub h2 h
    | d _ => exact frs_sub h2 h
    | vr _ => exact frs_sub h2 h
    | ce _ => exact frs_sub h2 h
/-- all of them are kept -/
theorem frzs_ok : ∀ {rvs : List RV} {vs : List V} {ys : List D} {A : ASet} {P : ASet} {f f' : F}, Rel K A as f σ H → RVRs K (Lv A f as σ) A as σ H rvs vs → (∀ a, P a → A a) → FrOk P rvs vs → frzs f rvs = some (ys, f') →
    ∃ A', (∀ a, P a → A' a) ∧ (∀ a, A' a → A a) ∧ Rel K A' as f' σ H ∧ RdA K (Lv A' f' as σ) H ys vs ∧ Ext (Lv A f as σ) H (Lv A' f' as σ) H
  | [], _, _, A, _, _, _, R, h, hP, _, e => by
    cases e
    have h : _ = [] := h
    subst h
    exact ⟨A, hP, fun _ z => z, R, RdA.nil, Ext.refl⟩
  | r :: rs, _, _, A, P, f, f', R, ⟨v, ws, e0, h1, h2⟩, hP, hF, e => by
    subst e0
    unfold frzs at e
    cases q : frz f r with
    | none => rw [q] at e; cases e
    | some p =>
      obtain ⟨y, f1⟩ := p
      rw [q] at e
      cases q2 : frzs f1 rs with
      | none => simp [q2] at e
      | some p2 =>
        obtain ⟨ys', f2⟩ := p2
        simp only [q2, Option.bind_some] at e
        cases e
        obtain ⟨R1, d1, x1⟩ := frz_ok R h1 q
        have hP1 : ∀ a, P a → lessF A r v a := lessF_mem hP fun o eo a ea => by
          subst eo; subst ea
          exact hF.np a (by show V.ref a ∈ V.ref a :: frs rs ws; exact List.mem_cons_self ..)
        have keep : RVRs K (Lv (lessF A r v) f1 as σ) (lessF A r v) as σ H rs ws := by
          have hnd := hF.nd
          clear q q2 d1 hP1 hF
          have go : ∀ (l : List RV) (us : List V), (∀ o, r = .fr o → v ∉ frs l us) → RVRs K (Lv A f as σ) A as σ H l us → RVRs K (Lv (lessF A r v) f1 as σ) (lessF A r v) as σ H l us := by
            intro l
            induction l with
            | nil => intro us _ h; exact h
            | cons r' l ih =>
              rintro us hn ⟨u, us', e0, g1, g2⟩
              subst e0
              refine ⟨u, us', rfl, ?_, ih us' (fun o eo hm => ?_) g2⟩
              · cases r' with
                | d z => exact RdP.ext x1 g1
                | fr o =>
                  obtain ⟨p, ep, ap, op⟩ := g1
                  refine ⟨p, ep, ?_, op.ext x1 rfl⟩
                  cases r with
                  | d _ => exact ap
                  | fr o' =>
                    refine ⟨ap, fun z => ?_⟩
                    have := hn o' rfl
                    rw [ep] at this
                    exact this (by show v ∈ V.ref p :: frs l us'; rw [z]; exact List.mem_cons_self ..)
                  | vr _ => exact ap
                  | ce _ => exact ap
                | vr i => exact g1
                | ce n => exact g1
              · refine hn o eo ?_
                cases r' with
                | d _ => exact hm
                | fr _ => exact List.mem_cons_of_mem _ hm
                | vr _ => exact hm
                | ce _ => exact hm
          refine go rs ws (fun o eo => ?_) h2
          subst eo
          exact (List.nodup_cons.mp (show (v :: frs rs ws).Nodup from hnd)).1
        have hF2 : FrOk P rs ws := by
          refine ⟨?_, fun a ha => hF.np a ?_⟩
          · have := hF.nd
            cases r with
            | d _ => exact this
            | fr _ => exact (List.nodup_cons.mp this).2
            | vr _ => exact this
            | ce _ => exact this
          · cases r with
            | d _ => exact ha
            | fr _ => exact List.mem_cons_of_mem _ ha
            | vr _ => exact ha
            | ce _ => exact ha
        obtain ⟨A2, p1, p2, R2, d2, x2⟩ := frzs_ok R1 keep hP1 hF2 q2
        exact ⟨A2, p1, fun a z => lessF_sub (p2 a z), R2, RdA.cons (d1.ext x2) d2, x1.trans x2⟩
end
end Vm
set_option maxRecDepth 100000
set_option maxHeartbeats 4000000
namespace Vm
open PySem PySem.Spec PyProof.Rows L2
/-! ### a def's promise where no repr runs around it; an exception may leave -/
abbrev SpG := List V → Hp → VK → XK → Prop
abbrev noX : XK := fun _ _ _ => False
def CRG (outer : List Env) (P : Program) (w : World) (H : Hp) (s : Shared) (Q : VK) (E : XK) (r : Result) (s' : Shared) : Prop := (∃ u, r = .ok (.ret u) ∧ CE outer P w H s Q u s') ∨ ∃ u, r = .error u ∧ L2.CX P w outer H s E u s'
structure FnG (P : Program) (w : World) (K : PySem.W.Frag) (mg : Str → Option Value) (base : Heap) (k : Nat) (f : Addr) (fd : FuncData) (ps : List Str) (sp : SpG) : Prop where
  len : ∀ vs H Q E, sp vs H Q E → vs.length = ps.length
  run : ∀ (A : Around) (outer : List Env) (s : Shared) (H : Hp) (args : Args) (us : List Value) (vs : List V) (Q : VK) (E : XK),
    Room k A → A.guards = some [] → Env0 P w K mg base A outer s H → BindsTo s fd args (ps.zip us) → Vals vs us → sp vs H Q E → codeAny (model P w) A (.call (.ref f) args) (CRG outer P w H s Q E) s
section
variable {P : Program} {w : World} {K : PySem.W.Frag} {mg : Str → Option Value} {base : Heap}
/-- the context of a body -/
abbrev bodyCx (P : Program) (w : World) (K : PySem.W.Frag) (mg : Str → Option Value) (base : Heap) (N : List Str) (q : Str) (sc : Scope) (f : Addr) (cd : Value) (A : Around) (outer : List Env) (s : Shared) (H : Hp) (E : XK) : Cx :=
  cxOf (L2.CX P w) P w K mg base N q sc f cd A outer s H E
theorem fnG_of {x q : Str} {pa : Arguments} {bd : List Stmt} {sc : Scope} {dvs : List V} {kws : List (Str × V)} {f : Addr} {fd : FuncData} {N ps : List Str} {k : Nat} {sp : SpG}
    (Fd : FunD K x q pa bd sc dvs kws f fd) (S : FnScope N ps sc) (len : ∀ vs H Q E, sp vs H Q E → vs.length = ps.length)
    (body : ∀ (cd : Value) (A : Around) (outer : List Env) (s : Shared) (H : Hp) (vs : List V) (Q : VK) (E : XK), Room k (A.deeper (envOfC q sc s.heap.objs.size f cd)) → A.guards = some [] → sp vs H Q E →
      ∃ t, PSs (bodyCx P w K mg base N q sc f cd A outer s H E) bd t ∧ t { nx := fun _ H' => Q .non H', rt := Q } (start N vs) H) :
    FnG P w K mg base (k + 1) f fd ps sp := by
  obtain ⟨oc, od, dV, kV, doc, pm, an, cd, ct, osl, efd, lk, hcd, _, _⟩ := Fd.ex
  subst efd
  constructor
  · exact len
  intro A outer s H args us vs Q E room hg ev hb rel hs
  have hlen := len vs H Q E hs
  have KH : K.In s.heap := ev.mod.kin.keeps (fun b o e => (ev.bs b o e).1)
  have lim : s.heap.NoLimit := ev.mod.nolimit.keeps (fun b o e => (ev.bs b o e).1)
  have kinds : ∀ y ∈ ps.zip us, sc.names.lookup y.1 = some .local ∨ (sc.names.lookup y.1 = some .cell ∧ ((cellsFrom (s.heap.objs.size + 1) sc.names []).lookup y.1).isSome = true) := by
    rintro ⟨n, v⟩ hy
    have hp := S.par n (List.of_mem_zip hy).1
    exact hp.imp id fun z => ⟨z, PySem.W.cellsFrom_some _ _ _ (.inl z)⟩
  apply codeAny_call_function room.depth (KH _ _ lk) rfl S.co S.gen rfl (PySem.W.codeRec_of KH hcd)
  apply hb
  apply wpAny_newFunctionEnv_cells S.kind kinds
  intro env he s1 x
  subst he
  refine ⟨lim.keeps x.toInCall.keep, ?_⟩
  apply codeAny_func
  obtain ⟨t, ht, hq⟩ := body cd A outer s H vs Q E (room.deeper _) hg hs
  have I := inv_start (CX := L2.CX P w) (E := E) (f := f) (cd := cd) (A := A) (outer := outer) (P := P) (w := w) (K := K) (mg := mg) (base := base) (qual := q) S room.hd ev hlen rel x
  apply wpAny_mono (ht.run [] s1 (start N vs) H _ I hq)
  · intro fl s' h
    have close : ∀ {σ' : L2.St} {H' : Hp} {v : V} {u : Value}, Inv (bodyCx P w K mg base N q sc f cd A outer s H E) [] σ' H' s' → RelV v u → Q v H' → CRG outer P w H s Q E (.ok (.ret u)) s' := by
      intro σ' H' v u J r z
      exact .inl ⟨u, rfl, v, H', J.os, J.bare, J.base, J.hok, r, z⟩
    cases fl with
    | ret u => obtain ⟨v, σ', H', J, r, z⟩ := h; exact close J r z
    | next => obtain ⟨σ', H', J, z⟩ := h; exact close (v := .non) (u := .none) J rfl z
    | brk => obtain ⟨_, _, _, z⟩ := h; exact z.elim
    | cont => obtain ⟨_, _, _, z⟩ := h; exact z.elim
  · intro e s' h
    exact wpAny_mono h (fun _ _ z => .inr ⟨_, rfl, z⟩) fun _ _ z => .inr ⟨_, rfl, z⟩
end
section
variable {X : Cx} {k : Nat} {f : Addr} {fd : FuncData} {ps : List Str} {sp : SpG} {x : Str} {p pos : Pos} {e : Expr} {es : List Expr} {t : TA}
def tCallG (sp : SpG) (t : TA) : TE := fun σ H Q => t σ H fun vs H1 => sp vs H1 Q noX
/-- .. where an exception is taken as W says -/
def tCallX (sp : SpG) (W : WX) (t : TA) : TE := fun σ H Q => t σ H fun vs H1 => sp vs H1 Q fun cls d H2 => W cls d σ H2
theorem run_gx {pins : List (Addr × Obj)} {σ : L2.St} {H : Hp} {s : Shared} {Q : VK} {W : WX} {us us' : List Value} {kw : List (Str × Value)} {vs : List V} (G : FnG X.prog X.w X.K X.mg X.base k f fd ps sp) (hr : Room k X.A) (hgd : X.A.guards = some [])
    (tk : Takes X W) (hb : us'.length = ps.length → BindsTo s fd ⟨us, kw⟩ (ps.zip us')) (I : Inv X pins σ H s) (r : Vals vs us') (h : sp vs H Q fun cls d H2 => W cls d σ H2) : wpAny (model X.prog X.w) X.A (call (.ref f) us kw) (EP X pins σ Q) X.xe s := by
  have l := G.len _ _ _ _ h
  have hl : us'.length = ps.length := r.length.symm.trans l
  apply wpAny_call
  apply codeAny_mono (G.run X.A X.stack s H ⟨us, kw⟩ us' vs Q _ hr hgd I.env0 (hb hl) r h)
  rintro res s' (⟨u, rfl, q⟩ | ⟨u, rfl, q⟩)
  · exact I.after q
  · exact tk u s' (XE.of_call I (fun _ _ _ h => h) q)
theorem run_g {pins : List (Addr × Obj)} {σ : L2.St} {H : Hp} {s : Shared} {Q : VK} {us us' : List Value} {kw : List (Str × Value)} {vs : List V} (G : FnG X.prog X.w X.K X.mg X.base k f fd ps sp) (hr : Room k X.A) (hgd : X.A.guards = some [])
    (hb : us'.length = ps.length → BindsTo s fd ⟨us, kw⟩ (ps.zip us')) (I : Inv X pins σ H s) (r : Vals vs us') (h : sp vs H Q noX) : wpAny (model X.prog X.w) X.A (call (.ref f) us kw) (EP X pins σ Q) X.xe s :=
  run_gx (W := fun _ _ _ _ => False) G hr hgd takes0 hb I r h
theorem pe_callG (G : FnG X.prog X.w X.K X.mg X.base k f fd ps sp) (hr : Room k X.A) (hgd : X.A.guards = some []) (hg : Gl X x) (hm : X.mg x = some (.ref f)) (hk : PySem.W.keepIn X.K (.ref f) = true)
    (hb : ∀ us : List Value, us.length = ps.length → bindArgs fd ⟨us, []⟩ = pure (ps.zip us)) (ha : PA X (e :: es) t) (hdb : (x == ("__debug__" : Str)) = false)
    (he : starEach (e :: es) X.env = (false, eval e X.env) :: starEach es X.env) (hpl : (backTo pos (starEach es X.env)).any (·.1) = false) : PE X (.Call (.Name x p) (e :: es) [] pos) (tCallG sp t) := by
  constructor
  intro pins s σ H Q I h
  apply wpAny_Call_Name_kw
  apply ld_glob I hg hm _ hdb
  refine PySem.W.callWith_K (h₀ := X.base) I.ok.mod.kin hk (thn (ha.run pos pins s σ H _ I h) ?_) he hpl
  rintro us s1 ⟨vs, H1, I1, r, q⟩
  exact ⟨I1.kIn, run_g G hr hgd (fun hl => .of_eq (hb us hl)) I1 r q⟩
theorem pe_callX {W : WX} (G : FnG X.prog X.w X.K X.mg X.base k f fd ps sp) (hr : Room k X.A) (hgd : X.A.guards = some []) (tk : Takes X W) (hg : Gl X x) (hm : X.mg x = some (.ref f)) (hk : PySem.W.keepIn X.K (.ref f) = true)
    (hb : ∀ us : List Value, us.length = ps.length → bindArgs fd ⟨us, []⟩ = pure (ps.zip us)) (ha : PA X (e :: es) t) (hdb : (x == ("__debug__" : Str)) = false)
    (he : starEach (e :: es) X.env = (false, eval e X.env) :: starEach es X.env) (hpl : (backTo pos (starEach es X.env)).any (·.1) = false) : PE X (.Call (.Name x p) (e :: es) [] pos) (tCallX sp W t) := by
  constructor
  intro pins s σ H Q I h
  apply wpAny_Call_Name_kw
  apply ld_glob I hg hm _ hdb
  refine PySem.W.callWith_K (h₀ := X.base) I.ok.mod.kin hk (thn (ha.run pos pins s σ H _ I h) ?_) he hpl
  rintro us s1 ⟨vs, H1, I1, r, q⟩
  exact ⟨I1.kIn, run_gx G hr hgd tk (fun hl => .of_eq (hb us hl)) I1 r q⟩
theorem pe_callX0 {W : WX} (G : FnG X.prog X.w X.K X.mg X.base k f fd ps sp) (hr : Room k X.A) (hgd : X.A.guards = some []) (tk : Takes X W) (hg : Gl X x) (hm : X.mg x = some (.ref f)) (hk : PySem.W.keepIn X.K (.ref f) = true)
    (hb : ∀ us : List Value, us.length = ps.length → bindArgs fd ⟨us, []⟩ = pure (ps.zip us)) (hdb : (x == ("__debug__" : Str)) = false) : PE X (.Call (.Name x p) [] [] pos) (tCallX sp W tNil) := by
  constructor
  intro pins s σ H Q I h
  apply wpAny_Call_Name_kw
  apply ld_glob I hg hm _ hdb
  exact PySem.W.callWith_K0 I.kIn hk (run_gx G hr hgd tk (fun hl => .of_eq (hb [] hl)) I .nil h)
theorem pe_callG0 (G : FnG X.prog X.w X.K X.mg X.base k f fd ps sp) (hr : Room k X.A) (hgd : X.A.guards = some []) (hg : Gl X x) (hm : X.mg x = some (.ref f)) (hk : PySem.W.keepIn X.K (.ref f) = true)
    (hb : ∀ us : List Value, us.length = ps.length → bindArgs fd ⟨us, []⟩ = pure (ps.zip us)) (hdb : (x == ("__debug__" : Str)) = false) : PE X (.Call (.Name x p) [] [] pos) (tCallG sp tNil) := by
  constructor
  intro pins s σ H Q I h
  apply wpAny_Call_Name_kw
  apply ld_glob I hg hm _ hdb
  exact PySem.W.callWith_K0 I.kIn hk (run_g G hr hgd (fun hl => .of_eq (hb [] hl)) I .nil h)
end
end Vm
set_option maxRecDepth 100000
set_option maxHeartbeats 4000000
namespace Vm
open PySem PySem.Spec L2
theorem bind_ok {α β : Type} {x : Res α} {g : α → Res β} {b : β} (h : x.bind g = .ok b) : ∃ a, x = .ok a ∧ g a = .ok b := by
  cases x with
  | ok a => exact ⟨a, rfl, h⟩
  | bad => cases h
theorem ofOpt_ok {α : Type} {x : Option α} {a : α} (h : ofOpt x = .ok a) : x = some a := by
  cases x with
  | some b => cases h; rfl
  | none => cases h
/-- behind an expression -/
def Post (K : PySem.W.Frag) (A : ASet) (as : List Addr) (f : F) (σ : L2.St) (H : Hp) (rv : RV) (f' : F) (v : V) (H' : Hp) : Prop :=
  ∃ A' : ASet, (∀ a, A a → A' a) ∧ Rel K A' as f' σ H' ∧ RVR K (Lv A' f' as σ) A' as σ H' rv v ∧ (∀ o, rv = .fr o → ∀ a, v = .ref a → ¬ A a) ∧ Ext (Lv A f as σ) H (Lv A' f' as σ) H' ∧ ∀ a, A a → H' a = H a
def PostA (K : PySem.W.Frag) (A : ASet) (as : List Addr) (f : F) (σ : L2.St) (H : Hp) (rvs : List RV) (f' : F) (vs : List V) (H' : Hp) : Prop :=
  ∃ A' : ASet, (∀ a, A a → A' a) ∧ Rel K A' as f' σ H' ∧ RVRs K (Lv A' f' as σ) A' as σ H' rvs vs ∧ FrOk A rvs vs ∧ Ext (Lv A f as σ) H (Lv A' f' as σ) H' ∧ ∀ a, A a → H' a = H a
/-- behind what gives nothing to hold -/
def PostN (K : PySem.W.Frag) (A : ASet) (as : List Addr) (f : F) (σ : L2.St) (H : Hp) (f' : F) (H' : Hp) : Prop :=
  Rel K A as f' σ H' ∧ Ext (Lv A f as σ) H (Lv A f' as σ) H' ∧ ∀ a, A a → H' a = H a
def tD (K : PySem.W.Frag) (G : Call) (e : Ex) : TE := fun σ H Q => ∃ A as f rv f', Rel K A as f σ H ∧ evE G e f = .ok (rv, f') ∧ ∀ v H', Post K A as f σ H rv f' v H' → Q v H'
def tDs (K : PySem.W.Frag) (G : Call) (es : List Ex) : TA := fun σ H Q => ∃ A as f rvs f', Rel K A as f σ H ∧ evEs G es f = .ok (rvs, f') ∧ ∀ vs H', PostA K A as f σ H rvs f' vs H' → Q vs H'
def tB (K : PySem.W.Frag) (G : Call) (e : Ex) : TT := fun σ H Q => ∃ A as f b f', Rel K A as f σ H ∧ evC G e f = .ok (b, f') ∧ ∀ H', PostN K A as f σ H f' H' → Q b H'
theorem PE.imp {X : Cx} {e : Expr} {t t' : TE} (h : PE X e t) (i : ∀ σ H Q, t' σ H Q → t σ H Q) : PE X e t' := ⟨fun pins s σ H Q I q => h.run pins s σ H Q I (i σ H Q q)⟩
theorem PT.imp {X : Cx} {e : Expr} {t t' : TT} (h : PT X e t) (i : ∀ σ H Q, t' σ H Q → t σ H Q) : PT X e t' := ⟨fun pins s σ H Q I q => h.run pins s σ H Q I (i σ H Q q)⟩
theorem PA.imp {X : Cx} {e : List Expr} {t t' : TA} (h : PA X e t) (i : ∀ σ H Q, t' σ H Q → t σ H Q) : PA X e t' := ⟨fun pos pins s σ H Q I q => h.run pos pins s σ H Q I (i σ H Q q)⟩
section
variable {K : PySem.W.Frag} {G : Call} {A A' : ASet} {H H' H1 H2 : Hp} {as : List Addr} {σ : L2.St} {f f' f1 f2 : F} {rv : RV} {rvs : List RV} {v : V} {vs : List V}
theorem Post.nil (R : Rel K A as f σ H) (h : RVR K (Lv A f as σ) A as σ H rv v) (n : ∀ o, rv ≠ .fr o) : Post K A as f σ H rv f v H :=
  ⟨A, fun _ z => z, R, h, fun o e => absurd e (n o), Ext.refl, fun _ _ => rfl⟩
theorem PostA.nil (R : Rel K A as f σ H) : PostA K A as f σ H [] f [] H := ⟨A, fun _ z => z, R, rfl, ⟨List.nodup_nil, fun a h => by simp [frs] at h⟩, Ext.refl, fun _ _ => rfl⟩
theorem tDs_cons {e : Ex} {es : List Ex} {Q : List V → Hp → Prop} (h : tDs K G (e :: es) σ H Q) : tCons (tD K G e) (tDs K G es) σ H Q := by
  obtain ⟨A, as, f, rvs, f2, R, he, hQ⟩ := h
  unfold evEs at he
  obtain ⟨⟨r, f1⟩, e1, he⟩ := bind_ok he
  obtain ⟨⟨rs, f3⟩, e2, he⟩ := bind_ok he
  cases he
  refine ⟨A, as, f, r, f1, R, e1, fun v H1 p1 => ?_⟩
  obtain ⟨A1, s1, R1, r1, n1, x1, k1⟩ := id p1
  refine ⟨A1, as, f1, rs, f3, R1, e2, fun vs H2 p2 => hQ _ _ ?_⟩
  -- the witnesses are the ones of p1
  obtain ⟨A2, s2, R2, r2, n2, x2, k2⟩ := p2
  refine ⟨A2, fun a z => s2 a (s1 a z), R2, ⟨v, vs, rfl, r1.ext x2 (fun a z => k2 a z) s2, r2⟩, ?_, x1.trans x2, fun a z => (k2 a (s1 a z)).trans (k1 a z)⟩
  have old : ∀ a, V.ref a ∈ frs rs vs → ¬ A a := fun a z q => n2.np a z (s1 a q)
  cases r with
  | fr o =>
    obtain ⟨p, ep, ap, _⟩ := r1
    subst ep
    refine ⟨List.nodup_cons.mpr ⟨fun z => n2.np p z ap, n2.nd⟩, fun a z => ?_⟩
    rcases List.mem_cons.mp (show V.ref a ∈ V.ref p :: frs rs vs from z) with e | z
    · cases e; exact n1 o rfl p rfl
    · exact old a z
  | d _ => exact ⟨n2.nd, old⟩
  | vr _ => exact ⟨n2.nd, old⟩
  | ce _ => exact ⟨n2.nd, old⟩
theorem tDs_nil {Q : List V → Hp → Prop} (h : tDs K G [] σ H Q) : tNil σ H Q := by
  obtain ⟨A, as, f, rvs, f2, R, he, hQ⟩ := h
  cases he
  exact hQ [] H (.nil R)
/-- what an operation leaves -/
def OpPost (K : PySem.W.Frag) (L : ASet) (H : Hp) : RR → V → Hp → Prop
  | .d x, v, H2 => (H2 = H ∧ Rd K L H x v) ∨ (∃ p vs ds, x = .tuple ds ∧ H p = none ∧ v = .ref p ∧ H2 = upd H p (.tup vs) ∧ RdA K L H ds vs) ∨ ∃ p vs ds o, x = pl ds ∧ H p = none ∧ v = .ref p ∧ H2 = upd H p (.frz o (.tup vs)) ∧ o.dict = none ∧ RdA K L H ds vs
  | .fr (.lst xs), v, H2 => ∃ p vs, H p = none ∧ v = .ref p ∧ H2 = upd H p (.lst vs) ∧ RdA K L H xs vs
  | .fr (.dct kvs), v, H2 => ∃ p hv, H p = none ∧ v = .ref p ∧ H2 = upd H p (.dK hv) ∧ RdK K L H (kvD kvs) hv
  | .ex _, _, _ => False
theorem op_post {rr : RR} {H2 : Hp} (R : Rel K A as f σ H) (h : OpPost K (Lv A f as σ) H rr v H2) : Post K A as f σ H rr.rv f v H2 := by
  cases rr with
  | ex c => exact h.elim
  | d x =>
    rcases h with ⟨e, h⟩ | ⟨p, vs, ds, ex, hp, ev, e, h⟩ | ⟨p, vs, ds, ob, ex, hp, ev, e, hd, h⟩
    · subst e
      exact Post.nil R (.inl h) fun o e => by cases e
    · subst e; subst ex; subst ev
      obtain ⟨R1, x1, k, n⟩ := R.laid' (o := .tup vs) hp
      refine ⟨A, fun _ z => z, R1, ?_, (fun o e => by cases e), x1, fun a z => k a (.inl z)⟩
      refine .inl ?_
      show Rd K _ _ (.tuple ds) _
      unfold Rd
      exact ⟨p, vs, rfl, .inl ⟨n, .inl upd_same⟩, h.ext x1⟩
    · subst e; subst ex; subst ev
      obtain ⟨R1, x1, k, n⟩ := R.laid' (o := .frz ob (.tup vs)) hp
      refine ⟨A, fun _ z => z, R1, .inr ⟨ds, rfl, ?_, p, ob, vs, rfl, n, upd_same, hd⟩, (fun o e => by cases e), x1, fun a z => k a (.inl z)⟩
      unfold Rd
      exact ⟨p, vs, rfl, .inl ⟨n, .inr ⟨ob, upd_same⟩⟩, h.ext x1⟩
  | fr o =>
    cases o with
    | lst xs =>
      obtain ⟨p, vs, hp, ev, e, h⟩ := h
      subst e; subst ev
      obtain ⟨R1, x1, k⟩ := R.laid (o := .lst vs) hp
      refine ⟨_, fun _ z => .inl z, R1, ⟨p, rfl, .inr rfl, vs, upd_same, h.ext x1⟩, fun o _ a ea z => ?_, x1, fun a z => k a (.inl z)⟩
      cases ea
      obtain ⟨u, q⟩ := R.al p z
      rw [hp] at q; cases q
    | dct kvs =>
      obtain ⟨p, vs, hp, ev, e, h⟩ := h
      subst e; subst ev
      obtain ⟨R1, x1, k⟩ := R.laid (o := .dK vs) hp
      refine ⟨_, fun _ z => .inl z, R1, ⟨p, rfl, .inr rfl, vs, upd_same, h.ext x1⟩, fun o _ a ea z => ?_, x1, fun a z => k a (.inl z)⟩
      cases ea
      obtain ⟨u, q⟩ := R.al p z
      rw [hp] at q; cases q
/-- the values are seen, then let go -/
theorem PostA.seen {ys : List D} (h : PostA K A as f σ H rvs f' vs H') (e : views f' rvs = some ys) : PostN K A as f σ H f' H' ∧ Rd1s K (Lv A f' as σ) H' ys vs := by
  obtain ⟨A', s, R, r, n, x, k⟩ := h
  have y := ext_less (H := H') (f := f') (as := as) (σ := σ) s
  exact ⟨⟨R.less s, x.trans y, k⟩, (views_rd1 R r e).ext y⟩
theorem Post.seen {y : D} (h : Post K A as f σ H rv f' v H') (e : view f' rv = some y) : PostN K A as f σ H f' H' ∧ Rd1 K (Lv A f' as σ) H' y v := by
  obtain ⟨A', s, R, r, n, x, k⟩ := h
  have z := ext_less (H := H') (f := f') (as := as) (σ := σ) s
  exact ⟨⟨R.less s, x.trans z, k⟩, (view_rd1 R r e).ext z⟩
theorem PostN.then {f'' : F} {H'' : Hp} (a : PostN K A as f σ H f' H') (b : Post K A as f' σ H' rv f'' v H'') : Post K A as f σ H rv f'' v H'' := by
  obtain ⟨R, x, k⟩ := a
  obtain ⟨A', s, R', r, n, x', k'⟩ := b
  exact ⟨A', s, R', r, n, x.trans x', fun a z => (k' a z).trans (k a z)⟩
theorem PostN.thenN {f'' : F} {H'' : Hp} (a : PostN K A as f σ H f' H') (b : PostN K A as f' σ H' f'' H'') : PostN K A as f σ H f'' H'' :=
  ⟨b.1, a.2.1.trans b.2.1, fun p z => (b.2.2 p z).trans (a.2.2 p z)⟩
theorem tD_op {o : Op} {es : List Ex} {Q : VK} (h : tD K G (.op o es) σ H Q) : tDs K G es σ H fun vs H1 => ∃ L ys rr, Rd1s K L H1 ys vs ∧ o.run ys = some rr ∧ ∀ v H2, OpPost K L H1 rr v H2 → Q v H2 := by
  obtain ⟨A, as, f, rv, f', R, he, hQ⟩ := h
  unfold evE at he
  obtain ⟨⟨rs, f1⟩, e1, he⟩ := bind_ok he
  obtain ⟨rr, e2, he⟩ := bind_ok he
  cases he
  have e2 := ofOpt_ok e2
  cases q : views f1 rs with
  | none => simp [q] at e2
  | some ys =>
    simp only [q, Option.bind_some] at e2
    refine ⟨A, as, f, rs, f1, R, e1, fun vs H1 p => ?_⟩
    obtain ⟨pn, rd⟩ := p.seen q
    exact ⟨_, ys, rr, rd, e2, fun v H2 hp => hQ v H2 (pn.then (op_post pn.1 hp))⟩
/-- .. kept, in a tuple or a list -/
theorem PostA.kept {ys : List D} {f'' : F} (h : PostA K A as f σ H rvs f' vs H') (e : frzs f' rvs = some (ys, f'')) : PostN K A as f σ H f'' H' ∧ RdA K (Lv A f'' as σ) H' ys vs := by
  obtain ⟨A', s, R, r, n, x, k⟩ := h
  obtain ⟨A2, s2, t2, R2, d2, x2⟩ := frzs_ok R r s n e
  have y := ext_less (H := H') (f := f'') (as := as) (σ := σ) s2
  exact ⟨⟨R2.less s2, (x.trans x2).trans y, k⟩, d2.ext y⟩
theorem Post.kept {y : D} {f'' : F} (h : Post K A as f σ H rv f' v H') (e : frz f' rv = some (y, f'')) : PostN K A as f σ H f'' H' ∧ Rd K (Lv A f'' as σ) H' y v := by
  obtain ⟨A', s, R, r, n, x, k⟩ := h
  obtain ⟨R2, d2, x2⟩ := frz_ok R r e
  have s2 : ∀ a, A a → lessF A' rv v a := lessF_mem s n
  have y := ext_less (H := H') (f := f'') (as := as) (σ := σ) s2
  exact ⟨⟨R2.less s2, (x.trans x2).trans y, k⟩, d2.ext y⟩
theorem tD_tup {es : List Ex} {Q : VK} (h : tD K G (.tup es) σ H Q) : tTup (tDs K G es) σ H Q := by
  obtain ⟨A, as, f, rv, f', R, he, hQ⟩ := h
  unfold evE at he
  obtain ⟨⟨rs, f1⟩, e1, he⟩ := bind_ok he
  obtain ⟨⟨ys, f2⟩, e2, he⟩ := bind_ok he
  have e2 := ofOpt_ok e2
  dsimp only at e2 he
  split at he
  · rename_i hl
    cases he
    refine ⟨A, as, f, rs, f1, R, e1, fun vs H1 p => ?_⟩
    obtain ⟨pn, rd⟩ := p.kept e2
    refine ⟨by rw [rd.len, sizeLine_eq]; exact hl, fun q hq => hQ _ _ (pn.then (op_post (rr := .d (.tuple ys)) pn.1 (.inr (.inl ⟨q, vs, ys, rfl, hq, rfl, rfl, rd⟩))))⟩
  · cases he
theorem tD_lst {es : List Ex} {Q : VK} (h : tD K G (.lst es) σ H Q) : tLst (tDs K G es) σ H Q := by
  obtain ⟨A, as, f, rv, f', R, he, hQ⟩ := h
  unfold evE at he
  obtain ⟨⟨rs, f1⟩, e1, he⟩ := bind_ok he
  obtain ⟨⟨ys, f2⟩, e2, he⟩ := bind_ok he
  have e2 := ofOpt_ok e2
  dsimp only at e2 he
  split at he
  · rename_i hl
    cases he
    refine ⟨A, as, f, rs, f1, R, e1, fun vs H1 p => ?_⟩
    obtain ⟨pn, rd⟩ := p.kept e2
    refine ⟨by rw [rd.len, sizeLine_eq]; exact hl, fun q hq => hQ _ _ (pn.then (op_post (rr := .fr (.lst ys)) pn.1 ⟨q, vs, hq, rfl, rfl, rd⟩))⟩
  · cases he
theorem tD_k {x : D} {Q : VK} {v : V} (h : tD K G (.k x) σ H Q) (hx : ∀ L H, Rd K L H x v) : Q v H := by
  obtain ⟨A, as, f, rv, f', R, he, hQ⟩ := h
  unfold evE at he
  cases he
  exact hQ v H (Post.nil R (.inl (hx _ _)) fun o e => by cases e)
theorem tD_v {i : Nat} {Q : VK} (h : tD K G (.v i) σ H Q) : tVar i σ H Q := by
  obtain ⟨A, as, f, rv, f', R, he, hQ⟩ := h
  unfold evE at he
  cases q : f.ρ[i]? with
  | none => rw [q] at he; cases he
  | some l =>
    rw [q] at he
    cases l with
    | no => cases he
    | d x =>
      cases he
      obtain ⟨v, h1, h2⟩ := R.sd i x q
      exact ⟨v, h1, hQ v H (Post.nil R h2 fun o e => by cases e)⟩
    | own o =>
      cases he
      obtain ⟨a, h1, h2, h3⟩ := R.so i o q
      exact ⟨.ref a, h1, hQ _ H (Post.nil R ⟨a, rfl, h1⟩ fun o e => by cases e)⟩
    | c n =>
      cases he
      obtain ⟨a, h1, h2⟩ := R.sc i n q
      exact ⟨.ref a, h2, hQ _ H (Post.nil R ⟨a, rfl, h1⟩ fun o e => by cases e)⟩
end
end Vm
set_option maxRecDepth 100000
set_option maxHeartbeats 4000000
namespace Vm
open PySem PySem.Spec PyProof.Rows L2
/-! ### t * k, any small k -/
theorem tup_mul1 (l : Addr) (items : Array Value) (n : Nat) (dd : Option Addr) (sl : Array (Option Value)) (x : Int) (u : Tok) (c0 : (decide (x < -(2 ^ 63)) || decide (x ≥ 2 ^ 63)) = false) (c1 : (items.isEmpty || x == 1) = true) :
    Meets (Builtin.«tuple.__mul__» ⟨[.ref l, .int x u], []⟩) (fun _ R s => s.heap.get? l = some { cls := .type "tuple", dict := dd, data := .seq items n, slots := sl } ∧ R (.ok (.ret (Value.ref l))) s) :=
  .of_wp fun prog w A R s h => by
    obtain ⟨hp, g, d, tk, os⟩ := s
    obtain ⟨hl, h⟩ := h
    have f1 := AutoSeq1.idx_int
    wp_walk using wpAny_loadPart' hl
    repeat (first
      | (refine wpAny_ite_false (decide_eq_false (by rw [c0]; exact Bool.false_ne_true)) ?_; wp_walk using wpAny_loadPart' hl)
      | (refine wpAny_ite_true (decide_eq_true (by rw [c1])) ?_; wp_walk using wpAny_loadPart' hl))
    exact ⟨_, rfl, h⟩
theorem tup_mul0 (l : Addr) (items : Array Value) (n : Nat) (dd : Option Addr) (sl : Array (Option Value)) (x : Int) (u : Tok) (c0 : (decide (x < -(2 ^ 63)) || decide (x ≥ 2 ^ 63)) = false) (c1 : (items.isEmpty || x == 1) = false) (c2 : (decide (x ≤ 0) || items.isEmpty) = true) :
    Meets (Builtin.«tuple.__mul__» ⟨[.ref l, .int x u], []⟩) (fun _ R s => s.heap.get? l = some { cls := .type "tuple", dict := dd, data := .seq items n, slots := sl } ∧
      R (.ok (.ret (Value.ref s.heap.objs.size))) { s with heap := s.heap.push { cls := Value.type "tuple", data := Data.seq #[] }, toks := s.toks }) :=
  .of_wp fun prog w A R s h => by
    obtain ⟨hp, g, d, tk, os⟩ := s
    obtain ⟨hl, h⟩ := h
    have f1 := AutoSeq1.idx_int
    wp_walk using wpAny_loadPart' hl
    repeat (first
      | (refine wpAny_ite_false (decide_eq_false (by rw [c0]; exact Bool.false_ne_true)) ?_; wp_walk using wpAny_loadPart' hl)
      | (refine wpAny_ite_false (decide_eq_false (by rw [c1]; exact Bool.false_ne_true)) ?_; wp_walk using wpAny_loadPart' hl)
      | (refine wpAny_ite_true (decide_eq_true (by rw [c2])) ?_; wp_walk using wpAny_loadPart' hl))
    exact ⟨_, rfl, h⟩
section
variable {X : Cx}
/-- t * k: what comes -/
def rMulT (K : PySem.W.Frag) : R2 := fun x y H Q => ∃ l k xs, x = .ref l ∧ y = .int k ∧ SqT K H l xs ∧ -1000 ≤ k ∧ k ≤ 1000 ∧ xs.length ≤ 1000 ∧ ((List.replicate k.toNat xs).flatten = xs → Q (.ref l) H) ∧
  ∀ p, H p = none → Q (.ref p) (upd H p (.tup (List.replicate k.toNat xs).flatten))
theorem op_mulT : OpR X (binaryOp .Mult) (rMulT X.K) := by
  intro pins s σ H x y v u Q I rx ry h
  obtain ⟨l, k, xs, rfl, rfl, hT, h0, h2, hz, qs, q⟩ := h
  by_cases hne : xs ≠ [] ∧ 2 ≤ k
  · exact op_repT pins s σ H _ _ v u Q I rx ry ⟨l, k, xs, rfl, rfl, hT, hne.1, hne.2, h2, hz, q⟩
  cases rx
  obtain ⟨t, rfl⟩ := ry
  obtain ⟨its, r, ⟨⟨cls, dd, data, sl⟩, ho, hc, n, hd⟩, hs⟩ := I.tuple hT
  simp only at hc hd
  subst hc hd
  have hle : its.length = xs.length := r.length.symm
  have c0 : (decide (k < -(2 ^ 63)) || decide (k ≥ 2 ^ 63)) = false := by
    rw [decide_eq_false (by omega), decide_eq_false (by omega)] <;> rfl
  cases c1 : (its.toArray.isEmpty || k == 1) with
  | true =>
    refine wpAny_binaryOp_repeat_ref (T := "tuple") (U := "int") (by decide) ⟨_, ho, rfl⟩ (fun s' => typeIs_int s' k t) noFill_tuple_mul F.fills_int_mul F.slot_int_rmul repeat_tuple F.slot_int_index.lookup
      (call_meets F.slot_int_rmul (typeIs_int s k t) F.entry_int_rmul (F.args_int_rmul_2 _ _) (int_rmul_tuple k t l its.toArray n dd sl)
        ⟨ho, rfl, ⟨_, ho, rfl⟩, call_meets F.slot_tuple_mul ⟨_, ho, rfl⟩ F.entry_tuple_mul (F.args_tuple_mul_2 _ _) (tup_mul1 l its.toArray n dd sl k t c0 c1) ⟨ho, ?_⟩⟩)
    refine ⟨.ref l, H, I, rfl, qs ?_⟩
    rw [Bool.or_eq_true] at c1
    rcases c1 with c1 | c1
    · have e : its = [] := by cases its with | nil => rfl | cons a b => cases c1
      have e2 : xs = [] := List.eq_nil_of_length_eq_zero (by rw [← hle, e]; rfl)
      subst e2
      rw [List.flatten_eq_nil_iff]
      intro y hy
      exact (List.mem_replicate.mp hy).2
    · have e : k = 1 := by simpa using c1
      subst e
      simp
  | false =>
    have c2 : (decide (k ≤ 0) || its.toArray.isEmpty) = true := by
      rw [Bool.or_eq_false_iff] at c1
      have hn : xs ≠ [] := fun e => by
        rw [e] at hle
        have : its = [] := List.eq_nil_of_length_eq_zero hle
        rw [this] at c1
        cases c1.1
      have hk1 : k ≠ 1 := fun e => by rw [e] at c1; cases c1.2
      have : ¬ 2 ≤ k := fun z => hne ⟨hn, z⟩
      rw [decide_eq_true (by omega)]
      rfl
    refine wpAny_binaryOp_repeat_ref (T := "tuple") (U := "int") (by decide) ⟨_, ho, rfl⟩ (fun s' => typeIs_int s' k t) noFill_tuple_mul F.fills_int_mul F.slot_int_rmul repeat_tuple F.slot_int_index.lookup
      (call_meets F.slot_int_rmul (typeIs_int s k t) F.entry_int_rmul (F.args_int_rmul_2 _ _) (int_rmul_tuple k t l its.toArray n dd sl)
        ⟨ho, rfl, ⟨_, ho, rfl⟩, call_meets F.slot_tuple_mul ⟨_, ho, rfl⟩ F.entry_tuple_mul (F.args_tuple_mul_2 _ _) (tup_mul0 l its.toArray n dd sl k t c0 c1 c2) ⟨ho, ?_⟩⟩)
    have e : (List.replicate k.toNat xs).flatten = [] := by
      rw [Bool.or_eq_true] at c2
      rcases c2 with c2 | c2
      · have : k.toNat = 0 := by have := of_decide_eq_true c2; omega
        rw [this]; rfl
      · have e : its = [] := by cases its with | nil => rfl | cons a b => cases c2
        have e2 : xs = [] := List.eq_nil_of_length_eq_zero (by rw [← hle, e]; rfl)
        subst e2
        rw [List.flatten_eq_nil_iff]
        intro y hy
        exact (List.mem_replicate.mp hy).2
    rw [e] at q
    refine ⟨.ref s.heap.objs.size, _, I.laid (t' := s.toks) (o := .tup []) (fun b ob q => Heap.get?_push_of_some _ q) (Nat.le_refl _) ?_, rfl, q _ (I.hok.fresh (Nat.le_refl _))⟩
    exact ⟨by simp, [], .nil, IsTup.new _ _⟩
end
end Vm
set_option maxRecDepth 100000
set_option maxHeartbeats 4000000
namespace Vm
open PySem PySem.Spec PyProof.Rows L2
section
variable {K : PySem.W.Frag} {L : ASet} {H : Hp}
mutual
theorem Rd.dp : ∀ {d : D} {v : V}, Rd K L H d v → d.canLay0 = true → Dp K H v d
  | .none, _, h, _ => by unfold Rd at h; subst h; exact .non
  | .bool b, _, h, _ => by unfold Rd at h; subst h; exact .bl b
  | .int i, _, h, _ => by unfold Rd at h; subst h; exact .int i
  | .str x, _, h, _ => by unfold Rd at h; subst h; exact .str x
  | .list ds, _, h, c => by
    unfold Rd at h
    obtain ⟨a, vs, e, s, r⟩ := h
    subst e
    exact .lst s.sq (RdA.dp r (by simpa [PyData.canLay0] using c))
  | .tuple ds, _, h, c => by
    unfold Rd at h
    obtain ⟨a, vs, e, s, r⟩ := h
    subst e
    exact .tup s.sq (RdA.dp r (by simpa [PyData.canLay0] using c))
  | .dict _, _, _, c => by simp [PyData.canLay0] at c
theorem RdA.dp : ∀ {ds : List D} {vs : List V}, RdA K L H ds vs → PyData.canLayAll0 ds = true → DpAll K H vs ds
  | [], _, h, _ => by unfold RdA at h; subst h; exact .nil
  | d :: ds, _, h, c => by
    unfold RdA at h
    obtain ⟨v, r, e, h1, h2⟩ := h
    subst e
    have c' : d.canLay0 = true ∧ PyData.canLayAll0 ds = true := by simpa [PyData.canLayAll0] using c
    exact .cons (Rd.dp h1 c'.1) (RdA.dp h2 c'.2)
end
theorem Rd1.dp : ∀ {d : D} {v : V}, Rd1 K L H d v → d.canLay0 = true → Dp K H v d
  | .none, _, h, c => Rd.dp (L := L) h c
  | .bool b, _, h, c => Rd.dp (L := L) h c
  | .int i, _, h, c => Rd.dp (L := L) h c
  | .str x, _, h, c => Rd.dp (L := L) h c
  | .tuple ds, _, h, c => Rd.dp (L := L) h c
  | .list ds, _, h, c => by
    obtain ⟨a, vs, e, s, r⟩ := h
    subst e
    exact .lst s.sq (r.dp (by simpa [PyData.canLay0] using c))
  | .dict _, _, _, c => by simp [PyData.canLay0] at c
theorem Rd1.i {i : Int} {v : V} (h : Rd1 K L H (.int i) v) : v = .int i := h
theorem Rd1.b {i : Bool} {v : V} (h : Rd1 K L H (.bool i) v) : v = .bl i := h
theorem Rd1.s {i : Str} {v : V} (h : Rd1 K L H (.str i) v) : v = .str i := h
theorem Rd1.n {v : V} (h : Rd1 K L H .none v) : v = .non := h
theorem Rd1.t {ds : List D} {v : V} (h : Rd1 K L H (.tuple ds) v) : ∃ a vs, v = .ref a ∧ ST K L H a vs ∧ RdA K L H ds vs := by
  have h : Rd K L H (.tuple ds) v := h
  unfold Rd at h; exact h
theorem Rd1.l {ds : List D} {v : V} (h : Rd1 K L H (.list ds) v) : ∃ a vs, v = .ref a ∧ LL K H a vs ∧ RdA K L H ds vs := h
theorem Rd1.m {kvs : List (D × D)} {v : V} (h : Rd1 K L H (.dict kvs) v) : ∃ a hv, v = .ref a ∧ H a = some (.dK hv) ∧ RdK K L H kvs hv := h
theorem rd_int {i : Int} : Rd K L H (.int i) (.int i) := by unfold Rd; rfl
theorem rd_bool {i : Bool} : Rd K L H (.bool i) (.bl i) := by unfold Rd; rfl
theorem rd_str {i : Str} : Rd K L H (.str i) (.str i) := by unfold Rd; rfl
theorem rd_none : Rd K L H .none .non := by unfold Rd; rfl
theorem rd1s1 {ys : List D} {x : V} (h : Rd1s K L H ys [x]) : ∃ a, ys = [a] ∧ Rd1 K L H a x := by
  cases ys with
  | nil => cases h
  | cons a r =>
    obtain ⟨v, ws, e, h1, h2⟩ := h
    cases e
    cases r with
    | nil => exact ⟨a, rfl, h1⟩
    | cons b r => obtain ⟨_, _, e, _⟩ := h2; cases e
theorem rd1s2 {ys : List D} {x y : V} (h : Rd1s K L H ys [x, y]) : ∃ a b, ys = [a, b] ∧ Rd1 K L H a x ∧ Rd1 K L H b y := by
  cases ys with
  | nil => cases h
  | cons a r =>
    obtain ⟨v, ws, e, h1, h2⟩ := h
    cases e
    obtain ⟨b, e, h3⟩ := rd1s1 h2
    subst e
    exact ⟨a, b, rfl, h1, h3⟩
end
/-- the reading of an operation by data -/
def OpQ (K : PySem.W.Frag) (o : Op) (vs : List V) (H : Hp) (Q : VK) : Prop := ∃ L ys rr, Rd1s K L H ys vs ∧ o.run ys = some rr ∧ ∀ v H2, OpPost K L H rr v H2 → Q v H2
abbrev rD (K : PySem.W.Frag) (o : Op) : R2 := fun x y H Q => OpQ K o [x, y] H Q
abbrev rD1 (K : PySem.W.Frag) (o : Op) : V → Hp → VK → Prop := fun x H Q => OpQ K o [x] H Q
abbrev rDs (K : PySem.W.Frag) (o : Op) : List V → Hp → VK → Prop := fun vs H Q => OpQ K o vs H Q
theorem intsD_some : ∀ {ds : List D} {ns : List Int}, intsD ds = some ns → ds = ns.map .int
  | [], _, e => by cases e; rfl
  | d :: ds, ns, e => by
    cases d <;> simp only [intsD] at e <;> try (cases e; done)
    rename_i i
    cases q : intsD ds with
    | none => rw [q] at e; cases e
    | some r => rw [q] at e; cases e; rw [intsD_some q]; rfl
theorem boolsD_some : ∀ {ds : List D} {ns : List Bool}, boolsD ds = some ns → ds = ns.map .bool
  | [], _, e => by cases e; rfl
  | d :: ds, ns, e => by
    cases d <;> simp only [boolsD] at e <;> try (cases e; done)
    rename_i i
    cases q : boolsD ds with
    | none => rw [q] at e; cases e
    | some r => rw [q] at e; cases e; rw [boolsD_some q]; rfl
section
variable {X : Cx}
theorem or_add : OpR X (binaryOp .Add) (rD X.K .add) := by
  intro pins s σ H x y v u Q I rx ry h
  obtain ⟨L, ys, rr, rd, e, q⟩ := h
  obtain ⟨a, b, rfl, ha, hb⟩ := rd1s2 rd
  replace e : runAdd a b = some rr := e
  cases a <;> cases b <;> simp only [runAdd] at e <;> try (cases e; done)
  · cases e
    have f1 := ha.b
    have f2 := hb.i
    subst f1 f2
    cases rx
    obtain ⟨t, rfl⟩ := ry
    exact PySem.IntBool.add_bool_int ⟨.int _, H, I.tok _, ⟨_, rfl⟩, q _ _ (.inl ⟨rfl, rd_int⟩)⟩
  · cases e
    exact op_add pins s σ H x y v u Q I rx ry ⟨_, _, ha, hb, q _ _ (.inl ⟨rfl, rd_int⟩)⟩
  · split at e
    · rename_i hl
      cases e
      exact op_add_str pins s σ H x y v u Q I rx ry ⟨_, _, ha, hb, by rw [sizeLine_eq]; exact hl, q _ _ (.inl ⟨rfl, rd_str⟩)⟩
    · cases e
  · split at e
    · rename_i hl
      cases e
      obtain ⟨p1, vs, rfl, s1, r1⟩ := ha.l
      obtain ⟨p2, us, rfl, s2, r2⟩ := hb.l
      cases rx; cases ry
      obtain ⟨z1, its, n, t1, e1⟩ := s1.obj I
      obtain ⟨z2, its2, n2, t2, e2⟩ := s2.obj I
      have l1 := t1.length
      have l2 := t2.length
      have m1 := r1.len
      have m2 := r2.len
      apply PySem.P.add_list e1 e2
      · rw [show its.toArray ++ its2.toArray = (its ++ its2).toArray by simp]
        exact ⟨.ref _, _, I.lnew (t' := s.toks) (t1.append t2) (by rw [List.length_append, sizeLine_eq]; omega), rfl, q _ _ ⟨_, _, I.fresh, rfl, rfl, r1.app r2⟩⟩
    · cases e
  · split at e
    · rename_i i j hl
      cases e
      obtain ⟨p1, vs, rfl, s1, r1⟩ := ha.t
      obtain ⟨p2, us, rfl, s2, r2⟩ := hb.t
      have m1 := r1.len
      have m2 := r2.len
      refine op_catA pins s σ H _ _ v u Q I rx ry ⟨_, _, vs, us, rfl, rfl, s1.sq, s2.sq, by rw [sizeLine_eq]; omega, fun ev => ?_, fun ev eu => ?_, fun ev eu p hp => ?_⟩
      · have : i = [] := List.eq_nil_of_length_eq_zero (by rw [← m1, ev]; rfl)
        subst this
        exact q _ _ (.inl ⟨rfl, hb⟩)
      · have : j = [] := List.eq_nil_of_length_eq_zero (by rw [← m2, eu]; rfl)
        subst this
        rw [List.append_nil] at q
        exact q _ _ (.inl ⟨rfl, ha⟩)
      · exact q _ _ (.inr (.inl ⟨p, _, _, rfl, hp, rfl, rfl, r1.app r2⟩))
    · cases e
theorem runInts_some {c : Int → Int → Bool} {g : Int → Int → D} {a b : D} {rr : RR} (e : runInts c g a b = some rr) : ∃ i j, a = .int i ∧ b = .int j ∧ c i j = true ∧ rr = .d (g i j) := by
  cases a <;> cases b <;> simp only [runInts] at e <;> try (cases e; done)
  split at e
  · cases e; exact ⟨_, _, rfl, rfl, by assumption, rfl⟩
  · cases e
/-- two ints -/
theorem or_ints {fn : Value → Value → Sem Value} {C : Int → Int → Prop} {g : Int → Int → V} {o : Op} {c : Int → Int → Bool} {g' : Int → Int → D} (h : OpR X fn (rI C g)) (hc : ∀ i j, c i j = true → C i j) (hg : ∀ L H i j, Rd X.K L H (g' i j) (g i j))
    (ho : ∀ a b, o.run [a, b] = runInts c g' a b) : OpR X fn (rD X.K o) := by
  intro pins s σ H x y v u Q I rx ry hq
  obtain ⟨L, ys, rr, rd, e, q⟩ := hq
  obtain ⟨a, b, rfl, ha, hb⟩ := rd1s2 rd
  rw [ho] at e
  obtain ⟨i, j, rfl, rfl, e2, rfl⟩ := runInts_some e
  exact h pins s σ H x y v u Q I rx ry ⟨i, j, ha, hb, hc i j e2, q _ _ (.inl ⟨rfl, hg L H i j⟩)⟩
theorem rI_of {fn : Value → Value → Sem Value} {g : Int → Int → V} (h : OpR X fn (rI0 g)) : OpR X fn (rI (fun _ _ => True) g) := by
  intro pins s σ H x y v u Q I rx ry hq
  obtain ⟨i, j, e1, e2, _, q⟩ := hq
  exact h pins s σ H x y v u Q I rx ry ⟨i, j, e1, e2, q⟩
theorem or_sub : OpR X (binaryOp .Sub) (rD X.K .sub) := by
  intro pins s σ H x y v u Q I rx ry h
  obtain ⟨L, ys, rr, rd, e, q⟩ := h
  obtain ⟨a, b, rfl, ha, hb⟩ := rd1s2 rd
  replace e : runSub a b = some rr := e
  cases a <;> cases b <;> simp only [runSub] at e <;> try (cases e; done)
  · cases e
    have f1 := ha.b
    have f2 := hb.i
    subst f1 f2
    cases rx
    obtain ⟨t, rfl⟩ := ry
    exact PySem.IntBool.sub_bool_int ⟨.int _, H, I.tok _, ⟨_, rfl⟩, q _ _ (.inl ⟨rfl, rd_int⟩)⟩
  · cases e
    exact op_sub pins s σ H x y v u Q I rx ry ⟨_, _, ha, hb, q _ _ (.inl ⟨rfl, rd_int⟩)⟩
theorem wide_bits {i : Int} (h : wideB i = true) : i.natAbs < 2 ^ 4000 := by
  unfold wideB at h
  exact of_decide_eq_true h
theorem or_fdiv : OpR X (binaryOp .FloorDiv) (rD X.K .fdiv) := by
  intro pins s σ H x y v u Q I rx ry hq
  obtain ⟨L, ys, rr, rd, e, q⟩ := hq
  obtain ⟨a, b, rfl, ha, hb⟩ := rd1s2 rd
  obtain ⟨i, j, rfl, rfl, e2, rfl⟩ := runInts_some (show runInts (fun _ j => decide (0 < j) && (decide (j < 1073741824) || wideB j)) (fun i j => .int (i / j)) a b = some rr from e)
  simp only [Bool.and_eq_true, Bool.or_eq_true, decide_eq_true_eq] at e2
  obtain ⟨e2, e3⟩ := e2
  rcases e3 with e3 | e3
  · exact op_fdiv pins s σ H x y v u Q I rx ry ⟨i, j, ha, hb, ⟨e2, e3⟩, q _ _ (.inl ⟨rfl, rd_int⟩)⟩
  · exact op_fdivW pins s σ H x y v u Q I rx ry ⟨i, j, ha, hb, wide_div e2 (wide_bits e3) (by decide) (by decide), q _ _ (.inl ⟨rfl, rd_int⟩)⟩
theorem neg_bool {pins : List (Addr × Obj)} {s : Shared} {σ : L2.St} {H : Hp} {b : Bool} {Q : VK} (I : Inv X pins σ H s) (q : Q (.int (-(if b = true then 1 else 0))) H) : wpAny (model X.prog X.w) X.A (unaryOp .USub (.bool b)) (EP X pins σ Q) X.xe s := by
  unfold unaryOp
  refine wpAny_holding (wpAny_bind (m := callSpecial? (.bool b) (Str.ofString "__neg__")) (wpAny_callSpecial?_slot (name := Str.ofString "__neg__") (typeIs_bool' s b) PySem.F.slot_bool_neg
    (wpAny_call_entry PySem.F.slot_bool_neg (typeIs_bool' s b) PyProof.Rows.entry_int_neg ?_ (PyProof.Rows.args_int_neg _))))
  show wpAny _ _ (do ret (← mkInt (-(if b = true then 1 else 0)))) _ _ s
  exact wpAny_ret_mkInt (wpAny_pure ⟨.int _, H, I.tok _, ⟨_, rfl⟩, q⟩)
theorem un_negD : UnR X (unaryOp .USub) (fun x H Q => OpQ X.K .neg [x] H Q) := by
  intro pins s σ H x v Q I rx h
  obtain ⟨L, ys, rr, rd, e, q⟩ := h
  obtain ⟨a, rfl, ha⟩ := rd1s1 rd
  cases a with
  | int i => cases e; exact un_neg pins s σ H x v Q I rx ⟨i, ha, q _ _ (.inl ⟨rfl, rd_int⟩)⟩
  | bool i =>
    cases e
    have f1 := ha.b
    subst f1
    cases rx
    exact neg_bool I (q _ _ (.inl ⟨rfl, rd_int⟩))
  | _ => cases e
theorem or_isb : OpR X (compareOp .Is) (rD X.K .isb) := by
  intro pins s σ H x y v u Q I rx ry h
  obtain ⟨L, ys, rr, rd, e, q⟩ := h
  obtain ⟨a, b, rfl, ha, hb⟩ := rd1s2 rd
  replace e : runIs false a b = some rr := e
  cases a <;> cases b <;> simp only [runIs] at e <;> try (cases e; done)
  cases e
  refine op_isBl pins s σ H x y v u Q I rx ry ⟨_, _, ha, hb, ?_⟩
  refine q _ _ (.inl ⟨rfl, ?_⟩)
  unfold Rd
  rename_i a b
  cases a <;> cases b <;> rfl
theorem or_isnb : OpR X (compareOp .IsNot) (rD X.K .isnb) := by
  intro pins s σ H x y v u Q I rx ry h
  obtain ⟨L, ys, rr, rd, e, q⟩ := h
  obtain ⟨a, b, rfl, ha, hb⟩ := rd1s2 rd
  replace e : runIs true a b = some rr := e
  cases a <;> cases b <;> simp only [runIs] at e <;> try (cases e; done)
  cases e
  refine op_notBl pins s σ H x y v u Q I rx ry ⟨_, _, ha, hb, ?_⟩
  refine q _ _ (.inl ⟨rfl, ?_⟩)
  unfold Rd
  rename_i a b
  cases a <;> cases b <;> rfl
theorem or_mod : OpR X (binaryOp .Mod) (rD X.K .mod) := or_ints op_mod (fun i j h => by simpa using h) (fun _ _ _ _ => rd_int) fun _ _ => rfl
theorem or_pow : OpR X (binaryOp .Pow) (rD X.K .pow) := or_ints op_pow (fun i j h => by simp only [Bool.and_eq_true, decide_eq_true_eq] at h; exact ⟨h.1.1, h.1.2, h.2⟩) (fun _ _ _ _ => rd_int) fun _ _ => rfl
theorem or_le : OpR X (compareOp .LtE) (rD X.K .le) := or_ints (rI_of op_le) (fun _ _ _ => trivial) (fun _ _ _ _ => rd_bool) fun _ _ => rfl
theorem or_gt : OpR X (compareOp .Gt) (rD X.K .gt) := or_ints (rI_of op_gt) (fun _ _ _ => trivial) (fun _ _ _ _ => rd_bool) fun _ _ => rfl
theorem or_ge : OpR X (compareOp .GtE) (rD X.K .ge) := or_ints (rI_of op_ge) (fun _ _ _ => trivial) (fun _ _ _ _ => rd_bool) fun _ _ => rfl
theorem or_lt (hu : X.A.units + 200 < cLine) : OpR X (compareOp .Lt) (rD X.K .lt) := by
  intro pins s σ H x y v u Q I rx ry h
  obtain ⟨L, ys, rr, rd, e, q⟩ := h
  obtain ⟨a, b, rfl, ha, hb⟩ := rd1s2 rd
  replace e : runLt a b = some rr := e
  cases a <;> cases b <;> simp only [runLt] at e <;> try (cases e; done)
  · cases e
    exact op_lt pins s σ H x y v u Q I rx ry ⟨_, _, ha, hb, q _ _ (.inl ⟨rfl, rd_bool⟩)⟩
  · cases e
    exact op_lt_str pins s σ H x y v u Q I rx ry ⟨_, _, ha, hb, q _ _ (.inl ⟨rfl, rd_bool⟩)⟩
  · rename_i i j
    cases q1 : intsD i with
    | none => simp [q1] at e
    | some n =>
      cases q2 : intsD j with
      | none => simp [q1, q2] at e
      | some m =>
        simp only [q1, q2, Option.bind_some] at e
        cases e
        obtain ⟨p1, vs, rfl, s1, r1⟩ := ha.t
        obtain ⟨p2, us, rfl, s2, r2⟩ := hb.t
        have e1 := intsD_some q1
        have e2 := intsD_some q2
        subst e1; subst e2
        have f1 := r1.ints
        have f2 := r2.ints
        subst f1; subst f2
        exact op_ltT (by omega) pins s σ H _ _ v u Q I rx ry ⟨_, _, n, m, rfl, rfl, s1.sq, s2.sq, q _ _ (.inl ⟨rfl, rd_bool⟩)⟩
theorem nil_cmp {a b : D} (h : nilCmp a b = true) : (∃ xs ys, a = .list xs ∧ b = .list ys ∧ (xs = [] ∨ ys = [])) ∨ ∃ xs ys, a = .tuple xs ∧ b = .tuple ys ∧ (xs = [] ∨ ys = []) := by
  unfold nilCmp at h
  split at h
  · exact .inl ⟨_, _, rfl, rfl, .inr rfl⟩
  · exact .inl ⟨_, _, rfl, rfl, .inl rfl⟩
  · exact .inr ⟨_, _, rfl, rfl, .inr rfl⟩
  · exact .inr ⟨_, _, rfl, rfl, .inl rfl⟩
  · cases h
theorem nil_eqv {xs ys : List D} (h : xs = [] ∨ ys = []) : PyData.eqvAll xs ys = (xs.length == ys.length) := by
  rcases h with rfl | rfl
  · cases ys <;> simp [PyData.eqvAll]
  · cases xs <;> simp [PyData.eqvAll]
/-- how long the two are, in the heap -/
theorem nil_ask {pins : List (Addr × Obj)} {σ : L2.St} {H : Hp} {s : Shared} {L : ASet} {a b : D} {x y : V} {v u : Value} (I : Inv X pins σ H s) (rx : RelV x v) (ry : RelV y u) (ha : Rd1 X.K L H a x) (hb : Rd1 X.K L H b y) (h : nilCmp a b = true) :
    ∃ (p q : Addr) (us ws : Array Value), v = .ref p ∧ u = .ref q ∧ (us.size = 0 ∨ ws.size = 0) ∧ PyData.eqv a b = (us.size == ws.size) ∧ ((s.heap.IsList p us ∧ s.heap.IsList q ws) ∨ (s.heap.IsTuple p us ∧ s.heap.IsTuple q ws)) := by
  rcases nil_cmp h with ⟨xs, ys, rfl, rfl, hn⟩ | ⟨xs, ys, rfl, rfl, hn⟩
  · obtain ⟨p, vs, rfl, st, r1⟩ := ha.l
    obtain ⟨q, ws, rfl, st2, r2⟩ := hb.l
    cases rx; cases ry
    obtain ⟨i1, t1, h1, _⟩ := I.list st.sq
    obtain ⟨i2, t2, h2, _⟩ := I.list st2.sq
    have e1 : i1.length = xs.length := by rw [← t1.length, r1.len]
    have e2 : i2.length = ys.length := by rw [← t2.length, r2.len]
    refine ⟨p, q, _, _, rfl, rfl, ?_, ?_, .inl ⟨h1.isList, h2.isList⟩⟩
    · rcases hn with rfl | rfl
      · exact .inl (by simpa using e1)
      · exact .inr (by simpa using e2)
    · rw [PyData.eqv, nil_eqv hn]; simp [e1, e2]
  · obtain ⟨p, vs, rfl, st, r1⟩ := ha.t
    obtain ⟨q, ws, rfl, st2, r2⟩ := hb.t
    cases rx; cases ry
    obtain ⟨i1, t1, h1, _⟩ := I.tuple st.sq
    obtain ⟨i2, t2, h2, _⟩ := I.tuple st2.sq
    have e1 : i1.length = xs.length := by rw [← t1.length, r1.len]
    have e2 : i2.length = ys.length := by rw [← t2.length, r2.len]
    refine ⟨p, q, _, _, rfl, rfl, ?_, ?_, .inr ⟨h1, h2⟩⟩
    · rcases hn with rfl | rfl
      · exact .inl (by simpa using e1)
      · exact .inr (by simpa using e2)
    · rw [PyData.eqv, nil_eqv hn]; simp [e1, e2]
theorem or_eq (hu : X.A.units + 200 < cLine) : OpR X (compareOp .Eq) (rD X.K .eq) := by
  intro pins s σ H x y v u Q I rx ry h
  obtain ⟨L, ys, rr, rd, e, q⟩ := h
  obtain ⟨a, b, rfl, ha, hb⟩ := rd1s2 rd
  replace e : runEq false a b = some rr := e
  unfold runEq at e
  split at e
  · rename_i hc
    cases e
    cases z : twoStr a b with
    | true =>
      unfold twoStr at z
      split at z
      · rename_i s1 s2
        have z1 := ha.s
        have z2 := hb.s
        subst z1; subst z2
        refine op_eq pins s σ H _ _ v u Q I rx ry ⟨rfl, ?_⟩
        rw [dec_str]
        refine q _ _ (.inl ⟨?_, rd_bool⟩)
        simp [PyData.eqv]
      · cases z
    | false =>
    rw [z, Bool.false_or] at hc
    cases z2 : nilCmp a b with
    | true =>
      obtain ⟨p1, p2, us, ws, rfl, rfl, hn, ev, hk⟩ := nil_ask I rx ry ha hb z2
      have hl : X.A.units < cLine := by omega
      have fin : ∀ c : Bool, c = ((us.size == ws.size)) → EP X pins σ Q (.bool c) s := fun c hc => ⟨.bl c, H, I, rfl, by rw [hc, ← ev]; exact q _ _ (.inl ⟨rfl, rd_bool⟩)⟩
      rcases hk with ⟨k1, k2⟩ | ⟨k1, k2⟩
      · by_cases hs : us.size = ws.size
        · have h0 : us.size = 0 := by omega
          exact SeqAt.RcAt.lists (e := fun _ => true) k1 k2 hs hl (fun j j1 _ => by omega) _ _ _ _ (fin _ (by rw [h0] at hs ⊢; rw [← hs]; rfl))
        · exact SeqAt.RcAt.lists_lengths k1 k2 (by simpa using hs) hl _ _ _ _ (fin _ (by simp [hs]))
      · exact SeqAt.RcAt.tuples (e := fun _ => true) k1 k2 hl (fun j j1 j2 => by omega) _ _ _ _ (fin _ (by simp))
    | false =>
    rw [z2, Bool.false_or] at hc
    simp only [Bool.and_eq_true] at hc
    have c1 : a.canLay0 = true := by have := hc.1; unfold SeqAt.shaped at this; simp only [Bool.and_eq_true] at this; exact this.1
    have c2 : b.canLay0 = true := by have := hc.2; unfold SeqAt.shaped at this; simp only [Bool.and_eq_true] at this; exact this.1
    exact op_eqD (by omega) pins s σ H x y v u Q I rx ry ⟨a, b, ha.dp c1, hb.dp c2, hc.1, hc.2, q _ _ (.inl ⟨rfl, rd_bool⟩)⟩
  · cases e
theorem or_ne (hu : X.A.units + 200 < cLine) : OpR X (compareOp .NotEq) (rD X.K .ne) := by
  intro pins s σ H x y v u Q I rx ry h
  obtain ⟨L, ys, rr, rd, e, q⟩ := h
  obtain ⟨a, b, rfl, ha, hb⟩ := rd1s2 rd
  replace e : runEq true a b = some rr := e
  unfold runEq at e
  split at e
  · rename_i hc
    cases e
    cases z : twoStr a b with
    | true =>
      unfold twoStr at z
      split at z
      · rename_i s1 s2
        have z1 := ha.s
        have z2 := hb.s
        subst z1; subst z2
        refine op_ne pins s σ H _ _ v u Q I rx ry ⟨rfl, ?_⟩
        rw [dec_str]
        refine q _ _ (.inl ⟨?_, rd_bool⟩)
        simp [PyData.eqv]
      · cases z
    | false =>
    rw [z, Bool.false_or] at hc
    cases z2 : nilCmp a b with
    | true =>
      obtain ⟨p1, p2, us, ws, rfl, rfl, hn, ev, hk⟩ := nil_ask I rx ry ha hb z2
      have hl : X.A.units < cLine := by omega
      have fin : ∀ c : Bool, c = (!(us.size == ws.size)) → EP X pins σ Q (.bool c) s := fun c hc => ⟨.bl c, H, I, rfl, by rw [hc, ← ev]; exact q _ _ (.inl ⟨rfl, rd_bool⟩)⟩
      rcases hk with ⟨k1, k2⟩ | ⟨k1, k2⟩
      · by_cases hs : us.size = ws.size
        · have h0 : us.size = 0 := by omega
          exact SeqAt.RcNeAt.lists (e := fun _ => true) k1 k2 hs hl (fun j j1 _ => by omega) _ _ _ _ (fin _ (by rw [h0] at hs ⊢; rw [← hs]; rfl))
        · exact SeqAt.RcNeAt.lists_lengths k1 k2 (by simpa using hs) hl _ _ _ _ (fin _ (by simp [hs]))
      · exact SeqAt.RcNeAt.tuples (e := fun _ => true) k1 k2 hl (fun j j1 j2 => by omega) _ _ _ _ (fin _ (by simp))
    | false =>
    rw [z2, Bool.false_or] at hc
    simp only [Bool.and_eq_true] at hc
    have c1 : a.canLay0 = true := by have := hc.1; unfold SeqAt.shaped at this; simp only [Bool.and_eq_true] at this; exact this.1
    have c2 : b.canLay0 = true := by have := hc.2; unfold SeqAt.shaped at this; simp only [Bool.and_eq_true] at this; exact this.1
    exact op_neD (by omega) pins s σ H x y v u Q I rx ry ⟨a, b, ha.dp c1, hb.dp c2, hc.1, hc.2, q _ _ (.inl ⟨rfl, rd_bool⟩)⟩
  · cases e
theorem RdA.rep {K : PySem.W.Frag} {L : ASet} {H : Hp} {ds : List D} {vs : List V} (h : RdA K L H ds vs) : ∀ n : Nat, RdA K L H (List.replicate n ds).flatten (List.replicate n vs).flatten
  | 0 => RdA.nil
  | n + 1 => by
    rw [List.replicate_succ, List.replicate_succ, List.flatten_cons, List.flatten_cons]
    exact h.app (RdA.rep h n)
theorem fold_cat (its : List Value) : ∀ (m : Nat) (acc : List Value), List.foldl (fun a b : Array Value => a ++ b) acc.toArray (List.replicate m its.toArray) = (acc ++ (List.replicate m its).flatten).toArray
  | 0, acc => by simp
  | m + 1, acc => by
    rw [List.replicate_succ, List.foldl_cons, List.append_toArray, fold_cat its m, List.replicate_succ, List.flatten_cons, List.append_assoc]
theorem mul_obj {pins : List (Addr × Obj)} {s : Shared} {σ : L2.St} {H : Hp} {Q : VK} {a : Addr} {its : List Value} {n : Nat} {vs : List V} {k : Int} {t : Tok} (I : Inv X pins σ H s) (r : Vals vs its) (e : s.heap.get? a = some { cls := .type "list", data := .seq its.toArray n })
    (h1 : -(2 ^ 63) ≤ k) (h2 : k < 2 ^ 63) (hz : vs.length * k.toNat ≤ sizeLine) (q : Q (.ref s.heap.objs.size) (upd H s.heap.objs.size (.lst (List.replicate k.toNat vs).flatten))) :
    wpAny (model X.prog X.w) X.A (binaryOp .Mult (.ref a) (.int k t)) (EP X pins σ Q) X.xe s := by
  have hl := r.length
  have z1 : its.toArray.size * k.toNat ≤ sizeLine := by rw [List.size_toArray, ← hl]; exact hz
  have c1 : ¬ its.toArray.size * k.toNat > (2 ^ 63 - 1) / 8 := by rw [sizeLine_eq] at z1; omega
  have c2 : ¬ (!Builtin.List.listFitsIndex k) = true := by rw [fitsIndex_both h1 h2]; exact Bool.false_ne_true
  have c3 : ¬ Builtin.List.listTooLong (its.toArray.size * k.toNat) = true := by rw [notLongL z1]; exact Bool.false_ne_true
  have flat : List.foldl (fun x1 x2 => x1 ++ x2) #[] (List.replicate (if its.toArray.isEmpty = true then 0 else k.toNat) its.toArray) = (List.replicate k.toNat its).flatten.toArray := by
    have g := fun m => fold_cat its m []
    simp only [List.nil_append] at g
    cases its with
    | nil =>
      have := g 0
      simp
    | cons a r' =>
      rw [if_neg (by simp)]
      exact g _
  have T : s.TypeIs (.ref a) "list" := ⟨_, e, rfl⟩
  refine wpAny_binaryOp_repeat_ref (T := "list") (U := "int") (by decide) T (fun s' => typeIs_int s' k t) noFill_list_mul F.fills_int_mul F.slot_int_rmul repeat_list F.slot_int_index.lookup ?_
  refine call_meets F.slot_int_rmul (typeIs_int s k t) F.entry_int_rmul (F.args_int_rmul_2 _ _) (int___rmul___int_list k t a its.toArray n) ⟨e, rfl, T, ?_⟩
  refine call_meets F.slot_list_mul T F.entry_list_mul (F.args_list_mul_2 _ _) (AutoListH.list___mul___list_int_3 a its.toArray n k t c2 c1 c3) ⟨e, ?_⟩
  rw [flat]
  have len : (List.replicate k.toNat vs).flatten.length ≤ sizeLine := by rw [PyProof.Rows.lm_len_rep_flat, Nat.mul_comm]; exact hz
  exact ⟨.ref _, _, I.lnew (t' := s.toks) (r.rep k.toNat) len, rfl, q⟩
theorem or_mul : OpR X (binaryOp .Mult) (rD X.K .mul) := by
  intro pins s σ H x y v u Q I rx ry h
  obtain ⟨L, ys, rr, rd, e, q⟩ := h
  obtain ⟨a, b, rfl, ha, hb⟩ := rd1s2 rd
  replace e : runMul a b = some rr := e
  cases a <;> cases b <;> simp only [runMul] at e <;> try (cases e; done)
  · cases e
    have f1 := ha.i
    have f2 := hb.b
    subst f1 f2
    cases ry
    obtain ⟨t, rfl⟩ := rx
    exact PySem.IntBool.mul_int_bool ⟨.int _, H, I.tok _, ⟨_, rfl⟩, q _ _ (.inl ⟨rfl, rd_int⟩)⟩
  · split at e
    · rename_i hc
      cases e
      exact op_mul pins s σ H x y v u Q I rx ry ⟨_, _, ha, hb, hc, q _ _ (.inl ⟨rfl, rd_int⟩)⟩
    · split at e
      · rename_i i j _ hw
        cases e
        simp only [Bool.and_eq_true] at hw
        exact op_mulW pins s σ H x y v u Q I rx ry ⟨_, _, ha, hb, wide_mul (wide_bits hw.1) (wide_bits hw.2) (by decide) (by decide) (by decide), q _ _ (.inl ⟨rfl, rd_int⟩)⟩
      · cases e
  · split at e
    · rename_i xs k hc
      cases e
      obtain ⟨p1, vs, rfl, s1, r1⟩ := ha.l
      have m1 := r1.len
      cases rx
      obtain ⟨t, rfl⟩ : ∃ t, u = .int k t := by have e := hb.i; subst e; exact ry
      obtain ⟨z1, its, n, t1, e1⟩ := s1.obj I
      exact mul_obj I t1 e1 hc.1 hc.2.1 (by rw [m1, sizeLine_eq]; exact hc.2.2) (q _ _ ⟨_, _, I.fresh, rfl, rfl, r1.rep _⟩)
    · cases e
  · split at e
    · rename_i xs k hc
      cases e
      obtain ⟨p1, vs, rfl, s1, r1⟩ := ha.t
      have m1 := r1.len
      have e := hb.i
      subst e
      refine op_mulT pins s σ H _ _ v u Q I rx ry ⟨p1, k, vs, rfl, rfl, s1.sq, hc.1, hc.2.1, by rw [m1]; exact hc.2.2, fun ev => ?_, fun p hp => ?_⟩
      · have r2 := r1.rep k.toNat
        rw [ev] at r2
        refine q _ _ (.inl ⟨rfl, ?_⟩)
        unfold Rd
        exact ⟨p1, vs, rfl, s1, r2⟩
      · exact q _ _ (.inr (.inl ⟨p, _, _, rfl, hp, rfl, rfl, r1.rep _⟩))
    · cases e
end
end Vm
set_option maxRecDepth 100000
set_option maxHeartbeats 4000000
/-! sorted(t) of a tuple of ints -/
namespace VmS
open PySem PySem.Spec PySem.Calls PyProof.Rows
section
variable {prog : Program} {w : World} {A : Around} {E : Value → Shared → Prop} {s : Shared}
theorem collect_tupX {Q : List Value → Shared → Prop} (it : Addr) {vs : List Value} (ht : s.heap.IsTuple it vs.toArray)
    (hQ : Q vs { s with heap := (s.heap.push (seqObj "list" #[] 0)).update s.heap.objs.size (Obj.mapSeq (· ++ vs.toArray)) }) (hsz : vs.length ≤ sizeLine) :
    wpAny (model prog w) A (collect (.ref it)) Q E s := by
  obtain ⟨o, ho, hc, n, hd⟩ := ht
  have hz : vs.toArray.size ≤ sizeLine := by simpa using hsz
  unfold collect
  refine wpAny_bind (wpAny_runValue (codeAny_builtin F.entry_proto_collect ?_))
  rw [Around.under_plainId F.plain_proto_collect _]
  show wpAny _ A.in1 (newList [] >>= fun l => again (.builtin "list.__iadd__" ⟨[l, .ref it], []⟩)) _ _ s
  refine wpAny_bind (wpAny_newObj_type ?_)
  refine wpAny_pure ⟨plainId_quiet F.plain_list_iadd _, codeAny_builtin F.entry_list_iadd ?_⟩
  rw [Around.under_plainId F.plain_list_iadd _]
  show wpAny _ A.in1 (Builtin.List.listExtendWith (.ref s.heap.objs.size) (.ref it) (.ref s.heap.objs.size)) _ _ _
  have hS : (s.heap.push { cls := .type "list", data := .seq ([] : List Value).toArray }).get? s.heap.objs.size = some { cls := .type "list", data := .seq #[] 0 } := Heap.get?_push_size _ rfl
  have hS₂ := Heap.get?_update_self (Obj.mapSeq (· ++ vs.toArray)) hS rfl
  have fin' : wpAny (model prog w) A (match Value.ref s.heap.objs.size with
      | Value.ref a => do
        match (← load a).data with
          | Data.seq xs _ => pure xs.toList
          | _ => unsupported "internal:collect"
      | _ => unsupported "internal:collect") Q E { s with heap := (s.heap.push { cls := .type "list", data := .seq ([] : List Value).toArray }).update s.heap.objs.size (Obj.mapSeq (· ++ vs.toArray)) } := by
    show wpAny _ A (load s.heap.objs.size >>= _) _ _ _
    refine wpAny_bind (wpAny_load hS₂ ?_)
    refine wpAny_pure ?_
    have e : ((#[] : Array Value) ++ vs.toArray).toList = vs := by simp
    show Q ((#[] : Array Value) ++ vs.toArray).toList _
    rw [e]
    exact hQ
  refine wpAny_mono (wpAny_extend_seq (hsz := hz) (A := A) (R := fun r s' => r = .ok (.ret (.ref s.heap.objs.size)) ∧ s' = { s with heap := (s.heap.push { cls := .type "list", data := .seq ([] : List Value).toArray }).update s.heap.objs.size (Obj.mapSeq (· ++ vs.toArray)) })
    (s := { s with heap := s.heap.push { cls := .type "list", data := .seq ([] : List Value).toArray } }) _ it _ 0 (.inr rfl) hS (Heap.get?_push_of_some _ ho) hc hd ⟨rfl, rfl⟩) (fun fin s' h => ?_) (fun e s' h => ?_)
  · cases fin with
    | done f =>
      obtain ⟨e, rfl⟩ := h
      cases e
      exact fin'
    | again c' => exact ⟨h.1, codeAny_mono h.2 fun r s'' hr => by obtain ⟨rfl, rfl⟩ := hr; exact fin'⟩
  · exact absurd h.1 (by simp)
theorem sorted_ordT {l : Addr} {vs : List Value} {ltv : Value → Value → Bool} {Q : Value → Shared → Prop} (O : SrtO.Swo ltv) (hl : s.heap.IsTuple l vs.toArray) (hz : vs.length ≤ sizeLine)
    (hS : 2 ≤ vs.length → ∀ (h₁ : Heap) (a : Addr), h₁.get? a = some (seqObj "list" vs.toArray 0) → (∀ b o, s.heap.get? b = some o → b ≠ a ∧ h₁.get? b = some o) → SrtO.SortableO prog w A.in1.in1 { s with heap := h₁ } a vs ltv)
    (h : ∀ out : List Value, SrtO.Srtd ltv out → SrtO.Stb ltv out vs → Q (.ref (s.heap.objs.size + 1)) { s with heap := sortedAll s.heap vs out.toArray }) :
    wpAny (model prog w) A (call (.builtin "sorted") [.ref l]) Q E s := by
  refine Calls.call_function_entry kind_sorted plain_sorted entry_sorted (args_sorted1 _) ?_
  unfold Builtin.«sorted»
  refine wpAny_bind (m := checkCount "sorted" 1 1 _) (wpAny_pure ?_)
  refine wpAny_bind (collect_tupX l hl ?_ hz)
  refine wpAny_bind (wpAny_newList ?_ hz)
  have hsz : ((s.heap.push (seqObj "list" #[] 0)).update s.heap.objs.size (Obj.mapSeq (· ++ vs.toArray))).objs.size = s.heap.objs.size + 1 := by
    rw [Heap.size_update, size_push']
  have hoL : (((s.heap.push (seqObj "list" #[] 0)).update s.heap.objs.size (Obj.mapSeq (· ++ vs.toArray))).push (seqObj "list" vs.toArray 0)).get? (s.heap.objs.size + 1) = some (seqObj "list" vs.toArray 0) := by
    rw [← hsz]; exact Heap.get?_push_size _ rfl
  have keep : ∀ b o, s.heap.get? b = some o → b ≠ s.heap.objs.size + 1 ∧ (((s.heap.push (seqObj "list" #[] 0)).update s.heap.objs.size (Obj.mapSeq (· ++ vs.toArray))).push (seqObj "list" vs.toArray 0)).get? b = some o := fun b o q => by
    have hlt : b < s.heap.objs.size := Heap.lt_size q
    refine ⟨Nat.ne_of_lt (Nat.lt_succ_of_lt hlt), Heap.get?_push_of_some _ ?_⟩
    rw [Heap.get?_update_ne _ _ _ _ (Nat.ne_of_lt hlt)]
    exact Heap.get?_push_of_some _ q
  show wpAny _ _ _ _ _ { s with heap := ((s.heap.push (seqObj "list" #[] 0)).update s.heap.objs.size (Obj.mapSeq (· ++ vs.toArray))).push (seqObj "list" vs.toArray 0) }
  rw [hsz]
  refine wpAny_bind (wpAny_holding (wpAny_call_entry slot_list_sort ⟨_, hoL, rfl⟩ entry_list_sort (SrtO.list_sort_ord O hoL hz (fun h2 => hS h2 _ _ hoL keep) fun out hs hb => ⟨_, rfl, ?_⟩) (args_list_sort _)))
  exact wpAny_pure ⟨_, rfl, h out hs hb⟩
end
end VmS
namespace Vm
open PySem PySem.Spec PyProof.Rows L2
def rSortedT (K : PySem.W.Frag) : List V → Hp → VK → Prop := fun vs H Q => ∃ (a : Addr) (ns : List Int), vs = [V.ref a] ∧ SqT K H a (ns.map V.int) ∧
  ∀ (ns' : List Int) (p : Addr), ns'.Perm ns → ns'.Pairwise (· ≤ ·) → H p = none → Q (.ref p) (upd H p (.lst (ns'.map V.int)))
theorem cr_sortedT {X : Cx} : CallR X (.builtin "sorted") (rSortedT X.K) := by
  intro pins s σ H vs us Q I r h
  obtain ⟨a, ns, rfl, hs, q⟩ := h
  obtain ⟨its, rv, hl, hz⟩ := I.tuple hs
  rw [Vals.ref1 r]
  have hi := rv.ints
  refine VmS.sorted_ordT SrtO.swo_int hl (by rw [← rv.length]; exact hz) (fun h2 h₁ a' _ _ => SrtO.ints_sortable hi h2) fun out h1 h2 => ?_
  obtain ⟨k1, k2, k3⟩ := SrtO.ints_out hi h1 h2
  obtain ⟨ep, he'⟩ := PyProof.Rows.sortedAll_at s.heap its out.toArray
  have hlen : ((out.map SrtO.iv).map V.int).length ≤ sizeLine := by
    rw [List.length_map, k2.length_eq]
    rw [List.length_map] at hz
    exact hz
  exact ⟨.ref _, upd H (s.heap.objs.size + 1) (.lst ((out.map SrtO.iv).map V.int)), I.laid (t' := s.toks) (fun _ _ => PyProof.Rows.sortedAll_old) (Nat.le_succ _) ⟨hlen, out, ep, vals_of_ints k1, he'⟩, rfl, q _ _ k2 k3 (I.hok.fresh (Nat.le_succ _))⟩
end Vm
set_option maxRecDepth 100000
set_option maxHeartbeats 4000000
/-! sorted(l) of a list of alike data, tuples without items among them too -/
namespace VmU
open PySem PySem.W PySem.Calls PyProof.Rows PySem.SeqAt
section
variable {prog : Program} {w : World} {A : Around} {E : Value → Shared → Prop} {s : Shared}
theorem tup_lt_call {Q : Value → Shared → Prop} {p q : Addr} {us vs : Array Value} {e r : Nat → Bool} (hp : s.heap.IsTuple p us) (hq : s.heap.IsTuple q vs)
    (he : ∀ j (h1 : j < us.size) (h2 : j < vs.size), EqAt A.in1 s us[j] vs[j] (e j)) (hr : ∀ j (h1 : j < us.size) (h2 : j < vs.size), e j = false → RcLt A.in1 s us[j] vs[j] (r j))
    (h : Q (.bool (firstLt e r (decide (us.size < vs.size)) (List.range (min us.size vs.size)))) s) : wpAny (model prog w) A (call (.builtin "tuple.__lt__") [.ref p, .ref q]) Q E s := by
  obtain ⟨⟨c1, d1, x1, l1⟩, g1, k1, n1, z1⟩ := id hp
  obtain ⟨⟨c2, d2, x2, l2⟩, g2, k2, n2, z2⟩ := id hq
  simp only at k1 z1 k2 z2
  subst k1 z1 k2 z2
  exact call_meets F.slot_tuple_lt ⟨_, g1, rfl⟩ F.entry_tuple_lt (F.args_tuple_lt_2 _ _) (tuple_ltAt p q us vs n1 n2 d1 d2 l1 l2 e r) ⟨g1, g2, he, hr, h⟩
theorem oneLt_tups {xs ys : List PyData} {a b : Value} {as bs : List Addr} {Q : Bool → Shared → Prop} (ra : Reads s.heap a (.tuple xs) as) (rb : Reads s.heap b (.tuple ys) bs) (h : alike (.tuple xs) (.tuple ys) = true)
    (hu : A.units + min (PyData.tuple xs).depth (PyData.tuple ys).depth < cLine) (hq : Q (dataLt (.tuple xs) (.tuple ys)) s) : wpAny (model prog w) A (oneLt' true a b) Q E s := by
  have hal : alikeAll xs ys = true := by unfold alike at h; exact h
  cases ra with
  | @tuple p o us n _ _ h1 h2 h3 h4 =>
    cases rb with
    | @tuple q o' vs n' _ _ k1 k2 k3 k4 =>
      have m1 : us.size = xs.length := by simpa using ReadsAll.length _ _ _ h4
      have m2 : vs.size = ys.length := by simpa using ReadsAll.length _ _ _ k4
      rw [dataLt_tuple, ← firstLt_toks xs ys hal, ← m1, ← m2] at hq
      rw [oneLt'_eq, if_pos rfl]
      refine wpAny_bind (wpAny_cRoomFor (room_here hu) (wpAny_bind (wpAny_callSpecialIfBound?_slot (T := "tuple") ⟨_, h1, h2⟩ F.slot_tuple_lt
        (tup_lt_call (e := pairEq xs ys) (r := fun j => dataLt (xs.getD j .none) (ys.getD j .none)) ⟨_, h1, h2, _, h3⟩ ⟨_, k1, k2, _, k3⟩ (fun j j1 j2 => ?_) (fun j j1 j2 hj => ?_) ?_))))
      · have z := eqAt_alikeAll xs ys A.in1 s us.toList vs.toList _ _ h4 k4 hal (room_in hu) j (by simpa using j1) (by simpa using j2)
        simpa using z
      · have z := rcLt_alikeAll xs ys A.in1 s us.toList vs.toList _ _ h4 k4 hal (room_in hu) j (by simpa using j1) (by simpa using j2) hj
        simpa using z
      · exact wpAny_truthy_bool hq
/-- whether a tuple has items -/
def full : PyData → Bool
  | .tuple (_ :: _) => true
  | _ => false
theorem firsts_mix {M : Model} {A : Around} {E : Value → Shared → Prop} {s : Shared} : ∀ {ds : List PyData} {vs : List Value} {Q : List (Option Value) → Shared → Prop}, EachIs (fun v d => ∃ as, Reads s.heap v d as) vs ds → (∀ d ∈ ds, ∃ xs, d = .tuple xs) →
    (∀ os : List (Option Value), os.map Option.isSome = ds.map full → Q os s) → wpAny M A (vs.mapM firstOfTuple') Q E s
  | _, _, Q, .nil, _, h => by rw [List.mapM_nil]; exact wpAny_pure (h [] rfl)
  | d :: ds, v :: vs, Q, .cons ⟨as, r⟩ t, ht, h => by
    obtain ⟨xs, rfl⟩ := ht d (List.mem_cons_self ..)
    rw [List.mapM_cons]
    refine wpAny_bind ?_
    rw [kas_first_eq]
    cases r with
    | @tuple p o us n _ _ h1 h2 h3 h4 =>
      refine wpAny_bind (Looks.here (show Looks M s.heap (typeOf (.ref p)) o.cls from (Looks.ld h1).andThen .now) ?_)
      rw [h2, if_neg (by first | decide | simp)]
      refine wpAny_bind (listItems_at h1 h3 (wpAny_pure (wpAny_bind (firsts_mix t (fun d hd => ht d (List.mem_cons_of_mem _ hd)) fun os ho => wpAny_pure (h _ ?_)))))
      have m1 : us.size = xs.length := by simpa using ReadsAll.length _ _ _ h4
      rw [List.map_cons, List.map_cons, ho]
      congr 1
      cases xs with
      | nil => simp [full, m1]
      | cons x r => simp [full, m1]
theorem sorts_mixed {vs : List Value} {ds : List PyData} (e : EachIs (fun v d => ∃ as, Reads s.heap v d as) vs ds) (hal : AllAlike ds) (ht : ∀ d ∈ ds, ∃ xs, d = .tuple xs) (hx : ds.all full = false)
    (hu : ∀ d, d ∈ ds → A.units + d.depth < cLine) : SortsAt prog w A s (dataKind s.heap ds) vs := by
  have room : ∀ {d d' : PyData}, d ∈ ds → A.units + min d.depth d'.depth < cLine := fun {d d'} hd => by
    have q1 := hu d hd
    have q2 := Nat.min_le_left d.depth d'.depth
    omega
  refine ⟨fun v hv => ?_, ?_⟩
  · obtain ⟨d, hd, as, r⟩ := e.left v hv
    exact ⟨_, dataKind_some hal hd r⟩
  cases ds with
  | nil => simp at hx
  | cons d0 ds0 =>
    have hall : ∀ {os : List (Option Value)}, os.map Option.isSome = (d0 :: ds0).map full → ¬ (os.toArray.all (·.isSome)) = true := fun {os} ho z => by
      have z1 : os.all (·.isSome) = true := by simpa using z
      have z2 : (os.map Option.isSome).all id = true := by rw [List.all_map]; exact z1
      rw [ho, List.all_map] at z2
      have z3 : (d0 :: ds0).all full = true := z2
      rw [hx] at z3
      cases z3
    obtain ⟨x0, rfl⟩ := ht d0 (List.mem_cons_self ..)
    cases x0 with
    | nil =>
      refine ⟨oneType', fun E x y a b Q ha hb hq => ?_, fun h2 E Q hq => ?_⟩
      · obtain ⟨d, as, hd, ra, rfl⟩ := dataKind_inv ha
        obtain ⟨d', as', hd', rb, rfl⟩ := dataKind_inv hb
        obtain ⟨x1, rfl⟩ := ht d hd
        obtain ⟨x2, rfl⟩ := ht d' hd'
        rw [keyLt'_oneType]
        exact oneLt_tups ra rb (hal _ hd _ hd') (room hd) hq
      · rw [kat_kind_eq, List.mapM_toArray, map_eq_pure_bind]
        refine wpAny_bind (wpAny_bind (firsts_mix e ht fun os ho => wpAny_pure ?_))
        rw [if_neg (hall ho)]
        have h0 : ¬ (os.toArray[0]?.bind id).isSome = true := by
          cases os with
          | nil => simp
          | cons o os =>
            rw [List.map_cons, List.map_cons, List.cons.injEq] at ho
            have e1 : o.isSome = false := ho.1
            cases o with
            | none => simp
            | some _ => cases e1
        rw [if_neg h0, oneTypeOnly'_eq, List.mapM_toArray, map_eq_pure_bind]
        refine wpAny_bind (wpAny_bind (wpAny_bind (kas_mapM (r := .type "tuple") _ (fun v hv Q' hq' => ?_) (wpAny_pure ?_))))
        · obtain ⟨d, hd, as, r⟩ := e.left v hv
          obtain ⟨xs, rfl⟩ := ht d hd
          exact (looks_reads r).here hq'
        · have hl := e.length
          have q1 : (List.map (fun _ => Value.type "tuple") vs).toArray[0]? = some (.type "tuple") := by
            cases vs with
            | nil => simp at h2
            | cons v vs => simp
          have q2 : ((List.map (fun _ => Value.type "tuple") vs).toArray.all fun x => x == .type "tuple") = true := by
            simp only [List.all_toArray, List.all_map, List.all_eq_true]
            intro _ _
            exact beq_self_eq_true _
          rw [q1]
          simp only [q2, if_true]
          exact wpAny_pure (wpAny_pure hq)
    | cons x1 r1 =>
      refine ⟨general', fun E x y a b Q ha hb hq => ?_, fun h2 E Q hq => ?_⟩
      · obtain ⟨d, as, hd, ra, rfl⟩ := dataKind_inv ha
        obtain ⟨d', as', hd', rb, rfl⟩ := dataKind_inv hb
        obtain ⟨x1, rfl⟩ := ht d hd
        exact oneLt_alike (f := false) (fun z => by cases z) ra rb (hal _ hd _ hd') (by intro z; cases z) (room hd) hq
      · rw [kat_kind_eq, List.mapM_toArray, map_eq_pure_bind]
        refine wpAny_bind (wpAny_bind (firsts_mix e ht fun os ho => wpAny_pure ?_))
        rw [if_neg (hall ho)]
        have h0 : (os.toArray[0]?.bind id).isSome = true := by
          cases os with
          | nil => simp at ho
          | cons o os =>
            rw [List.map_cons, List.map_cons, List.cons.injEq] at ho
            have e1 : o.isSome = true := ho.1
            simpa using e1
        rw [if_pos h0]
        exact wpAny_pure hq
/-- sorted(l), all alike -/
theorem sorted_alike {l : Addr} {vs : List Value} {ds : List PyData} {R : Value → PyData → Prop} {Q : Value → Shared → Prop} (hl : s.heap.IsList l vs.toArray) (e : EachIs R vs ds) (er : EachIs (fun v d => ∃ as, Reads s.heap v d as) vs ds) (hal : AllAlike ds)
    (hk : (∀ d ∈ ds, ∃ xs, d = .tuple xs) ∨ ∀ d ∈ ds, d ≠ .none ∧ ∀ xs, d ≠ .tuple xs) (hL : ds.length ≤ sizeLine) (hu : ∀ d, d ∈ ds → A.units + 2 + d.depth < cLine)
    (h : ∀ out, out.length = ds.length → EachIs R out (ds.mergeSort (dataLe false id)) → Q (.ref (s.heap.objs.size + 1)) { s with heap := sortedAll s.heap vs (List.toArray out) }) :
    wpAny (model prog w) A (call (.builtin "sorted") [.ref l]) Q E s := by
  have er' : EachIs (fun v d => ∃ as, Reads (sortingHeap (copyHeap s.heap vs) (s.heap.objs.size + 1) vs) v d as) vs ds := er.mono fun _ _ ⟨as, r⟩ => ⟨as, PyProof.Rows.Reads.keeps (fun _ _ => sorting_copy_old) r⟩
  have S : SortsAt prog w A.in1.in1 { s with heap := sortingHeap (copyHeap s.heap vs) (s.heap.objs.size + 1) vs } (dataKind (sortingHeap (copyHeap s.heap vs) (s.heap.objs.size + 1) vs) ds) vs := by
    rcases hk with hk | hk
    · cases hf : ds.all full with
      | true =>
        refine SortsAt.data (s := { s with heap := _ }) er' hal (.inl fun d hd => ?_) hu
        obtain ⟨xs, rfl⟩ := hk d hd
        cases xs with
        | nil =>
          have := List.all_eq_true.mp hf _ hd
          cases this
        | cons x r => exact ⟨x, r, rfl⟩
      | false => exact sorts_mixed (s := { s with heap := _ }) er' hal hk hf hu
    · exact SortsAt.data (s := { s with heap := _ }) er' hal (.inr hk) hu
  refine sorted_vals hl S (by rw [e.length]; exact hL) (h _ (by rw [sortVals_length false rfl]; exact e.length) ?_)
  have := sortVals_data (R := R) (enc := id) (bs := ds) (h' := sortingHeap (copyHeap s.heap vs) (s.heap.objs.size + 1) vs) false e er' (by rw [List.map_id]; exact hal)
  rw [List.map_id] at this
  exact this
end
end VmU
set_option maxRecDepth 100000
set_option maxHeartbeats 4000000
namespace Vm
open PySem PySem.Spec PyProof.Rows L2
theorem flat_rd {K : PySem.W.Frag} {L : ASet} {H : Hp} {d : D} {v : V} (h : Rd K L H d v) (f : flatD d = true) : flatV v = true := by
  cases d <;> simp only [flatD] at f <;> try (cases f; done)
  all_goals (unfold Rd at h; subst h; rfl)
theorem flat_rd1 {K : PySem.W.Frag} {L : ASet} {H : Hp} {d : D} {v : V} (h : Rd1 K L H d v) (f : flatD d = true) : flatV v = true := by
  cases d <;> simp only [flatD] at f <;> try (cases f; done)
  · have := h.n; subst this; rfl
  · have := h.b; subst this; rfl
  · have := h.i; subst this; rfl
  · have := h.s; subst this; rfl
theorem flats_rd {K : PySem.W.Frag} {L : ASet} {H : Hp} : ∀ {ds : List D} {vs : List V}, RdA K L H ds vs → ds.all flatD = true → vs.all flatV = true
  | [], _, h, _ => by unfold RdA at h; subst h; rfl
  | d :: ds, _, h, f => by
    unfold RdA at h
    obtain ⟨v, r, e, h1, h2⟩ := h
    subst e
    rw [List.all_cons, Bool.and_eq_true] at f ⊢
    exact ⟨flat_rd h1 f.1, flats_rd h2 f.2⟩
theorem eqF_rd {K : PySem.W.Frag} {L : ASet} {H : Hp} {d e : D} {v u : V} (h : Rd K L H d v) (h' : Rd1 K L H e u) (f : flatD d = true) (f' : flatD e = true) : eqV v u = eqF d e := by
  cases d <;> simp only [flatD] at f <;> try (cases f; done)
  all_goals (unfold Rd at h; subst h)
  all_goals (cases e <;> simp only [flatD] at f' <;> try (cases f'; done))
  all_goals first | (have := h'.n; subst this; rfl) | (have := h'.b; subst this; rfl) | (have := h'.i; subst this; rfl) | (have := h'.s; subst this; rfl)
theorem any_rd {K : PySem.W.Frag} {L : ASet} {H : Hp} {e : D} {u : V} (h' : Rd1 K L H e u) (f' : flatD e = true) : ∀ {ds : List D} {vs : List V}, RdA K L H ds vs → ds.all flatD = true → inV u vs = ds.any fun y => eqF y e
  | [], _, h, _ => by unfold RdA at h; subst h; rfl
  | d :: ds, _, h, f => by
    unfold RdA at h
    obtain ⟨v, r, e, h1, h2⟩ := h
    subst e
    rw [List.all_cons, Bool.and_eq_true] at f
    show (eqV v u || inV u r) = _
    rw [any_rd h' f' h2 f.2, eqF_rd h1 h' f.1 f', List.any_cons]
section
variable {X : Cx}
theorem mem_seq {neg : Bool} {op : CmpOp} {pins : List (Addr × Obj)} {s : Shared} {σ : L2.St} {H : Hp} {x y : V} {v u : Value} {Q : VK} {L : ASet} {a b : D} {c : Bool} (ho : OpR X (compareOp op) (rIn X.K neg)) (I : Inv X pins σ H s) (rx : RelV x v) (ry : RelV y u)
    (ha : Rd1 X.K L H a x) (hb : Rd1 X.K L H b y) (hs : ∀ z, ¬ (a = .str z ∧ ∃ w, b = .str w)) (e : memD a b = some c) (q : Q (.bl (if neg then !c else c)) H) : wpAny (model X.prog X.w) X.A (compareOp op v u) (EP X pins σ Q) X.xe s := by
  have go : ∀ ds, (b = .list ds ∨ b = .tuple ds) → (flatD a && ds.all flatD) = true → c = (ds.any fun y => eqF y a) → wpAny (model X.prog X.w) X.A (compareOp op v u) (EP X pins σ Q) X.xe s := by
    intro ds hd hf hc
    simp only [Bool.and_eq_true] at hf
    rcases hd with rfl | rfl
    · obtain ⟨p, vs, rfl, s1, r1⟩ := hb.l
      refine ho pins s σ H x _ v u Q I rx ry ⟨p, vs, rfl, .inl s1.sq, flat_rd1 ha hf.1, flats_rd r1 hf.2, ?_⟩
      rw [any_rd ha hf.1 r1 hf.2, ← hc]
      cases neg <;> exact q
    · obtain ⟨p, vs, rfl, s1, r1⟩ := hb.t
      refine ho pins s σ H x _ v u Q I rx ry ⟨p, vs, rfl, .inr s1.sq, flat_rd1 ha hf.1, flats_rd r1 hf.2, ?_⟩
      rw [any_rd ha hf.1 r1 hf.2, ← hc]
      cases neg <;> exact q
  cases b with
  | list ds =>
    have e : (if (flatD a && ds.all flatD) = true then some (ds.any fun y => eqF y a) else none) = some c := by cases a <;> exact e
    split at e
    · exact go ds (.inl rfl) (by assumption) (Option.some.inj e).symm
    · cases e
  | tuple ds =>
    have e : (if (flatD a && ds.all flatD) = true then some (ds.any fun y => eqF y a) else none) = some c := by cases a <;> exact e
    split at e
    · exact go ds (.inr rfl) (by assumption) (Option.some.inj e).symm
    · cases e
  | str w =>
    cases a with
    | str z => exact absurd ⟨rfl, w, rfl⟩ (hs z)
    | _ => cases e
  | none => cases a <;> cases e
  | bool _ => cases a <;> cases e
  | int _ => cases a <;> cases e
  | dict _ => cases a <;> cases e
theorem or_mem : OpR X (compareOp .In) (rD X.K .mem) := by
  intro pins s σ H x y v u Q I rx ry h
  obtain ⟨L, ys, rr, rd, e, q⟩ := h
  obtain ⟨a, b, rfl, ha, hb⟩ := rd1s2 rd
  replace e : (memD a b).map (fun b => RR.d (.bool b)) = some rr := e
  cases hm : memD a b with
  | none => rw [hm] at e; cases e
  | some c =>
    rw [hm] at e
    cases e
    have q' := q _ _ (.inl ⟨rfl, rd_bool⟩)
    by_cases hs : ∃ z, a = .str z ∧ ∃ w, b = .str w
    · obtain ⟨z, rfl, w, rfl⟩ := hs
      replace hm : inS z w = c := Option.some.inj hm
      unfold inS at hm
      split at hm
      · rename_i cp hz
        have ez : z = ⟨#[cp]⟩ := by
          obtain ⟨⟨l⟩⟩ := z
          have : l = [cp] := hz
          rw [this]
        subst ez
        subst hm
        exact op_in_sign pins s σ H x y v u Q I rx ry ⟨cp, w, ha.s, hb.s, q'⟩
      · subst hm
        exact op_in_str pins s σ H x y v u Q I rx ry ⟨z, w, ha.s, hb.s, q'⟩
    · exact mem_seq (neg := false) op_in_seq I rx ry ha hb (fun z h => hs ⟨z, h.1, h.2⟩) hm q'
theorem or_nmem : OpR X (compareOp .NotIn) (rD X.K .nmem) := by
  intro pins s σ H x y v u Q I rx ry h
  obtain ⟨L, ys, rr, rd, e, q⟩ := h
  obtain ⟨a, b, rfl, ha, hb⟩ := rd1s2 rd
  replace e : (memD a b).map (fun b => RR.d (.bool (!b))) = some rr := e
  cases hm : memD a b with
  | none => rw [hm] at e; cases e
  | some c =>
    rw [hm] at e
    cases e
    have q' := q _ _ (.inl ⟨rfl, rd_bool⟩)
    by_cases hs : ∃ z, a = .str z ∧ ∃ w, b = .str w
    · obtain ⟨z, rfl, w, rfl⟩ := hs
      replace hm : inS z w = c := Option.some.inj hm
      unfold inS at hm
      split at hm
      · rename_i cp hz
        have ez : z = ⟨#[cp]⟩ := by
          obtain ⟨⟨l⟩⟩ := z
          have : l = [cp] := hz
          rw [this]
        subst ez
        subst hm
        exact op_notIn_sign pins s σ H x y v u Q I rx ry ⟨cp, w, ha.s, hb.s, q'⟩
      · subst hm
        exact op_notIn_str pins s σ H x y v u Q I rx ry ⟨z, w, ha.s, hb.s, q'⟩
    · exact mem_seq (neg := true) op_notIn_seq I rx ry ha hb (fun z h => hs ⟨z, h.1, h.2⟩) hm q'
/-! ### is None -/
theorem isNone_v {K : PySem.W.Frag} {L : ASet} {H : Hp} {d : D} {v : V} (h : Rd1 K L H d v) : decide (v = .non) = isNone d := by
  cases d with
  | none => have := h.n; subst this; rfl
  | bool b => have := h.b; subst this; rfl
  | int b => have := h.i; subst this; rfl
  | str b => have := h.s; subst this; rfl
  | list ds => obtain ⟨a, vs, rfl, _⟩ := h.l; rfl
  | tuple ds => obtain ⟨a, vs, rfl, _⟩ := h.t; rfl
  | dict ds => obtain ⟨a, vs, rfl, _⟩ := h.m; rfl
/-! ### o[i] -/
theorem ixr_item : IxR X (rD X.K .item) := by
  intro value slice pins s σ H x y v u Q I rx ry h hs
  obtain ⟨L, ys, rr, rd, e, q⟩ := h
  obtain ⟨a, b, rfl, ha, hb⟩ := rd1s2 rd
  replace e : (itemD a b).map RR.d = some rr := e
  cases hm : itemD a b with
  | none => rw [hm] at e; cases e
  | some c =>
    rw [hm] at e
    cases e
    have at_of : ∀ {ds : List D} {vs : List V} {i : Int}, RdA X.K L H ds vs → atI ds i = some c → ∃ w, atI vs i = some w ∧ Rd X.K L H c w := by
      intro ds vs i r e
      unfold atI at e ⊢
      rw [r.len]
      cases hx : ixN ds.length i with
      | none => rw [hx] at e; cases e
      | some j =>
        rw [hx] at e
        simp only [Option.bind_some] at e ⊢
        exact r.get e
    cases a with
    | list ds =>
      cases b with
      | int i =>
        obtain ⟨p, vs, rfl, s1, r1⟩ := ha.l
        obtain ⟨w, e1, e2⟩ := at_of r1 hm
        exact ix_list value slice pins s σ H _ y v u Q I rx ry ⟨p, vs, i, w, rfl, hb, s1.sq, e1, q _ _ (.inl ⟨rfl, e2⟩)⟩ hs
      | _ => cases hm
    | tuple ds =>
      cases b with
      | int i =>
        obtain ⟨p, vs, rfl, s1, r1⟩ := ha.t
        obtain ⟨w, e1, e2⟩ := at_of r1 hm
        exact ix_tup value slice pins s σ H _ y v u Q I rx ry ⟨p, vs, i, w, rfl, hb, s1.sq, e1, q _ _ (.inl ⟨rfl, e2⟩)⟩ hs
      | _ => cases hm
    | str z =>
      cases b with
      | int i =>
        replace hm : (if z.length ≤ 16777216 then (atI z.cps.toList i).map fun c => PyData.str (sign c) else none) = some c := hm
        split at hm
        · rename_i hl
          cases hc : atI z.cps.toList i with
          | none => rw [hc] at hm; cases hm
          | some cp =>
            rw [hc] at hm
            cases hm
            exact ix_str value slice pins s σ H x y v u Q I rx ry ⟨z, i, cp, ha, hb, by rw [sizeLine_eq]; exact hl, hc, q _ _ (.inl ⟨rfl, rd_str⟩)⟩ hs
        · cases hm
      | _ => cases hm
    | _ => cases b <;> cases hm
theorem RdA.cut {K : PySem.W.Frag} {L : ASet} {H : Hp} {ds : List D} {vs : List V} (r : RdA K L H ds vs) (lo hi : Option Int) : RdA K L H (cutD ds lo hi) (cutV vs lo hi) := by
  unfold cutD cutV
  rw [r.len]
  exact (r.drop _).take _
theorem cut_all {α : Type} (xs : List α) (lo hi : Option Int) (h1 : HT.sIx xs.length 0 lo = 0) (h2 : HT.sIx xs.length xs.length hi = xs.length) : (xs.drop (HT.sIx xs.length 0 lo)).take (HT.sIx xs.length xs.length hi - HT.sIx xs.length 0 lo) = xs := by
  rw [h1, h2]; simp
/-- o[lo:hi] -/
def rSl (K : PySem.W.Frag) : V → Option Int → Option Int → Hp → VK → Prop := fun x lo hi H Q => ∃ L a rr, Rd1 K L H a x ∧ sliceD a lo hi = some rr ∧ ∀ v H2, OpPost K L H rr v H2 → Q v H2
theorem slr_slice : SlR X (rSl X.K) := by
  intro pins s σ H x v vl vu lo hi sl Q I rx hs pl pu h
  obtain ⟨L, a, rr, ha, e, q⟩ := h
  cases a with
  | list ds =>
    cases e
    obtain ⟨p, vs, rfl, s1, r1⟩ := ha.l
    exact sl_list pins s σ H _ v vl vu lo hi sl Q I rx hs pl pu ⟨p, vs, rfl, s1.sq, fun p hp => q _ _ ⟨p, _, hp, rfl, rfl, r1.cut lo hi⟩⟩
  | tuple ds =>
    cases e
    obtain ⟨p, vs, rfl, s1, r1⟩ := ha.t
    refine sl_tupA pins s σ H _ v vl vu lo hi sl Q I rx hs pl pu ⟨p, vs, rfl, s1.sq, fun hw => ?_, fun _ p hp => q _ _ (.inr (.inl ⟨p, _, _, rfl, hp, rfl, rfl, r1.cut lo hi⟩))⟩
    have := cut_all ds lo hi (by rw [← r1.len]; exact hw.1) (by rw [← r1.len]; exact hw.2)
    have e : cutD ds lo hi = ds := this
    rw [e] at q
    exact q _ _ (.inl ⟨rfl, ha⟩)
  | str z =>
    replace e : (if z.length ≤ 16777216 then some (RR.d (.str (cutS z lo hi))) else none) = some rr := e
    split at e
    · rename_i hl
      cases e
      exact sl_str pins s σ H x v vl vu lo hi sl Q I rx hs pl pu ⟨z, ha, by rw [sizeLine_eq]; exact hl, q _ _ (.inl ⟨rfl, rd_str⟩)⟩
    · cases e
  | _ => cases e
/-! ### built-ins -/
theorem cr_int : CallR X (.type "int") (rDs X.K .int) := by
  intro pins s σ H xs us Q I r h
  obtain ⟨L, ys, rr, rd, e, q⟩ := h
  cases ys with
  | nil => cases e
  | cons a t =>
    cases t with
    | cons b t => cases e
    | nil =>
      obtain ⟨w, ws, rfl, ha, rfl⟩ := rd
      replace e : runInt a = some rr := e
      cases a with
      | int i => cases e; have := ha.i; subst this; exact call_int1 pins s σ H _ us Q I r (.inl ⟨i, rfl, q _ _ (.inl ⟨rfl, rd_int⟩)⟩)
      | bool i => cases e; have := ha.b; subst this; exact call_int1 pins s σ H _ us Q I r (.inr ⟨i, rfl, q _ _ (.inl ⟨rfl, rd_int⟩)⟩)
      | _ => cases e
/-- a built-in of one value -/
theorem call1 {fn : Value} {o : Op} {g : D → Option RR} (ho : ∀ a, o.run [a] = g a) (hn : ∀ ys, ys.length ≠ 1 → o.run ys = none)
    (h : ∀ (pins : List (Addr × Obj)) (s : Shared) (σ : L2.St) (H : Hp) (x : V) (u : Value) (Q : VK) (L : ASet) (a : D) (rr : RR), Inv X pins σ H s → RelV x u → Rd1 X.K L H a x → g a = some rr → (∀ v H2, OpPost X.K L H rr v H2 → Q v H2) →
      wpAny (model X.prog X.w) X.A (call fn [u]) (EP X pins σ Q) X.xe s) : CallR X fn (rDs X.K o) := by
  intro pins s σ H xs us Q I r hq
  obtain ⟨L, ys, rr, rd, e, q⟩ := hq
  cases ys with
  | nil => rw [hn [] (by simp)] at e; cases e
  | cons a t =>
    cases t with
    | cons b t => rw [hn _ (by simp)] at e; cases e
    | nil =>
      obtain ⟨w, ws, rfl, ha, rfl⟩ := rd
      rw [ho] at e
      obtain ⟨u, rfl, ru⟩ := vals1 r
      exact h pins s σ H w u Q L a rr I ru ha e q
theorem call2 {fn : Value} {o : Op} {c : Int → Int → Bool} {g : Int → Int → D} (ho : ∀ a b, o.run [a, b] = runInts c g a b) (hn : ∀ ys, ys.length ≠ 2 → o.run ys = none)
    (h : ∀ (pins : List (Addr × Obj)) (s : Shared) (σ : L2.St) (H : Hp) (us : List Value) (Q : VK) (L : ASet) (i j : Int), Inv X pins σ H s → Vals [.int i, .int j] us → c i j = true → (∀ v H2, OpPost X.K L H (.d (g i j)) v H2 → Q v H2) →
      wpAny (model X.prog X.w) X.A (call fn us) (EP X pins σ Q) X.xe s) : CallR X fn (rDs X.K o) := by
  intro pins s σ H xs us Q I r hq
  obtain ⟨L, ys, rr, rd, e, q⟩ := hq
  match ys, rd, e with
  | [], _, e => rw [hn [] (by simp)] at e; cases e
  | [a], _, e => rw [hn _ (by simp)] at e; cases e
  | a :: b :: c' :: t, _, e => rw [hn _ (by simp)] at e; cases e
  | [a, b], rd, e =>
    obtain ⟨w, ws, rfl, ha, w2, ws2, rfl, hb, rfl⟩ := rd
    rw [ho] at e
    obtain ⟨i, j, rfl, rfl, e2, rfl⟩ := runInts_some e
    have := ha.i; subst this
    have := hb.i; subst this
    exact h pins s σ H us Q L i j I r e2 q
theorem cr_len : CallR X (.builtin "len") (rDs X.K .len) := by
  refine call1 (g := fun a => (lenD a).map fun n : Nat => RR.d (.int (n : Int))) (fun _ => rfl) (fun ys h => by match ys, h with | [], _ => rfl | [_], h => simp at h | _ :: _ :: _, _ => rfl) ?_
  intro pins s σ H x u Q L a rr I ru ha e q
  cases a with
  | list ds =>
    cases e
    obtain ⟨p, vs, rfl, s1, r1⟩ := ha.l
    refine call_len pins s σ H [.ref p] [u] Q I (.cons ru .nil) ⟨_, _, rfl, .inl ⟨vs, s1.sq, rfl⟩, ?_⟩
    rw [r1.len]; exact q _ _ (.inl ⟨rfl, rd_int⟩)
  | tuple ds =>
    cases e
    obtain ⟨p, vs, rfl, s1, r1⟩ := ha.t
    refine call_len pins s σ H [.ref p] [u] Q I (.cons ru .nil) ⟨_, _, rfl, .inr ⟨vs, s1.sq, rfl⟩, ?_⟩
    rw [r1.len]; exact q _ _ (.inl ⟨rfl, rd_int⟩)
  | str z =>
    replace e : (if z.length ≤ 16777216 then some z.length else none).map (fun n : Nat => RR.d (.int (n : Int))) = some rr := e
    split at e
    · rename_i hl
      cases e
      have := ha.s; subst this
      exact call_len pins s σ H [.str z] [u] Q I (.cons ru .nil) ⟨_, _, rfl, ⟨by rw [sizeLine_eq]; exact hl, rfl⟩, q _ _ (.inl ⟨rfl, rd_int⟩)⟩
    · cases e
  | dict kvs =>
    cases e
    obtain ⟨p, hv, rfl, s1, r1⟩ := ha.m
    refine call_lenD pins s σ H [.ref p] [u] Q I (.cons ru .nil) ⟨p, hv, rfl, s1, ?_⟩
    have len : ∀ {ks : List (D × D)} {hs : List (Key × V)}, RdK X.K L H ks hs → hs.length = ks.length := by
      intro ks
      induction ks with
      | nil => intro hs h; unfold RdK at h; subst h; rfl
      | cons p ks ih =>
        obtain ⟨k, d⟩ := p
        intro hs h
        unfold RdK at h
        obtain ⟨kk, v, r, e, _, _, h2⟩ := h
        subst e
        simp [ih h2]
    rw [len r1]; exact q _ _ (.inl ⟨rfl, rd_int⟩)
  | _ => cases e
theorem cr_abs : CallR X (.builtin "abs") (rDs X.K .abs) := by
  refine call1 (g := runAbs) (fun _ => rfl) (fun ys h => by match ys, h with | [], _ => rfl | [_], h => simp at h | _ :: _ :: _, _ => rfl) ?_
  intro pins s σ H x u Q L a rr I ru ha e q
  cases a <;> try (cases e; done)
  cases e
  exact call_abs pins s σ H [x] [u] Q I (.cons ru .nil) ⟨_, by rw [ha.i], q _ _ (.inl ⟨rfl, rd_int⟩)⟩
theorem cr_min2 (hc : X.calm = true) : CallR X (.builtin "min") (rDs X.K .min2) := by
  refine call2 (fun _ _ => rfl) (fun ys h => by match ys, h with | [], _ => rfl | [_], _ => rfl | [_, _], h => simp at h | _ :: _ :: _ :: _, _ => rfl) ?_
  intro pins s σ H us Q L i j I r _ q
  exact call_min2 hc pins s σ H _ us Q I r ⟨i, j, rfl, q _ _ (.inl ⟨rfl, rd_int⟩)⟩
theorem cr_max2 (hc : X.calm = true) : CallR X (.builtin "max") (rDs X.K .max2) := by
  refine call2 (fun _ _ => rfl) (fun ys h => by match ys, h with | [], _ => rfl | [_], _ => rfl | [_, _], h => simp at h | _ :: _ :: _ :: _, _ => rfl) ?_
  intro pins s σ H us Q L i j I r _ q
  exact call_max2 hc pins s σ H _ us Q I r ⟨i, j, rfl, q _ _ (.inl ⟨rfl, rd_int⟩)⟩
theorem cr_divmod : CallR X (.builtin "divmod") (rDs X.K .divmod) := by
  refine call2 (fun _ _ => rfl) (fun ys h => by match ys, h with | [], _ => rfl | [_], _ => rfl | [_, _], h => simp at h | _ :: _ :: _ :: _, _ => rfl) ?_
  intro pins s σ H us Q L i j I r e q
  simp only [Bool.and_eq_true, decide_eq_true_eq] at e
  exact call_divmod pins s σ H _ us Q I r ⟨i, j, rfl, e, fun p hp => q _ _ (.inr (.inl ⟨p, _, _, rfl, hp, rfl, rfl, .cons rd_int (.cons rd_int .nil)⟩))⟩
theorem cr_tuple : CallR X (.type "tuple") (rDs X.K .tuple) := by
  refine call1 (g := runSeq fun ds => .d (.tuple ds)) (fun _ => rfl) (fun ys h => by match ys, h with | [], _ => rfl | [_], h => simp at h | _ :: _ :: _, _ => rfl) ?_
  intro pins s σ H x u Q L a rr I ru ha e q
  cases a <;> try (cases e; done)
  · cases e
    obtain ⟨p, vs, rfl, s1, r1⟩ := ha.l
    exact call_tuple_of pins s σ H _ [u] Q I (.cons ru .nil) ⟨p, vs, rfl, .inl ⟨s1.sq, fun l hl => q _ _ (.inr (.inl ⟨l, _, _, rfl, hl, rfl, rfl, r1⟩))⟩⟩
  · cases e
    obtain ⟨p, vs, rfl, s1, r1⟩ := ha.t
    exact call_tuple_of pins s σ H _ [u] Q I (.cons ru .nil) ⟨p, vs, rfl, .inr ⟨s1.sq, q _ _ (.inl ⟨rfl, ha⟩)⟩⟩
theorem cr_list : CallR X (.type "list") (rDs X.K .list) := by
  refine call1 (g := runSeq fun ds => .fr (.lst ds)) (fun _ => rfl) (fun ys h => by match ys, h with | [], _ => rfl | [_], h => simp at h | _ :: _ :: _, _ => rfl) ?_
  intro pins s σ H x u Q L a rr I ru ha e q
  cases a <;> try (cases e; done)
  · cases e
    obtain ⟨p, vs, rfl, s1, r1⟩ := ha.l
    exact call_list_of pins s σ H _ [u] Q I (.cons ru .nil) ⟨p, vs, rfl, .inl s1.sq, fun l hl => q _ _ ⟨l, _, hl, rfl, rfl, r1⟩⟩
  · cases e
    obtain ⟨p, vs, rfl, s1, r1⟩ := ha.t
    exact call_list_of pins s σ H _ [u] Q I (.cons ru .nil) ⟨p, vs, rfl, .inr s1.sq, fun l hl => q _ _ ⟨l, _, hl, rfl, rfl, r1⟩⟩
theorem bools1 {fn : Value} {o : Op} {g : List Bool → Bool} (ho : ∀ a, o.run [a] = runBools1 g a) (hn : ∀ ys, ys.length ≠ 1 → o.run ys = none)
    (h : CallR X fn (fun vs H Q => ∃ (a : Addr) (bs : List Bool), vs = [V.ref a] ∧ SqL X.K H a (bs.map V.bl) ∧ Q (.bl (g bs)) H)) : CallR X fn (rDs X.K o) := by
  refine call1 (g := runBools1 g) ho hn ?_
  intro pins s σ H x u Q L a rr I ru ha e q
  cases a <;> try (cases e; done)
  rename_i ds
  obtain ⟨p, vs, rfl, s1, r1⟩ := ha.l
  replace e : (boolsD ds).map (fun bs => RR.d (.bool (g bs))) = some rr := e
  cases hb : boolsD ds with
  | none => rw [hb] at e; cases e
  | some bs =>
    rw [hb] at e; cases e
    have := boolsD_some hb
    subst this
    have := r1.bools
    subst this
    exact h pins s σ H _ [u] Q I (.cons ru .nil) ⟨p, bs, rfl, s1.sq, q _ _ (.inl ⟨rfl, rd_bool⟩)⟩
theorem cr_anyD (hc : X.calm = true) : CallR X (.builtin "any") (rDs X.K .any) := bools1 (fun _ => rfl) (fun ys h => by match ys, h with | [], _ => rfl | [_], h => simp at h | _ :: _ :: _, _ => rfl) (cr_any hc)
theorem cr_allD (hc : X.calm = true) : CallR X (.builtin "all") (rDs X.K .all) := bools1 (fun _ => rfl) (fun ys h => by match ys, h with | [], _ => rfl | [_], h => simp at h | _ :: _ :: _, _ => rfl) (cr_all hc)
theorem ints1 {fn : Value} {o : Op} {g : List Int → Option RR} (ho : ∀ a, o.run [a] = runInts1 g a) (hn : ∀ ys, ys.length ≠ 1 → o.run ys = none)
    (h : ∀ (pins : List (Addr × Obj)) (s : Shared) (σ : L2.St) (H : Hp) (us : List Value) (Q : VK) (L : ASet) (p : Addr) (ns : List Int) (rr : RR), Inv X pins σ H s → Vals [.ref p] us → SqL X.K H p (ns.map V.int) → g ns = some rr → (∀ v H2, OpPost X.K L H rr v H2 → Q v H2) →
      wpAny (model X.prog X.w) X.A (call fn us) (EP X pins σ Q) X.xe s) : CallR X fn (rDs X.K o) := by
  refine call1 (g := runInts1 g) ho hn ?_
  intro pins s σ H x u Q L a rr I ru ha e q
  cases a <;> try (cases e; done)
  rename_i ds
  obtain ⟨p, vs, rfl, s1, r1⟩ := ha.l
  replace e : (intsD ds).bind g = some rr := e
  cases hb : intsD ds with
  | none => rw [hb] at e; cases e
  | some bs =>
    rw [hb] at e
    have := intsD_some hb
    subst this
    have := r1.ints
    subst this
    exact h pins s σ H [u] Q L p bs rr I (.cons ru .nil) s1.sq e q
theorem cr_sumD (hc : X.calm = true) : CallR X (.builtin "sum") (rDs X.K .sum) := by
  refine call1 (g := runSum) (fun _ => rfl) (fun ys h => by match ys, h with | [], _ => rfl | [_], h => simp at h | _ :: _ :: _, _ => rfl) ?_
  intro pins s σ H x u Q L a rr I ru ha e q
  cases a <;> try (cases e; done)
  · rename_i ds
    obtain ⟨p, vs, rfl, s1, r1⟩ := ha.l
    replace e : (intsD ds).bind (fun ns => some (RR.d (.int ns.sum))) = some rr := e
    cases hb : intsD ds with
    | none => rw [hb] at e; cases e
    | some ns =>
      rw [hb] at e; cases e
      have := intsD_some hb
      subst this
      have := r1.ints
      subst this
      exact cr_sum hc pins s σ H _ [u] Q I (.cons ru .nil) ⟨p, ns, rfl, s1.sq, q _ _ (.inl ⟨rfl, rd_int⟩)⟩
  · rename_i ds
    obtain ⟨p, vs, rfl, s1, r1⟩ := ha.t
    replace e : (intsD ds).bind (fun ns => some (RR.d (.int ns.sum))) = some rr := e
    cases hb : intsD ds with
    | none => rw [hb] at e; cases e
    | some ns =>
      rw [hb] at e; cases e
      have := intsD_some hb
      subst this
      have := r1.ints
      subst this
      cases ru
      obtain ⟨its, r, ht, _⟩ := I.tuple s1.sq
      have hi := r.ints
      obtain ⟨xs, hx⟩ := hi.allInts.items
      have hn : numsOf (intItems xs).toList = ns := by rw [← hx]; exact hi.numsOf
      rw [nums_intItems] at hn
      rw [hx] at ht
      refine PySem.W.ktm_sumG (I.ok.hd hc) ht fun h' tk t' hk => ?_
      rw [preSum_eq, List.take_of_length_le (by simp), hn]
      exact ⟨.int _, H, I.kept hk, ⟨_, rfl⟩, q _ _ (.inl ⟨rfl, rd_int⟩)⟩
theorem maxI_mem : ∀ (r : List Int) (m : Int), maxI m r ∈ m :: r ∧ ∀ y ∈ m :: r, y ≤ maxI m r
  | [], m => ⟨by simp [maxI], fun y hy => by simp at hy; subst hy; exact Int.le_refl _⟩
  | x :: r, m => by
    have e : maxI m (x :: r) = maxI (if x > m then x else m) r := rfl
    rw [e]
    by_cases hc : x > m
    · rw [if_pos hc]
      obtain ⟨h1, h2⟩ := maxI_mem r x
      have h3 := h2 x (List.mem_cons_self ..)
      refine ⟨List.mem_cons_of_mem _ h1, fun y hy => ?_⟩
      rcases List.mem_cons.mp hy with z | hy
      · subst z; omega
      · exact h2 y hy
    · rw [if_neg hc]
      obtain ⟨h1, h2⟩ := maxI_mem r m
      have h3 := h2 m (List.mem_cons_self ..)
      refine ⟨?_, fun y hy => ?_⟩
      · rcases List.mem_cons.mp h1 with z | z
        · rw [z]; simp
        · exact List.mem_cons_of_mem _ (List.mem_cons_of_mem _ z)
      · rcases List.mem_cons.mp hy with z | hy
        · subst z; exact h3
        · rcases List.mem_cons.mp hy with z | hy
          · subst z; omega
          · exact h2 y (List.mem_cons_of_mem _ hy)
theorem minI_mem : ∀ (r : List Int) (m : Int), minI m r ∈ m :: r ∧ ∀ y ∈ m :: r, minI m r ≤ y
  | [], m => ⟨by simp [minI], fun y hy => by simp at hy; subst hy; exact Int.le_refl _⟩
  | x :: r, m => by
    have e : minI m (x :: r) = minI (if x < m then x else m) r := rfl
    rw [e]
    by_cases hc : x < m
    · rw [if_pos hc]
      obtain ⟨h1, h2⟩ := minI_mem r x
      have h3 := h2 x (List.mem_cons_self ..)
      refine ⟨List.mem_cons_of_mem _ h1, fun y hy => ?_⟩
      rcases List.mem_cons.mp hy with z | hy
      · subst z; omega
      · exact h2 y hy
    · rw [if_neg hc]
      obtain ⟨h1, h2⟩ := minI_mem r m
      have h3 := h2 m (List.mem_cons_self ..)
      refine ⟨?_, fun y hy => ?_⟩
      · rcases List.mem_cons.mp h1 with z | z
        · rw [z]; simp
        · exact List.mem_cons_of_mem _ (List.mem_cons_of_mem _ z)
      · rcases List.mem_cons.mp hy with z | hy
        · subst z; exact h3
        · rcases List.mem_cons.mp hy with z | hy
          · subst z; omega
          · exact h2 y (List.mem_cons_of_mem _ hy)
theorem cr_max1 (hc : X.calm = true) : CallR X (.builtin "max") (rDs X.K .max1) := by
  refine ints1 (fun _ => rfl) (fun ys h => by match ys, h with | [], _ => rfl | [_], h => simp at h | _ :: _ :: _, _ => rfl) ?_
  intro pins s σ H us Q L p ns rr I r hs e q
  cases ns with
  | nil => cases e
  | cons n ns =>
    cases e
    refine cr_max hc pins s σ H _ us Q I r ⟨p, _, rfl, hs, by simp, fun m h1 h2 => ?_⟩
    obtain ⟨g1, g2⟩ := maxI_mem ns n
    have : m = maxI n ns := Int.le_antisymm (g2 m h1) (h2 _ g1)
    rw [this]; exact q _ _ (.inl ⟨rfl, rd_int⟩)
theorem cr_min1 (hc : X.calm = true) : CallR X (.builtin "min") (rDs X.K .min1) := by
  refine ints1 (fun _ => rfl) (fun ys h => by match ys, h with | [], _ => rfl | [_], h => simp at h | _ :: _ :: _, _ => rfl) ?_
  intro pins s σ H us Q L p ns rr I r hs e q
  cases ns with
  | nil => cases e
  | cons n ns =>
    cases e
    refine cr_min hc pins s σ H _ us Q I r ⟨p, _, rfl, hs, by simp, fun m h1 h2 => ?_⟩
    obtain ⟨g1, g2⟩ := minI_mem ns n
    have : m = minI n ns := Int.le_antisymm (h2 _ g1) (g2 m h1)
    rw [this]; exact q _ _ (.inl ⟨rfl, rd_int⟩)
theorem insI_perm (x : Int) : ∀ l : List Int, (insI x l).Perm (x :: l)
  | [] => List.Perm.refl _
  | y :: r => by
    unfold insI
    split
    · exact List.Perm.refl _
    · exact ((insI_perm x r).cons y).trans (List.Perm.swap x y r)
theorem sortI_perm : ∀ l : List Int, (sortI l).Perm l
  | [] => List.Perm.refl _
  | x :: r => (insI_perm x _).trans ((sortI_perm r).cons x)
theorem insI_sorted (x : Int) : ∀ l : List Int, l.Pairwise (· ≤ ·) → (insI x l).Pairwise (· ≤ ·)
  | [], _ => by simp [insI]
  | y :: r, h => by
    unfold insI
    obtain ⟨h1, h2⟩ := List.pairwise_cons.mp h
    split
    · rename_i hx
      refine List.pairwise_cons.mpr ⟨fun z hz => ?_, h⟩
      rcases List.mem_cons.mp hz with e | hz
      · subst e; exact hx
      · exact Int.le_trans hx (h1 z hz)
    · rename_i hx
      refine List.pairwise_cons.mpr ⟨fun z hz => ?_, insI_sorted x r h2⟩
      rcases List.mem_cons.mp ((insI_perm x r).mem_iff.mp hz) with e | hz
      · subst e; omega
      · exact h1 z hz
theorem sortI_sorted : ∀ l : List Int, (sortI l).Pairwise (· ≤ ·)
  | [] => List.Pairwise.nil
  | x :: r => insI_sorted x _ (sortI_sorted r)
theorem RdA.of_ints {K : PySem.W.Frag} {L : ASet} {H : Hp} : ∀ ns : List Int, RdA K L H (ns.map .int) (ns.map V.int)
  | [] => .nil
  | _ :: r => .cons rd_int (RdA.of_ints r)
theorem depth_mem {d : D} : ∀ {ds : List D}, d ∈ ds → d.depth ≤ PyData.depthAll ds
  | [], h => by cases h
  | e :: ds, h => by
    unfold PyData.depthAll
    rcases List.mem_cons.mp h with h | h
    · subst h; exact Nat.le_max_left _ _
    · exact Nat.le_trans (depth_mem h) (Nat.le_max_right _ _)
theorem each_rd {K : PySem.W.Frag} {L : ASet} {H : Hp} : ∀ {vs : List V} {us : List Value} {ds : List D}, Vals vs us → RdA K L H ds vs → PySem.W.EachIs (fun u d => ∃ z, RelV z u ∧ Rd K L H d z) us ds
  | _, _, [], r, h => by
    obtain rfl : _ = [] := h
    cases r
    exact .nil
  | _, _, _ :: _, r, h => by
    obtain ⟨v, w, rfl, h1, h2⟩ := h
    cases r with
    | cons r1 r2 => exact .cons ⟨v, r1, h1⟩ (each_rd r2 h2)
theorem rd_each {K : PySem.W.Frag} {L : ASet} {H : Hp} : ∀ {us : List Value} {ds : List D}, PySem.W.EachIs (fun u d => ∃ z, RelV z u ∧ Rd K L H d z) us ds → ∃ vs, Vals vs us ∧ RdA K L H ds vs
  | _, _, .nil => ⟨[], .nil, RdA.nil⟩
  | _, _, .cons ⟨z, h1, h2⟩ t => by
    obtain ⟨vs, r, h⟩ := rd_each t
    exact ⟨z :: vs, .cons h1 r, RdA.cons h2 h⟩
theorem cr_sortedD (hu : X.A.units + 200 < cLine) (hc : X.calm = true) : CallR X (.builtin "sorted") (rDs X.K .sorted) := by
  refine call1 (g := runSorted) (fun _ => rfl) (fun ys h => by match ys, h with | [], _ => rfl | [_], h => simp at h | _ :: _ :: _, _ => rfl) ?_
  intro pins s σ H x u Q L a rr I ru ha e q
  cases a <;> try (cases e; done)
  · rename_i ds
    obtain ⟨p, vs, rfl, s1, r1⟩ := ha.l
    replace e : sortL ds = some rr := e
    unfold sortL at e
    cases hb : intsD ds with
    | none =>
      rw [hb] at e
      dsimp only at e
      split at e
      · rename_i ok
        cases e
        unfold sortOkD at ok
        simp only [Bool.and_eq_true, decide_eq_true_eq, Bool.or_eq_true] at ok
        obtain ⟨o1, o2, o3, o4⟩ := ok
        cases ru
        obtain ⟨its, r, ht, hz⟩ := I.list s1.sq
        obtain ⟨as, er⟩ := Dp.readsAll I ds vs its (r1.dp o2) r
        have er2 := PySem.W.readsAll_each (enc := id) (h := s.heap) (vs := its) (bs := ds) (as := as) (by rw [List.map_id]; exact er)
        have al : PySem.W.AllAlike ds := fun d hd d' hd' => List.all_eq_true.mp (List.all_eq_true.mp o1 d hd) d' hd'
        have hk : (∀ d ∈ ds, ∃ xs, d = .tuple xs) ∨ ∀ d ∈ ds, d ≠ .none ∧ ∀ xs, d ≠ .tuple xs := by
          rcases o4 with o4 | o4
          · refine .inl fun d hd => ?_
            have z := List.all_eq_true.mp o4 d hd
            cases d <;> first | exact ⟨_, rfl⟩ | cases z
          · refine .inr fun d hd => ?_
            have z := List.all_eq_true.mp o4 d hd
            cases d with
            | none => cases z
            | tuple _ => cases z
            | _ => exact ⟨(by intro y; cases y), by intro xs y; cases y⟩
        have dep : ∀ d ∈ ds, d.depth ≤ 64 := fun d hd => Nat.le_trans (depth_mem hd) o3
        have hl2 : its.length ≤ sizeLine := by rw [← r.length]; exact hz
        refine VmU.sorted_alike (R := fun v d => ∃ z, RelV z v ∧ Rd X.K L H d z) ht.isList (each_rd r r1) er2 al hk (by rw [← r1.len, r.length]; exact hl2) (fun d hd => by have := dep d hd; omega) fun out ho eo => ?_
        obtain ⟨zs, rz, rdz⟩ := rd_each eo
        obtain ⟨ep, he'⟩ := PyProof.Rows.sortedAll_at s.heap its out.toArray
        have hlen : zs.length ≤ sizeLine := by rw [rz.length, ho, ← r1.len, r.length]; exact hl2
        exact ⟨.ref _, upd H (s.heap.objs.size + 1) (.lst zs), I.laid (t' := s.toks) (fun _ _ => PyProof.Rows.sortedAll_old) (Nat.le_succ _) ⟨hlen, out, ep, rz, he'⟩, rfl, q _ _ ⟨_, zs, I.hok.fresh (Nat.le_succ _), rfl, rfl, rdz⟩⟩
      · cases e
    | some ns =>
      rw [hb] at e; cases e
      have := intsD_some hb
      subst this
      have := r1.ints
      subst this
      refine cr_sortedI pins s σ H _ [u] Q I (.cons ru .nil) ⟨p, ns, rfl, s1.sq, fun ns' l h1 h2 hl => ?_⟩
      have : ns' = sortI ns := PySem.W.ksm_same (h1.trans (sortI_perm ns).symm) h2 (sortI_sorted ns)
      subst this
      exact q _ _ ⟨l, _, hl, rfl, rfl, RdA.of_ints _⟩
  · rename_i ds
    obtain ⟨p, vs, rfl, s1, r1⟩ := ha.t
    replace e : (intsD ds).map (fun ns => RR.fr (.lst ((sortI ns).map .int))) = some rr := e
    cases hb : intsD ds with
    | none => rw [hb] at e; cases e
    | some ns =>
      rw [hb] at e; cases e
      have := intsD_some hb
      subst this
      have := r1.ints
      subst this
      refine cr_sortedT pins s σ H _ [u] Q I (.cons ru .nil) ⟨p, ns, rfl, s1.sq, fun ns' l h1 h2 hl => ?_⟩
      have : ns' = sortI ns := PySem.W.ksm_same (h1.trans (sortI_perm ns).symm) h2 (sortI_sorted ns)
      subst this
      exact q _ _ ⟨l, _, hl, rfl, rfl, RdA.of_ints _⟩
  · rename_i kvs
    obtain ⟨p, hv, rfl, s1, r1⟩ := ha.m
    replace e : (if kvs.length < 64 then (intsD (kvs.map (·.1))).map fun ns => RR.fr (.lst ((sortI ns).map .int)) else none) = some rr := e
    split at e
    · rename_i h64
      cases hb : intsD (kvs.map (·.1)) with
      | none => rw [hb] at e; cases e
      | some ns =>
        rw [hb] at e; cases e
        have hk := intsD_some hb
        have keys : ∀ {ks : List (D × D)} {hs : List (Key × V)} {ms : List Int}, RdK X.K L H ks hs → ks.map (·.1) = ms.map PyData.int → hs.map (·.1) = ms.map Sum.inl := by
          intro ks
          induction ks with
          | nil =>
            intro hs ms h e
            unfold RdK at h; subst h
            cases ms with
            | nil => rfl
            | cons _ _ => cases e
          | cons z ks ih =>
            obtain ⟨k, d⟩ := z
            intro hs ms h e
            unfold RdK at h
            obtain ⟨kk, w, r, e1, ek, _, h2⟩ := h
            subst e1
            cases ms with
            | nil => cases e
            | cons m ms =>
              simp only [List.map_cons, List.cons.injEq] at e ⊢
              refine ⟨?_, ih h2 e.2⟩
              have e0 := ek.trans e.1
              cases kk with
              | inl i => cases e0; rfl
              | inr i => cases e0
        have hl : ns.length < 64 := by
          have := congrArg List.length hk
          simp only [List.length_map] at this
          omega
        refine call_sortedDI hc pins s σ H _ [u] Q I (.cons ru .nil) ⟨p, hv, ns, rfl, .inl s1, keys r1 hk, hl, fun ns' l h1 h2 hl => ?_⟩
        have : ns' = sortI ns := PySem.W.ksm_same (h1.trans (sortI_perm ns).symm) h2 (sortI_sorted ns)
        subst this
        exact q _ _ ⟨l, _, hl, rfl, rfl, RdA.of_ints _⟩
    · cases e
theorem ty_rd1 {K : PySem.W.Frag} {L : ASet} {H : Hp} {d : D} {v : V} (h : Rd1 K L H d v) : TyX K H v (.type (tyD d)) := by
  cases d with
  | none => have := h.n; subst this; exact .base .non
  | bool b => have := h.b; subst this; exact .base (.bl b)
  | int b => have := h.i; subst this; exact .base (.int b)
  | str b => have := h.s; subst this; exact .base (.str b)
  | list ds =>
    obtain ⟨a, vs, rfl, s, _⟩ := h.l
    rcases s with (s | ⟨o, s⟩) | ⟨its, n, h1, _, _⟩
    · exact .base (.lst s)
    · exact .base (.frz s)
    · exact .kList h1 rfl
  | tuple ds =>
    obtain ⟨a, vs, rfl, s, _⟩ := h.t
    rcases s with ⟨_, s | ⟨o, s⟩⟩ | ⟨o, its, n, h1, h2, _⟩
    · exact .base (.tup s)
    · exact .fTuple s
    · exact .kTuple h1 h2
  | dict ds => obtain ⟨a, vs, rfl, s, _⟩ := h.m; exact .base (.dK s)
/-- isinstance(x, T) -/
theorem isI_run {t : String} {pins : List (Addr × Obj)} {s : Shared} {σ : L2.St} {H : Hp} {xs : List V} {us : List Value} {Q : VK} {x : V} {L : ASet} {a : D} {rr : RR} (I : Inv X pins σ H s) (r : Vals [x, .ty t] us) (ha : Rd1 X.K L H a x) (e : (Op.isI t).run [a] = some rr) (q : ∀ v H2, OpPost X.K L H rr v H2 → Q v H2) :
    wpAny (model X.prog X.w) X.A (call (.builtin "isinstance") us) (EP X pins σ Q) X.xe s := by
  replace e : (kitB (tyD a) t).map (fun b => RR.d (.bool b)) = some rr := e
  cases hk : kitB (tyD a) t with
  | none => rw [hk] at e; cases e
  | some b =>
    rw [hk] at e; cases e
    exact call_isi pins s σ H _ us Q I r ⟨x, .ty t, _, .type t, b, rfl, .ty t, ty_rd1 ha, kit_ty hk, q _ _ (.inl ⟨rfl, rd_bool⟩)⟩
theorem cr_repr (hu : X.A.units + 200 < cLine) (hg : X.A.guards = some []) : CallR X (.builtin "repr") (rDs X.K .repr) := by
  refine call1 (g := runRepr) (fun _ => rfl) (fun ys h => by match ys, h with | [], _ => rfl | [_], h => simp at h | _ :: _ :: _, _ => rfl) ?_
  intro pins s σ H x u Q L a rr I ru ha e q
  unfold runRepr at e
  split at e
  · rename_i hc
    obtain ⟨c1, c2, c3, c4⟩ := hc
    cases e
    have q' : ∀ {h' : Heap} {tk : Nat} {w : Tok}, (∀ b o, s.heap.get? b = some o → h'.get? b = some o) → EP X pins σ Q (.str a.shown w) { s with heap := h', toks := tk } := fun {h' tk w} k => ⟨.str a.shown, H, I.kept k, ⟨_, rfl⟩, q _ _ (.inl ⟨rfl, rd_str⟩)⟩
    have big : ∀ {p : Addr}, x = .ref p → wpAny (model X.prog X.w) X.A (call (.builtin "repr") [u]) (EP X pins σ Q) X.xe s := by
      intro p ex
      subst ex
      cases ru
      obtain ⟨as, rdr⟩ := Dp.reads I a (.ref p) (.ref p) (ha.dp c1) rfl
      have nd : a.hasDict = false := PyData.hasDict_of_canLay a c1
      refine repr_of_reads' rdr c2 (fun h => by rw [nd] at h; cases h) hg (by omega) (fun _ _ e => e) (fun h' w tk k => q' k) (by rw [sizeLine_eq]; exact c4)
    cases a with
    | none => have := ha.n; subst this; cases ru; exact PySem.P.repr_of_none (q' fun _ _ z => z)
    | bool b =>
      have := ha.b; subst this; cases ru
      exact PySem.P.repr_of_bool (q' (tk := s.toks + 1) fun _ _ z => z)
    | int i =>
      have := ha.i; subst this; obtain ⟨t, rfl⟩ := ru
      exact PySem.P.repr_of_int (by simpa [PyData.showable] using c2) (q' fun _ _ z => z)
    | str i =>
      have := ha.s; subst this; obtain ⟨t, rfl⟩ := ru
      exact PySem.P.repr_of_str (q' fun _ _ z => z) (by rw [sizeLine_eq]; exact c4)
    | list ds => obtain ⟨p, vs, ex, _⟩ := ha.l; exact big ex
    | tuple ds => obtain ⟨p, vs, ex, _⟩ := ha.t; exact big ex
    | dict ds => simp [PyData.canLay0] at c1
  · cases e
end
end Vm
set_option maxRecDepth 100000
set_option maxHeartbeats 4000000
namespace Vm
open PySem PySem.Spec L2
/-! ### from Python's trees to the small language -/
structure Gam where
  N : List Str
  sc : Scope
  /-- the defs: name, parameters -/
  defs : List (Str × List Str)
  /-- the module's constants -/
  cs : List (Str × D)
  /-- built-ins that the module leaves alone -/
  bs : List Str
  /-- calls by keyword: the def, how many positional ones, the names, where each parameter's value stands -/
  kws : List (Str × Nat × List Str × List D × List Nat)
  /-- defs with parameters that go by keyword alone -/
  kwo : List Str
  /-- cells that may be stored to -/
  fn : Str → Bool
  /-- exception classes without fields, that are raised; that are caught; which is caught as which; defs that may let one out -/
  xs : List Str := []
  xc : List Str := []
  xm : List (Str × Str) := []
  rz : List Str := []
  /-- in this def tuple(l) makes a tuple of which it is known how it is laid -/
  pt : Bool := false
  /-- in this def a comprehension over a list in a slot leaves it as it is -/
  kp : Bool := false
  lc : Bool := false
  kf : Bool := false
def Gam.mt (Γ : Gam) (x : Str) : List Str := (Γ.xm.filter fun q => decide (q.2 = x)).map (·.1)
def Gam.vis (Γ : Gam) (x : Str) : Bool := match Γ.sc.names.lookup x with
  | some .local => true
  | some .cell => true
  | some .free => true
  | _ => false
def Gam.loc (Γ : Gam) (x : Str) : Bool := match Γ.sc.names.lookup x with
  | some .local => true
  | _ => false
/-- a name that may be stored to -/
def Gam.st (Γ : Gam) (x : Str) : Bool := match Γ.sc.names.lookup x with
  | some .local => true
  | some .cell => Γ.fn x
  | _ => false
def Gam.gl (Γ : Gam) (x : Str) : Bool := match Γ.sc.names.lookup x with
  | some .globalImplicit => true
  | _ => false
def okName (x : Str) : Bool := x != ("__debug__" : Str) && x != ("__classdict__" : Str) && x != ("__name__" : Str)
def ixOf : List Str → Str → Nat → Option Nat
  | [], _, _ => none
  | y :: r, x, n => if y = x then some n else ixOf r x (n + 1)
def defOf : List (Str × List Str) → Str → Nat → Option (Nat × List Str)
  | [], _, _ => none
  | y :: r, x, n => if y.1 = x then some (n, y.2) else defOf r x (n + 1)
def constD : Const → Option D
  | .none => some .none
  | .bool b => some (.bool b)
  | .int i => some (.int i)
  | .str s => some (.str s)
  | _ => none
def binO : Operator → Option Op
  | .Add => some .add
  | .Sub => some .sub
  | .Mult => some .mul
  | .FloorDiv => some .fdiv
  | .Mod => some .mod
  | .Pow => some .pow
  | _ => none
def cmpO : CmpOp → Option Op
  | .Eq => some .eq
  | .NotEq => some .ne
  | .Lt => some .lt
  | .LtE => some .le
  | .Gt => some .gt
  | .GtE => some .ge
  | .In => some .mem
  | .NotIn => some .nmem
  | .Is => some .isb
  | .IsNot => some .isnb
def noneE : Expr → Bool
  | .Constant .none _ _ => true
  | _ => false
/-- a built-in's operation, by its name and how many values it gets -/
def biT1 : List (Str × Op) := [("len", .len), ("int", .int), ("abs", .abs), ("repr", .repr), ("tuple", .tuple), ("list", .list), ("any", .any), ("all", .all), ("sum", .sum), ("sorted", .sorted), ("max", .max1), ("min", .min1)]
def biT2 : List (Str × Op) := [("max", .max2), ("min", .min2), ("divmod", .divmod)]
def biO (x : Str) : Nat → Option Op
  | 1 => biT1.lookup x
  | 2 => biT2.lookup x
  | _ => none
def Gam.biO (Γ : Gam) (x : Str) (n : Nat) : Option Op := if Γ.pt = true ∧ x = "tuple" ∧ n = 1 then some .ptuple else Vm.biO x n
def tyName (x : Str) : Option String :=
  if x = "int" then some "int" else if x = "bool" then some "bool" else if x = "str" then some "str" else if x = "tuple" then some "tuple" else if x = "list" then some "list" else if x = "dict" then some "dict" else none
def mapO {α β : Type} (g : α → Option β) : List α → Option (List β)
  | [] => some []
  | a :: r => (g a).bind fun b => (mapO g r).bind fun l => some (b :: l)
def optO {α β : Type} (g : α → Option β) : Option α → Option (Option β)
  | none => some none
  | some a => (g a).map some
def kwNames (ks : List Keyword) : List (Option Str) := ks.map (·.arg)
def kwFind : List (Str × Nat × List Str × List D × List Nat) → Str → Nat → List (Option Str) → Option (List D × List Nat)
  | [], _, _, _ => none
  | k :: r, x, n, ks => if k.1 = x ∧ k.2.1 = n ∧ k.2.2.1.map some = ks then some (k.2.2.2.1, k.2.2.2.2) else kwFind r x n ks
mutual
def tgC (Γ : Gam) : Expr → Option Tg
  | .Name x _ => if Γ.st x && okName x then (ixOf Γ.N x 0).map .name else none
  | .Tuple ts _ _ => (tgCs Γ ts).map .tup
  | _ => none
def tgCs (Γ : Gam) : List Expr → Option (List Tg)
  | [] => some []
  | t :: ts => (tgC Γ t).bind fun a => (tgCs Γ ts).bind fun l => some (a :: l)
end
def Gam.blk (Γ : Gam) (scope : Scope) : Gam := { Γ with sc := relS scope Γ.sc, fn := fun x => scope.names.lookup x == some .cell }
/-- a block's own names, with their places -/
def ownC (N : List Str) (scope : Scope) : Option (List (Str × Nat)) :=
  mapO (fun y => (ixOf N y.1 0).map fun i => (y.1, i)) (scope.names.filter fun y => (y.2 == .local || y.2 == .cell) && y.1 != (".0" : Str))
def isTupE : Expr → Bool
  | .Tuple _ _ _ => true
  | _ => false
def notSup : Expr → Bool
  | .Call (.Name _ _) [] [] _ => false
  | _ => true
def m1E : Expr → Bool
  | .UnaryOp .USub (.Constant (.int i) _ _) _ => decide (i = 1)
  | _ => false
def muO (nm : Str) (n : Nat) : Option Mu :=
  if nm = "append" then (if n = 1 then some .append else none) else if nm = "extend" then (if n = 1 then some .extend else none) else if nm = "pop" then (if n = 0 then some .pop0 else none) else none
def meB (nm : Str) (n : Nat) : Bool := meTab.any fun r => decide (Str.ofString r.1.1 = nm) && (r.1.2.2 == n)
/-- what is gone over -/
def itC (Γ : Gam) (g : Expr → Option Ex) (isT : Bool) (e : Expr) : Option It := match e with
  | .Call (.Name x _) es [] _ => if okName x = true ∧ Γ.gl x = true ∧ Γ.bs.contains x = true ∧ (x = "range" ∨ x = "enumerate" ∨ x = "zip") then
      (if x = "range" then (if es.length = 1 ∨ es.length = 2 ∨ es.length = 3 then (mapO g es).map .rng else none)
      else if x = "enumerate" then (match es with
        | [a] => if isT = true then (g a).map .enum else none
        | _ => none)
      else (match es with
        | [a, b] => if isT = true then (g a).bind fun a => (g b).bind fun b => some (.zip a b) else none
        | _ => none))
    else (g e).map .seq
  | .Set _ _ _ => none
  | _ => (g e).map .seq
def starE : Expr → Bool
  | .Starred _ _ => true
  | _ => false
def unstar : Expr → Expr
  | .Starred e _ => e
  | e => e
def Gam.mkLc (Γ : Gam) (t : Tg) (it : It) (ifs : List Ex) (e : Ex) (own : List Nat) : Ex := if Γ.kp = true then (match it with
  | .seq (.v j) => .lck t j ifs e own
  | _ => .lc t it ifs e own) else .lc t it ifs e own
def mxO (x : Str) : Option Op := if x = "max" then some .maxd else if x = "min" then some .mind else none
def comp : Nat → Gam → Expr → Option Ex
  | 0, _, _ => none
  | n + 1, Γ, e => match e with
    | .Constant c _ _ => (constD c).map .k
    | .Name x _ => if okName x = true then (if Γ.vis x = true then (ixOf Γ.N x 0).map .v else if Γ.gl x = true then (Γ.cs.lookup x).map .k else none) else none
    | .BinOp a op b _ => (binO op).bind fun o => (comp n Γ a).bind fun a => (comp n Γ b).bind fun b => some (.op o [a, b])
    | .UnaryOp .Not a _ => (comp n Γ a).map fun a => .op .not [a]
    | .UnaryOp .USub a _ => (comp n Γ a).map fun a => .op .neg [a]
    | .BoolOp _ [a] _ => comp n Γ a
    | .BoolOp .And (a :: b :: r) pos => (comp n Γ a).bind fun a => (comp n Γ (.BoolOp .And (b :: r) pos)).bind fun b => some (.and a b)
    | .BoolOp .Or (a :: b :: r) pos => (comp n Γ a).bind fun a => (comp n Γ (.BoolOp .Or (b :: r) pos)).bind fun b => some (.or a b)
    | .IfExp c a b _ => (comp n Γ c).bind fun c => (comp n Γ a).bind fun a => (comp n Γ b).bind fun b => some (.ife c a b)
    | .Compare a [op] [b] _ =>
      if noneE b = true then (match op with
        | .Is => (comp n Γ a).map fun a => .op .isn [a]
        | .IsNot => (comp n Γ a).map fun a => .op .isnn [a]
        | _ => none)
      else if behindInMarks op b = false then (cmpO op).bind fun o => (comp n Γ a).bind fun a => (comp n Γ b).bind fun b => some (.op o [a, b]) else none
    | .Compare a [op, op'] [b, c] _ => if lastMarks [op, op'] [b, c] = false then (cmpO op).bind fun o => (cmpO op').bind fun o' => (comp n Γ a).bind fun a => (comp n Γ b).bind fun b => (comp n Γ c).bind fun c => some (.ch o o' a b c) else none
    | .Call (.Name x _) es ks _ =>
      if okName x = true ∧ Γ.gl x = true then
        match defOf Γ.defs x 0 with
        | some (g, ps) => (mapO (comp n Γ) es).bind fun es' => match ks with
          | [] => if es.length = ps.length ∧ Γ.kwo.contains x = false then some (.call g es') else (kwFind Γ.kws x es.length []).bind fun q => some (.callk g q.2 (es' ++ ([] ++ q.1.map .k)))
          | _ => (kwFind Γ.kws x es.length (kwNames ks)).bind fun q => (mapO (comp n Γ) (ks.map (·.value))).bind fun ks' => some (.callk g q.2 (es' ++ (ks' ++ q.1.map .k)))
        | none => if Γ.bs.contains x = true ∧ ks.isEmpty = true then
            (if x = "isinstance" then (match es with
              | [a, .Name t _] => if okName t = true ∧ Γ.gl t = true ∧ Γ.bs.contains t = true then (tyName t).bind fun t => (comp n Γ a).bind fun a => some (.op (.isI t) [a]) else none
              | _ => none)
            else (Γ.biO x es.length).bind fun o => (mapO (comp n Γ) es).bind fun es' => some (.op o es')) else (match es, ks with
            | [e], [⟨some k, kv, _⟩] => if Γ.bs.contains x = true ∧ k = "default" then (mxO x).bind fun o => (comp n Γ e).bind fun e' => (comp n Γ kv).bind fun d' => some (.op o [e', d']) else none
            | [a, b], [] => if Γ.lc = true ∧ x = "lcm" then (comp n Γ a).bind fun a' => (comp n Γ b).bind fun b' => some (.op .lcm [a', b']) else none
            | _, _ => none)
      else none
    | .Call (.Attribute o nm ap) es [] cp => if (ap.endLine == cp.line) = true ∧ es.length < 29 ∧ notSup o = true then
        (match muO nm es.length with
        | some mu => (comp n Γ o).bind fun o => (mapO (comp n Γ) es).bind fun es => some (.mu mu o es)
        | none => if meB nm es.length = true then (comp n Γ o).bind fun o => (mapO (comp n Γ) es).bind fun es => some (.me nm o es) else none)
      else none
    | .ListComp elt [⟨tg, iter, ifs, asy⟩] scope _ => if asy = 0 then (ownC Γ.N scope).bind fun own => if blkC Γ.N Γ.sc scope own = true ∧ ifs.length ≤ 1 then
        (tgC (Γ.blk scope) tg).bind fun t => (itC Γ (comp n Γ) (isTupE tg) iter).bind fun it => (mapO (comp n (Γ.blk scope)) ifs).bind fun ifs => (comp n (Γ.blk scope) elt).bind fun e => some (Γ.mkLc t it ifs e (own.map (·.2)))
      else none
      else none
    | .ListComp elt [⟨tg, iter, ifs, asy⟩, ⟨tg1, iter1, ifs1, asy1⟩] scope _ => if asy = 0 ∧ asy1 = 0 then (ownC Γ.N scope).bind fun own => if blkC Γ.N Γ.sc scope own = true ∧ ifs.length ≤ 1 ∧ ifs1.length ≤ 1 then
        (tgC (Γ.blk scope) tg).bind fun t => (itC Γ (comp n Γ) (isTupE tg) iter).bind fun it => (mapO (comp n (Γ.blk scope)) ifs).bind fun ifs => (tgC (Γ.blk scope) tg1).bind fun t1 => (itC (Γ.blk scope) (comp n (Γ.blk scope)) (isTupE tg1) iter1).bind fun it1 =>
          (mapO (comp n (Γ.blk scope)) ifs1).bind fun ifs1 => (comp n (Γ.blk scope) elt).bind fun e => if (tgI t1).all ((own.map (·.2)).contains ·) = true then some (.lc2 t it ifs t1 it1 ifs1 e (own.map (·.2)) (tgI t1)) else none
      else none
      else none
    | .Subscript a i _ => match i with
      | .Slice (some lo) (some hi) none _ => (comp n Γ a).bind fun a => (comp n Γ lo).bind fun lo => (comp n Γ hi).bind fun hi => some (.sl2 a lo hi)
      | .Slice (some lo) none none _ => (comp n Γ a).bind fun a => (comp n Γ lo).bind fun lo => some (.op (.slice true false) [a, lo])
      | .Slice none (some hi) none _ => (comp n Γ a).bind fun a => (comp n Γ hi).bind fun hi => some (.op (.slice false true) [a, hi])
      | .Slice none none none _ => (comp n Γ a).bind fun a => some (.op (.slice false false) [a])
      | .Slice none none (some st) _ => if m1E st = true then (comp n Γ a).bind fun a => some (.op .rev [a]) else none
      | .Slice _ _ _ _ => none
      | _ => (comp n Γ a).bind fun a => (comp n Γ i).bind fun i => some (.op .item [a, i])
    | .Tuple es _ _ => if es.any starE = true then (mapO (fun e => comp n Γ (unstar e)) es).map (.tups (es.map starE)) else (mapO (comp n Γ) es).map .tup
    | .List es _ => (mapO (comp n Γ) es).map .lst
    | .Dict [] [] _ => some (.dct [] [])
    | _ => none
end Vm
set_option maxRecDepth 100000
set_option maxHeartbeats 4000000
namespace Vm
open PySem PySem.Spec L2
/-! ### a call, by data -/
def oadr : List Arg → List V → List V
  | .d _ :: as, _ :: vs => oadr as vs
  | _ :: as, v :: vs => v :: oadr as vs
  | _, _ => []
def radr : List Arg → List V → List Addr
  | .r _ :: as, .ref a :: vs => a :: radr as vs
  | _ :: as, _ :: vs => radr as vs
  | _, _ => []
def ArgR (K : PySem.W.Frag) (L : ASet) (H : Hp) : Arg → V → Prop
  | .d x, v => RdP K L H x v
  | .o o, v => ∃ p, v = .ref p ∧ ObR K L H p o
  | .r o, v => ∃ p, v = .ref p ∧ ObR K L H p o
def ArgsR (K : PySem.W.Frag) (L : ASet) (H : Hp) : List Arg → List V → Prop
  | [], vs => vs = []
  | a :: as, vs => ∃ v r, vs = v :: r ∧ ArgR K L H a v ∧ ArgsR K L H as r
def LA (A : ASet) (args : List Arg) (vs : List V) : ASet := fun a => A a ∨ V.ref a ∈ oadr args vs
/-- what came back of an object that went by reference -/
def OutR (K : PySem.W.Frag) (L : ASet) (H : Hp) : SV → Addr → Prop
  | .no, _ => True
  | .d x, a => Cd K L H x a
  | .own o, a => ObR K L H a o ∧ L a
def OutsR (K : PySem.W.Frag) (L : ASet) (H : Hp) : List SV → List Addr → Prop
  | [], as => as = []
  | u :: us, as => ∃ a r, as = a :: r ∧ OutR K L H u a ∧ OutsR K L H us r
def CallPost (K : PySem.W.Frag) (A : ASet) (args : List Arg) (vs : List V) (H : Hp) (rr : RR) (outs : List SV) (v : V) (H' : Hp) : Prop :=
  ∃ L' : ASet, (∀ a, A a → L' a) ∧ (∀ a, L' a → ∃ o, H' a = some o) ∧ OutsR K L' H' outs (radr args vs) ∧
    (match rr with
      | .d x => RdP K L' H' x v
      | .fr o => ∃ p, v = .ref p ∧ L' p ∧ ¬ A p ∧ p ∉ radr args vs ∧ ObR K L' H' p o
      | .ex _ => v = .non) ∧
    Ext (LA A args vs) H L' H' ∧ ∀ a, A a → H' a = H a
/-- where a call's end goes: a value, an exception by its class's name -/
def endC (mg : Str → Option Value) (Q : VK) (E : XK) : RR → V → Hp → Prop
  | .ex c, _, H' => ∀ cls, mg c = some cls → E cls none H'
  | _, v, H' => Q v H'
def spG (K : PySem.W.Frag) (mg : Str → Option Value) (n : Nat) (g : List Arg → Res (RR × List SV)) : SpG := fun vs H Q E => ∃ A args rr outs, vs.length = n ∧ (∀ a, A a → ∃ o, H a = some o) ∧ ArgsR K (LA A args vs) H args vs ∧
  (oadr args vs).Nodup ∧ (∀ a, V.ref a ∈ oadr args vs → ¬ A a) ∧ g args = .ok (rr, outs) ∧ ∀ v H', CallPost K A args vs H rr outs v H' → endC mg Q E rr v H'
section
variable {K : PySem.W.Frag} {A A' : ASet} {H H' : Hp} {as : List Addr} {σ σ' : L2.St} {f f' : F}
/-- an owned object is taken out of its slot -/
theorem Rel.takeS {i : Nat} {o : Ob} {a : Addr} (R : Rel K A as f σ H) (e : f.ρ[i]? = some (.own o)) (ea : σ[i]? = some (some (.ref a))) :
    Rel K (fun b => A b ∨ b = a) as { f with ρ := f.ρ.set i .no } σ H ∧ ∀ b, Lv (fun b => A b ∨ b = a) { f with ρ := f.ρ.set i .no } as σ b ↔ Lv A f as σ b := by
  have hi := lt_of_get e
  have get : ∀ j, (f.ρ.set i .no)[j]? = if j = i then some .no else f.ρ[j]? := fun j => by
    by_cases h : j = i
    · subst h; rw [if_pos rfl, List.getElem?_set_self hi]
    · rw [if_neg h, List.getElem?_set_ne (Ne.symm h)]
  have get' : ∀ (j : Nat) (l : LV), l ≠ .no → ({ f with ρ := f.ρ.set i .no } : F).ρ[j]? = some l → j ≠ i ∧ f.ρ[j]? = some l := fun j l hl h => by
    have h : (f.ρ.set i .no)[j]? = some l := h
    rw [get] at h
    by_cases q : j = i
    · rw [if_pos q] at h; cases h; exact absurd rfl hl
    · rw [if_neg q] at h; exact ⟨q, h⟩
  have lv : ∀ b, Lv (fun b => A b ∨ b = a) { f with ρ := f.ρ.set i .no } as σ b ↔ Lv A f as σ b := fun b => by
    constructor
    · rintro ((h | h) | ⟨j, o', h1, h2⟩ | h)
      · exact .inl h
      · subst h; exact .inr (.inl ⟨i, o, e, ea⟩)
      · obtain ⟨_, h1⟩ := get' j _ (fun z => by cases z) h1
        exact .inr (.inl ⟨j, o', h1, h2⟩)
      · exact .inr (.inr h)
    · rintro (h | ⟨j, o', h1, h2⟩ | h)
      · exact .inl (.inl h)
      · by_cases q : j = i
        · subst q
          rw [ea] at h2; cases h2
          exact .inl (.inr rfl)
        · refine .inr (.inl ⟨j, o', ?_, h2⟩)
          show (f.ρ.set i .no)[j]? = _
          rw [get, if_neg q]; exact h1
      · exact .inr (.inr h)
  have x : Ext (Lv A f as σ) H (Lv (fun b => A b ∨ b = a) { f with ρ := f.ρ.set i .no } as σ) H := Ext.less fun b h => (lv b).mp h
  refine ⟨⟨?_, R.lenS, fun j y h => ?_, fun j o' h => ?_, fun j n h => ?_, fun n y b h h' => (R.cd n y b h h').ext x, fun n o' b h h' => ?_, fun j k b o1 o2 h1 h2 => ?_, fun j n b o1 o2 h1 => ?_, R.i3, fun b h => ?_⟩, lv⟩
  · show _ = (f.ρ.set i .no).length
    rw [List.length_set]; exact R.lenσ
  · obtain ⟨_, h⟩ := get' j _ (fun z => by cases z) h
    obtain ⟨v, h1, h2⟩ := R.sd j y h
    exact ⟨v, h1, h2.ext x⟩
  · obtain ⟨q, h⟩ := get' j _ (fun z => by cases z) h
    obtain ⟨b, h1, h2, h3⟩ := R.so j o' h
    refine ⟨b, h1, h2.ext x rfl, ?_⟩
    rintro (z | z)
    · exact h3 z
    · subst z; exact q (R.i1 j i b o' o h e h1 ea)
  · obtain ⟨_, h⟩ := get' j _ (fun z => by cases z) h
    exact R.sc j n h
  · obtain ⟨h1, h2⟩ := R.co n o' b h h'
    refine ⟨h1.ext x rfl, ?_⟩
    rintro (z | z)
    · exact h2 z
    · subst z; exact R.i2 i n b o o' e h ea h'
  · obtain ⟨_, h1⟩ := get' j _ (fun z => by cases z) h1
    obtain ⟨_, h2⟩ := get' k _ (fun z => by cases z) h2
    exact R.i1 j k b o1 o2 h1 h2
  · obtain ⟨_, h1⟩ := get' j _ (fun z => by cases z) h1
    exact R.i2 j n b o1 o2 h1
  · rcases h with h | h
    · exact R.al b h
    · subst h; exact R.own_some (.inl ⟨i, o, e, ea⟩)
/-- .. out of its place among the arguments -/
theorem Rel.takeC {n : Nat} {o : Ob} {a : Addr} (R : Rel K A as f σ H) (e : f.S[n]? = some (.own o)) (ea : as[n]? = some a) :
    Rel K (fun b => A b ∨ b = a) as { f with S := f.S.set n .no } σ H ∧ ∀ b, Lv (fun b => A b ∨ b = a) { f with S := f.S.set n .no } as σ b ↔ Lv A f as σ b := by
  have hi := lt_of_get e
  have get : ∀ j, (f.S.set n .no)[j]? = if j = n then some .no else f.S[j]? := fun j => by
    by_cases h : j = n
    · subst h; rw [if_pos rfl, List.getElem?_set_self hi]
    · rw [if_neg h, List.getElem?_set_ne (Ne.symm h)]
  have get' : ∀ (j : Nat) (l : SV), l ≠ .no → ({ f with S := f.S.set n .no } : F).S[j]? = some l → j ≠ n ∧ f.S[j]? = some l := fun j l hl h => by
    have h : (f.S.set n .no)[j]? = some l := h
    rw [get] at h
    by_cases q : j = n
    · rw [if_pos q] at h; cases h; exact absurd rfl hl
    · rw [if_neg q] at h; exact ⟨q, h⟩
  have lv : ∀ b, Lv (fun b => A b ∨ b = a) { f with S := f.S.set n .no } as σ b ↔ Lv A f as σ b := fun b => by
    constructor
    · rintro ((h | h) | h | ⟨j, o', h1, h2⟩)
      · exact .inl h
      · subst h; exact .inr (.inr ⟨n, o, e, ea⟩)
      · exact .inr (.inl h)
      · obtain ⟨_, h1⟩ := get' j _ (fun z => by cases z) h1
        exact .inr (.inr ⟨j, o', h1, h2⟩)
    · rintro (h | h | ⟨j, o', h1, h2⟩)
      · exact .inl (.inl h)
      · exact .inr (.inl h)
      · by_cases q : j = n
        · subst q
          rw [ea] at h2; cases h2
          exact .inl (.inr rfl)
        · refine .inr (.inr ⟨j, o', ?_, h2⟩)
          show (f.S.set n .no)[j]? = _
          rw [get, if_neg q]; exact h1
  have x : Ext (Lv A f as σ) H (Lv (fun b => A b ∨ b = a) { f with S := f.S.set n .no } as σ) H := Ext.less fun b h => (lv b).mp h
  refine ⟨⟨R.lenσ, ?_, fun j y h => ?_, fun j o' h => ?_, R.sc, fun m y b h h' => ?_, fun m o' b h h' => ?_, R.i1, fun j m b o1 o2 h1 h2 => ?_, fun m k b o1 o2 h1 h2 => ?_, fun b h => ?_⟩, lv⟩
  · show _ = (f.S.set n .no).length
    rw [List.length_set]; exact R.lenS
  · obtain ⟨v, h1, h2⟩ := R.sd j y h
    exact ⟨v, h1, h2.ext x⟩
  · obtain ⟨b, h1, h2, h3⟩ := R.so j o' h
    refine ⟨b, h1, h2.ext x rfl, ?_⟩
    rintro (z | z)
    · exact h3 z
    · subst z; exact R.i2 j n b o' o h e h1 ea
  · obtain ⟨_, h⟩ := get' m _ (fun z => by cases z) h
    exact (R.cd m y b h h').ext x
  · obtain ⟨q, h⟩ := get' m _ (fun z => by cases z) h
    obtain ⟨h1, h2⟩ := R.co m o' b h h'
    refine ⟨h1.ext x rfl, ?_⟩
    rintro (z | z)
    · exact h2 z
    · subst z; exact q (R.i3 m n b o' o h e h' ea)
  · obtain ⟨_, h2⟩ := get' m _ (fun z => by cases z) h2
    exact R.i2 j m b o1 o2 h1 h2
  · obtain ⟨_, h1⟩ := get' m _ (fun z => by cases z) h1
    obtain ⟨_, h2⟩ := get' k _ (fun z => by cases z) h2
    exact R.i3 m k b o1 o2 h1 h2
  · rcases h with h | h
    · exact R.al b h
    · subst h; exact R.own_some (.inr ⟨n, o, e, ea⟩)
/-- a place holds an owned object at a -/
def LocAt (f : F) (as : List Addr) (σ : L2.St) : Loc → Addr → Prop
  | .inl i, a => ∃ o, f.ρ[i]? = some (.own o) ∧ σ[i]? = some (some (.ref a))
  | .inr n, a => ∃ o, f.S[n]? = some (.own o) ∧ as[n]? = some a
theorem LocAt.own {l : Loc} {a : Addr} (h : LocAt f as σ l a) : Own f as σ a := by
  cases l with
  | inl i => obtain ⟨o, h⟩ := h; exact .inl ⟨i, o, h⟩
  | inr n => obtain ⟨o, h⟩ := h; exact .inr ⟨n, o, h⟩
theorem LocAt.inj {l l' : Loc} {a : Addr} (R : Rel K A as f σ H) (h : LocAt f as σ l a) (h' : LocAt f as σ l' a) : l = l' := by
  cases l with
  | inl i =>
    obtain ⟨o, h1, h2⟩ := h
    cases l' with
    | inl j => obtain ⟨o', h3, h4⟩ := h'; rw [R.i1 i j a o o' h1 h3 h2 h4]
    | inr n => obtain ⟨o', h3, h4⟩ := h'; exact (R.i2 i n a o o' h1 h3 h2 h4).elim
  | inr n =>
    obtain ⟨o, h1, h2⟩ := h
    cases l' with
    | inl j => obtain ⟨o', h3, h4⟩ := h'; exact (R.i2 j n a o' o h3 h1 h4 h2).elim
    | inr m => obtain ⟨o', h3, h4⟩ := h'; rw [R.i3 n m a o o' h1 h3 h2 h4]
theorem LocAt.clr {l l' : Loc} {a : Addr} (h : LocAt f as σ l' a) (n : l ≠ l') : LocAt (clr1 f l) as σ l' a := by
  cases l with
  | inl i =>
    cases l' with
    | inl j =>
      obtain ⟨o, h1, h2⟩ := h
      refine ⟨o, ?_, h2⟩
      show (f.ρ.set i .no)[j]? = _
      rw [List.getElem?_set_ne (fun z => n (by rw [z]))]; exact h1
    | inr m => exact h
  | inr m =>
    cases l' with
    | inl j => exact h
    | inr k =>
      obtain ⟨o, h1, h2⟩ := h
      refine ⟨o, ?_, h2⟩
      show (f.S.set m .no)[k]? = _
      rw [List.getElem?_set_ne (fun z => n (by rw [z]))]; exact h1
/-- places and their addresses -/
def LocsAt (f : F) (as : List Addr) (σ : L2.St) : List Loc → List Addr → Prop
  | [], xs => xs = []
  | l :: ls, xs => ∃ a r, xs = a :: r ∧ LocAt f as σ l a ∧ LocsAt f as σ ls r
theorem LocsAt.clr {l : Loc} : ∀ {ls : List Loc} {xs : List Addr}, LocsAt f as σ ls xs → l ∉ ls → LocsAt (clr1 f l) as σ ls xs
  | [], _, h, _ => h
  | l' :: ls, _, ⟨a, r, e, h1, h2⟩, n => ⟨a, r, e, h1.clr fun z => n (by rw [z]; exact List.mem_cons_self ..), LocsAt.clr h2 fun z => n (List.mem_cons_of_mem _ z)⟩
theorem Rel.take1 {l : Loc} {a : Addr} (R : Rel K A as f σ H) (h : LocAt f as σ l a) : Rel K (fun b => A b ∨ b = a) as (clr1 f l) σ H ∧ ∀ b, Lv (fun b => A b ∨ b = a) (clr1 f l) as σ b ↔ Lv A f as σ b := by
  cases l with
  | inl i => obtain ⟨o, h1, h2⟩ := h; exact R.takeS h1 h2
  | inr n => obtain ⟨o, h1, h2⟩ := h; exact R.takeC h1 h2
theorem Rel.take : ∀ {ls : List Loc} {xs : List Addr} {A : ASet} {f : F}, Rel K A as f σ H → LocsAt f as σ ls xs → ls.Nodup →
    Rel K (fun b => A b ∨ b ∈ xs) as (clr f ls) σ H ∧ ∀ b, Lv (fun b => A b ∨ b ∈ xs) (clr f ls) as σ b ↔ Lv A f as σ b
  | [], _, A, f, R, h, _ => by
    have h : _ = [] := h
    subst h
    have e : (fun b => A b ∨ b ∈ ([] : List Addr)) = A := by funext b; simp
    rw [e]
    exact ⟨R, fun _ => Iff.rfl⟩
  | l :: ls, _, A, f, R, ⟨a, r, e, h1, h2⟩, nd => by
    subst e
    obtain ⟨n1, n2⟩ := List.nodup_cons.mp nd
    obtain ⟨R1, q1⟩ := R.take1 h1
    obtain ⟨R2, q2⟩ := Rel.take R1 (h2.clr n1) n2
    have e : (fun b => (A b ∨ b = a) ∨ b ∈ r) = fun b => A b ∨ b ∈ a :: r := by funext b; simp [or_assoc]
    rw [e] at R2 q2
    exact ⟨R2, fun b => (q2 b).trans (q1 b)⟩
theorem Rel.putC {n : Nat} {u : SV} {a : Addr} (R : Rel K A as f σ H) (e : f.S[n]? = some .no) (ea : as[n]? = some a)
    (h : match u with
      | .no => True
      | .d x => Cd K (Lv A f as σ) H x a
      | .own o => ObR K (Lv A f as σ) H a o ∧ A a) :
    Rel K (fun b => A b ∧ b ≠ a) as { f with S := f.S.set n u } σ H ∧ ∀ b, Lv (fun b => A b ∧ b ≠ a) { f with S := f.S.set n u } as σ b → Lv A f as σ b := by
  have hi := lt_of_get e
  have get : ∀ j, (f.S.set n u)[j]? = if j = n then some u else f.S[j]? := fun j => by
    by_cases h : j = n
    · subst h; rw [if_pos rfl, List.getElem?_set_self hi]
    · rw [if_neg h, List.getElem?_set_ne (Ne.symm h)]
  have lv : ∀ b, Lv (fun b => A b ∧ b ≠ a) { f with S := f.S.set n u } as σ b → Lv A f as σ b := fun b => by
    rintro (h' | h' | ⟨j, o', h1, h2⟩)
    · exact .inl h'.1
    · exact .inr (.inl h')
    · have h1 : (f.S.set n u)[j]? = some (.own o') := h1
      rw [get] at h1
      by_cases q : j = n
      · rw [if_pos q] at h1; cases h1
        subst q
        rw [ea] at h2; cases h2
        exact .inl h.2
      · rw [if_neg q] at h1
        exact .inr (.inr ⟨j, o', h1, h2⟩)
  have x : Ext (Lv A f as σ) H (Lv (fun b => A b ∧ b ≠ a) { f with S := f.S.set n u } as σ) H := Ext.less lv
  refine ⟨⟨R.lenσ, ?_, fun j y h => ?_, fun j o' h => ?_, R.sc, fun m y b h1 h2 => ?_, fun m o' b h1 h2 => ?_, R.i1, fun j m b o1 o2 h1 h2 h3 h4 => ?_, fun m k b o1 o2 h1 h2 h3 h4 => ?_, fun b h => R.al b h.1⟩, lv⟩
  · show _ = (f.S.set n u).length
    rw [List.length_set]; exact R.lenS
  · obtain ⟨v, h1, h2⟩ := R.sd j y h
    exact ⟨v, h1, h2.ext x⟩
  · obtain ⟨b, h1, h2, h3⟩ := R.so j o' h
    exact ⟨b, h1, h2.ext x rfl, fun z => h3 z.1⟩
  · have h1 : (f.S.set n u)[m]? = some (.d y) := h1
    rw [get] at h1
    by_cases q : m = n
    · rw [if_pos q] at h1; cases h1
      subst q
      rw [ea] at h2; cases h2
      exact Cd.ext x h
    · rw [if_neg q] at h1
      exact (R.cd m y b h1 h2).ext x
  · have h1 : (f.S.set n u)[m]? = some (.own o') := h1
    rw [get] at h1
    by_cases q : m = n
    · rw [if_pos q] at h1; cases h1
      subst q
      rw [ea] at h2; cases h2
      exact ⟨h.1.ext x rfl, fun z => z.2 rfl⟩
    · rw [if_neg q] at h1
      obtain ⟨q1, q2⟩ := R.co m o' b h1 h2
      exact ⟨q1.ext x rfl, fun z => q2 z.1⟩
  · have h2 : (f.S.set n u)[m]? = some (.own o2) := h2
    rw [get] at h2
    by_cases q : m = n
    · rw [if_pos q] at h2; cases h2
      subst q
      rw [ea] at h4; cases h4
      exact R.nA (.inl ⟨j, o1, h1, h3⟩) h.2
    · rw [if_neg q] at h2
      exact R.i2 j m b o1 o2 h1 h2 h3 h4
  · have g1 : (f.S.set n u)[m]? = some (.own o1) := h1
    have g2 : (f.S.set n u)[k]? = some (.own o2) := h2
    rw [get] at g1 g2
    clear h1 h2
    by_cases q : m = n
    · by_cases q' : k = n
      · rw [q, q']
      · exfalso
        rw [if_pos q] at g1; cases g1
        rw [if_neg q'] at g2
        subst q
        rw [ea] at h3; cases h3
        exact R.nA (.inr ⟨k, o2, g2, h4⟩) h.2
    · rw [if_neg q] at g1
      by_cases q' : k = n
      · exfalso
        rw [if_pos q'] at g2; cases g2
        subst q'
        rw [ea] at h4; cases h4
        exact R.nA (.inr ⟨m, o1, g1, h3⟩) h.2
      · rw [if_neg q'] at g2
        exact R.i3 m k b o1 o2 g1 g2 h3 h4
/-- a place that is empty, and the address that it had -/
def EmptyAt (f : F) (as : List Addr) (σ : L2.St) : Loc → Addr → Prop
  | .inl i, a => f.ρ[i]? = some .no ∧ σ[i]? = some (some (.ref a))
  | .inr n, a => f.S[n]? = some .no ∧ as[n]? = some a
def EmptyAts (f : F) (as : List Addr) (σ : L2.St) : List Loc → List Addr → Prop
  | [], xs => xs = []
  | l :: ls, xs => ∃ a r, xs = a :: r ∧ EmptyAt f as σ l a ∧ EmptyAts f as σ ls r
theorem Rel.putL {l : Loc} {u : SV} {a : Addr} (R : Rel K A as f σ H) (e : EmptyAt f as σ l a)
    (h : match u with
      | .no => True
      | .d x => Cd K (Lv A f as σ) H x a
      | .own o => ObR K (Lv A f as σ) H a o ∧ A a) :
    Rel K (fun b => A b ∧ b ≠ a) as (put1 f l u) σ H ∧ ∀ b, Lv (fun b => A b ∧ b ≠ a) (put1 f l u) as σ b → Lv A f as σ b := by
  cases l with
  | inr n => exact R.putC e.1 e.2 h
  | inl i =>
    obtain ⟨e1, e2⟩ := e
    have hn : SlotNew K A (fun b => A b ∧ b ≠ a) as f σ σ H H i u.lv := by
      cases u with
      | no => exact True.intro
      | d x => exact ⟨_, e2, .inl (Rd.ext (Ext.less fun b z => z.1) h.1)⟩
      | own o => exact ⟨a, e2, h.1, fun z => z.2 rfl, .inl h.2⟩
    obtain ⟨R1, x1⟩ := R.setSlot (i := i) (l := u.lv) (σ' := σ) (A' := fun b => A b ∧ b ≠ a) (H' := H) (lt_of_get e1) (fun _ _ => rfl) rfl (fun _ z => z.1) (fun _ _ _ => rfl) (fun _ _ e _ => e) (fun b z => R.al b z.1) hn
    refine ⟨R1, fun b => ?_⟩
    rintro (z | ⟨j, o', z1, z2⟩ | z)
    · exact .inl z.1
    · have z1 : (f.ρ.set i u.lv)[j]? = some (.own o') := z1
      by_cases q : j = i
      · subst q
        rw [List.getElem?_set_self (lt_of_get e1)] at z1
        rw [e2] at z2; cases z2
        cases u with
        | no => cases z1
        | d x => cases z1
        | own o => exact .inl h.2
      · rw [List.getElem?_set_ne (Ne.symm q)] at z1
        exact .inr (.inl ⟨j, o', z1, z2⟩)
    · exact .inr (.inr z)
theorem EmptyAt.put {l l' : Loc} {u : SV} {a : Addr} (h : EmptyAt f as σ l' a) (n : l ≠ l') : EmptyAt (put1 f l u) as σ l' a := by
  cases l with
  | inl i =>
    cases l' with
    | inl j =>
      refine ⟨?_, h.2⟩
      show (f.ρ.set i u.lv)[j]? = _
      rw [List.getElem?_set_ne (fun z => n (by rw [z]))]; exact h.1
    | inr m => exact h
  | inr m =>
    cases l' with
    | inl j => exact h
    | inr k =>
      refine ⟨?_, h.2⟩
      show (f.S.set m u)[k]? = _
      rw [List.getElem?_set_ne (fun z => n (by rw [z]))]; exact h.1
theorem EmptyAts.put {l : Loc} {u : SV} : ∀ {ls : List Loc} {xs : List Addr}, EmptyAts f as σ ls xs → l ∉ ls → EmptyAts (put1 f l u) as σ ls xs
  | [], _, h, _ => h
  | l' :: ls, _, ⟨a, r, e, h1, h2⟩, n => ⟨a, r, e, h1.put fun z => n (by rw [z]; exact List.mem_cons_self ..), EmptyAts.put h2 fun z => n (List.mem_cons_of_mem _ z)⟩
theorem EmptyAt.clr {l l' : Loc} {a : Addr} (h : EmptyAt f as σ l' a) : EmptyAt (clr1 f l) as σ l' a := by
  cases l with
  | inl i =>
    cases l' with
    | inl j =>
      refine ⟨?_, h.2⟩
      show (f.ρ.set i .no)[j]? = _
      by_cases q : i = j
      · subst q; rw [List.getElem?_set_self (lt_of_get h.1)]
      · rw [List.getElem?_set_ne q]; exact h.1
    | inr m => exact h
  | inr m =>
    cases l' with
    | inl j => exact h
    | inr k =>
      refine ⟨?_, h.2⟩
      show (f.S.set m .no)[k]? = _
      by_cases q : m = k
      · subst q; rw [List.getElem?_set_self (lt_of_get h.1)]
      · rw [List.getElem?_set_ne q]; exact h.1
theorem EmptyAt.clrs {l' : Loc} {a : Addr} : ∀ {ls : List Loc} {f : F}, EmptyAt f as σ l' a → EmptyAt (Vm.clr f ls) as σ l' a
  | [], _, h => h
  | _ :: ls, _, h => EmptyAt.clrs (ls := ls) h.clr
theorem LocAt.empty {l : Loc} {a : Addr} (h : LocAt f as σ l a) : EmptyAt (clr1 f l) as σ l a := by
  cases l with
  | inl i =>
    obtain ⟨o, h1, h2⟩ := h
    exact ⟨by show (f.ρ.set i .no)[i]? = _; rw [List.getElem?_set_self (lt_of_get h1)], h2⟩
  | inr n =>
    obtain ⟨o, h1, h2⟩ := h
    exact ⟨by show (f.S.set n .no)[n]? = _; rw [List.getElem?_set_self (lt_of_get h1)], h2⟩
theorem LocsAt.empty : ∀ {ls : List Loc} {xs : List Addr} {f : F}, LocsAt f as σ ls xs → ls.Nodup → EmptyAts (Vm.clr f ls) as σ ls xs
  | [], _, _, h, _ => h
  | l :: ls, _, f, ⟨a, r, e, h1, h2⟩, nd => by
    obtain ⟨n1, n2⟩ := List.nodup_cons.mp nd
    exact ⟨a, r, e, h1.empty.clrs, LocsAt.empty (h2.clr n1) n2⟩
/-- all of them come back -/
theorem putB_ok {L' : ASet} : ∀ {ls : List Loc} {us : List SV} {xs : List Addr} {A : ASet} {f f2 : F}, Rel K A as f σ H → EmptyAts f as σ ls xs → ls.Nodup → (∀ b, Lv A f as σ b → L' b) → OutsR K L' H us xs →
    (∀ b, L' b → b ∈ xs → A b) → xs.Nodup → putB f ls us = some f2 → Rel K (fun b => A b ∧ b ∉ xs) as f2 σ H ∧ ∀ b, Lv (fun b => A b ∧ b ∉ xs) f2 as σ b → Lv A f as σ b
  | [], [], _, A, f, f2, R, he, _, _, _, _, _, e => by
    have he : _ = [] := he
    subst he
    cases e
    have e : (fun b => A b ∧ b ∉ ([] : List Addr)) = A := by funext b; simp
    rw [e]
    exact ⟨R, fun _ z => z⟩
  | [], _ :: _, _, _, _, _, _, _, _, _, _, _, _, e => by cases e
  | _ :: _, [], _, _, _, _, _, _, _, _, _, _, _, e => by cases e
  | l :: ls, u :: us, _, A, f, f2, R, ⟨a, r, e0, h1, h2⟩, nd, hL, ⟨a', r', e0', o1, o2⟩, hA, hx, e => by
    subst e0
    cases e0'
    obtain ⟨n1, n2⟩ := List.nodup_cons.mp nd
    obtain ⟨x1, x2⟩ := List.nodup_cons.mp hx
    have back : Ext L' H (Lv A f as σ) H := Ext.less hL
    obtain ⟨R1, q1⟩ := R.putL (u := u) h1 (by
      cases u with
      | no => exact True.intro
      | d x => exact Cd.ext back o1
      | own o => exact ⟨o1.1.ext back rfl, hA a o1.2 (List.mem_cons_self ..)⟩)
    obtain ⟨R2, q2⟩ := putB_ok (L' := L') R1 (h2.put n1) n2 (fun b z => hL b (q1 b z)) o2 (fun b z hb => ⟨hA b z (List.mem_cons_of_mem _ hb), fun zz => x1 (by rw [← zz]; exact hb)⟩) x2 e
    have e' : (fun b => (A b ∧ b ≠ a) ∧ b ∉ r) = fun b => A b ∧ b ∉ a :: r := by funext b; simp [and_assoc]
    rw [e'] at R2 q2
    exact ⟨R2, fun b z => q1 b (q2 b z)⟩
end
end Vm
set_option maxRecDepth 100000
set_option maxHeartbeats 4000000
namespace Vm
open PySem PySem.Spec L2
section
variable {K : PySem.W.Frag} {A A' : ASet} {H H' : Hp} {as : List Addr} {σ σ' : L2.St} {f f' : F}
theorem toArgs_cons {r : RV} {rs : List RV} {args : List Arg} (e : toArgs f (r :: rs) = some args) : ∃ a l, toArg f r = some a ∧ toArgs f rs = some l ∧ args = a :: l := by
  unfold toArgs at e
  cases q : toArg f r with
  | none => rw [q] at e; cases e
  | some a =>
    rw [q] at e
    cases q2 : toArgs f rs with
    | none => simp [q2] at e
    | some l => simp only [q2, Option.bind_some] at e; cases e; exact ⟨a, l, rfl, rfl, rfl⟩
/-- one argument: what it is to its value; owned ones by their place -/
theorem arg_ok {r : RV} {v : V} {a : Arg} {A0 : ASet} (R : Rel K A as f σ H) (h : RVR K (Lv A f as σ) A as σ H r v) (e : toArg f r = some a) :
    (∃ x, a = .d x ∧ RdP K (Lv A f as σ) H x v ∧ (∀ rs, locs f (r :: rs) = locs f rs) ∧ ∀ rs ws, frs (r :: rs) (v :: ws) = frs rs ws) ∨
    (∃ o p, r = .fr o ∧ a = .o o ∧ v = .ref p ∧ A p ∧ ObR K (Lv A f as σ) H p o ∧ ∀ rs, locs f (r :: rs) = locs f rs) ∨
    (∃ o p l, a = .r o ∧ v = .ref p ∧ LocAt f as σ l p ∧ ObR K (Lv A f as σ) H p o ∧ (∀ rs, locs f (r :: rs) = l :: locs f rs) ∧ ∀ rs ws, frs (r :: rs) (v :: ws) = frs rs ws) := by
  cases r with
  | d x => cases e; exact .inl ⟨x, rfl, h, fun _ => rfl, fun _ _ => rfl⟩
  | fr o =>
    cases e
    obtain ⟨p, e1, e2, e3⟩ := h
    exact .inr (.inl ⟨o, p, rfl, rfl, e1, e2, e3, fun _ => rfl⟩)
  | vr i =>
    obtain ⟨p, e1, e2⟩ := h
    subst e1
    unfold toArg at e; dsimp only at e
    cases q : f.ρ[i]? with
    | none => rw [q] at e; cases e
    | some l =>
      rw [q] at e
      cases l with
      | no => cases e
      | c n => cases e
      | d x =>
        cases e
        obtain ⟨w, h1, h2⟩ := R.sd i x q
        rw [e2] at h1; cases h1
        exact .inl ⟨x, rfl, h2, fun rs => by show (match f.ρ[i]? with | some (.own _) => _ | _ => _) = _; rw [q], fun _ _ => rfl⟩
      | own o =>
        cases e
        obtain ⟨w, h1, h2, _⟩ := R.so i o q
        rw [e2] at h1; cases h1
        exact .inr (.inr ⟨o, p, .inl i, rfl, rfl, ⟨o, q, e2⟩, h2, fun rs => by show (match f.ρ[i]? with | some (.own _) => _ | _ => _) = _; rw [q], fun _ _ => rfl⟩)
  | ce n =>
    obtain ⟨p, e1, e2⟩ := h
    subst e1
    unfold toArg at e; dsimp only at e
    cases q : f.S[n]? with
    | none => rw [q] at e; cases e
    | some l =>
      rw [q] at e
      cases l with
      | no => cases e
      | d x => cases e; exact .inl ⟨x, rfl, .inl (R.cd n x p q e2).1, fun rs => by show (match f.S[n]? with | some (.own _) => _ | _ => _) = _; rw [q], fun _ _ => rfl⟩
      | own o =>
        cases e
        exact .inr (.inr ⟨o, p, .inr n, rfl, rfl, ⟨o, q, e2⟩, (R.co n o p q e2).1, fun rs => by show (match f.S[n]? with | some (.own _) => _ | _ => _) = _; rw [q], fun _ _ => rfl⟩)
theorem args_ok (R : Rel K A as f σ H) : ∀ {rvs : List RV} {vs : List V} {args : List Arg}, RVRs K (Lv A f as σ) A as σ H rvs vs → toArgs f rvs = some args → (frs rvs vs).Nodup → (locs f rvs).Nodup →
    ArgsR K (Lv A f as σ) H args vs ∧ LocsAt f as σ (locs f rvs) (radr args vs) ∧ (∀ w, w ∈ oadr args vs → w ∈ frs rvs vs ∨ ∃ a ∈ radr args vs, w = .ref a) ∧ (∀ a ∈ radr args vs, V.ref a ∈ oadr args vs ∧ ∃ l ∈ locs f rvs, LocAt f as σ l a) ∧ (oadr args vs).Nodup ∧ (radr args vs).Nodup ∧
      (∀ w ∈ frs rvs vs, w ∈ oadr args vs)
  | [], _, _, h, e, _, _ => by
    have h : _ = [] := h
    subst h
    cases e
    exact ⟨rfl, rfl, fun w h => by simp [oadr] at h, fun w h => by simp [radr] at h, List.nodup_nil, List.nodup_nil, fun w h => by simp [frs] at h⟩
  | r :: rs, _, args, ⟨v, ws, e0, h1, h2⟩, e, nd, nl => by
    subst e0
    obtain ⟨a, l, q1, q2, rfl⟩ := toArgs_cons e
    rcases arg_ok (A0 := A) R h1 q1 with ⟨x, rfl, hx, hl, hf⟩ | ⟨o, p, rfl, rfl, rfl, hp, ho, hl⟩ | ⟨o, p, lc, rfl, rfl, hlc, ho, hl, hf⟩
    · rw [hl] at nl
      rw [hf] at nd
      obtain ⟨g1, g2, g3, g4, g5, g6, g7⟩ := args_ok R h2 q2 nd nl
      have er : radr (.d x :: l) (v :: ws) = radr l ws := by cases v <;> rfl
      rw [hl, er, hf]
      exact ⟨⟨v, ws, rfl, hx, g1⟩, g2, g3, g4, g5, g6, g7⟩
    · rw [hl] at nl
      obtain ⟨n1, n2⟩ := List.nodup_cons.mp (show (V.ref p :: frs rs ws).Nodup from nd)
      obtain ⟨g1, g2, g3, g4, g5, g6, g7⟩ := args_ok R h2 q2 n2 nl
      rw [hl]
      refine ⟨⟨_, ws, rfl, ⟨p, rfl, ho⟩, g1⟩, g2, fun w hw => ?_, fun b hb => ⟨List.mem_cons_of_mem _ (g4 b hb).1, (g4 b hb).2⟩, List.nodup_cons.mpr ⟨fun z => ?_, g5⟩, g6, fun w hw => ?_⟩
      · rcases List.mem_cons.mp (show w ∈ V.ref p :: oadr l ws from hw) with z | z
        · exact .inl (by rw [z]; exact List.mem_cons_self ..)
        · exact (g3 w z).imp (fun z => List.mem_cons_of_mem _ z) id
      · rcases g3 _ z with z | ⟨b, hb, z⟩
        · exact n1 z
        · cases z
          obtain ⟨l', _, hl'⟩ := (g4 p hb).2
          exact R.nA hl'.own hp
      · rcases List.mem_cons.mp (show w ∈ V.ref p :: frs rs ws from hw) with z | z
        · rw [z]; exact List.mem_cons_self ..
        · exact List.mem_cons_of_mem _ (g7 w z)
    · rw [hl] at nl
      rw [hf] at nd
      obtain ⟨n1, n2⟩ := List.nodup_cons.mp nl
      obtain ⟨g1, g2, g3, g4, g5, g6, g7⟩ := args_ok R h2 q2 nd n2
      rw [hl, hf]
      refine ⟨⟨_, ws, rfl, ⟨p, rfl, ho⟩, g1⟩, ⟨p, _, rfl, hlc, g2⟩, fun w hw => ?_, fun b hb => ?_, List.nodup_cons.mpr ⟨fun z => ?_, g5⟩, List.nodup_cons.mpr ⟨fun z => ?_, g6⟩, fun w hw => List.mem_cons_of_mem _ (g7 w hw)⟩
      · rcases List.mem_cons.mp (show w ∈ V.ref p :: oadr l ws from hw) with z | z
        · exact .inr ⟨p, List.mem_cons_self .., z⟩
        · exact (g3 w z).imp id fun ⟨b, hb, z⟩ => ⟨b, List.mem_cons_of_mem _ hb, z⟩
      · rcases List.mem_cons.mp (show b ∈ p :: radr l ws from hb) with z | z
        · subst z; exact ⟨List.mem_cons_self .., lc, List.mem_cons_self .., hlc⟩
        · obtain ⟨z1, l', z2, z3⟩ := g4 b z
          exact ⟨List.mem_cons_of_mem _ z1, l', List.mem_cons_of_mem _ z2, z3⟩
      · rcases g3 _ z with z | ⟨b, hb, z⟩
        · obtain ⟨b, e, hb⟩ := frs_sub h2 z
          cases e
          exact R.nA hlc.own hb
        · cases z
          obtain ⟨l', m, hl'⟩ := (g4 p hb).2
          rw [LocAt.inj R hlc hl'] at n1
          exact n1 m
      · obtain ⟨l', m, hl'⟩ := (g4 p z).2
        rw [LocAt.inj R hlc hl'] at n1
        exact n1 m
theorem ArgsR.ext {L L' : ASet} (x : Ext L H L' H) : ∀ {args : List Arg} {vs : List V}, ArgsR K L H args vs → ArgsR K L' H args vs
  | [], _, h => h
  | a :: as, _, ⟨v, r, e, h1, h2⟩ => by
    refine ⟨v, r, e, ?_, ArgsR.ext x h2⟩
    cases a with
    | d y => exact RdP.ext x h1
    | o o => obtain ⟨p, e, q⟩ := h1; exact ⟨p, e, q.ext x rfl⟩
    | r o => obtain ⟨p, e, q⟩ := h1; exact ⟨p, e, q.ext x rfl⟩
/-- THE CALL, from the caller's side -/
theorem call_okX {mg : Str → Option Value} {G : Call} {g n : Nat} {rvs : List RV} {vs : List V} {f0 f1 f2 : F} {H1 : Hp} {rr : RR} {Q : VK} {E : XK} (p : PostA K A as f0 σ H rvs f1 vs H1) (e : doCallR G g f1 rvs = .ok (rr, f2)) (hn : vs.length = n)
    (hQ : ∀ v H2, Post K A as f0 σ H rr.rv f2 v H2 → endC mg Q E rr v H2) : spG K mg n (G g) vs H1 Q E := by
  obtain ⟨A1, s, R1, rs, fo, x, k⟩ := p
  unfold doCallR at e
  obtain ⟨args, e1, e⟩ := bind_ok e
  have e1 := ofOpt_ok e1
  split at e
  · rename_i nl
    obtain ⟨⟨rr, outs⟩, e2, e⟩ := bind_ok e
    obtain ⟨f3, e3, e⟩ := bind_ok e
    have e3 := ofOpt_ok e3
    cases e
    obtain ⟨g1, g2, g3, g4, g5, g6, g7⟩ := args_ok R1 rs e1 fo.nd nl
    -- every owned argument is owned here
    have live : ∀ a, V.ref a ∈ oadr args vs → Lv A1 f1 as σ a := fun a h => by
      rcases g3 _ h with z | ⟨b, hb, z⟩
      · obtain ⟨b, e, hb⟩ := frs_sub rs z; cases e; exact .inl hb
      · cases z
        obtain ⟨_, l, _, hl⟩ := g4 a hb
        exact .inr hl.own
    let Ac : ASet := fun a => Lv A1 f1 as σ a ∧ V.ref a ∉ oadr args vs
    have la : ∀ a, LA Ac args vs a ↔ Lv A1 f1 as σ a := fun a => by
      constructor
      · rintro (h | h)
        · exact h.1
        · exact live a h
      · intro h
        by_cases q : V.ref a ∈ oadr args vs
        · exact .inr q
        · exact .inl ⟨h, q⟩
    have leq : LA Ac args vs = Lv A1 f1 as σ := by funext a; exact propext (la a)
    have inAc : ∀ a, A a → Ac a := fun a h => ⟨.inl (s a h), fun z => by
      rcases g3 _ z with z | ⟨b, hb, z⟩
      · exact fo.np a z h
      · cases z
        obtain ⟨_, l, _, hl⟩ := g4 a hb
        exact R1.nA hl.own (s a h)⟩
    have acH : ∀ a, Ac a → ∃ o, H1 a = some o := fun a h => h.1.elim (R1.al a) R1.own_some
    refine ⟨Ac, args, rr, outs, hn, acH, by rw [leq]; exact g1, g5, fun a h z => z.2 h, e2, fun v H2 cp => hQ v H2 ?_⟩
    obtain ⟨L', c1, c2, c3, c4, c5, c6⟩ := cp
    rw [leq] at c5
    obtain ⟨Rt, qt⟩ := R1.take g2 nl
    -- what is pending behind the call
    let P : ASet := fun a => ∃ o, rr = .fr o ∧ v = .ref a
    have pL : ∀ a, P a → L' a ∧ ¬ Ac a ∧ a ∉ radr args vs := fun a ⟨o, h1, h2⟩ => by
      subst h1
      obtain ⟨p, ep, p1, p2, p3, _⟩ := c4
      rw [h2] at ep; cases ep
      exact ⟨p1, p2, p3⟩
    let B : ASet := fun a => A a ∨ (a ∈ radr args vs ∧ L' a) ∨ P a
    have ownAc : ∀ a, Own (clr f1 (locs f1 rvs)) as σ a → Ac a ∧ ¬ (A1 a ∨ a ∈ radr args vs) := fun a h => by
      have h1 := Rt.nA h
      refine ⟨⟨(qt a).mp (.inr h), fun z => ?_⟩, h1⟩
      rcases g3 _ z with z | ⟨b, hb, z⟩
      · obtain ⟨b, e, hb⟩ := frs_sub rs z; cases e; exact h1 (.inl hb)
      · cases z; exact h1 (.inr hb)
    have BL : ∀ a, Lv B (clr f1 (locs f1 rvs)) as σ a → L' a := fun a h => by
      rcases h with (h | h | h) | h
      · exact c1 a (inAc a h)
      · exact h.2
      · exact (pL a h).1
      · exact c1 a (ownAc a h).1
    have Rs : Rel K B as (clr f1 (locs f1 rvs)) σ H2 := by
      refine Rt.step (fun a h => c2 a (BL a (.inl h))) (fun a o h n => ?_) (fun a h => ?_) fun a h z => ?_
      · have n' : ¬ Lv A1 f1 as σ a := fun z => n ((qt a).mpr z)
        obtain ⟨q1, q2⟩ := c5 a o h n'
        exact ⟨q1, fun z => q2 (BL a z)⟩
      · exact c6 a (ownAc a h).1
      · obtain ⟨q1, q2⟩ := ownAc a h
        rcases z with z | z | z
        · exact q2 (.inl (s a z))
        · exact q2 (.inr z.1)
        · exact (pL a z).2.1 q1
    obtain ⟨Rf, qf⟩ := putB_ok (L' := L') Rs (LocsAt.empty g2 nl) nl BL c3 (fun b h1 h2 => .inr (.inl ⟨h2, h1⟩)) g6 e3
    let A2 : ASet := fun a => A a ∨ P a
    have eA : (fun b => B b ∧ b ∉ radr args vs) = A2 := by
      funext b
      refine propext ⟨fun ⟨h1, h2⟩ => ?_, fun h => ?_⟩
      · rcases h1 with h1 | h1 | h1
        · exact .inl h1
        · exact absurd h1.1 h2
        · exact .inr h1
      · rcases h with h | h
        · exact ⟨.inl h, fun z => (inAc b h).2 (g4 b z).1⟩
        · exact ⟨.inr (.inr h), (pL b h).2.2⟩
    rw [eA] at Rf qf
    have toL : ∀ a, Lv A2 f2 as σ a → L' a := fun a h => BL a (qf a h)
    refine ⟨A2, fun a h => .inl h, Rf, ?_, fun o h a ea z => ?_, (x.trans c5).trans (Ext.less toL), fun a h => (c6 a (inAc a h)).trans (k a h)⟩
    · cases rr with
      | ex c => cases c4; exact .inl (rd_none (K := K) (L := Lv A2 f2 as σ) (H := H2))
      | d y => exact RdP.ext (Ext.less toL) c4
      | fr o =>
        obtain ⟨p, ep, p1, p2, p3, p4⟩ := c4
        exact ⟨p, ep, .inr ⟨o, rfl, ep⟩, p4.ext (Ext.less toL) rfl⟩
    · cases rr with
      | ex c => cases h
      | d y => cases h
      | fr o' =>
        obtain ⟨p, ep, p1, p2, p3, p4⟩ := c4
        rw [ea] at ep; cases ep
        exact p2 (inAc a z)
  · cases e
theorem call_ok {mg : Str → Option Value} {G : Call} {g n : Nat} {rvs : List RV} {vs : List V} {f0 f1 f2 : F} {H1 : Hp} {rv : RV} {Q : VK} {E : XK} (p : PostA K A as f0 σ H rvs f1 vs H1) (e : doCall G g f1 rvs = .ok (rv, f2)) (hn : vs.length = n)
    (hQ : ∀ v H2, Post K A as f0 σ H rv f2 v H2 → Q v H2) : spG K mg n (G g) vs H1 Q E := by
  unfold doCall at e
  obtain ⟨⟨rr, f3⟩, e1, e⟩ := bind_ok e
  obtain ⟨r, e2, e⟩ := bind_ok e
  have e2 := ofOpt_ok e2
  cases e
  cases rr with
  | ex c => cases e2
  | d x => cases e2; exact call_okX p e1 hn hQ
  | fr o => cases e2; exact call_okX p e1 hn hQ
end
end Vm
set_option maxRecDepth 100000
set_option maxHeartbeats 4000000
namespace Vm
open PySem PySem.Spec L2
/-! ### where the trees run -/
structure XOk (Γ : Gam) (G : Call) (m : Nat) (X : Cx) : Prop where
  N : X.N = Γ.N
  nd : X.N.Nodup
  sc : X.env.scope = Γ.sc
  calm : X.calm = true
  room : Room m X.A
  gd : X.A.guards = some []
  df : ∀ x g ps, defOf Γ.defs x 0 = some (g, ps) → ∃ f fd, X.mg x = some (.ref f) ∧ PySem.W.keepIn X.K (.ref f) = true ∧ (Γ.kwo.contains x = false → ∀ us : List Value, us.length = ps.length → bindArgs fd ⟨us, []⟩ = pure (ps.zip us)) ∧
    (∀ n ks ds pm, (x, n, ks, ds, pm) ∈ Γ.kws → pm.length = ps.length ∧ pm.Nodup ∧ (∀ i ∈ pm, i < n + ks.length + ds.length) ∧ ∃ (zs : List V) (dus : List Value), Vals zs dus ∧ (∀ L H, RdA X.K L H ds zs) ∧
      ∀ (s : Shared) (us ws : List Value), X.K.In s.heap → us.length = n → ws.length = ks.length → BindsTo s fd ⟨us, ks.zip ws⟩ (ps.zip (permR (us ++ (ws ++ dus)) pm))) ∧
    FnG X.prog X.w X.K X.mg X.base m f fd ps (spG X.K X.mg ps.length (G g))
  cs : ∀ x d, Γ.cs.lookup x = some d → ∃ u v, X.mg x = some u ∧ RelV v u ∧ ∀ L H, Rd X.K L H d v
  bs : ∀ x, Γ.bs.contains x = true → X.mg x = none
  lc : Γ.lc = true → X.mg "lcm" = some (.builtin "math.lcm")
  fn : ∀ x, Γ.fn x = true → X.fn x = true
theorem XOk.un {Γ : Gam} {G : Call} {m : Nat} {X : Cx} (h : XOk Γ G m X) : X.A.units + 200 < cLine := by have := h.room.un; omega
theorem ixOf_some : ∀ {l : List Str} {x : Str} {n i : Nat}, ixOf l x n = some i → n ≤ i ∧ l[i - n]? = some x
  | [], _, _, _, e => by cases e
  | y :: r, x, n, i, e => by
    unfold ixOf at e
    split at e
    · cases e
      rename_i h
      subst h
      exact ⟨Nat.le_refl _, by simp⟩
    · obtain ⟨h1, h2⟩ := ixOf_some e
      refine ⟨by omega, ?_⟩
      have : i - n = (i - (n + 1)) + 1 := by omega
      rw [this, List.getElem?_cons_succ]; exact h2
theorem ixOf0 {l : List Str} {x : Str} {i : Nat} (e : ixOf l x 0 = some i) : l[i]? = some x := by simpa using (ixOf_some e).2
theorem mapO_cons {α β : Type} {g : α → Option β} {a : α} {r : List α} {l : List β} (e : mapO g (a :: r) = some l) : ∃ b t, g a = some b ∧ mapO g r = some t ∧ l = b :: t := by
  unfold mapO at e
  cases q : g a with
  | none => rw [q] at e; cases e
  | some b =>
    rw [q] at e
    cases q2 : mapO g r with
    | none => simp [q2] at e
    | some t => simp only [q2, Option.bind_some] at e; cases e; exact ⟨b, t, rfl, rfl, rfl⟩
theorem obind {α β : Type} {x : Option α} {g : α → Option β} {b : β} (e : x.bind g = some b) : ∃ a, x = some a ∧ g a = some b := by
  cases x with
  | none => cases e
  | some a => exact ⟨a, rfl, e⟩
theorem omap {α β : Type} {x : Option α} {g : α → β} {b : β} (e : x.map g = some b) : ∃ a, x = some a ∧ g a = b := by
  cases x with
  | none => cases e
  | some a => exact ⟨a, rfl, Option.some.inj e⟩
theorem okName_ne {x : Str} (h : okName x = true) : (x == ("__debug__" : Str)) = false ∧ (x == ("__classdict__" : Str)) = false ∧ x ≠ "__name__" := by
  unfold okName at h
  simp only [Bool.and_eq_true, bne_iff_ne, ne_eq] at h
  exact ⟨by simpa using h.1.1, by simpa using h.1.2, h.2⟩
theorem vis_of {Γ : Gam} {G : Call} {m : Nat} {X : Cx} (h : XOk Γ G m X) {x : Str} (v : Γ.vis x = true) : Vis X.env.scope x := by
  unfold Gam.vis at v
  rw [h.sc]
  split at v
  · exact .inl (by assumption)
  · exact .inr (.inl (by assumption))
  · exact .inr (.inr (by assumption))
  · cases v
theorem gl_of {Γ : Gam} {G : Call} {m : Nat} {X : Cx} (h : XOk Γ G m X) {x : Str} (v : Γ.gl x = true) : Gl X x := by
  unfold Gam.gl at v
  show X.env.scope.names.lookup x = _
  rw [h.sc]
  split at v
  · assumption
  · cases v
section
variable {K : PySem.W.Frag} {G : Call} {σ : L2.St} {H : Hp}
theorem tD.mono {e : Ex} {Q Q' : VK} (h : tD K G e σ H Q) (i : ∀ v H', Q v H' → Q' v H') : tD K G e σ H Q' := by
  obtain ⟨A, as, f, rv, f', R, he, hQ⟩ := h
  exact ⟨A, as, f, rv, f', R, he, fun v H' p => i v H' (hQ v H' p)⟩
theorem tDs.mono {e : List Ex} {Q Q' : List V → Hp → Prop} (h : tDs K G e σ H Q) (i : ∀ v H', Q v H' → Q' v H') : tDs K G e σ H Q' := by
  obtain ⟨A, as, f, rv, f', R, he, hQ⟩ := h
  exact ⟨A, as, f, rv, f', R, he, fun v H' p => i v H' (hQ v H' p)⟩
theorem tDs_one {e : Ex} {Q : List V → Hp → Prop} (h : tDs K G [e] σ H Q) : tD K G e σ H fun x H1 => Q [x] H1 :=
  tD.mono (tDs_cons h) fun v H1 q => tDs_nil q
theorem tDs_two {a b : Ex} {Q : List V → Hp → Prop} (h : tDs K G [a, b] σ H Q) : tD K G a σ H fun x H1 => tD K G b σ H1 fun y H2 => Q [x, y] H2 :=
  tD.mono (tDs_cons h) fun v H1 q => tDs_one q
theorem truV {L : ASet} {y : D} {v : V} {b : Bool} (h : Rd1 K L H y v) (e : truth y = some b) : TruV K v H b := by
  cases y with
  | none => have := h.n; subst this; cases e; rfl
  | bool c => have := h.b; subst this; cases e; rfl
  | int i => have := h.i; subst this; cases e; rfl
  | str s =>
    have := h.s; subst this
    have e : (if s.length ≤ 16777216 then some ((s.length : Int) != 0) else none) = some b := e
    split at e
    · cases e; exact ⟨by rw [sizeLine_eq]; assumption, rfl⟩
    · cases e
  | list ds =>
    obtain ⟨a, vs, rfl, s, r⟩ := h.l
    cases e
    refine .inl ⟨vs, s.sq, ?_⟩
    have := r.len
    cases ds <;> cases vs <;> simp_all
  | tuple ds =>
    obtain ⟨a, vs, rfl, s, r⟩ := h.t
    cases e
    refine .inr (.inl ⟨vs, s.sq, ?_⟩)
    have := r.len
    cases ds <;> cases vs <;> simp_all
  | dict ds =>
    obtain ⟨a, hv, rfl, s, r⟩ := h.m
    cases e
    refine .inr (.inr ⟨hv, s, ?_⟩)
    cases ds with
    | nil => unfold RdK at r; subst r; rfl
    | cons p t => obtain ⟨k, d⟩ := p; unfold RdK at r; obtain ⟨_, _, _, e, _⟩ := r; subst e; rfl
theorem tB_of {e : Ex} {Q : Bool → Hp → Prop} (h : tB K G e σ H Q) : tD K G e σ H fun x H' => ∃ k, TruV K x H' k ∧ Q k H' := by
  obtain ⟨A, as, f, b, f', R, he, hQ⟩ := h
  unfold evC at he
  obtain ⟨⟨rv, f1⟩, e1, he⟩ := bind_ok he
  obtain ⟨t, e2, he⟩ := bind_ok he
  cases he
  obtain ⟨y, e3, e4⟩ := obind (ofOpt_ok e2)
  refine ⟨A, as, f, rv, f1, R, e1, fun v H' p => ?_⟩
  obtain ⟨pn, rd⟩ := p.seen e3
  exact ⟨b, truV rd e4, hQ H' pn⟩
theorem evC_ok {e : Ex} {f f' : F} {b : Bool} (h : evC G e f = .ok (b, f')) : ∃ rv y, evE G e f = .ok (rv, f') ∧ view f' rv = some y ∧ truth y = some b := by
  unfold evC at h
  obtain ⟨⟨rv, f1⟩, e1, h⟩ := bind_ok h
  obtain ⟨t, e2, h⟩ := bind_ok h
  cases h
  obtain ⟨y, e3, e4⟩ := obind (ofOpt_ok e2)
  exact ⟨rv, y, e1, e3, e4⟩
theorem evC_mk {e : Ex} {f f' : F} {b : Bool} {rv : RV} {y : D} (e1 : evE G e f = .ok (rv, f')) (e2 : view f' rv = some y) (e3 : truth y = some b) : evC G e f = .ok (b, f') := by
  unfold evC
  simp [e1, e2, e3, Res.bind, ofOpt]
/-- a test that is met first -/
theorem tB_and {a b : Ex} {Q : Bool → Hp → Prop} (h : tB K G (.and a b) σ H Q) : tAnd (tB K G a) (tB K G b) σ H Q := by
  obtain ⟨A, as, f, c, f', R, he, hQ⟩ := h
  obtain ⟨rv, y, e1, e2, e3⟩ := evC_ok he
  unfold evE at e1
  obtain ⟨⟨r1, f1⟩, g1, e1⟩ := bind_ok e1
  obtain ⟨t, g2, e1⟩ := bind_ok e1
  obtain ⟨y1, g3, g4⟩ := obind (ofOpt_ok g2)
  refine ⟨A, as, f, t, f1, R, evC_mk g1 g3 g4, fun H1 p => ?_⟩
  cases t with
  | true =>
    rw [if_pos rfl] at e1 ⊢
    exact ⟨A, as, f1, c, f', p.1, evC_mk e1 e2 e3, fun H2 p2 => hQ H2 (p.thenN p2)⟩
  | false =>
    rw [if_neg Bool.false_ne_true] at e1 ⊢
    cases e1
    rw [g3] at e2; cases e2
    rw [g4] at e3; cases e3
    exact hQ H1 p
theorem tB_or {a b : Ex} {Q : Bool → Hp → Prop} (h : tB K G (.or a b) σ H Q) : tOr (tB K G a) (tB K G b) σ H Q := by
  obtain ⟨A, as, f, c, f', R, he, hQ⟩ := h
  obtain ⟨rv, y, e1, e2, e3⟩ := evC_ok he
  unfold evE at e1
  obtain ⟨⟨r1, f1⟩, g1, e1⟩ := bind_ok e1
  obtain ⟨t, g2, e1⟩ := bind_ok e1
  obtain ⟨y1, g3, g4⟩ := obind (ofOpt_ok g2)
  refine ⟨A, as, f, t, f1, R, evC_mk g1 g3 g4, fun H1 p => ?_⟩
  cases t with
  | false =>
    rw [if_neg Bool.false_ne_true] at e1 ⊢
    exact ⟨A, as, f1, c, f', p.1, evC_mk e1 e2 e3, fun H2 p2 => hQ H2 (p.thenN p2)⟩
  | true =>
    rw [if_pos rfl] at e1 ⊢
    cases e1
    rw [g3] at e2; cases e2
    rw [g4] at e3; cases e3
    exact hQ H1 p
theorem tB_ife {c a b : Ex} {Q : Bool → Hp → Prop} (h : tB K G (.ife c a b) σ H Q) : tB K G c σ H fun d H1 => if d = true then tB K G a σ H1 Q else tB K G b σ H1 Q := by
  obtain ⟨A, as, f, k, f', R, he, hQ⟩ := h
  obtain ⟨rv, y, e1, e2, e3⟩ := evC_ok he
  unfold evE at e1
  obtain ⟨⟨r1, f1⟩, g1, e1⟩ := bind_ok e1
  obtain ⟨t, g2, e1⟩ := bind_ok e1
  obtain ⟨y1, g3, g4⟩ := obind (ofOpt_ok g2)
  refine ⟨A, as, f, t, f1, R, evC_mk g1 g3 g4, fun H1 p => ?_⟩
  cases t with
  | true =>
    rw [if_pos rfl] at e1 ⊢
    exact ⟨A, as, f1, k, f', p.1, evC_mk e1 e2 e3, fun H2 p2 => hQ H2 (p.thenN p2)⟩
  | false =>
    rw [if_neg Bool.false_ne_true] at e1 ⊢
    exact ⟨A, as, f1, k, f', p.1, evC_mk e1 e2 e3, fun H2 p2 => hQ H2 (p.thenN p2)⟩
theorem tB_not {a : Ex} {Q : Bool → Hp → Prop} (h : tB K G (.op .not [a]) σ H Q) : tNot (tB K G a) σ H Q := by
  obtain ⟨A, as, f, c, f', R, he, hQ⟩ := h
  obtain ⟨rv, y, e1, e2, e3⟩ := evC_ok he
  unfold evE evEs evEs at e1
  obtain ⟨⟨rs, f1⟩, g1, e1⟩ := bind_ok e1
  obtain ⟨⟨r1, f2⟩, g2, g1⟩ := bind_ok g1
  cases g1
  obtain ⟨rr, g3, e1⟩ := bind_ok e1
  cases e1
  obtain ⟨ys, g4, g5⟩ := obind (ofOpt_ok g3)
  obtain ⟨y1, g6, g7⟩ := obind g4
  cases g7
  obtain ⟨t, g8, g9⟩ := omap (show (truth y1).map (fun b => RR.d (.bool (!b))) = some rr from g5)
  subst g9
  cases e2
  cases e3
  exact ⟨A, as, f, t, f2, R, evC_mk g2 g6 g8, fun H1 p => hQ H1 p⟩
theorem tD_and {a b : Ex} {Q : VK} (h : tD K G (.and a b) σ H Q) : tAndT K (tD K G a) (tD K G b) σ H Q := by
  obtain ⟨A, as, f, rv, f', R, he, hQ⟩ := h
  unfold evE at he
  obtain ⟨⟨r1, f1⟩, g1, he⟩ := bind_ok he
  obtain ⟨t, g2, he⟩ := bind_ok he
  obtain ⟨y1, g3, g4⟩ := obind (ofOpt_ok g2)
  refine ⟨A, as, f, r1, f1, R, g1, fun v H1 p => ?_⟩
  obtain ⟨pn, rd⟩ := p.seen g3
  refine ⟨t, truV rd g4, ?_⟩
  cases t with
  | true =>
    rw [if_pos rfl] at he ⊢
    exact ⟨A, as, f1, rv, f', pn.1, he, fun w H2 p2 => hQ w H2 (pn.then p2)⟩
  | false =>
    rw [if_neg Bool.false_ne_true] at he ⊢
    cases he
    exact hQ v H1 p
theorem tD_or {a b : Ex} {Q : VK} (h : tD K G (.or a b) σ H Q) : tOrT K (tD K G a) (tD K G b) σ H Q := by
  obtain ⟨A, as, f, rv, f', R, he, hQ⟩ := h
  unfold evE at he
  obtain ⟨⟨r1, f1⟩, g1, he⟩ := bind_ok he
  obtain ⟨t, g2, he⟩ := bind_ok he
  obtain ⟨y1, g3, g4⟩ := obind (ofOpt_ok g2)
  refine ⟨A, as, f, r1, f1, R, g1, fun v H1 p => ?_⟩
  obtain ⟨pn, rd⟩ := p.seen g3
  refine ⟨t, truV rd g4, ?_⟩
  cases t with
  | false =>
    rw [if_neg Bool.false_ne_true] at he ⊢
    exact ⟨A, as, f1, rv, f', pn.1, he, fun w H2 p2 => hQ w H2 (pn.then p2)⟩
  | true =>
    rw [if_pos rfl] at he ⊢
    cases he
    exact hQ v H1 p
theorem tD_ife {c a b : Ex} {Q : VK} (h : tD K G (.ife c a b) σ H Q) : tIf (tB K G c) (tD K G a) (tD K G b) σ H Q := by
  obtain ⟨A, as, f, rv, f', R, he, hQ⟩ := h
  unfold evE at he
  obtain ⟨⟨r1, f1⟩, g1, he⟩ := bind_ok he
  obtain ⟨t, g2, he⟩ := bind_ok he
  obtain ⟨y1, g3, g4⟩ := obind (ofOpt_ok g2)
  refine ⟨A, as, f, t, f1, R, evC_mk g1 g3 g4, fun H1 p => ?_⟩
  cases t with
  | true =>
    rw [if_pos rfl] at he ⊢
    exact ⟨A, as, f1, rv, f', p.1, he, fun w H2 p2 => hQ w H2 (p.then p2)⟩
  | false =>
    rw [if_neg Bool.false_ne_true] at he ⊢
    exact ⟨A, as, f1, rv, f', p.1, he, fun w H2 p2 => hQ w H2 (p.then p2)⟩
theorem tD_not {a : Ex} {Q : VK} (h : tD K G (.op .not [a]) σ H Q) : tNotT K (tD K G a) σ H Q := by
  refine tD.mono (tDs_one (tD_op h)) fun v H1 q => ?_
  obtain ⟨L, ys, rr, rd, e, q⟩ := q
  obtain ⟨y, rfl, rd1⟩ := rd1s1 rd
  obtain ⟨t, g8, g9⟩ := omap (show (truth y).map (fun b => RR.d (.bool (!b))) = some rr from e)
  subst g9
  exact ⟨t, truV rd1 g8, q _ _ (.inl ⟨rfl, rd_bool⟩)⟩
theorem tD_isn {a : Ex} {Q : VK} (h : tD K G (.op .isn [a]) σ H Q) : tIsN (tD K G a) σ H Q := by
  refine tD.mono (tDs_one (tD_op h)) fun v H1 q => ?_
  obtain ⟨L, ys, rr, rd, e, q⟩ := q
  obtain ⟨y, rfl, rd1⟩ := rd1s1 rd
  cases e
  rw [isNone_v rd1]
  exact q _ _ (.inl ⟨rfl, rd_bool⟩)
theorem tD_isnn {a : Ex} {Q : VK} (h : tD K G (.op .isnn [a]) σ H Q) : tNotN (tD K G a) σ H Q := by
  refine tD.mono (tDs_one (tD_op h)) fun v H1 q => ?_
  obtain ⟨L, ys, rr, rd, e, q⟩ := q
  obtain ⟨y, rfl, rd1⟩ := rd1s1 rd
  cases e
  rw [isNone_v rd1]
  exact q _ _ (.inl ⟨rfl, rd_bool⟩)
/-- a test whose value is a bool -/
theorem tB_bool {e : Ex} {Q : Bool → Hp → Prop} (h : tB K G e σ H Q) (hb : ∀ f rv f', evE G e f = .ok (rv, f') → ∃ k, rv = .d (.bool k)) : tD K G e σ H fun x H' => ∃ k, x = .bl k ∧ Q k H' := by
  obtain ⟨A, as, f, b, f', R, he, hQ⟩ := h
  obtain ⟨rv, y, e1, e2, e3⟩ := evC_ok he
  obtain ⟨k, rfl⟩ := hb f rv f' e1
  cases e2
  obtain rfl : k = b := Option.some.inj e3
  refine ⟨A, as, f, _, f', R, e1, fun v H' p => ?_⟩
  obtain ⟨pn, rd⟩ := p.seen (y := .bool k) rfl
  exact ⟨k, rd.b, hQ H' pn⟩
theorem op_bool {o : Op} {es : List Ex} (ho : ∀ ys rr, o.run ys = some rr → ∃ k, rr = .d (.bool k)) (f : F) (rv : RV) (f' : F) (h : evE G (.op o es) f = .ok (rv, f')) : ∃ k, rv = .d (.bool k) := by
  unfold evE at h
  obtain ⟨⟨rs, f1⟩, e1, h⟩ := bind_ok h
  obtain ⟨rr, e2, h⟩ := bind_ok h
  cases h
  obtain ⟨ys, _, g⟩ := obind (ofOpt_ok e2)
  obtain ⟨k, rfl⟩ := ho ys rr g
  exact ⟨k, rfl⟩
end
theorem runInts_bool {c : Int → Int → Bool} {g : Int → Int → Bool} {a b : D} {rr : RR} (e : runInts c (fun i j => .bool (g i j)) a b = some rr) : ∃ k, rr = .d (.bool k) := by
  obtain ⟨i, j, _, _, _, h⟩ := runInts_some e; exact ⟨_, h⟩
theorem cmp_bool {op : CmpOp} {o : Op} (h : cmpO op = some o) : ∀ ys rr, o.run ys = some rr → ∃ k, rr = .d (.bool k) := by
  intro ys rr e
  match ys, e with
  | [], e => cases op <;> simp only [cmpO] at h <;> try (cases h; done)
             all_goals (cases h; cases e)
  | [_], e => cases op <;> simp only [cmpO] at h <;> try (cases h; done)
              all_goals (cases h; cases e)
  | _ :: _ :: _ :: _, e => cases op <;> simp only [cmpO] at h <;> try (cases h; done)
                           all_goals (cases h; cases e)
  | [a, b], e =>
    cases op <;> simp only [cmpO] at h <;> try (cases h; done)
    all_goals cases h
    · replace e : runEq false a b = some rr := e
      unfold runEq at e; split at e <;> cases e; exact ⟨_, rfl⟩
    · replace e : runEq true a b = some rr := e
      unfold runEq at e; split at e <;> cases e; exact ⟨_, rfl⟩
    · replace e : runLt a b = some rr := e
      cases a <;> cases b <;> simp only [runLt] at e <;> try (cases e; done)
      · cases e; exact ⟨_, rfl⟩
      · cases e; exact ⟨_, rfl⟩
      · obtain ⟨_, _, e⟩ := obind e
        obtain ⟨_, _, e⟩ := obind e
        cases e; exact ⟨_, rfl⟩
    · exact runInts_bool e
    · exact runInts_bool e
    · exact runInts_bool e
    · replace e : runIs false a b = some rr := e
      cases a <;> cases b <;> simp only [runIs] at e <;> try (cases e; done)
      cases e; exact ⟨_, rfl⟩
    · replace e : runIs true a b = some rr := e
      cases a <;> cases b <;> simp only [runIs] at e <;> try (cases e; done)
      cases e; exact ⟨_, rfl⟩
    · obtain ⟨_, _, e⟩ := omap (show (memD a b).map (fun b => RR.d (.bool b)) = some rr from e); exact ⟨_, e.symm⟩
    · obtain ⟨_, _, e⟩ := omap (show (memD a b).map (fun b => RR.d (.bool (!b))) = some rr from e); exact ⟨_, e.symm⟩
section
variable {X : Cx}
theorem bin_or {op : Operator} {o : Op} (h : binO op = some o) : OpR X (binaryOp op) (rD X.K o) := by
  cases op <;> simp only [binO] at h <;> try (cases h; done)
  all_goals cases h
  · exact or_add
  · exact or_sub
  · exact or_mul
  · exact or_mod
  · exact or_pow
  · exact or_fdiv
theorem cmp_or {op : CmpOp} {o : Op} (hu : X.A.units + 200 < cLine) (h : cmpO op = some o) : OpR X (compareOp op) (rD X.K o) := by
  cases op <;> simp only [cmpO] at h <;> try (cases h; done)
  all_goals cases h
  · exact or_eq hu
  · exact or_ne hu
  · exact or_lt hu
  · exact or_le
  · exact or_gt
  · exact or_ge
  · exact or_isb
  · exact or_isnb
  · exact or_mem
  · exact or_nmem
theorem bi_ok0 {x : Str} {k : Nat} {o : Op} (hc : X.calm = true) (hu : X.A.units + 200 < cLine) (hg : X.A.guards = some []) (h : biO x k = some o) :
    (∃ id, bootBuiltins x = some (.builtin id) ∧ CallR X (.builtin id) (rDs X.K o)) ∨ ∃ T, bootBuiltins x = some (.type T) ∧ CallR X (.type T) (rDs X.K o) := by
  match k, h with
  | 0, h => cases h
  | _ + 3, h => cases h
  | 1, h =>
    have hm : (x, o) ∈ biT1 := PySem.mem_of_lookup h
    unfold biT1 at hm
    rcases List.mem_cons.mp hm with e | hm
    · cases e; exact .inl ⟨"len", by decide +kernel, cr_len⟩
    rcases List.mem_cons.mp hm with e | hm
    · cases e; exact .inr ⟨"int", by decide +kernel, cr_int⟩
    rcases List.mem_cons.mp hm with e | hm
    · cases e; exact .inl ⟨"abs", by decide +kernel, cr_abs⟩
    rcases List.mem_cons.mp hm with e | hm
    · cases e; exact .inl ⟨"repr", by decide +kernel, cr_repr hu hg⟩
    rcases List.mem_cons.mp hm with e | hm
    · cases e; exact .inr ⟨"tuple", by decide +kernel, cr_tuple⟩
    rcases List.mem_cons.mp hm with e | hm
    · cases e; exact .inr ⟨"list", by decide +kernel, cr_list⟩
    rcases List.mem_cons.mp hm with e | hm
    · cases e; exact .inl ⟨"any", by decide +kernel, cr_anyD hc⟩
    rcases List.mem_cons.mp hm with e | hm
    · cases e; exact .inl ⟨"all", by decide +kernel, cr_allD hc⟩
    rcases List.mem_cons.mp hm with e | hm
    · cases e; exact .inl ⟨"sum", by decide +kernel, cr_sumD hc⟩
    rcases List.mem_cons.mp hm with e | hm
    · cases e; exact .inl ⟨"sorted", by decide +kernel, cr_sortedD hu hc⟩
    rcases List.mem_cons.mp hm with e | hm
    · cases e; exact .inl ⟨"max", by decide +kernel, cr_max1 hc⟩
    rcases List.mem_cons.mp hm with e | hm
    · cases e; exact .inl ⟨"min", by decide +kernel, cr_min1 hc⟩
    cases hm
  | 2, h =>
    have hm : (x, o) ∈ biT2 := PySem.mem_of_lookup h
    unfold biT2 at hm
    rcases List.mem_cons.mp hm with e | hm
    · cases e; exact .inl ⟨"max", by decide +kernel, cr_max2 hc⟩
    rcases List.mem_cons.mp hm with e | hm
    · cases e; exact .inl ⟨"min", by decide +kernel, cr_min2 hc⟩
    rcases List.mem_cons.mp hm with e | hm
    · cases e; exact .inl ⟨"divmod", by decide +kernel, cr_divmod⟩
    cases hm
/-- tuple(l): laid as it is -/
theorem cr_ptup : CallR X (.type "tuple") (rDs X.K .ptuple) := by
  refine call1 (g := runPtup) (fun _ => rfl) (fun ys h => by match ys, h with | [], _ => rfl | [_], h => simp at h | _ :: _ :: _, _ => rfl) ?_
  intro pins s σ H x u Q L a rr I ru ha e q
  cases a <;> try (cases e; done)
  cases e
  rename_i ds
  obtain ⟨p, vs, rfl, s1, r1⟩ := ha.l
  cases ru
  obtain ⟨its, rv, pk, hz⟩ := I.list s1.sq
  refine call_tuple_list pk.isList (fun h' hk => ?_) (by rw [List.size_toArray, ← rv.length]; exact hz)
  have J : Inv X pins σ H { s with heap := h' } := I.kept (t' := s.toks) hk
  let ob : Obj := { cls := .type "tuple", data := .seq its.toArray }
  have nw : (h'.push ob).get? h'.objs.size = some ob := Heap.get?_push_size h' rfl
  have J2 : Inv X pins σ (upd H h'.objs.size (.frz ob (.tup vs))) { s with heap := h'.push ob } :=
    J.laid (t' := s.toks) (fun b o z => Heap.get?_push_of_some _ z) (Nat.le_refl _) (show ObjOk X.prog X.w _ _ _ (.frz ob (.tup vs)) from ⟨nw, hz, its, rv, ⟨ob, nw, rfl, 0, rfl⟩⟩)
  exact ⟨.ref h'.objs.size, _, J2, rfl, q _ _ (.inr (.inr ⟨h'.objs.size, vs, ds, ob, rfl, J.hok.fresh (Nat.le_refl _), rfl, rfl, rfl, r1⟩))⟩
theorem bi_ok {Γ : Gam} {x : Str} {k : Nat} {o : Op} (hc : X.calm = true) (hu : X.A.units + 200 < cLine) (hg : X.A.guards = some []) (h : Γ.biO x k = some o) :
    (∃ id, bootBuiltins x = some (.builtin id) ∧ CallR X (.builtin id) (rDs X.K o)) ∨ ∃ T, bootBuiltins x = some (.type T) ∧ CallR X (.type T) (rDs X.K o) := by
  unfold Gam.biO at h
  split at h
  · rename_i hc
    cases h
    rw [hc.2.1]
    exact .inr ⟨"tuple", by decide +kernel, cr_ptup⟩
  · exact bi_ok0 hc hu hg h
end
end Vm
set_option maxRecDepth 100000
set_option maxHeartbeats 4000000
namespace Vm
open PySem PySem.Spec L2
section
variable {K : PySem.W.Frag} {G : Call} {σ : L2.St} {H : Hp}
theorem views_two {f : F} {a b : RV} {l : List D} (h : views f [a, b] = some l) : ∃ x y, view f a = some x ∧ view f b = some y ∧ l = [x, y] := by
  obtain ⟨x, h1, h⟩ := obind h
  obtain ⟨ys, h2, h⟩ := obind h
  obtain ⟨y, h3, h2⟩ := obind h2
  cases h2
  cases h
  exact ⟨x, y, h1, h3, rfl⟩
theorem OpPost.bool {L : ASet} {k : Bool} {v : V} {H2 : Hp} (h : OpPost K L H (.d (.bool k)) v H2) : v = .bl k ∧ H2 = H := by
  rcases h with ⟨e, h⟩ | ⟨p, vs, ds, h, _⟩ | ⟨p, vs, ds, o, h, _⟩
  · unfold Rd at h; exact ⟨h, e⟩
  · cases h
  · cases h
theorem tD_ch {o o' : Op} {a b c : Ex} {Q : VK} (h : tD K G (.ch o o' a b c) σ H Q) : tChain (rD K o) (rD K o') (tD K G a) (tD K G b) (tD K G c) σ H Q := by
  obtain ⟨A, as, f, rv, f', R, he, hQ⟩ := h
  unfold evE at he
  obtain ⟨⟨r1, f1⟩, e1, he⟩ := bind_ok he
  obtain ⟨⟨r2, f2⟩, e2, he⟩ := bind_ok he
  obtain ⟨rr, e3, he⟩ := bind_ok he
  obtain ⟨l, e4, e5⟩ := obind (ofOpt_ok e3)
  obtain ⟨x, y, e6, e7, rfl⟩ := views_two e4
  refine ⟨A, as, f, r1, f1, R, e1, fun v1 H1 p1 => ?_⟩
  obtain ⟨A1, s1, R1, q1, n1, x1, k1⟩ := id p1
  refine ⟨A1, as, f1, r2, f2, R1, e2, fun v2 H2 p2 => ?_⟩
  obtain ⟨A2, s2, R2, q2, n2, x2, k2⟩ := id p2
  have q1' := q1.ext x2 (fun a z => k2 a z) s2
  have y12 := ext_less (H := H2) (f := f2) (as := as) (σ := σ) (A := A2) (A' := A) (fun a z => s2 a (s1 a z))
  have pn2 : PostN K A as f σ H f2 H2 := ⟨R2.less fun a z => s2 a (s1 a z), (x1.trans x2).trans y12, fun a z => (k2 a (s1 a z)).trans (k1 a z)⟩
  refine ⟨Lv A2 f2 as σ, [x, y], rr, ⟨v1, [v2], rfl, view_rd1 R2 q1' e6, v2, [], rfl, view_rd1 R2 q2 e7, rfl⟩, e5, fun z H3 hz => ?_⟩
  match rr, he, hz with
  | .fr _, he, _ => cases he
  | .d .none, he, _ => cases he
  | .d (.int _), he, _ => cases he
  | .d (.str _), he, _ => cases he
  | .d (.list _), he, _ => cases he
  | .d (.tuple _), he, _ => cases he
  | .d (.dict _), he, _ => cases he
  | .d (.bool false), he, hz =>
    obtain ⟨rfl, rfl⟩ := hz.bool
    cases he
    refine ⟨false, rfl, ?_⟩
    rw [if_neg Bool.false_ne_true]
    exact hQ _ _ (pn2.then (Post.nil pn2.1 (.inl (rd_bool (K := K) (L := Lv A f2 as σ) (H := H3))) fun o e => by cases e))
  | .d (.bool true), he, hz =>
    obtain ⟨rfl, rfl⟩ := hz.bool
    refine ⟨true, rfl, ?_⟩
    rw [if_pos rfl]
    obtain ⟨⟨r3, f3⟩, g1, he⟩ := bind_ok he
    obtain ⟨rr2, g2, he⟩ := bind_ok he
    cases he
    obtain ⟨l, g3, g4⟩ := obind (ofOpt_ok g2)
    obtain ⟨y', w, g5, g6, rfl⟩ := views_two g3
    refine ⟨A2, as, f2, r3, f3, R2, g1, fun v3 H4 p3 => ?_⟩
    obtain ⟨A3, s3, R3, q3, n3, x3, k3⟩ := p3
    have q2' := q2.ext x3 (fun a z => k3 a z) s3
    have sub : ∀ a, A a → A3 a := fun a z => s3 a (s2 a (s1 a z))
    have y3 := ext_less (H := H4) (f := f3) (as := as) (σ := σ) (A := A3) (A' := A) sub
    have pn3 : PostN K A as f σ H f3 H4 := ⟨R3.less sub, ((x1.trans x2).trans x3).trans y3, fun a z => (k3 a (s2 a (s1 a z))).trans ((k2 a (s1 a z)).trans (k1 a z))⟩
    exact ⟨Lv A f3 as σ, [y', w], rr2, ⟨v2, [v3], rfl, (view_rd1 R3 q2' g5).ext y3, v3, [], rfl, (view_rd1 R3 q3 g6).ext y3, rfl⟩, g4, fun z5 H5 hz5 => hQ z5 H5 (pn3.then (op_post pn3.1 hz5))⟩
end
/-! ### syntax -/
theorem comp_star : ∀ {n : Nat} {Γ : Gam} {e : Expr} {ir : Ex}, comp n Γ e = some ir → ∀ es env, starEach (e :: es) env = (false, eval e env) :: starEach es env
  | 0, _, _, _, h => by cases h
  | n + 1, Γ, e, ir, h => by
    intro es env
    cases e
    case Starred => cases h
    all_goals rfl
theorem mapO_plain {n : Nat} {Γ : Gam} {pos : Pos} {env : Env} : ∀ {es : List Expr} {l : List Ex}, mapO (comp n Γ) es = some l → (backTo pos (starEach es env)).any (·.1) = false
  | [], _, _ => rfl
  | e :: es, _, h => by
    obtain ⟨b, t, h1, h2, _⟩ := mapO_cons h
    rw [comp_star h1]
    show (false || (backTo pos (starEach es env)).any (·.1)) = false
    rw [mapO_plain h2]; rfl
theorem mapO_len {α β : Type} {g : α → Option β} : ∀ {l : List α} {r : List β}, mapO g l = some r → r.length = l.length
  | [], _, h => by cases h; rfl
  | a :: l, _, h => by
    obtain ⟨b, t, _, h2, e⟩ := mapO_cons h
    subst e
    simp [mapO_len h2]
section
variable {X : Cx} {Γ : Gam} {G : Call} {m : Nat}
theorem comps_pa {n : Nat} (ih : ∀ (e : Expr) (ir : Ex), comp n Γ e = some ir → PE X e (tD X.K G ir)) : ∀ {es : List Expr} {l : List Ex}, mapO (comp n Γ) es = some l → PA X es (tDs X.K G l)
  | [], _, h => by cases h; exact PA.imp pa_nil fun σ H Q q => tDs_nil q
  | e :: es, _, h => by
    obtain ⟨b, t, h1, h2, e0⟩ := mapO_cons h
    subst e0
    exact PA.imp (pa_cons (ih e b h1) (comps_pa ih h2) (comp_star h1 es X.env)) fun σ H Q q => tDs_cons q
theorem pt_ife {c a b : Expr} {pos : Pos} {tc ta tb : TT} (hc : PT X c tc) (ha : PT X a ta) (hb : PT X b tb) : PT X (.IfExp c a b pos) (fun σ H Q => tc σ H fun d H1 => if d = true then ta σ H1 Q else tb σ H1 Q) := by
  constructor
  intro pins s σ H Q I h
  refine PyProof.Rows.isTrue_IfExp (thn (hc.run pins s σ H _ I h) fun d s1 ⟨H1, I1, q1⟩ => ?_)
  cases d with
  | true => exact ha.run pins s1 σ H1 Q I1 q1
  | false => exact hb.run pins s1 σ H1 Q I1 q1
/-- a part of a slice -/
theorem po_part {e : Expr} {ir : Ex} (h : PE X e (tD X.K G ir)) : PO X (some e) (tPart (tD X.K G ir)) := po_some h
end
end Vm
set_option maxRecDepth 100000
set_option maxHeartbeats 4000000
namespace Vm
open PySem PySem.Spec L2
theorem PW.imp {X : Cx} {e : Expr} {t t' : TT} (h : PW X e t) (i : ∀ σ H Q, t' σ H Q → t σ H Q) : PW X e t' := ⟨fun wh pins s σ H Q I q => h.run wh pins s σ H Q I (i σ H Q q)⟩
section
variable {K : PySem.W.Frag} {G : Call} {σ : L2.St} {H : Hp}
theorem tOp_of {o : Op} {a b : Ex} {Q : VK} (h : tD K G (.op o [a, b]) σ H Q) : tOp (rD K o) (tD K G a) (tD K G b) σ H Q := tDs_two (tD_op h)
theorem tCB_of {o : Op} {es : List Ex} {Q : VK} (h : tD K G (.op o es) σ H Q) : tCB (rDs K o) (tDs K G es) σ H Q := tD_op h
theorem tD_neg {a : Ex} {Q : VK} (h : tD K G (.op .neg [a]) σ H Q) : tUn (fun x H Q => OpQ K .neg [x] H Q) (tD K G a) σ H Q := tDs_one (tD_op h)
theorem tTest_of {e : Ex} {Q : Bool → Hp → Prop} {t : TE} (h : Vm.tB K G e σ H Q) (hb : ∀ f rv f', evE G e f = .ok (rv, f') → ∃ k, rv = .d (.bool k)) (ht : ∀ Q', tD K G e σ H Q' → t σ H Q') : tTest t σ H Q := ht _ (tB_bool h hb)
theorem tPart_ok {a : Ex} {es : List Ex} {Q : List V → Hp → Prop} (h : tDs K G (a :: es) σ H Q) : tD K G a σ H fun x H1 => tDs K G es σ H1 fun xs H2 => Q (x :: xs) H2 := tDs_cons h
theorem tSl_00 {x : Ex} {Q : VK} (h : tD K G (.op (.slice false false) [x]) σ H Q) : L2.tSl (rSl K) (tD K G x) tNoPart tNoPart σ H Q := by
  refine tD.mono (tDs_one (tD_op h)) fun v H1 q => ?_
  obtain ⟨L, ys, rr, rd, e, q⟩ := q
  obtain ⟨y, rfl, r1⟩ := rd1s1 rd
  exact ⟨L, y, rr, r1, e, q⟩
theorem tSl_01 {x u : Ex} {Q : VK} (h : tD K G (.op (.slice false true) [x, u]) σ H Q) : L2.tSl (rSl K) (tD K G x) tNoPart (tPart (tD K G u)) σ H Q := by
  refine tD.mono (tDs_two (tD_op h)) fun v H1 q => tD.mono q fun v2 H2 q => ?_
  obtain ⟨L, ys, rr, rd, e, q⟩ := q
  obtain ⟨y, z, rfl, r1, r2⟩ := rd1s2 rd
  obtain ⟨i, e1, e2⟩ := obind (show (intD z).bind _ = some rr from e)
  cases z <;> cases e1
  exact ⟨i, r2.i, L, y, rr, r1, e2, q⟩
theorem tSl_10 {x u : Ex} {Q : VK} (h : tD K G (.op (.slice true false) [x, u]) σ H Q) : L2.tSl (rSl K) (tD K G x) (tPart (tD K G u)) tNoPart σ H Q := by
  refine tD.mono (tDs_two (tD_op h)) fun v H1 q => tD.mono q fun v2 H2 q => ?_
  obtain ⟨L, ys, rr, rd, e, q⟩ := q
  obtain ⟨y, z, rfl, r1, r2⟩ := rd1s2 rd
  obtain ⟨i, e1, e2⟩ := obind (show (intD z).bind _ = some rr from e)
  cases z <;> cases e1
  exact ⟨i, r2.i, L, y, rr, r1, e2, q⟩
theorem rdi_of {K : PySem.W.Frag} {L : ASet} {H : Hp} {i : Int} {v : V} (h : Rd K L H (.int i) v) : v = .int i := by unfold Rd at h; exact h
theorem tSl_11 {x lo hi : Ex} {Q : VK} (h : tD K G (.sl2 x lo hi) σ H Q) : L2.tSl (rSl K) (tD K G x) (tPart (tD K G lo)) (tPart (tD K G hi)) σ H Q := by
  obtain ⟨A, as, f, rv, f', R, he, hQ⟩ := h
  unfold evE at he
  obtain ⟨⟨r1, f1⟩, e1, he⟩ := bind_ok he
  obtain ⟨⟨r2, f2⟩, e2, he⟩ := bind_ok he
  dsimp only at he
  split at he
  · rename_i i
    obtain ⟨⟨r3, f3⟩, e3, he⟩ := bind_ok he
    dsimp only at he
    split at he
    · rename_i j
      obtain ⟨rr, e4, he⟩ := bind_ok he
      cases he
      obtain ⟨y, e5, e6⟩ := obind (ofOpt_ok e4)
      refine ⟨A, as, f, r1, f1, R, e1, fun v1 H1 p1 => ?_⟩
      obtain ⟨A1, s1, R1, q1, n1, x1, k1⟩ := id p1
      refine ⟨A1, as, f1, _, f2, R1, e2, fun v2 H2 p2 => ?_⟩
      obtain ⟨A2, s2, R2, q2, n2, x2, k2⟩ := id p2
      refine ⟨i, rdi_of (show Rd K (Lv A2 f2 as σ) H2 (.int i) v2 from RdP.rd q2), A2, as, f2, _, f', R2, e3, fun v3 H3 p3 => ?_⟩
      obtain ⟨A3, s3, R3, q3, n3, x3, k3⟩ := id p3
      have q1' := (q1.ext x2 (fun a z => k2 a z) s2).ext x3 (fun a z => k3 a z) s3
      have sub : ∀ a, A a → A3 a := fun a z => s3 a (s2 a (s1 a z))
      have y3 := ext_less (H := H3) (f := f') (as := as) (σ := σ) (A := A3) (A' := A) sub
      have pn3 : PostN K A as f σ H f' H3 := ⟨R3.less sub, ((x1.trans x2).trans x3).trans y3, fun a z => (k3 a (s2 a (s1 a z))).trans ((k2 a (s1 a z)).trans (k1 a z))⟩
      exact ⟨j, rdi_of (show Rd K (Lv A3 f' as σ) H3 (.int j) v3 from RdP.rd q3), _, y, rr, (view_rd1 R3 q1' e5).ext y3, e6, fun z H4 hz => hQ z H4 (pn3.then (op_post pn3.1 hz))⟩
    · cases he
  · cases he
end
/-- what is proved of each expression -/
structure E3 (X : Cx) (G : Call) (ex : Expr) (ir : Ex) : Prop where
  e : PE X ex (tD X.K G ir)
  t : PT X ex (tB X.K G ir)
  w : ∀ op vs pos, ex = .BoolOp op vs pos → PW X ex (tB X.K G ir)
section
variable {X : Cx} {Γ : Gam} {G : Call} {m : Nat}
/-- .. of one whose test is its value's truth -/
theorem E3.plain {e : Expr} {ir : Ex} (h : PE X e (tD X.K G ir)) (he : ∀ whole, isTrue e X.env whole = (do let v ← whole; standAt e.pos; holding [v] (truthy v))) (hb : ∀ op vs pos, e ≠ .BoolOp op vs pos) : E3 X G e ir :=
  ⟨h, PT.imp (pt_truth h he) fun σ H Q q => tB_of q, fun op vs pos z => absurd z (hb op vs pos)⟩
def IH (Γ : Gam) (G : Call) (X : Cx) (n : Nat) : Prop := ∀ (e : Expr) (ir : Ex), comp n Γ e = some ir → E3 X G e ir
theorem IH.pe {n : Nat} (ih : IH Γ G X n) : ∀ (e : Expr) (ir : Ex), comp n Γ e = some ir → PE X e (tD X.K G ir) := fun e ir h => (ih e ir h).e
theorem e_const {n : Nat} {c : Const} {k : _} {pos : Pos} {ir : Ex} (h : comp (n + 1) Γ (.Constant c k pos) = some ir) : E3 X G (.Constant c k pos) ir := by
  obtain ⟨d, h1, rfl⟩ := omap (show (constD c).map Ex.k = some ir from h)
  refine .plain ?_ (fun _ => rfl) fun _ _ _ z => by cases z
  cases c <;> simp only [constD] at h1 <;> try (cases h1; done)
  all_goals cases h1
  · exact PE.imp pe_non fun σ H Q q => tD_k q fun L H => rd_none
  · exact PE.imp pe_bl fun σ H Q q => tD_k q fun L H => rd_bool
  · exact PE.imp pe_int fun σ H Q q => tD_k q fun L H => rd_int
  · exact PE.imp pe_str fun σ H Q q => tD_k q fun L H => rd_str
theorem e_name (C : XOk Γ G m X) {n : Nat} {x : Str} {pos : Pos} {ir : Ex} (h : comp (n + 1) Γ (.Name x pos) = some ir) : E3 X G (.Name x pos) ir := by
  refine .plain ?_ (fun _ => rfl) fun _ _ _ z => by cases z
  unfold comp at h
  dsimp only at h
  split at h
  · rename_i ok
    obtain ⟨o1, o2, o3⟩ := okName_ne ok
    split at h
    · rename_i v
      obtain ⟨i, h1, rfl⟩ := omap h
      exact PE.imp (pe_var (by rw [C.N]; exact ixOf0 h1) (vis_of C v) o1 o2) fun σ H Q q => tD_v q
    · split at h
      · rename_i g
        obtain ⟨d, h1, rfl⟩ := omap h
        obtain ⟨u, v, h2, h3, h4⟩ := C.cs x d h1
        exact PE.imp (pe_glob (gl_of C g) h2 h3 o1) fun σ H Q q => tD_k q h4
      · cases h
  · cases h
theorem e_bin {n : Nat} (ih : IH Γ G X n) {a b : Expr} {op : Operator} {pos : Pos} {ir : Ex} (h : comp (n + 1) Γ (.BinOp a op b pos) = some ir) : E3 X G (.BinOp a op b pos) ir := by
  refine .plain ?_ (fun _ => rfl) fun _ _ _ z => by cases z
  obtain ⟨o, h0, h⟩ := obind (show (binO op).bind _ = some ir from h)
  obtain ⟨a', h1, h⟩ := obind h
  obtain ⟨b', h2, h⟩ := obind h
  cases h
  exact PE.imp (pe_op (bin_or h0) (ih a a' h1).e (ih b b' h2).e) fun σ H Q q => tOp_of q
theorem e_neg {n : Nat} (ih : IH Γ G X n) {a : Expr} {pos : Pos} {ir : Ex} (h : comp (n + 1) Γ (.UnaryOp .USub a pos) = some ir) : E3 X G (.UnaryOp .USub a pos) ir := by
  refine .plain ?_ (fun _ => rfl) fun _ _ _ z => by cases z
  obtain ⟨a', h1, rfl⟩ := omap (show (comp n Γ a).map _ = some ir from h)
  exact PE.imp (pe_un un_negD (ih a a' h1).e) fun σ H Q q => tD_neg q
theorem e_not {n : Nat} (ih : IH Γ G X n) {a : Expr} {pos : Pos} {ir : Ex} (h : comp (n + 1) Γ (.UnaryOp .Not a pos) = some ir) : E3 X G (.UnaryOp .Not a pos) ir := by
  obtain ⟨a', h1, rfl⟩ := omap (show (comp n Γ a).map _ = some ir from h)
  exact ⟨PE.imp (pe_notT (ih a a' h1).e) fun σ H Q q => tD_not q, PT.imp (pt_not (ih a a' h1).t) fun σ H Q q => tB_not q, fun _ _ _ z => by cases z⟩
theorem e_bool {n : Nat} (ih : IH Γ G X n) {op : _} {vs : List Expr} {pos : Pos} {ir : Ex} (h : comp (n + 1) Γ (.BoolOp op vs pos) = some ir) : E3 X G (.BoolOp op vs pos) ir := by
  match op, vs, h with
  | .And, [], h => cases h
  | .Or, [], h => cases h
  | .And, [a], h => have := ih a ir h; exact ⟨pe_one this.e, (pw_and1 this.t).pt, fun _ _ _ _ => pw_and1 this.t⟩
  | .Or, [a], h => have := ih a ir h; exact ⟨pe_one this.e, (pw_or1 this.t).pt, fun _ _ _ _ => pw_or1 this.t⟩
  | .And, a :: b :: r, h =>
    obtain ⟨a', h1, h⟩ := obind (show (comp n Γ a).bind _ = some ir from h)
    obtain ⟨b', h2, h⟩ := obind h
    cases h
    have i1 := ih a a' h1
    have i2 := ih _ b' h2
    have w : PW X (.BoolOp .And (a :: b :: r) pos) (tB X.K G (.and a' b')) := PW.imp (pw_and i1.t (i2.w _ _ _ rfl)) fun σ H Q q => tB_and q
    exact ⟨PE.imp (pe_andT i1.e i2.e) fun σ H Q q => tD_and q, w.pt, fun _ _ _ _ => w⟩
  | .Or, a :: b :: r, h =>
    obtain ⟨a', h1, h⟩ := obind (show (comp n Γ a).bind _ = some ir from h)
    obtain ⟨b', h2, h⟩ := obind h
    cases h
    have i1 := ih a a' h1
    have i2 := ih _ b' h2
    have w : PW X (.BoolOp .Or (a :: b :: r) pos) (tB X.K G (.or a' b')) := PW.imp (pw_or i1.t (i2.w _ _ _ rfl)) fun σ H Q q => tB_or q
    exact ⟨PE.imp (pe_orT i1.e i2.e) fun σ H Q q => tD_or q, w.pt, fun _ _ _ _ => w⟩
theorem e_ife {n : Nat} (ih : IH Γ G X n) {c a b : Expr} {pos : Pos} {ir : Ex} (h : comp (n + 1) Γ (.IfExp c a b pos) = some ir) : E3 X G (.IfExp c a b pos) ir := by
  obtain ⟨c', h0, h⟩ := obind (show (comp n Γ c).bind _ = some ir from h)
  obtain ⟨a', h1, h⟩ := obind h
  obtain ⟨b', h2, h⟩ := obind h
  cases h
  exact ⟨PE.imp (pe_ifExp (ih c c' h0).t (ih a a' h1).e (ih b b' h2).e) fun σ H Q q => tD_ife q, PT.imp (pt_ife (ih c c' h0).t (ih a a' h1).t (ih b b' h2).t) fun σ H Q q => tB_ife q, fun _ _ _ z => by cases z⟩
theorem e_cmp (C : XOk Γ G m X) {n : Nat} (ih : IH Γ G X n) {a b : Expr} {op : CmpOp} {pos : Pos} {ir : Ex} (h : comp (n + 1) Γ (.Compare a [op] [b] pos) = some ir) : E3 X G (.Compare a [op] [b] pos) ir := by
  unfold comp at h
  dsimp only at h
  split at h
  · rename_i hn
    have hb : ∃ k p, b = .Constant .none k p := by
      unfold noneE at hn
      split at hn
      · exact ⟨_, _, rfl⟩
      · cases hn
    obtain ⟨k, p, rfl⟩ := hb
    cases op <;> try (cases h; done)
    · obtain ⟨a', h1, rfl⟩ := omap h
      exact ⟨PE.imp (pe_cmp (pc_isN (ih a a' h1).e)) fun σ H Q q => tD_isn q, PT.imp (pt_cmp (pc_isN (ih a a' h1).e)) fun σ H Q q => tTest_of q (op_bool fun ys rr e => by
        match ys, e with
        | [], e => cases e
        | [y], e => cases e; exact ⟨_, rfl⟩
        | _ :: _ :: _, e => cases e) fun Q' z => tD_isn z, fun _ _ _ z => by cases z⟩
    · obtain ⟨a', h1, rfl⟩ := omap h
      exact ⟨PE.imp (pe_cmp (pc_notN (ih a a' h1).e)) fun σ H Q q => tD_isnn q, PT.imp (pt_cmp (pc_notN (ih a a' h1).e)) fun σ H Q q => tTest_of q (op_bool fun ys rr e => by
        match ys, e with
        | [], e => cases e
        | [y], e => cases e; exact ⟨_, rfl⟩
        | _ :: _ :: _, e => cases e) fun Q' z => tD_isnn z, fun _ _ _ z => by cases z⟩
  · split at h
    · rename_i hm
      obtain ⟨o, h0, h⟩ := obind h
      obtain ⟨a', h1, h⟩ := obind h
      obtain ⟨b', h2, h⟩ := obind h
      cases h
      exact ⟨PE.imp (pe_cmpR (cmp_or C.un h0) (ih a a' h1).e (ih b b' h2).e hm) fun σ H Q q => tOp_of q,
        PT.imp (pt_cmpR (cmp_or C.un h0) (ih a a' h1).e (ih b b' h2).e hm) fun σ H Q q => tTest_of q (op_bool (cmp_bool h0)) fun Q' z => tOp_of z, fun _ _ _ z => by cases z⟩
    · cases h
theorem ch_bool {o o' : Op} {a b c : Ex} (h' : ∀ ys rr, o'.run ys = some rr → ∃ k, rr = .d (.bool k)) (f : F) (rv : RV) (f' : F) (h : evE G (.ch o o' a b c) f = .ok (rv, f')) : ∃ k, rv = .d (.bool k) := by
  unfold evE at h
  obtain ⟨⟨r1, f1⟩, e1, h⟩ := bind_ok h
  obtain ⟨⟨r2, f2⟩, e2, h⟩ := bind_ok h
  obtain ⟨rr, e3, h⟩ := bind_ok h
  dsimp only at h
  split at h
  · obtain ⟨⟨r3, f3⟩, e4, h⟩ := bind_ok h
    obtain ⟨rr2, e5, h⟩ := bind_ok h
    cases h
    obtain ⟨l, _, e6⟩ := obind (ofOpt_ok e5)
    obtain ⟨k, rfl⟩ := h' _ _ e6
    exact ⟨k, rfl⟩
  · cases h; exact ⟨_, rfl⟩
  · cases h
theorem e_ch (C : XOk Γ G m X) {n : Nat} (ih : IH Γ G X n) {a b c : Expr} {op op' : CmpOp} {pos : Pos} {ir : Ex} (h : comp (n + 1) Γ (.Compare a [op, op'] [b, c] pos) = some ir) : E3 X G (.Compare a [op, op'] [b, c] pos) ir := by
  unfold comp at h
  dsimp only at h
  split at h
  · rename_i hm
    obtain ⟨o, h0, h⟩ := obind h
    obtain ⟨o', h0', h⟩ := obind h
    obtain ⟨a', h1, h⟩ := obind h
    obtain ⟨b', h2, h⟩ := obind h
    obtain ⟨c', h3, h⟩ := obind h
    cases h
    exact ⟨PE.imp (pe_chain (cmp_or C.un h0) (cmp_or C.un h0') (ih a a' h1).e (ih b b' h2).e (ih c c' h3).e hm) fun σ H Q q => tD_ch q,
      PT.imp (pt_chain (cmp_or C.un h0) (cmp_or C.un h0') (ih a a' h1).e (ih b b' h2).e (ih c c' h3).e hm) fun σ H Q q => tTest_of q (ch_bool (cmp_bool h0')) fun Q' z => tD_ch z, fun _ _ _ z => by cases z⟩
  · cases h
theorem chn_len : ∀ {es : List Ex} {f f' : F} {rvs : List RV}, evEs G es f = .ok (rvs, f') → rvs.length = es.length
  | [], _, _, _, h => by unfold evEs at h; cases h; rfl
  | e :: es, _, _, _, h => by
    unfold evEs at h
    obtain ⟨⟨r1, f1⟩, e1, h⟩ := bind_ok h
    obtain ⟨⟨r2, f2⟩, e2, h⟩ := bind_ok h
    cases h
    exact congrArg (· + 1) (chn_len e2)
theorem RVRs.len {K : PySem.W.Frag} {L A : ASet} {as : List Addr} {σ : L2.St} {H : Hp} : ∀ {rvs : List RV} {vs : List V}, RVRs K L A as σ H rvs vs → vs.length = rvs.length
  | [], _, h => by rw [show _ = [] from h]; rfl
  | _ :: _, _, ⟨v, ws, e, _, h⟩ => by rw [e]; exact congrArg (· + 1) h.len
theorem tCall_of {K : PySem.W.Frag} {mg : Str → Option Value} {σ : L2.St} {H : Hp} {g n : Nat} {es : List Ex} {Q : VK} {E : XK} (hn : es.length = n) (h : tD K G (.call g es) σ H Q) : tDs K G es σ H fun vs H1 => spG K mg n (G g) vs H1 Q E := by
  obtain ⟨A, as, f, rv, f', R, he, hQ⟩ := h
  unfold evE at he
  obtain ⟨⟨rs, f1⟩, e1, he⟩ := bind_ok he
  refine ⟨A, as, f, rs, f1, R, e1, fun vs H1 p => call_ok p he ?_ hQ⟩
  obtain ⟨A', _, _, r, _⟩ := p
  rw [r.len, chn_len e1, hn]
/-- a call that may let an exception out, by data; W: where it goes -/
def tDX (K : PySem.W.Frag) (mg : Str → Option Value) (W : WX) (G : Call) (e : Ex) : TE := fun σ H Q => ∃ A as f rr f', Rel K A as f σ H ∧ evX G e f = .ok (rr, f') ∧ ∀ v H', Post K A as f σ H rr.rv f' v H' → endC mg Q (fun cls d H2 => W cls d σ H2) rr v H'
theorem tCallX_of {K : PySem.W.Frag} {mg : Str → Option Value} {W : WX} {σ : L2.St} {H : Hp} {g n : Nat} {es : List Ex} {Q : VK} (hn : es.length = n) (h : tDX K mg W G (.call g es) σ H Q) : tDs K G es σ H fun vs H1 => spG K mg n (G g) vs H1 Q fun cls d H2 => W cls d σ H2 := by
  obtain ⟨A, as, f, rr, f', R, he, hQ⟩ := h
  unfold evX at he
  obtain ⟨⟨rs, f1⟩, e1, he⟩ := bind_ok he
  refine ⟨A, as, f, rs, f1, R, e1, fun vs H1 p => call_okX p he ?_ hQ⟩
  obtain ⟨A', _, _, r, _⟩ := p
  rw [r.len, chn_len e1, hn]
theorem e_defX {W : WX} (C : XOk Γ G m X) {n : Nat} (ih : IH Γ G X n) {x : Str} {p pos : Pos} {es : List Expr} {g : Nat} {ps : List Str} {es' : List Ex} (tk : Takes X W) (ok : okName x = true) (hg : Γ.gl x = true) (hd : defOf Γ.defs x 0 = some (g, ps)) (hes : mapO (comp n Γ) es = some es') (hl : es.length = ps.length) (hkw : Γ.kwo.contains x = false) :
    PE X (.Call (.Name x p) es [] pos) (tDX X.K X.mg W G (.call g es')) := by
  obtain ⟨o1, o2, o3⟩ := okName_ne ok
  obtain ⟨f, fd, h1, h2, h3, _, h4⟩ := C.df x g ps hd
  have hl' : es'.length = ps.length := (mapO_len hes).trans hl
  cases es with
  | nil =>
    cases hes
    exact PE.imp (pe_callX0 h4 C.room C.gd tk (gl_of C hg) h1 h2 (h3 hkw) o1) fun σ H Q q => tDs_nil (tCallX_of hl' q)
  | cons e es =>
    obtain ⟨b, t, q1, q2, rfl⟩ := mapO_cons hes
    exact PE.imp (pe_callX h4 C.room C.gd tk (gl_of C hg) h1 h2 (h3 hkw) (comps_pa ih.pe hes) o1 (comp_star q1 es X.env) (mapO_plain q2)) fun σ H Q q => tCallX_of hl' q
theorem e_def (C : XOk Γ G m X) {n : Nat} (ih : IH Γ G X n) {x : Str} {p pos : Pos} {es : List Expr} {g : Nat} {ps : List Str} {es' : List Ex} (ok : okName x = true) (hg : Γ.gl x = true) (hd : defOf Γ.defs x 0 = some (g, ps)) (hes : mapO (comp n Γ) es = some es') (hl : es.length = ps.length) (hkw : Γ.kwo.contains x = false) :
    E3 X G (.Call (.Name x p) es [] pos) (.call g es') := by
  refine .plain ?_ (fun _ => rfl) fun _ _ _ z => by cases z
  obtain ⟨o1, o2, o3⟩ := okName_ne ok
  obtain ⟨f, fd, h1, h2, h3, _, h4⟩ := C.df x g ps hd
  have hl' : es'.length = ps.length := (mapO_len hes).trans hl
  cases es with
  | nil =>
    cases hes
    exact PE.imp (pe_callG0 h4 C.room C.gd (gl_of C hg) h1 h2 (h3 hkw) o1) fun σ H Q q => tDs_nil (tCall_of hl' q)
  | cons e es =>
    obtain ⟨b, t, q1, q2, rfl⟩ := mapO_cons hes
    exact PE.imp (pe_callG h4 C.room C.gd (gl_of C hg) h1 h2 (h3 hkw) (comps_pa ih.pe hes) o1 (comp_star q1 es X.env) (mapO_plain q2)) fun σ H Q q => tCall_of hl' q
theorem gl_name {Γ : Gam} {x : Str} (h : Γ.bs.contains x = true) : True := trivial
theorem e_bi (C : XOk Γ G m X) {n : Nat} (ih : IH Γ G X n) {x : Str} {p pos : Pos} {es : List Expr} {o : Op} {es' : List Ex} (ok : okName x = true) (hg : Γ.gl x = true) (hb : Γ.bs.contains x = true) (ho : Γ.biO x es.length = some o) (hes : mapO (comp n Γ) es = some es') :
    E3 X G (.Call (.Name x p) es [] pos) (.op o es') := by
  refine .plain ?_ (fun _ => rfl) fun _ _ _ z => by cases z
  obtain ⟨o1, o2, o3⟩ := okName_ne ok
  cases es with
  | nil =>
    unfold Gam.biO at ho
    split at ho
    · rename_i z; exact absurd z.2.2 (by simp)
    · cases ho
  | cons e es =>
    obtain ⟨b, t, q1, q2, rfl⟩ := mapO_cons hes
    rcases bi_ok C.calm C.un C.gd ho with ⟨id, h1, h2⟩ | ⟨T, h1, h2⟩
    · exact PE.imp (pe_callB h2 (gl_of C hg) (C.bs x hb) h1 (comps_pa ih.pe hes) o3 o1 (comp_star q1 es X.env) (mapO_plain q2)) fun σ H Q q => tCB_of q
    · exact PE.imp (pe_callTy h2 (gl_of C hg) (C.bs x hb) h1 (comps_pa ih.pe hes) o3 o1 (comp_star q1 es X.env) (mapO_plain q2)) fun σ H Q q => tCB_of q
theorem e_tup {n : Nat} (ih : IH Γ G X n) {es : List Expr} {k : _} {pos : Pos} {es' : List Ex} (hes : mapO (comp n Γ) es = some es') : E3 X G (.Tuple es k pos) (.tup es') := by
  refine .plain ?_ (fun _ => rfl) fun _ _ _ z => by cases z
  exact PE.imp (pe_tup (comps_pa ih.pe hes)) fun σ H Q q => tD_tup q
theorem e_lst {n : Nat} (ih : IH Γ G X n) {es : List Expr} {pos : Pos} {es' : List Ex} (hes : mapO (comp n Γ) es = some es') : E3 X G (.List es pos) (.lst es') := by
  refine .plain ?_ (fun _ => rfl) fun _ _ _ z => by cases z
  exact PE.imp (pe_lst (comps_pa ih.pe hes)) fun σ H Q q => tD_lst q
theorem tyN_ok {t : Str} {T : String} (h : tyName t = some T) : bootBuiltins t = some (.type T) := by
  unfold tyName at h
  split at h
  · cases h; subst_vars; decide +kernel
  split at h
  · cases h; subst_vars; decide +kernel
  split at h
  · cases h; subst_vars; decide +kernel
  split at h
  · cases h; subst_vars; decide +kernel
  split at h
  · cases h; subst_vars; decide +kernel
  split at h
  · cases h; subst_vars; decide +kernel
  · cases h
theorem cr_isI {t : String} : CallR X (.builtin "isinstance") (fun vs H Q => ∃ x, vs = [x, .ty t] ∧ OpQ X.K (.isI t) [x] H Q) := by
  intro pins s σ H vs us Q I r h
  obtain ⟨x, rfl, L, ys, rr, rd, e, q⟩ := h
  obtain ⟨a, rfl, ha⟩ := rd1s1 rd
  exact isI_run (xs := [x]) I r ha e q
theorem e_isI (C : XOk Γ G m X) {n : Nat} (ih : IH Γ G X n) {t : Str} {p p2 pos : Pos} {a : Expr} {a' : Ex} {T : String} (hg : Γ.gl "isinstance" = true) (hb : Γ.bs.contains "isinstance" = true) (ok : okName t = true) (hgt : Γ.gl t = true) (hbt : Γ.bs.contains t = true) (ht : tyName t = some T) (ha : comp n Γ a = some a') :
    E3 X G (.Call (.Name "isinstance" p) [a, .Name t p2] [] pos) (.op (.isI T) [a']) := by
  refine .plain ?_ (fun _ => rfl) fun _ _ _ z => by cases z
  obtain ⟨o1, o2, o3⟩ := okName_ne ok
  have h2 : PE X (.Name t p2) (tC (.ty T)) := pe_bltn (gl_of C hgt) (C.bs t hbt) (tyN_ok ht) rfl o3 o1
  refine PE.imp (pe_callB (cr_isI (t := T)) (gl_of C hg) (C.bs _ hb) (by decide +kernel) (pa_cons (ih a a' ha).e (pa_cons h2 pa_nil rfl) (comp_star ha _ _)) (by decide) (by decide) (comp_star ha _ _) rfl) fun σ H Q q => ?_
  exact tD.mono (tDs_one (tD_op q)) fun x H1 q1 => ⟨x, rfl, q1⟩
end
end Vm
set_option maxRecDepth 100000
set_option maxHeartbeats 400000
namespace Vm
open PySem PySem.Spec L2
section
variable {X : Cx} {Γ : Gam} {G : Call} {m : Nat}
theorem nope {ir : Ex} {α : Prop} (h : none = some ir) : α := by cases h
theorem plainIx_of {n : Nat} {i : Expr} {ir : Ex} (h : comp n Γ i = some ir) : PlainIx i := by
  cases n with
  | zero => cases h
  | succ n =>
    intro o j
    cases i
    case Slice => exact nope h
    all_goals rfl
theorem e_ix {n : Nat} (ih : IH Γ G X n) {a i : Expr} {pos : Pos} {a' i' : Ex} (h1 : comp n Γ a = some a') (h2 : comp n Γ i = some i') : E3 X G (.Subscript a i pos) (.op .item [a', i']) := by
  refine .plain ?_ (fun _ => rfl) fun _ _ _ z => by cases z
  exact PE.imp (pe_ix ixr_item (ih a a' h1).e (ih i i' h2).e (plainIx_of h2)) fun σ H Q q => tOp_of q
theorem e_s00 {n : Nat} (ih : IH Γ G X n) {a : Expr} {p2 pos : Pos} {a' : Ex} (h1 : comp n Γ a = some a') : E3 X G (.Subscript a (.Slice none none none p2) pos) (.op (.slice false false) [a']) := by
  refine .plain ?_ (fun _ => rfl) fun _ _ _ z => by cases z
  exact PE.imp (pe_slice slr_slice (ih a a' h1).e po_none po_none) fun σ H Q q => tSl_00 q
theorem e_s01 {n : Nat} (ih : IH Γ G X n) {a u : Expr} {p2 pos : Pos} {a' u' : Ex} (h1 : comp n Γ a = some a') (h2 : comp n Γ u = some u') : E3 X G (.Subscript a (.Slice none (some u) none p2) pos) (.op (.slice false true) [a', u']) := by
  refine .plain ?_ (fun _ => rfl) fun _ _ _ z => by cases z
  exact PE.imp (pe_slice slr_slice (ih a a' h1).e po_none (po_some (ih u u' h2).e)) fun σ H Q q => tSl_01 q
theorem e_s10 {n : Nat} (ih : IH Γ G X n) {a u : Expr} {p2 pos : Pos} {a' u' : Ex} (h1 : comp n Γ a = some a') (h2 : comp n Γ u = some u') : E3 X G (.Subscript a (.Slice (some u) none none p2) pos) (.op (.slice true false) [a', u']) := by
  refine .plain ?_ (fun _ => rfl) fun _ _ _ z => by cases z
  exact PE.imp (pe_slice slr_slice (ih a a' h1).e (po_some (ih u u' h2).e) po_none) fun σ H Q q => tSl_10 q
theorem e_s11 {n : Nat} (ih : IH Γ G X n) {a u w : Expr} {p2 pos : Pos} {a' u' w' : Ex} (h1 : comp n Γ a = some a') (h2 : comp n Γ u = some u') (h3 : comp n Γ w = some w') : E3 X G (.Subscript a (.Slice (some u) (some w) none p2) pos) (.sl2 a' u' w') := by
  refine .plain ?_ (fun _ => rfl) fun _ _ _ z => by cases z
  exact PE.imp (pe_slice slr_slice (ih a a' h1).e (po_some (ih u u' h2).e) (po_some (ih w w' h3).e)) fun σ H Q q => tSl_11 q
theorem m1_ok {st : Expr} (h : m1E st = true) : ∃ k p1 p2, st = .UnaryOp .USub (.Constant (.int 1) k p1) p2 := by
  unfold m1E at h
  split at h
  · have := of_decide_eq_true h
    subst this
    exact ⟨_, _, _, rfl⟩
  · cases h
theorem e_sub {n : Nat} (ih : IH Γ G X n) {a i : Expr} {pos : Pos} {ir : Ex} (hr : ∀ e' k p1 p2 p3 a' , comp n Γ e' = some a' → E3 X G (.Subscript e' (.Slice none none (some (.UnaryOp .USub (.Constant (.int 1) k p1) p2)) p3) pos) (.op .rev [a']))
    (h : comp (n + 1) Γ (.Subscript a i pos) = some ir) : E3 X G (.Subscript a i pos) ir := by
  by_cases hs : ∃ lo hi st p, i = .Slice lo hi st p
  · obtain ⟨lo, hi, st, p, rfl⟩ := hs
    cases st with
    | none =>
      cases lo with
      | none =>
        cases hi with
        | none =>
          obtain ⟨a', h1, h⟩ := obind (show (comp n Γ a).bind _ = some ir from h)
          cases h
          exact e_s00 ih h1
        | some u =>
          obtain ⟨a', h1, h⟩ := obind (show (comp n Γ a).bind _ = some ir from h)
          obtain ⟨u', h2, h⟩ := obind h
          cases h
          exact e_s01 ih h1 h2
      | some l =>
        cases hi with
        | none =>
          obtain ⟨a', h1, h⟩ := obind (show (comp n Γ a).bind _ = some ir from h)
          obtain ⟨u', h2, h⟩ := obind h
          cases h
          exact e_s10 ih h1 h2
        | some u =>
          obtain ⟨a', h1, h⟩ := obind (show (comp n Γ a).bind _ = some ir from h)
          obtain ⟨l', h2, h⟩ := obind h
          obtain ⟨u', h3, h⟩ := obind h
          cases h
          exact e_s11 ih h1 h2 h3
    | some st =>
      cases lo with
      | some l => cases hi <;> exact nope h
      | none =>
        cases hi with
        | some u => exact nope h
        | none =>
          replace h : (if m1E st = true then (comp n Γ a).bind fun a => some (.op .rev [a]) else none) = some ir := h
          split at h
          · rename_i h1
            obtain ⟨k, p1, p2, rfl⟩ := m1_ok h1
            obtain ⟨a', h1, h⟩ := obind h
            cases h
            exact hr _ _ _ _ _ _ h1
          · exact nope h
  · have h : (comp n Γ a).bind (fun a => (comp n Γ i).bind fun i => some (.op .item [a, i])) = some ir := by
      cases i
      case Slice => exact absurd ⟨_, _, _, _, rfl⟩ hs
      all_goals exact h
    obtain ⟨a', h1, h⟩ := obind h
    obtain ⟨i', h2, h⟩ := obind h
    cases h
    exact e_ix ih h1 h2
end
end Vm
set_option maxRecDepth 100000
set_option maxHeartbeats 1000000
namespace Vm
open PySem PySem.Spec L2
/-! ### targets -/
section
variable (K : PySem.W.Frag) (A : ASet) (as : List Addr) (f : F) (σ : L2.St) (H : Hp)
/-- behind a binding -/
def BndPost (ρ' : List LV) (is : List Nat) (σ' : L2.St) : Prop :=
  Rel K A as { f with ρ := ρ' } σ' H ∧ Ext (Lv A f as σ) H (Lv A { f with ρ := ρ' } as σ') H ∧ σ'.length = σ.length ∧ ∀ j, j ∉ is → σ'[j]? = σ[j]?
end
def tG (K : PySem.W.Frag) (t : Tg) : TG := fun v σ H Q => ∃ A as f d ρ', Rel K A as f σ H ∧ Rd K (Lv A f as σ) H d v ∧ bindT t d f.ρ = some ρ' ∧ ∀ σ', BndPost K A as f σ H ρ' (tgI t) σ' → Q σ' H
def tGs (K : PySem.W.Frag) (ts : List Tg) : TGs := fun vs σ H Q => ∃ A as f ds ρ', Rel K A as f σ H ∧ RdA K (Lv A f as σ) H ds vs ∧ bindTs ts ds f.ρ = some ρ' ∧ ∀ σ', BndPost K A as f σ H ρ' (tgIs ts) σ' → Q σ' H
theorem PG.imp {X : Cx} {e : Expr} {t t' : TG} (h : PG X e t) (i : ∀ v σ H Q, t' v σ H Q → t v σ H Q) : PG X e t' := ⟨fun pins s σ H v u Q I r q => h.run pins s σ H v u Q I r (i v σ H Q q)⟩
theorem PGs.imp {X : Cx} {e : List Expr} {t t' : TGs} (h : PGs X e t) (i : ∀ v σ H Q, t' v σ H Q → t v σ H Q) : PGs X e t' := ⟨fun pins s σ H v u Q I r q => h.run pins s σ H v u Q I r (i v σ H Q q)⟩
section
variable {K : PySem.W.Frag} {A : ASet} {as : List Addr} {f : F} {σ : L2.St} {H : Hp}
theorem set_ge {α : Type} {l : List α} {i : Nat} {x : α} (h : l.length ≤ i) : l.set i x = l := by
  induction l generalizing i with
  | nil => rfl
  | cons a r ih => cases i with
    | zero => simp at h
    | succ i => simp only [List.set_cons_succ]; rw [ih (by simpa using h)]
theorem bnd_nameP {i : Nat} {d : D} {v : V} (R : Rel K A as f σ H) (h : RdP K (Lv A f as σ) H d v) : BndPost K A as f σ H (f.ρ.set i (.d d)) [i] (σ.set i (some v)) := by
  have oth : ∀ j, j ∉ [i] → (σ.set i (some v))[j]? = σ[j]? := fun j hj => List.getElem?_set_ne (fun z => hj (by rw [z]; exact List.mem_singleton_self _))
  by_cases hi : i < f.ρ.length
  · obtain ⟨R', x⟩ := R.setSlot (σ' := σ.set i (some v)) (H' := H) (l := .d d) hi (fun j hj => List.getElem?_set_ne (Ne.symm hj)) (by simp) (fun a z => z) (fun _ _ _ => rfl) (fun a o e _ => e) R.al
      ⟨v, by rw [List.getElem?_set_self (by rw [R.lenσ]; exact hi)], h.ext (Ext.less fun a z => z.1)⟩
    exact ⟨R', x, by simp, oth⟩
  · have e1 : f.ρ.set i (.d d) = f.ρ := set_ge (by omega)
    have e2 : σ.set i (some v) = σ := set_ge (by rw [R.lenσ]; omega)
    rw [e1, e2]
    exact ⟨R, Ext.refl, rfl, fun _ _ => rfl⟩
theorem bnd_name {i : Nat} {d : D} {v : V} (R : Rel K A as f σ H) (h : Rd K (Lv A f as σ) H d v) : BndPost K A as f σ H (f.ρ.set i (.d d)) [i] (σ.set i (some v)) := bnd_nameP R (.inl h)
theorem BndPost.trans {ρ1 ρ2 : List LV} {is js : List Nat} {σ1 σ2 : L2.St} (a : BndPost K A as f σ H ρ1 is σ1) (b : BndPost K A as { f with ρ := ρ1 } σ1 H ρ2 js σ2) : BndPost K A as f σ H ρ2 (is ++ js) σ2 :=
  ⟨b.1, a.2.1.trans b.2.1, b.2.2.1.trans a.2.2.1, fun j hj => (b.2.2.2 j fun z => hj (List.mem_append_right _ z)).trans (a.2.2.2 j fun z => hj (List.mem_append_left _ z))⟩
end
theorem assignEach_len : ∀ (ts : List Expr) (env : Env), (assignEach ts env).length = ts.length
  | [], _ => rfl
  | t :: ts, env => by
    cases t <;> exact congrArg (· + 1) (assignEach_len ts env)
section
variable {X : Cx} {Γ : Gam}
theorem tgs_cons {t : Expr} {ts : List Expr} {l : List Tg} (h : tgCs Γ (t :: ts) = some l) : ∃ a r, tgC Γ t = some a ∧ tgCs Γ ts = some r ∧ l = a :: r := by
  unfold tgCs at h
  obtain ⟨a, h1, h⟩ := obind h
  obtain ⟨r, h2, h⟩ := obind h
  cases h
  exact ⟨a, r, h1, h2, rfl⟩
theorem tgs_len : ∀ {ts : List Expr} {l : List Tg}, tgCs Γ ts = some l → l.length = ts.length
  | [], _, h => by unfold tgCs at h; cases h; rfl
  | t :: ts, _, h => by
    obtain ⟨a, r, _, h2, rfl⟩ := tgs_cons h
    exact congrArg (· + 1) (tgs_len h2)
theorem tgC_star {t : Expr} {a : Tg} (h : tgC Γ t = some a) (ts : List Expr) (env : Env) : assignEach (t :: ts) env = (false, assign t env) :: assignEach ts env := by
  cases t
  case Starred => unfold tgC at h; cases h
  all_goals rfl
theorem tgs_nostar : ∀ {ts : List Expr} {l : List Tg} {env : Env}, tgCs Γ ts = some l → (assignEach ts env).findIdx? (·.1) = none
  | [], _, _, _ => rfl
  | t :: ts, _, env, h => by
    obtain ⟨a, r, h1, h2, rfl⟩ := tgs_cons h
    rw [tgC_star h1, List.findIdx?_cons, tgs_nostar h2]; rfl
theorem Rd.tupS {K : PySem.W.Frag} {L : ASet} {H : Hp} {ds : List D} {v : V} (h : Rd K L H (.tuple ds) v) : ∃ a vs, v = .ref a ∧ SqT K H a vs ∧ RdA K L H ds vs := by
  unfold Rd at h
  obtain ⟨a, vs, e, s, r⟩ := h
  exact ⟨a, vs, e, s.sq, r⟩
theorem bindTs_len : ∀ {ts : List Tg} {ds : List D} {ρ ρ' : List LV}, bindTs ts ds ρ = some ρ' → ds.length = ts.length
  | [], [], _, _, _ => rfl
  | [], _ :: _, _, _, h => by cases h
  | _ :: _, [], _, _, h => by cases h
  | t :: ts, d :: ds, _, _, h => by
    unfold bindTs at h
    obtain ⟨ρ1, _, h⟩ := obind h
    exact congrArg (· + 1) (bindTs_len h)
theorem st_ok (hs : X.env.scope = Γ.sc) (hf : ∀ x, Γ.fn x = true → X.fn x = true) {x : Str} (h : Γ.st x = true) : L2.Loc X.env.scope x ∧ (X.fn x = true ∨ X.env.scope.names.lookup x = some .local) := by
  unfold Gam.st at h
  rw [hs]
  split at h
  · exact ⟨.inl (by assumption), .inr (by assumption)⟩
  · exact ⟨.inr (by assumption), .inl (hf x h)⟩
  · cases h
mutual
theorem pg_tg (hN : X.N = Γ.N) (nd : X.N.Nodup) (hs : X.env.scope = Γ.sc) (hc : X.calm = true) (hf : ∀ x, Γ.fn x = true → X.fn x = true) : ∀ (t : Expr) (a : Tg), tgC Γ t = some a → PG X t (tG X.K a)
  | .Name x pos, a, h => by
    unfold tgC at h
    split at h
    · rename_i hc
      obtain ⟨i, h1, rfl⟩ := omap h
      simp only [Bool.and_eq_true] at hc
      obtain ⟨hl, hl2⟩ := st_ok hs hf hc.1
      refine PG.imp (pg_name nd (by rw [hN]; exact ixOf0 h1) hl hl2) fun v σ H Q q => ?_
      obtain ⟨A, as, f, d, ρ', R, r, e, q⟩ := q
      cases e
      exact q _ (bnd_name R r)
    · cases h
  | .Tuple ts k pos, a, h => by
    obtain ⟨l, h1, rfl⟩ := omap (show (tgCs Γ ts).map Tg.tup = some a from h)
    refine PG.imp (pg_tup (n := ts.length) hc (pgs_tg hN nd hs hc hf ts l h1) (assignEach_len ts _) (tgs_nostar h1)) fun v σ H Q q => ?_
    obtain ⟨A, as, f, d, ρ', R, r, e, q⟩ := q
    cases d <;> try (cases e; done)
    rename_i ds
    obtain ⟨a, vs, ev, sq, rd⟩ := r.tupS
    exact ⟨a, vs, ev, sq, by rw [rd.len, ← tgs_len h1]; exact bindTs_len e, A, as, f, ds, ρ', R, rd, e, q⟩
  | .Starred .., a, h => by unfold tgC at h; cases h
  | .Constant .., a, h => by unfold tgC at h; cases h
  | .BoolOp .., a, h => by unfold tgC at h; cases h
  | .NamedExpr .., a, h => by unfold tgC at h; cases h
  | .BinOp .., a, h => by unfold tgC at h; cases h
  | .UnaryOp .., a, h => by unfold tgC at h; cases h
  | .Lambda .., a, h => by unfold tgC at h; cases h
  | .IfExp .., a, h => by unfold tgC at h; cases h
  | .Dict .., a, h => by unfold tgC at h; cases h
  | .Set .., a, h => by unfold tgC at h; cases h
  | .ListComp .., a, h => by unfold tgC at h; cases h
  | .SetComp .., a, h => by unfold tgC at h; cases h
  | .DictComp .., a, h => by unfold tgC at h; cases h
  | .GeneratorExp .., a, h => by unfold tgC at h; cases h
  | .Await .., a, h => by unfold tgC at h; cases h
  | .Yield .., a, h => by unfold tgC at h; cases h
  | .YieldFrom .., a, h => by unfold tgC at h; cases h
  | .Compare .., a, h => by unfold tgC at h; cases h
  | .Call .., a, h => by unfold tgC at h; cases h
  | .FormattedValue .., a, h => by unfold tgC at h; cases h
  | .JoinedStr .., a, h => by unfold tgC at h; cases h
  | .Attribute .., a, h => by unfold tgC at h; cases h
  | .Subscript .., a, h => by unfold tgC at h; cases h
  | .List .., a, h => by unfold tgC at h; cases h
  | .Slice .., a, h => by unfold tgC at h; cases h
theorem pgs_tg (hN : X.N = Γ.N) (nd : X.N.Nodup) (hs : X.env.scope = Γ.sc) (hc : X.calm = true) (hf : ∀ x, Γ.fn x = true → X.fn x = true) : ∀ (ts : List Expr) (l : List Tg), tgCs Γ ts = some l → PGs X ts (tGs X.K l)
  | [], l, h => by
    unfold tgCs at h
    cases h
    refine PGs.imp pgs_nil fun vs σ H Q q => ?_
    obtain ⟨A, as, f, ds, ρ', R, r, e, q⟩ := q
    cases ds with
    | nil => cases e; exact ⟨r, q σ ⟨R, Ext.refl, rfl, fun _ _ => rfl⟩⟩
    | cons _ _ => cases e
  | t :: ts, l, h => by
    obtain ⟨a, r, h1, h2, rfl⟩ := tgs_cons h
    refine PGs.imp (pgs_cons (pg_tg hN nd hs hc hf t a h1) (pgs_tg hN nd hs hc hf ts r h2) (by rw [tgC_star h1 ts X.env]; rfl)) fun vs σ H Q q => ?_
    obtain ⟨A, as, f, ds, ρ', R, rd, e, q⟩ := q
    cases ds with
    | nil => cases e
    | cons d ds =>
      unfold bindTs at e
      obtain ⟨ρ1, e1, e2⟩ := obind e
      obtain ⟨v, ws, ev, r1, r2⟩ := rd
      refine ⟨v, ws, ev, A, as, f, d, ρ1, R, r1, e1, fun σ1 p1 => ?_⟩
      exact ⟨A, as, _, ds, ρ', p1.1, r2.ext p1.2.1, e2, fun σ2 p2 => q σ2 (p1.trans p2)⟩
end
end
end Vm
set_option maxRecDepth 100000
set_option maxHeartbeats 1000000
namespace Vm
open PySem PySem.Spec L2
/-! ### what is gone over -/
/-- an iterator that gives these data, whatever happens elsewhere -/
def ItOk (K : PySem.W.Frag) (L : ASet) (H : Hp) (J : L2.It) (ds : List D) : Prop := ∀ (L' : ASet) (H' : Hp), Ext L H L' H' →
  J.stop ds.length H' ∧ ∀ i d, ds[i]? = some d → J.go i H' ∧ ∀ x H'', J.yld i H' x H'' → OpPost K L' H' (.d d) x H'' ∧ norm d = d
theorem ItOk.ext {K : PySem.W.Frag} {L L' : ASet} {H H' : Hp} {J : L2.It} {ds : List D} (h : ItOk K L H J ds) (x : Ext L H L' H') : ItOk K L' H' J ds := fun L2 H2 y => h L2 H2 (x.trans y)
def tI (K : PySem.W.Frag) (G : Call) (it : It) : TI := fun σ H R => ∃ A as f ds f', Rel K A as f σ H ∧ evI G it f = .ok (ds, f') ∧ ∀ J H', PostN K A as f σ H f' H' → ItOk K (Lv A f' as σ) H' J ds → R J H'
theorem PI.imp {X : Cx} {tg e : Expr} {t t' : TI} (h : PI X tg e t) (i : ∀ σ H R, t' σ H R → t σ H R) : PI X tg e t' := ⟨fun pins s σ H R I q => h.run pins s σ H R I (i σ H R q)⟩
theorem PI.or {X : Cx} {tg e : Expr} {t t' : TI} (h : PI X tg e t) (h' : PI X tg e t') : PI X tg e (fun σ H R => t σ H R ∨ t' σ H R) := ⟨fun pins s σ H R I q => q.elim (h.run pins s σ H R I) (h'.run pins s σ H R I)⟩
section
variable {K : PySem.W.Frag} {L : ASet} {H : Hp}
theorem it_list {a : Addr} {vs : List V} {ds : List D} (s : SL K L H a vs) (r : RdA K L H ds vs) : ItOk K L H (Itl K a) ds := by
  intro L' H' x
  have s' : SL K L' H' a vs := s.ext x
  have r' := r.ext x
  refine ⟨⟨vs, s'.sq, by rw [r.len]; exact Nat.le_refl _⟩, fun i d hd => ?_⟩
  obtain ⟨v, h1, h2⟩ := r'.get hd
  refine ⟨⟨vs, v, s'.sq, h1⟩, fun y H'' hy => ?_⟩
  obtain ⟨rfl, hy⟩ := hy
  have := hy vs s'.sq
  rw [h1] at this; cases this
  exact ⟨.inl ⟨rfl, h2⟩, h2.norm⟩
theorem it_tup {a : Addr} {vs : List V} {ds : List D} (s : ST K L H a vs) (r : RdA K L H ds vs) : ItOk K L H (Itt K a) ds := by
  intro L' H' x
  have s' : ST K L' H' a vs := s.ext x
  have r' := r.ext x
  refine ⟨⟨vs, s'.sq, by rw [r.len]; exact Nat.le_refl _⟩, fun i d hd => ?_⟩
  obtain ⟨v, h1, h2⟩ := r'.get hd
  refine ⟨⟨vs, v, s'.sq, h1⟩, fun y H'' hy => ?_⟩
  obtain ⟨rfl, hy⟩ := hy
  have := hy vs s'.sq
  rw [h1] at this; cases this
  exact ⟨.inl ⟨rfl, h2⟩, h2.norm⟩
theorem it_str {x : Str} : ItOk K L H (L2.Its x) (signs x) := by
  intro L' H' _
  refine ⟨?_, fun i d hd => ?_⟩
  · have : (signs x).length = x.cps.size := by simp [signs]
    rw [this]; exact Nat.le_refl _
  · unfold signs at hd
    rw [List.getElem?_map] at hd
    obtain ⟨c, hc, rfl⟩ := omap hd
    have hc' : x.cps[i]? = some c := by rw [← Array.getElem?_toList]; exact hc
    refine ⟨(Array.getElem?_eq_some_iff.mp hc').1, fun y H'' hy => ?_⟩
    obtain ⟨rfl, c', h1, rfl⟩ := hy
    rw [hc'] at h1; cases h1
    exact ⟨.inl ⟨rfl, rd_str⟩, rfl⟩
theorem it_rng {lo hi : Int} : ItOk K L H (Itr lo (hi - lo).toNat) (rangeL lo hi) := by
  intro L' H' _
  have hlen : (rangeL lo hi).length = (hi - lo).toNat := by simp [rangeL]
  refine ⟨by show (hi - lo).toNat ≤ _; omega, fun i d hd => ?_⟩
  unfold rangeL at hd
  rw [List.getElem?_map] at hd
  obtain ⟨c, hc, rfl⟩ := omap hd
  obtain ⟨h1, h2⟩ := List.getElem?_eq_some_iff.mp hc
  simp at h1 h2
  subst h2
  refine ⟨by show i < (hi - lo).toNat; omega, fun y H'' hy => ?_⟩
  obtain ⟨rfl, rfl⟩ := hy
  exact ⟨.inl ⟨rfl, rd_int⟩, rfl⟩
theorem it_rngD {lo hi : Int} : ItOk K L H (Itc lo (-1) (lo - hi).toNat) (rangeD lo hi) := by
  intro L' H' _
  have hlen : (rangeD lo hi).length = (lo - hi).toNat := by simp [rangeD]
  refine ⟨by show (lo - hi).toNat ≤ _; omega, fun i d hd => ?_⟩
  unfold rangeD at hd
  rw [List.getElem?_map] at hd
  obtain ⟨c, hc, rfl⟩ := omap hd
  obtain ⟨h1, h2⟩ := List.getElem?_eq_some_iff.mp hc
  simp at h1 h2
  subst h2
  refine ⟨by show i < (lo - hi).toNat; omega, fun y H'' hy => ?_⟩
  obtain ⟨rfl, rfl⟩ := hy
  have e : lo + (i : Int) * (-1) = lo - (i : Int) := by omega
  rw [e]
  exact ⟨.inl ⟨rfl, rd_int⟩, rfl⟩
theorem enumL_get : ∀ {ds : List D} {n i : Nat} {e : D}, (enumL n ds)[i]? = some e → ∃ d, ds[i]? = some d ∧ e = .tuple [.int ((n + i : Nat) : Int), d]
  | [], _, _, _, h => by simp [enumL] at h
  | d :: r, n, 0, _, h => by simp [enumL] at h; exact ⟨d, rfl, by simpa using h.symm⟩
  | d :: r, n, i + 1, e, h => by
    have h : (enumL (n + 1) r)[i]? = some e := by simpa [enumL] using h
    obtain ⟨x, h1, h2⟩ := enumL_get h
    refine ⟨x, by simpa using h1, ?_⟩
    rw [h2, show n + 1 + i = n + (i + 1) by omega]
theorem enumL_len : ∀ (ds : List D) (n : Nat), (enumL n ds).length = ds.length
  | [], _ => rfl
  | d :: r, n => by simp [enumL, enumL_len r]
theorem it_enum {a : Addr} {vs : List V} {ds : List D} (s : SL K L H a vs) (r : RdA K L H ds vs) : ItOk K L H (Ite K a) (enumL 0 ds) := by
  intro L' H' x
  have s' : SL K L' H' a vs := s.ext x
  have r' := r.ext x
  refine ⟨⟨vs, s'.sq, by rw [r.len, enumL_len ds 0]; exact Nat.le_refl _⟩, fun i d hd => ?_⟩
  obtain ⟨d0, hd0, rfl⟩ := enumL_get hd
  obtain ⟨v, h1, h2⟩ := r'.get hd0
  refine ⟨⟨vs, v, s'.sq, h1⟩, fun y H'' hy => ?_⟩
  obtain ⟨T, z, rfl, hT, rfl, hz⟩ := hy
  have := hz vs s'.sq
  rw [h1] at this; cases this
  refine ⟨.inr (.inl ⟨T, [.int (i : Nat), v], [.int ((0 + i : Nat) : Int), d0], rfl, hT, rfl, rfl, _, _, rfl, ?_, _, _, rfl, h2, rfl⟩), rfl⟩
  rw [Nat.zero_add]; exact rd_int
theorem zipL_get : ∀ {xs ys : List D} {i : Nat} {e : D}, (zipL xs ys)[i]? = some e → ∃ x y, xs[i]? = some x ∧ ys[i]? = some y ∧ e = .tuple [x, y]
  | x :: r, y :: s, 0, _, h => by simp [zipL] at h; exact ⟨x, y, rfl, rfl, h.symm⟩
  | x :: r, y :: s, i + 1, e, h => by
    have h : (zipL r s)[i]? = some e := by simpa [zipL] using h
    obtain ⟨a, b, h1, h2, h3⟩ := zipL_get h
    exact ⟨a, b, by simpa using h1, by simpa using h2, h3⟩
  | [], _, _, _, h => by simp [zipL] at h
  | _ :: _, [], _, _, h => by simp [zipL] at h
theorem zipL_len : ∀ (xs ys : List D), (zipL xs ys).length = min xs.length ys.length
  | x :: r, y :: s => by simp [zipL, zipL_len r s]
  | [], _ => by simp [zipL]
  | _ :: _, [] => by simp [zipL]
theorem it_zip {a b : Addr} {vs ws : List V} {xs ys : List D} (s : SL K L H a vs) (r : RdA K L H xs vs) (s2 : SL K L H b ws) (r2 : RdA K L H ys ws) : ItOk K L H (Itz K a b) (zipL xs ys) := by
  intro L' H' x
  have s' : SL K L' H' a vs := s.ext x
  have r' := r.ext x
  have s2' : SL K L' H' b ws := s2.ext x
  have r2' := r2.ext x
  refine ⟨⟨vs, ws, s'.sq, s2'.sq, by rw [r.len, r2.len, zipL_len]; omega⟩, fun i d hd => ?_⟩
  obtain ⟨d1, d2, hd1, hd2, rfl⟩ := zipL_get hd
  obtain ⟨v, h1, h2⟩ := r'.get hd1
  obtain ⟨w, h3, h4⟩ := r2'.get hd2
  refine ⟨⟨vs, ws, v, w, s'.sq, s2'.sq, h1, h3⟩, fun y H'' hy => ?_⟩
  obtain ⟨T, z1, z2, rfl, hT, rfl, q1, q2⟩ := hy
  have e1 := q1 vs s'.sq
  have e2 := q2 ws s2'.sq
  rw [h1] at e1; cases e1
  rw [h3] at e2; cases e2
  exact ⟨.inr (.inl ⟨T, [v, w], [d1, d2], rfl, hT, rfl, rfl, _, _, rfl, h2, _, _, rfl, h4, rfl⟩), rfl⟩
theorem it_zipT {a b : Addr} {vs ws : List V} {xs ys : List D} (s : ST K L H a vs) (r : RdA K L H xs vs) (s2 : ST K L H b ws) (r2 : RdA K L H ys ws) : ItOk K L H (RZ.ItzT K a b) (zipL xs ys) := by
  intro L' H' x
  have s' : ST K L' H' a vs := s.ext x
  have r' := r.ext x
  have s2' : ST K L' H' b ws := s2.ext x
  have r2' := r2.ext x
  refine ⟨⟨vs, ws, s'.sq, s2'.sq, by rw [r.len, r2.len, zipL_len]; omega⟩, fun i d hd => ?_⟩
  obtain ⟨d1, d2, hd1, hd2, rfl⟩ := zipL_get hd
  obtain ⟨v, h1, h2⟩ := r'.get hd1
  obtain ⟨w, h3, h4⟩ := r2'.get hd2
  refine ⟨⟨vs, ws, v, w, s'.sq, s2'.sq, h1, h3⟩, fun y H'' hy => ?_⟩
  obtain ⟨T, z1, z2, rfl, hT, rfl, q1, q2⟩ := hy
  have e1 := q1 vs s'.sq
  have e2 := q2 ws s2'.sq
  rw [h1] at e1; cases e1
  rw [h3] at e2; cases e2
  exact ⟨.inr (.inl ⟨T, [v, w], [d1, d2], rfl, hT, rfl, rfl, _, _, rfl, h2, _, _, rfl, h4, rfl⟩), rfl⟩
/-- for a tuple -/
def Itet (K : PySem.W.Frag) (a : Addr) : L2.It :=
  ⟨fun i H => ∃ (xs : List V) (x : V), SqT K H a xs ∧ xs[i]? = some x, fun i H v H' => ∃ T x, v = .ref T ∧ H T = none ∧ H' = upd H T (.tup [.int (i : Nat), x]) ∧ ∀ xs, SqT K H a xs → xs[i]? = some x, fun i H => ∃ xs : List V, SqT K H a xs ∧ xs.length = i⟩
theorem it_enumT {a : Addr} {vs : List V} {ds : List D} (s : ST K L H a vs) (r : RdA K L H ds vs) : ItOk K L H (Itet K a) (enumL 0 ds) := by
  intro L' H' x
  have s' : ST K L' H' a vs := s.ext x
  have r' := r.ext x
  refine ⟨⟨vs, s'.sq, by rw [r.len, enumL_len ds 0]⟩, fun i d hd => ?_⟩
  obtain ⟨d0, hd0, rfl⟩ := enumL_get hd
  obtain ⟨v, h1, h2⟩ := r'.get hd0
  refine ⟨⟨vs, v, s'.sq, h1⟩, fun y H'' hy => ?_⟩
  obtain ⟨T, z, rfl, hT, rfl, hz⟩ := hy
  have := hz vs s'.sq
  rw [h1] at this; cases this
  refine ⟨.inr (.inl ⟨T, [.int (i : Nat), v], [.int ((0 + i : Nat) : Int), d0], rfl, hT, rfl, rfl, _, _, rfl, ?_, _, _, rfl, h2, rfl⟩), rfl⟩
  rw [Nat.zero_add]; exact rd_int
/-- for a text -/
def Itex (x : Str) : L2.It :=
  ⟨fun i _ => i < x.cps.size, fun i H v H' => ∃ T c, v = .ref T ∧ H T = none ∧ H' = upd H T (.tup [.int (i : Nat), .str ⟨#[c]⟩]) ∧ x.cps[i]? = some c, fun i _ => x.cps.size = i⟩
theorem it_enumX {x : Str} : ItOk K L H (Itex x) (enumL 0 (signs x)) := by
  intro L' H' _
  refine ⟨?_, fun i d hd => ?_⟩
  · show x.cps.size = (enumL 0 (signs x)).length
    rw [enumL_len (signs x) 0]
    simp [signs]
  · obtain ⟨d0, hd0, rfl⟩ := enumL_get hd
    unfold signs at hd0
    rw [List.getElem?_map] at hd0
    obtain ⟨c, hc, rfl⟩ := omap hd0
    have hc' : x.cps[i]? = some c := by rw [← Array.getElem?_toList]; exact hc
    refine ⟨(Array.getElem?_eq_some_iff.mp hc').1, fun y H'' hy => ?_⟩
    obtain ⟨T, c', rfl, hT, rfl, h1⟩ := hy
    rw [hc'] at h1; cases h1
    refine ⟨.inr (.inl ⟨T, [.int (i : Nat), .str ⟨#[c]⟩], [.int ((0 + i : Nat) : Int), .str (sign c)], rfl, hT, rfl, rfl, _, _, rfl, ?_, _, _, rfl, rd_str, rfl⟩), rfl⟩
    rw [Nat.zero_add]; exact rd_int
end
section
variable {K : PySem.W.Frag} {G : Call} {σ : L2.St} {H : Hp} {R : L2.It → Hp → Prop}
theorem tI_seq {e : Ex} (h : tI K G (.seq e) σ H R) : iList K (tD K G e) σ H R ∨ iTup K (tD K G e) σ H R ∨ iStr (tD K G e) σ H R := by
  obtain ⟨A, as, f, ds, f', R0, he, hR⟩ := h
  unfold evI at he
  obtain ⟨⟨rv, f1⟩, e1, he⟩ := bind_ok he
  obtain ⟨⟨y, f2⟩, e2, he⟩ := bind_ok he
  obtain ⟨l, e3, he⟩ := bind_ok he
  cases he
  have e2 := ofOpt_ok e2
  have e3 : itemsD y = some ds := ofOpt_ok e3
  cases y with
  | str z =>
    right; right
    refine ⟨A, as, f, rv, f1, R0, e1, fun v H1 p => ?_⟩
    obtain ⟨pn, rd⟩ := p.kept e2
    have e3 : (if z.length ≤ 16777216 then some (signs z) else none) = some ds := e3
    split at e3
    · cases e3
      exact ⟨z, by unfold Rd at rd; exact rd, hR _ _ pn it_str⟩
    · cases e3
  | list xs =>
    left
    cases e3
    refine ⟨A, as, f, rv, f1, R0, e1, fun v H1 p => ?_⟩
    obtain ⟨pn, rd⟩ := p.kept e2
    unfold Rd at rd
    obtain ⟨a, vs, ev, s, r⟩ := rd
    exact ⟨a, ev, ⟨vs, s.sq⟩, hR _ _ pn (it_list s r)⟩
  | tuple xs =>
    right; left
    cases e3
    refine ⟨A, as, f, rv, f1, R0, e1, fun v H1 p => ?_⟩
    obtain ⟨pn, rd⟩ := p.kept e2
    unfold Rd at rd
    obtain ⟨a, vs, ev, s, r⟩ := rd
    exact ⟨a, ev, ⟨vs, s.sq⟩, hR _ _ pn (it_tup s r)⟩
  | _ => cases e3
theorem bnd_ok {i : Int} (h : bnd i = true) : -(2 ^ 62) ≤ i ∧ i < 2 ^ 62 := by
  unfold bnd at h
  simpa only [Bool.and_eq_true, decide_eq_true_eq] using h
theorem Rd1s.len : ∀ {ys : List D} {vs : List V} {L : ASet}, Rd1s K L H ys vs → vs.length = ys.length
  | [], _, _, h => by rw [show _ = [] from h]; rfl
  | _ :: _, _, _, ⟨v, ws, e, _, h⟩ => by rw [e]; exact congrArg (· + 1) h.len
theorem PostA.len {A : ASet} {as : List Addr} {f f' : F} {H' : Hp} {rvs : List RV} {vs : List V} (p : PostA K A as f σ H rvs f' vs H') : vs.length = rvs.length := by
  obtain ⟨A', _, _, r, _⟩ := p
  exact r.len
theorem tI_rng1 {e : Ex} (h : tI K G (.rng [e]) σ H R) : iRng1 (tDs K G [e]) σ H R := by
  obtain ⟨A, as, f, ds, f', R0, he, hR⟩ := h
  unfold evI at he
  obtain ⟨⟨rv, f1⟩, e1, he⟩ := bind_ok he
  obtain ⟨ys, e2, he⟩ := bind_ok he
  have e2 := ofOpt_ok e2
  refine ⟨A, as, f, rv, f1, R0, e1, fun vs H1 p => ?_⟩
  obtain ⟨pn, rd⟩ := p.seen e2
  have hl : ys.length = 1 := rd.len.symm.trans (p.len.trans (chn_len e1))
  match ys, hl, rd, he with
  | [y], _, rd, he =>
    cases y with
    | int b =>
      replace he : (if bnd b = true ∧ b ≤ 16777216 then Res.ok (rangeL 0 b, f1) else .bad) = Res.ok (ds, f') := he
      split at he
      · rename_i hb
        cases he
        obtain ⟨v, ws, rfl, r1, r2⟩ := rd
        obtain rfl : ws = [] := r2
        obtain rfl := r1.i
        exact ⟨b, rfl, (bnd_ok hb.1).1, (bnd_ok hb.1).2, hR _ _ pn (by have := it_rng (K := K) (L := Lv A f' as σ) (H := H1) (lo := 0) (hi := b); rwa [Int.sub_zero] at this)⟩
      · cases he
    | _ => cases he
theorem tI_rng2 {e e' : Ex} (h : tI K G (.rng [e, e']) σ H R) : iRng2 (tDs K G [e, e']) σ H R := by
  obtain ⟨A, as, f, ds, f', R0, he, hR⟩ := h
  unfold evI at he
  obtain ⟨⟨rv, f1⟩, e1, he⟩ := bind_ok he
  obtain ⟨ys, e2, he⟩ := bind_ok he
  have e2 := ofOpt_ok e2
  refine ⟨A, as, f, rv, f1, R0, e1, fun vs H1 p => ?_⟩
  obtain ⟨pn, rd⟩ := p.seen e2
  have hl : ys.length = 2 := rd.len.symm.trans (p.len.trans (chn_len e1))
  match ys, hl, rd, he with
  | [y, z], _, rd, he =>
    cases y with
    | int a =>
      cases z with
      | int b =>
        replace he : (if bnd a = true ∧ bnd b = true ∧ b - a ≤ 16777216 then Res.ok (rangeL a b, f1) else .bad) = Res.ok (ds, f') := he
        split at he
        · rename_i hb
          cases he
          obtain ⟨v, ws, rfl, r1, v2, w2, rfl, r2, r3⟩ := rd
          obtain rfl : w2 = [] := r3
          obtain rfl := r1.i
          obtain rfl := r2.i
          exact ⟨a, b, rfl, ⟨(bnd_ok hb.1).1, (bnd_ok hb.1).2, (bnd_ok hb.2.1).1, (bnd_ok hb.2.1).2⟩, hR _ _ pn it_rng⟩
        · cases he
      | _ => cases he
    | _ => cases he
theorem tI_rng3 {e e' e2 : Ex} (h : tI K G (.rng [e, e', e2]) σ H R) : iRng3 (tDs K G [e, e', e2]) σ H R := by
  obtain ⟨A, as, f, ds, f', R0, he, hR⟩ := h
  unfold evI at he
  obtain ⟨⟨rv, f1⟩, e1, he⟩ := bind_ok he
  obtain ⟨ys, e2, he⟩ := bind_ok he
  have e2 := ofOpt_ok e2
  refine ⟨A, as, f, rv, f1, R0, e1, fun vs H1 p => ?_⟩
  obtain ⟨pn, rd⟩ := p.seen e2
  have hl : ys.length = 3 := rd.len.symm.trans (p.len.trans (chn_len e1))
  match ys, hl, rd, he with
  | [y, z, x], _, rd, he =>
    cases y with
    | int a =>
      cases z with
      | int b =>
        cases x with
        | int c =>
          replace he : (if bnd a = true ∧ bnd b = true ∧ c = -1 ∧ a - b ≤ 16777216 then Res.ok (rangeD a b, f1) else .bad) = Res.ok (ds, f') := he
          split at he
          · rename_i hb
            cases he
            obtain ⟨v, ws, rfl, r1, v2, w2, rfl, r2, v3, w3, rfl, r3, r4⟩ := rd
            obtain rfl : w3 = [] := r4
            obtain rfl := r1.i
            obtain rfl := r2.i
            obtain rfl := r3.i
            obtain ⟨b1, b2, rfl, b3⟩ := hb
            exact ⟨a, b, -1, (a - b).toNat, rfl, RgC.neg (bnd_ok b1).1 (bnd_ok b1).2 (bnd_ok b2).1 (bnd_ok b2).2, hR _ _ pn it_rngD⟩
          · cases he
        | _ => cases he
      | _ => cases he
    | _ => cases he
theorem tI_enum {e : Ex} (h : tI K G (.enum e) σ H R) : tD K G e σ H fun x H1 => (∃ a xs, x = .ref a ∧ SqL K H1 a xs ∧ R (Ite K a) H1) ∨ (∃ a xs, x = .ref a ∧ SqT K H1 a xs ∧ R (Itet K a) H1) ∨ ∃ z, x = .str z ∧ R (Itex z) H1 := by
  obtain ⟨A, as, f, ds, f', R0, he, hR⟩ := h
  unfold evI at he
  obtain ⟨⟨rv, f1⟩, e1, he⟩ := bind_ok he
  obtain ⟨⟨y, f2⟩, e2, he⟩ := bind_ok he
  have e2 := ofOpt_ok e2
  refine ⟨A, as, f, rv, f1, R0, e1, fun v H1 p => ?_⟩
  obtain ⟨pn, rd⟩ := p.kept e2
  cases y with
  | list xs =>
    cases he
    unfold Rd at rd
    obtain ⟨a, vs, ev, s, r⟩ := rd
    exact .inl ⟨a, vs, ev, s.sq, hR _ _ pn (it_enum s r)⟩
  | tuple xs =>
    cases he
    unfold Rd at rd
    obtain ⟨a, vs, ev, s, r⟩ := rd
    exact .inr (.inl ⟨a, vs, ev, s.sq, hR _ _ pn (it_enumT s r)⟩)
  | str z =>
    have he : (if z.length ≤ 16777216 then Res.ok (enumL 0 (signs z), f2) else .bad) = .ok (ds, f') := he
    split at he
    · cases he
      exact .inr (.inr ⟨z, by unfold Rd at rd; exact rd, hR _ _ pn it_enumX⟩)
    · cases he
  | _ => cases he
theorem tI_zip {a b : Ex} (h : tI K G (.zip a b) σ H R) : RZ.iZipA K (tDs K G [a, b]) σ H R := by
  obtain ⟨A, as, f, ds, f', R0, he, hR⟩ := h
  unfold evI at he
  obtain ⟨⟨r1, f1⟩, e1, he⟩ := bind_ok he
  obtain ⟨⟨r2, f2⟩, e2, he⟩ := bind_ok he
  obtain ⟨⟨l, f3⟩, e3, he⟩ := bind_ok he
  have e3 := ofOpt_ok e3
  dsimp only at e2 e3 he
  have ev : evEs G [a, b] f = .ok ([r1, r2], f2) := by
    simp only [evEs, e1, e2, Res.bind]
  refine ⟨A, as, f, _, f2, R0, ev, fun vs H1 p => ?_⟩
  obtain ⟨pn, rd⟩ := p.kept e3
  split at he
  · cases he
    obtain ⟨v, ws, rfl, q1, w, us, rfl, q2, q3⟩ := rd
    obtain rfl : us = [] := q3
    unfold Rd at q1 q2
    obtain ⟨x, xs, rfl, s1, t1⟩ := q1
    obtain ⟨y, ys, rfl, s2, t2⟩ := q2
    exact ⟨x, y, xs, ys, rfl, .inl ⟨s1.sq, s2.sq, hR _ _ pn (it_zip s1 t1 s2 t2)⟩⟩
  · cases he
    obtain ⟨v, ws, rfl, q1, w, us, rfl, q2, q3⟩ := rd
    obtain rfl : us = [] := q3
    unfold Rd at q1 q2
    obtain ⟨x, xs, rfl, s1, t1⟩ := q1
    obtain ⟨y, ys, rfl, s2, t2⟩ := q2
    exact ⟨x, y, xs, ys, rfl, .inr ⟨s1.sq, s2.sq, hR _ _ pn (it_zipT s1 t1 s2 t2)⟩⟩
  · cases he
end
end Vm
set_option maxRecDepth 100000
set_option maxHeartbeats 1000000
namespace PySem
open Sem (wp)
open AutoSeq1 (wpAny_loadPart')
set_option maxHeartbeats 1000000 in
/-- enumerate(v), v told by its iterator -/
theorem vm_enum_new {v : Value} {o : Obj} {H : Heap → Prop} (B : Begins v o H) :
    Meets (Builtin.«enumerate.__new__» ⟨[.type "enumerate", v], []⟩) (fun _ R s => H s.heap ∧
      R (.ok (.ret (.ref (s.heap.push o).objs.size))) { s with heap := (s.heap.push o).push { cls := .type "enumerate", data := .fields #[.none, .bool false, .ref s.heap.objs.size, rawInt 0, .none, .none] } }) :=
  .of_wp fun prog w A R s h => by
    obtain ⟨hp, g, d, tk, os⟩ := s; obtain ⟨h1, h⟩ := h
    have hsub := sub_enumerate
    have q1 : ∀ {A' : Around} {E : Value → Shared → Prop} {Q : Value → Shared → Prop}, Q (.ref hp.objs.size) ⟨hp.push o, g, d, tk, os⟩ → wpAny (model prog w) A' (pyIter v) Q E ⟨hp, g, d, tk, os⟩ :=
      fun q => B.iter prog w _ _ ⟨hp, g, d, tk, os⟩ _ h1 q
    wp_walk using q1
    refine wpAny_stack_any fun st => wpAny_pure ?_
    split
    · rename_i c _ _ _ _ _
      cases (c == Value.type "enumerate")
      · wp_walk using q1
        exact ⟨_, rfl, h⟩
      · wp_walk using q1
        exact ⟨_, rfl, h⟩
    · wp_walk using q1
      exact ⟨_, rfl, h⟩
section
variable {prog : Program} {w : World} {A : Around} {E : Value → Shared → Prop} {s : Shared}
theorem vm_enum_call {v : Value} {o : Obj} {H : Heap → Prop} {Q : Value → Shared → Prop} (B : Begins v o H) (h1 : H s.heap)
    (h : ∀ h', IsEnum h' (s.heap.objs.size + 1) s.heap.objs.size 0 .none → h'.get? s.heap.objs.size = some o → h'.objs.size = s.heap.objs.size + 2 →
      (∀ b o, s.heap.get? b = some o → h'.get? b = some o) → Q (.ref (s.heap.objs.size + 1)) { s with heap := h' }) :
    wpAny (model prog w) A (call (.type "enumerate") [v]) Q E s := by
  refine callType_new F.called_enumerate (by decide) (F.typeCall_enumerate_1 _) (F.newCall_enumerate_1 _) (fun obj => F.args_object_init_2 obj _) F.entry_enumerate_new
    (vm_enum_new B) ⟨h1, ?_⟩
  have hz : (s.heap.push o).objs.size = s.heap.objs.size + 1 := Heap.size_push ..
  show _ ∧ _
  rw [hz]
  have he : IsEnum ((s.heap.push o).push { cls := .type "enumerate", data := .fields #[.none, .bool false, .ref s.heap.objs.size, rawInt 0, .none, .none] }) (s.heap.objs.size + 1) s.heap.objs.size 0 .none := by
    have := Heap.get?_push_size (s.heap.push o) (o := { cls := .type "enumerate", data := .fields #[.none, .bool false, .ref s.heap.objs.size, rawInt 0, .none, .none] }) rfl
    rw [hz] at this; exact this
  refine ⟨⟨_, he, rfl⟩, h _ he (Heap.get?_push_of_some _ (Heap.get?_push_size _ B.free)) (by rw [Heap.size_push, hz]) fun b o x => Heap.get?_push_of_some _ (Heap.get?_push_of_some _ x)⟩
end
end PySem
namespace Vm
open PySem PySem.Spec L2
theorem isTup_tuple {h : Heap} {a : Addr} {its : Array Value} (p : PyProof.Rows.IsTup h a its) : h.IsTuple a its := by
  obtain ⟨o, e, hc, n, d⟩ := p
  exact ⟨o, e, hc, n, d⟩
theorem turn_enumT {P : Program} {w : World} {K : PySem.W.Frag} {elts : List Expr} {kk : Nat} {tpos : Pos} (a e it : Addr) :
    Turn P w K (.Tuple elts kk tpos) (Itet K a) [e, it] e (fun i h => (∃ old, IsEnum h e it ((i : Nat) : Int) old) ∧ h.IsTupleIter it a i ∧ e ≠ it) where
  mem := by simp
  obj := fun i h st b hb => by
    obtain ⟨⟨old, he⟩, ⟨o, ho, hc, hd⟩, _⟩ := st
    have e' : b = e ∨ b = it := by simpa using hb
    rcases e' with z | z
    · rw [z]; exact ⟨_, he, fun v q => nomatch q⟩
    · rw [z]; exact ⟨o, ho, fun v q => by rw [hd] at q; cases q⟩
  keep := fun i h h' st k => let ⟨⟨old, he⟩, hi, hne⟩ := st; ⟨⟨old, k e (by simp) _ he⟩, hi.at fun o q => k it (by simp) o q, hne⟩
  item := by
    intro X hP hw hK hc i pins s σ H E I hf st hg
    subst hP hw hK
    obtain ⟨⟨old, he⟩, hit, hne⟩ := st
    obtain ⟨xs, x, hq, hx⟩ := hg
    obtain ⟨its, rv, p, hz⟩ := I.tuple hq
    obtain ⟨u, hu, ru⟩ := rv.get hx
    have ht := isTup_tuple p
    have hel : e < s.heap.objs.size := Heap.lt_size he
    have hea : e ≠ a := fun z => by
      obtain ⟨o, e1, e2, _⟩ := ht
      rw [← z, he] at e1; cases e1; exact absurd (show Value.type "enumerate" = Value.type "tuple" from e2) (by decide)
    have hta : a ≠ it := fun z => by
      obtain ⟨o, e1, e2, _⟩ := ht
      obtain ⟨o', e1', e2', _⟩ := hit
      rw [z, e1'] at e1; cases e1
      rw [e2'] at e2; exact absurd e2 (by decide)
    have hlt : i < its.toArray.size := by
      obtain ⟨h1, _⟩ := List.getElem?_eq_some_iff.mp hu
      simpa using h1
    refine wpAny_pyNext_enum_itemD (Draws.tuple (A := X.A.in1) (I.ok.hd hc) it a hta its.toArray) he ⟨hit, ht⟩ hlt hne (by simp [hea, hne]) fun x' h' tk hP ho hst' hT hsz hk => ?_
    have hx' : x' = u := by
      have hP : its.toArray[i]? = some x' := hP
      rw [show its.toArray[i]? = some u by simpa using hu] at hP
      exact (Option.some.inj hP).symm
    subst hx'
    refine ⟨_, rfl, wpAny_letOwnedTupleGo_enum (s := { s with heap := h', toks := tk + 1 }) ho fun h'' he' sb => ?_⟩
    have hT2 : h''.get? s.heap.objs.size = some { cls := .type "tuple", data := .seq #[.int i tk, x'] } := (sb.2 _ (Nat.ne_of_gt hel)).trans hT
    have new : ObjOk X.prog X.w (upd H s.heap.objs.size (.tup [.int (i : Nat), x])) h'' s.heap.objs.size (.tup [.int (i : Nat), x]) :=
      ⟨by show 2 ≤ sizeLine; decide, [.int i tk, x'], .cons ⟨_, rfl⟩ (.cons ru .nil), ⟨_, hT2, rfl, _, rfl⟩⟩
    have I1 : Inv X pins σ (upd H s.heap.objs.size (.tup [.int (i : Nat), x])) { s with heap := h'', toks := tk + 1 } :=
      I.turnedNew (ch := [e, it]) (fun b ob hb q => (sb.2 b (fun z => hb (by simp [z]))).trans (hk b ob (fun z => hb (by simp [z])) (fun z => hb (by simp [z])) q)) hf (Nat.le_refl _) new
    refine ⟨.ref s.heap.objs.size, _, I1, rfl, ⟨_, x, rfl, I.hok.fresh (Nat.le_refl _), rfl, fun ys hy => by rw [I.tuple_inj hy hq]; exact hx⟩, ⟨⟨x', ?_⟩, hst'.1.at fun o q => (sb.2 it (Ne.symm hne)).trans q, hne⟩, fun b hb => ?_⟩
    · have e1 : ((i + 1 : Nat) : Int) = (i : Int) + 1 := by omega
      rw [e1]; exact he'
    · have hb' : b < s.heap.objs.size := by
        have e' : b = e ∨ b = it := by simpa using hb
        rcases e' with z | z
        · rw [z]; exact hel
        · rw [z]; obtain ⟨_, q, _⟩ := hit; exact Heap.lt_size q
      rw [upd_ne (Nat.ne_of_lt hb')]
      exact (hf b hb).1
  done := by
    intro X hP hw hK hc i pins s σ H E I hf st hg
    subst hP hw hK
    obtain ⟨⟨old, he⟩, hit, hne⟩ := st
    obtain ⟨xs, hq, hx⟩ := hg
    obtain ⟨its, rv, p, hz⟩ := I.tuple hq
    have ht := isTup_tuple p
    have hta : a ≠ it := fun z => by
      obtain ⟨o, e1, e2, _⟩ := ht
      obtain ⟨o', e1', e2', _⟩ := hit
      rw [z, e1'] at e1; cases e1
      rw [e2'] at e2; exact absurd e2 (by decide)
    obtain ⟨f0, f1, f2, f3, f4, f5⟩ := hf it (by simp)
    have hl := rv.length
    have hn : its.toArray.size = i := by simp; omega
    exact wpAny_pyNext_enum_endD (Draws.tuple (A := X.A.in1) (I.ok.hd hc) it a hta its.toArray) he (by rw [hn]; exact ⟨hit, ht⟩) fun h' eb => ⟨rfl, I.turned (t' := s.toks) (fun b o hb q => eb b o hb q) f0 f1 f3 f4 f5⟩
  self := fun A i s Q E st h => let ⟨⟨_, he⟩, _⟩ := st; wpAny_pyIter_enum he h
theorem turn_enumX {P : Program} {w : World} {K : PySem.W.Frag} {elts : List Expr} {kk : Nat} {tpos : Pos} (x : Str) (t : Tok) (e it : Addr) :
    Turn P w K (.Tuple elts kk tpos) (Itex x) [e, it] e (fun i h => (∃ old, IsEnum h e it ((i : Nat) : Int) old) ∧ h.IsStrIter it (strIterType x) x t i ∧ e ≠ it) where
  mem := by simp
  obj := fun i h st b hb => by
    obtain ⟨⟨old, he⟩, ⟨o, ho, hc, hd⟩, _⟩ := st
    have e' : b = e ∨ b = it := by simpa using hb
    rcases e' with z | z
    · rw [z]; exact ⟨_, he, fun v q => nomatch q⟩
    · rw [z]; exact ⟨o, ho, fun v q => by rw [hd] at q; cases q⟩
  keep := fun i h h' st k => let ⟨⟨old, he⟩, ⟨o, ho, r⟩, hne⟩ := st; ⟨⟨old, k e (by simp) _ he⟩, ⟨o, k it (by simp) o ho, r⟩, hne⟩
  item := by
    intro X hP hw hK hc i pins s σ H E I hf st hg
    subst hP hw hK
    obtain ⟨⟨old, he⟩, hit, hne⟩ := st
    have hel : e < s.heap.objs.size := Heap.lt_size he
    refine wpAny_pyNext_enum_itemD (Draws.text (A := X.A.in1) (I.ok.hd hc) it x t) he hit hg hne (by simp [hne]) fun x' h' tk hP ho hst' hT hsz hk => ?_
    obtain ⟨c, u, hcx, rfl⟩ := hP
    refine ⟨_, rfl, wpAny_letOwnedTupleGo_enum (s := { s with heap := h', toks := tk + 1 }) ho fun h'' he' sb => ?_⟩
    have hT2 : h''.get? s.heap.objs.size = some { cls := .type "tuple", data := .seq #[.int i tk, .str ⟨#[c]⟩ u] } := (sb.2 _ (Nat.ne_of_gt hel)).trans hT
    have new : ObjOk X.prog X.w (upd H s.heap.objs.size (.tup [.int (i : Nat), .str ⟨#[c]⟩])) h'' s.heap.objs.size (.tup [.int (i : Nat), .str ⟨#[c]⟩]) :=
      ⟨by show 2 ≤ sizeLine; decide, [.int i tk, .str ⟨#[c]⟩ u], .cons ⟨_, rfl⟩ (.cons ⟨u, rfl⟩ .nil), ⟨_, hT2, rfl, _, rfl⟩⟩
    have I1 : Inv X pins σ (upd H s.heap.objs.size (.tup [.int (i : Nat), .str ⟨#[c]⟩])) { s with heap := h'', toks := tk + 1 } :=
      I.turnedNew (ch := [e, it]) (fun b ob hb q => (sb.2 b (fun z => hb (by simp [z]))).trans (hk b ob (fun z => hb (by simp [z])) (fun z => hb (by simp [z])) q)) hf (Nat.le_refl _) new
    obtain ⟨oi, hoi, ri⟩ := hst'
    refine ⟨.ref s.heap.objs.size, _, I1, rfl, ⟨_, c, rfl, I.hok.fresh (Nat.le_refl _), rfl, hcx⟩, ⟨⟨.str ⟨#[c]⟩ u, ?_⟩, ⟨oi, (sb.2 it (Ne.symm hne)).trans hoi, ri⟩, hne⟩, fun b hb => ?_⟩
    · have e1 : ((i + 1 : Nat) : Int) = (i : Int) + 1 := by omega
      rw [e1]; exact he'
    · have hb' : b < s.heap.objs.size := by
        have e' : b = e ∨ b = it := by simpa using hb
        rcases e' with z | z
        · rw [z]; exact hel
        · rw [z]; obtain ⟨_, q, _⟩ := hit; exact Heap.lt_size q
      rw [upd_ne (Nat.ne_of_lt hb')]
      exact (hf b hb).1
  done := by
    intro X hP hw hK hc i pins s σ H E I hf st hg
    subst hP hw hK
    obtain ⟨⟨old, he⟩, hit, hne⟩ := st
    obtain ⟨f0, f1, f2, f3, f4, f5⟩ := hf it (by simp)
    have hn : x.cps.size = i := hg
    exact wpAny_pyNext_enum_endD (Draws.text (A := X.A.in1) (I.ok.hd hc) it x t) he (by rw [hn]; exact hit) fun h' eb => ⟨rfl, I.turned (t' := s.toks) (fun b o hb q => eb b o hb q) f0 f1 f3 f4 f5⟩
  self := fun A i s Q E st h => let ⟨⟨_, he⟩, _⟩ := st; wpAny_pyIter_enum he h
theorem pi_enumD {X : Cx} {e : Expr} {te : TE} {p pos tpos : Pos} {elts : List Expr} {kk : Nat} (hg : Gl X "enumerate") (hm : X.mg "enumerate" = none) (he : PE X e te) (hs : starEach [e] X.env = [(false, eval e X.env)]) :
    PI X (.Tuple elts kk tpos) (.Call (.Name "enumerate" p) [e] [] pos) (fun σ H R => te σ H fun x H1 => (∃ a xs, x = .ref a ∧ SqL X.K H1 a xs ∧ R (Ite X.K a) H1) ∨ (∃ a xs, x = .ref a ∧ SqT X.K H1 a xs ∧ R (Itet X.K a) H1) ∨ ∃ z, x = .str z ∧ R (Itex z) H1) := by
  have ha : PA X [e] (tCons te tNil) := pa_cons he pa_nil hs
  refine ⟨fun pins s σ H R I h => ?_⟩
  refine PyProof.Rows.Call_ (ld_blt I hg hm PyProof.Rows.boot_enumerate (PyProof.Rows.callWith_type1 (thn (ha.run pos pins s σ H (fun vs H1 => match vs with | [x] => (∃ a xs, x = .ref a ∧ SqL X.K H1 a xs ∧ R (Ite X.K a) H1) ∨ (∃ a xs, x = .ref a ∧ SqT X.K H1 a xs ∧ R (Itet X.K a) H1) ∨ ∃ z, x = .str z ∧ R (Itex z) H1 | _ => False) I h) fun us s1 ⟨vs, H1, I1, r1, q1⟩ => ?_) hs rfl))
  obtain ⟨x, rfl, q1⟩ : ∃ x, vs = [x] ∧ ((∃ a xs, x = .ref a ∧ SqL X.K H1 a xs ∧ R (Ite X.K a) H1) ∨ (∃ a xs, x = .ref a ∧ SqT X.K H1 a xs ∧ R (Itet X.K a) H1) ∨ ∃ z, x = .str z ∧ R (Itex z) H1) := by
    match vs, q1 with
    | [x], q1 => exact ⟨x, rfl, q1⟩
  have fin : ∀ b, b ∈ [s1.heap.objs.size + 1, s1.heap.objs.size] → FpOk X pins H1 b := fun b hb => by
    have e' : b = s1.heap.objs.size + 1 ∨ b = s1.heap.objs.size := by simpa using hb
    have hle : s1.heap.objs.size ≤ b := by
      rcases e' with z | z
      · rw [z]; exact Nat.le_add_right _ _
      · rw [z]; exact Nat.le_refl _
    exact I1.fpOk hle (I1.hok.fresh hle)
  rcases q1 with ⟨a, xs, rfl, hq, q⟩ | ⟨a, xs, rfl, hq, q⟩ | ⟨z, rfl, q⟩
  · cases r1 with
    | cons r rr =>
      cases rr
      cases r
      obtain ⟨its, rv, p', hz⟩ := I1.list hq
      refine call_enumerate_list p'.isList fun h' he hit hsz hk => wpAny_pyIter_enum he ?_
      have I2 : Inv X pins σ H1 { s1 with heap := h' } := I1.kept (t' := s1.toks) hk
      exact ⟨s1.heap.objs.size + 1, [s1.heap.objs.size + 1, s1.heap.objs.size], _, _, H1, rfl, I2, turn_enum a (s1.heap.objs.size + 1) s1.heap.objs.size, ⟨⟨.none, he⟩, hit, Nat.succ_ne_self _⟩, fin, q⟩
  · cases r1 with
    | cons r rr =>
      cases rr
      cases r
      obtain ⟨its, rv, p', hz⟩ := I1.tuple hq
      refine vm_enum_call (begins_tuple a its.toArray) (isTup_tuple p') fun h' he ho hsz hk => wpAny_pyIter_enum he ?_
      have I2 : Inv X pins σ H1 { s1 with heap := h' } := I1.kept (t' := s1.toks) hk
      exact ⟨s1.heap.objs.size + 1, [s1.heap.objs.size + 1, s1.heap.objs.size], _, _, H1, rfl, I2, turn_enumT a (s1.heap.objs.size + 1) s1.heap.objs.size, ⟨⟨.none, he⟩, ⟨_, ho, rfl, rfl⟩, Nat.succ_ne_self _⟩, fin, q⟩
  · cases r1 with
    | cons r rr =>
      cases rr
      obtain ⟨t, rfl⟩ := r
      refine vm_enum_call (begins_text z t) trivial fun h' he ho hsz hk => wpAny_pyIter_enum he ?_
      have I2 : Inv X pins σ H1 { s1 with heap := h' } := I1.kept (t' := s1.toks) hk
      exact ⟨s1.heap.objs.size + 1, [s1.heap.objs.size + 1, s1.heap.objs.size], _, _, H1, rfl, I2, turn_enumX z t (s1.heap.objs.size + 1) s1.heap.objs.size, ⟨⟨.none, he⟩, ⟨_, ho, rfl, rfl⟩, Nat.succ_ne_self _⟩, fin, q⟩
end Vm
set_option maxRecDepth 100000
set_option maxHeartbeats 1000000
namespace Vm
open PySem PySem.Spec L2
section
variable {X : Cx} {Γ : Gam} {G : Call} {m : Nat}
theorem pi_seq {tg e : Expr} {ir : Ex} (h : PE X e (tD X.K G ir)) : PI X tg e (tI X.K G (.seq ir)) :=
  PI.imp (PI.or (pi_list h) (PI.or (pi_tup h) (pi_str h))) fun σ H R q => tI_seq q
theorem fold_no {n : Nat} {isT : Bool} {e : Expr} {it : It} (h : itC Γ (comp n Γ) isT e = some it) (x : Value) : foldedSetIterable e X.env x = pure x := by
  cases e
  case Set => cases h
  all_goals rfl
theorem fold_all {Γ : Gam} {n : Nat} {isT : Bool} {e : Expr} {it : It} (h : itC Γ (comp n Γ) isT e = some it) (env : Env) (x : Value) : foldedSetIterable e env x = pure x := by
  cases e
  case Set => cases h
  all_goals rfl
theorem pi_it (C : XOk Γ G m X) {n : Nat} (ih : IH Γ G X n) {tg : Expr} {isT : Bool} (hT : isT = true → ∃ es k p, tg = .Tuple es k p) {e : Expr} {it : It} (h : itC Γ (comp n Γ) isT e = some it) : PI X tg e (tI X.K G it) := by
  by_cases hs : ∃ x p es pos, e = .Call (.Name x p) es [] pos
  · obtain ⟨x, p, es, pos, rfl⟩ := hs
    unfold itC at h
    dsimp only at h
    split at h
    · rename_i hc
      obtain ⟨c1, c2, c3, c4⟩ := hc
      obtain ⟨o1, o2, o3⟩ := okName_ne c1
      split at h
      · rename_i hx
        subst hx
        split at h
        · rename_i hl
          obtain ⟨l, h1, rfl⟩ := omap h
          match es, hl, h1 with
          | [], hl, h1 => simp at hl
          | [a], _, h1 =>
            obtain ⟨a', t, q1, q2, rfl⟩ := mapO_cons h1
            cases q2
            exact PI.imp (pi_range1 (gl_of C c2) (C.bs _ c3) (comps_pa ih.pe h1) (comp_star q1 [] X.env)) fun σ H R q => tI_rng1 q
          | [a, b], _, h1 =>
            obtain ⟨a', t, q1, q2, rfl⟩ := mapO_cons h1
            obtain ⟨b', t, q3, q4, rfl⟩ := mapO_cons q2
            cases q4
            exact PI.imp (pi_range2 (gl_of C c2) (C.bs _ c3) (comps_pa ih.pe h1) ((comp_star q1 [b] X.env).trans (by rw [comp_star q3 [] X.env]; rfl)) (comp_star q3 [] X.env)) fun σ H R q => tI_rng2 q
          | [a, b, c], _, h1 =>
            obtain ⟨a', t, q1, q2, rfl⟩ := mapO_cons h1
            obtain ⟨b', t, q3, q4, rfl⟩ := mapO_cons q2
            obtain ⟨c', t, q5, q6, rfl⟩ := mapO_cons q4
            cases q6
            exact PI.imp (pi_range3 (gl_of C c2) (C.bs _ c3) (comps_pa ih.pe h1) (comp_star q1 [b, c] X.env) (mapO_plain q2)) fun σ H R q => tI_rng3 q
          | _ :: _ :: _ :: _ :: _, hl, h1 => simp at hl
        · cases h
      · split at h
        · rename_i hx
          subst hx
          match es, h with
          | [], h => cases h
          | [a], h =>
            dsimp only at h
            split at h
            · rename_i hi
              obtain ⟨a', q1, rfl⟩ := omap h
              obtain ⟨es, k, p, rfl⟩ := hT hi
              exact PI.imp (pi_enumD (gl_of C c2) (C.bs _ c3) (ih a a' q1).e (comp_star q1 [] X.env)) fun σ H R q => tI_enum q
            · cases h
          | _ :: _ :: _, h => cases h
        · rename_i n1 n2
          have hx : x = "zip" := by
            rcases c4 with q | q | q
            · exact absurd q n1
            · exact absurd q n2
            · exact q
          subst hx
          match es, h with
          | [], h => cases h
          | [_], h => cases h
          | [a, b], h =>
            dsimp only at h
            split at h
            · rename_i hi
              obtain ⟨a', q1, h⟩ := obind h
              obtain ⟨b', q2, h⟩ := obind h
              cases h
              obtain ⟨es, k, p, rfl⟩ := hT hi
              have hm : mapO (comp n Γ) [a, b] = some [a', b'] := by simp only [mapO, q1, q2, Option.bind_some]
              exact PI.imp (RZ.pi_zipA (gl_of C c2) (C.bs _ c3) (comps_pa ih.pe hm) (comp_star q1 [b] X.env) (by rw [comp_star q2 [] X.env]; rfl)) fun σ H R q => tI_zip q
            · cases h
          | _ :: _ :: _ :: _, h => cases h
    · obtain ⟨a', q1, rfl⟩ := omap h
      exact pi_seq (ih _ a' q1).e
  · have h : (comp n Γ e).map It.seq = some it := by
      cases e
      case Set => cases h
      case Call fn es ks pos =>
        cases fn
        case Name x p =>
          cases ks with
          | nil => exact absurd ⟨_, _, _, _, rfl⟩ hs
          | cons _ _ => exact h
        all_goals exact h
      all_goals exact h
    obtain ⟨a', q1, rfl⟩ := omap h
    exact pi_seq (ih _ a' q1).e
end
end Vm
set_option maxRecDepth 100000
set_option maxHeartbeats 1000000
namespace Vm
open PySem PySem.Spec L2
section
variable {K : PySem.W.Frag} {A : ASet} {as : List Addr} {f : F} {σ σ' : L2.St} {H : Hp}
/-- several slots at once: none of the new ones owns -/
theorem Rel.slots {ρ' : List LV} (R : Rel K A as f σ H) (hl : ρ'.length = f.ρ.length) (hs : σ'.length = σ.length)
    (h : ∀ (j : Nat) (l : LV), ρ'[j]? = some l → (f.ρ[j]? = some l ∧ σ'[j]? = σ[j]?) ∨ l = .no ∨ (∃ x v, l = .d x ∧ σ'[j]? = some (some v) ∧ RdP K (Lv A f as σ) H x v) ∨ ∃ n a, l = .c n ∧ as[n]? = some a ∧ σ'[j]? = some (some (.ref a))) :
    Rel K A as { f with ρ := ρ' } σ' H ∧ ∀ a, Lv A { f with ρ := ρ' } as σ' a → Lv A f as σ a := by
  have own : ∀ (j : Nat) (o : Ob), ρ'[j]? = some (.own o) → f.ρ[j]? = some (.own o) ∧ σ'[j]? = σ[j]? := fun j o e => by
    rcases h j _ e with q | q | ⟨_, _, q, _⟩ | ⟨_, _, q, _⟩
    · exact q
    · cases q
    · cases q
    · cases q
  have le : ∀ a, Lv A { f with ρ := ρ' } as σ' a → Lv A f as σ a := fun a z => by
    rcases z with z | ⟨i, o, e, e'⟩ | z
    · exact .inl z
    · obtain ⟨q1, q2⟩ := own i o e
      exact .inr (.inl ⟨i, o, q1, by rw [← q2]; exact e'⟩)
    · exact .inr (.inr z)
  have x : Ext (Lv A f as σ) H (Lv A { f with ρ := ρ' } as σ') H := Ext.less le
  refine ⟨⟨by rw [hs, R.lenσ]; exact hl.symm, R.lenS, fun j y e => ?_, fun j o e => ?_, fun j n e => ?_, fun n y a e e' => (R.cd n y a e e').ext x, fun n o a e e' => ⟨(R.co n o a e e').1.ext x rfl, (R.co n o a e e').2⟩,
    fun i j a o o' e1 e2 e3 e4 => ?_, fun i n a o o' e1 e2 e3 e4 => ?_, R.i3, R.al⟩, le⟩
  · rcases h j _ e with ⟨q, q'⟩ | q | ⟨_, v, q, q1, q2⟩ | ⟨_, _, q, _⟩
    · obtain ⟨v, h1, h2⟩ := R.sd j y q
      exact ⟨v, q'.trans h1, h2.ext x⟩
    · cases q
    · cases q; exact ⟨v, q1, q2.ext x⟩
    · cases q
  · obtain ⟨q, q'⟩ := own j o e
    obtain ⟨a, h1, h2, h3⟩ := R.so j o q
    exact ⟨a, q'.trans h1, h2.ext x rfl, h3⟩
  · rcases h j _ e with ⟨q, q'⟩ | q | ⟨_, _, q, _⟩ | ⟨n', a, q, q1, q2⟩
    · obtain ⟨a, h1, h2⟩ := R.sc j n q
      exact ⟨a, h1, q'.trans h2⟩
    · cases q
    · cases q
    · cases q; exact ⟨a, q1, q2⟩
  · obtain ⟨q1, p1⟩ := own i o e1
    obtain ⟨q2, p2⟩ := own j o' e2
    exact R.i1 i j a o o' q1 q2 (by rw [← p1]; exact e3) (by rw [← p2]; exact e4)
  · obtain ⟨q1, p1⟩ := own i o e1
    exact R.i2 i n a o o' q1 e2 (by rw [← p1]; exact e3) e4
end
theorem wipeL_len (ρ : List LV) : ∀ vs : List Nat, (wipeL ρ vs).length = ρ.length
  | [] => rfl
  | v :: vs => by unfold wipeL; rw [List.length_set, wipeL_len ρ vs]
theorem backL_len (ρ0 ρ : List LV) : ∀ vs : List Nat, (backL ρ0 ρ vs).length = ρ.length
  | [] => rfl
  | v :: vs => by unfold backL; rw [List.length_set, backL_len ρ0 ρ vs]
theorem wipeL_get {ρ : List LV} : ∀ {vs : List Nat} {j : Nat} {l : LV}, (wipeL ρ vs)[j]? = some l → (j ∈ vs ∧ l = .no) ∨ (j ∉ vs ∧ ρ[j]? = some l)
  | [], j, l, h => .inr ⟨List.not_mem_nil, h⟩
  | v :: vs, j, l, h => by
    unfold wipeL at h
    by_cases q : v = j
    · subst q
      have hlt : v < (wipeL ρ vs).length := by have := (List.getElem?_eq_some_iff.mp h).1; simpa using this
      rw [List.getElem?_set_self hlt] at h
      exact .inl ⟨List.mem_cons_self .., by cases h; rfl⟩
    · rw [List.getElem?_set_ne q] at h
      rcases wipeL_get h with ⟨h1, h2⟩ | ⟨h1, h2⟩
      · exact .inl ⟨List.mem_cons_of_mem _ h1, h2⟩
      · exact .inr ⟨fun z => by rcases List.mem_cons.mp z with z | z; exact q z.symm; exact h1 z, h2⟩
theorem backL_get {ρ0 ρ : List LV} : ∀ {vs : List Nat} {j : Nat} {l : LV}, (backL ρ0 ρ vs)[j]? = some l → (j ∈ vs ∧ l = ρ0.getD j .no) ∨ (j ∉ vs ∧ ρ[j]? = some l)
  | [], j, l, h => .inr ⟨List.not_mem_nil, h⟩
  | v :: vs, j, l, h => by
    unfold backL at h
    by_cases q : v = j
    · subst q
      have hlt : v < (backL ρ0 ρ vs).length := by have := (List.getElem?_eq_some_iff.mp h).1; simpa using this
      rw [List.getElem?_set_self hlt] at h
      exact .inl ⟨List.mem_cons_self .., by cases h; rfl⟩
    · rw [List.getElem?_set_ne q] at h
      rcases backL_get h with ⟨h1, h2⟩ | ⟨h1, h2⟩
      · exact .inl ⟨List.mem_cons_of_mem _ h1, h2⟩
      · exact .inr ⟨fun z => by rcases List.mem_cons.mp z with z | z; exact q z.symm; exact h1 z, h2⟩
theorem wipe_in {σ : L2.St} : ∀ {vs : List Nat} {j : Nat}, j ∈ vs → j < σ.length → (wipe σ vs)[j]? = some none
  | v :: vs, j, h, hl => by
    unfold wipe
    by_cases q : v = j
    · subst q; rw [List.getElem?_set_self (by rw [wipe_length]; exact hl)]
    · rw [List.getElem?_set_ne q]
      rcases List.mem_cons.mp h with z | z
      · exact absurd z.symm q
      · exact wipe_in z hl
theorem wipe_out {σ : L2.St} : ∀ {vs : List Nat} {j : Nat}, j ∉ vs → (wipe σ vs)[j]? = σ[j]?
  | [], _, _ => rfl
  | v :: vs, j, h => by
    unfold wipe
    rw [List.getElem?_set_ne (fun z => h (by rw [z]; exact List.mem_cons_self ..)), wipe_out fun z => h (List.mem_cons_of_mem _ z)]
theorem wipe_eq {σ σ2 : L2.St} {vs is : List Nat} (hs : ∀ i ∈ is, i ∈ vs) (hl : σ2.length = σ.length) (h : ∀ j, j ∉ is → σ2[j]? = (wipe σ vs)[j]?) : wipe σ2 vs = wipe σ vs := by
  apply List.ext_getElem?
  intro j
  by_cases q : j ∈ vs
  · by_cases q2 : j < σ.length
    · rw [wipe_in q (by omega), wipe_in q q2]
    · rw [List.getElem?_eq_none (by rw [wipe_length]; omega), List.getElem?_eq_none (by rw [wipe_length]; omega)]
  · rw [wipe_out q, h j fun z => q (hs j z)]
section
variable {K : PySem.W.Frag} {A : ASet} {as : List Addr} {f : F} {σ σ' : L2.St} {H : Hp}
theorem Rel.wiped {own : List Nat} (R : Rel K A as f σ H) : Rel K A as { f with ρ := wipeL f.ρ own } (wipe σ own) H ∧ ∀ a, Lv A { f with ρ := wipeL f.ρ own } as (wipe σ own) a → Lv A f as σ a :=
  R.slots (wipeL_len _ _) (wipe_length _ _) fun j l e => by
    rcases wipeL_get e with ⟨_, h⟩ | ⟨h1, h2⟩
    · exact .inr (.inl h)
    · exact .inl ⟨h2, wipe_out h1⟩
theorem noOwn_get {ρ : List LV} {own : List Nat} (h : noOwn ρ own = true) {j : Nat} (hj : j ∈ own) {o : Ob} : ρ[j]? ≠ some (.own o) := fun e => by
  unfold noOwn at h
  have := List.all_eq_true.mp h j hj
  rw [e] at this
  cases this
theorem Rel.wiped_live {own : List Nat} (hn : noOwn f.ρ own = true) (R : Rel K A as f σ H) {a : Addr} (h : Own f as σ a) : Own { f with ρ := wipeL f.ρ own } as (wipe σ own) a := by
  rcases h with ⟨i, o, e, e'⟩ | h
  · have hi : i ∉ own := fun z => noOwn_get hn z e
    refine .inl ⟨i, o, ?_, by rw [wipe_out hi]; exact e'⟩
    have hlt : i < (wipeL f.ρ own).length := by rw [wipeL_len]; exact (List.getElem?_eq_some_iff.mp e).1
    obtain ⟨l, hl⟩ : ∃ l, (wipeL f.ρ own)[i]? = some l := ⟨_, List.getElem?_eq_getElem hlt⟩
    rcases wipeL_get hl with ⟨z, _⟩ | ⟨_, z⟩
    · exact absurd z hi
    · show (wipeL f.ρ own)[i]? = _
      rw [hl, ← z]; exact e
  · exact .inr h
end
/-- a clause's tests -/
def tTs (K : PySem.W.Frag) (G : Call) (es : List Ex) : TT := fun σ H Q => ∃ A as f b f', Rel K A as f σ H ∧ evT G es f = .ok (b, f') ∧ ∀ H', PostN K A as f σ H f' H' → Q b H'
theorem RdA.app1 {K : PySem.W.Frag} {L : ASet} {H : Hp} : ∀ {ds : List D} {vs : List V} {d : D} {v : V}, RdA K L H ds vs → Rd K L H d v → RdA K L H (ds ++ [d]) (vs ++ [v])
  | [], _, d, v, h, h' => by
    obtain rfl : _ = [] := h
    exact ⟨v, [], rfl, h', rfl⟩
  | e :: r, _, d, v, ⟨w, ws, e0, h1, h2⟩, h' => by
    subst e0
    exact ⟨w, ws ++ [v], rfl, h1, RdA.app1 h2 h'⟩
theorem Rel.frz1 {K : PySem.W.Frag} {A : ASet} {as : List Addr} {f : F} {σ : L2.St} {H : Hp} (v : Nat) (R : Rel K A as f σ H) : Rel K A as (frz1 f v) σ H ∧ Ext (Lv A f as σ) H (Lv A (frz1 f v) as σ) H := by
  unfold Vm.frz1
  split
  · rename_i o q
    obtain ⟨a, h1, h2, h3⟩ := R.so v o q
    obtain ⟨R1, rd, x1⟩ := frz_ok (rv := .vr v) (v := .ref a) (x := o.d) (f' := { f with ρ := f.ρ.set v (.d o.d) }) R ⟨a, rfl, h1⟩ (by unfold frz; dsimp only; rw [q])
    exact ⟨R1, x1⟩
  · exact ⟨R, Ext.refl⟩
theorem Rel.frzV {K : PySem.W.Frag} {A : ASet} {as : List Addr} {σ : L2.St} {H : Hp} : ∀ (vs : List Nat) {f : F}, Rel K A as f σ H → Rel K A as (frzV f vs) σ H ∧ Ext (Lv A f as σ) H (Lv A (frzV f vs) as σ) H
  | [], _, R => ⟨R, Ext.refl⟩
  | v :: vs, f, R => by
    obtain ⟨R1, x1⟩ := R.frz1 v
    obtain ⟨R2, x2⟩ := Rel.frzV vs R1
    exact ⟨R2, x1.trans x2⟩
theorem tD_lc {K : PySem.W.Frag} {G : Call} {σ : L2.St} {H : Hp} {t : Tg} {it : It} {ifs : List Ex} {e : Ex} {own : List Nat} {Q : VK} (h : tD K G (.lc t it ifs e own) σ H Q) :
    tLc (tI K G it) (tG K t) (tTs K G ifs) (tD K G e) own σ H Q := by
  obtain ⟨A, as, f, rv, f', R, he, hQ⟩ := h
  unfold evE at he
  obtain ⟨⟨ds0, f0⟩, e0, he⟩ := bind_ok he
  obtain ⟨⟨ds, f1'⟩, e1, ez⟩ := bind_ok e0
  cases ez
  clear e0
  dsimp only at he
  split at he
  · rename_i hc
    obtain ⟨hno, htg⟩ := hc
    obtain ⟨⟨res, f2⟩, e2, he⟩ := bind_ok he
    cases he
    refine ⟨A, as, f, ds, f1', R, e1, fun J H1 pn io D hD => ?_⟩
    obtain ⟨Rz, xz⟩ := pn.1.frzV own
    replace pn : PostN K A as f σ H (frzV f1' own) H1 := ⟨Rz, pn.2.1.trans xz, pn.2.2⟩
    replace io : ItOk K (Lv A (frzV f1' own) as σ) H1 J ds := io.ext xz
    generalize frzV f1' own = f1 at *
    let A1 : ASet := fun a => A a ∨ a = D
    let f10 : F := { f1 with ρ := wipeL f1.ρ own }
    have nAD : ∀ a, A a → a ≠ D := fun a ha z => by
      obtain ⟨o, q⟩ := pn.1.al a ha
      rw [z, hD] at q; cases q
    obtain ⟨R1, x1, k1⟩ := pn.1.laid (o := .lst []) hD
    have R10 := R1.wiped (own := own)
    have lv10 : ∀ a, Lv A1 f10 as (wipe σ own) a ↔ Lv A1 f1 as σ a := fun a => ⟨R10.2 a, fun z => z.imp id (Rel.wiped_live hno R1)⟩
    have eq10 : Lv A1 f10 as (wipe σ own) = Lv A1 f1 as σ := by funext a; exact propext (lv10 a)
    have wlen : (wipe σ own).length = σ.length := wipe_length _ _
    -- the state ahead of a turn
    let P : Nat → Hp → Prop := fun i H2 => ∃ fi acc, Rel K A1 as fi (wipe σ own) H2 ∧ ObR K (Lv A1 fi as (wipe σ own)) H2 D (.lst acc) ∧
      lcLoop (evT G ifs) (evE G e) t own (ds.drop i) acc fi = .ok (res, f2) ∧ Ext (Lv A1 f1 as σ) (upd H1 D (.lst [])) (Lv A1 fi as (wipe σ own)) H2 ∧ (∀ a, A a → H2 a = H1 a) ∧ fi.ρ.length = f1.ρ.length
    refine ⟨fun i m H2 => m = ds.length - i ∧ i ≤ ds.length ∧ P i H2, ⟨_, rfl, Nat.zero_le _, f10, [], R10.1, ⟨[], upd_same, rfl⟩, e2, by rw [eq10]; exact Ext.refl, fun a ha => upd_ne (nAD a ha), wipeL_len _ _⟩, ?_⟩
    rintro i m H2 ⟨rfl, hi, fi, acc, Ri, ob, hl, xi, ki, li⟩
    have io' : ItOk K (Lv A1 fi as (wipe σ own)) H2 J ds := io.ext (x1.trans xi)
    by_cases hlt : i < ds.length
    · have hd : ds[i]? = some ds[i] := by simp [hlt]
      have hdrop : ds.drop i = ds[i] :: ds.drop (i + 1) := List.drop_eq_getElem_cons hlt
      rw [hdrop] at hl
      unfold lcLoop at hl
      obtain ⟨ρ1, b1, hl⟩ := bind_ok hl
      have b1 := ofOpt_ok b1
      obtain ⟨⟨b, g1⟩, b2, hl⟩ := bind_ok hl
      dsimp only at hl
      obtain ⟨go, yld⟩ := (io' _ _ Ext.refl).2 i _ hd
      refine .inr ⟨go, P (i + 1), fun H' p => ⟨ds.length - (i + 1), by omega, rfl, hlt, p⟩, fun x H3 hy => ?_⟩
      have py := op_post Ri (yld x H3 hy).1
      obtain ⟨pny, rdy⟩ := py.kept (y := ds[i]) (f'' := fi) (congrArg (fun z => some (z, fi)) (yld x H3 hy).2)
      refine ⟨A1, as, fi, _, ρ1, pny.1, rdy, b1, fun σ2 bp => ?_⟩
      have hw : wipe σ2 own = wipe σ own := by
        refine wipe_eq (is := tgI t) (fun i hi => ?_) (bp.2.2.1.trans wlen) fun j hj => bp.2.2.2 j hj
        have := List.all_eq_true.mp htg i hi
        simpa using this
      refine ⟨hw, A1, as, _, b, g1, bp.1, b2, fun H4 p4 => ?_⟩
      have k4 : ∀ a, A1 a → H4 a = H2 a := fun a ha => (p4.2.2 a ha).trans (pny.2.2 a ha)
      have x4 : Ext (Lv A1 fi as (wipe σ own)) H2 (Lv A1 g1 as σ2) H4 := (pny.2.1.trans bp.2.1).trans p4.2.1
      obtain ⟨accV, hDv, rdv⟩ := ob
      have fin : ∀ {g : F} {H5 : Hp} {acc' : List PyData}, Rel K A1 as g σ2 H5 → Ext (Lv A1 f1 as σ) (upd H1 D (.lst [])) (Lv A1 g as σ2) H5 → (∀ a, A a → H5 a = H1 a) → ObR K (Lv A1 g as σ2) H5 D (.lst acc') →
          lcLoop (evT G ifs) (evE G e) t own (ds.drop (i + 1)) acc' { g with ρ := wipeL g.ρ own } = .ok (res, f2) → P (i + 1) H5 := fun {g H5 acc'} Rg xg kg og hl => by
        have W := Rg.wiped (own := own)
        rw [hw] at W
        have xw : Ext (Lv A1 g as σ2) H5 (Lv A1 { g with ρ := wipeL g.ρ own } as (wipe σ own)) H5 := Ext.less W.2
        refine ⟨_, acc', W.1, og.ext xw rfl, hl, xg.trans xw, kg, ?_⟩
        have e1 := W.1.lenσ
        have e2 := R1.lenσ
        rw [wlen] at e1
        exact e1.symm.trans e2
      cases b with
      | false =>
        simp only [Bool.false_eq_true, if_false] at hl ⊢
        exact fin p4.1 (xi.trans x4) (fun a ha => (k4 a (.inl ha)).trans (ki a ha)) ⟨accV, (k4 D (.inr rfl)).trans hDv, rdv.ext x4⟩ hl
      | true =>
        simp only [if_true] at hl ⊢
        obtain ⟨⟨r, g2⟩, b3, hl⟩ := bind_ok hl
        obtain ⟨⟨y, g3⟩, b4, hl⟩ := bind_ok hl
        have b4 := ofOpt_ok b4
        dsimp only at hl b4
        split at hl
        · rename_i hz
          refine ⟨A1, as, g1, r, g2, p4.1, b3, fun yv H5 p5 => ?_⟩
          obtain ⟨pn5, rd5⟩ := p5.kept b4
          have k5 : ∀ a, A1 a → H5 a = H2 a := fun a ha => (pn5.2.2 a ha).trans (k4 a ha)
          have x5 : Ext (Lv A1 fi as (wipe σ own)) H2 (Lv A1 g3 as σ2) H5 := x4.trans pn5.2.1
          refine ⟨accV, (k5 D (.inr rfl)).trans hDv, by rw [sizeLine_eq]; rw [rdv.len]; exact hz, ?_⟩
          -- the item is put in
          have x6 : Ext (Lv A1 g3 as σ2) H5 (Lv A1 g3 as σ2) (upd H5 D (.lst (accV ++ [yv]))) := fun a o q n => ⟨by rw [upd_ne (fun z => n (.inl (.inr z)))]; exact q, n⟩
          have R6 : Rel K A1 as g3 σ2 (upd H5 D (.lst (accV ++ [yv]))) := by
            refine pn5.1.step (fun a ha => ?_) x6 (fun a ho => upd_ne fun z => ?_) fun a ho z => pn5.1.nA ho z
            · by_cases q : a = D
              · subst q; exact ⟨_, upd_same⟩
              · rw [upd_ne q]; exact pn5.1.al a ha
            · exact pn5.1.nA ho (.inr z)
          exact fin R6 ((xi.trans x5).trans x6) (fun a ha => by rw [upd_ne (nAD a ha)]; exact (k5 a (.inl ha)).trans (ki a ha)) ⟨_, upd_same, ((rdv.ext x5).app1 rd5).ext x6⟩ hl
        · cases hl
    · have hn : i = ds.length := by omega
      subst hn
      rw [List.drop_length] at hl
      unfold lcLoop at hl
      cases hl
      refine .inl ⟨(io' _ _ Ext.refl).1, hQ _ _ ?_⟩
      have xf : Ext (Lv A1 f1 as σ) H1 (Lv A1 f2 as (wipe σ own)) H2 := by
        intro a o q n
        by_cases z : a = D
        · rw [z, hD] at q; cases q
        · exact xi a o (by rw [upd_ne z]; exact q) n
      have B := Ri.slots (ρ' := backL f1.ρ f2.ρ own) (σ' := σ) (backL_len _ _ _) wlen.symm fun j l q => by
        rcases backL_get q with ⟨hj, rfl⟩ | ⟨hj, q'⟩
        · cases q1 : f1.ρ[j]? with
          | none => exact .inr (.inl (by rw [List.getD_eq_getElem?_getD, q1]; rfl))
          | some l =>
            rw [List.getD_eq_getElem?_getD, q1]
            cases l with
            | no => exact .inr (.inl rfl)
            | d x =>
              obtain ⟨v, h1, h2⟩ := pn.1.sd j x q1
              exact .inr (.inr (.inl ⟨x, v, rfl, h1, h2.ext (x1.trans xi)⟩))
            | own o => exact absurd q1 (noOwn_get hno hj)
            | c n =>
              obtain ⟨a, h1, h2⟩ := pn.1.sc j n q1
              exact .inr (.inr (.inr ⟨n, a, rfl, h1, h2⟩))
        · exact .inl ⟨q', (wipe_out hj).symm⟩
      have xb : Ext (Lv A1 f2 as (wipe σ own)) H2 (Lv A1 { f2 with ρ := backL f1.ρ f2.ρ own } as σ) H2 := Ext.less B.2
      refine ⟨A1, fun a ha => .inl ha, B.1, ⟨D, rfl, .inr rfl, ob.ext xb rfl⟩, fun o _ a ea ha => ?_, ?_, fun a ha => (ki a ha).trans (pn.2.2 a ha)⟩
      · cases ea; exact nAD D ha rfl
      · exact (pn.2.1.trans (x1.trans xi)).trans xb
  · cases he
/-! ### two clauses -/
theorem wipe_wipe {σ : L2.St} {vs1 vs : List Nat} (h : ∀ i ∈ vs1, i ∈ vs) : wipe (wipe σ vs1) vs = wipe σ vs :=
  wipe_eq (is := vs) (fun i hi => hi) (wipe_length _ _) fun j hj => by rw [wipe_out fun z => hj (h j z), wipe_out hj]
/-- the inner clause, from a turn of the outer one -/
theorem lc_inner {K : PySem.W.Frag} {G : Call} {A : ASet} {as : List Addr} {t1 : Tg} {ifs1 : List Ex} {e : Ex} {own1 : List Nat} {σ2 : L2.St} {H0 : Hp} {J1 : L2.It} {ys acc0 acc' : List D} {f0 f3 : F} {D : Addr} {Nx : Hp → Prop}
    (hAD : A D) (htg : (tgI t1).all (own1.contains ·) = true) (R0 : Rel K A as f0 (wipe σ2 own1) H0) (ob0 : ObR K (Lv A f0 as (wipe σ2 own1)) H0 D (.lst acc0)) (io : ItOk K (Lv A f0 as (wipe σ2 own1)) H0 J1 ys)
    (e0 : lcLoop (evT G ifs1) (evE G e) t1 own1 ys acc0 f0 = .ok (acc', f3))
    (fin : ∀ H', Rel K A as f3 (wipe σ2 own1) H' → ObR K (Lv A f3 as (wipe σ2 own1)) H' D (.lst acc') → Ext (Lv A f0 as (wipe σ2 own1)) H0 (Lv A f3 as (wipe σ2 own1)) H' → (∀ a, A a → a ≠ D → H' a = H0 a) → f3.ρ.length = f0.ρ.length → Nx H') :
    ∃ W1 : Nat → Nat → Hp → Prop, (∃ m, W1 0 m H0) ∧ ∀ j k H, W1 j k H → (J1.stop j H ∧ Nx H) ∨ (J1.go j H ∧ ∃ Nx1 : Hp → Prop, (∀ H', Nx1 H' → ∃ k', k' < k ∧ W1 (j + 1) k' H') ∧ ∀ x H', J1.yld j H x H' →
      tG K t1 x (wipe σ2 own1) H' fun σ3 H5 => wipe σ3 own1 = wipe σ2 own1 ∧ tTs K G ifs1 σ3 H5 fun b H6 => if b = true then tD K G e σ3 H6 fun y H7 => ∃ acc, H7 D = some (.lst acc) ∧ acc.length < sizeLine ∧ Nx1 (upd H7 D (.lst (acc ++ [y]))) else Nx1 H6) := by
  let P : Nat → Hp → Prop := fun i H2 => ∃ fi acc, Rel K A as fi (wipe σ2 own1) H2 ∧ ObR K (Lv A fi as (wipe σ2 own1)) H2 D (.lst acc) ∧
    lcLoop (evT G ifs1) (evE G e) t1 own1 (ys.drop i) acc fi = .ok (acc', f3) ∧ Ext (Lv A f0 as (wipe σ2 own1)) H0 (Lv A fi as (wipe σ2 own1)) H2 ∧ (∀ a, A a → a ≠ D → H2 a = H0 a) ∧ fi.ρ.length = f0.ρ.length
  refine ⟨fun i m H2 => m = ys.length - i ∧ i ≤ ys.length ∧ P i H2, ⟨_, rfl, Nat.zero_le _, f0, acc0, R0, ob0, e0, Ext.refl, fun _ _ _ => rfl, rfl⟩, ?_⟩
  rintro i m H2 ⟨rfl, hi, fi, acc, Ri, ob, hl, xi, ki, li⟩
  have io' : ItOk K (Lv A fi as (wipe σ2 own1)) H2 J1 ys := io.ext xi
  have wlen : (wipe σ2 own1).length = σ2.length := wipe_length _ _
  by_cases hlt : i < ys.length
  · have hd : ys[i]? = some ys[i] := by simp [hlt]
    rw [List.drop_eq_getElem_cons hlt] at hl
    unfold lcLoop at hl
    obtain ⟨ρ1, b1, hl⟩ := bind_ok hl
    have b1 := ofOpt_ok b1
    obtain ⟨⟨b, g1⟩, b2, hl⟩ := bind_ok hl
    dsimp only at hl
    obtain ⟨go, yld⟩ := (io' _ _ Ext.refl).2 i _ hd
    refine .inr ⟨go, P (i + 1), fun H' p => ⟨ys.length - (i + 1), by omega, rfl, hlt, p⟩, fun x H3 hy => ?_⟩
    have py := op_post Ri (yld x H3 hy).1
    obtain ⟨pny, rdy⟩ := py.kept (y := ys[i]) (f'' := fi) (congrArg (fun z => some (z, fi)) (yld x H3 hy).2)
    refine ⟨A, as, fi, _, ρ1, pny.1, rdy, b1, fun σ3 bp => ?_⟩
    have hw : wipe σ3 own1 = wipe σ2 own1 := by
      refine wipe_eq (is := tgI t1) (fun i hi => ?_) (bp.2.2.1.trans wlen) fun j hj => bp.2.2.2 j hj
      have := List.all_eq_true.mp htg i hi
      simpa using this
    refine ⟨hw, A, as, _, b, g1, bp.1, b2, fun H4 p4 => ?_⟩
    have k4 : ∀ a, A a → H4 a = H2 a := fun a ha => (p4.2.2 a ha).trans (pny.2.2 a ha)
    have x4 : Ext (Lv A fi as (wipe σ2 own1)) H2 (Lv A g1 as σ3) H4 := (pny.2.1.trans bp.2.1).trans p4.2.1
    obtain ⟨accV, hDv, rdv⟩ := ob
    have again : ∀ {g : F} {H5 : Hp} {acc1 : List PyData}, Rel K A as g σ3 H5 → Ext (Lv A f0 as (wipe σ2 own1)) H0 (Lv A g as σ3) H5 → (∀ a, A a → a ≠ D → H5 a = H0 a) → ObR K (Lv A g as σ3) H5 D (.lst acc1) →
        lcLoop (evT G ifs1) (evE G e) t1 own1 (ys.drop (i + 1)) acc1 { g with ρ := wipeL g.ρ own1 } = .ok (acc', f3) → P (i + 1) H5 := fun {g H5 acc1} Rg xg kg og hl => by
      have W := Rg.wiped (own := own1)
      rw [hw] at W
      have xw : Ext (Lv A g as σ3) H5 (Lv A { g with ρ := wipeL g.ρ own1 } as (wipe σ2 own1)) H5 := Ext.less W.2
      refine ⟨_, acc1, W.1, og.ext xw rfl, hl, xg.trans xw, kg, ?_⟩
      exact W.1.lenσ.symm.trans R0.lenσ
    cases b with
    | false =>
      simp only [Bool.false_eq_true, if_false] at hl ⊢
      exact again p4.1 (xi.trans x4) (fun a ha hn => (k4 a ha).trans (ki a ha hn)) ⟨accV, (k4 D hAD).trans hDv, rdv.ext x4⟩ hl
    | true =>
      simp only [if_true] at hl ⊢
      obtain ⟨⟨r, g2⟩, b3, hl⟩ := bind_ok hl
      obtain ⟨⟨y, g3⟩, b4, hl⟩ := bind_ok hl
      have b4 := ofOpt_ok b4
      dsimp only at hl b4
      split at hl
      · rename_i hz
        refine ⟨A, as, g1, r, g2, p4.1, b3, fun yv H5 p5 => ?_⟩
        obtain ⟨pn5, rd5⟩ := p5.kept b4
        have k5 : ∀ a, A a → H5 a = H2 a := fun a ha => (pn5.2.2 a ha).trans (k4 a ha)
        have x5 : Ext (Lv A fi as (wipe σ2 own1)) H2 (Lv A g3 as σ3) H5 := x4.trans pn5.2.1
        refine ⟨accV, (k5 D hAD).trans hDv, by rw [sizeLine_eq]; rw [rdv.len]; exact hz, ?_⟩
        have x6 : Ext (Lv A g3 as σ3) H5 (Lv A g3 as σ3) (upd H5 D (.lst (accV ++ [yv]))) := fun a o q n => ⟨by rw [upd_ne (show a ≠ D from fun z => n (.inl (by rw [z]; exact hAD)))]; exact q, n⟩
        have R6 : Rel K A as g3 σ3 (upd H5 D (.lst (accV ++ [yv]))) := by
          refine pn5.1.step (fun a ha => ?_) x6 (fun a ho => upd_ne fun z => ?_) fun a ho z => pn5.1.nA ho z
          · by_cases q : a = D
            · subst q; exact ⟨_, upd_same⟩
            · rw [upd_ne q]; exact pn5.1.al a ha
          · exact pn5.1.nA ho (by rw [z]; exact hAD)
        exact again R6 ((xi.trans x5).trans x6) (fun a ha hn => by rw [upd_ne hn]; exact (k5 a ha).trans (ki a ha hn)) ⟨_, upd_same, ((rdv.ext x5).app1 rd5).ext x6⟩ hl
      · cases hl
  · have hn : i = ys.length := by omega
    subst hn
    rw [List.drop_length] at hl
    unfold lcLoop at hl
    cases hl
    exact .inl ⟨(io' _ _ Ext.refl).1, fin H2 Ri ob xi ki li⟩
theorem tD_lc2 {K : PySem.W.Frag} {G : Call} {σ : L2.St} {H : Hp} {t t1 : Tg} {it it1 : It} {ifs ifs1 : List Ex} {e : Ex} {own own1 : List Nat} {Q : VK} (h : tD K G (.lc2 t it ifs t1 it1 ifs1 e own own1) σ H Q) :
    tLc2 (tI K G it) (tG K t) (tTs K G ifs) (tI K G it1) (tG K t1) (tTs K G ifs1) (tD K G e) own own1 σ H Q := by
  obtain ⟨A, as, f, rv, f', R, he, hQ⟩ := h
  unfold evE at he
  obtain ⟨⟨ds0, f0⟩, e0, he⟩ := bind_ok he
  obtain ⟨⟨ds, f1'⟩, e1, ez⟩ := bind_ok e0
  cases ez
  clear e0
  dsimp only at he
  split at he
  · rename_i hc
    obtain ⟨hno, htg, htg1, hsub⟩ := hc
    have hsub' : ∀ i ∈ own1, i ∈ own := fun i hi => by have := List.all_eq_true.mp hsub i hi; simpa using this
    obtain ⟨⟨res, f2⟩, e2, he⟩ := bind_ok he
    cases he
    refine ⟨A, as, f, ds, f1', R, e1, fun J H1 pn io D hD => ?_⟩
    obtain ⟨Rz, xz⟩ := pn.1.frzV own
    replace pn : PostN K A as f σ H (frzV f1' own) H1 := ⟨Rz, pn.2.1.trans xz, pn.2.2⟩
    replace io : ItOk K (Lv A (frzV f1' own) as σ) H1 J ds := io.ext xz
    generalize frzV f1' own = f1 at *
    let A1 : ASet := fun a => A a ∨ a = D
    let f10 : F := { f1 with ρ := wipeL f1.ρ own }
    have nAD : ∀ a, A a → a ≠ D := fun a ha z => by
      obtain ⟨o, q⟩ := pn.1.al a ha
      rw [z, hD] at q; cases q
    obtain ⟨R1, x1, k1⟩ := pn.1.laid (o := .lst []) hD
    have R10 := R1.wiped (own := own)
    have lv10 : ∀ a, Lv A1 f10 as (wipe σ own) a ↔ Lv A1 f1 as σ a := fun a => ⟨R10.2 a, fun z => z.imp id (Rel.wiped_live hno R1)⟩
    have eq10 : Lv A1 f10 as (wipe σ own) = Lv A1 f1 as σ := by funext a; exact propext (lv10 a)
    have wlen : (wipe σ own).length = σ.length := wipe_length _ _
    let P : Nat → Hp → Prop := fun i H2 => ∃ fi acc, Rel K A1 as fi (wipe σ own) H2 ∧ ObR K (Lv A1 fi as (wipe σ own)) H2 D (.lst acc) ∧
      lc2Loop (evT G ifs) (evI G it1) (evT G ifs1) (evE G e) t t1 own own1 (ds.drop i) acc fi = .ok (res, f2) ∧ Ext (Lv A1 f1 as σ) (upd H1 D (.lst [])) (Lv A1 fi as (wipe σ own)) H2 ∧ (∀ a, A a → H2 a = H1 a) ∧ fi.ρ.length = f1.ρ.length
    refine ⟨fun i m H2 => m = ds.length - i ∧ i ≤ ds.length ∧ P i H2, ⟨_, rfl, Nat.zero_le _, f10, [], R10.1, ⟨[], upd_same, rfl⟩, e2, by rw [eq10]; exact Ext.refl, fun a ha => upd_ne (nAD a ha), wipeL_len _ _⟩, ?_⟩
    rintro i m H2 ⟨rfl, hi, fi, acc, Ri, ob, hl, xi, ki, li⟩
    have io' : ItOk K (Lv A1 fi as (wipe σ own)) H2 J ds := io.ext (x1.trans xi)
    by_cases hlt : i < ds.length
    · have hd : ds[i]? = some ds[i] := by simp [hlt]
      have hdrop : ds.drop i = ds[i] :: ds.drop (i + 1) := List.drop_eq_getElem_cons hlt
      rw [hdrop] at hl
      unfold lc2Loop at hl
      obtain ⟨ρ1, b1, hl⟩ := bind_ok hl
      have b1 := ofOpt_ok b1
      obtain ⟨⟨b, g1⟩, b2, hl⟩ := bind_ok hl
      dsimp only at hl
      obtain ⟨go, yld⟩ := (io' _ _ Ext.refl).2 i _ hd
      refine .inr ⟨go, P (i + 1), fun H' p => ⟨ds.length - (i + 1), by omega, rfl, hlt, p⟩, fun x H3 hy => ?_⟩
      have py := op_post Ri (yld x H3 hy).1
      obtain ⟨pny, rdy⟩ := py.kept (y := ds[i]) (f'' := fi) (congrArg (fun z => some (z, fi)) (yld x H3 hy).2)
      refine ⟨A1, as, fi, _, ρ1, pny.1, rdy, b1, fun σ2 bp => ?_⟩
      have hw : wipe σ2 own = wipe σ own := by
        refine wipe_eq (is := tgI t) (fun i hi => ?_) (bp.2.2.1.trans wlen) fun j hj => bp.2.2.2 j hj
        have := List.all_eq_true.mp htg i hi
        simpa using this
      refine ⟨hw, A1, as, _, b, g1, bp.1, b2, fun H4 p4 => ?_⟩
      have k4 : ∀ a, A1 a → H4 a = H2 a := fun a ha => (p4.2.2 a ha).trans (pny.2.2 a ha)
      have x4 : Ext (Lv A1 fi as (wipe σ own)) H2 (Lv A1 g1 as σ2) H4 := (pny.2.1.trans bp.2.1).trans p4.2.1
      obtain ⟨accV, hDv, rdv⟩ := ob
      have fin : ∀ {g : F} {σ9 : L2.St} {H5 : Hp} {acc' : List PyData}, wipe σ9 own = wipe σ own → Rel K A1 as g σ9 H5 → Ext (Lv A1 f1 as σ) (upd H1 D (.lst [])) (Lv A1 g as σ9) H5 → (∀ a, A a → H5 a = H1 a) → ObR K (Lv A1 g as σ9) H5 D (.lst acc') →
          lc2Loop (evT G ifs) (evI G it1) (evT G ifs1) (evE G e) t t1 own own1 (ds.drop (i + 1)) acc' { g with ρ := wipeL g.ρ own } = .ok (res, f2) → P (i + 1) H5 := fun {g σ9 H5 acc'} hw9 Rg xg kg og hl => by
        have W := Rg.wiped (own := own)
        rw [hw9] at W
        have xw : Ext (Lv A1 g as σ9) H5 (Lv A1 { g with ρ := wipeL g.ρ own } as (wipe σ own)) H5 := Ext.less W.2
        refine ⟨_, acc', W.1, og.ext xw rfl, hl, xg.trans xw, kg, ?_⟩
        have e1 := W.1.lenσ
        have e2 := R1.lenσ
        rw [wlen] at e1
        exact e1.symm.trans e2
      cases b with
      | false =>
        simp only [Bool.false_eq_true, if_false] at hl ⊢
        exact fin hw p4.1 (xi.trans x4) (fun a ha => (k4 a (.inl ha)).trans (ki a ha)) ⟨accV, (k4 D (.inr rfl)).trans hDv, rdv.ext x4⟩ hl
      | true =>
        simp only [if_true] at hl ⊢
        obtain ⟨⟨ys, g2⟩, b3, hl⟩ := bind_ok hl
        obtain ⟨⟨acc', g3⟩, b4, hl⟩ := bind_ok hl
        dsimp only at hl b4
        refine ⟨A1, as, g1, ys, g2, p4.1, b3, fun J1 H5 pn5 io5 => ?_⟩
        have k5 : ∀ a, A1 a → H5 a = H2 a := fun a ha => (pn5.2.2 a ha).trans (k4 a ha)
        have x5 : Ext (Lv A1 fi as (wipe σ own)) H2 (Lv A1 g2 as σ2) H5 := x4.trans pn5.2.1
        have W := pn5.1.wiped (own := own1)
        have xw : Ext (Lv A1 g2 as σ2) H5 (Lv A1 { g2 with ρ := wipeL g2.ρ own1 } as (wipe σ2 own1)) H5 := Ext.less W.2
        have ob5 : ObR K (Lv A1 { g2 with ρ := wipeL g2.ρ own1 } as (wipe σ2 own1)) H5 D (.lst acc) := ⟨accV, (k5 D (.inr rfl)).trans hDv, (rdv.ext x5).ext xw⟩
        refine lc_inner (Nx := P (i + 1)) (D := D) (.inr rfl) htg1 W.1 ob5 (io5.ext xw) b4 fun H6 R6 ob6 x6 k6 _ => ?_
        have hw9 : wipe (wipe σ2 own1) own = wipe σ own := (wipe_wipe hsub').trans hw
        exact fin hw9 R6 (((xi.trans x5).trans xw).trans x6) (fun a ha => (k6 a (.inl ha) (nAD a ha)).trans ((k5 a (.inl ha)).trans (ki a ha))) ob6 hl
    · have hn : i = ds.length := by omega
      subst hn
      rw [List.drop_length] at hl
      unfold lc2Loop at hl
      cases hl
      refine .inl ⟨(io' _ _ Ext.refl).1, hQ _ _ ?_⟩
      have xf : Ext (Lv A1 f1 as σ) H1 (Lv A1 f2 as (wipe σ own)) H2 := by
        intro a o q n
        by_cases z : a = D
        · rw [z, hD] at q; cases q
        · exact xi a o (by rw [upd_ne z]; exact q) n
      have B := Ri.slots (ρ' := backL f1.ρ f2.ρ own) (σ' := σ) (backL_len _ _ _) wlen.symm fun j l q => by
        rcases backL_get q with ⟨hj, rfl⟩ | ⟨hj, q'⟩
        · cases q1 : f1.ρ[j]? with
          | none => exact .inr (.inl (by rw [List.getD_eq_getElem?_getD, q1]; rfl))
          | some l =>
            rw [List.getD_eq_getElem?_getD, q1]
            cases l with
            | no => exact .inr (.inl rfl)
            | d x =>
              obtain ⟨v, h1, h2⟩ := pn.1.sd j x q1
              exact .inr (.inr (.inl ⟨x, v, rfl, h1, h2.ext (x1.trans xi)⟩))
            | own o => exact absurd q1 (noOwn_get hno hj)
            | c n =>
              obtain ⟨a, h1, h2⟩ := pn.1.sc j n q1
              exact .inr (.inr (.inr ⟨n, a, rfl, h1, h2⟩))
        · exact .inl ⟨q', (wipe_out hj).symm⟩
      have xb : Ext (Lv A1 f2 as (wipe σ own)) H2 (Lv A1 { f2 with ρ := backL f1.ρ f2.ρ own } as σ) H2 := Ext.less B.2
      refine ⟨A1, fun a ha => .inl ha, B.1, ⟨D, rfl, .inr rfl, ob.ext xb rfl⟩, fun o _ a ea ha => ?_, ?_, fun a ha => (ki a ha).trans (pn.2.2 a ha)⟩
      · cases ea; exact nAD D ha rfl
      · exact (pn.2.1.trans (x1.trans xi)).trans xb
  · cases he
end Vm
set_option maxRecDepth 100000
set_option maxHeartbeats 1000000
namespace Vm
open PySem PySem.Spec L2
/-! ### a comprehension over a list in a slot, which stays as it is -/
mutual
theorem eqD_eq : ∀ {a b : D}, eqD a b = true → a = b
  | .none, .none, _ => rfl
  | .bool a, .bool b, h => by unfold eqD at h; rw [eq_of_beq h]
  | .int a, .int b, h => by unfold eqD at h; rw [eq_of_beq h]
  | .str a, .str b, h => by unfold eqD at h; rw [of_decide_eq_true h]
  | .list a, .list b, h => by unfold eqD at h; rw [eqDs_eq h]
  | .tuple a, .tuple b, h => by unfold eqD at h; rw [eqDs_eq h]
  | .none, .bool _, h | .none, .int _, h | .none, .str _, h | .none, .list _, h | .none, .tuple _, h | .none, .dict _, h => by unfold eqD at h; cases h
  | .bool _, .none, h | .bool _, .int _, h | .bool _, .str _, h | .bool _, .list _, h | .bool _, .tuple _, h | .bool _, .dict _, h => by unfold eqD at h; cases h
  | .int _, .none, h | .int _, .bool _, h | .int _, .str _, h | .int _, .list _, h | .int _, .tuple _, h | .int _, .dict _, h => by unfold eqD at h; cases h
  | .str _, .none, h | .str _, .bool _, h | .str _, .int _, h | .str _, .list _, h | .str _, .tuple _, h | .str _, .dict _, h => by unfold eqD at h; cases h
  | .list _, .none, h | .list _, .bool _, h | .list _, .int _, h | .list _, .str _, h | .list _, .tuple _, h | .list _, .dict _, h => by unfold eqD at h; cases h
  | .tuple _, .none, h | .tuple _, .bool _, h | .tuple _, .int _, h | .tuple _, .str _, h | .tuple _, .list _, h | .tuple _, .dict _, h => by unfold eqD at h; cases h
  | .dict _, b, h => by cases b <;> (unfold eqD at h; cases h)
theorem eqDs_eq : ∀ {a b : List D}, eqDs a b = true → a = b
  | [], [], _ => rfl
  | x :: xs, y :: ys, h => by
    unfold eqDs at h
    simp only [Bool.and_eq_true] at h
    rw [eqD_eq h.1, eqDs_eq h.2]
  | [], _ :: _, h => by unfold eqDs at h; cases h
  | _ :: _, [], h => by unfold eqDs at h; cases h
end
theorem keep_at {j : Nat} {ds : List D} {f : F} (h : keepB j ds f = true) : lstAt f j = some ds := by
  unfold keepB at h
  split at h
  · rename_i xs e
    rw [e, eqDs_eq h]
  · cases h
mutual
theorem bindT_out {j : Nat} : ∀ {t : Tg} {d : D} {ρ ρ1 : List LV}, bindT t d ρ = some ρ1 → j ∉ tgI t → ρ1[j]? = ρ[j]?
  | .name i, d, ρ, ρ1, h, n => by
    unfold bindT at h
    cases h
    rw [List.getElem?_set_ne]
    intro z
    exact n (by unfold tgI; rw [z]; exact List.mem_singleton_self _)
  | .tup ts, .tuple ds, ρ, ρ1, h, n => by
    unfold bindT at h
    exact bindTs_out h (by unfold tgI at n; exact n)
  | .tup ts, .none, ρ, ρ1, h, n | .tup ts, .bool _, ρ, ρ1, h, n | .tup ts, .int _, ρ, ρ1, h, n | .tup ts, .str _, ρ, ρ1, h, n | .tup ts, .list _, ρ, ρ1, h, n | .tup ts, .dict _, ρ, ρ1, h, n => by unfold bindT at h; cases h
theorem bindTs_out {j : Nat} : ∀ {ts : List Tg} {ds : List D} {ρ ρ1 : List LV}, bindTs ts ds ρ = some ρ1 → j ∉ tgIs ts → ρ1[j]? = ρ[j]?
  | [], [], ρ, ρ1, h, n => by unfold bindTs at h; cases h; rfl
  | t :: ts, d :: ds, ρ, ρ1, h, n => by
    unfold bindTs at h
    obtain ⟨ρ2, h1, h2⟩ := obind h
    unfold tgIs at n
    rw [List.mem_append, not_or] at n
    rw [bindTs_out h2 n.2, bindT_out h1 n.1]
  | [], _ :: _, ρ, ρ1, h, n => by unfold bindTs at h; cases h
  | _ :: _, [], ρ, ρ1, h, n => by unfold bindTs at h; cases h
end
theorem keep_bind {j : Nat} {ds : List D} {t : Tg} {d : D} {f : F} {ρ1 : List LV} (h : bindT t d f.ρ = some ρ1) (n : j ∉ tgI t) : keepB j ds f = keepB j ds { f with ρ := ρ1 } := by
  unfold keepB lstAt
  rw [show ({ f with ρ := ρ1 } : F).ρ[j]? = f.ρ[j]? from bindT_out h n]
section
variable {K : PySem.W.Frag} {A : ASet} {as : List Addr} {f : F} {σ : L2.St} {H : Hp}
theorem lst_rd {j : Nat} {ds : List D} {a : Addr} (R : Rel K A as f σ H) (hs : σ[j]? = some (some (.ref a))) (h : lstAt f j = some ds) : ∃ vs, LL K H a vs ∧ RdA K (Lv A f as σ) H ds vs := by
  unfold lstAt at h
  split at h
  · rename_i xs q
    cases h
    obtain ⟨b, h1, h2, _⟩ := R.so j _ q
    rw [hs] at h1
    cases h1
    obtain ⟨vs, e, r⟩ := h2
    exact ⟨vs, .inl (.inl e), r⟩
  · rename_i n q
    obtain ⟨b, h1, h2⟩ := R.sc j n q
    rw [hs] at h2
    cases h2
    split at h
    · rename_i xs q2
      cases h
      obtain ⟨vs, e, r⟩ := (R.co n _ a q2 h1).1
      exact ⟨vs, .inl (.inl e), r⟩
    · rename_i xs q2
      cases h
      have h2 := (R.cd n _ a q2 h1).1
      unfold Rd at h2
      obtain ⟨b, vs, e, s, r⟩ := h2
      cases e
      exact ⟨vs, s.ll, r⟩
    · cases h
  · cases h
theorem keep_it {j : Nat} {ds : List D} {a : Addr} (R : Rel K A as f σ H) (hs : σ[j]? = some (some (.ref a))) (h : keepB j ds f = true) :
    (Itl K a).stop ds.length H ∧ ∀ i d, ds[i]? = some d → (Itl K a).go i H ∧ ∀ x H'', (Itl K a).yld i H x H'' → OpPost K (Lv A f as σ) H (.d d) x H'' ∧ norm d = d := by
  obtain ⟨vs, s, r⟩ := lst_rd R hs (keep_at h)
  refine ⟨⟨vs, s.sq, by rw [r.len]; exact Nat.le_refl _⟩, fun i d hd => ?_⟩
  obtain ⟨v, h1, h2⟩ := r.get hd
  refine ⟨⟨vs, v, s.sq, h1⟩, fun y H'' hy => ?_⟩
  obtain ⟨rfl, hy⟩ := hy
  have := hy vs s.sq
  rw [h1] at this; cases this
  exact ⟨.inl ⟨rfl, h2⟩, h2.norm⟩
end
def tIK (K : PySem.W.Frag) (j : Nat) : TI := fun σ H R => ∃ A as f ds, Rel K A as f σ H ∧ lstAt f j = some ds ∧ ∀ a H1, PostN K A as f σ H f H1 → σ[j]? = some (some (.ref a)) → R (Itl K a) H1
theorem pi_lstK {X : Cx} {G : Call} {tg e : Expr} {j : Nat} (h : PE X e (tD X.K G (.v j))) : PI X tg e (tIK X.K j) := by
  refine PI.imp (pi_list h) fun σ H R q => ?_
  obtain ⟨A, as, f, ds, R0, e1, hR⟩ := q
  have e2 := e1
  unfold lstAt at e2
  split at e2
  · rename_i xs q
    refine ⟨A, as, f, .vr j, f, R0, by unfold evE; rw [q], fun v H1 p => ?_⟩
    obtain ⟨A', s, R', ⟨a, rfl, ha⟩, n, x, k⟩ := p
    have pn : PostN X.K A as f σ H f H1 := ⟨R'.less s, x.trans (ext_less s), k⟩
    obtain ⟨vs, s, _⟩ := lst_rd pn.1 ha e1
    exact ⟨a, rfl, ⟨vs, s.sq⟩, hR a H1 pn ha⟩
  · rename_i n q
    refine ⟨A, as, f, .ce n, f, R0, by unfold evE; rw [q], fun v H1 p => ?_⟩
    obtain ⟨A', s, R', ⟨a, rfl, ha⟩, n', x, k⟩ := p
    have pn : PostN X.K A as f σ H f H1 := ⟨R'.less s, x.trans (ext_less s), k⟩
    obtain ⟨b, h1, h2⟩ := pn.1.sc j n q
    rw [ha] at h1
    cases h1
    obtain ⟨vs, s, _⟩ := lst_rd pn.1 h2 e1
    exact ⟨a, rfl, ⟨vs, s.sq⟩, hR a H1 pn h2⟩
  · cases e2
def iK (K : PySem.W.Frag) (G : Call) (j : Nat) : TI := fun σ H R => tIK K j σ H R ∨ tI K G (.seq (.v j)) σ H R
theorem pi_K {X : Cx} {G : Call} {tg e : Expr} {j : Nat} (h : PE X e (tD X.K G (.v j))) : PI X tg e (iK X.K G j) :=
  PI.or (pi_lstK h) (PI.imp (PI.or (pi_list h) (PI.or (pi_tup h) (pi_str h))) fun σ H R q => tI_seq q)
theorem tD_lck {K : PySem.W.Frag} {G : Call} {σ : L2.St} {H : Hp} {t : Tg} {sl : Nat} {ifs : List Ex} {e : Ex} {own : List Nat} {Q : VK} (h : tD K G (.lck t sl ifs e own) σ H Q) :
    tLc (iK K G sl) (tG K t) (tTs K G ifs) (tD K G e) own σ H Q := by
  obtain ⟨A, as, f, rv, f', R, he, hQ⟩ := h
  unfold evE at he
  cases hdat : isDat f sl with
  | some x =>
    rw [hdat] at he
    dsimp only at he
    have hv : evE G (.v sl) f = .ok (.d x, f) := by
      unfold isDat at hdat
      split at hdat
      · rename_i y q
        cases hdat
        unfold evE
        rw [q]
      · cases hdat
    have ei : evI G (.seq (.v sl)) f = (ofOpt (itemsD (norm x))).bind fun l => .ok (l, f) := by
      unfold evI
      rw [hv]
      rfl
    rw [← ei] at he
    have h2 : tD K G (.lc t (.seq (.v sl)) ifs e own) σ H Q := ⟨A, as, f, rv, f', R, by unfold evE; exact he, hQ⟩
    exact Or.inr (tD_lc h2)
  | none =>
  rw [hdat] at he
  refine Or.inl ?_
  obtain ⟨ds, e1, he⟩ := bind_ok he
  have e1 := ofOpt_ok e1
  dsimp only at he
  split at he
  · rename_i hc
    obtain ⟨hno, htg, hj⟩ := hc
    have hj : sl ∉ own := by simpa using hj
    obtain ⟨⟨res, f2⟩, e2, he⟩ := bind_ok he
    dsimp only at he
    split at he
    case isFalse => cases he
    rename_i hk2
    cases he
    refine ⟨A, as, f, ds, R, e1, fun ra H1 pn hra D hD => ?_⟩
    obtain ⟨Rz, xz⟩ := pn.1.frzV own
    replace pn : PostN K A as f σ H (frzV f own) H1 := ⟨Rz, pn.2.1.trans xz, pn.2.2⟩
    generalize frzV f own = f1 at *
    let A1 : ASet := fun a => A a ∨ a = D
    let f10 : F := { f1 with ρ := wipeL f1.ρ own }
    have nAD : ∀ a, A a → a ≠ D := fun a ha z => by
      obtain ⟨o, q⟩ := pn.1.al a ha
      rw [z, hD] at q; cases q
    obtain ⟨R1, x1, k1⟩ := pn.1.laid (o := .lst []) hD
    have R10 := R1.wiped (own := own)
    have lv10 : ∀ a, Lv A1 f10 as (wipe σ own) a ↔ Lv A1 f1 as σ a := fun a => ⟨R10.2 a, fun z => z.imp id (Rel.wiped_live hno R1)⟩
    have eq10 : Lv A1 f10 as (wipe σ own) = Lv A1 f1 as σ := by funext a; exact propext (lv10 a)
    have wlen : (wipe σ own).length = σ.length := wipe_length _ _
    -- the state ahead of a turn
    let P : Nat → Hp → Prop := fun i H2 => ∃ fi acc, Rel K A1 as fi (wipe σ own) H2 ∧ ObR K (Lv A1 fi as (wipe σ own)) H2 D (.lst acc) ∧
      lcLoop (evK sl ds (evT G ifs)) (evE G e) t own (ds.drop i) acc fi = .ok (res, f2) ∧ Ext (Lv A1 f1 as σ) (upd H1 D (.lst [])) (Lv A1 fi as (wipe σ own)) H2 ∧ (∀ a, A a → H2 a = H1 a) ∧ fi.ρ.length = f1.ρ.length
    refine ⟨fun i m H2 => m = ds.length - i ∧ i ≤ ds.length ∧ P i H2, ⟨_, rfl, Nat.zero_le _, f10, [], R10.1, ⟨[], upd_same, rfl⟩, e2, by rw [eq10]; exact Ext.refl, fun a ha => upd_ne (nAD a ha), wipeL_len _ _⟩, ?_⟩
    rintro i m H2 ⟨rfl, hi, fi, acc, Ri, ob, hl, xi, ki, li⟩
    have hs2 : (wipe σ own)[sl]? = some (some (.ref ra)) := by rw [wipe_out hj]; exact hra
    by_cases hlt : i < ds.length
    · have hd : ds[i]? = some ds[i] := by simp [hlt]
      have hdrop : ds.drop i = ds[i] :: ds.drop (i + 1) := List.drop_eq_getElem_cons hlt
      rw [hdrop] at hl
      unfold lcLoop at hl
      obtain ⟨ρ1, b1, hl⟩ := bind_ok hl
      have b1 := ofOpt_ok b1
      obtain ⟨⟨b, g1⟩, b2, hl⟩ := bind_ok hl
      dsimp only at hl
      unfold evK at b2
      split at b2
      case isFalse => cases b2
      rename_i hkp
      have hkp : keepB sl ds fi = true := by
        rw [← hkp]
        refine keep_bind b1 fun z => hj ?_
        have := List.all_eq_true.mp htg sl z
        simpa using this
      obtain ⟨go, yld⟩ := (keep_it Ri hs2 hkp).2 i _ hd
      refine .inr ⟨go, P (i + 1), fun H' p => ⟨ds.length - (i + 1), by omega, rfl, hlt, p⟩, fun x H3 hy => ?_⟩
      have py := op_post Ri (yld x H3 hy).1
      obtain ⟨pny, rdy⟩ := py.kept (y := ds[i]) (f'' := fi) (congrArg (fun z => some (z, fi)) (yld x H3 hy).2)
      refine ⟨A1, as, fi, _, ρ1, pny.1, rdy, b1, fun σ2 bp => ?_⟩
      have hw : wipe σ2 own = wipe σ own := by
        refine wipe_eq (is := tgI t) (fun i hi => ?_) (bp.2.2.1.trans wlen) fun j hj => bp.2.2.2 j hj
        have := List.all_eq_true.mp htg i hi
        simpa using this
      refine ⟨hw, A1, as, _, b, g1, bp.1, b2, fun H4 p4 => ?_⟩
      have k4 : ∀ a, A1 a → H4 a = H2 a := fun a ha => (p4.2.2 a ha).trans (pny.2.2 a ha)
      have x4 : Ext (Lv A1 fi as (wipe σ own)) H2 (Lv A1 g1 as σ2) H4 := (pny.2.1.trans bp.2.1).trans p4.2.1
      obtain ⟨accV, hDv, rdv⟩ := ob
      have fin : ∀ {g : F} {H5 : Hp} {acc' : List PyData}, Rel K A1 as g σ2 H5 → Ext (Lv A1 f1 as σ) (upd H1 D (.lst [])) (Lv A1 g as σ2) H5 → (∀ a, A a → H5 a = H1 a) → ObR K (Lv A1 g as σ2) H5 D (.lst acc') →
          lcLoop (evK sl ds (evT G ifs)) (evE G e) t own (ds.drop (i + 1)) acc' { g with ρ := wipeL g.ρ own } = .ok (res, f2) → P (i + 1) H5 := fun {g H5 acc'} Rg xg kg og hl => by
        have W := Rg.wiped (own := own)
        rw [hw] at W
        have xw : Ext (Lv A1 g as σ2) H5 (Lv A1 { g with ρ := wipeL g.ρ own } as (wipe σ own)) H5 := Ext.less W.2
        refine ⟨_, acc', W.1, og.ext xw rfl, hl, xg.trans xw, kg, ?_⟩
        have e1 := W.1.lenσ
        have e2 := R1.lenσ
        rw [wlen] at e1
        exact e1.symm.trans e2
      cases b with
      | false =>
        simp only [Bool.false_eq_true, if_false] at hl ⊢
        exact fin p4.1 (xi.trans x4) (fun a ha => (k4 a (.inl ha)).trans (ki a ha)) ⟨accV, (k4 D (.inr rfl)).trans hDv, rdv.ext x4⟩ hl
      | true =>
        simp only [if_true] at hl ⊢
        obtain ⟨⟨r, g2⟩, b3, hl⟩ := bind_ok hl
        obtain ⟨⟨y, g3⟩, b4, hl⟩ := bind_ok hl
        have b4 := ofOpt_ok b4
        dsimp only at hl b4
        split at hl
        · rename_i hz
          refine ⟨A1, as, g1, r, g2, p4.1, b3, fun yv H5 p5 => ?_⟩
          obtain ⟨pn5, rd5⟩ := p5.kept b4
          have k5 : ∀ a, A1 a → H5 a = H2 a := fun a ha => (pn5.2.2 a ha).trans (k4 a ha)
          have x5 : Ext (Lv A1 fi as (wipe σ own)) H2 (Lv A1 g3 as σ2) H5 := x4.trans pn5.2.1
          refine ⟨accV, (k5 D (.inr rfl)).trans hDv, by rw [sizeLine_eq]; rw [rdv.len]; exact hz, ?_⟩
          -- the item is put in
          have x6 : Ext (Lv A1 g3 as σ2) H5 (Lv A1 g3 as σ2) (upd H5 D (.lst (accV ++ [yv]))) := fun a o q n => ⟨by rw [upd_ne (fun z => n (.inl (.inr z)))]; exact q, n⟩
          have R6 : Rel K A1 as g3 σ2 (upd H5 D (.lst (accV ++ [yv]))) := by
            refine pn5.1.step (fun a ha => ?_) x6 (fun a ho => upd_ne fun z => ?_) fun a ho z => pn5.1.nA ho z
            · by_cases q : a = D
              · subst q; exact ⟨_, upd_same⟩
              · rw [upd_ne q]; exact pn5.1.al a ha
            · exact pn5.1.nA ho (.inr z)
          exact fin R6 ((xi.trans x5).trans x6) (fun a ha => by rw [upd_ne (nAD a ha)]; exact (k5 a (.inl ha)).trans (ki a ha)) ⟨_, upd_same, ((rdv.ext x5).app1 rd5).ext x6⟩ hl
        · cases hl
    · have hn : i = ds.length := by omega
      subst hn
      rw [List.drop_length] at hl
      unfold lcLoop at hl
      cases hl
      refine .inl ⟨(keep_it Ri hs2 hk2).1, hQ _ _ ?_⟩
      have xf : Ext (Lv A1 f1 as σ) H1 (Lv A1 f2 as (wipe σ own)) H2 := by
        intro a o q n
        by_cases z : a = D
        · rw [z, hD] at q; cases q
        · exact xi a o (by rw [upd_ne z]; exact q) n
      have B := Ri.slots (ρ' := backL f1.ρ f2.ρ own) (σ' := σ) (backL_len _ _ _) wlen.symm fun j l q => by
        rcases backL_get q with ⟨hj, rfl⟩ | ⟨hj, q'⟩
        · cases q1 : f1.ρ[j]? with
          | none => exact .inr (.inl (by rw [List.getD_eq_getElem?_getD, q1]; rfl))
          | some l =>
            rw [List.getD_eq_getElem?_getD, q1]
            cases l with
            | no => exact .inr (.inl rfl)
            | d x =>
              obtain ⟨v, h1, h2⟩ := pn.1.sd j x q1
              exact .inr (.inr (.inl ⟨x, v, rfl, h1, h2.ext (x1.trans xi)⟩))
            | own o => exact absurd q1 (noOwn_get hno hj)
            | c n =>
              obtain ⟨a, h1, h2⟩ := pn.1.sc j n q1
              exact .inr (.inr (.inr ⟨n, a, rfl, h1, h2⟩))
        · exact .inl ⟨q', (wipe_out hj).symm⟩
      have xb : Ext (Lv A1 f2 as (wipe σ own)) H2 (Lv A1 { f2 with ρ := backL f1.ρ f2.ρ own } as σ) H2 := Ext.less B.2
      refine ⟨A1, fun a ha => .inl ha, B.1, ⟨D, rfl, .inr rfl, ob.ext xb rfl⟩, fun o _ a ea ha => ?_, ?_, fun a ha => (ki a ha).trans (pn.2.2 a ha)⟩
      · cases ea; exact nAD D ha rfl
      · exact (pn.2.1.trans (x1.trans xi)).trans xb
  · cases he
/-! ### the same for a list that came by reference, told by its place among those -/
section
variable {K : PySem.W.Frag} {A : ASet} {as : List Addr} {f : F} {σ : L2.St} {H : Hp}
theorem lstS_rd {n : Nat} {ds : List D} {a : Addr} (R : Rel K A as f σ H) (ha : as[n]? = some a) (h : lstS f n = some ds) : ∃ vs, LL K H a vs ∧ RdA K (Lv A f as σ) H ds vs := by
  unfold lstS at h
  split at h
  · rename_i xs q2
    cases h
    obtain ⟨vs, e, r⟩ := (R.co n _ a q2 ha).1
    exact ⟨vs, .inl (.inl e), r⟩
  · rename_i xs q2
    cases h
    have h2 := (R.cd n _ a q2 ha).1
    unfold Rd at h2
    obtain ⟨b, vs, e, s, r⟩ := h2
    cases e
    exact ⟨vs, s.ll, r⟩
  · cases h
theorem keepS_at {n : Nat} {ds : List D} (h : keepS n ds f = true) : lstS f n = some ds := by
  unfold keepS at h
  split at h
  · rename_i xs e
    rw [e, eqDs_eq h]
  · cases h
theorem keepS_it {n : Nat} {ds : List D} {a : Addr} (R : Rel K A as f σ H) (ha : as[n]? = some a) (h : keepS n ds f = true) :
    (Itl K a).stop ds.length H ∧ ∀ i d, ds[i]? = some d → (Itl K a).go i H ∧ ∀ x H'', (Itl K a).yld i H x H'' → OpPost K (Lv A f as σ) H (.d d) x H'' ∧ norm d = d := by
  obtain ⟨vs, s, r⟩ := lstS_rd R ha (keepS_at h)
  refine ⟨⟨vs, s.sq, by rw [r.len]; exact Nat.le_refl _⟩, fun i d hd => ?_⟩
  obtain ⟨v, h1, h2⟩ := r.get hd
  refine ⟨⟨vs, v, s.sq, h1⟩, fun y H'' hy => ?_⟩
  obtain ⟨rfl, hy⟩ := hy
  have := hy vs s.sq
  rw [h1] at this; cases this
  exact ⟨.inl ⟨rfl, h2⟩, h2.norm⟩
end
def tIR (K : PySem.W.Frag) (j : Nat) : TI := fun σ H R => ∃ A as f n ds, Rel K A as f σ H ∧ refAt f j = some n ∧ lstS f n = some ds ∧ ∀ a H1, PostN K A as f σ H f H1 → as[n]? = some a → R (Itl K a) H1
theorem pi_lstR {X : Cx} {G : Call} {tg e : Expr} {j : Nat} (h : PE X e (tD X.K G (.v j))) : PI X tg e (tIR X.K j) := by
  refine PI.imp (pi_list h) fun σ H R q => ?_
  obtain ⟨A, as, f, n, ds, R0, e0, e1, hR⟩ := q
  unfold refAt at e0
  split at e0
  · rename_i n2 q
    cases e0
    refine ⟨A, as, f, .ce n, f, R0, by unfold evE; rw [q], fun v H1 p => ?_⟩
    obtain ⟨A', s, R', ⟨a, rfl, ha⟩, n', x, k⟩ := p
    have pn : PostN X.K A as f σ H f H1 := ⟨R'.less s, x.trans (ext_less s), k⟩
    obtain ⟨vs, s, _⟩ := lstS_rd pn.1 ha e1
    exact ⟨a, rfl, ⟨vs, s.sq⟩, hR a H1 pn ha⟩
  · cases e0
def iR (K : PySem.W.Frag) (G : Call) (j : Nat) : TI := fun σ H R => tIR K j σ H R ∨ tI K G (.seq (.v j)) σ H R
theorem pi_R {X : Cx} {G : Call} {tg e : Expr} {j : Nat} (h : PE X e (tD X.K G (.v j))) : PI X tg e (iR X.K G j) :=
  PI.or (pi_lstR h) (PI.imp (PI.or (pi_list h) (PI.or (pi_tup h) (pi_str h))) fun σ H R q => tI_seq q)
end Vm
set_option maxRecDepth 100000
set_option maxHeartbeats 1000000
namespace Vm
open PySem PySem.Spec L2
section
variable {X : Cx} {Γ : Gam} {G : Call} {m : Nat}
theorem PTs.imp {X : Cx} {e : List Expr} {t t' : TT} (h : PTs X e t) (i : ∀ σ H Q, t' σ H Q → t σ H Q) : PTs X e t' := ⟨fun pins s σ H Q I q => h.run pins s σ H Q I (i σ H Q q)⟩
theorem pts_ok {n : Nat} (ih : IH Γ G X n) {ifs : List Expr} {ifs' : List Ex} (hl : ifs.length ≤ 1) (h : mapO (comp n Γ) ifs = some ifs') : PTs X ifs (tTs X.K G ifs') := by
  match ifs, hl, h with
  | [], _, h =>
    cases h
    refine PTs.imp pts_nil fun σ H Q q => ?_
    obtain ⟨A, as, f, b, f', R, e, q⟩ := q
    unfold evT at e
    cases e
    exact q H ⟨R, Ext.refl, fun _ _ => rfl⟩
  | [c], _, h =>
    obtain ⟨c', t, q1, q2, rfl⟩ := mapO_cons h
    cases q2
    refine PTs.imp (pts_one (ih c c' q1).t) fun σ H Q q => ?_
    obtain ⟨A, as, f, b, f', R, e, q⟩ := q
    unfold evT at e
    obtain ⟨⟨rv, f1⟩, e1, e⟩ := bind_ok e
    obtain ⟨t, e2, e⟩ := bind_ok e
    obtain ⟨y, e3, e4⟩ := obind (ofOpt_ok e2)
    have e5 := evC_mk e1 e3 e4
    cases t with
    | true =>
      rw [if_pos rfl] at e
      unfold evT at e
      cases e
      exact ⟨A, as, f, _, _, R, e5, q⟩
    | false =>
      rw [if_neg Bool.false_ne_true] at e
      cases e
      exact ⟨A, as, f, _, _, R, e5, q⟩
  | _ :: _ :: _, hl, _ => simp at hl
theorem XOk.blk (C : XOk Γ G m X) (scope : Scope) (s : Shared) (H : Hp) (c : Addr) (cl : List (Str × Addr)) (fp : List Addr) : XOk (Γ.blk scope) G m (X.blk s H scope (compEnvC scope cl c X.env) fp) where
  N := C.N
  nd := C.nd
  sc := by
    show relabel scope X.env = relS scope Γ.sc
    rw [← C.sc]; rfl
  calm := C.calm
  room := C.room
  gd := C.gd
  df := C.df
  cs := C.cs
  bs := C.bs
  lc := C.lc
  fn := fun x h => h
theorem itC_seq {Γ : Gam} {g : Expr → Option Ex} {isT : Bool} {e : Expr} {a : Ex} (h : itC Γ g isT e = some (.seq a)) : g e = some a := by
  have gen : ∀ {e : Expr}, (g e).map It.seq = some (.seq a) → g e = some a := fun {e} h => by
    obtain ⟨b, h1, h2⟩ := omap h
    cases h2
    exact h1
  unfold itC at h
  split at h
  · split at h
    · split at h
      · split at h
        · obtain ⟨_, _, z⟩ := omap h; cases z
        · cases h
      · split at h
        · split at h
          · split at h
            · obtain ⟨_, _, z⟩ := omap h; cases z
            · cases h
          · cases h
        · split at h
          · split at h
            · obtain ⟨_, _, h⟩ := obind h
              obtain ⟨_, _, h⟩ := obind h
              cases h
            · cases h
          · cases h
    · exact gen h
  · cases h
  · exact gen h
/-- a comprehension of one clause: what it goes over, and its reading -/
theorem mkLc_ok (C : XOk Γ G m X) {n : Nat} (ih : IH Γ G X n) {tg iter : Expr} {it : It} {t : Tg} {ifs : List Ex} {e : Ex} {own : List Nat} (hT : isTupE tg = true → ∃ es k p, tg = .Tuple es k p) (h : itC Γ (comp n Γ) (isTupE tg) iter = some it) :
    ∃ wi : TI, PI X tg iter wi ∧ ∀ σ H Q, tD X.K G (Γ.mkLc t it ifs e own) σ H Q → tLc wi (tG X.K t) (tTs X.K G ifs) (tD X.K G e) own σ H Q := by
  have gen : ∃ wi : TI, PI X tg iter wi ∧ ∀ σ H Q, tD X.K G (.lc t it ifs e own) σ H Q → tLc wi (tG X.K t) (tTs X.K G ifs) (tD X.K G e) own σ H Q := ⟨_, pi_it C ih hT h, fun σ H Q q => tD_lc q⟩
  unfold Gam.mkLc
  split
  · split
    · rename_i j
      exact ⟨_, pi_K (ih iter (.v j) (itC_seq h)).e, fun σ H Q q => tD_lck q⟩
    · exact gen
  · exact gen
theorem e_lc (C : XOk Γ G m X) {n : Nat} (ih : IH Γ G X n) (ihB : ∀ (scope : Scope) (s : Shared) (H : Hp) (c : Addr) (cl : List (Str × Addr)) (fp : List Addr), IH (Γ.blk scope) G (X.blk s H scope (compEnvC scope cl c X.env) fp) n)
    {elt tg iter : Expr} {ifs : List Expr} {scope : Scope} {pos : Pos} {ir : Ex} (h : comp (n + 1) Γ (.ListComp elt [⟨tg, iter, ifs, 0⟩] scope pos) = some ir) : E3 X G (.ListComp elt [⟨tg, iter, ifs, 0⟩] scope pos) ir := by
  refine .plain ?_ (fun _ => rfl) fun _ _ _ z => by cases z
  obtain ⟨own, h0, h⟩ := obind (show (ownC Γ.N scope).bind _ = some ir from by
    have h : (if (0 : Int) = 0 then _ else none) = some ir := h
    rw [if_pos rfl] at h
    exact h)
  split at h
  · rename_i hc
    obtain ⟨t, h1, h⟩ := obind h
    obtain ⟨it, h2, h⟩ := obind h
    obtain ⟨ifs', h3, h⟩ := obind h
    obtain ⟨e', h4, h⟩ := obind h
    cases h
    have ok : BlkOk X.N X.env.scope scope own := by rw [C.N, C.sc]; exact blkOk_by hc.1
    have hT : isTupE tg = true → ∃ es k p, tg = .Tuple es k p := fun h => by
      unfold isTupE at h
      split at h
      · exact ⟨_, _, _, rfl⟩
      · cases h
    obtain ⟨wi, w1, w2⟩ := mkLc_ok C ih (t := t) (ifs := ifs') (e := e') (own := own.map (·.2)) hT h2
    refine PE.imp (pe_lc C.calm C.nd w1 ok (fun s H c cl fp => pg_tg (Γ := Γ.blk scope) (C.blk scope s H c cl fp).N (C.blk scope s H c cl fp).nd (C.blk scope s H c cl fp).sc (C.blk scope s H c cl fp).calm (C.blk scope s H c cl fp).fn tg t h1)
      (fun s H c cl fp => pts_ok (ihB scope s H c cl fp) hc.2 h3) (fun s H c cl fp => (ihB scope s H c cl fp elt e' h4).e) (fold_no h2)) fun σ H Q q => w2 σ H Q q
  · cases h
theorem e_lc2 (C : XOk Γ G m X) {n : Nat} (ih : IH Γ G X n) (ihB : ∀ (scope : Scope) (s : Shared) (H : Hp) (c : Addr) (cl : List (Str × Addr)) (fp : List Addr), IH (Γ.blk scope) G (X.blk s H scope (compEnvC scope cl c X.env) fp) n)
    {elt tg iter tg1 iter1 : Expr} {ifs ifs1 : List Expr} {scope : Scope} {pos : Pos} {ir : Ex} (h : comp (n + 1) Γ (.ListComp elt [⟨tg, iter, ifs, 0⟩, ⟨tg1, iter1, ifs1, 0⟩] scope pos) = some ir) : E3 X G (.ListComp elt [⟨tg, iter, ifs, 0⟩, ⟨tg1, iter1, ifs1, 0⟩] scope pos) ir := by
  refine .plain ?_ (fun _ => rfl) fun _ _ _ z => by cases z
  obtain ⟨own, h0, h⟩ := obind (show (ownC Γ.N scope).bind _ = some ir from by
    have h : (if (0 : Int) = 0 ∧ (0 : Int) = 0 then _ else none) = some ir := h
    rw [if_pos ⟨rfl, rfl⟩] at h
    exact h)
  split at h
  · rename_i hc
    obtain ⟨t, h1, h⟩ := obind h
    obtain ⟨it, h2, h⟩ := obind h
    obtain ⟨ifs', h3, h⟩ := obind h
    obtain ⟨t1, h4, h⟩ := obind h
    obtain ⟨it1, h5, h⟩ := obind h
    obtain ⟨ifs1', h6, h⟩ := obind h
    obtain ⟨e', h7, h⟩ := obind h
    split at h
    · rename_i hs
      cases h
      have ok : BlkOk X.N X.env.scope scope own := by rw [C.N, C.sc]; exact blkOk_by hc.1
      have hT : ∀ {tg : Expr}, isTupE tg = true → ∃ es k p, tg = .Tuple es k p := fun h => by
        unfold isTupE at h
        split at h
        · exact ⟨_, _, _, rfl⟩
        · cases h
      have hv : ∀ i ∈ tgI t1, i ∈ own.map (·.2) := fun i hi => by have := List.all_eq_true.mp hs i hi; simpa using this
      refine PE.imp (pe_lc2 C.calm C.nd (pi_it C ih hT h2) ok hv (fun s H c cl fp => pg_tg (Γ := Γ.blk scope) (C.blk scope s H c cl fp).N (C.blk scope s H c cl fp).nd (C.blk scope s H c cl fp).sc (C.blk scope s H c cl fp).calm (C.blk scope s H c cl fp).fn tg t h1)
        (fun s H c cl fp => pts_ok (ihB scope s H c cl fp) hc.2.1 h3) (fun s H c cl fp => pi_it (C.blk scope s H c cl fp) (ihB scope s H c cl fp) hT h5)
        (fun s H c cl fp => pg_tg (Γ := Γ.blk scope) (C.blk scope s H c cl fp).N (C.blk scope s H c cl fp).nd (C.blk scope s H c cl fp).sc (C.blk scope s H c cl fp).calm (C.blk scope s H c cl fp).fn tg1 t1 h4)
        (fun s H c cl fp => pts_ok (ihB scope s H c cl fp) hc.2.2 h6) (fun s H c cl fp => (ihB scope s H c cl fp elt e' h7).e) (fold_no h2) (fold_all h5)) fun σ H Q q => tD_lc2 q
    · cases h
  · cases h
end
end Vm
set_option maxRecDepth 100000
set_option maxHeartbeats 1000000
namespace Vm
open PySem PySem.Spec L2
section
variable {K : PySem.W.Frag} {A : ASet} {as : List Addr} {f : F} {σ : L2.St} {H : Hp}
/-- an owned object is rewritten -/
theorem Rel.mut {l : Loc} {p : Addr} {o' : Ob} {u : HO} (R : Rel K A as f σ H) (hl : LocAt f as σ l p) (ho : ObR K (Lv A f as σ) (upd H p u) p o') :
    Rel K A as (put1 f l (.own o')) σ (upd H p u) ∧ Ext (Lv A f as σ) H (Lv A (put1 f l (.own o')) as σ) (upd H p u) ∧ ∀ a, A a → upd H p u a = H a := by
  have hown := hl.own
  have nA := R.nA hown
  have ka : ∀ a, A a → upd H p u a = H a := fun a ha => upd_ne fun z => nA (by rw [← z]; exact ha)
  have kn : ∀ a o, H a = some o → ¬ Lv A f as σ a → upd H p u a = some o := fun a o e n => by rw [upd_ne fun z => n (by rw [z]; exact .inr hown)]; exact e
  have al : ∀ a, A a → ∃ o, upd H p u a = some o := fun a ha => by rw [ka a ha]; exact R.al a ha
  cases l with
  | inl i =>
    obtain ⟨o, h1, h2⟩ := hl
    have hi : i < f.ρ.length := (List.getElem?_eq_some_iff.mp h1).1
    obtain ⟨R', x⟩ := R.setSlot (σ' := σ) (H' := upd H p u) (l := .own o') hi (fun _ _ => rfl) rfl (fun a z => z) (fun a _ n => upd_ne fun z => n ⟨o, h1, by rw [z]; exact h2⟩) kn al
      ⟨p, h2, ho, nA, .inr ⟨o, h1, h2⟩⟩
    exact ⟨R', x, ka⟩
  | inr n =>
    obtain ⟨o, h1, h2⟩ := hl
    obtain ⟨R', x⟩ := R.setCell (H' := upd H p u) (u := .own o') h2 (fun a z => z) (fun b _ n => upd_ne n) kn al ⟨o, h1⟩ ⟨ho, nA, o, h1⟩
    exact ⟨R', x, ka⟩
/-- a change in place -/
def MuR (K : PySem.W.Frag) (m : Mu) (x : V) (vs : List V) (H : Hp) (Q : VK) : Prop := ∃ (L : ASet) (p : Addr) (o o' : Ob) (ys : List D) (y : D), x = .ref p ∧ L p ∧ ObR K L H p o ∧ RdA K L H ys vs ∧ m.run o ys = some (o', y) ∧
  ∀ u v, ObR K L (upd H p u) p o' → Rd K L (upd H p u) y v → Q v (upd H p u)
theorem tD_mu {G : Call} {m : Mu} {a : Ex} {es : List Ex} {Q : VK} (h : tD K G (.mu m a es) σ H Q) : tD K G a σ H fun x H1 => tyV K "list" x H1 ∧ tDs K G es σ H1 fun vs H2 => MuR K m x vs H2 Q := by
  obtain ⟨A, as, f, rv, f', R, he, hQ⟩ := h
  unfold evE at he
  obtain ⟨⟨r1, f1⟩, e1, he⟩ := bind_ok he
  obtain ⟨_, ety, he⟩ := bind_ok he
  obtain ⟨⟨rs, f2⟩, e2, he⟩ := bind_ok he
  obtain ⟨⟨ys, f3⟩, e3, he⟩ := bind_ok he
  obtain ⟨⟨l, o⟩, e4, he⟩ := bind_ok he
  obtain ⟨⟨o', y⟩, e5, he⟩ := bind_ok he
  cases he
  have e3 := ofOpt_ok e3
  have e4 := ofOpt_ok e4
  have e5 := ofOpt_ok e5
  dsimp only at e3 e4 e5
  obtain ⟨y1, v1, t1⟩ := obind (ofOpt_ok ety)
  refine ⟨A, as, f, r1, f1, R, e1, fun x H1 p1 => ?_⟩
  obtain ⟨A1, s1, R1, q1, n1, x1, k1⟩ := id p1
  refine ⟨?_, A1, as, f1, rs, f2, R1, e2, fun vs H2 p2 => ?_⟩
  · obtain ⟨_, rd⟩ := p1.seen v1
    cases y1 with
    | list ds =>
      obtain ⟨b, ws, rfl, ll, _⟩ := rd.l
      exact .inl ⟨rfl, ws, ll.sq⟩
    | _ => exact absurd t1 (by simp [tyD])
  · obtain ⟨pn, rd⟩ := p2.kept e3
    have hloc : ∃ p, x = .ref p ∧ LocAt f3 as σ l p ∧ ObR K (Lv A1 f3 as σ) H2 p o := by
      cases r1 with
      | d _ => cases e4
      | fr _ => cases e4
      | vr i =>
        obtain ⟨p, h1, h2⟩ := q1
        unfold ownAt at e4
        dsimp only at e4
        split at e4
        · rename_i o0 q
          cases e4
          obtain ⟨b, g1, g2, _⟩ := pn.1.so i o q
          rw [h2] at g1; cases g1
          exact ⟨p, h1, ⟨o, q, h2⟩, g2⟩
        · cases e4
      | ce n =>
        obtain ⟨p, h1, h2⟩ := q1
        unfold ownAt at e4
        dsimp only at e4
        split at e4
        · rename_i o0 q
          cases e4
          exact ⟨p, h1, ⟨o, q, h2⟩, (pn.1.co n o p q h2).1⟩
        · cases e4
    obtain ⟨p, rfl, hl, ob⟩ := hloc
    refine ⟨Lv A1 f3 as σ, p, o, o', ys, y, rfl, .inr hl.own, ob, rd, e5, fun u v h1 h2 => hQ _ _ ?_⟩
    obtain ⟨R4, x4, k4⟩ := pn.1.mut hl h1
    have s1' : ∀ a, A a → A1 a := s1
    have xl := ext_less (H := upd H2 p u) (f := put1 f3 l (.own o')) (as := as) (σ := σ) s1'
    refine ⟨A, fun _ z => z, R4.less s1', ?_, (fun o e => by cases e), ((x1.trans pn.2.1).trans x4).trans xl, fun a ha => (k4 a (s1 a ha)).trans ((pn.2.2 a (s1 a ha)).trans (k1 a ha))⟩
    have x5 : Ext (Lv A1 f3 as σ) (upd H2 p u) (Lv A1 (put1 f3 l (.own o')) as σ) (upd H2 p u) := by
      refine Ext.less fun b hb => ?_
      rcases hb with hb | hb
      · exact .inl hb
      · refine .inr ?_
        cases l with
        | inl i =>
          rcases hb with ⟨j, o2, g1, g2⟩ | hb
          · by_cases q : i = j
            · subst q
              obtain ⟨o0, z1, z2⟩ := hl
              exact .inl ⟨i, o0, z1, g2⟩
            · exact .inl ⟨j, o2, by
                have g1 : (f3.ρ.set i _)[j]? = _ := g1
                rwa [List.getElem?_set_ne q] at g1, g2⟩
          · exact .inr hb
        | inr n =>
          rcases hb with hb | ⟨j, o2, g1, g2⟩
          · exact .inl hb
          · by_cases q : n = j
            · subst q
              obtain ⟨o0, z1, z2⟩ := hl
              exact .inr ⟨n, o0, z1, g2⟩
            · exact .inr ⟨j, o2, by
                have g1 : (f3.S.set n _)[j]? = _ := g1
                rwa [List.getElem?_set_ne q] at g1, g2⟩
    exact .inl ((h2.ext x5).ext xl)
theorem ext_upd {L : ASet} {p : Addr} {u : HO} (h : L p) : Ext L H L (upd H p u) := fun a o e n => ⟨by rw [upd_ne fun z => n (by rw [z]; exact h)]; exact e, n⟩
theorem mu_append {x : V} {vs : List V} {Q : VK} (h : MuR K .append x vs H Q) : rAppend x vs H Q := by
  obtain ⟨L, p, o, o', ys, y, rfl, lp, ob, rd, e, q⟩ := h
  match o, ys, e with
  | .lst xs, [d], e =>
    replace e : (if xs.length < 16777216 then some (Ob.lst (xs ++ [d]), PyData.none) else none) = some (o', y) := e
    split at e
    · rename_i hz
      cases e
      obtain ⟨ws, h1, h2⟩ := ob
      obtain ⟨v, r, rfl, r1, r2⟩ := rd
      obtain rfl : r = [] := r2
      refine ⟨p, ws, v, rfl, rfl, h1, by rw [sizeLine_eq, h2.len]; exact hz, q _ _ ⟨_, upd_same, (h2.app1 r1).ext (ext_upd lp)⟩ rd_none⟩
    · cases e
theorem RdA.app2 {L : ASet} : ∀ {ds : List D} {vs : List V} {es : List D} {ws : List V}, RdA K L H ds vs → RdA K L H es ws → RdA K L H (ds ++ es) (vs ++ ws)
  | [], _, es, ws, h, h' => by
    obtain rfl : _ = [] := h
    exact h'
  | e :: r, _, es, ws, ⟨w, u, e0, h1, h2⟩, h' => by
    subst e0
    exact ⟨w, u ++ ws, rfl, h1, RdA.app2 h2 h'⟩
def rExtendD (K : PySem.W.Frag) : V → List V → Hp → VK → Prop := fun x vs H Q => ∃ l b xs zs, x = .ref l ∧ vs = [.ref b] ∧ H l = some (.lst xs) ∧ LL K H b zs ∧ xs.length + zs.length ≤ sizeLine ∧ Q .non (upd H l (.lst (xs ++ zs)))
theorem mt_extendD {X : Cx} : MtR X "list.extend" (rExtendD X.K) := by
  intro pins s σ H x vs v us Q I rx rv h
  obtain ⟨l, b, xs, zs, rfl, rfl, hH, hB, hz, q⟩ := h
  cases rx
  obtain ⟨u, rfl, ru⟩ := rv.one
  cases ru
  obtain ⟨z, its, n, r, hl, e⟩ := I.lstM hH
  obtain ⟨z2, its2, n2, r2, e2⟩ := LL.obj I hB
  have hl2 := r2.length
  have hsz : its.toArray.size + its2.toArray.size ≤ sizeLine := by rw [List.size_toArray, List.size_toArray]; omega
  have hlong : ¬ (!its.toArray.isEmpty && Builtin.List.listTooLong (its.toArray.size + its2.toArray.size)) = true := by
    rw [notLongL hsz, Bool.and_false]
    exact Bool.false_ne_true
  refine call_meets F.slot_list_extend ⟨_, e, rfl⟩ F.entry_list_extend (F.args_list_extend_2 _ _)
    (AutoSeq1.list_extend_list_list_0 l its.toArray n b its2.toArray n2 hlong (by rw [List.size_toArray]; omega) (by omega)) ⟨e, e2, ?_⟩
  refine ⟨.non, _, I.lset (its' := its ++ its2) hH e (by simp) (r.append r2) ?_, rfl, q⟩
  rw [List.length_append]
  omega
theorem mu_extend {x : V} {vs : List V} {Q : VK} (h : MuR K .extend x vs H Q) : rExtendD K x vs H Q := by
  obtain ⟨L, p, o, o', ys, y, rfl, lp, ob, rd, e, q⟩ := h
  match o, ys, e with
  | .lst xs, [.list es], e =>
    replace e : (if xs.length + es.length ≤ 16777216 then some (Ob.lst (xs ++ es), PyData.none) else none) = some (o', y) := e
    split at e
    · rename_i hz
      cases e
      obtain ⟨ws, h1, h2⟩ := ob
      obtain ⟨v, r, rfl, r1, r2⟩ := rd
      obtain rfl : r = [] := r2
      unfold Rd at r1
      obtain ⟨b, zs, rfl, s1, r1⟩ := r1
      refine ⟨p, b, ws, zs, rfl, rfl, h1, s1.ll, by rw [sizeLine_eq, h2.len, r1.len]; exact hz, q _ _ ⟨_, upd_same, (h2.app2 r1).ext (ext_upd lp)⟩ rd_none⟩
    · cases e
theorem RdA.dropLast {L : ASet} : ∀ {ds : List D} {vs : List V}, RdA K L H ds vs → RdA K L H ds.dropLast vs.dropLast
  | [], _, h => by obtain rfl : _ = [] := h; rfl
  | [d], _, ⟨v, r, e, h1, h2⟩ => by
    subst e
    obtain rfl : r = [] := h2
    rfl
  | d :: e :: ds, _, ⟨v, r, e0, h1, h2⟩ => by
    subst e0
    have h3 := RdA.dropLast h2
    obtain ⟨w, ws, rfl, _, _⟩ := h2
    exact ⟨v, _, rfl, h1, h3⟩
theorem mu_pop0 {x : V} {vs : List V} {Q : VK} (h : MuR K .pop0 x vs H Q) : rPop x vs H Q := by
  obtain ⟨L, p, o, o', ys, y, rfl, lp, ob, rd, e, q⟩ := h
  match o, ys, e with
  | .lst xs, [], e =>
    obtain ⟨d, e1, e2⟩ := omap (show (xs[xs.length - 1]?).map (fun y => (Ob.lst xs.dropLast, y)) = some (o', y) from e)
    cases e2
    obtain ⟨ws, h1, h2⟩ := ob
    obtain rfl : vs = [] := rd
    obtain ⟨v, g1, g2⟩ := h2.get e1
    exact ⟨p, ws, v, rfl, rfl, h1, by rw [h2.len]; exact g1, q _ _ ⟨_, upd_same, h2.dropLast.ext (ext_upd lp)⟩ (g2.ext (ext_upd lp))⟩
end
section
variable {X : Cx} {Γ : Gam} {G : Call} {m : Nat}
theorem base_ok {o : Expr} {nm : Str} {env : Env} (h : notSup o = true) : attributeBase o nm env (eval o env) = eval o env := by
  unfold notSup at h
  split at h
  · cases h
  · rename_i hn
    cases o
    case Call fn es ks pos =>
      cases fn
      case Name x p =>
        cases es with
        | nil =>
          cases ks with
          | nil => exact absurd rfl (hn x p pos)
          | cons _ _ => rfl
        | cons _ _ => rfl
      all_goals rfl
    all_goals rfl
theorem few_ok {n : Nat} {es : List Expr} {l : List Ex} {cpos : Pos} {env : Env} (hl : es.length < 29) (h : mapO (comp n Γ) es = some l) :
    ((backTo cpos (starEach es env)).all (fun x => !x.1) && (backToKw cpos (keywordEach [] env)).all (fun x => x.1.isSome) && decide (es.length + ([] : List Keyword).length + (if ([] : List Keyword).isEmpty then 0 else 1) < 30)) = true := by
  have h1 := mapO_plain (pos := cpos) (env := env) h
  have h2 : (backTo cpos (starEach es env)).all (fun x => !x.1) = true := by
    rw [List.all_eq_not_any_not]
    simp only [Bool.not_not]
    rw [h1]; rfl
  rw [h2]
  simp only [Bool.true_and, Bool.and_eq_true, decide_eq_true_eq]
  refine ⟨rfl, ?_⟩
  simp only [List.length_nil, List.isEmpty_nil, if_true]
  omega
theorem mu_info {nm : Str} {n : Nat} {mu : Mu} (h : muO nm n = some mu) : ∃ id, PlainAttrs "list" ∧ Slot "list" nm id ∧ typeOf (.builtin id) = pure (.type "method_descriptor") ∧ MtR X id (MuR X.K mu) := by
  unfold muO at h
  split at h
  · rename_i e
    subst e
    split at h
    · cases h
      exact ⟨_, F.plainAttrs_list, F.slot_list_append, F.type_list_append, fun pins s σ H x xs v us Q I rx rs q => mt_append pins s σ H x xs v us Q I rx rs (mu_append q)⟩
    · cases h
  · split at h
    · rename_i e
      subst e
      split at h
      · cases h
        exact ⟨_, F.plainAttrs_list, F.slot_list_extend, F.type_list_extend, fun pins s σ H x xs v us Q I rx rs q => mt_extendD pins s σ H x xs v us Q I rx rs (mu_extend q)⟩
      · cases h
    · split at h
      · rename_i e
        subst e
        split at h
        · cases h
          exact ⟨_, F.plainAttrs_list, F.slot_list_pop, F.type_list_pop, fun pins s σ H x xs v us Q I rx rs q => mt_pop pins s σ H x xs v us Q I rx rs (mu_pop0 q)⟩
        · cases h
      · cases h
theorem e_mu {n : Nat} (ih : IH Γ G X n) {nm : Str} {o : Expr} {es : List Expr} {ap cp : Pos} {mu : Mu} {o' : Ex} {es' : List Ex} (hp : (ap.endLine == cp.line) = true) (hl : es.length < 29) (hs : notSup o = true) (hm : muO nm es.length = some mu)
    (h1 : comp n Γ o = some o') (h2 : mapO (comp n Γ) es = some es') : E3 X G (.Call (.Attribute o nm ap) es [] cp) (.mu mu o' es') := by
  refine .plain ?_ (fun _ => rfl) fun _ _ _ z => by cases z
  obtain ⟨id, i1, i2, i3, i4⟩ := mu_info (X := X) hm
  cases es with
  | nil =>
    cases h2
    exact PE.imp (pe_bm0 i1 i2 i3 i4 (ih o o' h1).e (base_ok hs) hp) fun σ H Q q => tD.mono (tD_mu q) fun x H1 q => ⟨q.1, tDs_nil q.2⟩
  | cons e es =>
    have h2' := h2
    obtain ⟨b, t, q1, q2, rfl⟩ := mapO_cons h2
    exact PE.imp (pe_bm i1 i2 i3 i4 (ih o o' h1).e (comps_pa ih.pe h2') (base_ok hs) (few_ok hl h2') hp (comp_star q1 es X.env) (mapO_plain q2)) fun σ H Q q => tD_mu q
end
end Vm
set_option maxRecDepth 100000
set_option maxHeartbeats 1000000
namespace Vm
open PySem PySem.Spec L2
section
variable {X : Cx}
/-- what a method's name stands for -/
def MeOk (X : Cx) (nm : Str) (T : String) (o : Op) : Prop := ∃ id, PlainAttrs T ∧ Slot T nm id ∧ typeOf (.builtin id) = pure (.type "method_descriptor") ∧ MtR X id (fun x xs H Q => OpQ X.K o (x :: xs) H Q)
theorem keyD_kD (k : Key) : keyD (kD k) = some k := by cases k <;> rfl
theorem get_rd {K : PySem.W.Frag} {L : ASet} {H : Hp} {k : Key} : ∀ {kvs : List (D × D)} {hv : List (Key × V)}, RdK K L H kvs hv → (dgetD kvs k = none ∧ valV hv k = none) ∨ ∃ d v, dgetD kvs k = some d ∧ valV hv k = some v ∧ Rd K L H d v
  | [], _, h => by
    obtain rfl : _ = [] := h
    exact .inl ⟨rfl, rfl⟩
  | (e, d) :: ds, _, ⟨kk, v, r, e0, e1, h1, h2⟩ => by
    subst e0 e1
    unfold dgetD valV
    rw [List.find?_cons, List.find?_cons]
    by_cases q : kk = k
    · subst q
      simp only [keyD_kD, decide_true, Option.map_some]
      exact .inr ⟨d, v, rfl, rfl, h1⟩
    · have q1 : decide (keyD (kD kk) = some k) = false := by rw [keyD_kD]; simpa using q
      have q2 : decide (kk = k) = false := by simpa using q
      simp only [q1, q2]
      exact get_rd h2
theorem keyV_of {K : PySem.W.Frag} {L : ASet} {H : Hp} {d : D} {v : V} {k : Key} (h : Rd1 K L H d v) (e : keyD d = some k) : v = kV k := by
  cases d with
  | int i => cases e; exact h.i
  | str i => cases e; exact h.s
  | _ => cases e
theorem rd1_opt {K : PySem.W.Frag} {L : ASet} {H : Hp} {d : D} {v : V} (h : Rd K L H d v) : OpPost K L H (.d d) v H := .inl ⟨rfl, h⟩
theorem rd1sc {K : PySem.W.Frag} {L : ASet} {H : Hp} : ∀ {ys : List D} {x : V} {xs : List V}, Rd1s K L H ys (x :: xs) → ∃ a r, ys = a :: r ∧ Rd1 K L H a x ∧ Rd1s K L H r xs
  | [], _, _, h => by have h : _ = [] := h; cases h
  | a :: r, _, _, ⟨_, _, e, h1, h2⟩ => by cases e; exact ⟨a, r, rfl, h1, h2⟩
theorem me_get1 (hu : X.A.units + 1 < cLine) : MtR X "dict.get" (fun x xs H Q => OpQ X.K .mget1 (x :: xs) H Q) := by
  intro pins s σ H x xs v us Q I rx rs h
  obtain ⟨L, ys, rr, rd, e, q⟩ := h
  obtain ⟨v1, w1, rfl, r1, rd⟩ := rd1sc rd
  match w1, e with
  | [k], e =>
    cases v1 with
    | dict kvs =>
      obtain ⟨kk, ek, rfl⟩ := omap (show (keyD k).map _ = some rr from e)
      obtain ⟨a, hv, rfl, ha, rk⟩ := r1.m
      obtain ⟨y, r, rfl, ry, r2⟩ := rd
      obtain rfl : r = [] := r2
      obtain ⟨u, rfl, ru⟩ := rs.one
      cases rx
      have ey := keyV_of ry ek
      refine d_get1 hu I (o := valV hv kk) (.inl ⟨hv, kk, .inl ha, ey, rfl⟩) ru fun w' s' I' rw' => ?_
      rcases get_rd (k := kk) rk with ⟨g1, g2⟩ | ⟨d, v, g1, g2, g3⟩
      · rw [g2] at rw'
        rw [g1] at q
        exact ⟨_, H, I', rw', q _ _ (rd1_opt rd_none)⟩
      · rw [g2] at rw'
        rw [g1] at q
        exact ⟨_, H, I', rw', q _ _ (rd1_opt g3)⟩
    | _ => cases e
  | [], e => cases v1 <;> cases e
  | _ :: _ :: _, e => cases v1 <;> cases e
theorem me_get2 (hu : X.A.units + 1 < cLine) : MtR X "dict.get" (fun x xs H Q => OpQ X.K .mget2 (x :: xs) H Q) := by
  intro pins s σ H x xs v us Q I rx rs h
  obtain ⟨L, ys, rr, rd, e, q⟩ := h
  obtain ⟨v1, w1, rfl, r1, rd⟩ := rd1sc rd
  match w1, e with
  | [k, z], e =>
    cases v1 with
    | dict kvs =>
      obtain ⟨kk, e1⟩ : ∃ kk, keyD k = some kk ∧ (if flat1 z = true then some (RR.d ((dgetD kvs kk).getD z)) else none) = some rr := by
        obtain ⟨kk, h1, h2⟩ := obind (show (keyD k).bind (fun kk => if flat1 z = true then some (RR.d ((dgetD kvs kk).getD z)) else none) = some rr from e)
        exact ⟨kk, h1, h2⟩
      obtain ⟨ek, e1⟩ := e1
      split at e1
      · rename_i fz
        cases e1
        obtain ⟨a, hv, rfl, ha, rk⟩ := r1.m
        obtain ⟨y, r, rfl, ry, zv, r', rfl, rz, r2⟩ := rd
        obtain rfl : r' = [] := r2
        obtain ⟨u, w, rfl, ru, rw0⟩ := rs.two
        cases rx
        have ey := keyV_of ry ek
        have rz' : Rd X.K L H z zv := by
          cases z with
          | list _ => cases fz
          | dict _ => cases fz
          | _ => exact rz
        refine d_get2 hu I (o := valV hv kk) (.inl ⟨hv, kk, .inl ha, ey, rfl⟩) ru rw0 fun w' s' I' rw' => ?_
        rcases get_rd (k := kk) rk with ⟨g1, g2⟩ | ⟨d, v, g1, g2, g3⟩
        · rw [g2] at rw'
          rw [g1] at q
          exact ⟨_, H, I', rw', q _ _ (rd1_opt rz')⟩
        · rw [g2] at rw'
          rw [g1] at q
          exact ⟨_, H, I', rw', q _ _ (rd1_opt g3)⟩
      · cases e1
    | _ => cases e
  | [], e => cases v1 <;> cases e
  | [_], e => cases v1 <;> cases e
  | _ :: _ :: _ :: _, e => cases v1 <;> cases e
theorem RdA.intsD {K : PySem.W.Frag} {L : ASet} {H : Hp} {ds : List D} {vs : List V} {ns : List Int} (r : RdA K L H ds vs) (e : intsD ds = some ns) : vs = ns.map V.int := by
  have := intsD_some e
  subst this
  clear e
  induction ns generalizing vs with
  | nil => exact r
  | cons n ns ih =>
    obtain ⟨v, w, rfl, h1, h2⟩ := r
    rw [rdi_of h1, ih h2]; rfl
theorem idx_some {ds : List D} {k : D} {rr : RR} (e : idxD ds k = some rr) : ∃ i ns, k = .int i ∧ intsD ds = some ns ∧ i ∈ ns ∧ rr = .d (.int ((ns.idxOf i : Nat) : Int)) := by
  cases k with
  | int i =>
    obtain ⟨ns, h1, h2⟩ := obind (show (intsD ds).bind _ = some rr from e)
    split at h2
    · rename_i hk
      cases h2
      exact ⟨i, ns, rfl, h1, hk, rfl⟩
    · cases h2
  | _ => cases e
theorem me_tidx : MtR X "tuple.index" (fun x xs H Q => OpQ X.K .tindex (x :: xs) H Q) := by
  intro pins s σ H x xs v us Q I rx rs h
  obtain ⟨L, ys, rr, rd, e, q⟩ := h
  obtain ⟨v1, w1, rfl, r1, rd⟩ := rd1sc rd
  match w1, e with
  | [k], e =>
    cases v1 with
    | tuple ds =>
      obtain ⟨i, ns, rfl, h1, h2, rfl⟩ := idx_some (show idxD ds k = some rr from e)
      obtain ⟨a, vs, rfl, st, ra⟩ := r1.t
      obtain ⟨y, r, rfl, ry, r2⟩ := rd
      obtain rfl : r = [] := r2
      obtain ⟨u, rfl, ru⟩ := rs.one
      cases rx
      have hv := ra.intsD h1
      subst hv
      have hy := ry.i
      subst hy
      obtain ⟨t, rfl⟩ := ru
      obtain ⟨its, r, ht, _⟩ := I.tuple st.sq
      refine PySem.SeqAt.tuple_index_ints (vs := its) (isTup_tuple ht) (intsAre_of r) h2 ?_
      exact ⟨.int ((ns.idxOf i : Nat) : Int), H, I.tok _, ⟨_, rfl⟩, q _ _ (rd1_opt rd_int)⟩
    | _ => cases e
  | [], e => cases v1 <;> cases e
  | _ :: _ :: _, e => cases v1 <;> cases e
theorem me_lidx : MtR X "list.index" (fun x xs H Q => OpQ X.K .lindex (x :: xs) H Q) := by
  intro pins s σ H x xs v us Q I rx rs h
  obtain ⟨L, ys, rr, rd, e, q⟩ := h
  obtain ⟨v1, w1, rfl, r1, rd⟩ := rd1sc rd
  match w1, e with
  | [k], e =>
    cases v1 with
    | list ds =>
      obtain ⟨i, ns, rfl, h1, h2, rfl⟩ := idx_some (show idxD ds k = some rr from e)
      obtain ⟨a, vs, rfl, st, ra⟩ := r1.l
      obtain ⟨y, r, rfl, ry, r2⟩ := rd
      obtain rfl : r = [] := r2
      obtain ⟨u, rfl, ru⟩ := rs.one
      cases rx
      have hv := ra.intsD h1
      subst hv
      have hy := ry.i
      subst hy
      obtain ⟨t, rfl⟩ := ru
      obtain ⟨its, r, ht, hz⟩ := I.list st.sq
      refine PySem.SeqAt.list_index_ints (vs := its) ht.isList (intsAre_of r) (by simpa using hz) h2 ?_
      exact ⟨.int ((ns.idxOf i : Nat) : Int), H, I.tok _, ⟨_, rfl⟩, q _ _ (rd1_opt rd_int)⟩
    | _ => cases e
  | [], e => cases v1 <;> cases e
  | _ :: _ :: _, e => cases v1 <;> cases e
theorem cnt_some {ds : List D} {k : D} {rr : RR} (e : cntD ds k = some rr) : ∃ i ns, k = .int i ∧ intsD ds = some ns ∧ rr = .d (.int ((ns.count i : Nat) : Int)) := by
  cases k with
  | int i =>
    obtain ⟨ns, h1, h2⟩ := obind (show (intsD ds).bind _ = some rr from e)
    cases h2
    exact ⟨i, ns, rfl, h1, rfl⟩
  | _ => cases e
theorem count_eq (ns : List Int) (i : Int) : (ns.countP fun y => decide (y = i)) = ns.count i := by
  unfold List.count
  congr 1
theorem me_tcnt (hu : X.A.units + 2 < cLine) : MtR X "tuple.count" (fun x xs H Q => OpQ X.K .tcount (x :: xs) H Q) := by
  intro pins s σ H x xs v us Q I rx rs h
  obtain ⟨L, ys, rr, rd, e, q⟩ := h
  obtain ⟨v1, w1, rfl, r1, rd⟩ := rd1sc rd
  match w1, e with
  | [k], e =>
    cases v1 with
    | tuple ds =>
      obtain ⟨i, ns, rfl, h1, rfl⟩ := cnt_some (show cntD ds k = some rr from e)
      obtain ⟨a, vs, rfl, st, ra⟩ := r1.t
      obtain ⟨y, r, rfl, ry, r2⟩ := rd
      obtain rfl : r = [] := r2
      obtain ⟨u, rfl, ru⟩ := rs.one
      cases rx
      have hv := ra.intsD h1
      subst hv
      have hy := ry.i
      subst hy
      obtain ⟨t, rfl⟩ := ru
      obtain ⟨its, r, ht, _⟩ := I.tuple st.sq
      refine PySem.W.count_tuple_datum (α := Int) (vs := its.toArray) ht (PySem.W.HoldAll.of_ints (intsAre_of r)) (PySem.W.holds_int i t) (by show _ + 1 + 0 < _; omega) ?_
      rw [count_eq]
      exact ⟨.int ((ns.count i : Nat) : Int), H, I.tok _, ⟨_, rfl⟩, q _ _ (rd1_opt rd_int)⟩
    | _ => cases e
  | [], e => cases v1 <;> cases e
  | _ :: _ :: _, e => cases v1 <;> cases e
theorem me_lcnt (hu : X.A.units + 2 < cLine) : MtR X "list.count" (fun x xs H Q => OpQ X.K .lcount (x :: xs) H Q) := by
  intro pins s σ H x xs v us Q I rx rs h
  obtain ⟨L, ys, rr, rd, e, q⟩ := h
  obtain ⟨v1, w1, rfl, r1, rd⟩ := rd1sc rd
  match w1, e with
  | [k], e =>
    cases v1 with
    | list ds =>
      obtain ⟨i, ns, rfl, h1, rfl⟩ := cnt_some (show cntD ds k = some rr from e)
      obtain ⟨a, vs, rfl, st, ra⟩ := r1.l
      obtain ⟨y, r, rfl, ry, r2⟩ := rd
      obtain rfl : r = [] := r2
      obtain ⟨u, rfl, ru⟩ := rs.one
      cases rx
      have hv := ra.intsD h1
      subst hv
      have hy := ry.i
      subst hy
      obtain ⟨t, rfl⟩ := ru
      obtain ⟨its, r, ht, hz⟩ := I.list st.sq
      refine PySem.W.count_list_datum (α := Int) (vs := its.toArray) ht.isList (PySem.W.HoldAll.of_ints (intsAre_of r)) (PySem.W.holds_int i t) (by show _ + 1 + 0 < _; omega) ?_
      rw [count_eq]
      exact ⟨.int ((ns.count i : Nat) : Int), H, I.tok _, ⟨_, rfl⟩, q _ _ (rd1_opt rd_int)⟩
    | _ => cases e
  | [], e => cases v1 <;> cases e
  | _ :: _ :: _, e => cases v1 <;> cases e
theorem me_scnt : MtR X "str.count" (fun x xs H Q => OpQ X.K .mcount (x :: xs) H Q) := by
  intro pins s σ H x xs v us Q I rx rs h
  obtain ⟨L, ys, rr, rd, e, q⟩ := h
  obtain ⟨v1, w1, rfl, r1, rd⟩ := rd1sc rd
  match w1, e with
  | [k], e =>
    cases v1 with
    | str a =>
      cases k with
      | str b =>
        cases (show some (RR.d (.int ((Builtin.Str.occurrences a b 0 a.length (a.length + 1)).length : Nat))) = some rr from e)
        obtain ⟨y, r, rfl, ry, r2⟩ := rd
        obtain rfl : r = [] := r2
        obtain ⟨u, rfl, ru⟩ := rs.one
        have hx := r1.s
        subst hx
        have hy := ry.s
        subst hy
        obtain ⟨t, rfl⟩ := rx
        obtain ⟨t2, rfl⟩ := ru
        refine call_gives F.slot_str_count (typeIs_str _ _ _) F.entry_str_count (F.args_str_count_2 _ _) (gives_str_count a b t t2) ?_
        exact ⟨.int ((Builtin.Str.occurrences a b 0 a.length (a.length + 1)).length : Nat), H, I.tok _, ⟨_, rfl⟩, q _ _ (rd1_opt rd_int)⟩
      | _ => cases e
    | _ => cases k <;> cases e
  | [], e => cases v1 <;> cases e
  | _ :: _ :: _, e => cases v1 <;> cases e
theorem me_ok (hu : X.A.units + 2 < cLine) {nm : Str} {T : String} {n : Nat} {o : Op} (h : meT nm T n = some o) : (T = "dict" ∨ T = "list" ∨ T = "str") ∧ MeOk X nm T o := by
  unfold meT meTab at h
  obtain ⟨r, h1, h2⟩ := omap h
  have hp := List.find?_some h1
  have hm := List.mem_of_find?_eq_some h1
  simp only [Bool.and_eq_true, decide_eq_true_eq, beq_iff_eq] at hp
  obtain ⟨⟨p1, p2⟩, p3⟩ := hp
  subst p1 p2 h2
  rcases List.mem_cons.mp hm with e | hm
  · subst e; exact ⟨.inl rfl, _, F.plainAttrs_dict, F.slot_dict_get, F.type_dict_get, me_get1 (by omega)⟩
  rcases List.mem_cons.mp hm with e | hm
  · subst e; exact ⟨.inl rfl, _, F.plainAttrs_dict, F.slot_dict_get, F.type_dict_get, me_get2 (by omega)⟩
  rcases List.mem_cons.mp hm with e | hm
  · subst e; exact ⟨.inr (.inl rfl), _, F.plainAttrs_list, F.slot_list_index, F.type_list_index, me_lidx⟩
  rcases List.mem_cons.mp hm with e | hm
  · subst e; exact ⟨.inr (.inl rfl), _, F.plainAttrs_list, F.slot_list_count, F.type_list_count, me_lcnt hu⟩
  rcases List.mem_cons.mp hm with e | hm
  · subst e; exact ⟨.inr (.inr rfl), _, F.plainAttrs_str, F.slot_str_count, F.type_str_count, me_scnt⟩
  cases hm
theorem pl_ok (hu : X.A.units + 2 < cLine) {nm : Str} {n : Nat} {o : Op} (h : plT nm n = some o) : MeOk X nm "tuple" o := by
  unfold plT at h
  split at h
  · rename_i q
    cases h
    obtain ⟨rfl, _⟩ := q
    exact ⟨_, F.plainAttrs_tuple, F.slot_tuple_index, F.type_tuple_index, me_tidx⟩
  split at h
  · rename_i q
    cases h
    obtain ⟨rfl, _⟩ := q
    exact ⟨_, F.plainAttrs_tuple, F.slot_tuple_count, F.type_tuple_count, me_tcnt hu⟩
  · cases h
theorem ty_pl {pins : List (Addr × Obj)} {s : Shared} {σ : L2.St} {H : Hp} {L : ASet} {x : V} {v : Value} (I : Inv X pins σ H s) (r : RelV x v) (h : PlT L H x) :
    s.TypeIs v "tuple" ∧ ∀ a, v = .ref a → ∃ ob, s.heap.get? a = some ob ∧ ob.dict = none := by
  obtain ⟨a, o, vs, rfl, _, h1, h2⟩ := h
  cases r
  obtain ⟨e, z, its, rv, ob, e2, hc, _⟩ := (show ObjOk X.prog X.w H s.heap a (.frz o (.tup vs)) from I.hok a _ h1)
  rw [e] at e2
  cases e2
  exact ⟨⟨o, e, hc⟩, fun b eb => by cases eb; exact ⟨o, e, h2⟩⟩
theorem ty_of {pins : List (Addr × Obj)} {s : Shared} {σ : L2.St} {H : Hp} {L : ASet} {y : D} {x : V} {v : Value} (I : Inv X pins σ H s) (r : RelV x v) (h : Rd1 X.K L H y x) (hT : tyD y = "dict" ∨ tyD y = "list" ∨ tyD y = "str") :
    s.TypeIs v (tyD y) ∧ ∀ a, v = .ref a → ∃ ob, s.heap.get? a = some ob ∧ ob.dict = none := by
  cases y with
  | list ds =>
    obtain ⟨a, vs, rfl, ll, _⟩ := h.l
    exact tyV_is (T := "list") I r (.inl ⟨rfl, vs, ll.sq⟩)
  | dict kvs =>
    obtain ⟨a, hv, rfl, ha, _⟩ := h.m
    exact tyV_is (T := "dict") I r (.inr (.inr (.inl ⟨rfl, .inl ⟨hv, ha⟩⟩)))
  | str a =>
    have hx := h.s
    subst hx
    obtain ⟨t, rfl⟩ := r
    exact ⟨typeIs_str _ _ _, fun b eb => by cases eb⟩
  | _ => exact absurd hT (by simp [tyD])
end
section
variable {X : Cx} {Γ : Gam} {G : Call} {m : Nat}
/-- o.m(e, ..), the type found on the way -/
def tMe (K : PySem.W.Frag) (nm : Str) (n : Nat) (to : TE) (t : TA) : TE := fun σ H Q => to σ H fun x H1 => ∃ (L : ASet) (y : D) (o : Op), ((Rd1 K L H1 y x ∧ meT nm (tyD y) n = some o) ∨ (PlT L H1 x ∧ plT nm n = some o)) ∧ t σ H1 fun xs H2 => OpQ K o (x :: xs) H2 Q
theorem pe_me {e o : Expr} {es : List Expr} {nm : Str} {apos cpos : Pos} {to : TE} {t : TA} {n : Nat} (hu : X.A.units + 2 < cLine) (ho : PE X o to) (ha : PA X (e :: es) t)
    (hbase : attributeBase o nm X.env (eval o X.env) = eval o X.env)
    (hfew : ((backTo cpos (starEach (e :: es) X.env)).all (fun x => !x.1) && (backToKw cpos (keywordEach [] X.env)).all (fun x => x.1.isSome)
      && decide ((e :: es).length + ([] : List Keyword).length + (if ([] : List Keyword).isEmpty then 0 else 1) < 30)) = true)
    (hline : (apos.endLine == cpos.line) = true) (hs : starEach (e :: es) X.env = (false, eval e X.env) :: starEach es X.env) (hplain : (backTo cpos (starEach es X.env)).any (·.1) = false) :
    PE X (.Call (.Attribute o nm apos) (e :: es) [] cpos) (tMe X.K nm n to t) := by
  refine ⟨fun pins s σ H Q I h => ?_⟩
  refine wpAny_Call_method_late hbase hfew hline rfl (thn (ho.run pins s σ H _ I h) fun v s1 ⟨x, H1, I1, r1, L, y, op, rd, q1⟩ => ?_)
  obtain ⟨T, ⟨id, pa, slot, hty, hmt⟩, h1, h2⟩ : ∃ T : String, MeOk X nm T op ∧ s1.TypeIs v T ∧ ∀ a, v = .ref a → ∃ ob, s1.heap.get? a = some ob ∧ ob.dict = none := by
    rcases rd with ⟨rd, hm⟩ | ⟨rd, hm⟩
    · obtain ⟨hT, mo⟩ := me_ok hu hm
      exact ⟨_, mo, ty_of I1 r1 rd hT⟩
    · exact ⟨_, pl_ok hu hm, ty_pl I1 r1 rd⟩
  refine ⟨_, id, pa, slot, hty, h1, h2, ?_⟩
  have hA := ha.run cpos pins s1 σ H1 _ I1 q1
  rw [hs] at hA ⊢
  refine Calls.callWith_builtin (by show (false || (backTo cpos (starEach es X.env)).any (·.1)) = false; rw [hplain] <;> rfl) (Calls.evalArgs_plain ?_)
  exact thn hA fun us s2 ⟨vs, H2, I2, r2, q2⟩ => hmt pins s2 σ H2 x vs v us Q I2 r1 r2 q2
end
section
variable {K : PySem.W.Frag} {A : ASet} {as : List Addr} {f : F} {σ : L2.St} {H : Hp}
theorem tD_me {G : Call} {nm : Str} {a : Ex} {es : List Ex} {Q : VK} (h : tD K G (.me nm a es) σ H Q) : tMe K nm es.length (tD K G a) (tDs K G es) σ H Q := by
  obtain ⟨A, as, f, rv, f', R, he, hQ⟩ := h
  unfold evE at he
  obtain ⟨⟨r1, f1⟩, e1, he⟩ := bind_ok he
  obtain ⟨o, e2, he⟩ := bind_ok he
  obtain ⟨⟨rs, f2⟩, e3, he⟩ := bind_ok he
  obtain ⟨rr, e4, he⟩ := bind_ok he
  cases he
  have e2 := ofOpt_ok e2
  obtain ⟨ys, e7, e8⟩ := obind (ofOpt_ok e4)
  obtain ⟨z, e9, e7⟩ := obind e7
  obtain ⟨zs, e10, e7⟩ := obind e7
  cases e7
  refine ⟨A, as, f, r1, f1, R, e1, fun x H1 p1 => ?_⟩
  obtain ⟨A1, s1, R1, q1, n1, x1, k1⟩ := id p1
  have rd : ∃ (L : ASet) (y : D), (Rd1 K L H1 y x ∧ meT nm (tyD y) es.length = some o) ∨ (PlT L H1 x ∧ plT nm es.length = some o) := by
    have gen : ∀ y, view f1 r1 = some y → meT nm (tyD y) es.length = some o → ∃ (L : ASet) (y : D), (Rd1 K L H1 y x ∧ meT nm (tyD y) es.length = some o) ∨ (PlT L H1 x ∧ plT nm es.length = some o) := fun y e5 e6 =>
      ⟨_, y, .inl ⟨(p1.seen e5).2, e6⟩⟩
    cases r1 with
    | d y =>
      replace e2 : (if isPl y = true then plT nm es.length else meT nm (tyD (norm y)) es.length) = some o := e2
      split at e2
      · rename_i hp
        rcases q1 with q1 | ⟨ds, _, _, q3⟩
        · have := q1.norm
          unfold isPl at hp
          split at hp
          · rename_i ds
            exact absurd this (by unfold norm; intro z; cases z)
          · cases hp
        · exact ⟨_, .none, .inr ⟨q3, e2⟩⟩
      · exact gen _ rfl e2
    | fr w => obtain ⟨y, e5, e6⟩ := obind (show (view f1 (.fr w)).bind (fun y => meT nm (tyD y) es.length) = some o from e2); exact gen y e5 e6
    | vr w => obtain ⟨y, e5, e6⟩ := obind (show (view f1 (.vr w)).bind (fun y => meT nm (tyD y) es.length) = some o from e2); exact gen y e5 e6
    | ce w => obtain ⟨y, e5, e6⟩ := obind (show (view f1 (.ce w)).bind (fun y => meT nm (tyD y) es.length) = some o from e2); exact gen y e5 e6
  obtain ⟨L0, y, rd⟩ := rd
  refine ⟨L0, y, o, rd, A1, as, f1, rs, f2, R1, e3, fun vs H2 p2 => ?_⟩
  obtain ⟨A2, s2, R2, q2, n2, x2, k2⟩ := id p2
  have q1' := q1.ext x2 (fun a z => k2 a z) s2
  have sub : ∀ a, A a → A2 a := fun a z => s2 a (s1 a z)
  have xl := ext_less (H := H2) (f := f2) (as := as) (σ := σ) sub
  have pn : PostN K A as f σ H f2 H2 := ⟨R2.less sub, (x1.trans x2).trans xl, fun a z => (k2 a (s1 a z)).trans (k1 a z)⟩
  exact ⟨_, z :: zs, rr, ⟨x, vs, rfl, (view_rd1 R2 q1' e9).ext xl, (views_rd1 R2 q2 e10).ext xl⟩, e8, fun v H3 hp => hQ v H3 (pn.then (op_post pn.1 hp))⟩
end
section
variable {X : Cx} {Γ : Gam} {G : Call} {m : Nat}
theorem e_me (C : XOk Γ G m X) {n : Nat} (ih : IH Γ G X n) {nm : Str} {o : Expr} {es : List Expr} {ap cp : Pos} {o' : Ex} {es' : List Ex} (hp : (ap.endLine == cp.line) = true) (hl : es.length < 29) (hs : notSup o = true) (hb : meB nm es.length = true)
    (h1 : comp n Γ o = some o') (h2 : mapO (comp n Γ) es = some es') : E3 X G (.Call (.Attribute o nm ap) es [] cp) (.me nm o' es') := by
  refine .plain ?_ (fun _ => rfl) fun _ _ _ z => by cases z
  cases es with
  | nil => exfalso; revert hb; unfold meB meTab; simp
  | cons e es =>
    have h2' := h2
    obtain ⟨b, t, q1, q2, rfl⟩ := mapO_cons h2
    exact PE.imp (pe_me (by have := C.un; omega) (ih o o' h1).e (comps_pa ih.pe h2') (base_ok hs) (few_ok hl h2') hp (comp_star q1 es X.env) (mapO_plain q2)) fun σ H Q q => tD_me q
end
end Vm
set_option maxRecDepth 100000
set_option maxHeartbeats 4000000
namespace Vm
open PySem PySem.Spec PyProof.Rows L2 HT
/-! ### t[::-1] -/
section
variable {prog : Program} {w : World} {A : Around} {E : Value → Shared → Prop} {s : Shared}
theorem back_places (n : Nat) : Builtin.Slice.slicePlaces ((n : Int) - 1) (-1) (-1) = n := by
  unfold Builtin.Slice.slicePlaces
  rw [if_neg (by omega)]
  split
  · rw [show -(-1 : Int) = 1 by omega, Int.ediv_one]; omega
  · omega
theorem fm_congr {α β : Type} {f g : α → Option β} : ∀ {l : List α}, (∀ x ∈ l, f x = g x) → l.filterMap f = l.filterMap g
  | [], _ => rfl
  | x :: l, h => by
    rw [List.filterMap_cons, List.filterMap_cons, h x (List.mem_cons_self ..), fm_congr fun y hy => h y (List.mem_cons_of_mem _ hy)]
theorem back_pick (xs : Array Value) : ((List.range xs.size).filterMap fun (m : Nat) => xs[(((xs.size : Int) - 1) + (m : Int) * -1).toNat]?).toArray = xs.toList.reverse.toArray := by
  congr 1
  have h : ∀ m ∈ List.range xs.size, xs[(((xs.size : Int) - 1) + (m : Int) * -1).toNat]? = (fun m => xs.toList.reverse[m]?) m := by
    intro m hm
    have hm := List.mem_range.mp hm
    have e : (((xs.size : Int) - 1) + (m : Int) * -1).toNat = xs.toList.length - 1 - m := by rw [Array.length_toList]; omega
    rw [e]
    show _ = xs.toList.reverse[m]?
    rw [List.getElem?_reverse (by rw [Array.length_toList]; exact hm), Array.getElem?_toList]
  rw [fm_congr h]
  have : ∀ (l : List Value), (List.range l.length).filterMap (fun m => l[m]?) = l := by
    intro l
    induction l with
    | nil => rfl
    | cons x l ih =>
      rw [List.length_cons, List.range_succ_eq_map, List.filterMap_cons]
      simp only [List.getElem?_cons_zero, List.filterMap_map]
      congr 1
  have k := this xs.toList.reverse
  rw [List.length_reverse, Array.length_toList] at k
  exact k
theorem back_applied {sl : Addr} {vs : Value} {n : Nat} {Q : Int × Int × Nat → Shared → Prop} (hs : s.heap.IsSliceOf sl .none .none vs) (ps : IsPart vs (some (-1)))
    (h : Q ((n : Int) - 1, -1, n) s) : wpAny (model prog w) A (Builtin.Slice.sliceApplied (.ref sl) (pure (n : Int))) Q E s := by
  obtain ⟨os, hos, hcs, hds⟩ := id hs
  unfold Builtin.Slice.sliceApplied Builtin.Slice.sliceFields
  refine wpAny_bind (wpAny_bind (wpAny_field hos hds (x := .none) rfl (wpAny_bind (wpAny_field hos hds (x := .none) rfl (wpAny_bind (wpAny_field hos hds (x := vs) rfl (wpAny_pure ?_)))))))
  refine wpAny_bind (slicePart_ ps ?_)
  show wpAny _ _ (if ((-1 : Int) == 0) = true then _ else _) _ _ s
  rw [if_neg (by decide)]
  refine wpAny_bind (slicePart_none (wpAny_bind (slicePart_none (wpAny_bind (wpAny_pure ?_)))))
  show wpAny _ _ (pure ((n : Int) - 1, (-1 : Int), Builtin.Slice.slicePlaces ((n : Int) - 1) (-1) (-1))) _ _ s
  rw [back_places]
  exact wpAny_pure h
theorem back_tuple {t sl : Addr} {items : Array Value} {vs : Value} {Q : Value → Shared → Prop} (ht : IsTup s.heap t items) (hs : s.heap.IsSliceOf sl .none .none vs) (ps : IsPart vs (some (-1)))
    (h : Q (.ref s.heap.objs.size) { s with heap := s.heap.push { cls := .type "tuple", data := .seq items.toList.reverse.toArray } }) (hsz : items.size ≤ sizeLine) : wpAny (model prog w) A (getItem (.ref t) (.ref sl)) Q E s := by
  have hok : sizeOk (.seq items.toList.reverse.toArray) := by
    show items.toList.reverse.toArray.size ≤ sizeLine
    rw [List.size_toArray, List.length_reverse, Array.length_toList]
    exact hsz
  obtain ⟨os, hos, hcs, hds⟩ := id hs
  have hTs : s.TypeIs (.ref sl) "slice" := ⟨os, hos, hcs⟩
  unfold getItem
  try with_reducible refine wpAny_holding ?_
  first | refine wpAny_bind (wpAny_pure ?_) | skip
  refine wpAny_bind (wpAny_sequenceKey ht.typeIs (by decide) ?_)
  refine wpAny_bind (wpAny_callSpecial?_slot (name := Str.ofString "__getitem__") ht.typeIs PyProof.Rows.slot_tuple_getitem
    (wpAny_call_entry PyProof.Rows.slot_tuple_getitem ht.typeIs entry_tuple_getitem ?_ (args_tuple_getitem _ _)))
  show wpAny _ _ (Builtin.Tuple.tupleItemsOf (.ref t) >>= _) _ _ s
  refine wpAny_bind (tupleItemsOf_ ht ?_)
  refine wpAny_bind (wpAny_typeOf hTs ?_)
  rw [if_pos (by decide)]
  refine wpAny_bind (back_applied hs ps ?_)
  have hno : ¬ (((items.size : Int) - 1 == 0 && (-1 : Int) == 1 && items.size == items.size) = true) := by
    rw [show ((-1 : Int) == 1) = false from rfl, Bool.and_false, Bool.false_and]
    exact Bool.false_ne_true
  show wpAny _ _ (if ((items.size : Int) - 1 == 0 && (-1 : Int) == 1 && items.size == items.size) = true then _ else _) _ _ s
  rw [if_neg hno, back_pick]
  first
    | exact wpAny_bind (m := Builtin.Tuple.tupleExact _) (wpAny_newObj_type (wpAny_pure ⟨_, rfl, wpAny_pure h⟩) hok)
    | exact wpAny_bind (m := Builtin.Tuple.tupleExact _) (wpAny_newObj_type (wpAny_bind (wpAny_pure (wpAny_pure ⟨_, rfl, wpAny_pure h⟩))) hok)
    | exact wpAny_bind (wpAny_bind (m := Builtin.Tuple.tupleExact _) (wpAny_newObj_type (wpAny_pure (wpAny_pure ⟨_, rfl, wpAny_pure h⟩)) hok))
    | exact wpAny_bind (wpAny_bind (m := Builtin.Tuple.tupleExact _) (wpAny_newObj_type (wpAny_pure ⟨_, rfl, wpAny_pure h⟩) hok))
end
section
variable {X : Cx}
/-- xs[::-1], of a list or a tuple -/
def tRevA (K : PySem.W.Frag) (te : TE) : TE := fun σ H Q => te σ H fun x H1 => ∃ a xs, x = .ref a ∧ ((SqL K H1 a xs ∧ ∀ p, H1 p = none → Q (.ref p) (upd H1 p (.lst xs.reverse))) ∨ (SqT K H1 a xs ∧ ∀ p, H1 p = none → Q (.ref p) (upd H1 p (.tup xs.reverse))))
theorem pe_revA {e : Expr} {te : TE} {k : Nat} {p1 p2 p3 pos : Pos} (he : PE X e te) : PE X (.Subscript e (.Slice none none (some (.UnaryOp .USub (.Constant (.int 1) k p1) p2)) p3) pos) (tRevA X.K te) := by
  refine ⟨fun pins s σ H Q I h => ?_⟩
  refine Subscript_ (thn (he.run pins s σ H _ I h) fun v s1 ⟨x, H1, I1, r1, q1⟩ => ?_)
  obtain ⟨a, xs, ex, q1⟩ := q1
  subst ex
  cases r1
  have hst : PO X (some (.UnaryOp .USub (.Constant (.int 1) k p1) p2)) (tPart (tUn (rU fun i => .int (-i)) (tC (.int 1)))) := po_some (pe_un un_neg pe_int)
  refine wpAny_Slice (thn (po_none.run pins s1 σ H1 (fun o H2 => o = none ∧ H2 = H1) I1 ⟨rfl, rfl⟩) fun vl s2 ⟨l, H2, I2, pl, el, e2⟩ => ?_)
  subst el e2
  refine thn (po_none.run pins s2 σ H2 (fun o H3 => o = none ∧ H3 = H2) I2 ⟨rfl, rfl⟩) fun vu s3 ⟨u, H3, I3, pu, eu, e3⟩ => ?_
  subst eu e3
  refine thn (hst.run pins s3 σ H3 (fun o H4 => o = some (-1) ∧ H4 = H3) I3 ⟨1, rfl, -1, rfl, rfl, rfl⟩) fun vs s4 ⟨o, H4, I4, ps, eo, e4⟩ => ?_
  subst eo e4
  cases pl
  cases pu
  have I5 : Inv X pins σ H4 { s4 with heap := s4.heap.push { cls := .type "slice", data := .fields #[.none, .none, vs] } } := I4.kept (t' := s4.toks) fun b ob q => Heap.get?_push_of_some _ q
  show wpAny (model X.prog X.w) X.A (subscriptTail e (.Slice none none (some (.UnaryOp .USub (.Constant (.int 1) k p1) p2)) p3) (.ref a) (.ref s4.heap.objs.size)) (EP X pins σ Q) X.xe { s4 with heap := s4.heap.push { cls := .type "slice", data := .fields #[.none, .none, vs] } }
  rcases q1 with ⟨hx, q⟩ | ⟨hx, q⟩
  · obtain ⟨its, r, ht, hz⟩ := I5.list hx
    have hlen := r.length
    refine tail_any (ops := [.ref a, .ref s4.heap.objs.size]) ht.isList.typeIs (PySem.slot_list_getitem.lookup) ?_ (by with_unfolding_all rfl)
    refine wpAny_getItem_list_slice ht.isList (Heap.IsSliceOf.new _ .none .none vs) .none .none ps (by decide) ?_ (by rw [List.size_toArray]; omega)
    rw [PySem.W.krv_pick]
    refine ⟨.ref _, _, I5.laid (t' := s4.toks) (o := .lst xs.reverse) (fun b ob q => Heap.get?_push_of_some _ q) (Nat.le_refl _) ?_, rfl, q _ (I5.hok.fresh (Nat.le_refl _))⟩
    exact ⟨by rw [List.length_reverse]; exact hz, _, 0, r.reverse, Heap.get?_push_size _ rfl⟩
  · obtain ⟨its, r, ht, hz⟩ := I5.tuple hx
    have hlen := r.length
    refine tail_any (ops := [.ref a, .ref s4.heap.objs.size]) ht.typeIs (PyProof.Rows.slot_tuple_getitem.lookup) ?_ (by with_unfolding_all rfl)
    refine back_tuple ht (Heap.IsSliceOf.new _ .none .none vs) ps ?_ (by rw [List.size_toArray]; omega)
    refine ⟨.ref _, _, I5.laid (t' := s4.toks) (o := .tup xs.reverse) (fun b ob q => Heap.get?_push_of_some _ q) (Nat.le_refl _) ?_, rfl, q _ (I5.hok.fresh (Nat.le_refl _))⟩
    exact ⟨by rw [List.length_reverse]; exact hz, its.reverse, r.reverse, IsTup.new _ _⟩
end
end Vm
set_option maxRecDepth 100000
set_option maxHeartbeats 1000000
namespace Vm
open PySem PySem.Spec L2
/-! ### xs[::-1] -/
section
variable {K : PySem.W.Frag} {G : Call} {σ : L2.St} {H : Hp}
theorem RdA.rev {K : PySem.W.Frag} {L : ASet} {H : Hp} : ∀ {ds : List D} {vs : List V}, RdA K L H ds vs → RdA K L H ds.reverse vs.reverse
  | [], _, h => by obtain rfl : _ = [] := h; rfl
  | d :: ds, _, ⟨v, r, e, h1, h2⟩ => by
    subst e
    rw [List.reverse_cons, List.reverse_cons]
    exact (RdA.rev h2).app1 h1
theorem tD_rev {a : Ex} {Q : VK} (h : tD K G (.op .rev [a]) σ H Q) : tRevA K (tD K G a) σ H Q := by
  refine tD.mono (tDs_one (tD_op h)) fun v H1 q => ?_
  obtain ⟨L, ys, rr, rd, e, q⟩ := q
  obtain ⟨y, rfl, rd1⟩ := rd1s1 rd
  cases y with
  | list ds =>
    cases (show some (RR.fr (.lst ds.reverse)) = some rr from e)
    obtain ⟨p, vs, rfl, ll, ra⟩ := rd1.l
    exact ⟨p, vs, rfl, .inl ⟨ll.sq, fun b hb => q _ _ ⟨b, _, hb, rfl, rfl, ra.rev⟩⟩⟩
  | tuple ds =>
    cases (show some (RR.d (.tuple ds.reverse)) = some rr from e)
    obtain ⟨p, vs, rfl, ll, ra⟩ := rd1.t
    exact ⟨p, vs, rfl, .inr ⟨ll.sq, fun b hb => q _ _ (.inr (.inl ⟨b, _, _, rfl, hb, rfl, rfl, ra.rev⟩))⟩⟩
  | _ => cases e
/-! ### displays with stars -/
def tDst (K : PySem.W.Frag) (G : Call) (es : List Ex) (fl : List Bool) : TA := fun σ H Q => ∃ A as f rvs f', Rel K A as f σ H ∧ evSt G es fl f = .ok (rvs, f') ∧ ∀ vs H', PostA K A as f σ H rvs f' vs H' → Q vs H'
theorem PostA.front {A : ASet} {as : List Addr} {f f1 f2 : F} {H1 H2 : Hp} {r : RV} {rs : List RV} {v : V} {A1 : ASet} (s1 : ∀ a, A a → A1 a) (r1 : RVR K (Lv A1 f1 as σ) A1 as σ H1 r v) (n1 : ∀ o, r = .fr o → ∀ a, v = .ref a → ¬ A a)
    (x1 : Ext (Lv A f as σ) H (Lv A1 f1 as σ) H1) (k1 : ∀ a, A a → H1 a = H a) {vs : List V} (p2 : PostA K A1 as f1 σ H1 rs f2 vs H2) : PostA K A as f σ H (r :: rs) f2 (v :: vs) H2 := by
  obtain ⟨A2, s2, R2, r2, n2, x2, k2⟩ := p2
  refine ⟨A2, fun a z => s2 a (s1 a z), R2, ⟨v, vs, rfl, r1.ext x2 (fun a z => k2 a z) s2, r2⟩, ?_, x1.trans x2, fun a z => (k2 a (s1 a z)).trans (k1 a z)⟩
  have old : ∀ a, V.ref a ∈ frs rs vs → ¬ A a := fun a z q => n2.np a z (s1 a q)
  cases r with
  | fr o =>
    obtain ⟨p, ep, ap, _⟩ := r1
    subst ep
    refine ⟨List.nodup_cons.mpr ⟨fun z => n2.np p z ap, n2.nd⟩, fun a z => ?_⟩
    rcases List.mem_cons.mp (show V.ref a ∈ V.ref p :: frs rs vs from z) with e | z
    · cases e; exact n1 o rfl p rfl
    · exact old a z
  | d _ => exact ⟨n2.nd, old⟩
  | vr _ => exact ⟨n2.nd, old⟩
  | ce _ => exact ⟨n2.nd, old⟩
theorem PostA.frontD {A : ASet} {as : List Addr} {f1 f2 : F} {H1 H2 : Hp} {rs : List RV} {vs : List V} (R1 : Rel K A as f1 σ H1) (p2 : PostA K A as f1 σ H1 rs f2 vs H2) : ∀ {ds : List D} {ws : List V}, RdA K (Lv A f1 as σ) H1 ds ws → PostA K A as f1 σ H1 (ds.map RV.d ++ rs) f2 (ws ++ vs) H2
  | [], _, h => by obtain rfl : _ = [] := h; exact p2
  | d :: ds, _, ⟨w, r, e, h1, h2⟩ => by
    subst e
    exact PostA.front (r := .d d) (fun _ z => z) (.inl h1) (fun o e => by cases e) Ext.refl (fun _ _ => rfl) (PostA.frontD R1 p2 h2)
theorem tDst_cons {e : Ex} {es : List Ex} {fl : List Bool} {Q : List V → Hp → Prop} (h : tDst K G (e :: es) (false :: fl) σ H Q) : tCons (tD K G e) (tDst K G es fl) σ H Q := by
  obtain ⟨A, as, f, rvs, f2, R, he, hQ⟩ := h
  unfold evSt at he
  obtain ⟨⟨r, f1⟩, e1, he⟩ := bind_ok he
  replace he : (evSt G es fl f1).bind (fun q => .ok (r :: q.1, q.2)) = .ok (rvs, f2) := he
  obtain ⟨⟨rs, f3⟩, e2, he⟩ := bind_ok he
  cases he
  refine ⟨A, as, f, r, f1, R, e1, fun v H1 p1 => ?_⟩
  obtain ⟨A1, s1, R1, r1, n1, x1, k1⟩ := id p1
  exact ⟨A1, as, f1, rs, _, R1, e2, fun vs H2 p2 => hQ _ _ (p2.front s1 r1 n1 x1 k1)⟩
theorem tDst_star {e : Ex} {es : List Ex} {fl : List Bool} {Q : List V → Hp → Prop} (h : tDst K G (e :: es) (true :: fl) σ H Q) : StX.tStar K (tD K G e) (tDst K G es fl) σ H Q := by
  obtain ⟨A, as, f, rvs, f2, R, he, hQ⟩ := h
  unfold evSt at he
  obtain ⟨⟨r, f1⟩, e1, he⟩ := bind_ok he
  refine ⟨A, as, f, r, f1, R, e1, fun v H1 p1 => ?_⟩
  have go : ∀ {ds : List D} {ws : List V}, (evSt G es fl f1).bind (fun q => Res.ok (ds.map RV.d ++ q.1, q.2)) = .ok (rvs, f2) → Rel K A as f1 σ H1 → Ext (Lv A f as σ) H (Lv A f1 as σ) H1 → (∀ a, A a → H1 a = H a) → RdA K (Lv A f1 as σ) H1 ds ws → tDst K G es fl σ H1 fun ys H2 => Q (ws ++ ys) H2 := fun {ds ws} he R1 x1 k1 rd => by
    obtain ⟨⟨rs, f3⟩, e2, he⟩ := bind_ok he
    cases he
    refine ⟨A, as, f1, rs, _, R1, e2, fun vs H2 p2 => hQ _ _ ?_⟩
    obtain ⟨A2, s2, R2, r2, n2, x2, k2⟩ := PostA.frontD R1 p2 rd
    exact ⟨A2, s2, R2, r2, n2, x1.trans x2, fun a z => (k2 a z).trans (k1 a z)⟩
  cases r with
  | d y =>
    cases y with
    | list ds =>
      obtain ⟨pn, rd⟩ := p1.kept (y := .list ds) (f'' := f1) rfl
      unfold Rd at rd
      obtain ⟨a, ws, rfl, s, ra⟩ := rd
      exact ⟨a, ws, rfl, .inr s.sq, go he pn.1 pn.2.1 pn.2.2 ra⟩
    | tuple ds =>
      obtain ⟨pn, rd⟩ := p1.kept (y := .tuple ds) (f'' := f1) rfl
      unfold Rd at rd
      obtain ⟨a, ws, rfl, s, ra⟩ := rd
      exact ⟨a, ws, rfl, .inl s.sq, go he pn.1 pn.2.1 pn.2.2 ra⟩
    | _ => cases he
  | _ => cases he
theorem tDst_nil {fl : List Bool} {Q : List V → Hp → Prop} (h : tDst K G [] fl σ H Q) : tNil σ H Q := by
  obtain ⟨A, as, f, rvs, f2, R, he, hQ⟩ := h
  unfold evSt at he
  cases he
  exact hQ [] H (.nil R)
theorem tD_tups {fl : List Bool} {es : List Ex} {Q : VK} (h : tD K G (.tups fl es) σ H Q) : tTup (tDst K G es fl) σ H Q := by
  obtain ⟨A, as, f, rv, f', R, he, hQ⟩ := h
  unfold evE at he
  obtain ⟨⟨rs, f1⟩, e1, he⟩ := bind_ok he
  obtain ⟨⟨ys, f2⟩, e2, he⟩ := bind_ok he
  have e2 := ofOpt_ok e2
  dsimp only at e2 he
  split at he
  · rename_i hl
    cases he
    refine ⟨A, as, f, rs, f1, R, e1, fun vs H1 p => ?_⟩
    obtain ⟨pn, rd⟩ := p.kept e2
    refine ⟨by rw [rd.len, sizeLine_eq]; exact hl, fun q hq => hQ _ _ (pn.then (op_post (rr := .d (.tuple ys)) pn.1 (.inr (.inl ⟨q, vs, ys, rfl, hq, rfl, rfl, rd⟩))))⟩
  · cases he
end
section
variable {X : Cx} {Γ : Gam} {G : Call} {m : Nat}
theorem pa_st {n : Nat} (ih : IH Γ G X n) : ∀ {es : List Expr} {l : List Ex}, mapO (fun e => comp n Γ (unstar e)) es = some l → PA X es (tDst X.K G l (es.map starE))
  | [], _, h => by cases h; exact PA.imp pa_nil fun σ H Q q => tDst_nil q
  | e :: es, _, h => by
    obtain ⟨b, t, h1, h2, e0⟩ := mapO_cons h
    subst e0
    by_cases hs : ∃ e' p, e = .Starred e' p
    · obtain ⟨e', p, rfl⟩ := hs
      exact PA.imp (StX.pa_star (ih e' b h1).e (pa_st ih h2) rfl) fun σ H Q q => tDst_star q
    · have hu : unstar e = e := by
        cases e
        case Starred => exact absurd ⟨_, _, rfl⟩ hs
        all_goals rfl
      have hf : starE e = false := by
        cases e
        case Starred => exact absurd ⟨_, _, rfl⟩ hs
        all_goals rfl
      rw [hu] at h1
      refine PA.imp (pa_cons (ih e b h1).e (pa_st ih h2) (comp_star h1 es X.env)) fun σ H Q q => tDst_cons ?_
      rw [List.map_cons, hf] at q
      exact q
theorem e_tups {n : Nat} (ih : IH Γ G X n) {es : List Expr} {k : _} {pos : Pos} {es' : List Ex} (hes : mapO (fun e => comp n Γ (unstar e)) es = some es') : E3 X G (.Tuple es k pos) (.tups (es.map starE) es') := by
  refine .plain ?_ (fun _ => rfl) fun _ _ _ z => by cases z
  exact PE.imp (pe_tup (pa_st ih hes)) fun σ H Q q => tD_tups q
end
end Vm
set_option maxRecDepth 100000
set_option maxHeartbeats 1000000
namespace Vm
open PySem PySem.Spec L2
theorem permR_cons {α : Type} {rs : List α} {i : Nat} {pm : List Nat} {r : α} (h : rs[i]? = some r) : permR rs (i :: pm) = r :: permR rs pm := by
  unfold permR
  rw [List.filterMap_cons, h]
theorem permR_len {α : Type} {rs : List α} : ∀ {pm : List Nat}, (∀ i ∈ pm, i < rs.length) → (permR rs pm).length = pm.length
  | [], _ => rfl
  | i :: pm, h => by
    have hi := h i (List.mem_cons_self ..)
    rw [permR_cons (List.getElem?_eq_getElem hi), List.length_cons, permR_len fun j hj => h j (List.mem_cons_of_mem _ hj), List.length_cons]
section
variable {K : PySem.W.Frag} {G : Call} {σ : L2.St} {H : Hp}
theorem RVRs.get {L A : ASet} {as : List Addr} : ∀ {rvs : List RV} {vs : List V} {i : Nat} {r : RV}, RVRs K L A as σ H rvs vs → rvs[i]? = some r → ∃ v, vs[i]? = some v ∧ RVR K L A as σ H r v
  | [], _, _, _, _, h => by simp at h
  | q :: rs, _, 0, r, ⟨v, ws, e, h1, _⟩, h => by
    subst e; simp at h; subst h; exact ⟨v, rfl, h1⟩
  | q :: rs, _, i + 1, r, ⟨v, ws, e, _, h2⟩, h => by
    subst e
    obtain ⟨w, h3, h4⟩ := RVRs.get h2 (by simpa using h)
    exact ⟨w, by simpa using h3, h4⟩
theorem frs_mem : ∀ {rvs : List RV} {vs : List V} {i : Nat} {o : Ob} {w : V}, rvs[i]? = some (.fr o) → vs[i]? = some w → w ∈ frs rvs vs
  | [], _, _, _, _, h, _ => by simp at h
  | _ :: _, [], _, _, _, _, h => by simp at h
  | r :: rs, v :: vs, 0, o, w, h, h' => by
    simp at h h'; subst h h'
    exact List.mem_cons_self ..
  | r :: rs, v :: vs, i + 1, o, w, h, h' => by
    have := frs_mem (rvs := rs) (vs := vs) (i := i) (o := o) (w := w) (by simpa using h) (by simpa using h')
    cases r <;> first | exact this | exact List.mem_cons_of_mem _ this
theorem frs_inj : ∀ {rvs : List RV} {vs : List V} {i j : Nat} {o o' : Ob} {w : V}, (frs rvs vs).Nodup → rvs[i]? = some (.fr o) → vs[i]? = some w → rvs[j]? = some (.fr o') → vs[j]? = some w → i = j
  | [], _, _, _, _, _, _, _, h, _, _, _ => by simp at h
  | _ :: _, [], _, _, _, _, _, _, _, h, _, _ => by simp at h
  | r :: rs, v :: vs, 0, 0, _, _, _, _, _, _, _, _ => rfl
  | r :: rs, v :: vs, 0, j + 1, o, o', w, nd, h1, h2, h3, h4 => by
    simp at h1 h2; subst h1 h2
    have := frs_mem (rvs := rs) (vs := vs) (i := j) (o := o') (w := v) (by simpa using h3) (by simpa using h4)
    exact absurd this (List.nodup_cons.mp nd).1
  | r :: rs, v :: vs, i + 1, 0, o, o', w, nd, h1, h2, h3, h4 => by
    simp at h3 h4; subst h3 h4
    have := frs_mem (rvs := rs) (vs := vs) (i := i) (o := o) (w := v) (by simpa using h1) (by simpa using h2)
    exact absurd this (List.nodup_cons.mp nd).1
  | r :: rs, v :: vs, i + 1, j + 1, o, o', w, nd, h1, h2, h3, h4 => by
    have nd' : (frs rs vs).Nodup := by
      cases r <;> first | exact nd | exact (List.nodup_cons.mp nd).2
    rw [frs_inj (i := i) (j := j) nd' (by simpa using h1) (by simpa using h2) (by simpa using h3) (by simpa using h4)]
theorem RVRs.perm {L A : ASet} {as : List Addr} {rvs : List RV} {vs : List V} (h : RVRs K L A as σ H rvs vs) (nd : (frs rvs vs).Nodup) : ∀ {pm : List Nat}, (∀ i ∈ pm, i < rvs.length) → pm.Nodup →
    RVRs K L A as σ H (permR rvs pm) (permR vs pm) ∧ (frs (permR rvs pm) (permR vs pm)).Nodup ∧ ∀ w ∈ frs (permR rvs pm) (permR vs pm), ∃ i ∈ pm, ∃ o, rvs[i]? = some (.fr o) ∧ vs[i]? = some w
  | [], _, _ => ⟨rfl, List.nodup_nil, fun w h => by simp [permR, frs] at h⟩
  | i :: pm, hi, hn => by
    obtain ⟨n1, n2⟩ := List.nodup_cons.mp hn
    have hlt := hi i (List.mem_cons_self ..)
    have e1 : rvs[i]? = some rvs[i] := List.getElem?_eq_getElem hlt
    obtain ⟨v, e2, q⟩ := h.get e1
    obtain ⟨p1, p2, p3⟩ := RVRs.perm h nd (pm := pm) (fun j hj => hi j (List.mem_cons_of_mem _ hj)) n2
    rw [permR_cons e1, permR_cons e2]
    refine ⟨⟨v, _, rfl, q, p1⟩, ?_⟩
    generalize hr : rvs[i] = r at e1 q
    cases r with
    | fr o =>
      refine ⟨List.nodup_cons.mpr ⟨fun z => ?_, p2⟩, fun w hw => ?_⟩
      · obtain ⟨j, hj, o', z1, z2⟩ := p3 v z
        rw [frs_inj nd e1 e2 z1 z2] at n1
        exact n1 hj
      · rcases List.mem_cons.mp (show w ∈ v :: frs (permR rvs pm) (permR vs pm) from hw) with z | z
        · subst z; exact ⟨i, List.mem_cons_self .., o, e1, e2⟩
        · obtain ⟨j, hj, z⟩ := p3 w z
          exact ⟨j, List.mem_cons_of_mem _ hj, z⟩
    | d _ => exact ⟨p2, fun w hw => let ⟨j, hj, z⟩ := p3 w hw; ⟨j, List.mem_cons_of_mem _ hj, z⟩⟩
    | vr _ => exact ⟨p2, fun w hw => let ⟨j, hj, z⟩ := p3 w hw; ⟨j, List.mem_cons_of_mem _ hj, z⟩⟩
    | ce _ => exact ⟨p2, fun w hw => let ⟨j, hj, z⟩ := p3 w hw; ⟨j, List.mem_cons_of_mem _ hj, z⟩⟩
theorem PostA.perm {A : ASet} {as : List Addr} {f f' : F} {H' : Hp} {rvs : List RV} {vs : List V} {pm : List Nat} (h : PostA K A as f σ H rvs f' vs H') (hi : ∀ i ∈ pm, i < rvs.length) (hn : pm.Nodup) : PostA K A as f σ H (permR rvs pm) f' (permR vs pm) H' := by
  obtain ⟨A', s, R, r, n, x, k⟩ := h
  obtain ⟨p1, p2, p3⟩ := r.perm n.nd hi hn
  refine ⟨A', s, R, p1, ⟨p2, fun a ha => ?_⟩, x, k⟩
  obtain ⟨i, _, o, z1, z2⟩ := p3 _ ha
  exact n.np a (frs_mem z1 z2)
theorem tCallkX_of {mg : Str → Option Value} {W : WX} {g : Nat} {pm : List Nat} {es : List Ex} {Q : VK} (hi : ∀ i ∈ pm, i < es.length) (hn : pm.Nodup) (h : tDX K mg W G (.callk g pm es) σ H Q) : tDs K G es σ H fun vs H1 => spG K mg pm.length (G g) (permR vs pm) H1 Q fun cls d H2 => W cls d σ H2 := by
  obtain ⟨A, as, f, rr, f', R, he, hQ⟩ := h
  unfold evX at he
  obtain ⟨⟨rs, f1⟩, e1, he⟩ := bind_ok he
  have hl := chn_len e1
  refine ⟨A, as, f, rs, f1, R, e1, fun vs H1 p => ?_⟩
  have hl2 := p.len
  exact call_okX (p.perm (fun i h => by rw [hl]; exact hi i h) hn) he (permR_len fun i h => by rw [hl2, hl]; exact hi i h) hQ
theorem tCallk_of {mg : Str → Option Value} {E : XK} {g : Nat} {pm : List Nat} {es : List Ex} {Q : VK} (hi : ∀ i ∈ pm, i < es.length) (hn : pm.Nodup) (h : tD K G (.callk g pm es) σ H Q) : tDs K G es σ H fun vs H1 => spG K mg pm.length (G g) (permR vs pm) H1 Q E := by
  obtain ⟨A, as, f, rv, f', R, he, hQ⟩ := h
  unfold evE at he
  obtain ⟨⟨rs, f1⟩, e1, he⟩ := bind_ok he
  have hl := chn_len e1
  refine ⟨A, as, f, rs, f1, R, e1, fun vs H1 p => ?_⟩
  have hl2 := p.len
  exact call_ok (p.perm (fun i h => by rw [hl]; exact hi i h) hn) he (permR_len fun i h => by rw [hl2, hl]; exact hi i h) hQ
/-- the values one after another -/
def chT (K : PySem.W.Frag) (G : Call) : List Ex → TA
  | [], _, H, Q => Q [] H
  | e :: es, σ, H, Q => tD K G e σ H fun v H1 => chT K G es σ H1 fun vs H2 => Q (v :: vs) H2
theorem chT.mono : ∀ {es : List Ex} {H : Hp} {Q Q' : List V → Hp → Prop}, chT K G es σ H Q → (∀ vs H', vs.length = es.length → Q vs H' → Q' vs H') → chT K G es σ H Q'
  | [], _, _, _, h, i => i _ _ rfl h
  | e :: es, _, _, _, h, i => tD.mono h fun v H1 q => chT.mono q fun vs H2 l q => i _ _ (congrArg (· + 1) l) q
theorem tDs_ch : ∀ {es : List Ex} {H : Hp} {Q : List V → Hp → Prop}, tDs K G es σ H Q → chT K G es σ H Q
  | [], _, _, h => tDs_nil h
  | e :: es, _, _, h => tD.mono (tDs_cons h) fun v H1 q => tDs_ch q
theorem chT_app : ∀ {es ks : List Ex} {H : Hp} {Q : List V → Hp → Prop}, chT K G (es ++ ks) σ H Q → chT K G es σ H fun vs H1 => chT K G ks σ H1 fun ws H2 => Q (vs ++ ws) H2
  | [], _, _, _, h => h
  | e :: es, _, _, _, h => tD.mono h fun v H1 q => chT_app q
end
theorem Vals.permR {vs : List V} {us : List Value} (h : Vals vs us) : ∀ pm : List Nat, Vals (Vm.permR vs pm) (Vm.permR us pm)
  | [] => .nil
  | i :: pm => by
    unfold Vm.permR
    rw [List.filterMap_cons, List.filterMap_cons]
    cases q : vs[i]? with
    | none =>
      have : us[i]? = none := by rw [List.getElem?_eq_none_iff] at q ⊢; rw [← h.length]; exact q
      rw [this]
      exact Vals.permR h pm
    | some v =>
      obtain ⟨u, e, r⟩ := h.get q
      rw [e]
      exact .cons r (Vals.permR h pm)
section
variable {X : Cx} {Γ : Gam} {G : Call} {m : Nat}
theorem pa_ch {n : Nat} (ih : IH Γ G X n) : ∀ {es : List Expr} {l : List Ex}, mapO (comp n Γ) es = some l → PA X es (chT X.K G l)
  | [], _, h => by cases h; exact PA.imp pa_nil fun σ H Q q => q
  | e :: es, _, h => by
    obtain ⟨b, t, h1, h2, e0⟩ := mapO_cons h
    subst e0
    exact PA.imp (pa_cons (ih e b h1).e (pa_ch ih h2) (comp_star h1 es X.env)) fun σ H Q q => q
theorem PK.imp {X : Cx} {e : List Keyword} {t t' : TA} (h : PK X e t) (i : ∀ σ H Q, t' σ H Q → t σ H Q) : PK X e t' := ⟨fun pos pins s σ H Q I q => h.run pos pins s σ H Q I (i σ H Q q)⟩
theorem pk_ch {n : Nat} (ih : IH Γ G X n) : ∀ {ks : List Keyword} {l : List Ex}, mapO (comp n Γ) (ks.map (·.value)) = some l → PK X ks (chT X.K G l)
  | [], _, h => by cases h; exact PK.imp pk_nil fun σ H Q q => q
  | ⟨nm, kv, kp⟩ :: ks, _, h => by
    obtain ⟨b, t, h1, h2, e0⟩ := mapO_cons h
    subst e0
    exact PK.imp (pk_cons (ih kv b h1).e (pk_ch ih h2)) fun σ H Q q => q
theorem kw_all : ∀ {ks : List Keyword} {ns : List Str} {pos : Pos} {env : Env}, ks.map (·.arg) = ns.map some → (backToKw pos (keywordEach ks env)).all (·.1.isSome) = true ∧ (backToKw pos (keywordEach ks env)).filterMap (·.1) = ns ∧ (backToKw pos (keywordEach ks env)).any (·.1.isNone) = false
  | [], [], _, _, _ => ⟨rfl, rfl, rfl⟩
  | [], _ :: _, _, _, h => by cases h
  | _ :: _, [], _, _, h => by cases h
  | k :: ks, n :: ns, pos, env, h => by
    obtain ⟨a, v, p⟩ := k
    simp only [List.map_cons, List.cons.injEq] at h
    obtain ⟨h1, h2⟩ := h
    subst h1
    obtain ⟨q1, q2, q3⟩ := kw_all (pos := pos) (env := env) h2
    refine ⟨?_, ?_, ?_⟩
    · show (true && (backToKw pos (keywordEach ks env)).all (·.1.isSome)) = true
      rw [q1]; rfl
    · show n :: (backToKw pos (keywordEach ks env)).filterMap (·.1) = n :: ns
      rw [q2]
    · show (false || (backToKw pos (keywordEach ks env)).any (·.1.isNone)) = false
      rw [q3]; rfl
theorem kwFind_ok : ∀ {l : List (Str × Nat × List Str × List D × List Nat)} {x : Str} {n : Nat} {ks : List (Option Str)} {q : List D × List Nat}, kwFind l x n ks = some q → ∃ ns, (x, n, ns, q.1, q.2) ∈ l ∧ ns.map some = ks
  | [], _, _, _, _, h => by cases h
  | k :: r, x, n, ks, q, h => by
    unfold kwFind at h
    split at h
    · rename_i hc
      obtain ⟨rfl, rfl, h3⟩ := hc
      cases h
      exact ⟨_, List.mem_cons_self .., h3⟩
    · obtain ⟨ns, h1, h2⟩ := kwFind_ok h
      exact ⟨ns, List.mem_cons_of_mem _ h1, h2⟩
/-- what stands for the missing ones -/
theorem chT_k {K : PySem.W.Frag} {σ : L2.St} : ∀ {ds : List D} {zs : List V} {H : Hp} {Q : List V → Hp → Prop}, (∀ L H, RdA K L H ds zs) → chT K G (ds.map Ex.k) σ H Q → Q zs H
  | [], zs, H, Q, r, h => by
    obtain rfl : zs = [] := r (fun _ => False) H
    exact h
  | d :: ds, zs, H, Q, r, h => by
    obtain ⟨z, zt, rfl, _, _⟩ := r (fun _ => False) H
    have r1 : ∀ L H, Rd K L H d z := fun L H => by
      obtain ⟨z', zt', e, h1, _⟩ := r L H
      cases e; exact h1
    have r2 : ∀ L H, RdA K L H ds zt := fun L H => by
      obtain ⟨z', zt', e, _, h2⟩ := r L H
      cases e; exact h2
    exact chT_k (Q := fun vs H2 => Q (z :: vs) H2) r2 (tD_k h r1)
theorem e_kwG {W : WX} {te : TE} (tk : Takes X W) (C : XOk Γ G m X) {n : Nat} (ih : IH Γ G X n) {x : Str} {p pos : Pos} {es : List Expr} {ks : List Keyword} {g : Nat} {ps : List Str} {es' ks' : List Ex} {q : List D × List Nat} (ok : okName x = true) (hg : Γ.gl x = true) (hd : defOf Γ.defs x 0 = some (g, ps))
    (hk : kwFind Γ.kws x es.length (kwNames ks) = some q) (hes : mapO (comp n Γ) es = some es') (hks : mapO (comp n Γ) (ks.map (·.value)) = some ks')
    (hte : ∀ {σ : L2.St} {H : Hp} {Q : VK}, (∀ i ∈ q.2, i < (es' ++ (ks' ++ q.1.map Ex.k)).length) → q.2.Nodup → te σ H Q → tDs X.K G (es' ++ (ks' ++ q.1.map .k)) σ H fun vs H1 => spG X.K X.mg q.2.length (G g) (permR vs q.2) H1 Q fun cls d H2 => W cls d σ H2) :
    PE X (.Call (.Name x p) es ks pos) te := by
  obtain ⟨o1, o2, o3⟩ := okName_ne ok
  obtain ⟨f, fd, h1, h2, h3, hkw, h4⟩ := C.df x g ps hd
  obtain ⟨ns, k1, k2⟩ := kwFind_ok hk
  obtain ⟨ds, pm⟩ := q
  obtain ⟨b1, b2, b3, dv, du, b5, b6, b4⟩ := hkw _ _ _ _ k1
  replace b3 : ∀ i ∈ pm, i < es.length + ns.length + ds.length := b3
  obtain ⟨c1, c2, c3⟩ := kw_all (pos := pos) (env := X.env) k2.symm
  have l1 := mapO_len hes
  have l2 : ks'.length = ns.length := by
    have := mapO_len hks
    have h5 : ns.length = ks.length := by simpa [kwNames] using congrArg List.length k2
    rw [this, List.length_map, h5]
  have fin : ∀ {σ : L2.St} {H : Hp} {Q : VK}, te σ H Q → chT X.K G es' σ H fun vs H1 => vs.length = es.length ∧ chT X.K G ks' σ H1 fun zs H2 => zs.length = ns.length ∧ spG X.K X.mg ps.length (G g) (permR (vs ++ (zs ++ dv)) pm) H2 Q (fun cls d H3 => W cls d σ H3) := fun {σ H Q} q => by
    have q1 := chT_app (tDs_ch (hte (fun i hi => by have := b3 i hi; show i < (es' ++ (ks' ++ ds.map Ex.k)).length; rw [List.length_append, List.length_append, List.length_map]; omega) b2 q))
    rw [b1] at q1
    exact chT.mono q1 fun vs H1 lv q2 => ⟨by omega, chT.mono (chT_app q2) fun zs H2 lz q3 => ⟨by omega, chT_k (Q := fun ws H3 => spG X.K X.mg ps.length (G g) (permR (vs ++ (zs ++ ws)) pm) H3 Q fun cls d H3 => W cls d σ H3) b6 q3⟩⟩
  have run : ∀ {pins : List (Addr × Obj)} {s : Shared} {σ : L2.St} {H : Hp} {Q : VK} {us ws : List Value} {vs zs : List V}, Inv X pins σ H s → Vals vs us → Vals zs ws → vs.length = es.length → zs.length = ns.length → spG X.K X.mg ps.length (G g) (permR (vs ++ (zs ++ dv)) pm) H Q (fun cls d H3 => W cls d σ H3) →
      wpAny (model X.prog X.w) X.A (call (.ref f) us (ns.zip ws)) (EP X pins σ Q) X.xe s := fun {pins s σ H Q us ws vs zs} I r1 r2 e1 e2 q =>
    run_gx h4 C.room C.gd tk (fun _ => b4 s us ws I.kIn (by rw [← r1.length]; exact e1) (by rw [← r2.length]; exact e2)) I (Vals.permR (r1.append (r2.append b5)) pm) q
  refine PE.imp (t := fun σ H Q => chT X.K G es' σ H fun vs H1 => vs.length = es.length ∧ chT X.K G ks' σ H1 fun zs H2 => zs.length = ns.length ∧ spG X.K X.mg ps.length (G g) (permR (vs ++ (zs ++ dv)) pm) H2 Q fun cls d H3 => W cls d σ H3) ?_ fun σ H Q q => fin q
  refine ⟨fun pins s σ H Q I h => ?_⟩
  refine wpAny_Call_Name_kw (ld_glob I (gl_of C hg) h1 ?_ o1)
  cases es with
  | nil =>
    cases hes
    refine PySem.W.callWith_KW0 (h₀ := X.base) I.ok.mod.kin h2 c1 ?_ (by rw [c3]; rfl)
    obtain ⟨_, h⟩ := (show ([] : List V).length = 0 ∧ _ from h)
    refine thn ((pk_ch ih hks).run pos pins s σ H _ I h) fun ws s2 ⟨zs, H2, I2, rz, lz, q2⟩ => ⟨I2.kIn, ?_⟩
    rw [c2]
    exact run I2 .nil rz rfl lz q2
  | cons e es =>
    have hes2 := hes
    obtain ⟨b, t, q1, q2, rfl⟩ := mapO_cons hes
    refine PySem.W.callWith_KW (h₀ := X.base) I.ok.mod.kin h2 c1 (thn ((pa_ch ih hes2).run pos pins s σ H _ I h) fun us s1 ⟨vs, H1, I1, r, lv, q⟩ => ?_) (by rw [mapO_plain hes2, c3]; rfl) (comp_star q1 es X.env)
    refine thn ((pk_ch ih hks).run pos pins s1 σ H1 _ I1 q) fun ws s2 ⟨zs, H2, I2, rz, lz, q2⟩ => ⟨I2.kIn, ?_⟩
    rw [c2]
    exact run I2 r rz lv lz q2
theorem e_kw (C : XOk Γ G m X) {n : Nat} (ih : IH Γ G X n) {x : Str} {p pos : Pos} {es : List Expr} {ks : List Keyword} {g : Nat} {ps : List Str} {es' ks' : List Ex} {q : List D × List Nat} (ok : okName x = true) (hg : Γ.gl x = true) (hd : defOf Γ.defs x 0 = some (g, ps))
    (hk : kwFind Γ.kws x es.length (kwNames ks) = some q) (hes : mapO (comp n Γ) es = some es') (hks : mapO (comp n Γ) (ks.map (·.value)) = some ks') :
    E3 X G (.Call (.Name x p) es ks pos) (.callk g q.2 (es' ++ (ks' ++ q.1.map .k))) := by
  refine .plain ?_ (fun _ => rfl) fun _ _ _ z => by cases z
  exact e_kwG (W := fun _ _ _ _ => False) takes0 C ih ok hg hd hk hes hks fun hi hn q => tCallk_of hi hn q
theorem e_kwX {W : WX} (tk : Takes X W) (C : XOk Γ G m X) {n : Nat} (ih : IH Γ G X n) {x : Str} {p pos : Pos} {es : List Expr} {ks : List Keyword} {g : Nat} {ps : List Str} {es' ks' : List Ex} {q : List D × List Nat} (ok : okName x = true) (hg : Γ.gl x = true) (hd : defOf Γ.defs x 0 = some (g, ps))
    (hk : kwFind Γ.kws x es.length (kwNames ks) = some q) (hes : mapO (comp n Γ) es = some es') (hks : mapO (comp n Γ) (ks.map (·.value)) = some ks') :
    PE X (.Call (.Name x p) es ks pos) (tDX X.K X.mg W G (.callk g q.2 (es' ++ (ks' ++ q.1.map .k)))) :=
  e_kwG tk C ih ok hg hd hk hes hks fun hi hn q => tCallkX_of hi hn q
end
end Vm
set_option maxRecDepth 100000
set_option maxHeartbeats 4000000
namespace Vm
open PySem PySem.Spec PyProof.Rows L2
/-! ### max(xs, default=d), min(xs, default=d) -/
section
variable {X : Cx}
theorem alike_of_ints (ns : List Int) : PySem.W.AlikeAll (ns.map .int) := by
  refine ⟨fun x hx y hy => ?_, fun x hx => ?_⟩
  · rw [List.mem_map] at hx hy
    obtain ⟨a, _, rfl⟩ := hx
    obtain ⟨b, _, rfl⟩ := hy
    rfl
  · rw [List.mem_map] at hx
    obtain ⟨a, _, rfl⟩ := hx
    intro z; cases z
theorem depth_of_ints (ns : List Int) : PyData.depthAll (ns.map .int) = 0 := by
  induction ns with
  | nil => rfl
  | cons n r ih => simp [PyData.depthAll, PyData.depth, ih]
def mxQ (K : PySem.W.Frag) (o : Op) : List V → List V → Hp → VK → Prop := fun vs zs H Q => vs.length = 1 ∧ zs.length = 1 ∧ OpQ K o (vs ++ zs) H Q
theorem maxI_foldD (n : Int) (r : List Int) : maxI n r = r.foldl max n := by
  induction r generalizing n with
  | nil => rfl
  | cons x r ih =>
    show maxI (if x > n then x else n) r = _
    rw [ih, List.foldl_cons]
    congr 1
    split <;> omega
theorem minI_foldD (n : Int) (r : List Int) : minI n r = r.foldl min n := by
  induction r generalizing n with
  | nil => rfl
  | cons x r ih =>
    show minI (if x < n then x else n) r = _
    rw [ih, List.foldl_cons]
    congr 1
    split <;> omega
theorem sc_ep {pins : List (Addr × Obj)} {s : Shared} {σ : L2.St} {H : Hp} {L : ASet} {d : D} {z : V} {u : Value} {rr : RR} {Q : VK} {h' : Heap} {tk : Nat} (I : Inv X pins σ H s) (ru : RelV z u) (rd : Rd1 X.K L H d z) (e : scD d = some rr) (q : ∀ v H2, OpPost X.K L H rr v H2 → Q v H2)
    (k : ∀ b o, s.heap.get? b = some o → h'.get? b = some o) : EP X pins σ Q u { s with heap := h', toks := tk } := by
  cases d with
  | int i =>
    cases e
    exact ⟨z, H, I.kept k, ru, q _ _ (rd1_opt rd)⟩
  | none =>
    cases e
    exact ⟨z, H, I.kept k, ru, q _ _ (rd1_opt rd)⟩
  | _ => cases e
theorem cr_maxd (hc : X.calm = true) (hu : X.A.units + 2 < cLine) : CallRK X (.builtin "max") [Str.ofString "default"] (mxQ X.K .maxd) := by
  intro pins s σ H xs zs us ws Q I rx rz h
  obtain ⟨l1, l2, L, ys, rr, rd, e, q⟩ := h
  obtain ⟨v, rfl⟩ := List.length_eq_one_iff.mp l1
  obtain ⟨z, rfl⟩ := List.length_eq_one_iff.mp l2
  obtain ⟨a, b, rfl, ra, rb⟩ := rd1s2 rd
  replace e : runMaxd a b = some rr := e
  cases a with
  | list ds =>
    obtain ⟨ns, h1, h2⟩ := obind (show (intsD ds).bind _ = some rr from e)
    obtain ⟨p, vs, rfl, st, ra2⟩ := ra.l
    have hv := ra2.intsD h1
    subst hv
    have hd := intsD_some h1
    obtain ⟨u, rfl, ru⟩ := rx.one
    obtain ⟨u2, rfl, ru2⟩ := rz.one
    cases ru
    obtain ⟨its, r, ht, hz⟩ := I.list st.sq
    have hi := r.ints
    refine PySem.W.max_list_default (xs := ns.map .int) (as := []) (I.ok.hd hc) ht.isList (ints_readAll _ hi) (alike_of_ints ns) (by rw [depth_of_ints]; omega) ?_ ?_
    · intro e0 h' tk k
      cases ns with
      | nil => exact sc_ep I ru2 rb h2 q k
      | cons _ _ => cases e0
    · intro y ys i v h' tk bs e0 hv rv k
      cases ns with
      | nil => cases e0
      | cons n rs =>
        cases e0
        rw [PySem.W.maxD_ints, ← maxI_foldD] at rv
        cases h2
        cases rv
        exact ⟨.int (maxI n rs), H, I.kept k, ⟨_, rfl⟩, q _ _ (rd1_opt rd_int)⟩
  | _ => cases e
theorem cr_mind (hc : X.calm = true) (hu : X.A.units + 2 < cLine) : CallRK X (.builtin "min") [Str.ofString "default"] (mxQ X.K .mind) := by
  intro pins s σ H xs zs us ws Q I rx rz h
  obtain ⟨l1, l2, L, ys, rr, rd, e, q⟩ := h
  obtain ⟨v, rfl⟩ := List.length_eq_one_iff.mp l1
  obtain ⟨z, rfl⟩ := List.length_eq_one_iff.mp l2
  obtain ⟨a, b, rfl, ra, rb⟩ := rd1s2 rd
  replace e : runMind a b = some rr := e
  cases a with
  | list ds =>
    obtain ⟨ns, h1, h2⟩ := obind (show (intsD ds).bind _ = some rr from e)
    obtain ⟨p, vs, rfl, st, ra2⟩ := ra.l
    have hv := ra2.intsD h1
    subst hv
    have hd := intsD_some h1
    obtain ⟨u, rfl, ru⟩ := rx.one
    obtain ⟨u2, rfl, ru2⟩ := rz.one
    cases ru
    obtain ⟨its, r, ht, hz⟩ := I.list st.sq
    have hi := r.ints
    refine PySem.W.min_list_default (xs := ns.map .int) (as := []) (I.ok.hd hc) ht.isList (ints_readAll _ hi) (alike_of_ints ns) (by rw [depth_of_ints]; omega) ?_ ?_
    · intro e0 h' tk k
      cases ns with
      | nil => exact sc_ep I ru2 rb h2 q k
      | cons _ _ => cases e0
    · intro y ys i v h' tk bs e0 hv rv k
      cases ns with
      | nil => cases e0
      | cons n rs =>
        cases e0
        rw [PySem.W.minD_ints, ← minI_foldD] at rv
        cases h2
        cases rv
        exact ⟨.int (minI n rs), H, I.kept k, ⟨_, rfl⟩, q _ _ (rd1_opt rd_int)⟩
  | _ => cases e
end
section
variable {X : Cx} {Γ : Gam} {G : Call} {m : Nat}
theorem cr_lcm : CallR X (.builtin "math.lcm") (rDs X.K .lcm) := by
  refine call2 (fun _ _ => rfl) (fun ys h => by match ys, h with | [], _ => rfl | [_], _ => rfl | [_, _], h => simp at h | _ :: _ :: _ :: _, _ => rfl) ?_
  intro pins s σ H us Q L i j I r e q
  simp only [Bool.and_eq_true, decide_eq_true_eq] at e
  cases r with
  | cons r1 rr =>
    cases rr with
    | cons r2 rr =>
      cases rr
      obtain ⟨t, rfl⟩ := r1
      obtain ⟨u, rfl⟩ := r2
      refine PySem.W.mc_lcm e.1 e.2 fun _ => ?_
      exact ⟨.int ((i.natAbs.lcm j.natAbs : Nat) : Int), H, I.kept (h' := s.heap) (t' := s.toks + 1) (fun _ _ e => e), ⟨_, rfl⟩, q _ _ (.inl ⟨rfl, rd_int⟩)⟩
theorem pe_callBG {id : String} {r : List V → Hp → VK → Prop} {x : Str} {e : Expr} {es : List Expr} {t : TA} {p pos : Pos} (hc : CallR X (.builtin id) r) (hg : Gl X x) (hm : X.mg x = some (.builtin id)) (ha : PA X (e :: es) t) (hdb : (x == ("__debug__" : Str)) = false)
    (he : starEach (e :: es) X.env = (false, eval e X.env) :: starEach es X.env) (hpl : (backTo pos (starEach es X.env)).any (·.1) = false) : PE X (.Call (.Name x p) (e :: es) [] pos) (tCB r t) := by
  refine ⟨fun pins s σ H Q I h => ?_⟩
  refine wpAny_Call_Name_kw (ld_glob I hg hm ?_ hdb)
  exact PyProof.Rows.callWith_builtin1 (thn (ha.run pos pins s σ H _ I h) fun us s1 ⟨vs, H1, I1, r1, q1⟩ => hc pins s1 σ H1 vs us Q I1 r1 q1) he hpl
theorem e_lcm (C : XOk Γ G m X) {n : Nat} (ih : IH Γ G X n) {x : Str} {p pos : Pos} {a b : Expr} {a' b' : Ex} (ok : okName x = true) (hg : Γ.gl x = true) (hl : Γ.lc = true) (hx : x = "lcm") (h1 : comp n Γ a = some a') (h2 : comp n Γ b = some b') :
    E3 X G (.Call (.Name x p) [a, b] [] pos) (.op .lcm [a', b']) := by
  subst hx
  refine .plain ?_ (fun _ => rfl) fun _ _ _ z => by cases z
  obtain ⟨o1, o2, o3⟩ := okName_ne ok
  have hes : mapO (comp n Γ) [a, b] = some [a', b'] := by unfold mapO; rw [h1]; unfold mapO; rw [h2]; rfl
  obtain ⟨b0, t, q1, q2, q3⟩ := mapO_cons hes
  cases q3
  exact PE.imp (pe_callBG cr_lcm (gl_of C hg) (C.lc hl) (comps_pa ih.pe hes) o1 (comp_star q1 [b] X.env) (mapO_plain q2)) fun σ H Q q => tCB_of q
theorem e_mxd (C : XOk Γ G m X) {n : Nat} (ih : IH Γ G X n) {x : Str} {p pos : Pos} {e kv : Expr} {k : Str} {kp : Pos} {o : Op} {e' d' : Ex} (ok : okName x = true) (hg : Γ.gl x = true) (hb : Γ.bs.contains x = true) (hk : k = "default") (ho : mxO x = some o) (h1 : comp n Γ e = some e') (h2 : comp n Γ kv = some d') :
    E3 X G (.Call (.Name x p) [e] [⟨some k, kv, kp⟩] pos) (.op o [e', d']) := by
  subst hk
  refine .plain ?_ (fun _ => rfl) fun _ _ _ z => by cases z
  obtain ⟨o1, o2, o3⟩ := okName_ne ok
  have hu := C.un
  have hes : mapO (comp n Γ) [e] = some [e'] := by unfold mapO; rw [h1]; rfl
  have hks : mapO (comp n Γ) (([⟨some "default", kv, kp⟩] : List Keyword).map (·.value)) = some [d'] := by show mapO (comp n Γ) [kv] = _; unfold mapO; rw [h2]; rfl
  have im : ∀ {σ : L2.St} {H : Hp} {Q : VK}, tD X.K G (.op o [e', d']) σ H Q → tCKw (mxQ X.K o) (chT X.K G [e']) (chT X.K G [d']) σ H Q := fun {σ H Q} q => by
    have q1 := chT_app (es := [e']) (ks := [d']) (tDs_ch (tCB_of q))
    exact chT.mono q1 fun vs H1 lv q2 => chT.mono q2 fun ws H2 lw q3 => ⟨lv, lw, q3⟩
  unfold mxO at ho
  split at ho
  · rename_i hx
    cases ho
    subst hx
    exact PE.imp (pe_callBK (cr_maxd C.calm (by omega)) (gl_of C hg) (C.bs _ hb) (by decide +kernel) (pa_ch ih hes) (pk_ch ih hks) (by decide) (by decide) (by rw [comp_star h1 [] X.env]; rfl) (by rw [comp_star h1 [] X.env]; rfl) rfl rfl rfl) fun σ H Q q => im q
  · split at ho
    · rename_i hx
      cases ho
      subst hx
      exact PE.imp (pe_callBK (cr_mind C.calm (by omega)) (gl_of C hg) (C.bs _ hb) (by decide +kernel) (pa_ch ih hes) (pk_ch ih hks) (by decide) (by decide) (by rw [comp_star h1 [] X.env]; rfl) (by rw [comp_star h1 [] X.env]; rfl) rfl rfl rfl) fun σ H Q q => im q
    · cases ho
end
end Vm
set_option maxRecDepth 100000
set_option maxHeartbeats 1000000
namespace Vm
open PySem PySem.Spec L2
section
variable {X : Cx} {Γ : Gam} {G : Call} {m : Nat}
theorem e_rev {n : Nat} (ih : IH Γ G X n) {a : Expr} {k : Nat} {p1 p2 p3 pos : Pos} {a' : Ex} (h1 : comp n Γ a = some a') : E3 X G (.Subscript a (.Slice none none (some (.UnaryOp .USub (.Constant (.int 1) k p1) p2)) p3) pos) (.op .rev [a']) := by
  refine .plain ?_ (fun _ => rfl) fun _ _ _ z => by cases z
  exact PE.imp (pe_revA (ih a a' h1).e) fun σ H Q q => tD_rev q
theorem e_call (C : XOk Γ G m X) {n : Nat} (ih : IH Γ G X n) {x : Str} {p pos : Pos} {es : List Expr} {ks : List Keyword} {ir : Ex} (h : comp (n + 1) Γ (.Call (.Name x p) es ks pos) = some ir) : E3 X G (.Call (.Name x p) es ks pos) ir := by
  unfold comp at h
  dsimp only at h
  split at h
  · rename_i hc
    obtain ⟨ok, hg⟩ := hc
    split at h
    · rename_i g ps hd
      obtain ⟨es', h1, h⟩ := obind h
      cases ks with
      | nil =>
        replace h : (if es.length = ps.length ∧ Γ.kwo.contains x = false then some (Ex.call g es') else (kwFind Γ.kws x es.length []).bind fun q => some (.callk g q.2 (es' ++ ([] ++ q.1.map .k)))) = some ir := h
        split at h
        · rename_i hl
          cases h
          exact e_def C ih ok hg hd h1 hl.1 hl.2
        · obtain ⟨q, h2, h⟩ := obind h
          cases h
          exact e_kw (ks := []) (ks' := []) C ih ok hg hd h2 h1 rfl
      | cons k ks =>
        obtain ⟨pm, h2, h⟩ := obind (show (kwFind Γ.kws x es.length (kwNames (k :: ks))).bind _ = some ir from h)
        obtain ⟨ks', h3, h⟩ := obind h
        cases h
        exact e_kw C ih ok hg hd h2 h1 h3
    · split at h
      · rename_i hb
        obtain ⟨hb, hk⟩ := hb
        cases ks with
        | cons _ _ => cases hk
        | nil =>
          split at h
          · rename_i hx
            subst hx
            match es, h with
            | [a, .Name t p2], h =>
              replace h : (if okName t = true ∧ Γ.gl t = true ∧ Γ.bs.contains t = true then (tyName t).bind fun t => (comp n Γ a).bind fun a => some (Ex.op (.isI t) [a]) else none) = some ir := h
              split at h
              · rename_i hc
                obtain ⟨T, h1, h⟩ := obind h
                obtain ⟨a', h2, h⟩ := obind h
                cases h
                exact e_isI C ih hg hb hc.1 hc.2.1 hc.2.2 h1 h2
              · cases h
            | [], h => cases h
            | [_], h => cases h
            | a :: b :: c :: r, h => cases b <;> exact nope h
            | [a, b], h =>
              cases b
              case Name t p2 =>
                replace h : (if okName t = true ∧ Γ.gl t = true ∧ Γ.bs.contains t = true then (tyName t).bind fun t => (comp n Γ a).bind fun a => some (Ex.op (.isI t) [a]) else none) = some ir := h
                split at h
                · rename_i hc
                  obtain ⟨T, h1, h⟩ := obind h
                  obtain ⟨a', h2, h⟩ := obind h
                  cases h
                  exact e_isI C ih hg hb hc.1 hc.2.1 hc.2.2 h1 h2
                · cases h
              all_goals exact nope h
          · obtain ⟨o, h1, h⟩ := obind h
            obtain ⟨es', h2, h⟩ := obind h
            cases h
            exact e_bi C ih ok hg hb h1 h2
      · match es, ks, h with
        | [e], [⟨some k, kv, kp⟩], h =>
          replace h : (if Γ.bs.contains x = true ∧ k = "default" then (mxO x).bind fun o => (comp n Γ e).bind fun e' => (comp n Γ kv).bind fun d' => some (Ex.op o [e', d']) else none) = some ir := h
          split at h
          · rename_i hc
            obtain ⟨o, h1, h⟩ := obind h
            obtain ⟨e', h2, h⟩ := obind h
            obtain ⟨d', h3, h⟩ := obind h
            cases h
            exact e_mxd C ih ok hg hc.1 hc.2 h1 h2 h3
          · cases h
        | [a, b], [], h =>
          replace h : (if Γ.lc = true ∧ x = "lcm" then (comp n Γ a).bind fun a' => (comp n Γ b).bind fun b' => some (Ex.op .lcm [a', b']) else none) = some ir := h
          split at h
          · rename_i hc
            obtain ⟨a', h1, h⟩ := obind h
            obtain ⟨b', h2, h⟩ := obind h
            cases h
            exact e_lcm C ih ok hg hc.1 hc.2 h1 h2
          · cases h
        | [], _, h => cases h
        | [_, _], _ :: _, h => cases h
        | _ :: _ :: _ :: _, _, h => cases h
        | [_], [], h => cases h
        | [_], [⟨none, _, _⟩], h => cases h
        | [_], ⟨none, _, _⟩ :: _ :: _, h => cases h
        | [_], ⟨some _, _, _⟩ :: _ :: _, h => cases h
  · cases h
theorem e_meth (C : XOk Γ G m X) {n : Nat} (ih : IH Γ G X n) {o : Expr} {nm : Str} {ap cp : Pos} {es : List Expr} {ks : List Keyword} {ir : Ex} (h : comp (n + 1) Γ (.Call (.Attribute o nm ap) es ks cp) = some ir) : E3 X G (.Call (.Attribute o nm ap) es ks cp) ir := by
  cases ks with
  | cons _ _ => exact nope h
  | nil =>
    unfold comp at h
    dsimp only at h
    split at h
    · rename_i hc
      obtain ⟨h1, h2, h3⟩ := hc
      split at h
      · rename_i mu hm
        obtain ⟨o', q1, h⟩ := obind h
        obtain ⟨es', q2, h⟩ := obind h
        cases h
        exact e_mu ih h1 h2 h3 hm q1 q2
      · split at h
        · rename_i hb
          obtain ⟨o', q1, h⟩ := obind h
          obtain ⟨es', q2, h⟩ := obind h
          cases h
          exact e_me C ih h1 h2 h3 hb q1 q2
        · cases h
    · cases h
end
theorem tD_dct0 {K : PySem.W.Frag} {G : Call} {σ : L2.St} {H : Hp} {Q : VK} (h : tD K G (.dct [] []) σ H Q) : tDNewK σ H Q := by
  obtain ⟨A, as, f, rv, f', R, he, hQ⟩ := h
  unfold evE at he
  cases he
  exact fun p hp => hQ _ _ (op_post (rr := .fr (.dct [])) R ⟨p, [], hp, rfl, rfl, rfl⟩)
/-- EVERY EXPRESSION -/
theorem exprs (G : Call) (m : Nat) : ∀ (n : Nat) (Γ : Gam) (X : Cx), XOk Γ G m X → IH Γ G X n
  | 0, _, _, _ => fun e ir h => by cases h
  | n + 1, Γ, X, C => by
    have ih := exprs G m n Γ X C
    intro e ir h
    cases e
    case Constant c k pos => exact e_const h
    case Name x pos => exact e_name C h
    case BinOp a op b pos => exact e_bin ih h
    case UnaryOp op a pos =>
      cases op
      case Not => exact e_not ih h
      case USub => exact e_neg ih h
      all_goals exact nope h
    case BoolOp op vs pos => exact e_bool ih h
    case IfExp c a b pos => exact e_ife ih h
    case Compare a ops bs pos =>
      match ops, bs, h with
      | [op], [b], h => exact e_cmp C ih h
      | [op, op'], [b, c], h => exact e_ch C ih h
      | [], _, h => exact nope h
      | [_], [], h => exact nope h
      | [_], _ :: _ :: _, h => exact nope h
      | [_, _], [], h => exact nope h
      | [_, _], [_], h => exact nope h
      | [_, _], _ :: _ :: _ :: _, h => exact nope h
      | _ :: _ :: _ :: _, _, h => exact nope h
    case Call fn es ks pos =>
      cases fn
      case Name x p => exact e_call C ih h
      case Attribute o nm ap => exact e_meth C ih h
      all_goals exact nope h
    case Subscript a i pos => exact e_sub ih (fun e' k p1 p2 p3 a' h1 => e_rev ih h1) h
    case Tuple es k pos =>
      replace h : (if es.any starE = true then (mapO (fun e => comp n Γ (unstar e)) es).map (Ex.tups (es.map starE)) else (mapO (comp n Γ) es).map Ex.tup) = some ir := h
      split at h
      · obtain ⟨es', h1, rfl⟩ := omap h
        exact e_tups ih h1
      · obtain ⟨es', h1, rfl⟩ := omap h
        exact e_tup ih h1
    case List es pos =>
      obtain ⟨es', h1, rfl⟩ := omap (show (mapO (comp n Γ) es).map Ex.lst = some ir from h)
      exact e_lst ih h1
    case Dict ks vs pos =>
      match ks, vs, h with
      | [], [], h =>
        cases h
        refine .plain ?_ (fun _ => rfl) fun _ _ _ z => by cases z
        exact PE.imp pe_dnewK fun σ H Q q => tD_dct0 q
      | [], _ :: _, h => exact nope h
      | _ :: _, _, h => exact nope h
    case ListComp elt gs scope pos =>
      match gs, h with
      | [], h => exact nope h
      | ⟨_, _, _, _⟩ :: ⟨_, _, _, _⟩ :: _ :: _, h => exact nope h
      | [⟨tg, iter, ifs, a⟩, ⟨tg1, iter1, ifs1, a1⟩], h =>
        by_cases ha : a = 0 ∧ a1 = 0
        · obtain ⟨rfl, rfl⟩ := ha
          exact e_lc2 C ih (fun scope s H c cl fp => exprs G m n _ _ (C.blk scope s H c cl fp)) h
        · have h : (if a = 0 ∧ a1 = 0 then _ else none) = some ir := h
          rw [if_neg ha] at h
          exact nope h
      | [⟨tg, iter, ifs, a⟩], h =>
        by_cases ha : a = 0
        · subst ha
          exact e_lc C ih (fun scope s H c cl fp => exprs G m n _ _ (C.blk scope s H c cl fp)) h
        · have h : (if a = 0 then _ else none) = some ir := h
          rw [if_neg ha] at h
          exact nope h
    all_goals exact nope h
end Vm
set_option maxRecDepth 100000
set_option maxHeartbeats 1000000
namespace Vm
open PySem PySem.Spec L2
/-! ### statements -/
/-- behind a statement -/
def SPost (K : PySem.W.Frag) (A : ASet) (as : List Addr) (f : F) (σ : L2.St) (H : Hp) (f' : F) (σ' : L2.St) (H' : Hp) : Prop := Rel K A as f' σ' H' ∧ Ext (Lv A f as σ) H (Lv A f' as σ') H' ∧ ∀ a, A a → H' a = H a
def RPost (K : PySem.W.Frag) (A : ASet) (as : List Addr) (f : F) (σ : L2.St) (H : Hp) (rr : RR) (f' : F) (v : V) (σ' : L2.St) (H' : Hp) : Prop :=
  ∃ A' : ASet, (∀ a, A a → A' a) ∧ Rel K A' as f' σ' H' ∧ RVR K (Lv A' f' as σ') A' as σ' H' rr.rv v ∧ (∀ o, rr.rv = .fr o → ∀ a, v = .ref a → ¬ A a) ∧ Ext (Lv A f as σ) H (Lv A' f' as σ') H' ∧ ∀ a, A a → H' a = H a
/-- where an end by return or by an exception goes -/
def endR (R : VK) (E : Str → L2.St → Hp → Prop) : RR → V → L2.St → Hp → Prop
  | .ex c, _, σ, H => E c σ H
  | .d _, v, _, H => R v H
  | .fr _, v, _, H => R v H
def OutOk (K : PySem.W.Frag) (A : ASet) (as : List Addr) (f : F) (σ : L2.St) (H : Hp) (D : Ends) (E : Str → L2.St → Hp → Prop) : Out → Prop
  | .nx f' => ∀ σ' H', SPost K A as f σ H f' σ' H' → D.nx σ' H'
  | .bk f' => ∀ σ' H', SPost K A as f σ H f' σ' H' → D.bk σ' H'
  | .ct f' => ∀ σ' H', SPost K A as f σ H f' σ' H' → D.ct σ' H'
  | .rt r f' => ∀ v σ' H', RPost K A as f σ H r f' v σ' H' → endR D.rt E r v σ' H'
  | .bad => False
def tX (K : PySem.W.Frag) (G : Call) (E : Str → L2.St → Hp → Prop) (s : Sm) : TS := fun D σ H => ∃ A as f, Rel K A as f σ H ∧ OutOk K A as f σ H D E (xS G s f)
def tXs (K : PySem.W.Frag) (G : Call) (E : Str → L2.St → Hp → Prop) (s : List Sm) : TS := fun D σ H => ∃ A as f, Rel K A as f σ H ∧ OutOk K A as f σ H D E (xSs G s f)
theorem PS.imp {X : Cx} {s : Stmt} {t t' : TS} (h : PS X s t) (i : ∀ D σ H, t' D σ H → t D σ H) : PS X s t' := ⟨fun pins s σ H D I q => h.run pins s σ H D I (i D σ H q)⟩
theorem PSs.imp {X : Cx} {s : List Stmt} {t t' : TS} (h : PSs X s t) (i : ∀ D σ H, t' D σ H → t D σ H) : PSs X s t' := ⟨fun pins s σ H D I q => h.run pins s σ H D I (i D σ H q)⟩
section
variable {K : PySem.W.Frag} {G : Call} {A : ASet} {as : List Addr} {f f' f2 : F} {σ σ' σ2 : L2.St} {H H' H2 : Hp} {D : Ends} {E : Str → L2.St → Hp → Prop}
theorem SPost.nil (R : Rel K A as f σ H) : SPost K A as f σ H f σ H := ⟨R, Ext.refl, fun _ _ => rfl⟩
theorem SPost.trans (a : SPost K A as f σ H f' σ' H') (b : SPost K A as f' σ' H' f2 σ2 H2) : SPost K A as f σ H f2 σ2 H2 := ⟨b.1, a.2.1.trans b.2.1, fun p z => (b.2.2 p z).trans (a.2.2 p z)⟩
theorem SPost.ret {rr : RR} {v : V} (a : SPost K A as f σ H f' σ' H') (b : RPost K A as f' σ' H' rr f2 v σ2 H2) : RPost K A as f σ H rr f2 v σ2 H2 := by
  obtain ⟨A', s, R, r, n, x, k⟩ := b
  exact ⟨A', s, R, r, n, a.2.1.trans x, fun p z => (k p z).trans (a.2.2 p z)⟩
theorem PostN.sp (a : PostN K A as f σ H f' H') : SPost K A as f σ H f' σ H' := a
theorem OutOk.pre {o : Out} (a : SPost K A as f σ H f' σ' H') (h : OutOk K A as f σ H D E o) : OutOk K A as f' σ' H' D E o := by
  cases o with
  | nx g => exact fun s' H2 p => h s' H2 (a.trans p)
  | bk g => exact fun s' H2 p => h s' H2 (a.trans p)
  | ct g => exact fun s' H2 p => h s' H2 (a.trans p)
  | rt r g => exact fun v s' H2 p => h v s' H2 (a.ret p)
  | bad => exact h
theorem Out.of_bad {α : Type} {g : α → Out} {x : Res α} (h : OutOk K A as f σ H D E (Out.of x g)) : ∃ a, x = .ok a ∧ OutOk K A as f σ H D E (g a) := by
  cases x with
  | ok a => exact ⟨a, rfl, h⟩
  | bad => exact h.elim
theorem ofOpt_out {α : Type} {g : α → Out} {x : Option α} (h : OutOk K A as f σ H D E (Out.of (ofOpt x) g)) : ∃ a, x = some a ∧ OutOk K A as f σ H D E (g a) := by
  obtain ⟨a, h1, h2⟩ := Out.of_bad h
  exact ⟨a, ofOpt_ok h1, h2⟩
theorem tXs_nil (h : tXs K G E [] D σ H) : tNext D σ H := by
  obtain ⟨A, as, f, R, h⟩ := h
  unfold xSs at h
  exact h σ H (.nil R)
theorem tXs_cons {s : Sm} {ss : List Sm} (h : tXs K G E (s :: ss) D σ H) : tSeq (tX K G E s) (tXs K G E ss) D σ H := by
  obtain ⟨A, as, f, R, h⟩ := h
  unfold xSs Out.seq at h
  refine ⟨A, as, f, R, ?_⟩
  cases q : xS G s f with
  | nx f1 => rw [q] at h; exact fun s' H1 p => ⟨A, as, f1, p.1, h.pre p⟩
  | bk f1 => rw [q] at h; exact h
  | ct f1 => rw [q] at h; exact h
  | rt r f1 => rw [q] at h; exact h
  | bad => rw [q] at h; exact h
theorem tX_ex {e : Ex} (h : tX K G E (.ex e) D σ H) : tDrop (tD K G e) D σ H := by
  obtain ⟨A, as, f, R, h⟩ := h
  unfold xS at h
  obtain ⟨⟨rv, f1⟩, e1, h⟩ := Out.of_bad h
  refine ⟨A, as, f, rv, f1, R, e1, fun v H1 p => h σ H1 ?_⟩
  obtain ⟨A', s, R', r, n, x, k⟩ := p
  exact ⟨R'.less s, x.trans (ext_less s), k⟩
theorem tX_retN (h : tX K G E .retN D σ H) : tRetN D σ H := by
  obtain ⟨A, as, f, R, h⟩ := h
  exact h .non σ H ⟨A, fun _ z => z, R, .inl (rd_none (K := K) (L := Lv A f as σ) (H := H)), (fun o e => by cases e), Ext.refl, fun _ _ => rfl⟩
theorem tX_pass (h : tX K G E .pass D σ H) : tNext D σ H := by
  obtain ⟨A, as, f, R, h⟩ := h
  exact h σ H (.nil R)
theorem tX_brk (h : tX K G E .brk D σ H) : tBreak D σ H := by
  obtain ⟨A, as, f, R, h⟩ := h
  exact h σ H (.nil R)
theorem tX_cont (h : tX K G E .cont D σ H) : tCont D σ H := by
  obtain ⟨A, as, f, R, h⟩ := h
  exact h σ H (.nil R)
theorem tX_never (h : tX K G E .never D σ H) : tNever D σ H := by
  obtain ⟨A, as, f, R, h⟩ := h
  exact h
theorem tX_if {c : Ex} {a b : List Sm} (h : tX K G E (.ifs c a b) D σ H) : tIfS (Vm.tB K G c) (tXs K G E a) (tXs K G E b) D σ H := by
  obtain ⟨A, as, f, R, h⟩ := h
  unfold xS at h
  obtain ⟨⟨t, f1⟩, e1, h⟩ := Out.of_bad h
  refine ⟨A, as, f, t, f1, R, e1, fun H1 p => ?_⟩
  cases t with
  | true => exact ⟨A, as, f1, p.1, OutOk.pre p h⟩
  | false => exact ⟨A, as, f1, p.1, OutOk.pre p h⟩
theorem retR_ne {rv : RV} {c : Str} (h : retR f rv = some (.ex c, f2)) : False := by
  cases rv with
  | d x => cases h
  | fr o => cases h
  | vr i =>
    unfold retR at h
    dsimp only at h
    split at h <;> cases h
  | ce n =>
    obtain ⟨_, _, z⟩ := omap (show (frz f (.ce n)).map (fun p => (RR.d p.1, p.2)) = some (.ex c, f2) from h)
    cases z
theorem tX_ret {e : Ex} (h : tX K G E (.ret e) D σ H) : tRet (tD K G e) D σ H := by
  obtain ⟨A, as, f, R, h⟩ := h
  unfold xS at h
  obtain ⟨⟨rv, f1⟩, e1, h⟩ := Out.of_bad h
  obtain ⟨⟨rr, f2⟩, e2, h⟩ := ofOpt_out h
  dsimp only at e2
  refine ⟨A, as, f, rv, f1, R, e1, fun v H1 p => (show RPost K A as f σ H rr f2 v σ H1 → D.rt v H1 from fun q => by
    have z := h v σ H1 q
    cases rr with
    | ex c => exact (retR_ne e2).elim
    | d _ => exact z
    | fr _ => exact z) ?_⟩
  have kept : ∀ {x : PyData}, frz f1 rv = some (x, f2) → RPost K A as f σ H (.d x) f2 v σ H1 := fun {x} q => by
    obtain ⟨pn, rd⟩ := p.kept q
    exact ⟨A, fun _ z => z, pn.1, .inl rd, (fun o e => by cases e), pn.2.1, pn.2.2⟩
  cases rv with
  | fr o =>
    cases e2
    obtain ⟨A', s, R', r, n, x, k⟩ := p
    exact ⟨A', s, R', r, n, x, k⟩
  | d y =>
    cases e2
    exact p
  | ce n =>
    obtain ⟨⟨z, g⟩, q1, q2⟩ := omap (show (frz f1 (.ce n)).map (fun p => (RR.d p.1, p.2)) = some (rr, f2) from e2)
    cases q2
    exact kept q1
  | vr i =>
    unfold retR at e2
    dsimp only at e2
    split at e2
    · rename_i o q
      cases e2
      obtain ⟨A', s, R', r, n, x, k⟩ := p
      obtain ⟨a, rfl, ha⟩ := r
      obtain ⟨b, h1, h2, h3⟩ := R'.so i o q
      rw [ha] at h1; cases h1
      obtain ⟨Rt, lt⟩ := R'.takeS q ha
      have xt : Ext (Lv A' f1 as σ) H1 (Lv (fun b => A' b ∨ b = a) { f1 with ρ := f1.ρ.set i .no } as σ) H1 := Ext.less fun b z => (lt b).mp z
      exact ⟨fun b => A' b ∨ b = a, fun b z => .inl (s b z), Rt, ⟨a, rfl, .inr rfl, h2.ext xt rfl⟩, (fun o _ b eb z => by cases eb; exact h3 (s a z)), x.trans xt, k⟩
    · rename_i y q
      cases e2
      obtain ⟨A', s, R', r, n, x, k⟩ := p
      obtain ⟨a, rfl, ha⟩ := r
      obtain ⟨w, g1, g2⟩ := R'.sd i y q
      rw [ha] at g1
      cases g1
      exact ⟨A', s, R', g2, (fun o e => by cases e), x, k⟩
    · cases e2
end
end Vm
set_option maxRecDepth 100000
set_option maxHeartbeats 1000000
namespace Vm
open PySem PySem.Spec L2
section
variable {K : PySem.W.Frag} {G : Call} {A : ASet} {as : List Addr} {f f1 f2 : F} {σ σ' σ2 : L2.St} {H H1 H2 : Hp} {D : Ends} {E : Str → L2.St → Hp → Prop}
theorem BndPost.sp {ρ' : List LV} {is : List Nat} (b : BndPost K A as f σ H ρ' is σ') : SPost K A as f σ H { f with ρ := ρ' } σ' H := ⟨b.1, b.2.1, fun _ _ => rfl⟩
theorem bindN_ok {i : Nat} {rv : RV} {v : V} (p : Post K A as f σ H rv f1 v H1) (e : bindN f1 i rv = some f2) : SPost K A as f σ H f2 (σ.set i (some v)) H1 := by
  have kept : ∀ {x : PyData} {g : F}, frz f1 rv = some (x, g) → SPost K A as f σ H { g with ρ := g.ρ.set i (.d x) } (σ.set i (some v)) H1 := fun {x g} q => by
    obtain ⟨pn, rd⟩ := p.kept q
    exact SPost.trans pn (bnd_name pn.1 rd).sp
  have oth : ∀ j, j ≠ i → (σ.set i (some v))[j]? = σ[j]? := fun j hj => List.getElem?_set_ne (Ne.symm hj)
  cases rv with
  | d y =>
    cases e
    obtain ⟨A', s, R', r, n, x, k⟩ := p
    have pn : PostN K A as f σ H f1 H1 := ⟨R'.less s, x.trans (ext_less s), k⟩
    exact SPost.trans pn (bnd_nameP pn.1 (RdP.ext (ext_less s) r)).sp
  | vr j =>
    obtain ⟨⟨z, g⟩, q1, q2⟩ := omap (show (frz f1 (.vr j)).map (fun p => ({ p.2 with ρ := p.2.ρ.set i (.d p.1) } : F)) = some f2 from e)
    cases q2
    exact kept q1
  | fr o =>
    cases e
    obtain ⟨A', s, R', ⟨q, rfl, ap, ob⟩, n, x, k⟩ := p
    have nq := n o rfl q rfl
    by_cases hi : i < f1.ρ.length
    · obtain ⟨R2, x2⟩ := R'.setSlot (A' := A) (σ' := σ.set i (some (.ref q))) (H' := H1) (l := .own o) hi oth (by simp) s (fun _ _ _ => rfl) (fun a o e _ => e) (fun a ha => R'.al a (s a ha))
        ⟨q, by rw [List.getElem?_set_self (by rw [R'.lenσ]; exact hi)], ob, nq, .inl ap⟩
      exact ⟨R2, x.trans x2, k⟩
    · have e1 : f1.ρ.set i (.own o) = f1.ρ := set_ge (by omega)
      have e2 : σ.set i (some (.ref q)) = σ := set_ge (by rw [R'.lenσ]; omega)
      rw [e1, e2]
      exact ⟨R'.less s, x.trans (ext_less s), k⟩
  | ce n =>
    cases e
    obtain ⟨A', s, R', ⟨q, rfl, ap⟩, _, x, k⟩ := p
    by_cases hi : i < f1.ρ.length
    · obtain ⟨R2, x2⟩ := R'.setSlot (A' := A) (σ' := σ.set i (some (.ref q))) (H' := H1) (l := .c n) hi oth (by simp) s (fun _ _ _ => rfl) (fun a o e _ => e) (fun a ha => R'.al a (s a ha))
        ⟨q, ap, by rw [List.getElem?_set_self (by rw [R'.lenσ]; exact hi)]⟩
      exact ⟨R2, x.trans x2, k⟩
    · have e1 : f1.ρ.set i (.c n) = f1.ρ := set_ge (by omega)
      have e2 : σ.set i (some (.ref q)) = σ := set_ge (by rw [R'.lenσ]; omega)
      rw [e1, e2]
      exact ⟨R'.less s, x.trans (ext_less s), k⟩
theorem tX_asg {i : Nat} {e : Ex} (h : tX K G E (.asg (.name i) e) D σ H) : tAsg (tD K G e) (gName i) D σ H := by
  obtain ⟨A, as, f, R, h⟩ := h
  unfold xS at h
  obtain ⟨⟨rv, f1⟩, e1, h⟩ := Out.of_bad h
  obtain ⟨f2, e2, h⟩ := ofOpt_out h
  exact ⟨A, as, f, rv, f1, R, e1, fun v H1 p => h _ _ (bindN_ok p e2)⟩
theorem tX_asgT {ts : List Tg} {e : Ex} (h : tX K G E (.asg (.tup ts) e) D σ H) : tAsg (tD K G e) (tG K (.tup ts)) D σ H := by
  obtain ⟨A, as, f, R, h⟩ := h
  unfold xS at h
  obtain ⟨⟨rv, f1⟩, e1, h⟩ := Out.of_bad h
  obtain ⟨⟨d, f2⟩, e2, h⟩ := ofOpt_out h
  obtain ⟨ρ1, e3, h⟩ := ofOpt_out h
  refine ⟨A, as, f, rv, f1, R, e1, fun v H1 p => ?_⟩
  obtain ⟨pn, rd⟩ := p.kept e2
  exact ⟨A, as, f2, d, ρ1, pn.1, rd, e3, fun σ' bp => h _ _ (SPost.trans pn bp.sp)⟩
/-! ### loops -/
theorem tX_for {t : Tg} {it : It} {b : List Sm} (h : tX K G E (.for t it b) D σ H) : tFor (tI K G it) (tG K t) (tXs K G E b) D σ H := by
  obtain ⟨A, as, f, R, h⟩ := h
  unfold xS at h
  obtain ⟨⟨ds, f1⟩, e1, h⟩ := Out.of_bad h
  refine ⟨A, as, f, ds, f1, R, e1, fun J H1 pn io => ?_⟩
  let P : Nat → L2.St → Hp → Prop := fun i σ2 H2 => ∃ fi, SPost K A as f1 σ H1 fi σ2 H2 ∧ OutOk K A as fi σ2 H2 D E (forLoop (xSs G b) t (ds.drop i) fi)
  refine ⟨fun i m σ2 H2 => m = ds.length - i ∧ i ≤ ds.length ∧ P i σ2 H2, ⟨_, rfl, Nat.zero_le _, f1, .nil pn.1, h.pre pn⟩, ?_⟩
  rintro i m σ2 H2 ⟨rfl, hi, fi, sp, hl⟩
  have io' : ItOk K (Lv A fi as σ2) H2 J ds := io.ext sp.2.1
  by_cases hlt : i < ds.length
  · have hd : ds[i]? = some ds[i] := by simp [hlt]
    have hdrop : ds.drop i = ds[i] :: ds.drop (i + 1) := List.drop_eq_getElem_cons hlt
    rw [hdrop] at hl
    unfold forLoop at hl
    obtain ⟨go, yld⟩ := (io' _ _ Ext.refl).2 i _ hd
    refine .inr ⟨go, P (i + 1), fun σ' H' p => ⟨ds.length - (i + 1), by omega, rfl, hlt, p⟩, fun x H3 hy => ?_⟩
    have py := op_post sp.1 (yld x H3 hy).1
    obtain ⟨pny, rdy⟩ := py.kept (y := ds[i]) (f'' := fi) (congrArg (fun z => some (z, fi)) (yld x H3 hy).2)
    cases hb : bindT t ds[i] fi.ρ with
    | none => rw [hb] at hl; exact hl.elim
    | some ρ1 =>
      rw [hb] at hl
      dsimp only at hl
      refine ⟨A, as, fi, _, ρ1, pny.1, rdy, hb, fun σ3 bp => ?_⟩
      have s3 : SPost K A as fi σ2 H2 { fi with ρ := ρ1 } σ3 H3 := SPost.trans pny bp.sp
      refine ⟨A, as, _, bp.1, ?_⟩
      have nx : ∀ {g : F} {o : Out}, OutOk K A as fi σ2 H2 D E (forLoop (xSs G b) t (ds.drop (i + 1)) g) → ∀ σ4 H4, SPost K A as { fi with ρ := ρ1 } σ3 H3 g σ4 H4 → P (i + 1) σ4 H4 := fun {g o} hl σ4 H4 p4 =>
        ⟨g, (sp.trans s3).trans p4, hl.pre (s3.trans p4)⟩
      cases q : xSs G b { fi with ρ := ρ1 } with
      | nx g => rw [q] at hl; exact fun σ4 H4 p4 => nx (o := .bad) hl σ4 H4 p4
      | ct g => rw [q] at hl; exact fun σ4 H4 p4 => nx (o := .bad) hl σ4 H4 p4
      | bk g => rw [q] at hl; exact fun σ4 H4 p4 => hl σ4 H4 (s3.trans p4)
      | rt r g => rw [q] at hl; exact fun v σ4 H4 p4 => hl v σ4 H4 (s3.ret p4)
      | bad => rw [q] at hl; exact hl.elim
  · have hn : i = ds.length := by omega
    subst hn
    rw [List.drop_length] at hl
    unfold forLoop at hl
    exact .inl ⟨(io' _ _ Ext.refl).1, hl σ2 H2 (.nil sp.1)⟩
theorem tX_whl {c : Ex} {b : List Sm} (h : tX K G E (.whl c b) D σ H) : tWhile (Vm.tB K G c) (tXs K G E b) D σ H := by
  obtain ⟨A, as, f, R, h⟩ := h
  unfold xS at h
  generalize fuel = n at h
  refine ⟨fun m σ2 H2 => ∃ fi, Rel K A as fi σ2 H2 ∧ SPost K A as f σ H fi σ2 H2 ∧ OutOk K A as fi σ2 H2 D E (whlLoop (evC G c) (xSs G b) m fi), ⟨n, f, R, .nil R, h⟩, ?_⟩
  rintro m σ2 H2 ⟨fi, Ri, sp, hl⟩
  cases m with
  | zero => exact hl.elim
  | succ m =>
    unfold whlLoop at hl
    obtain ⟨⟨t, g⟩, e1, hl⟩ := Out.of_bad hl
    refine ⟨A, as, fi, t, g, Ri, e1, fun H3 p3 => ?_⟩
    have s3 : SPost K A as fi σ2 H2 g σ2 H3 := p3
    cases t with
    | false => exact hl σ2 H3 s3
    | true =>
      replace hl : OutOk K A as fi σ2 H2 D E (match xSs G b g with | .nx f2 => whlLoop (evC G c) (xSs G b) m f2 | .ct f2 => whlLoop (evC G c) (xSs G b) m f2 | .bk f2 => .nx f2 | .rt r f2 => .rt r f2 | .bad => .bad) := hl
      show (if true = true then _ else _)
      rw [if_pos rfl]
      refine ⟨fun σ4 H4 => ∃ g2, Rel K A as g2 σ4 H4 ∧ SPost K A as f σ H g2 σ4 H4 ∧ OutOk K A as g2 σ4 H4 D E (whlLoop (evC G c) (xSs G b) m g2), fun σ' H' p => ⟨m, Nat.lt_succ_self _, p⟩, A, as, g, p3.1, ?_⟩
      have nx : ∀ {g2 : F}, OutOk K A as fi σ2 H2 D E (whlLoop (evC G c) (xSs G b) m g2) → ∀ σ4 H4, SPost K A as g σ2 H3 g2 σ4 H4 → ∃ g2, Rel K A as g2 σ4 H4 ∧ SPost K A as f σ H g2 σ4 H4 ∧ OutOk K A as g2 σ4 H4 D E (whlLoop (evC G c) (xSs G b) m g2) := fun {g2} hl σ4 H4 p4 =>
        ⟨g2, p4.1, (sp.trans s3).trans p4, hl.pre (s3.trans p4)⟩
      cases q : xSs G b g with
      | nx g2 => rw [q] at hl; exact fun σ4 H4 p4 => nx hl σ4 H4 p4
      | ct g2 => rw [q] at hl; exact fun σ4 H4 p4 => nx hl σ4 H4 p4
      | bk g2 => rw [q] at hl; exact fun σ4 H4 p4 => hl σ4 H4 (s3.trans p4)
      | rt r g2 => rw [q] at hl; exact fun v σ4 H4 p4 => hl v σ4 H4 (s3.ret p4)
      | bad => rw [q] at hl; exact hl.elim
end
end Vm
set_option maxRecDepth 100000
set_option maxHeartbeats 1000000
namespace Vm
open PySem PySem.Spec L2
section
variable {K : PySem.W.Frag} {G : Call} {σ : L2.St} {H : Hp} {D : Ends} {E : Str → L2.St → Hp → Prop}
theorem tX_fork {t : Tg} {j : Nat} {b : List Sm} (h : tX K G E (.fork t j b) D σ H) : tFor (iR K G j) (tG K t) (tXs K G E b) D σ H := by
  obtain ⟨A, as, f, R, h⟩ := h
  unfold xS at h
  cases hdat : isDat f j with
  | some x =>
    rw [hdat] at h
    dsimp only at h
    have hv : evE G (.v j) f = .ok (.d x, f) := by
      unfold isDat at hdat
      split at hdat
      · rename_i y q
        cases hdat
        unfold evE
        rw [q]
      · cases hdat
    have ei : evI G (.seq (.v j)) f = (ofOpt (itemsD (norm x))).bind fun l => .ok (l, f) := by
      unfold evI
      rw [hv]
      rfl
    have h2 : tX K G E (.for t (.seq (.v j)) b) D σ H := by
      refine ⟨A, as, f, R, ?_⟩
      unfold xS
      rw [ei]
      cases hi : itemsD (norm x) with
      | none => rw [hi] at h; exact h
      | some l => rw [hi] at h; exact h
    exact Or.inr (tX_for h2)
  | none =>
  rw [hdat] at h
  refine Or.inl ?_
  obtain ⟨n, e0, h⟩ := ofOpt_out h
  obtain ⟨ds, e1, h⟩ := ofOpt_out h
  refine ⟨A, as, f, n, ds, R, e0, e1, fun a H1 pn ha => ?_⟩
  let P : Nat → L2.St → Hp → Prop := fun i σ2 H2 => ∃ fi, SPost K A as f σ H1 fi σ2 H2 ∧ OutOk K A as fi σ2 H2 D E (forLoopK n ds (xSs G b) t (ds.drop i) fi)
  refine ⟨fun i m σ2 H2 => m = ds.length - i ∧ i ≤ ds.length ∧ P i σ2 H2, ⟨_, rfl, Nat.zero_le _, f, .nil pn.1, h.pre pn⟩, ?_⟩
  rintro i m σ2 H2 ⟨rfl, hi, fi, sp, hl⟩
  by_cases hlt : i < ds.length
  · have hd : ds[i]? = some ds[i] := by simp [hlt]
    have hdrop : ds.drop i = ds[i] :: ds.drop (i + 1) := List.drop_eq_getElem_cons hlt
    rw [hdrop] at hl
    unfold forLoopK at hl
    by_cases hk : keepS n ds fi = true
    case neg => rw [if_neg hk] at hl; exact hl.elim
    rw [if_pos hk] at hl
    obtain ⟨go, yld⟩ := (keepS_it sp.1 ha hk).2 i _ hd
    refine .inr ⟨go, P (i + 1), fun σ' H' p => ⟨ds.length - (i + 1), by omega, rfl, hlt, p⟩, fun x H3 hy => ?_⟩
    have py := op_post sp.1 (yld x H3 hy).1
    obtain ⟨pny, rdy⟩ := py.kept (y := ds[i]) (f'' := fi) (congrArg (fun z => some (z, fi)) (yld x H3 hy).2)
    cases hb : bindT t ds[i] fi.ρ with
    | none => rw [hb] at hl; exact hl.elim
    | some ρ1 =>
      rw [hb] at hl
      dsimp only at hl
      refine ⟨A, as, fi, _, ρ1, pny.1, rdy, hb, fun σ3 bp => ?_⟩
      have s3 : SPost K A as fi σ2 H2 { fi with ρ := ρ1 } σ3 H3 := SPost.trans pny bp.sp
      refine ⟨A, as, _, bp.1, ?_⟩
      have nx : ∀ {g : F} {o : Out}, OutOk K A as fi σ2 H2 D E (forLoopK n ds (xSs G b) t (ds.drop (i + 1)) g) → ∀ σ4 H4, SPost K A as { fi with ρ := ρ1 } σ3 H3 g σ4 H4 → P (i + 1) σ4 H4 := fun {g o} hl σ4 H4 p4 =>
        ⟨g, (sp.trans s3).trans p4, hl.pre (s3.trans p4)⟩
      cases q : xSs G b { fi with ρ := ρ1 } with
      | nx g => rw [q] at hl; exact fun σ4 H4 p4 => nx (o := .bad) hl σ4 H4 p4
      | ct g => rw [q] at hl; exact fun σ4 H4 p4 => nx (o := .bad) hl σ4 H4 p4
      | bk g => rw [q] at hl; exact fun σ4 H4 p4 => hl σ4 H4 (s3.trans p4)
      | rt r g => rw [q] at hl; exact fun v σ4 H4 p4 => hl v σ4 H4 (s3.ret p4)
      | bad => rw [q] at hl; exact hl.elim
  · have hn : i = ds.length := by omega
    subst hn
    rw [List.drop_length] at hl
    unfold forLoopK at hl
    by_cases hk : keepS n ds fi = true
    case neg => rw [if_neg hk] at hl; exact hl.elim
    rw [if_pos hk] at hl
    exact .inl ⟨(keepS_it sp.1 ha hk).1, hl σ2 H2 (.nil sp.1)⟩
end
end Vm
set_option maxRecDepth 100000
set_option maxHeartbeats 1000000
namespace Vm
open PySem PySem.Spec L2
section
variable {K : PySem.W.Frag} {G : Call} {A : ASet} {as : List Addr} {f f1 f2 f3 : F} {σ σ' σ2 : L2.St} {H H1 H2 : Hp} {D : Ends} {E : Str → L2.St → Hp → Prop}
def rSetA : TSet := fun o i v H Q => rSetL o i v H Q ∨ rSetD o i v H Q
theorem set_any {X : Cx} (hu : X.A.units + 1 < cLine) : PSet X rSetA := by
  intro pins s σ H o i v ov iv u Q I ro ri rv h
  rcases h with h | h
  · exact set_list pins s σ H o i v ov iv u Q I ro ri rv h
  · exact set_dict hu pins s σ H o i v ov iv u Q I ro ri rv h
theorem own_at {r1 : RV} {x : V} {l : Loc} {o : Ob} {A1 : ASet} (R : Rel K A1 as f3 σ H) (q1 : RVR K (Lv A1 f1 as σ) A1 as σ H1 r1 x) (e4 : ownAt f3 r1 = some (l, o)) : ∃ p, x = .ref p ∧ LocAt f3 as σ l p ∧ ObR K (Lv A1 f3 as σ) H p o := by
  cases r1 with
  | d _ => cases e4
  | fr _ => cases e4
  | vr i =>
    obtain ⟨p, h1, h2⟩ := q1
    unfold ownAt at e4
    dsimp only at e4
    split at e4
    · rename_i o0 q
      cases e4
      obtain ⟨b, g1, g2, _⟩ := R.so i o q
      rw [h2] at g1; cases g1
      exact ⟨p, h1, ⟨o, q, h2⟩, g2⟩
    · cases e4
  | ce n =>
    obtain ⟨p, h1, h2⟩ := q1
    unfold ownAt at e4
    dsimp only at e4
    split at e4
    · rename_i o0 q
      cases e4
      exact ⟨p, h1, ⟨o, q, h2⟩, (R.co n o p q h2).1⟩
    · cases e4
theorem kD_inj {a b : Key} (h : kD a = kD b) : a = b := by
  have := congrArg keyD h
  rw [keyD_kD, keyD_kD] at this
  exact Option.some.inj this
theorem RdA.set1 {L : ASet} : ∀ {ds : List PyData} {vs : List V} {j : Nat} {y : PyData} {v : V}, RdA K L H ds vs → Rd K L H y v → RdA K L H (ds.set j y) (vs.set j v)
  | [], _, j, y, v, h, _ => by obtain rfl : _ = [] := h; rfl
  | d :: ds, _, 0, y, v, ⟨w, r, e, h1, h2⟩, h => by subst e; exact ⟨v, r, rfl, h, h2⟩
  | d :: ds, _, j + 1, y, v, ⟨w, r, e, h1, h2⟩, h => by subst e; exact ⟨w, r.set j v, rfl, h1, RdA.set1 h2 h⟩
theorem rdk_any {L : ASet} {k : Key} : ∀ {kvs : List (Key × PyData)} {hv : List (Key × V)}, RdK K L H (kvD kvs) hv → (kvs.any fun kv => decide (kv.1 = k)) = (hv.any fun kv => decide (kv.1 = k))
  | [], _, h => by obtain rfl : _ = [] := h; rfl
  | (a, d) :: r, _, ⟨kk, v, r', e, e1, h1, h2⟩ => by
    subst e
    have := kD_inj e1
    subst this
    rw [List.any_cons, List.any_cons, rdk_any (kvs := r) h2]
theorem rdk_map {L : ASet} {k : Key} {y : PyData} {v : V} (hy : Rd K L H y v) : ∀ {kvs : List (Key × PyData)} {hv : List (Key × V)}, RdK K L H (kvD kvs) hv → RdK K L H (kvD (kvs.map fun kv => if kv.1 = k then (kv.1, y) else kv)) (hv.map fun kv => if kv.1 = k then (kv.1, v) else kv)
  | [], _, h => by obtain rfl : _ = [] := h; rfl
  | (a, d) :: r, _, ⟨kk, w, r', e, e1, h1, h2⟩ => by
    subst e
    have := kD_inj e1
    subst this
    rw [List.map_cons, List.map_cons]
    by_cases q : kk = k
    · simp only [q, if_true]
      exact ⟨k, v, _, rfl, rfl, hy, rdk_map hy h2⟩
    · simp only [q, if_false]
      exact ⟨kk, w, _, rfl, rfl, h1, rdk_map hy h2⟩
theorem rdk_app {L : ASet} {k : Key} {y : PyData} {v : V} (hy : Rd K L H y v) : ∀ {kvs : List (Key × PyData)} {hv : List (Key × V)}, RdK K L H (kvD kvs) hv → RdK K L H (kvD (kvs ++ [(k, y)])) (hv ++ [(k, v)])
  | [], _, h => by obtain rfl : _ = [] := h; exact ⟨k, v, [], rfl, rfl, hy, rfl⟩
  | (a, d) :: r, _, ⟨kk, w, r', e, e1, h1, h2⟩ => by
    subst e
    exact ⟨kk, w, r' ++ [(k, v)], rfl, e1, h1, rdk_app hy h2⟩
theorem rdk_put {L : ASet} {k : Key} {y : PyData} {v : V} (hy : Rd K L H y v) {kvs : List (Key × PyData)} {hv : List (Key × V)} (h : RdK K L H (kvD kvs) hv) : RdK K L H (kvD (putD kvs k y)) (putK hv k v) := by
  unfold putD putK
  rw [rdk_any h]
  split
  · exact rdk_map hy h
  · exact rdk_app hy h
theorem rdk_len {L : ASet} : ∀ {kvs : List (Key × PyData)} {hv : List (Key × V)}, RdK K L H (kvD kvs) hv → hv.length = kvs.length
  | [], _, h => by obtain rfl : _ = [] := h; rfl
  | (a, d) :: r, _, ⟨kk, w, r', e, e1, h1, h2⟩ => by subst e; exact congrArg (· + 1) (rdk_len h2)
/-- a[i] = .., the value at hand -/
theorem sub_go {a i : Ex} {ra ri : RV} {k y : PyData} {v : V} {l : Loc} {o o' : Ob} {Q : L2.St → Hp → Prop} (R1 : Rel K A as f1 σ H1) (rd : Rd K (Lv A f1 as σ) H1 y v) (ea : evE G a f1 = .ok (ra, f2)) (ei : evE G i f2 = .ok (ri, f3))
    (ek : view f3 ri = some k) (eo : ownAt f3 ra = some (l, o)) (ep : putO o k y = some o') (hQ : ∀ H4, SPost K A as f1 σ H1 (put1 f3 l (.own o')) σ H4 → Q σ H4) : gSub (tD K G a) (tD K G i) rSetA v σ H1 Q := by
  refine ⟨A, as, f1, ra, f2, R1, ea, fun x H2 p2 => ?_⟩
  obtain ⟨A2, s2, R2, q2, n2, x2, k2⟩ := id p2
  refine ⟨A2, as, f2, ri, f3, R2, ei, fun z H3 p3 => ?_⟩
  obtain ⟨pn, rk⟩ := p3.seen ek
  obtain ⟨p, rfl, hl, ob⟩ := own_at pn.1 q2 eo
  have rd3 : Rd K (Lv A2 f3 as σ) H3 y v := rd.ext (x2.trans pn.2.1)
  have lp : Lv A2 f3 as σ p := .inr hl.own
  have fin : ∀ u, ObR K (Lv A2 f3 as σ) (upd H3 p u) p o' → Q σ (upd H3 p u) := fun u h => by
    obtain ⟨R4, x4, k4⟩ := pn.1.mut hl h
    exact hQ _ ⟨R4.less s2, ((x2.trans pn.2.1).trans x4).trans (ext_less s2), fun a ha => (k4 a (s2 a ha)).trans ((pn.2.2 a (s2 a ha)).trans (k2 a ha))⟩
  cases o with
  | lst xs =>
    cases k with
    | int i =>
      obtain ⟨j, h1, rfl⟩ := omap (show (ixN xs.length i).map _ = some o' from ep)
      obtain ⟨ws, g1, g2⟩ := ob
      exact .inl ⟨p, ws, i, j, rfl, rk.i, g1, by rw [g2.len]; exact h1, fin _ ⟨_, upd_same, (g2.set1 rd3).ext (ext_upd lp)⟩⟩
    | _ => cases ep
  | dct kvs =>
    obtain ⟨kk, h1, h2⟩ := obind (show (keyD k).bind _ = some o' from ep)
    split at h2
    · rename_i hz
      cases h2
      obtain ⟨hv, g1, g2⟩ := ob
      exact .inr ⟨p, _, rfl, .inl ⟨hv, kk, g1, keyV_of rk h1, by rw [sizeLine_eq, rdk_len g2]; exact hz, rfl⟩, fin _ ⟨_, upd_same, RdK.ext (ext_upd lp) (rdk_put rd3 g2)⟩⟩
    · cases h2
theorem tX_sub {a i e : Ex} (h : tX K G E (.sub a i e) D σ H) : tAsg (tD K G e) (gSub (tD K G a) (tD K G i) rSetA) D σ H := by
  obtain ⟨A, as, f, R, h⟩ := h
  unfold xS at h
  obtain ⟨⟨rv, f1⟩, e1, h⟩ := Out.of_bad h
  obtain ⟨⟨y, f2⟩, e2, h⟩ := ofOpt_out h
  obtain ⟨⟨ra, f3⟩, e3, h⟩ := Out.of_bad h
  obtain ⟨⟨ri, f4⟩, e4, h⟩ := Out.of_bad h
  obtain ⟨k, e5, h⟩ := ofOpt_out h
  obtain ⟨⟨l, o⟩, e6, h⟩ := ofOpt_out h
  obtain ⟨o', e7, h⟩ := ofOpt_out h
  refine ⟨A, as, f, rv, f1, R, e1, fun v H1 p => ?_⟩
  obtain ⟨pn, rd⟩ := p.kept e2
  exact sub_go pn.1 rd e3 e4 e5 e6 e7 fun H4 sp => h _ _ (SPost.trans pn sp)
theorem tX_tsub {a i e : Ex} {j : Nat} (h : tX K G E (.tsub a i j e) D σ H) : tAsg (tD K G e) (gTup K 2 (gCons (gSub (tD K G a) (tD K G i) rSetA) (gCons (gName j) gNil))) D σ H := by
  obtain ⟨A, as, f, R, h⟩ := h
  unfold xS at h
  obtain ⟨⟨rv, f1⟩, e1, h⟩ := Out.of_bad h
  obtain ⟨⟨y, f2⟩, e2, h⟩ := ofOpt_out h
  dsimp only at h
  split at h
  · rename_i y1 y2
    obtain ⟨⟨ra, f3⟩, e3, h⟩ := Out.of_bad h
    obtain ⟨⟨ri, f4⟩, e4, h⟩ := Out.of_bad h
    obtain ⟨k, e5, h⟩ := ofOpt_out h
    obtain ⟨⟨l, o⟩, e6, h⟩ := ofOpt_out h
    obtain ⟨o', e7, h⟩ := ofOpt_out h
    refine ⟨A, as, f, rv, f1, R, e1, fun v H1 p => ?_⟩
    obtain ⟨pn, rd⟩ := p.kept e2
    obtain ⟨b, vs, rfl, sq, ra1⟩ := rd.tupS
    obtain ⟨v1, r1, rfl, d1, v2, r2, rfl, d2, d3⟩ := ra1
    obtain rfl : r2 = [] := d3
    refine ⟨b, _, rfl, sq, rfl, v1, _, rfl, sub_go pn.1 d1 e3 e4 e5 e6 e7 fun H4 sp => ?_⟩
    refine ⟨v2, [], rfl, rfl, h _ _ ((SPost.trans pn sp).trans (bnd_name sp.1 (d2.ext sp.2.1)).sp)⟩
  · exact h.elim
theorem tX_aug {i : Nat} {o : Op} {e : Ex} (h : tX K G E (.aug i o e) D σ H) : tAug i (tD K G e) (fun x y H Q => ∃ a b c, x = .int a ∧ y = .int b ∧ augI o a (.int b) = some c ∧ Q (.int c) H) D σ H := by
  obtain ⟨A, as, f, R, h⟩ := h
  unfold xS at h
  split at h
  · rename_i a q
    obtain ⟨⟨rv, f1⟩, e1, h⟩ := Out.of_bad h
    obtain ⟨z, e2, h⟩ := ofOpt_out h
    obtain ⟨y, e3, e4⟩ := obind e2
    obtain ⟨v, h1, h2⟩ := R.sd i _ q
    refine ⟨v, h1, A, as, f, rv, f1, R, e1, fun w H1 p => ?_⟩
    obtain ⟨pn, rd⟩ := p.seen e3
    have hv := rdi_of (RdP.rd h2)
    cases y with
    | int b =>
      exact ⟨a, b, z, hv, rd.i, e4, h _ _ (SPost.trans pn (bnd_name pn.1 rd_int).sp)⟩
    | _ => cases o <;> cases e4
  · exact h.elim
end
end Vm
set_option maxRecDepth 100000
set_option maxHeartbeats 1000000
namespace Vm
open PySem PySem.Spec L2
section
variable {K : PySem.W.Frag} {G : Call} {A A' : ASet} {as : List Addr} {f f' f0 f1 f2 f3 : F} {σ σ' σ0 σ2 : L2.St} {H H0 H1 H2 : Hp} {D : Ends} {E : Str → L2.St → Hp → Prop}
theorem prep_ok : ∀ {rvs : List RV} {vs : List V} {rvs' : List RV} {f f' : F}, Rel K A' as f σ H → RVRs K (Lv A' f as σ) A' as σ H rvs vs → prepN f rvs = some (rvs', f') →
    Rel K A' as f' σ H ∧ RVRs K (Lv A' f' as σ) A' as σ H rvs' vs ∧ frs rvs' vs = frs rvs vs ∧ Ext (Lv A' f as σ) H (Lv A' f' as σ) H ∧ ∀ r ∈ rvs', ∀ i, r ≠ .vr i
  | [], _, _, _, _, R, h, e => by cases e; exact ⟨R, h, rfl, Ext.refl, fun r hr => by simp at hr⟩
  | r :: rs, _, rvs', f, f', R, ⟨v, ws, e0, h1, h2⟩, e => by
    subst e0
    have other : (∀ i, r ≠ .vr i) → (prepN f rs).bind (fun q => some (r :: q.1, q.2)) = some (rvs', f') → Rel K A' as f' σ H ∧ RVRs K (Lv A' f' as σ) A' as σ H rvs' (v :: ws) ∧ frs rvs' (v :: ws) = frs (r :: rs) (v :: ws) ∧ Ext (Lv A' f as σ) H (Lv A' f' as σ) H ∧ ∀ r ∈ rvs', ∀ i, r ≠ .vr i := fun hn e => by
      obtain ⟨⟨rs', g⟩, e1, e2⟩ := obind e
      cases e2
      obtain ⟨q1, q2, q3, q4, q5⟩ := prep_ok R h2 e1
      refine ⟨q1, ⟨v, ws, rfl, h1.ext q4 (fun _ _ => rfl) fun _ z => z, q2⟩, ?_, q4, fun x hx => ?_⟩
      · cases r <;> first | exact q3 | exact congrArg (v :: ·) q3
      · rcases List.mem_cons.mp hx with z | z
        · rw [z]; exact hn
        · exact q5 x z
    cases r with
    | vr i =>
      obtain ⟨⟨x, g⟩, e1, e2⟩ := obind (show (frz f (.vr i)).bind _ = some (rvs', f') from e)
      obtain ⟨⟨rs', g'⟩, e3, e4⟩ := obind e2
      cases e4
      obtain ⟨R1, rd, x1⟩ := frz_ok R h1 e1
      have h2' : RVRs K (Lv A' g as σ) A' as σ H rs ws := h2.ext x1 (fun _ _ => rfl) fun _ z => z
      obtain ⟨q1, q2, q3, q4, q5⟩ := prep_ok (f := g) R1 h2' e3
      refine ⟨q1, ⟨v, ws, rfl, .inl (Rd.ext q4 rd), q2⟩, q3, Ext.trans x1 q4, fun y hy => ?_⟩
      rcases List.mem_cons.mp hy with z | z
      · rw [z]; exact fun i z => by cases z
      · exact q5 y z
    | d _ => exact other (fun i z => by cases z) e
    | fr _ => exact other (fun i z => by cases z) e
    | ce _ => exact other (fun i z => by cases z) e
def setL : L2.St → List Nat → List V → L2.St
  | σ, i :: is, v :: vs => setL (σ.set i (some v)) is vs
  | σ, _, _ => σ
theorem RVRs.resig {L : ASet} : ∀ {rvs : List RV} {vs : List V}, (∀ r ∈ rvs, ∀ i, r ≠ .vr i) → RVRs K L A as σ H rvs vs → RVRs K L A as σ' H rvs vs
  | [], _, _, h => h
  | r :: rs, _, hn, ⟨v, ws, e, h1, h2⟩ => by
    refine ⟨v, ws, e, ?_, RVRs.resig (fun x hx => hn x (List.mem_cons_of_mem _ hx)) h2⟩
    cases r with
    | vr i => exact absurd rfl (hn _ (List.mem_cons_self ..) i)
    | d _ => exact h1
    | fr _ => exact h1
    | ce _ => exact h1
theorem RVRs.drop {L : ASet} {p : Addr} : ∀ {rvs : List RV} {vs : List V}, V.ref p ∉ frs rvs vs → RVRs K L A as σ H rvs vs → RVRs K L (fun a => A a ∧ a ≠ p) as σ H rvs vs
  | [], _, _, h => h
  | r :: rs, _, hn, ⟨v, ws, e, h1, h2⟩ => by
    subst e
    cases r with
    | fr o =>
      obtain ⟨q, rfl, aq, ob⟩ := h1
      have hn : V.ref p ∉ V.ref q :: frs rs ws := hn
      rw [List.mem_cons, not_or] at hn
      exact ⟨_, ws, rfl, ⟨q, rfl, ⟨aq, fun z => hn.1 (by rw [z])⟩, ob⟩, RVRs.drop hn.2 h2⟩
    | d _ => exact ⟨v, ws, rfl, h1, RVRs.drop hn h2⟩
    | vr _ => exact ⟨v, ws, rfl, h1, RVRs.drop hn h2⟩
    | ce _ => exact ⟨v, ws, rfl, h1, RVRs.drop hn h2⟩
theorem bindNs_ok : ∀ {is : List Nat} {rvs : List RV} {vs : List V} {A' : ASet} {f f2 : F} {σ : L2.St}, (∀ a, A a → A' a) → Rel K A' as f σ H → RVRs K (Lv A' f as σ) A' as σ H rvs vs → FrOk A rvs vs → Ext (Lv A f0 as σ0) H0 (Lv A' f as σ) H → (∀ a, A a → H a = H0 a) →
    (∀ r ∈ rvs, ∀ i, r ≠ .vr i) → bindNs f is rvs = some f2 → SPost K A as f0 σ0 H0 f2 (setL σ is vs) H
  | [], [], _, A', f, f2, σ, s, R, h, fo, x, k, hn, e => by
    obtain rfl : _ = [] := h
    cases e
    exact ⟨R.less s, x.trans (ext_less s), k⟩
  | [], _ :: _, _, _, _, _, _, _, _, _, _, _, _, _, e => by cases e
  | _ :: _, [], _, _, _, _, _, _, _, _, _, _, _, _, e => by cases e
  | i :: is, r :: rs, _, A', f, f2, σ, s, R, ⟨v, ws, e0, h1, h2⟩, fo, x, k, hn, e => by
    subst e0
    obtain ⟨g, e1, e2⟩ := obind (show (bindN f i r).bind (fun f1 => bindNs f1 is rs) = some f2 from e)
    have hn' : ∀ r ∈ rs, ∀ i, r ≠ .vr i := fun x hx => hn x (List.mem_cons_of_mem _ hx)
    have oth : ∀ j, j ≠ i → (σ.set i (some v))[j]? = σ[j]? := fun j hj => List.getElem?_set_ne (Ne.symm hj)
    have inr : i < f.ρ.length → (σ.set i (some v))[i]? = some (some v) := fun hi => by rw [List.getElem?_set_self (by rw [R.lenσ]; exact hi)]
    show SPost K A as f0 σ0 H0 f2 (setL (σ.set i (some v)) is ws) H
    cases r with
    | vr j => exact absurd rfl (hn _ (List.mem_cons_self ..) j)
    | d y =>
      cases e1
      have b := bnd_nameP (i := i) R h1
      exact bindNs_ok s b.1 ((RVRs.resig hn' h2).ext b.2.1 (fun _ _ => rfl) fun _ z => z) ⟨fo.nd, fo.np⟩ (x.trans b.2.1) k hn' e2
    | ce n =>
      cases e1
      obtain ⟨q, rfl, hq⟩ := h1
      by_cases hi : i < f.ρ.length
      · obtain ⟨R2, x2⟩ := R.setSlot (A' := A') (σ' := σ.set i (some (.ref q))) (H' := H) (l := .c n) hi oth (by simp) (fun _ z => z) (fun _ _ _ => rfl) (fun a o e _ => e) R.al ⟨q, hq, inr hi⟩
        exact bindNs_ok s R2 ((RVRs.resig hn' h2).ext x2 (fun _ _ => rfl) fun _ z => z) ⟨fo.nd, fo.np⟩ (x.trans x2) k hn' e2
      · have e1 : f.ρ.set i (.c n) = f.ρ := set_ge (by omega)
        have e3 : σ.set i (some (.ref q)) = σ := set_ge (by rw [R.lenσ]; omega)
        rw [e1] at e2
        rw [e3]
        exact bindNs_ok s R h2 ⟨fo.nd, fo.np⟩ x k hn' e2
    | fr o =>
      cases e1
      obtain ⟨q, rfl, aq, ob⟩ := h1
      obtain ⟨n1, n2⟩ := List.nodup_cons.mp (show (V.ref q :: frs rs ws).Nodup from fo.nd)
      have nq : ¬ A q := fo.np q (List.mem_cons_self ..)
      have s2 : ∀ a, A a → A' a ∧ a ≠ q := fun a ha => ⟨s a ha, fun z => nq (by rw [← z]; exact ha)⟩
      have fo2 : FrOk A rs ws := ⟨n2, fun a ha => fo.np a (List.mem_cons_of_mem _ ha)⟩
      by_cases hi : i < f.ρ.length
      · obtain ⟨R2, x2⟩ := R.setSlot (A' := fun a => A' a ∧ a ≠ q) (σ' := σ.set i (some (.ref q))) (H' := H) (l := .own o) hi oth (by simp) (fun _ z => z.1) (fun _ _ _ => rfl) (fun a o e _ => e) (fun a z => R.al a z.1)
          ⟨q, inr hi, ob, fun z => z.2 rfl, .inl aq⟩
        exact bindNs_ok s2 R2 ((RVRs.drop n1 (RVRs.resig hn' h2)).ext x2 (fun _ _ => rfl) fun _ z => z) fo2 (x.trans x2) k hn' e2
      · have e1 : f.ρ.set i (.own o) = f.ρ := set_ge (by omega)
        have e3 : σ.set i (some (.ref q)) = σ := set_ge (by rw [R.lenσ]; omega)
        rw [e1] at e2
        rw [e3]
        exact bindNs_ok s R h2 fo2 x k hn' e2
theorem tX_par {is : List Nat} {es : List Ex} (h : tX K G E (.par is es) D σ H) : tDs K G es σ H fun vs H1 => vs.length = es.length ∧ D.nx (setL σ is vs) H1 ∧ ∀ p, H1 p = none → D.nx (setL σ is vs) (upd H1 p (.tup vs)) := by
  obtain ⟨A, as, f, R, h⟩ := h
  unfold xS at h
  obtain ⟨⟨rvs, f1⟩, e1, h⟩ := Out.of_bad h
  obtain ⟨⟨rvs', f2⟩, e2, h⟩ := ofOpt_out h
  obtain ⟨f3, e3, h⟩ := ofOpt_out h
  refine ⟨A, as, f, rvs, f1, R, e1, fun vs H1 p => ?_⟩
  have hl := p.len.trans (chn_len e1)
  have sp : SPost K A as f σ H f3 (setL σ is vs) H1 := by
    obtain ⟨A', s, R', r, n, x, k⟩ := p
    obtain ⟨q1, q2, q3, q4, q5⟩ := prep_ok R' r e2
    exact bindNs_ok s q1 q2 ⟨by rw [q3]; exact n.nd, by rw [q3]; exact n.np⟩ (x.trans q4) k q5 e3
  refine ⟨hl, h _ _ sp, fun q hq => h _ _ (sp.trans ?_)⟩
  · obtain ⟨R4, x4, k4, _⟩ := sp.1.laid' (o := .tup vs) hq
    exact ⟨R4, x4, fun a ha => k4 a (.inl ha)⟩
end
end Vm
set_option maxRecDepth 100000
set_option maxHeartbeats 1000000
namespace Vm
open PySem PySem.Spec L2
/-! ### statements, from Python's trees -/
def nmIx (Γ : Gam) : Expr → Option Nat
  | .Name x _ => if Γ.st x && okName x then ixOf Γ.N x 0 else none
  | _ => none
/-- a name that a comprehension's pair may swap into, on this line -/
def swN (Γ : Gam) (line : Nat) : Expr → Option Str
  | .Name x p => if Γ.loc x && (p.line == line) then some x else none
  | _ => none
def lnE (ts : List Expr) : Nat := (ts.head?.map (·.pos.line)).getD 0
/-- 1: stored from the right; 2: by a tuple -/
def parRt (Γ : Gam) (ts es : List Expr) : Nat :=
  if (ts.filterMap (swN Γ (lnE ts))).length = ts.length then
    (if (ts.length == 2 || ts.length == 3) = true ∧ (ts.filterMap (swN Γ (lnE ts))).eraseDups.length = ts.length ∧ es.all (foldedForSure 8) = false ∧ es.all (constantsAlone 8) = false then 1 else 0)
  else 2
def isLstE : Expr → Bool
  | .List _ _ => true
  | _ => false
def parC (Γ : Gam) (g : Expr → Option Ex) (ts es : List Expr) : Option Sm :=
  if es.any starE = false ∧ es.length = ts.length ∧ es.length ≤ 3 then
    (mapO (nmIx Γ) ts).bind fun is => (mapO g es).bind fun es' => if parRt Γ ts es ≠ 0 ∧ is.Nodup then some (.par is es') else none
  else none
def tupC (Γ : Gam) (g : Expr → Option Ex) (ts : List Expr) (e : Expr) : Option Sm := match ts with
  | [.Subscript a i _, b] => (nmIx Γ b).bind fun j => (g a).bind fun a => (g i).bind fun i => (g e).bind fun e => some (.tsub a i j e)
  | _ => (tgCs Γ ts).bind fun l => (g e).map (.asg (.tup l))
def itemsE : Expr → List Expr
  | .Tuple es _ _ => es
  | _ => []
def asgC (Γ : Gam) (g : Expr → Option Ex) (t e : Expr) : Option Sm := match t with
  | .Name x p => (nmIx Γ (.Name x p)).bind fun i => (g e).map (.asg (.name i))
  | .Subscript a i _ => (g a).bind fun a => (g i).bind fun i => (g e).bind fun e => some (.sub a i e)
  | .Tuple ts _ _ => if isTupE e = true then parC Γ g ts (itemsE e) else if isLstE e = true then none else tupC Γ g ts e
  | _ => none
def augO : Operator → Option Op
  | .Add => some .add
  | .Sub => some .sub
  | _ => none
def dropOk : Expr → Bool
  | .ListComp _ _ _ _ => false
  | .SetComp _ _ _ _ => false
  | .DictComp _ _ _ _ _ => false
  | _ => true
/-- a call of a def that may let an exception out -/
def isRz (Γ : Gam) : Expr → Bool
  | .Call (.Name x _) _ _ _ => Γ.rz.contains x && (defOf Γ.defs x 0).isSome
  | _ => false
/-- a class without fields, made to be raised -/
def rzN (Γ : Gam) : Expr → Option Str
  | .Call (.Name x _) [] [] _ => if Γ.xs.contains x = true ∧ okName x = true ∧ Γ.gl x = true then some x else none
  | _ => none
def kE : Expr → Option Ex
  | .Constant c _ _ => (constD c).map .k
  | _ => none
/-- what a clause's suite may be: return of constants -/
def hdC : List Stmt → Option (List Sm)
  | [.Return (some (.Constant c _ _)) _] => (constD c).map fun d => [.ret (.k d)]
  | [.Return (some (.Tuple es _ _)) _] => (mapO kE es).map fun l => [.ret (.tup l)]
  | _ => none
def Gam.mkFor (Γ : Gam) (t : Tg) (it : It) (b : List Sm) : Sm := if Γ.kf = true then (match it with
  | .seq (.v j) => .fork t j b
  | _ => .for t it b) else .for t it b
def strK : Expr → Option Str
  | .Constant (.str y) _ _ => some y
  | _ => none
/-- a statement behind which a token is out -/
def gvB : Stmt → Bool
  | .Assign [.Name _ _] (.IfExp (.BoolOp .And (.Compare _ [.Gt] [.Constant (.int _) _ _] _ :: _) _) _ _ _) _ => true
  | _ => false
/-- x.replace(y, z) of a name and two written texts -/
def repArg (g : Expr → Option Ex) : Expr → Option Ex
  | .Call (.Attribute (.Name x xp) nm ap) [a, b] [] cp => if nm = "replace" ∧ (ap.endLine == cp.line) = true then
      (strK a).bind fun y => (strK b).bind fun z => if (y == z) = false then (g (.Name x xp)).map fun e => .op (.repl y z) [e] else none
    else none
  | _ => none
def repCall (g : Expr → Option Ex) (Γ : Gam) : Expr → Option Ex
  | .Call (.Name f _) [r] [] _ => if okName f = true ∧ Γ.gl f = true ∧ Γ.kwo.contains f = false then
      (defOf Γ.defs f 0).bind fun q => if q.2.length = 1 then (repArg g r).map fun a => .call q.1 [a] else none
    else none
  | _ => none
def retRep (g : Expr → Option Ex) (Γ : Gam) : Expr → Option Ex
  | .BoolOp .And [c, e2] _ => (repCall g Γ c).bind fun c' => (g e2).map fun e' => .and c' e'
  | _ => none
/-- f(x.replace(y, z)) and e, returned behind such a statement -/
def repR (g : Expr → Option Ex) (Γ : Gam) (s : Stmt) : List Stmt → Option (List Sm)
  | [.Return (some e) _] => if gvB s = true then (retRep g Γ e).map fun e' => [.ret e'] else none
  | _ => none
mutual
def cS : Nat → Gam → Stmt → Option Sm
  | 0, _, _ => none
  | n + 1, Γ, s => match s with
    | .Pass _ => some .pass
    | .Break _ => some .brk
    | .Continue _ => some .cont
    | .Raise (some e) none _ => (match rzN Γ e with
      | some x => some (.raise x)
      | none => some .never)
    | .Raise _ _ _ => some .never
    | .Try body [.ExceptHandler (some (.Name x _)) none (b0 :: suite) _] [] [] _ => if Γ.xc.contains x = true ∧ okName x = true ∧ Γ.gl x = true then
        (cSs n Γ body).bind fun b => (hdC (b0 :: suite)).bind fun h => some (.trys b (Γ.mt x) Γ.xs h)
      else none
    | .Expr e _ => if isRz Γ e = true then (comp n Γ e).map .clx else if dropOk e = true then (comp n Γ e).map .ex else none
    | .Return none _ => some .retN
    | .Return (some e) _ => if isRz Γ e = true then (comp n Γ e).map .clr else (comp n Γ e).map .ret
    | .If c a b _ => (comp n Γ c).bind fun c => (cSs n Γ a).bind fun a => (cSs n Γ b).bind fun b => some (.ifs c a b)
    | .While c b [] _ => (comp n Γ c).bind fun c => (cSs n Γ b).bind fun b => some (.whl c b)
    | .For t it b [] _ => (tgC Γ t).bind fun t' => (itC Γ (comp n Γ) (isTupE t) it).bind fun it => (cSs n Γ b).bind fun b => some (Γ.mkFor t' it b)
    | .Assign [t] e _ => if isRz Γ e = true then (match t with
        | .Name x p => (nmIx Γ (.Name x p)).bind fun i => (comp n Γ e).map (.cla i)
        | .Tuple ts _ _ => (tgCs Γ ts).bind fun l => (comp n Γ e).map (.clt l)
        | _ => none) else asgC Γ (comp n Γ) t e
    | .AugAssign t op e _ => match t with
      | .Name x _ => (nmIx Γ t).bind fun i => (augO op).bind fun o => (comp n Γ e).bind fun e => some (.aug i o e)
      | _ => none
    | _ => none
def cSs : Nat → Gam → List Stmt → Option (List Sm)
  | 0, _, _ => none
  | _ + 1, _, [] => some []
  | n + 1, Γ, s :: ss => (cS n Γ s).bind fun a => match repR (comp n Γ) Γ s ss with
    | some l => some (a :: l)
    | none => (cSs n Γ ss).bind fun l => some (a :: l)
end
section
variable {X : Cx} {Γ : Gam} {G : Call} {m : Nat}
theorem nmIx_ok (C : XOk Γ G m X) {t : Expr} {i : Nat} (h : nmIx Γ t = some i) : ∃ x p, t = .Name x p ∧ X.N[i]? = some x ∧ L2.Loc X.env.scope x ∧ (X.fn x = true ∨ X.env.scope.names.lookup x = some .local) ∧ okName x = true := by
  unfold nmIx at h
  split at h
  · split at h
    · rename_i x p hc
      simp only [Bool.and_eq_true] at hc
      obtain ⟨h1, h2⟩ := st_ok C.sc C.fn hc.1
      exact ⟨x, p, rfl, by rw [C.N]; exact ixOf0 h, h1, h2, hc.2⟩
    · cases h
  · cases h
theorem sw_tup {ts : List Expr} {k : _} {p pos : Pos} {e : Expr} {env : Env} : swapsWithSole [.Tuple ts k p] e pos.line env = pure false := by
  cases e <;> rfl
theorem sw_sub {a i : Expr} {p pos : Pos} {e : Expr} {env : Env} : swapsWithSole [.Subscript a i p] e pos.line env = pure false := by
  cases e <;> rfl
theorem pg_nm (C : XOk Γ G m X) {t : Expr} {i : Nat} (h : nmIx Γ t = some i) : PG X t (gName i) := by
  obtain ⟨x, p, rfl, h1, h2, h3, _⟩ := nmIx_ok C h
  exact pg_name C.nd h1 h2 h3
theorem pg_sub' {n : Nat} {o i : Expr} {i' : Ex} {pos : Pos} {to ti : TE} {t : TSet} (ho : PE X o to) (hi : PE X i ti) (hs : PSet X t) (h : comp n Γ i = some i') : PG X (.Subscript o i pos) (gSub to ti t) := by
  refine pg_sub ho hi hs ?_
  cases n with
  | zero => cases h
  | succ n =>
    cases i
    case Slice => exact nope h
    all_goals (intro v; rfl)
theorem nm_star {t : Expr} {i : Nat} (h : nmIx Γ t = some i) (ts : List Expr) (env : Env) : assignEach (t :: ts) env = (false, assign t env) :: assignEach ts env := by
  cases t
  case Starred => cases h
  all_goals rfl
def swE (env : Env) (line : Nat) : Expr → Option Str
  | .Name id pos => if env.kindOf id == some .local && pos.line == line then some id else none
  | _ => none
def stE : Expr → Bool
  | .Starred _ _ => true
  | _ => false
theorem stE_eq : ∀ es : List Expr, es.any stE = es.any starE
  | [] => rfl
  | e :: es => by
    rw [List.any_cons, List.any_cons, stE_eq es]
    cases e <;> rfl
theorem any_st : ∀ vs : List Expr, (vs.any fun | .Starred .. => true | _ => false) = vs.any stE
  | [] => rfl
  | e :: es => by
    rw [List.any_cons, List.any_cons, any_st es]
    cases e <;> rfl
theorem sw_swap {ts vs : List Expr} {k k2 : _} {p p2 : Pos} {env : Env} (h0 : vs.any stE = false) :
    swappedStores [.Tuple ts k p] (.Tuple vs k2 p2) env = (if !(ts.length == 2 || ts.length == 3) || vs.length != ts.length || env.blockKind != .function then pure none else
      if (ts.filterMap (swE env (lnE ts))).length != ts.length || (ts.filterMap (swE env (lnE ts))).eraseDups.length != (ts.filterMap (swE env (lnE ts))).length then pure none else
      if vs.all (foldedForSure 8) then pure none else if vs.all (constantsAlone 8) then unsupported "assign.tuple-of-constant-expressions:order-of-the-stores" else pure (some (ts.filterMap (swE env (lnE ts))))) := by
  unfold swappedStores
  show (if _ then _ else _) = _
  congr 1
  have e0 := (any_st vs).trans h0
  show (if (vs.any fun | .Starred .. => true | _ => false) = true then _ else _) = _
  rw [e0, if_neg Bool.false_ne_true]
  rfl
theorem swE_eq (C : XOk Γ G m X) (line : Nat) (e : Expr) : swE X.env line e = swN Γ line e := by
  cases e <;> try rfl
  rename_i x p
  show (if (X.env.scope.names.lookup x == some .local && p.line == line) = true then some x else none) = if (Γ.loc x && (p.line == line)) = true then some x else none
  have : (X.env.scope.names.lookup x == some .local) = Γ.loc x := by
    rw [C.sc]
    unfold Gam.loc
    split
    · rename_i h; rw [h]; rfl
    · rename_i h
      cases q : Γ.sc.names.lookup x with
      | none => rfl
      | some k => cases k <;> first | rfl | exact absurd q h
  rw [this]
end
end Vm
set_option maxRecDepth 100000
set_option maxHeartbeats 1000000
namespace Vm
open PySem PySem.Spec L2
/-! ### exceptions: raise, calls that may let one out, try -/
/-- a wish, by a class's name -/
def exOf (mg : Str → Option Value) (W : WX) : Str → L2.St → Hp → Prop := fun c σ H => ∀ cls, mg c = some cls → W cls none σ H
abbrev noW : WX := fun _ _ _ _ => False
section
variable {K : PySem.W.Frag} {mg : Str → Option Value} {G : Call} {W : WX} {A : ASet} {as : List Addr} {f f' f1 : F} {σ σ' : L2.St} {H H' H1 : Hp} {D : Ends} {E : Str → L2.St → Hp → Prop} {rr : RR} {v : V}
theorem RPost.sp (p : RPost K A as f σ H rr f' v σ' H') : SPost K A as f σ H f' σ' H' := by
  obtain ⟨A', s, R, r, n, x, k⟩ := p
  exact ⟨R.less s, x.trans (ext_less s), k⟩
theorem Post.rp (p : Post K A as f σ H rr.rv f' v H') : RPost K A as f σ H rr f' v σ H' := p
theorem tX_raise {c : Str} (h : tX K G E (.raise c) D σ H) : E c σ H := by
  obtain ⟨A, as, f, R, h⟩ := h
  exact h .non σ H ⟨A, fun _ z => z, R, .inl (rd_none (K := K) (L := Lv A f as σ) (H := H)), (fun o e => by cases e), Ext.refl, fun _ _ => rfl⟩
theorem tX_clx {e : Ex} (h : tX K G (exOf mg W) (.clx e) D σ H) : tDrop (tDX K mg W G e) D σ H := by
  obtain ⟨A, as, f, R, h⟩ := h
  unfold xS at h
  obtain ⟨⟨rr, f1⟩, e1, h⟩ := Out.of_bad h
  refine ⟨A, as, f, rr, f1, R, e1, fun v H1 p => ?_⟩
  cases rr with
  | ex c => exact h v σ H1 p
  | d x => exact h σ H1 (RPost.sp (rr := .d x) p)
  | fr o => exact h σ H1 (RPost.sp (rr := .fr o) p)
theorem tX_clr {e : Ex} (h : tX K G (exOf mg W) (.clr e) D σ H) : tRet (tDX K mg W G e) D σ H := by
  obtain ⟨A, as, f, R, h⟩ := h
  unfold xS at h
  obtain ⟨⟨rr, f1⟩, e1, h⟩ := Out.of_bad h
  refine ⟨A, as, f, rr, f1, R, e1, fun v H1 p => ?_⟩
  cases rr with
  | ex c => exact h v σ H1 p
  | d x => exact h v σ H1 p
  | fr o => exact h v σ H1 p
theorem tX_cla {i : Nat} {e : Ex} (h : tX K G (exOf mg W) (.cla i e) D σ H) : tAsg (tDX K mg W G e) (gName i) D σ H := by
  obtain ⟨A, as, f, R, h⟩ := h
  unfold xS at h
  obtain ⟨⟨rr, f1⟩, e1, h⟩ := Out.of_bad h
  refine ⟨A, as, f, rr, f1, R, e1, fun v H1 p => ?_⟩
  cases rr with
  | ex c => exact h v σ H1 p
  | d x =>
    obtain ⟨f2, e2, h⟩ := ofOpt_out (show OutOk K A as f σ H D _ (Out.of (ofOpt (bindN f1 i (.d x))) .nx) from h)
    exact h _ _ (bindN_ok p e2)
  | fr o =>
    obtain ⟨f2, e2, h⟩ := ofOpt_out (show OutOk K A as f σ H D _ (Out.of (ofOpt (bindN f1 i (.fr o))) .nx) from h)
    exact h _ _ (bindN_ok p e2)
theorem tX_clt {ts : List Tg} {e : Ex} (h : tX K G (exOf mg W) (.clt ts e) D σ H) : tAsg (tDX K mg W G e) (tG K (.tup ts)) D σ H := by
  obtain ⟨A, as, f, R, h⟩ := h
  unfold xS at h
  obtain ⟨⟨rr, f1⟩, e1, h⟩ := Out.of_bad h
  refine ⟨A, as, f, rr, f1, R, e1, fun v H1 p => ?_⟩
  cases rr with
  | ex c => exact h v σ H1 p
  | d x =>
    obtain ⟨ρ1, e3, h⟩ := ofOpt_out (show OutOk K A as f σ H D _ (Out.of (ofOpt (bindT (.tup ts) x f1.ρ)) fun ρ1 => .nx { f1 with ρ := ρ1 }) from h)
    have hx : norm x = x := by
      cases x with
      | dict kvs => unfold bindT at e3; cases e3
      | _ => rfl
    obtain ⟨pn, rd⟩ := Post.kept (y := x) (f'' := f1) p (congrArg (fun z => some (z, f1)) hx)
    exact ⟨A, as, f1, x, ρ1, pn.1, rd, e3, fun σ' bp => h _ _ (SPost.trans pn bp.sp)⟩
  | fr o =>
    obtain ⟨ρ1, e3, h⟩ := ofOpt_out (show OutOk K A as f σ H D _ (Out.of (ofOpt (bindT (.tup ts) o.d f1.ρ)) fun ρ1 => .nx { f1 with ρ := ρ1 }) from h)
    obtain ⟨pn, rd⟩ := Post.kept (y := o.d) (f'' := f1) p rfl
    exact ⟨A, as, f1, o.d, ρ1, pn.1, rd, e3, fun σ' bp => h _ _ (SPost.trans pn bp.sp)⟩
theorem OutOk.noEx {o : Out} (h : OutOk K A as f σ H D E (noEx o)) : OutOk K A as f σ H D (exOf mg noW) o := by
  cases o with
  | rt r g =>
    cases r with
    | ex c => exact h.elim
    | d x => exact h
    | fr x => exact h
  | nx g => exact h
  | bk g => exact h
  | ct g => exact h
  | bad => exact h
theorem tX_try {b h' : List Sm} {cs all : List Str} {c : Value} (h : tX K G (exOf mg W) (.trys b cs all h') D σ H) (hx : ∀ y cls, all.contains y = true → mg y = some cls → PySem.W.exmOne K cls c = some (cs.contains y)) :
    tXs K G (exOf mg (wOnly K c (fun _ _ _ => tXs K G (exOf mg noW) h') W D)) b D σ H := by
  obtain ⟨A, as, f, R, h⟩ := h
  unfold xS at h
  refine ⟨A, as, f, R, ?_⟩
  cases q : xSs G b f with
  | nx g => rw [q] at h; exact h
  | bk g => rw [q] at h; exact h
  | ct g => rw [q] at h; exact h
  | bad => rw [q] at h; exact h
  | rt r g =>
    rw [q] at h
    cases r with
    | d x => exact h
    | fr o => exact h
    | ex y =>
      unfold kTry at h
      dsimp only at h
      split at h
      · rename_i ha
        split at h
        · rename_i hc
          intro v σ' H' p cls hm
          refine ⟨true, by rw [hx y cls ha hm, hc], fun _ a _ => ?_, fun z => by cases z⟩
          exact ⟨A, as, g, p.sp.1, OutOk.pre p.sp h.noEx⟩
        · rename_i hc
          intro v σ' H' p cls hm
          refine ⟨false, (by rw [hx y cls ha hm]; simpa using hc), (fun z => by cases z), fun _ => h v σ' H' p cls hm⟩
      · exact h.elim
end
/-- X() -/
theorem pmk_own0 {X : Cx} {C : Addr} {bmB : List Value} {B newId initId : String} {x : Str} {p pos : Pos} (F : ExcBaseFacts B newId initId bmB) (q : PySem.W.excIn X.K C bmB newId = true) (gC : X.mg x = some (.ref C)) (kC : PySem.W.keepIn X.K (.ref C) = true) (r : Raises X (.ref C)) (hg : Gl X x)
    (hdb : (x == ("__debug__" : Str)) = false) : PMk X (.Call (.Name x p) [] [] pos) (fun _ H Q => Q (.ref C) none H) := by
  intro pins s σ H Q I h
  refine wpAny_Call_Name_kw (ld_glob I hg gC ?_ hdb)
  refine PySem.W.callWith_K0 I.kIn kC ?_
  show wpAny _ _ (call (.ref C) []) _ _ _
  obtain ⟨bm, N, nm, qn, bs, hdct, sn, sub, ab, col, dd, k0, k1, k2, k3, k5, mN, hC, hN, hni, T⟩ := exc_obj I.kIn q
  refine wpAny_call_exc_subT F T hC hN hni (fun h' e hm => ?_) (by show 0 ≤ sizeLine; omega)
  exact mk_of I hm r h (I.hok.gone hm.new)
/-! ### what a clause's suite may be -/
section
variable {X : Cx} {G : Call} {E : Str → L2.St → Hp → Prop}
theorem pe_k {c : Const} {k : _} {pos : Pos} {d : D} (h : constD c = some d) : PE X (.Constant c k pos) (tD X.K G (.k d)) := by
  cases c <;> try (cases h; done)
  case none => cases h; exact PE.imp pe_non fun σ H Q q => tD_k q fun _ _ => rd_none
  case bool b => cases h; exact PE.imp pe_bl fun σ H Q q => tD_k q fun _ _ => rd_bool
  case int i => cases h; exact PE.imp pe_int fun σ H Q q => tD_k q fun _ _ => rd_int
  case str s => cases h; exact PE.imp pe_str fun σ H Q q => tD_k q fun _ _ => rd_str
theorem kE_ok {e : Expr} {a : Ex} (h : kE e = some a) : PE X e (tD X.K G a) ∧ ∀ (es : List Expr) (env : Env), starEach (e :: es) env = (false, eval e env) :: starEach es env := by
  cases e <;> try (cases h; done)
  case Constant c k pos =>
    obtain ⟨d, h1, rfl⟩ := omap (show (constD c).map Ex.k = some a from h)
    exact ⟨pe_k h1, fun _ _ => rfl⟩
theorem pa_kE : ∀ {es : List Expr} {l : List Ex}, mapO kE es = some l → PA X es (tDs X.K G l)
  | [], _, h => by cases h; exact PA.imp pa_nil fun σ H Q q => tDs_nil q
  | e :: es, _, h => by
    obtain ⟨b, t, h1, h2, rfl⟩ := mapO_cons h
    obtain ⟨q1, q2⟩ := kE_ok (X := X) (G := G) h1
    exact PA.imp (pa_cons q1 (pa_kE h2) (q2 es X.env)) fun σ H Q q => tDs_cons q
theorem hd_one {e : Expr} {a : Ex} {pos : Pos} (h : PE X e (tD X.K G a)) : PSs X [.Return (some e) pos] (tXs X.K G E [.ret a]) :=
  PSs.imp (pss_cons (PS.imp (ps_ret h) fun D σ H q => tX_ret q) (PSs.imp pss_nil fun D σ H q => tXs_nil q)) fun D σ H q => tXs_cons q
theorem hd_ok {l : List Stmt} {ir : List Sm} (h : hdC l = some ir) : PSs X l (tXs X.K G E ir) := by
  unfold hdC at h
  split at h
  · obtain ⟨d, h1, rfl⟩ := omap h
    exact hd_one (pe_k h1)
  · obtain ⟨d, h1, rfl⟩ := omap h
    exact hd_one (PE.imp (pe_tup (pa_kE h1)) fun σ H Q q => tD_tup q)
  · cases h
end
end Vm
set_option maxRecDepth 100000
set_option maxHeartbeats 1000000
namespace Vm
open PySem PySem.Spec L2
/-- what is known of the exception classes -/
structure XsOk (Γ : Gam) (K : PySem.W.Frag) (mg : Str → Option Value) : Prop where
  xs : ∀ c, Γ.xs.contains c = true → ∃ C, mg c = some (.ref C) ∧ PySem.W.excIn K C bmVE "ValueError.__new__" = true ∧ PySem.W.keepIn K (.ref C) = true ∧ PySem.W.subIn K (.ref C) (.type "BaseException") = some true ∧ PySem.W.typeIn K (.ref C) = some (.type "type")
  xc : ∀ c, Γ.xc.contains c = true → ∃ C, mg c = some (.ref C) ∧ ∀ y cls, Γ.xs.contains y = true → mg y = some cls → PySem.W.exmOne K cls (.ref C) = some ((Γ.mt c).contains y)
  lc : Γ.lc = true → mg "lcm" = some (.builtin "math.lcm")
structure SOk (Γ : Gam) (G : Call) (m : Nat) (X : Cx) (W : WX) : Prop where
  x : XOk Γ G m X
  hp : PassesOwn (model X.prog X.w) X.A X.env X.xe
  kd : X.env.scope.kind = .function
  tk : Takes X W
  hs : X.stack = X.env :: X.outer
  hf : X.env.frame = some X.env.locals
  xo : XsOk Γ X.K X.mg
def gNms : List Nat → TGs
  | [] => gNil
  | i :: is => gCons (gName i) (gNms is)
theorem gNms_ok {H : Hp} {Q : L2.St → Hp → Prop} : ∀ {is : List Nat} {vs : List V} {σ : L2.St}, vs.length = is.length → Q (setL σ is vs) H → gNms is vs σ H Q
  | [], [], _, _, h => ⟨rfl, h⟩
  | [], _ :: _, _, l, _ => by cases l
  | _ :: _, [], _, l, _ => by cases l
  | i :: is, v :: vs, σ, l, h => ⟨v, vs, rfl, gNms_ok (by simpa using l) h⟩
section
variable {X : Cx} {Γ : Gam} {G : Call} {m : Nat} {W : WX}
theorem pgs_nms (C : XOk Γ G m X) : ∀ {ts : List Expr} {is : List Nat}, mapO (nmIx Γ) ts = some is → PGs X ts (gNms is)
  | [], _, h => by cases h; exact pgs_nil
  | t :: ts, _, h => by
    obtain ⟨i, r, h1, h2, rfl⟩ := mapO_cons h
    exact pgs_cons (pg_nm C h1) (pgs_nms C h2) (by rw [nm_star h1 ts X.env]; rfl)
theorem nms_nostar : ∀ {ts : List Expr} {is : List Nat} {env : Env}, mapO (nmIx Γ) ts = some is → (assignEach ts env).findIdx? (·.1) = none
  | [], _, _, _ => rfl
  | t :: ts, _, env, h => by
    obtain ⟨i, r, h1, h2, rfl⟩ := mapO_cons h
    rw [nm_star h1, List.findIdx?_cons, nms_nostar h2]; rfl
theorem bk_ok (S : SOk Γ G m X W) : (X.env.blockKind != .function) = false := by
  unfold Env.blockKind
  rw [S.kd]
  rfl
theorem s_par (S : SOk Γ G m X W) {n : Nat} {ts es : List Expr} {is : List Nat} {es' : List Ex} {k k2 : _} {p p2 pos : Pos} (h1 : mapO (nmIx Γ) ts = some is) (h2 : mapO (comp n Γ) es = some es') (h3 : es.any starE = false) (h4 : es.length = ts.length) (h5 : es.length ≤ 3)
    (h6 : parRt Γ ts es ≠ 0) (hnd : is.Nodup) : PS X (.Assign [.Tuple ts k p] (.Tuple es k2 p2) pos) (tX X.K G (exOf X.mg W) (.par is es')) := by
  have C := S.x
  have ih := exprs G m n Γ X C
  have hsw := sw_swap (ts := ts) (vs := es) (k := k) (k2 := k2) (p := p) (p2 := p2) (env := X.env) ((stE_eq es).trans h3)
  have hE : swE X.env (lnE ts) = swN Γ (lnE ts) := funext fun e => swE_eq C _ e
  rw [hE] at hsw
  have l1 := mapO_len h1
  have l2 := mapO_len h2
  have hlen : (es.length != ts.length) = false := by simp [h4]
  unfold parRt at h6
  split at h6
  · rename_i hf
    split at h6
    · rename_i hc
      obtain ⟨c1, c2, c3, c4⟩ := hc
      have hw : swappedStores [.Tuple ts k p] (.Tuple es k2 p2) X.env = pure (some (ts.filterMap (swN Γ (lnE ts)))) := by
        rw [hsw, c1, hlen, bk_ok S, hf, c2, c3, c4]
        simp
      -- the names, one by one
      have hnm : ∀ {t : Expr} {r : List Expr} {line : Nat}, ((t :: r).filterMap (swN Γ line)).length = (t :: r).length → ∃ x q, t = .Name x q ∧ X.env.scope.names.lookup x = some .local ∧ (t :: r).filterMap (swN Γ line) = x :: r.filterMap (swN Γ line) ∧ (r.filterMap (swN Γ line)).length = r.length := fun {t r line} h => by
        rw [List.filterMap_cons] at h ⊢
        cases q : swN Γ line t with
        | none =>
          rw [q] at h
          have := List.length_filterMap_le (swN Γ line) r
          simp at h
          omega
        | some x =>
          rw [q] at h
          unfold swN at q
          split at q
          · rename_i x' q'
            split at q
            · rename_i hq
              cases q
              simp only [Bool.and_eq_true] at hq
              refine ⟨x, q', rfl, ?_, rfl, by simpa using h⟩
              rw [C.sc]
              have := hq.1
              unfold Gam.loc at this
              split at this
              · assumption
              · cases this
            · cases q
          · cases q
      match ts, es, is, h1, hf, c1, hw, h4, hnd, h2 with
      | [t1, t2], [a, b], is, h1, hf, c1, hw, _, hnd, h2 =>
        obtain ⟨x, q1, rfl, g1, e1, hf1⟩ := hnm hf
        obtain ⟨y, q2, rfl, g2, e2, _⟩ := hnm hf1
        rw [e1, e2] at hw
        obtain ⟨i, r, m1, m2, rfl⟩ := mapO_cons h1
        obtain ⟨j, r, m3, m4, rfl⟩ := mapO_cons m2
        cases m4
        obtain ⟨x', _, z1, n1, _⟩ := nmIx_ok C m1
        cases z1
        obtain ⟨y', _, z2, n2, _⟩ := nmIx_ok C m3
        cases z2
        have hij : i ≠ j := by simpa using hnd
        refine PS.imp (ps_par C.calm C.nd n1 n2 hij g1 g2 (comps_pa ih.pe h2) hw) fun D σ H q => ?_
        exact tDs.mono (tX_par q) fun vs H1 ⟨lv, q1, _⟩ => by
          match vs, lv with
          | [v, w], _ => exact ⟨v, w, rfl, q1⟩
          | [], lv => rw [l2] at lv; cases lv
          | [_], lv => rw [l2] at lv; simp at lv
          | _ :: _ :: _ :: _, lv => rw [l2] at lv; simp at lv
      | [t1, t2, t3], [a, b, c], is, h1, hf, c1, hw, _, hnd, h2 =>
        obtain ⟨x, q1, rfl, g1, e1, hf1⟩ := hnm hf
        obtain ⟨y, q2, rfl, g2, e2, hf2⟩ := hnm hf1
        obtain ⟨z, q3, rfl, g3, e3, _⟩ := hnm hf2
        rw [e1, e2, e3] at hw
        obtain ⟨i, r, m1, m2, rfl⟩ := mapO_cons h1
        obtain ⟨j, r, m3, m4, rfl⟩ := mapO_cons m2
        obtain ⟨l, r, m5, m6, rfl⟩ := mapO_cons m4
        cases m6
        obtain ⟨x', _, z1, n1, _⟩ := nmIx_ok C m1
        cases z1
        obtain ⟨y', _, z2, n2, _⟩ := nmIx_ok C m3
        cases z2
        obtain ⟨z', _, z3, n3, _⟩ := nmIx_ok C m5
        cases z3
        have nd : (¬ i = j ∧ ¬ i = l) ∧ ¬ j = l := by simpa using hnd
        refine PS.imp (ps_par3 C.calm C.nd n1 n2 n3 nd.1.1 nd.1.2 nd.2 g1 g2 g3 (comps_pa ih.pe h2) hw) fun D σ H q => ?_
        exact tDs.mono (tX_par q) fun vs H1 ⟨lv, q1, _⟩ => by
          match vs, lv with
          | [u, v, w], _ => exact ⟨u, v, w, rfl, q1⟩
          | [], lv => rw [l2] at lv; cases lv
          | [_], lv => rw [l2] at lv; simp at lv
          | [_, _], lv => rw [l2] at lv; simp at lv
          | _ :: _ :: _ :: _ :: _, lv => rw [l2] at lv; simp at lv
    · exact absurd rfl h6
  · rename_i hf
    have hw : swappedStores [.Tuple ts k p] (.Tuple es k2 p2) X.env = pure none := by
      rw [hsw]
      split
      · rfl
      · have : ((ts.filterMap (swN Γ (lnE ts))).length != ts.length) = true := by simpa using hf
        rw [this]; rfl
    refine PS.imp (ps_asg (pe_tup (comps_pa ih.pe h2)) (pg_tup (n := ts.length) C.calm (pgs_nms C h1) (assignEach_len ts _) (nms_nostar h1)) sw_tup hw) fun D σ H q => ?_
    refine tDs.mono (tX_par q) fun vs H1 ⟨lv, _, q2⟩ => ⟨by rw [sizeLine_eq]; omega, fun b hb => ?_⟩
    exact ⟨b, vs, rfl, .inl (.inl upd_same), by omega, gNms_ok (by omega) (q2 b hb)⟩
end
end Vm
set_option maxRecDepth 100000
set_option maxHeartbeats 1000000
/-! a token is out behind a statement -/
namespace VmR
open PySem PySem.Spec L2 PyProof.Rows
/-- behind m a token is out -/
def Gv {α : Type} (M : Model) (m : Sem α) : Prop := ∀ (Γ : PySem.Ctx) (Q : α → Pos → Shared → Prop) (E : Value → Pos → Shared → Prop) (p : Pos) (s : Shared), Sem.wp M Γ m Q E p s → Sem.wp M Γ m (fun a p' s' => 1 ≤ s'.toks ∧ Q a p' s') E p s
section
variable {M : Model} {α β : Type} {env : Env}
theorem on {m : Sem α} {Γ : PySem.Ctx} {Q : α → Pos → Shared → Prop} {E : Value → Pos → Shared → Prop} {p : Pos} {s : Shared} (hn : 1 ≤ s.toks) (h : Sem.wp M Γ m Q E p s) : Sem.wp M Γ m (fun a p' s' => 1 ≤ s'.toks ∧ Q a p' s') E p s :=
  Sem.wp_mono M Γ m (fun _ _ _ h => h) (fun _ _ _ h => h.2) p s (Sem.wp_toks M Γ 1 m Q E p s hn h)
theorem Gv.left {m : Sem α} {f : α → Sem β} (h : Gv M m) : Gv M (m >>= f) := by
  intro Γ Q E p s q
  rw [Sem.wp_bind'] at q ⊢
  exact Sem.wp_mono M Γ m (fun a p1 s1 z => on z.1 z.2) (fun _ _ _ h => h) p s (h Γ _ _ p s q)
theorem Gv.right {m : Sem α} {f : α → Sem β} (h : ∀ a, Gv M (f a)) : Gv M (m >>= f) := by
  intro Γ Q E p s q
  rw [Sem.wp_bind'] at q ⊢
  exact Sem.wp_mono M Γ m (fun a p1 s1 z => h a Γ _ _ p1 s1 z) (fun _ _ _ h => h) p s q
theorem gv_const {i : Int} {k : _} {pos : Pos} : Gv M (eval (.Constant (.int i) k pos) env) := by
  intro Γ Q E p s q
  have q2 : Q (.int i s.toks) p { s with toks := s.toks + 1 } := q
  exact (⟨by show 1 ≤ s.toks + 1; omega, q2⟩ : 1 ≤ s.toks + 1 ∧ Q (.int i s.toks) p { s with toks := s.toks + 1 })
theorem gv_hold {vs : List Value} {m : Sem α} (h : Gv M m) : Gv M (holding vs m) := by
  intro Γ Q E p s q
  rw [Sem.wp_holding] at q ⊢
  exact h Γ Q E p s q
theorem gv_cmp {l : Expr} {op : CmpOp} {i : Int} {k : _} {cp pos : Pos} {whole : Sem Value} (hm : behindInMarks op (.Constant (.int i) k cp) = false) : Gv M (isTrue (.Compare l [op] [.Constant (.int i) k cp] pos) env whole) := by
  rw [isTrue_Compare1]
  refine Gv.right fun a => Gv.left (gv_hold ?_)
  rw [markedBehindIn_of_false hm]
  exact gv_const
theorem gv_and {x : Expr} {rest : List Expr} {pos : Pos} {whole : Sem Value} (h : Gv M (isTrue x env (eval x env))) : Gv M (isTrue (.BoolOp .And (x :: rest) pos) env whole) := by
  rw [arm_isTrue_BoolOp]
  show Gv M (do match BoolOp.And, ← isTrue x env (eval x env) with | .And, false => pure false | .Or, true => pure true | _, _ => allTrue .And rest env)
  exact Gv.left h
theorem gv_ife {t a b : Expr} {pos : Pos} (h : Gv M (isTrue t env (eval t env))) : Gv M (eval (.IfExp t a b pos) env) := by
  rw [arm_eval_IfExp]
  exact Gv.left h
theorem gv_asg {x : Str} {e : Expr} {pos' pos : Pos} (hs : swapsWith e (some (.Name x pos')) pos.line env = pure false) (h : Gv M (eval e env)) : Gv M (exec (.Assign [.Name x pos'] e pos) env) := by
  rw [exec_Assign_Name env x pos' e pos hs]
  exact Gv.right fun _ => Gv.left h
end
section
variable {X : Cx} {st : Stmt} {rest : List Stmt} {t u : TS}
/-- a statement behind which a token is out -/
theorem pss_gv (h1 : PS X st t) (g : Gv (model X.prog X.w) (exec st X.env)) (h2 : PSsT X rest u) : PSs X (st :: rest) (tSeq t u) := by
  refine ⟨fun pins s σ H D I h => ?_⟩
  have w := h1.run pins s σ H { D with nx := u D } I h
  have w2 : wpAny (model X.prog X.w) X.A (exec st X.env) (fun f s1 => 1 ≤ s1.toks ∧ SP X pins { D with nx := u D } f s1) X.xe s := fun Γ p hΓ => g Γ _ _ p s (w Γ p hΓ)
  refine wpAny_execs_cons (wpAny_mono w2 (fun f s1 q => ?_) fun _ _ x => x)
  obtain ⟨hk, q⟩ := q
  cases f with
  | next =>
    obtain ⟨σ', H', I', q⟩ := q
    exact h2 pins s1 σ' H' D hk I' q
  | ret v => exact q
  | brk => exact q
  | cont => exact q
end
end VmR
namespace Vm
open PySem PySem.Spec L2 PyProof.Rows CwR
section
variable {X : Cx} {Γ : Gam} {G : Call} {m : Nat} {W : WX} {D : Ends} {σ : L2.St} {H : Hp}
theorem PET.imp {e : Expr} {t t' : TE} (h : PET X e t) (i : ∀ σ H Q, t' σ H Q → t σ H Q) : PET X e t' := fun pins s σ H Q h0 I q => h pins s σ H Q h0 I (i σ H Q q)
theorem PAT.imp {e : List Expr} {t t' : TA} (h : PAT X e t) (i : ∀ σ H Q, t' σ H Q → t σ H Q) : PAT X e t' := fun pos pins s σ H Q h0 I q => h pos pins s σ H Q h0 I (i σ H Q q)
theorem PST.imp {s : Stmt} {t t' : TS} (h : PST X s t) (i : ∀ D σ H, t' D σ H → t D σ H) : PST X s t' := fun pins s σ H D h0 I q => h pins s σ H D h0 I (i D σ H q)
theorem pet_andT {a b : Expr} {rest : List Expr} {ta tb : TE} {pos : Pos} (ha : PET X a ta) (hb : PE X (.BoolOp .And (b :: rest) pos) tb) : PET X (.BoolOp .And (a :: b :: rest) pos) (tAndT X.K ta tb) := by
  intro pins s σ H Q h0 I h
  refine BoolOp_and (thn (ha pins s σ H _ h0 I h) fun v s1 ⟨x, H1, I1, r1, q1⟩ => ?_)
  obtain ⟨k, e, q1⟩ := q1
  refine thn (tru_ok pins s1 σ H1 x v (fun c H2 => c = k ∧ H2 = H1) I1 r1 ⟨k, e, rfl, rfl⟩) fun c s2 hc => ?_
  obtain ⟨H2, I2, e1, e2⟩ := hc
  rw [e2] at I2
  rw [← e1] at q1
  cases c with
  | true => exact hb.run pins s2 σ H1 Q I2 q1
  | false => exact ⟨x, H1, I2, r1, q1⟩
theorem pet_callG {k : Nat} {f : Addr} {fd : FuncData} {ps : List Str} {sp : SpG} {x : Str} {p pos : Pos} {e : Expr} {es : List Expr} {t : TA} (G : FnG X.prog X.w X.K X.mg X.base k f fd ps sp) (hr : Room k X.A) (hgd : X.A.guards = some []) (hg : Gl X x) (hm : X.mg x = some (.ref f)) (hk : PySem.W.keepIn X.K (.ref f) = true)
    (hb : ∀ us : List Value, us.length = ps.length → bindArgs fd ⟨us, []⟩ = pure (ps.zip us)) (ha : PAT X (e :: es) t) (hdb : (x == ("__debug__" : Str)) = false)
    (he : starEach (e :: es) X.env = (false, eval e X.env) :: starEach es X.env) (hpl : (backTo pos (starEach es X.env)).any (·.1) = false) : PET X (.Call (.Name x p) (e :: es) [] pos) (tCallG sp t) := by
  intro pins s σ H Q h0 I h
  apply wpAny_Call_Name_kw
  apply ld_glob I hg hm _ hdb
  refine PySem.W.callWith_K (h₀ := X.base) I.ok.mod.kin hk (thn (ha pos pins s σ H _ h0 I h) ?_) he hpl
  rintro us s1 ⟨vs, H1, I1, r, q⟩
  exact ⟨I1.kIn, run_g G hr hgd (fun hl => .of_eq (hb us hl)) I1 r q⟩
theorem tD_repl {K : PySem.W.Frag} {y z : Str} {e : Ex} {Q : VK} (h : tD K G (.op (.repl y z) [e]) σ H Q) : tReplC (tD K G e) y z σ H Q := by
  obtain ⟨A, as, f, rv, f', R, he, hQ⟩ := tDs_cons (tD_op h)
  refine ⟨A, as, f, rv, f', R, he, fun v H1 p => ?_⟩
  have q := tDs_nil (hQ v H1 p)
  obtain ⟨L, ys, rr, rd, e, q⟩ := (show _ from q)
  obtain ⟨v1, w1, rfl, r1, rd⟩ := rd1sc rd
  obtain rfl : w1 = [] := by
    cases w1 with
    | nil => rfl
    | cons a r => obtain ⟨_, _, e2, _⟩ := rd; cases e2
  cases v1 with
  | str x =>
    have hx := r1.s
    subst hx
    have e : (if x.length + (x.length + 1) * z.length ≤ 16777216 then some (RR.d (.str (Txt.replace x y z))) else none) = some rr := e
    split at e
    · rename_i hl
      cases e
      exact ⟨x, rfl, hl, q _ _ (rd1_opt (show Rd K L H1 (.str _) (.str _) from rfl))⟩
    · cases e
  | _ => cases e
theorem strK_ok {e : Expr} {y : Str} (h : strK e = some y) : ∃ k p, e = .Constant (.str y) k p := by
  unfold strK at h
  split at h
  · cases h; exact ⟨_, _, rfl⟩
  · cases h
theorem pet_rep {n : Nat} (C : XOk Γ G m X) (ih : IH Γ G X n) {r : Expr} {a : Ex} (h : repArg (comp n Γ) r = some a) : PET X r (tD X.K G a) ∧ starEach [r] X.env = (false, eval r X.env) :: starEach [] X.env := by
  unfold repArg at h
  split at h
  · rename_i x xp nm ap c1 c2 cp
    split at h
    · rename_i hc
      obtain ⟨hnm, hp⟩ := hc
      subst hnm
      obtain ⟨y, h1, g1⟩ := obind h
      obtain ⟨z, h2, g2⟩ := obind g1
      clear h g1
      obtain ⟨_, _, rfl⟩ := strK_ok h1
      obtain ⟨_, _, rfl⟩ := strK_ok h2
      split at g2
      · rename_i hyz
        obtain ⟨e, h3, rfl⟩ := omap g2
        exact ⟨PET.imp (pet_replC (ih _ e h3).e hyz rfl (base_ok rfl) hp) fun σ H Q q => tD_repl q, rfl⟩
      · cases g2
    · cases h
  · cases h
theorem pet_repC {n : Nat} (C : XOk Γ G m X) (ih : IH Γ G X n) {c : Expr} {a : Ex} (h : repCall (comp n Γ) Γ c = some a) : PET X c (tD X.K G a) := by
  unfold repCall at h
  split at h
  · rename_i f fp r cp
    split at h
    · rename_i hc
      obtain ⟨ok, hg, hkw⟩ := hc
      obtain ⟨⟨i, ps⟩, h1, h⟩ := obind h
      split at h
      · rename_i hl
        obtain ⟨b, h2, rfl⟩ := omap h
        obtain ⟨o1, o2, o3⟩ := okName_ne ok
        obtain ⟨g, fd, q1, q2, q3, _, q4⟩ := C.df f i ps h1
        obtain ⟨pr, st⟩ := pet_rep C ih h2
        have pa : PAT X [r] (tDs X.K G [b]) := PAT.imp (pat_cons (ta := tNil) pr pat_nil st) fun σ H Q q => by
          obtain ⟨A, as, f, rv, f', R, he, hQ⟩ := tDs_cons q
          exact ⟨A, as, f, rv, f', R, he, fun v H1 p => tDs_nil (hQ v H1 p)⟩
        exact PET.imp (pet_callG q4 C.room C.gd (gl_of C hg) q1 q2 (q3 hkw) pa o1 st rfl) fun σ H Q q => tCall_of (by simpa using hl.symm) q
      · cases h
    · cases h
  · cases h
theorem pst_rep {n : Nat} (C : XOk Γ G m X) (ih : IH Γ G X n) {e : Expr} {a : Ex} {pos : Pos} (h : retRep (comp n Γ) Γ e = some a) : PST X (.Return (some e) pos) (tRet (tD X.K G a)) := by
  unfold retRep at h
  split at h
  · rename_i c e2 bp
    obtain ⟨c', h1, h⟩ := obind h
    obtain ⟨e', h2, rfl⟩ := omap h
    have pe : PET X (.BoolOp .And [c, e2] bp) (tD X.K G (.and c' e')) := PET.imp (pet_andT (pet_repC C ih h1) (pe_one (ih _ e' h2).e)) fun σ H Q q => tD_and q
    exact pst_ret pe
  · cases h
theorem gv_stmt {K : Model} {s : Stmt} {env : Env} (h : gvB s = true) : VmR.Gv K (exec s env) := by
  unfold gvB at h
  split at h
  · exact VmR.gv_asg rfl (VmR.gv_ife (VmR.gv_and (VmR.gv_cmp rfl)))
  · cases h
theorem ss_rep {n : Nat} (S : SOk Γ G m X W) {s : Stmt} {ss : List Stmt} {a : Sm} {l : List Sm} (ih : ∀ ir, cS n Γ s = some ir → PS X s (tX X.K G (exOf X.mg W) ir)) (h1 : cS n Γ s = some a) (h2 : repR (comp n Γ) Γ s ss = some l) : PSs X (s :: ss) (tXs X.K G (exOf X.mg W) (a :: l)) := by
  have C := S.x
  have ihe := exprs G m n Γ X C
  unfold repR at h2
  split at h2
  · rename_i e pos
    split at h2
    · rename_i hg
      obtain ⟨e', h3, rfl⟩ := omap h2
      have tl : PSsT X [.Return (some e) pos] (tXs X.K G (exOf X.mg W) [.ret e']) := fun pins s σ H D h0 I q => psst_one (pst_rep (pos := pos) C ihe h3) pins s σ H D h0 I (show tRet (tD X.K G e') { D with nx := tXs X.K G (exOf X.mg W) [] D } σ H from tX_ret (show tX X.K G (exOf X.mg W) (.ret e') { D with nx := tXs X.K G (exOf X.mg W) [] D } σ H from tXs_cons q))
      exact PSs.imp (VmR.pss_gv (ih a h1) (gv_stmt hg) tl) fun D σ H q => tXs_cons q
    · cases h2
  · cases h2
end
end Vm
set_option maxRecDepth 100000
set_option maxHeartbeats 1000000
namespace Vm
open PySem PySem.Spec L2
section
variable {X : Cx} {Γ : Gam} {G : Call} {m : Nat} {W : WX}
theorem plainS {e : Expr} {t : Expr} {l : Nat} {env : Env} (h : dropOk e = true) : swapsWith e (some t) l env = pure false := by
  cases e <;> first | rfl | cases h
theorem s_set (S : SOk Γ G m X W) {n : Nat} {x : Str} {p pos : Pos} {e : Expr} {i : Nat} {e' : Ex} (h1 : nmIx Γ (.Name x p) = some i) (h2 : comp n Γ e = some e') : PS X (.Assign [.Name x p] e pos) (tX X.K G (exOf X.mg W) (.asg (.name i) e')) := by
  have C := S.x
  obtain ⟨x', p', z, n1, hx, hf, ok⟩ := nmIx_ok C h1
  cases z
  have ih := exprs G m n Γ X C
  have gen : swapsWith e (some (.Name x p)) pos.line X.env = pure false → PS X (.Assign [.Name x p] e pos) (tX X.K G (exOf X.mg W) (.asg (.name i) e')) := fun hs =>
    PS.imp (ps_set C.nd n1 hx (ih e e' h2).e hs hf) fun D σ H q => tX_asg q
  by_cases hl : dropOk e = true
  · exact gen (plainS hl)
  · cases n with
    | zero => cases h2
    | succ n =>
      cases e <;> try (exact absurd rfl hl)
      case SetComp => exact nope h2
      case DictComp => exact nope h2
      case ListComp elt gs scope epos =>
        have hsw : swapsWith (.ListComp elt gs scope epos) (some (.Name x p)) pos.line X.env = pure (X.env.blockKind == .function && X.env.kindOf x == some .local && p.line == epos.line && !(scope.names.any fun (n, k) => n == x && (k == .local || k == .cell))) := rfl
        cases hb : (X.env.blockKind == .function && X.env.kindOf x == some .local && p.line == epos.line && !(scope.names.any fun (n, k) => n == x && (k == .local || k == .cell))) with
        | false => rw [hb] at hsw; exact gen hsw
        | true =>
          rw [hb] at hsw
          have hloc : X.env.scope.names.lookup x = some .local := by
            simp only [Bool.and_eq_true] at hb
            have := hb.1.1.2
            exact eq_of_beq (show (X.env.scope.names.lookup x == some .local) = true from this)
          match gs, h2, hsw with
          | [], h2, _ => exact nope h2
          | ⟨_, _, _, _⟩ :: ⟨_, _, _, _⟩ :: _ :: _, h2, _ => exact nope h2
          | [⟨tg, iter, ifs, a⟩, ⟨tg1, iter1, ifs1, a1⟩], h2, hsw =>
            have h2 : (if a = 0 ∧ a1 = 0 then _ else none) = some e' := h2
            by_cases ha : a = 0 ∧ a1 = 0
            · obtain ⟨rfl, rfl⟩ := ha
              rw [if_pos ⟨rfl, rfl⟩] at h2
              have ihn := exprs G m n Γ X C
              obtain ⟨own, h0, h⟩ := obind h2
              split at h
              · rename_i hc
                obtain ⟨t, q1, h⟩ := obind h
                obtain ⟨it, q2, h⟩ := obind h
                obtain ⟨ifs', q3, h⟩ := obind h
                obtain ⟨t1, q4, h⟩ := obind h
                obtain ⟨it1, q5, h⟩ := obind h
                obtain ⟨ifs1', q6, h⟩ := obind h
                obtain ⟨el', q7, h⟩ := obind h
                split at h
                · rename_i hs
                  cases h
                  have okb : BlkOk X.N X.env.scope scope own := by rw [C.N, C.sc]; exact blkOk_by hc.1
                  have hT : ∀ {tg : Expr}, isTupE tg = true → ∃ es k p, tg = .Tuple es k p := fun h => by
                    unfold isTupE at h
                    split at h
                    · exact ⟨_, _, _, rfl⟩
                    · cases h
                  have hv : ∀ i ∈ tgI t1, i ∈ own.map (·.2) := fun i hi => by have := List.all_eq_true.mp hs i hi; simpa using this
                  have ihB := fun s H c cl fp => exprs G m n _ _ (C.blk scope s H c cl fp)
                  refine PS.imp (ps_setLc2 (wi := tI X.K G it) (g := tG X.K t) (tt := tTs X.K G ifs') (wi1 := tI X.K G it1) (g1 := tG X.K t1) (tt1 := tTs X.K G ifs1') (te := tD X.K G el') C.calm C.nd n1 hloc hsw (pi_it C ihn hT q2) okb hv
                    (fun s H c cl fp => pg_tg (Γ := Γ.blk scope) (C.blk scope s H c cl fp).N (C.blk scope s H c cl fp).nd (C.blk scope s H c cl fp).sc (C.blk scope s H c cl fp).calm (C.blk scope s H c cl fp).fn tg t q1)
                    (fun s H c cl fp => pts_ok (ihB s H c cl fp) hc.2.1 q3) (fun s H c cl fp => pi_it (C.blk scope s H c cl fp) (ihB s H c cl fp) hT q5)
                    (fun s H c cl fp => pg_tg (Γ := Γ.blk scope) (C.blk scope s H c cl fp).N (C.blk scope s H c cl fp).nd (C.blk scope s H c cl fp).sc (C.blk scope s H c cl fp).calm (C.blk scope s H c cl fp).fn tg1 t1 q4)
                    (fun s H c cl fp => pts_ok (ihB s H c cl fp) hc.2.2 q6) (fun s H c cl fp => (ihB s H c cl fp elt el' q7).e) (fold_no q2) (fold_all q5)) fun D σ H q => ?_
                  exact tD_lc2 (tX_asg q)
                · cases h
              · cases h
            · rw [if_neg ha] at h2
              exact nope h2
          | [⟨tg, iter, ifs, a⟩], h2, hsw =>
            have h2 : (if a = 0 then _ else none) = some e' := h2
            by_cases ha : a = 0
            · subst ha
              rw [if_pos rfl] at h2
              have ihn := exprs G m n Γ X C
              obtain ⟨own, h0, h⟩ := obind h2
              split at h
              · rename_i hc
                obtain ⟨t, q1, h⟩ := obind h
                obtain ⟨it, q2, h⟩ := obind h
                obtain ⟨ifs', q3, h⟩ := obind h
                obtain ⟨el', q4, h⟩ := obind h
                cases h
                have okb : BlkOk X.N X.env.scope scope own := by rw [C.N, C.sc]; exact blkOk_by hc.1
                have hT : isTupE tg = true → ∃ es k p, tg = .Tuple es k p := fun h => by
                  unfold isTupE at h
                  split at h
                  · exact ⟨_, _, _, rfl⟩
                  · cases h
                have ihB := fun s H c cl fp => exprs G m n _ _ (C.blk scope s H c cl fp)
                obtain ⟨wi, w1, w2⟩ := mkLc_ok C ihn (t := t) (ifs := ifs') (e := el') (own := own.map (·.2)) hT q2
                refine PS.imp (ps_setLc (wi := wi) (g := tG X.K t) (tt := tTs X.K G ifs') (te := tD X.K G el') C.calm C.nd n1 hloc hsw w1 okb (fun s H c cl fp => pg_tg (Γ := Γ.blk scope) (C.blk scope s H c cl fp).N (C.blk scope s H c cl fp).nd (C.blk scope s H c cl fp).sc (C.blk scope s H c cl fp).calm (C.blk scope s H c cl fp).fn tg t q1)
                  (fun s H c cl fp => pts_ok (ihB s H c cl fp) hc.2 q3) (fun s H c cl fp => (ihB s H c cl fp elt el' q4).e) (fold_no q2)) fun D σ H q => ?_
                exact w2 _ _ _ (tX_asg q)
              · cases h
            · rw [if_neg ha] at h2
              exact nope h2
theorem mkFor_ok (C : XOk Γ G m X) {n : Nat} (ih : IH Γ G X n) {tg iter : Expr} {it : It} {t : Tg} {b : List Sm} (hT : isTupE tg = true → ∃ es k p, tg = .Tuple es k p) (h : itC Γ (comp n Γ) (isTupE tg) iter = some it) :
    ∃ wi : TI, PI X tg iter wi ∧ ∀ (E : Str → L2.St → Hp → Prop) (D : Ends) σ H, tX X.K G E (Γ.mkFor t it b) D σ H → tFor wi (tG X.K t) (tXs X.K G E b) D σ H := by
  have gen : ∃ wi : TI, PI X tg iter wi ∧ ∀ (E : Str → L2.St → Hp → Prop) (D : Ends) σ H, tX X.K G E (.for t it b) D σ H → tFor wi (tG X.K t) (tXs X.K G E b) D σ H := ⟨_, pi_it C ih hT h, fun E D σ H q => tX_for q⟩
  unfold Gam.mkFor
  split
  · split
    · rename_i j
      exact ⟨_, pi_R (ih iter (.v j) (itC_seq h)).e, fun E D σ H q => tX_fork q⟩
    · exact gen
  · exact gen
theorem tupE_ok {tg : Expr} (h : isTupE tg = true) : ∃ es k p, tg = .Tuple es k p := by
  unfold isTupE at h
  split at h
  · exact ⟨_, _, _, rfl⟩
  · cases h
theorem tup_asg {ts : List Expr} {k : _} {p pos : Pos} {e : Expr} {env : Env} (h1 : ∀ es k p, e ≠ .Tuple es k p) (h2 : ∀ es p, e ≠ .List es p) : swappedStores [.Tuple ts k p] e env = pure none := by
  cases e <;> first | rfl | exact absurd rfl (h1 _ _ _) | exact absurd rfl (h2 _ _)
theorem s_asg (S : SOk Γ G m X W) {n : Nat} {t e : Expr} {pos : Pos} {ir : Sm} (h : asgC Γ (comp n Γ) t e = some ir) : PS X (.Assign [t] e pos) (tX X.K G (exOf X.mg W) ir) := by
  have C := S.x
  have ih := exprs G m n Γ X C
  have hu : X.A.units + 1 < cLine := by have := C.un; omega
  cases t <;> try (exact absurd h (fun z => by cases z))
  case Name x p =>
    obtain ⟨i, h1, h⟩ := obind (show (nmIx Γ (.Name x p)).bind _ = some ir from h)
    obtain ⟨e', h2, rfl⟩ := omap h
    exact s_set S h1 h2
  case Subscript a i p =>
    obtain ⟨a', h1, h⟩ := obind (show (comp n Γ a).bind _ = some ir from h)
    obtain ⟨i', h2, h⟩ := obind h
    obtain ⟨e', h3, h⟩ := obind h
    cases h
    exact PS.imp (ps_asg (ih e e' h3).e (pg_sub' (ih a a' h1).e (ih i i' h2).e (set_any hu) h2) sw_sub rfl) fun D σ H q => tX_sub q
  case Tuple ts k p =>
    replace h : (if isTupE e = true then parC Γ (comp n Γ) ts (itemsE e) else if isLstE e = true then none else tupC Γ (comp n Γ) ts e) = some ir := h
    split at h
    · rename_i ht
      obtain ⟨es, k2, p2, rfl⟩ := tupE_ok ht
      unfold parC itemsE at h
      dsimp only at h
      split at h
      · rename_i hc
        obtain ⟨is, h1, h⟩ := obind h
        obtain ⟨es', h2, h⟩ := obind h
        split at h
        · rename_i hd
          cases h
          exact s_par S h1 h2 hc.1 hc.2.1 hc.2.2 hd.1 hd.2
        · cases h
      · cases h
    · rename_i ht
      split at h
      · cases h
      · rename_i hl
        have hw : swappedStores [.Tuple ts k p] e X.env = pure none := tup_asg (pos := pos) (fun es k2 p2 z => ht (by rw [z]; rfl)) (fun es p2 z => hl (by rw [z]; rfl))
        unfold tupC at h
        split at h
        · rename_i a i p3 b
          obtain ⟨j, h1, h⟩ := obind h
          obtain ⟨a', h2, h⟩ := obind h
          obtain ⟨i', h3, h⟩ := obind h
          obtain ⟨e', h4, h⟩ := obind h
          cases h
          refine PS.imp (ps_asg (ih e e' h4).e (pg_tup (n := 2) C.calm (pgs_cons (pg_sub' (ih a a' h2).e (ih i i' h3).e (set_any hu) h3) (pgs_cons (pg_nm C h1) pgs_nil (by rw [nm_star h1]; rfl)) (by rfl)) (assignEach_len _ _) ?_) sw_tup hw) fun D σ H q => tX_tsub q
          show List.findIdx? (·.1) ((false, _) :: assignEach [b] X.env) = none
          rw [nm_star h1]
          rfl
        · obtain ⟨l, h1, h⟩ := obind h
          obtain ⟨e', h2, rfl⟩ := omap h
          have hg := pg_tg C.N C.nd C.sc C.calm C.fn (.Tuple ts k p) (.tup l) (by show (tgCs Γ ts).map Tg.tup = _; rw [h1]; rfl)
          exact PS.imp (ps_asg (ih e e' h2).e hg sw_tup hw) fun D σ H q => tX_asgT q
theorem ip_ok {op : Operator} {o : Op} (h : augO op = some o) : PIp X op (fun x y H Q => ∃ a b c, x = .int a ∧ y = .int b ∧ augI o a (.int b) = some c ∧ Q (.int c) H) := by
  intro pins s σ H x y v u Q I rx ry ⟨a, b, c, h1, h2, h3, q⟩
  cases op <;> simp only [augO] at h <;> try (cases h; done)
  all_goals cases h
  · cases h3; exact ip_add pins s σ H x y v u Q I rx ry ⟨a, b, h1, h2, q⟩
  · cases h3; exact ip_sub pins s σ H x y v u Q I rx ry ⟨a, b, h1, h2, q⟩
theorem s_aug (S : SOk Γ G m X W) {n : Nat} {x : Str} {p pos : Pos} {op : Operator} {e : Expr} {i : Nat} {o : Op} {e' : Ex} (h1 : nmIx Γ (.Name x p) = some i) (h2 : augO op = some o) (h3 : comp n Γ e = some e') : PS X (.AugAssign (.Name x p) op e pos) (tX X.K G (exOf X.mg W) (.aug i o e')) := by
  have C := S.x
  obtain ⟨x', p', z, n1, hx, hf, ok⟩ := nmIx_ok C h1
  cases z
  exact PS.imp (ps_aug C.nd n1 hx (exprs G m n Γ X C e e' h3).e (ip_ok h2) hf) fun D σ H q => tX_aug q
theorem rz_ok {Γ : Gam} {e : Expr} (h : isRz Γ e = true) : ∃ x p es ks pos, e = .Call (.Name x p) es ks pos ∧ (defOf Γ.defs x 0).isSome = true := by
  unfold isRz at h
  split at h
  · simp only [Bool.and_eq_true] at h
    exact ⟨_, _, _, _, _, rfl, h.2⟩
  · cases h
/-- a call that may let an exception out -/
theorem e_rz (S : SOk Γ G m X W) : ∀ {n : Nat} {e : Expr} {e' : Ex}, isRz Γ e = true → comp n Γ e = some e' → PE X e (tDX X.K X.mg W G e')
  | 0, _, _, _, h => by cases h
  | n + 1, e, e', hr, h => by
    have C := S.x
    have ih := exprs G m n Γ X C
    obtain ⟨x, p, es, ks, pos, rfl, hd⟩ := rz_ok hr
    replace h : (if okName x = true ∧ Γ.gl x = true then _ else none) = some e' := h
    split at h
    · rename_i hc
      cases q : defOf Γ.defs x 0 with
      | none => rw [q] at hd; cases hd
      | some gp =>
        obtain ⟨g, ps⟩ := gp
        rw [q] at h
        obtain ⟨es', h1, h⟩ := obind h
        cases ks with
        | nil =>
          dsimp only at h
          split at h
          · rename_i hl
            cases h
            exact e_defX C ih S.tk hc.1 hc.2 q h1 hl.1 hl.2
          · obtain ⟨qq, h2, h⟩ := obind h
            cases h
            exact e_kwX S.tk C ih (ks := []) (ks' := []) hc.1 hc.2 q h2 h1 rfl
        | cons k ks =>
          obtain ⟨qq, h2, h⟩ := obind h
          obtain ⟨ks', h3, h⟩ := obind h
          cases h
          exact e_kwX S.tk C ih hc.1 hc.2 q h2 h1 h3
    · cases h
theorem rz_plain {e : Expr} (h : isRz Γ e = true) : (∀ (t : Option Expr) l (env : Env), swapsWith e t l env = pure false) ∧ (∀ es k p, e ≠ .Tuple es k p) ∧ ∀ es p, e ≠ .List es p := by
  obtain ⟨x, p, es, ks, pos, rfl, _⟩ := rz_ok h
  exact ⟨(fun _ _ _ => rfl), (fun _ _ _ z => by cases z), (fun _ _ z => by cases z)⟩
theorem SOk.tr (S : SOk Γ G m X W) {pn : List (Addr × Obj)} {xe : Value → Shared → Prop} {W' : WX} (tk : Takes (X.tr pn xe) W') (hp : PassesOwn (model X.prog X.w) X.A X.env xe) : SOk Γ G m (X.tr pn xe) W' :=
  ⟨⟨S.x.N, S.x.nd, S.x.sc, S.x.calm, S.x.room, S.x.gd, S.x.df, S.x.cs, S.x.bs, S.x.lc, S.x.fn⟩, hp, S.kd, tk, S.hs, S.hf, S.xo⟩
theorem s_raise (S : SOk Γ G m X W) {e : Expr} {x : Str} {pos : Pos} (h : rzN Γ e = some x) : PS X (.Raise (some e) none pos) (tX X.K G (exOf X.mg W) (.raise x)) := by
  unfold rzN at h
  split at h
  · split at h
    · rename_i y p pos' hc
      cases h
      obtain ⟨C, h1, h2, h3, h4, h5⟩ := S.xo.xs _ hc.1
      exact PS.imp (ps_raise S.x.calm S.tk (pmk_own0 F.excBase_ValueError h2 h1 h3 (raises_own h4 h5) (gl_of S.x hc.2.2) (okName_ne hc.2.1).1)) fun D σ H q => tX_raise q _ h1
    · cases h
  · cases h
end
mutual
theorem s_all {Γ : Gam} {G : Call} {m : Nat} : ∀ (n : Nat) {X : Cx} {W : WX} (S : SOk Γ G m X W) (s : Stmt) (ir : Sm), cS n Γ s = some ir → PS X s (tX X.K G (exOf X.mg W) ir)
  | 0, _, _, _, _, _, h => by unfold cS at h; cases h
  | n + 1, X, W, S, s, ir, h => by
    have C := S.x
    have ih := exprs G m n Γ X C
    unfold cS at h
    cases s <;> try (cases h; done)
    case Pass pos => cases h; exact PS.imp ps_pass fun D σ H q => tX_pass q
    case Break pos => cases h; exact PS.imp ps_break fun D σ H q => tX_brk q
    case Continue pos => cases h; exact PS.imp ps_continue fun D σ H q => tX_cont q
    case Raise a b pos =>
      cases a with
      | none => cases h; exact PS.imp ps_never fun D σ H q => tX_never q
      | some e =>
        cases b with
        | some _ => cases h; exact PS.imp ps_never fun D σ H q => tX_never q
        | none =>
          replace h : (match rzN Γ e with | some x => some (.raise x) | none => some .never) = some ir := h
          cases q : rzN Γ e with
          | none => rw [q] at h; cases h; exact PS.imp ps_never fun D σ H q => tX_never q
          | some x => rw [q] at h; cases h; exact s_raise S q
    case Try body hs els fin pos =>
      match hs, els, fin, h with
      | [.ExceptHandler (some (.Name x np)) none (b0 :: suite) hp], [], [], h =>
        replace h : (if Γ.xc.contains x = true ∧ okName x = true ∧ Γ.gl x = true then (cSs n Γ body).bind fun b => (hdC (b0 :: suite)).bind fun h => some (.trys b (Γ.mt x) Γ.xs h) else none) = some ir := h
        split at h
        · rename_i hc
          obtain ⟨b, h1, h⟩ := obind h
          obtain ⟨h', h2, h⟩ := obind h
          cases h
          obtain ⟨D', d1, d2⟩ := S.xo.xc x hc.1
          exact PS.imp (ps_try_only (tb := fun W' => tXs X.K G (exOf X.mg W') b) (ts := fun _ _ _ => tXs X.K G (exOf X.mg noW) h') S.hs S.hf ⟨gl_of C hc.2.2, (okName_ne hc.2.1).1, .inl d1⟩ S.tk
            (fun W' pn xe tk hp => ss_all n (S.tr tk hp) body b h1) (fun a oe cls d pn _ _ => hd_ok h2)) fun D σ H q => tX_try q d2
        · cases h
    case Expr e pos =>
      dsimp only at h
      split at h
      · rename_i hr
        obtain ⟨e', h1, rfl⟩ := omap h
        exact PS.imp (ps_expr (e_rz S hr h1) (by obtain ⟨x, p, es, ks, pos, rfl, _⟩ := rz_ok hr; rfl)) fun D σ H q => tX_clx q
      split at h
      · rename_i hd
        obtain ⟨e', h1, rfl⟩ := omap h
        exact PS.imp (ps_expr (ih e e' h1).e (by cases e <;> first | rfl | cases hd)) fun D σ H q => tX_ex q
      · cases h
    case Return v pos =>
      cases v with
      | none => cases h; exact PS.imp ps_retN fun D σ H q => tX_retN q
      | some e =>
        replace h : (if isRz Γ e = true then (comp n Γ e).map .clr else (comp n Γ e).map .ret) = some ir := h
        split at h
        · rename_i hr
          obtain ⟨e', h1, rfl⟩ := omap h
          exact PS.imp (ps_ret (e_rz S hr h1)) fun D σ H q => tX_clr q
        · obtain ⟨e', h1, rfl⟩ := omap h
          exact PS.imp (ps_ret (ih e e' h1).e) fun D σ H q => tX_ret q
    case If c a b pos =>
      obtain ⟨c', h1, h⟩ := obind h
      obtain ⟨a', h2, h⟩ := obind h
      obtain ⟨b', h3, h⟩ := obind h
      cases h
      exact PS.imp (ps_if (ih c c' h1).t (ss_all n S a a' h2) (ss_all n S b b' h3)) fun D σ H q => tX_if q
    case While c b els pos =>
      cases els with
      | cons _ _ => cases h
      | nil =>
        obtain ⟨c', h1, h⟩ := obind h
        obtain ⟨b', h2, h⟩ := obind h
        cases h
        exact PS.imp (ps_while S.hp (ih c c' h1).t (ss_all n S b b' h2)) fun D σ H q => tX_whl q
    case For t it b els pos =>
      cases els with
      | cons _ _ => cases h
      | nil =>
        obtain ⟨t', h1, h⟩ := obind h
        obtain ⟨it', h2, h⟩ := obind h
        obtain ⟨b', h3, h⟩ := obind h
        cases h
        obtain ⟨wi, w1, w2⟩ := mkFor_ok C ih (t := t') (b := b') tupE_ok h2
        exact PS.imp (ps_for S.hp C.calm w1 (pg_tg C.N C.nd C.sc C.calm C.fn t t' h1) (ss_all n S b b' h3) (fold_no h2)) fun D σ H q => w2 _ D σ H q
    case Assign ts e pos =>
      match ts, h with
      | [], h => cases h
      | _ :: _ :: _, h => cases h
      | [t], h =>
        dsimp only at h
        split at h
        · rename_i hr
          obtain ⟨sw, nt, nl⟩ := rz_plain hr
          split at h
          · obtain ⟨i, h1, h⟩ := obind h
            obtain ⟨e', h2, rfl⟩ := omap h
            obtain ⟨x', p', z, n1, hx, hf, ok⟩ := nmIx_ok C h1
            cases z
            exact PS.imp (ps_set C.nd n1 hx (e_rz S hr h2) (sw _ _ _) hf) fun D σ H q => tX_cla q
          · rename_i ts k p
            obtain ⟨l, h1, h⟩ := obind h
            obtain ⟨e', h2, rfl⟩ := omap h
            have hg := pg_tg C.N C.nd C.sc C.calm C.fn (.Tuple ts k p) (.tup l) (by show (tgCs Γ ts).map Tg.tup = _; rw [h1]; rfl)
            exact PS.imp (ps_asg (e_rz S hr h2) hg sw_tup (tup_asg (pos := pos) nt nl)) fun D σ H q => tX_clt q
          · cases h
        · exact s_asg S h
    case AugAssign t op e pos =>
      cases t <;> try (cases h; done)
      rename_i x p
      obtain ⟨i, h1, h⟩ := obind h
      obtain ⟨o, h2, h⟩ := obind h
      obtain ⟨e', h3, h⟩ := obind h
      cases h
      exact s_aug S h1 h2 h3
theorem ss_all {Γ : Gam} {G : Call} {m : Nat} : ∀ (n : Nat) {X : Cx} {W : WX} (S : SOk Γ G m X W) (s : List Stmt) (ir : List Sm), cSs n Γ s = some ir → PSs X s (tXs X.K G (exOf X.mg W) ir)
  | 0, _, _, _, _, _, h => by unfold cSs at h; cases h
  | n + 1, X, W, S, [], ir, h => by
    unfold cSs at h
    cases h
    exact PSs.imp pss_nil fun D σ H q => tXs_nil q
  | n + 1, X, W, S, s :: ss, ir, h => by
    unfold cSs at h
    obtain ⟨a, h1, h⟩ := obind h
    split at h
    · rename_i l h2
      cases h
      exact ss_rep S (fun ir h3 => s_all n S s ir h3) h1 h2
    · obtain ⟨l, h2, h⟩ := obind h
      cases h
      exact PSs.imp (pss_cons (s_all n S s a h1) (ss_all n S ss l h2)) fun D σ H q => tXs_cons q
end
end Vm
set_option maxRecDepth 100000
set_option maxHeartbeats 1000000
namespace Vm
open PySem PySem.Spec L2
/-! ### a def's entry -/
section
variable {K : PySem.W.Frag} {L : ASet} {H : Hp}
theorem ArgsR.len : ∀ {args : List Arg} {vs : List V}, ArgsR K L H args vs → vs.length = args.length
  | [], _, h => by rw [show _ = [] from h]; rfl
  | _ :: _, _, ⟨v, r, e, _, h⟩ => by rw [e]; exact congrArg (· + 1) h.len
theorem entR_len : ∀ (args : List Arg) (n : Nat), (entR n args).length = args.length
  | [], _ => rfl
  | .d _ :: r, n => congrArg (· + 1) (entR_len r n)
  | .o _ :: r, n => congrArg (· + 1) (entR_len r n)
  | .r _ :: r, n => congrArg (· + 1) (entR_len r (n + 1))
/-- a slot at the entry -/
theorem ent_get : ∀ {args : List Arg} {vs : List V} {n i : Nat} {l : LV}, ArgsR K L H args vs → (entR n args)[i]? = some l →
    ∃ v, vs[i]? = some v ∧ ((∃ x, args[i]? = some (Arg.d x) ∧ l = .d x ∧ RdP K L H x v) ∨ (∃ (o : Ob) (p : Addr), args[i]? = some (Arg.o o) ∧ l = .own o ∧ v = .ref p ∧ ObR K L H p o) ∨ ∃ (o : Ob) (p : Addr) (m : Nat), args[i]? = some (Arg.r o) ∧ l = .c (n + m) ∧ v = .ref p ∧ (radr args vs)[m]? = some p)
  | [], _, n, i, l, _, h => by simp [entR] at h
  | .d x :: r, _, n, 0, l, ⟨v, ws, e, h1, h2⟩, h => by
    subst e
    have h : some (LV.d x) = some l := h
    cases h
    exact ⟨v, rfl, .inl ⟨x, rfl, rfl, h1⟩⟩
  | .o o :: r, _, n, 0, l, ⟨v, ws, e, ⟨p, e1, h1⟩, h2⟩, h => by
    subst e
    have h : some (LV.own o) = some l := h
    cases h
    exact ⟨v, rfl, .inr (.inl ⟨o, p, rfl, rfl, e1, h1⟩)⟩
  | .r o :: r, _, n, 0, l, ⟨v, ws, e, ⟨p, e1, h1⟩, h2⟩, h => by
    subst e e1
    have h : some (LV.c n) = some l := h
    cases h
    exact ⟨_, rfl, .inr (.inr ⟨o, p, 0, rfl, rfl, rfl, rfl⟩)⟩
  | .d x :: r, _, n, i + 1, l, ⟨v, ws, e, h1, h2⟩, h => by
    subst e
    obtain ⟨w, q1, q2⟩ := ent_get (i := i) (n := n) h2 (by simpa [entR] using h)
    refine ⟨w, by simpa using q1, ?_⟩
    have er : radr (.d x :: r) (v :: ws) = radr r ws := by cases v <;> rfl
    rw [er]
    simpa using q2
  | .o x :: r, _, n, i + 1, l, ⟨v, ws, e, h1, h2⟩, h => by
    subst e
    obtain ⟨w, q1, q2⟩ := ent_get (i := i) (n := n) h2 (by simpa [entR] using h)
    refine ⟨w, by simpa using q1, ?_⟩
    have er : radr (.o x :: r) (v :: ws) = radr r ws := by cases v <;> rfl
    rw [er]
    simpa using q2
  | .r x :: r, _, n, i + 1, l, ⟨v, ws, e, ⟨p, e1, h1⟩, h2⟩, h => by
    subst e e1
    obtain ⟨w, q1, q2⟩ := ent_get (i := i) (n := n + 1) h2 (by simpa [entR] using h)
    refine ⟨w, by simpa using q1, ?_⟩
    have er : radr (.r x :: r) (.ref p :: ws) = p :: radr r ws := rfl
    rw [er]
    rcases q2 with q2 | q2 | ⟨o, p', m, z1, z2, z3, z4⟩
    · exact .inl (by simpa using q2)
    · exact .inr (.inl (by simpa using q2))
    · exact .inr (.inr ⟨o, p', m + 1, by simpa using z1, by rw [z2]; congr 1; omega, z3, by simpa using z4⟩)
theorem entS_get : ∀ {args : List Arg} {vs : List V} {m : Nat} {u : SV}, ArgsR K L H args vs → (entS args)[m]? = some u → ∃ (i : Nat) (o : Ob) (p : Addr), args[i]? = some (Arg.r o) ∧ u = .own o ∧ vs[i]? = some (V.ref p) ∧ (radr args vs)[m]? = some p ∧ ObR K L H p o
  | [], _, m, u, _, h => by simp [entS] at h
  | .d x :: r, _, m, u, ⟨v, ws, e, h1, h2⟩, h => by
    subst e
    obtain ⟨i, o, p, q1, q2, q3, q4, q5⟩ := entS_get h2 (show (entS r)[m]? = some u from h)
    have er : radr (.d x :: r) (v :: ws) = radr r ws := by cases v <;> rfl
    exact ⟨i + 1, o, p, by simpa using q1, q2, by simpa using q3, by rw [er]; exact q4, q5⟩
  | .o x :: r, _, m, u, ⟨v, ws, e, h1, h2⟩, h => by
    subst e
    obtain ⟨i, o, p, q1, q2, q3, q4, q5⟩ := entS_get h2 (show (entS r)[m]? = some u from h)
    have er : radr (.o x :: r) (v :: ws) = radr r ws := by cases v <;> rfl
    exact ⟨i + 1, o, p, by simpa using q1, q2, by simpa using q3, by rw [er]; exact q4, q5⟩
  | .r x :: r, _, 0, u, ⟨v, ws, e, ⟨p, e1, h1⟩, h2⟩, h => by
    subst e e1
    have h : some (SV.own x) = some u := h
    cases h
    exact ⟨0, x, p, rfl, rfl, rfl, rfl, h1⟩
  | .r x :: r, _, m + 1, u, ⟨v, ws, e, ⟨p, e1, h1⟩, h2⟩, h => by
    subst e e1
    obtain ⟨i, o, p', q1, q2, q3, q4, q5⟩ := entS_get h2 (show (entS r)[m]? = some u by simpa [entS] using h)
    exact ⟨i + 1, o, p', by simpa using q1, q2, by simpa using q3, by show (p :: radr r ws)[m + 1]? = _; simpa using q4, q5⟩
theorem entS_len : ∀ {args : List Arg} {vs : List V}, ArgsR K L H args vs → (radr args vs).length = (entS args).length
  | [], _, h => by obtain rfl : _ = [] := h; rfl
  | .d x :: r, _, ⟨v, ws, e, h1, h2⟩ => by
    subst e
    have er : radr (.d x :: r) (v :: ws) = radr r ws := by cases v <;> rfl
    rw [er]; exact entS_len h2
  | .o x :: r, _, ⟨v, ws, e, h1, h2⟩ => by
    subst e
    have er : radr (.o x :: r) (v :: ws) = radr r ws := by cases v <;> rfl
    rw [er]; exact entS_len h2
  | .r x :: r, _, ⟨v, ws, e, ⟨p, e1, h1⟩, h2⟩ => by
    subst e e1
    exact congrArg (· + 1) (entS_len h2)
def isD : Arg → Bool
  | .d _ => true
  | _ => false
theorem oadr_mem : ∀ {args : List Arg} {vs : List V} {i : Nat} {a : Arg} {v : V}, args[i]? = some a → isD a = false → vs[i]? = some v → v ∈ oadr args vs
  | [], _, _, _, _, h, _, _ => by simp at h
  | _ :: _, [], _, _, _, _, _, h => by simp at h
  | a :: r, v :: ws, 0, _, _, h, hd, h' => by
    simp at h h'; subst h h'
    cases a <;> first | (cases hd; done) | exact List.mem_cons_self ..
  | a :: r, v :: ws, i + 1, b, w, h, hd, h' => by
    have := oadr_mem (args := r) (vs := ws) (i := i) (by simpa using h) hd (by simpa using h')
    cases a <;> first | exact this | exact List.mem_cons_of_mem _ this
theorem oadr_inj : ∀ {args : List Arg} {vs : List V} {i j : Nat} {a b : Arg} {v : V}, (oadr args vs).Nodup → args[i]? = some a → isD a = false → vs[i]? = some v → args[j]? = some b → isD b = false → vs[j]? = some v → i = j
  | [], _, _, _, _, _, _, _, h, _, _, _, _, _ => by simp at h
  | _ :: _, [], _, _, _, _, _, _, _, _, h, _, _, _ => by simp at h
  | a :: r, v :: ws, 0, 0, _, _, _, _, _, _, _, _, _, _ => rfl
  | a :: r, v :: ws, 0, j + 1, _, b, w, nd, h1, d1, h2, h3, d2, h4 => by
    simp at h1 h2; subst h1 h2
    have := oadr_mem (args := r) (vs := ws) (i := j) (by simpa using h3) d2 (by simpa using h4)
    cases a <;> first | (cases d1; done) | exact absurd this (List.nodup_cons.mp nd).1
  | a :: r, v :: ws, i + 1, 0, _, b, w, nd, h1, d1, h2, h3, d2, h4 => by
    simp at h3 h4; subst h3 h4
    have := oadr_mem (args := r) (vs := ws) (i := i) (by simpa using h1) d1 (by simpa using h2)
    cases a <;> first | (cases d2; done) | exact absurd this (List.nodup_cons.mp nd).1
  | a :: r, v :: ws, i + 1, j + 1, x, b, w, nd, h1, d1, h2, h3, d2, h4 => by
    have nd' : (oadr r ws).Nodup := by
      cases a <;> first | exact nd | exact (List.nodup_cons.mp nd).2
    rw [oadr_inj (i := i) (j := j) nd' (by simpa using h1) d1 (by simpa using h2) (by simpa using h3) d2 (by simpa using h4)]
theorem oadr_at : ∀ {args : List Arg} {vs : List V} {w : V}, w ∈ oadr args vs → ∃ (i : Nat) (a : Arg), args[i]? = some a ∧ isD a = false ∧ vs[i]? = some w
  | [], _, _, h => by simp [oadr] at h
  | _ :: _, [], _, h => by
    rename_i a r
    cases a <;> simp [oadr] at h
  | a :: r, v :: ws, w, h => by
    have tail : w ∈ oadr r ws → ∃ (i : Nat) (b : Arg), (a :: r)[i]? = some b ∧ isD b = false ∧ (v :: ws)[i]? = some w := fun h => by
      obtain ⟨i, b, q1, q2, q3⟩ := oadr_at h
      exact ⟨i + 1, b, by simpa using q1, q2, by simpa using q3⟩
    cases a with
    | d x => exact tail h
    | o o =>
      rcases List.mem_cons.mp (show w ∈ v :: oadr r ws from h) with z | z
      · exact ⟨0, _, rfl, rfl, by rw [z]; rfl⟩
      · exact tail z
    | r o =>
      rcases List.mem_cons.mp (show w ∈ v :: oadr r ws from h) with z | z
      · exact ⟨0, _, rfl, rfl, by rw [z]; rfl⟩
      · exact tail z
end
end Vm
set_option maxRecDepth 100000
set_option maxHeartbeats 1000000
namespace Vm
open PySem PySem.Spec L2
section
variable {K : PySem.W.Frag} {A : ASet} {H : Hp}
theorem start_get {N : List Str} {vs : List V} {i : Nat} {v : V} (h : vs[i]? = some v) : (L2.start N vs)[i]? = some (some v) := by
  unfold L2.start
  obtain ⟨h1, h2⟩ := List.getElem?_eq_some_iff.mp h
  rw [List.getElem?_append_left (by simpa using h1), List.getElem?_map, h]
  rfl
theorem start_len {N : List Str} {vs : List V} (h : vs.length ≤ N.length) : (L2.start N vs).length = N.length := by
  unfold L2.start
  rw [List.length_append, List.length_map, List.length_replicate]
  omega
theorem entry_get {d : Df} {args : List Arg} {i : Nat} {l : LV} (h : (entry d args).ρ[i]? = some l) : (entR 0 args)[i]? = some l ∨ l = .no := by
  have h : (entR 0 args ++ List.replicate (d.ns - d.np) LV.no)[i]? = some l := h
  rcases Nat.lt_or_ge i (entR 0 args).length with hi | hi
  · rw [List.getElem?_append_left hi] at h; exact .inl h
  · rw [List.getElem?_append_right hi, List.getElem?_replicate] at h
    split at h
    · exact .inr (Option.some.inj h).symm
    · cases h
theorem radr_nd {L : ASet} : ∀ {args : List Arg} {vs : List V}, ArgsR K L H args vs → (oadr args vs).Nodup → (radr args vs).Nodup ∧ ∀ a ∈ radr args vs, V.ref a ∈ oadr args vs
  | [], _, h, _ => by obtain rfl : _ = [] := h; exact ⟨List.nodup_nil, fun a h => by simp [radr] at h⟩
  | .d x :: r, _, ⟨v, ws, e, h1, h2⟩, nd => by
    subst e
    have er : radr (.d x :: r) (v :: ws) = radr r ws := by cases v <;> rfl
    rw [er]; exact radr_nd h2 nd
  | .o x :: r, _, ⟨v, ws, e, h1, h2⟩, nd => by
    subst e
    have er : radr (.o x :: r) (v :: ws) = radr r ws := by cases v <;> rfl
    rw [er]
    obtain ⟨q1, q2⟩ := radr_nd h2 (List.nodup_cons.mp nd).2
    exact ⟨q1, fun a ha => List.mem_cons_of_mem _ (q2 a ha)⟩
  | .r x :: r, _, ⟨v, ws, e, ⟨p, e1, h1⟩, h2⟩, nd => by
    subst e e1
    obtain ⟨n1, n2⟩ := List.nodup_cons.mp (show (V.ref p :: oadr r ws).Nodup from nd)
    obtain ⟨q1, q2⟩ := radr_nd h2 n2
    refine ⟨List.nodup_cons.mpr ⟨fun z => n1 (q2 p z), q1⟩, fun a ha => ?_⟩
    rcases List.mem_cons.mp (show a ∈ p :: radr r ws from ha) with z | z
    · rw [z]; exact List.mem_cons_self ..
    · exact List.mem_cons_of_mem _ (q2 a z)
/-- AT THE ENTRY -/
theorem entry_rel {N : List Str} {d : Df} {args : List Arg} {vs : List V} (hn : args.length = d.np) (hN : d.ns = N.length) (hle : d.np ≤ N.length) (al : ∀ a, A a → ∃ o, H a = some o) (ar : ArgsR K (LA A args vs) H args vs)
    (nd : (oadr args vs).Nodup) (na : ∀ a, V.ref a ∈ oadr args vs → ¬ A a) : Rel K A (radr args vs) (entry d args) (L2.start N vs) H ∧ Lv A (entry d args) (radr args vs) (L2.start N vs) = LA A args vs := by
  have hl := ar.len
  have lρ : (entry d args).ρ.length = N.length := by
    show (entR 0 args ++ List.replicate (d.ns - d.np) LV.no).length = _
    rw [List.length_append, entR_len, List.length_replicate]
    omega
  have own : ∀ (i : Nat) (o : Ob), (entry d args).ρ[i]? = some (.own o) → ∃ p, args[i]? = some (Arg.o o) ∧ vs[i]? = some (V.ref p) ∧ ObR K (LA A args vs) H p o := fun i o e => by
    rcases entry_get e with e | e
    · obtain ⟨v, h1, h2⟩ := ent_get ar e
      rcases h2 with ⟨_, _, z, _⟩ | ⟨o', p, z1, z2, z3, z4⟩ | ⟨_, _, _, _, z, _⟩
      · cases z
      · cases z2; subst z3; exact ⟨p, z1, h1, z4⟩
      · cases z
    · cases e
  have lv : ∀ a, Lv A (entry d args) (radr args vs) (L2.start N vs) a ↔ LA A args vs a := fun a => by
    constructor
    · rintro (h | ⟨i, o, e, e'⟩ | ⟨n, o, e, e'⟩)
      · exact .inl h
      · obtain ⟨p, h1, h2, _⟩ := own i o e
        rw [start_get h2] at e'
        cases e'
        exact .inr (oadr_mem h1 rfl h2)
      · obtain ⟨i, o', p, h1, _, h3, h4, _⟩ := entS_get ar e
        rw [h4] at e'
        cases e'
        exact .inr (oadr_mem h1 rfl h3)
    · rintro (h | h)
      · exact .inl h
      · obtain ⟨i, b, h1, h2, h3⟩ := oadr_at h
        cases b with
        | d x => cases h2
        | o o =>
          refine .inr (.inl ⟨i, o, ?_, start_get h3⟩)
          show (entR 0 args ++ List.replicate (d.ns - d.np) LV.no)[i]? = _
          have hi : i < (entR 0 args).length := by rw [entR_len]; exact (List.getElem?_eq_some_iff.mp h1).1
          rw [List.getElem?_append_left hi]
          obtain ⟨v, q1, q2⟩ := ent_get (l := (entR 0 args)[i]) (n := 0) ar (List.getElem?_eq_getElem hi)
          rw [List.getElem?_eq_getElem hi]
          rcases q2 with ⟨_, z, _⟩ | ⟨o', p, z1, z2, _⟩ | ⟨_, _, _, z, _⟩
          · rw [h1] at z; cases z
          · rw [h1] at z1; cases z1; rw [z2]
          · rw [h1] at z; cases z
        | r o =>
          have hi : i < (entR 0 args).length := by rw [entR_len]; exact (List.getElem?_eq_some_iff.mp h1).1
          obtain ⟨v, q1, q2⟩ := ent_get (l := (entR 0 args)[i]) (n := 0) ar (List.getElem?_eq_getElem hi)
          rw [h3] at q1; cases q1
          rcases q2 with ⟨_, z, _⟩ | ⟨o', p, z1, z2, _⟩ | ⟨o', p, m, z1, z2, z3, z4⟩
          · rw [h1] at z; cases z
          · rw [h1] at z1; cases z1
          · cases z3
            have hm : m < (entS args).length := by rw [← entS_len ar]; exact (List.getElem?_eq_some_iff.mp z4).1
            obtain ⟨u, hu⟩ : ∃ u, (entS args)[m]? = some u := ⟨_, List.getElem?_eq_getElem hm⟩
            obtain ⟨_, o2, _, _, e2, _⟩ := entS_get ar hu
            rw [e2] at hu
            exact .inr (.inr ⟨m, o2, hu, z4⟩)
  have eqL : Lv A (entry d args) (radr args vs) (L2.start N vs) = LA A args vs := by funext a; exact propext (lv a)
  refine ⟨⟨?_, entS_len ar, fun i x e => ?_, fun i o e => ?_, fun i n e => ?_, fun n x a e e' => ?_, fun n o a e e' => ?_, fun i j a o o' e1 e2 e3 e4 => ?_, fun i n a o o' e1 e2 e3 e4 => ?_, fun n m a o o' e1 e2 e3 e4 => ?_, al⟩, eqL⟩
  · rw [start_len (by omega), lρ]
  · rw [eqL]
    rcases entry_get e with e | e
    · obtain ⟨v, h1, h2⟩ := ent_get ar e
      rcases h2 with ⟨x', z1, z2, z3⟩ | ⟨_, _, _, z, _⟩ | ⟨_, _, _, _, z, _⟩
      · cases z2; exact ⟨v, start_get h1, z3⟩
      · cases z
      · cases z
    · cases e
  · rw [eqL]
    obtain ⟨p, h1, h2, h3⟩ := own i o e
    exact ⟨p, start_get h2, h3, na p (oadr_mem h1 rfl h2)⟩
  · rcases entry_get e with e | e
    · obtain ⟨v, h1, h2⟩ := ent_get ar e
      rcases h2 with ⟨_, _, z, _⟩ | ⟨_, _, _, z, _⟩ | ⟨o', p, m, z1, z2, z3, z4⟩
      · cases z
      · cases z
      · cases z2
        subst z3
        rw [Nat.zero_add]
        exact ⟨p, z4, start_get h1⟩
    · cases e
  · obtain ⟨_, _, _, _, z, _⟩ := entS_get ar e
    cases z
  · rw [eqL]
    obtain ⟨i, o', p, h1, h2, h3, h4, h5⟩ := entS_get ar e
    rw [h4] at e'
    cases e'
    cases h2
    exact ⟨h5, na _ (oadr_mem h1 rfl h3)⟩
  · obtain ⟨p, h1, h2, _⟩ := own i o e1
    obtain ⟨q, h3, h4, _⟩ := own j o' e2
    rw [start_get h2] at e3
    cases e3
    rw [start_get h4] at e4
    cases e4
    exact oadr_inj nd h1 rfl h2 h3 rfl h4
  · obtain ⟨p, h1, h2, _⟩ := own i o e1
    obtain ⟨j, o2, q, h3, _, h5, h6, _⟩ := entS_get ar e2
    rw [start_get h2] at e3
    cases e3
    rw [h6] at e4
    cases e4
    have := oadr_inj nd h1 rfl h2 h3 rfl h5
    subst this
    rw [h1] at h3
    cases h3
  · have hlt : n < (radr args vs).length := (List.getElem?_eq_some_iff.mp e3).1
    exact (List.getElem?_inj hlt (radr_nd ar nd).1).mp (e3.trans e4.symm)
end
end Vm
set_option maxRecDepth 100000
set_option maxHeartbeats 1000000
namespace Vm
open PySem PySem.Spec L2
section
variable {K : PySem.W.Frag} {A : ASet} {H H' : Hp}
theorem outsR_of {L : ASet} : ∀ {us : List SV} {xs : List Addr}, xs.length = us.length → (∀ (m : Nat) (u : SV) (a : Addr), us[m]? = some u → xs[m]? = some a → OutR K L H u a) → OutsR K L H us xs
  | [], [], _, _ => rfl
  | [], _ :: _, l, _ => by cases l
  | _ :: _, [], l, _ => by cases l
  | u :: us, a :: xs, l, h => ⟨a, xs, rfl, h 0 u a rfl rfl, outsR_of (by simpa using l) fun m u a h1 h2 => h (m + 1) u a (by simpa using h1) (by simpa using h2)⟩
/-- AT THE EXIT -/
theorem exit_post {args : List Arg} {vs : List V} {f f' : F} {σ σ' : L2.St} {rr : RR} {v : V} (hL : Lv A f (radr args vs) σ = LA A args vs) (hS : f'.S.all SV.ok = true) (p : RPost K A (radr args vs) f σ H rr f' v σ' H') : CallPost K A args vs H rr f'.S v H' := by
  obtain ⟨A', s, R, r, n, x, k⟩ := p
  rw [hL] at x
  refine ⟨Lv A' f' (radr args vs) σ', fun a h => .inl (s a h), fun a h => h.elim (R.al a) R.own_some, outsR_of R.lenS fun m u a h1 h2 => ?_, ?_, x, k⟩
  · cases u with
    | no => exact trivial
    | d y => exact R.cd m y a h1 h2
    | own o => exact ⟨(R.co m o a h1 h2).1, .inr (.inr ⟨m, o, h1, h2⟩)⟩
  · cases rr with
    | ex c =>
      have r : Rd K (Lv A' f' (radr args vs) σ') H' .none v := RdP.rd r
      unfold Rd at r
      exact r
    | d y => exact r
    | fr o =>
      obtain ⟨p, e, ap, ob⟩ := r
      refine ⟨p, e, .inl ap, n o rfl p e, fun hp => ?_, ob⟩
      obtain ⟨m, hm, em⟩ := List.getElem_of_mem hp
      have e1 : (radr args vs)[m]? = some p := by rw [List.getElem?_eq_getElem hm, em]
      have hm' : m < f'.S.length := by rw [← R.lenS]; exact hm
      have e2 : f'.S[m]? = some f'.S[m] := List.getElem?_eq_getElem hm'
      have ok := List.all_eq_true.mp hS _ (List.getElem_mem hm')
      cases q : f'.S[m] with
      | no => rw [q] at ok; cases ok
      | d y => rw [q] at e2; exact (R.cd m y p e2 e1).2.1 (.inl ap)
      | own o => rw [q] at e2; exact (R.co m o p e2 e1).2 ap
end
/-! ### all defs -/
section
variable (P : Program) (w : World) (K : PySem.W.Frag) (mg : Str → Option Value) (base : Heap)
/-- a def and its text in the small language -/
def DefOk (Γ : Gam) (defs : List Df) (g : Nat) (f : Addr) (fd : FuncData) (ps : List Str) : Prop :=
  ∃ (x q : Str) (pa : Arguments) (bd : List Stmt) (sc : Scope) (dvs : List V) (kws : List (Str × V)) (N : List Str) (ir : List Sm) (n : Nat) (pt kp kf : Bool), FunD K x q pa bd sc dvs kws f fd ∧ FnScope N ps sc ∧
    cSs n { Γ with N := N, sc := sc, fn := fun _ => true, pt := pt, kp := kp, kf := kf } bd = some ir ∧ defs[g]? = some ⟨ps.length, N.length, ir⟩
structure WOk (Γ : Gam) (defs : List Df) : Prop where
  df : ∀ x g ps, defOf Γ.defs x 0 = some (g, ps) → ∃ f fd, mg x = some (.ref f) ∧ PySem.W.keepIn K (.ref f) = true ∧ (Γ.kwo.contains x = false → ∀ us : List Value, us.length = ps.length → bindArgs fd ⟨us, []⟩ = pure (ps.zip us)) ∧
    (∀ n ks ds pm, (x, n, ks, ds, pm) ∈ Γ.kws → pm.length = ps.length ∧ pm.Nodup ∧ (∀ i ∈ pm, i < n + ks.length + ds.length) ∧ ∃ (zs : List V) (dus : List Value), Vals zs dus ∧ (∀ L H, RdA K L H ds zs) ∧
      ∀ (s : Shared) (us ws : List Value), K.In s.heap → us.length = n → ws.length = ks.length → BindsTo s fd ⟨us, ks.zip ws⟩ (ps.zip (permR (us ++ (ws ++ dus)) pm))) ∧
    DefOk K Γ defs g f fd ps
  cs : ∀ x d, Γ.cs.lookup x = some d → ∃ u v, mg x = some u ∧ RelV v u ∧ ∀ L H, Rd K L H d v
  bs : ∀ x, Γ.bs.contains x = true → mg x = none
  xo : XsOk Γ K mg
end
section
variable {P : Program} {w : World} {K : PySem.W.Frag} {mg : Str → Option Value} {base : Heap} {Γ : Gam} {defs : List Df}
/-- EVERY DEF DOES WHAT THE SMALL LANGUAGE SAYS -/
theorem fn_all (W : WOk K mg Γ defs) : ∀ (n g : Nat) (f : Addr) (fd : FuncData) (ps : List Str), DefOk K Γ defs g f fd ps → FnG P w K mg base n f fd ps (spG K mg ps.length (runD defs n g))
  | 0, g, f, fd, ps, D => by
    refine ⟨fun vs H Q E ⟨_, _, _, _, h, _⟩ => h, fun A outer s H args us vs Q E _ _ _ _ _ h => ?_⟩
    obtain ⟨_, _, _, _, _, _, _, _, _, e, _⟩ := h
    cases e
  | n + 1, g, f, fd, ps, D => by
    obtain ⟨x, q, pa, bd, sc, dvs, kws, N, ir, fl, pt, kp, kf, Fd, S, hc, hd⟩ := D
    refine fnG_of Fd S (fun vs H Q E ⟨_, _, _, _, h, _⟩ => h) fun cd A outer s H vs Q E room hg sp => ?_
    obtain ⟨A0, args, rr, outs, hl, al, ar, nd, na, e, hQ⟩ := sp
    have hpl : ps.length ≤ N.length := by have := congrArg List.length S.pre; rw [List.length_take] at this; omega
    have X : XOk { Γ with N := N, sc := sc, fn := fun _ => true, pt := pt, kp := kp, kf := kf } (runD defs n) n (bodyCx P w K mg base N q sc f cd A outer s H E) := {
      N := rfl
      nd := S.nd
      sc := rfl
      calm := rfl
      room := room
      gd := hg
      df := fun x g ps h => by
        obtain ⟨f, fd, h1, h2, h3, h4, h5⟩ := W.df x g ps h
        exact ⟨f, fd, h1, h2, h3, h4, fn_all W n g f fd ps h5⟩
      cs := W.cs
      bs := W.bs
      lc := W.xo.lc
      fn := fun _ _ => rfl }
    have SO : SOk { Γ with N := N, sc := sc, fn := fun _ => true, pt := pt, kp := kp, kf := kf } (runD defs n) n (bodyCx P w K mg base N q sc f cd A outer s H E) (fun cls d _ H => E cls d H) := ⟨X, passes_of rfl, S.kind, takes_of rfl rfl rfl rfl, rfl, rfl, ⟨W.xo.xs, W.xo.xc, W.xo.lc⟩⟩
    refine ⟨_, ss_all fl SO bd ir hc, ?_⟩
    unfold runD at e
    rw [hd] at e
    dsimp only at e
    split at e
    · rename_i hn
      obtain ⟨R, eL⟩ := entry_rel (d := ⟨ps.length, N.length, ir⟩) (N := N) hn rfl hpl al ar nd na
      refine ⟨A0, radr args vs, _, R, ?_⟩
      split at e
      · rename_i r f' hx
        rw [hx]
        split at e
        · rename_i hS
          cases e
          intro v σ' H' p
          have z := hQ v H' (exit_post eL hS p)
          cases rr with
          | ex c => exact z
          | d x => exact z
          | fr o => exact z
        · cases e
      · rename_i f' hx
        rw [hx]
        split at e
        · rename_i hS
          cases e
          refine fun σ' H' p => hQ .non H' (exit_post (σ' := σ') eL hS ?_)
          obtain ⟨R', x', k'⟩ := p
          exact ⟨A0, fun _ z => z, R', .inl (rd_none (K := K) (L := Lv A0 f' (radr args vs) σ') (H := H')), (fun o e => by cases e), x', k'⟩
        · cases e
      · cases e
    · cases e
end
end Vm
set_option maxRecDepth 100000
set_option maxHeartbeats 1000000
namespace Vm
open PySem PySem.Spec PyProof.Rows L2
section
variable {P : Program} {w : World} {K : PySem.W.Frag} {gm bm : Str → Option Value} {k : Nat} {fa sc : Addr} {fd : FuncData} {x : Str} {sp : SpG} {st : Shared} {us : List Value} {ns : List Int}
/-- what an end of the law's call is to be -/
abbrev EndOk (st : Shared) (r : Result) (s' : Shared) : Prop := r = .ok (.ret (.bool true)) ∧ OldK st.heap s'.heap ∧ s'.os = st.os ∧ AllBare s'.gens
/-- from a heap that tracks nothing but, maybe, the script as it stands -/
theorem law_core {T : Hp} (KX : K.In st.heap) (hns : st.heap.Ns mainGlobals gm) (hb : st.heap.Ns builtinsNs bm) (hbb : ∀ y : Str, y ≠ "__name__" → bm y = bootBuiltins y) (hlim : st.heap.NoLimit) (hg : st.gens = #[])
    (ha : st.heap.get? sc = some { cls := .type "list", data := .seq us.toArray }) (hr : Room k callerA)
    (F : ∀ base : Heap, K.In base → base.Ns mainGlobals gm → FnG P w K gm base k fa fd [x] sp) (hbind : ∀ (s : Shared) (u : Value), BindsTo s fd ⟨[u], []⟩ [(x, u)])
    (only : ∀ b, T b = none ∨ (b = sc ∧ K.lookup sc = none ∧ ∃ o xs, T b = some (.frz o (.lst xs)))) (ok : HOk P w T st.heap) (go : sp [.ref sc] T (fun v _ => v = .bl true) noX) :
    codeAny (model P w) callerA (.call (.ref fa) ⟨[.ref sc], []⟩) (EndOk st) st := by
  have free : ∀ {b : Addr} {o : Obj}, st.heap.get? b = some o → (b = sc → K.lookup sc = none → False) → (hidT st.heap T).get? b = some o := fun {b o} e n => by
    rcases only b with z | ⟨z1, z2, _⟩
    · exact hidT_get e z
    · exact (n z1 z2).elim
  have spaces : ∀ {b : Addr} {m : Str → Option Value}, st.heap.Ns b m → (hidT st.heap T).Ns b m := by
    rintro b m ⟨o, es, ep, e, d, r⟩
    refine ⟨o, es, ep, free e fun z _ => ?_, d, r⟩
    subst z
    rw [ha] at e
    cases e
    exact absurd (show Data.seq us.toArray 0 = Data.dict es ep from d) (fun q => by cases q)
  have kin : K.In (hidT st.heap T) := fun b o e => free (KX b o e) fun z n => by
    subst z
    rw [n] at e
    cases e
  obtain ⟨lm, l1, l2⟩ := hlim
  have md : Mod K gm (hidT st.heap T) := ⟨kin, spaces hns, ⟨bm, spaces hb, hbb⟩, lm, spaces l1, l2⟩
  have ev : Env0 P w K gm (hidT st.heap T) callerA [] st T := by
    refine ⟨rfl, md, fun b o e => of_hidT e, Nat.le_of_eq (hidT_size _ _), trivial, fun b hb => ?_, ok, .of_eq hg⟩
    cases hb
  refine codeAny_mono ((F _ kin (spaces hns)).run callerA [] st T ⟨[.ref sc], []⟩ [.ref sc] [.ref sc] _ _ hr rfl ev (hbind st (.ref sc)) (.cons rfl .nil) go) ?_
  rintro r s' (⟨u, rfl, v, T', os, bare, un, ok', rv, rfl⟩ | ⟨u, _, z⟩)
  case inr =>
    obtain ⟨_, _, _, _, _, _, _, _, _, _, _, _, z⟩ := z
    exact z.elim
  cases rv
  refine ⟨rfl, OldK.of_keep fun b o e => ?_, os, bare⟩
  rcases only b with z | ⟨_, _, ob, xs, z⟩
  · exact un.keep b o e z (fun q => by cases q) (fun q => by cases q)
  · have e1 := (ok b _ z).1
    have e2 := (ok' b _ (un.frzs b ob _ z)).1
    rw [e] at e1
    cases e1
    exact e2
theorem law_callG (KX : K.In st.heap) (hns : st.heap.Ns mainGlobals gm) (hb : st.heap.Ns builtinsNs bm) (hbb : ∀ y : Str, y ≠ "__name__" → bm y = bootBuiltins y) (hlim : st.heap.NoLimit) (hg : st.gens = #[])
    (ha : st.heap.get? sc = some { cls := .type "list", data := .seq us.toArray }) (hi : IntsAre us ns) (hl : ns.length ≤ sizeLine) (hr : Room k callerA)
    (F : ∀ base : Heap, K.In base → base.Ns mainGlobals gm → FnG P w K gm base k fa fd [x] sp) (hbind : ∀ (s : Shared) (u : Value), BindsTo s fd ⟨[u], []⟩ [(x, u)])
    (hsp : ∀ T : Hp, (∀ b, T b ≠ none → ∃ o, T b = some o) → Rd K (fun _ => False) T (.list (ns.map .int)) (.ref sc) → sp [.ref sc] T (fun v _ => v = .bl true) noX) :
    codeAny (model P w) callerA (.call (.ref fa) ⟨[.ref sc], []⟩) (EndOk st) st := by
  have vals := vals_ints hi
  have lens := hi.length
  have data : ∀ {T : Hp}, RdA K (fun _ => False) T (ns.map .int) (ns.map V.int) := RdA.of_ints ns
  have some_ : ∀ (T : Hp) (b : Addr), T b ≠ none → ∃ o, T b = some o := fun T b n => Option.ne_none_iff_exists'.mp n
  cases q : K.lookup sc with
  | some o =>
    have e := KX sc o q
    rw [ha] at e
    cases e
    refine law_core (T := fun _ => none) KX hns hb hbb hlim hg ha hr F hbind (fun b => .inl rfl) (fun b u z => by cases z) (hsp _ (some_ _) ?_)
    unfold Rd
    exact ⟨sc, ns.map V.int, rfl, .inr ⟨us, _, q, by rw [lens]; exact hl, vals⟩, data⟩
  | none =>
    let one : Obj := { cls := .type "list", data := .seq us.toArray }
    refine law_core (T := fun b => if b = sc then some (.frz one (.lst (ns.map V.int))) else none) KX hns hb hbb hlim hg ha hr F hbind (fun b => ?_) (fun b u z => ?_) (hsp _ (some_ _) ?_)
    · by_cases h : b = sc
      · exact .inr ⟨h, q, one, _, if_pos h⟩
      · exact .inl (if_neg h)
    · by_cases h : b = sc
      · subst h
        dsimp only at z
        rw [if_pos rfl] at z
        cases z
        exact ⟨ha, by rw [List.length_map]; exact hl, us, 0, vals, ha⟩
      · dsimp only at z
        rw [if_neg h] at z
        cases z
    · unfold Rd
      exact ⟨sc, ns.map V.int, rfl, .inl ⟨fun z => z, .inr ⟨one, if_pos rfl⟩⟩, data⟩
end
/-- the law's answer, by the small language -/
theorem law_sp {K : PySem.W.Frag} {mg : Str → Option Value} {defs : List Df} {k g : Nat} {ns : List Int} {sc : Addr} {T : Hp} (h : runD defs k g [.d (.list (ns.map .int))] = .ok (.d (.bool true), [])) (rd : Rd K (fun _ => False) T (.list (ns.map .int)) (.ref sc)) :
    spG K mg 1 (runD defs k g) [.ref sc] T (fun v _ => v = .bl true) noX := by
  refine ⟨fun _ => False, [.d (.list (ns.map .int))], .d (.bool true), [], rfl, fun a z => z.elim, ⟨_, [], rfl, .inl (rd.ext (Ext.less fun a z => ?_)), rfl⟩, List.nodup_nil, fun a z => by simp [oadr] at z, h, fun v H' cp => ?_⟩
  · rcases z with z | z
    · exact z
    · simp [oadr] at z
  · obtain ⟨L', _, _, _, r, _⟩ := cp
    exact (show Rd K L' H' (.bool true) v from RdP.rd r).one.b
/-- THE END: a law holds where the small language answers True -/
theorem walk_G {l : PySem.W.OpenLaw} {n k g : Nat} {q : Program} {loose : List Str} {XP : (Str → Option Value) → Heap → Prop} {YP : World → Heap → Prop} {d : DefRec} {x : Str} {defs : List Df}
    (hn : l.most = some n) (hn2 : n ≤ sizeLine) (hdf : d.params.defaults = []) (hr : Room k callerA)
    (F : ∀ (w : World) (mg : Str → Option Value) (fa : Addr) (h : Heap), YP w h → h.Ns mainGlobals mg → mg d.name = some (.ref fa) →
      ∃ (K : PySem.W.Frag) (fd : FuncData), K.In h ∧ (∀ (s : Shared) (u : Value), BindsTo s fd ⟨[u], []⟩ [(x, u)]) ∧
        ∀ base : Heap, K.In base → base.Ns mainGlobals mg → FnG l.prog w K mg base k fa fd [x] (spG K mg 1 (runD defs k g)))
    (answer : ∀ ns : List Int, ns.length ≤ n → runD defs k g [.d (.list (ns.map .int))] = .ok (.d (.bool true), [])) :
    PySem.W.WalkO q loose XP YP l.row.toRowW d [] (fun f vs => PySem.call f vs) := by
  refine Att.attach_call hn hdf fun w s₀ st gm bm fa o pm cd doc a us ns G Y ho hd hcd hmg hobj hints hlen hg => ?_
  obtain ⟨K, fd, KX, hb, hF⟩ := F w gm fa _ Y G.T.g hmg
  exact law_callG KX G.T.g G.T.b G.T.builtins G.T.nolimit hg hobj hints (Nat.le_trans hlen hn2) hr hF hb fun T _ rd => law_sp (answer ns hlen) rd
end Vm
set_option maxRecDepth 100000
set_option maxHeartbeats 1000000
namespace Vm
open PySem PySem.Spec L2
/-- (a step that simp is not to take by computing) -/
theorem nr {α : Sort _} {a b : α} (h : a = b) : a = b := h
theorem nri {a b : Prop} (h : a ↔ b) : a ↔ b := h
/-- a name that simp does not look into -/
theorem opq {α : Sort _} (p : α) : ∃ q : α, q = p := ⟨p, rfl⟩
/-! ### what an end is to be -/
structure Po where
  nx : F → Prop := fun _ => False
  rt : RR → F → Prop := fun _ _ => False
  bk : F → Prop := fun _ => False
  ct : F → Prop := fun _ => False
@[irreducible] def Res.Sat {α : Type} (x : Res α) (P : α → Prop) : Prop := match x with
  | .ok a => P a
  | .bad => False
@[irreducible] def Out.Sat (o : Out) (Q : Po) : Prop := match o with
  | .nx f => Q.nx f
  | .rt r f => Q.rt r f
  | .bk f => Q.bk f
  | .ct f => Q.ct f
  | .bad => False
section
variable {α : Type}
theorem sat0_ok (a : α) (P : α → Prop) : (Res.ok a).Sat P = P a := by unfold Res.Sat; rfl
theorem sat0_bad (P : α → Prop) : (Res.bad : Res α).Sat P = False := by unfold Res.Sat; rfl
theorem sat0_some (a : α) (P : α → Prop) : (ofOpt (some a)).Sat P = P a := by unfold Res.Sat; rfl
theorem sat0_none (P : α → Prop) : (ofOpt (none : Option α)).Sat P = False := by unfold Res.Sat; rfl
theorem osat0_nx (f : F) (Q : Po) : (Out.nx f).Sat Q = Q.nx f := by unfold Out.Sat; rfl
theorem osat0_rt (r : RR) (f : F) (Q : Po) : (Out.rt r f).Sat Q = Q.rt r f := by unfold Out.Sat; rfl
theorem osat0_bk (f : F) (Q : Po) : (Out.bk f).Sat Q = Q.bk f := by unfold Out.Sat; rfl
theorem osat0_ct (f : F) (Q : Po) : (Out.ct f).Sat Q = Q.ct f := by unfold Out.Sat; rfl
theorem osat0_bad (Q : Po) : Out.bad.Sat Q = False := by unfold Out.Sat; rfl
end
/-! what comes behind, by names: simp does not look into them before they are reached -/
section
variable {α β γ : Type}
def kSat (f : α → Res β) (P : β → Prop) (a : α) : Prop := (f a).Sat P
def kOs (g : α → Out) (Q : Po) (a : α) : Prop := (g a).Sat Q
def kOn (g : F → Out) (Q : Po) (f : F) : Prop := (g f).Sat Q
def kBd (f : α → Res β) (g : β → Res γ) (a : α) : Res γ := (f a).bind g
def kOb (f : α → Res β) (g : β → Out) (a : α) : Out := Out.of (f a) g
def kOq (g : α → Out) (k : F → Out) (a : α) : Out := (g a).seq k
@[simp] theorem kSat_eq (f : α → Res β) (P : β → Prop) (a : α) : kSat f P a ↔ (f a).Sat P := nri Iff.rfl
@[simp] theorem kOs_eq (g : α → Out) (Q : Po) (a : α) : kOs g Q a ↔ (g a).Sat Q := nri Iff.rfl
@[simp] theorem kOn_eq (g : F → Out) (Q : Po) (f : F) : kOn g Q f ↔ (g f).Sat Q := nri Iff.rfl
@[simp] theorem kBd_eq (f : α → Res β) (g : β → Res γ) (a : α) : kBd f g a = (f a).bind g := nr rfl
@[simp] theorem kOb_eq (f : α → Res β) (g : β → Out) (a : α) : kOb f g a = Out.of (f a) g := nr rfl
@[simp] theorem kOq_eq (g : α → Out) (k : F → Out) (a : α) : kOq g k a = (g a).seq k := nr rfl
end
section
variable {α β : Type}
@[simp] theorem sat_ok (a : α) (P : α → Prop) : (Res.ok a).Sat P ↔ P a := iff_of_eq (sat0_ok a P)
@[simp] theorem sat_bad (P : α → Prop) : (Res.bad : Res α).Sat P ↔ False := iff_of_eq (sat0_bad P)
theorem sat_bind0 (x : Res α) (f : α → Res β) (P : β → Prop) : (x.bind f).Sat P ↔ x.Sat fun a => (f a).Sat P := by
  cases x with
  | ok a => show (f a).Sat P ↔ (Res.ok a).Sat _; rw [sat0_ok]
  | bad => show (Res.bad : Res β).Sat P ↔ (Res.bad : Res α).Sat _; rw [sat0_bad, sat0_bad]
theorem osat_of0 (x : Res α) (g : α → Out) (Q : Po) : (Out.of x g).Sat Q ↔ x.Sat fun a => (g a).Sat Q := by
  cases x with
  | ok a => show (g a).Sat Q ↔ (Res.ok a).Sat _; rw [sat0_ok]
  | bad => show Out.bad.Sat Q ↔ (Res.bad : Res α).Sat _; rw [osat0_bad, sat0_bad]
@[simp] theorem sat_bind (x : Res α) (f : α → Res β) (P : β → Prop) : (x.bind f).Sat P ↔ x.Sat (kSat f P) := by
  rw [sat_bind0]
  exact Iff.rfl
@[simp] theorem sat_some (a : α) (P : α → Prop) : (ofOpt (some a)).Sat P ↔ P a := iff_of_eq (sat0_some a P)
@[simp] theorem sat_none (P : α → Prop) : (ofOpt (none : Option α)).Sat P ↔ False := iff_of_eq (sat0_none P)
theorem Res.Sat.mono {x : Res α} {P Q : α → Prop} (h : x.Sat P) (m : ∀ a, P a → Q a) : x.Sat Q := by
  cases x with
  | ok a => rw [sat0_ok] at h ⊢; exact m a h
  | bad => rw [sat0_bad] at h; exact h.elim
theorem sat_eq {x : Res α} {a : α} (h : x.Sat fun b => b = a) : x = .ok a := by
  cases x with
  | ok b => rw [sat0_ok] at h; exact congrArg Res.ok h
  | bad => rw [sat0_bad] at h; exact h.elim
@[simp] theorem osat_nx (f : F) (Q : Po) : (Out.nx f).Sat Q ↔ Q.nx f := iff_of_eq (osat0_nx f Q)
@[simp] theorem osat_rt (r : RR) (f : F) (Q : Po) : (Out.rt r f).Sat Q ↔ Q.rt r f := iff_of_eq (osat0_rt r f Q)
@[simp] theorem osat_bk (f : F) (Q : Po) : (Out.bk f).Sat Q ↔ Q.bk f := iff_of_eq (osat0_bk f Q)
@[simp] theorem osat_ct (f : F) (Q : Po) : (Out.ct f).Sat Q ↔ Q.ct f := iff_of_eq (osat0_ct f Q)
@[simp] theorem osat_bad (Q : Po) : Out.bad.Sat Q ↔ False := iff_of_eq (osat0_bad Q)
@[simp] theorem osat_of (x : Res α) (g : α → Out) (Q : Po) : (Out.of x g).Sat Q ↔ x.Sat (kOs g Q) := by
  rw [osat_of0]
  exact Iff.rfl
@[simp] theorem osat_seq (x : Out) (g : F → Out) (Q : Po) : (x.seq g).Sat Q ↔ x.Sat { Q with nx := kOn g Q } := by
  cases x with
  | nx f => show (g f).Sat Q ↔ (Out.nx f).Sat _; rw [osat0_nx]; exact Iff.rfl
  | rt r f => show (Out.rt r f).Sat Q ↔ _; rw [osat0_rt, osat0_rt]
  | bk f => show (Out.bk f).Sat Q ↔ _; rw [osat0_bk, osat0_bk]
  | ct f => show (Out.ct f).Sat Q ↔ _; rw [osat0_ct, osat0_ct]
  | bad => show Out.bad.Sat Q ↔ _; rw [osat0_bad, osat0_bad]
theorem Out.Sat.mono {x : Out} {P Q : Po} (h : x.Sat P) (n : ∀ f, P.nx f → Q.nx f) (r : ∀ v f, P.rt v f → Q.rt v f) (b : ∀ f, P.bk f → Q.bk f) (c : ∀ f, P.ct f → Q.ct f) : x.Sat Q := by
  cases x with
  | nx f => rw [osat0_nx] at h ⊢; exact n f h
  | rt v f => rw [osat0_rt] at h ⊢; exact r v f h
  | bk f => rw [osat0_bk] at h ⊢; exact b f h
  | ct f => rw [osat0_ct] at h ⊢; exact c f h
  | bad => rw [osat0_bad] at h; exact h.elim
end
/-! ### loops -/
theorem for_sat {B : F → Out} {t : Tg} {Q : Po} (I : List D → F → Prop) (step : ∀ x xs f, I (x :: xs) f → ∃ ρ1, bindT t x f.ρ = some ρ1 ∧ (B { f with ρ := ρ1 }).Sat { nx := I xs, rt := Q.rt, bk := Q.nx, ct := I xs })
    (fin : ∀ f, I [] f → Q.nx f) : ∀ (xs : List D) (f : F), I xs f → (forLoop B t xs f).Sat Q
  | [], f, h => by with_unfolding_all exact fin f h
  | x :: xs, f, h => by
    obtain ⟨ρ1, e, s⟩ := step x xs f h
    unfold forLoop
    rw [e]
    dsimp only
    revert s
    cases B { f with ρ := ρ1 } with
    | nx f2 => with_unfolding_all exact fun s => for_sat I step fin xs f2 s
    | ct f2 => with_unfolding_all exact fun s => for_sat I step fin xs f2 s
    | bk f2 => with_unfolding_all exact fun s => s
    | rt r f2 => with_unfolding_all exact fun s => s
    | bad => with_unfolding_all exact fun s => s
theorem forK_sat {n : Nat} {ds : List D} {B : F → Out} {t : Tg} {Q : Po} (I : List D → F → Prop) (step : ∀ x xs f, I (x :: xs) f → ∃ ρ1, bindT t x f.ρ = some ρ1 ∧ (B { f with ρ := ρ1 }).Sat { nx := I xs, rt := Q.rt, bk := Q.nx, ct := I xs })
    (fin : ∀ f, I [] f → Q.nx f) (keep : ∀ xs f, I xs f → keepS n ds f = true) : ∀ (xs : List D) (f : F), I xs f → (forLoopK n ds B t xs f).Sat Q
  | [], f, h => by
    unfold forLoopK
    rw [if_pos (keep [] f h)]
    with_unfolding_all exact fin f h
  | x :: xs, f, h => by
    obtain ⟨ρ1, e, s⟩ := step x xs f h
    unfold forLoopK
    rw [if_pos (keep _ f h), e]
    dsimp only
    revert s
    cases B { f with ρ := ρ1 } with
    | nx f2 => with_unfolding_all exact fun s => forK_sat I step fin keep xs f2 s
    | ct f2 => with_unfolding_all exact fun s => forK_sat I step fin keep xs f2 s
    | bk f2 => with_unfolding_all exact fun s => s
    | rt r f2 => with_unfolding_all exact fun s => s
    | bad => with_unfolding_all exact fun s => s
def kW (B : F → Out) (Q : Po) (J : F → Prop) (p : Bool × F) : Prop := if p.1 = true then (B p.2).Sat { nx := J, rt := Q.rt, bk := Q.nx, ct := J } else Q.nx p.2
@[simp] theorem kW_eq (B : F → Out) (Q : Po) (J : F → Prop) (t : Bool) (f : F) : kW B Q J (t, f) ↔ if t = true then (B f).Sat { nx := J, rt := Q.rt, bk := Q.nx, ct := J } else Q.nx f := nri Iff.rfl
theorem whl_sat {C : F → Res (Bool × F)} {B : F → Out} {Q : Po} (I : Nat → F → Prop) (step : ∀ m f, I m f → (C f).Sat (kW B Q (fun f2 => ∃ m2, m2 < m ∧ I m2 f2))) :
    ∀ (n m : Nat) (f : F), m < n → I m f → (whlLoop C B n f).Sat Q
  | 0, m, f, hm, _ => by omega
  | n + 1, m, f, hm, h => by
    unfold whlLoop
    rw [osat_of0]
    with_unfolding_all refine (step m f h).mono ?_
    with_unfolding_all rintro ⟨b, f1⟩ s
    unfold kW at s
    dsimp only at s ⊢
    split
    · rename_i hb
      rw [if_pos hb] at s
      revert s
      cases B f1 with
      | nx f2 => intro s; rw [osat0_nx] at s; obtain ⟨m2, h2, i2⟩ := s; with_unfolding_all exact whl_sat I step n m2 f2 (by omega) i2
      | ct f2 => intro s; rw [osat0_ct] at s; obtain ⟨m2, h2, i2⟩ := s; with_unfolding_all exact whl_sat I step n m2 f2 (by omega) i2
      | bk f2 => with_unfolding_all exact fun s => s
      | rt r f2 => with_unfolding_all exact fun s => s
      | bad => with_unfolding_all exact fun s => s
    · rename_i hb
      rw [if_neg hb] at s
      with_unfolding_all exact s
/-- a comprehension, turn by turn -/
theorem lc_sat {T : F → Res (Bool × F)} {E : F → Res (RV × F)} {t : Tg} {own : List Nat} {Q : List D × F → Prop} (I : List D → List D → F → Prop)
    (step : ∀ x xs acc f, I (x :: xs) acc f → ∃ ρ1, bindT t x f.ρ = some ρ1 ∧ (T { f with ρ := ρ1 }).Sat fun p =>
      if p.1 = true then (E p.2).Sat fun q => (ofOpt (frz q.2 q.1)).Sat fun r => acc.length < 16777216 ∧ I xs (acc ++ [r.1]) { r.2 with ρ := wipeL r.2.ρ own } else I xs acc { p.2 with ρ := wipeL p.2.ρ own })
    (fin : ∀ acc f, I [] acc f → Q (acc, f)) : ∀ (xs acc : List D) (f : F), I xs acc f → (lcLoop T E t own xs acc f).Sat Q
  | [], acc, f, h => by with_unfolding_all exact fin acc f h
  | x :: xs, acc, f, h => by
    obtain ⟨ρ1, e, s⟩ := step x xs acc f h
    unfold lcLoop
    rw [e, sat_bind0, sat_some, sat_bind0]
    with_unfolding_all refine s.mono ?_
    with_unfolding_all rintro ⟨b, f1⟩ s
    dsimp only at s ⊢
    split
    · rename_i hb
      rw [if_pos hb] at s
      rw [sat_bind0]
      with_unfolding_all refine s.mono ?_
      with_unfolding_all rintro ⟨v, f2⟩ s
      dsimp only at s ⊢
      rw [sat_bind0]
      with_unfolding_all refine s.mono ?_
      with_unfolding_all rintro ⟨y, f3⟩ ⟨l, s⟩
      rw [if_pos l]
      with_unfolding_all exact lc_sat I step fin xs _ _ s
    · rename_i hb
      rw [if_neg hb] at s
      with_unfolding_all exact lc_sat I step fin xs _ _ s
/-! ### defs -/
theorem run_sat {defs : List Df} {n g : Nat} {args : List Arg} {d : Df} {P : RR × List SV → Prop} (hd : defs[g]? = some d) (hl : args.length = d.np)
    (h : (xSs (runD defs n) d.body (entry d args)).Sat { nx := fun f => f.S.all SV.ok = true ∧ P (.d .none, f.S), rt := fun r f => f.S.all SV.ok = true ∧ P (r, f.S) }) :
    (runD defs (n + 1) g args).Sat P := by
  unfold runD
  rw [hd]
  dsimp only
  rw [if_pos hl]
  revert h
  cases xSs (runD defs n) d.body (entry d args) with
  | nx f => intro s; rw [osat0_nx] at s; obtain ⟨h1, h2⟩ := s; dsimp only; rw [if_pos h1]; with_unfolding_all exact h2
  | rt r f => intro s; rw [osat0_rt] at s; obtain ⟨h1, h2⟩ := s; dsimp only; rw [if_pos h1]; with_unfolding_all exact h2
  | bk f => with_unfolding_all exact fun h => h.elim
  | ct f => with_unfolding_all exact fun h => h.elim
  | bad => with_unfolding_all exact fun h => h.elim
def finish : Out → Res (RR × List SV)
  | .rt r f => if f.S.all SV.ok = true then .ok (r, f.S) else .bad
  | .nx f => if f.S.all SV.ok = true then .ok (.d .none, f.S) else .bad
  | _ => .bad
@[simp] theorem finish_rt (r : RR) (f : F) : finish (.rt r f) = if f.S.all SV.ok = true then .ok (r, f.S) else .bad := by rw [finish]
@[simp] theorem finish_nx (f : F) : finish (.nx f) = if f.S.all SV.ok = true then .ok (.d .none, f.S) else .bad := by rw [finish]
theorem run_fin {defs : List Df} {n g : Nat} {args : List Arg} {d : Df} (hd : defs[g]? = some d) (hl : args.length = d.np) : runD defs (n + 1) g args = finish (xSs (runD defs n) d.body (entry d args)) := by
  conv => lhs; unfold runD
  rw [hd]
  dsimp only
  rw [if_pos hl]
  rfl
theorem finish_sat {o : Out} {P : RR × List SV → Prop} : (finish o).Sat P ↔ o.Sat { nx := fun f => f.S.all SV.ok = true ∧ P (.d .none, f.S), rt := fun r f => f.S.all SV.ok = true ∧ P (r, f.S) } := by
  cases o with
  | nx f =>
    rw [finish_nx, osat_nx]
    dsimp only
    split
    · rename_i h; with_unfolding_all exact ⟨fun z => ⟨h, z⟩, fun z => z.2⟩
    · rename_i h; with_unfolding_all exact ⟨fun z => z.elim, fun z => h z.1⟩
  | rt r f =>
    rw [finish_rt, osat_rt]
    dsimp only
    split
    · rename_i h; with_unfolding_all exact ⟨fun z => ⟨h, z⟩, fun z => z.2⟩
    · rename_i h; with_unfolding_all exact ⟨fun z => z.elim, fun z => h z.1⟩
  | bk f => with_unfolding_all exact Iff.rfl
  | ct f => with_unfolding_all exact Iff.rfl
  | bad => with_unfolding_all exact Iff.rfl
theorem sat_of_eq {α : Type} {x : Res α} {a : α} (h : x = .ok a) {P : α → Prop} (p : P a) : x.Sat P := by
  rw [h]
  with_unfolding_all exact p
theorem sat_iff {α : Type} {x : Res α} {a : α} : (x.Sat fun b => b = a) ↔ x = .ok a := ⟨sat_eq, fun h => sat_of_eq h rfl⟩
/-- a loop's body, by its place -/
def forB (l : List Sm) (i : Nat) : List Sm := match l[i]? with
  | some (.for _ _ b) => b
  | some (.whl _ b) => b
  | _ => []
def kBody (B : F → Out) (f : F) (Q : Po) (ρ1 : List LV) : Prop := (B { f with ρ := ρ1 }).Sat Q
@[simp] theorem kBody_eq (B : F → Out) (f : F) (Q : Po) (ρ1 : List LV) : kBody B f Q ρ1 ↔ (B { f with ρ := ρ1 }).Sat Q := nri Iff.rfl
/-- a turn of a comprehension -/
def kT (T : F → Res (Bool × F)) (f : F) (P : Bool × F → Prop) (ρ1 : List LV) : Prop := (T { f with ρ := ρ1 }).Sat P
@[simp] theorem kT_eq (T : F → Res (Bool × F)) (f : F) (P : Bool × F → Prop) (ρ1 : List LV) : kT T f P ρ1 ↔ (T { f with ρ := ρ1 }).Sat P := nri Iff.rfl
def kE2 (own : List Nat) (J : D → F → Prop) (r : D × F) : Prop := J r.1 { r.2 with ρ := wipeL r.2.ρ own }
@[simp] theorem kE2_eq (own : List Nat) (J : D → F → Prop) (x : D) (f : F) : kE2 own J (x, f) ↔ J x { f with ρ := wipeL f.ρ own } := nri Iff.rfl
def kE1 (own : List Nat) (J : D → F → Prop) (q : RV × F) : Prop := (ofOpt (frz q.2 q.1)).Sat (kE2 own J)
@[simp] theorem kE1_eq (own : List Nat) (J : D → F → Prop) (r : RV) (f : F) : kE1 own J (r, f) ↔ (ofOpt (frz f r)).Sat (kE2 own J) := nri Iff.rfl
/-- the test told t: then the element, or on -/
def kTE (E : F → Res (RV × F)) (own : List Nat) (J : D → F → Prop) (N : F → Prop) (p : Bool × F) : Prop := if p.1 = true then (E p.2).Sat (kE1 own J) else N { p.2 with ρ := wipeL p.2.ρ own }
@[simp] theorem kTE_eq (E : F → Res (RV × F)) (own : List Nat) (J : D → F → Prop) (N : F → Prop) (t : Bool) (f : F) : kTE E own J N (t, f) ↔ if t = true then (E f).Sat (kE1 own J) else N { f with ρ := wipeL f.ρ own } := nri Iff.rfl
/-- the same where nothing changes -/
def kTP (E : F → Res (RV × F)) (own : List Nat) (f0 : F) (b : Bool) (x : D) (p : Bool × F) : Prop := p.1 = b ∧ ({ p.2 with ρ := wipeL p.2.ρ own } : F) = f0 ∧ (b = true → (E p.2).Sat (kE1 own fun y f => y = x ∧ f = f0))
@[simp] theorem kTP_eq (E : F → Res (RV × F)) (own : List Nat) (f0 : F) (b t : Bool) (x : D) (f : F) : kTP E own f0 b x (t, f) ↔ t = b ∧ ({ f with ρ := wipeL f.ρ own } : F) = f0 ∧ (b = true → (E f).Sat (kE1 own fun y f => y = x ∧ f = f0)) := nri Iff.rfl
/-- a comprehension whose turns change nothing -/
theorem lc_pure {α : Type} {T : F → Res (Bool × F)} {E : F → Res (RV × F)} {t : Tg} {own : List Nat} (inj : α → D) (p : α → Bool) (g : α → D) (xs : List α) (f : F) (hl : xs.length ≤ 16777216)
    (h : ∀ x ∈ xs, (ofOpt (bindT t (inj x) f.ρ)).Sat (kT T f (kTP E own f (p x) (g x)))) :
    lcLoop T E t own (xs.map inj) [] f = .ok ((xs.filter p).map g, f) := by
  apply sat_eq
  with_unfolding_all refine lc_sat (fun l acc f' => f' = f ∧ ∃ ys zs, xs = ys ++ zs ∧ l = zs.map inj ∧ acc = (ys.filter p).map g) ?_ ?_ _ _ _ ⟨rfl, [], xs, rfl, rfl, rfl⟩
  · with_unfolding_all rintro x l acc f' ⟨rfl, ys, zs, e1, e2, rfl⟩
    cases zs with
    | nil => cases e2
    | cons z zs =>
      rw [List.map_cons, List.cons.injEq] at e2
      obtain ⟨rfl, rfl⟩ := e2
      have h0 := h z (by rw [e1]; simp)
      cases e : bindT t (inj z) f'.ρ with
      | none => rw [e] at h0; with_unfolding_all exact h0.elim
      | some ρ1 =>
        rw [e, sat_some] at h0
        with_unfolding_all refine ⟨ρ1, rfl, h0.mono ?_⟩
        with_unfolding_all rintro ⟨b, f1⟩ ⟨h2, h3, h4⟩
        dsimp only at h2 h3 h4 ⊢
        subst h2
        split
        · rename_i hp
          with_unfolding_all refine (h4 hp).mono ?_
          with_unfolding_all rintro ⟨v, f2⟩ k
          with_unfolding_all refine k.mono ?_
          with_unfolding_all rintro ⟨y, f3⟩ ⟨k2, k3⟩
          dsimp only at k2 k3 ⊢
          subst k2
          with_unfolding_all refine ⟨?_, k3, ys ++ [z], zs, by simp [e1], rfl, by simp [List.filter_append, hp]⟩
          have h1 := List.length_filter_le p ys
          rw [e1] at hl
          simp at hl ⊢
          omega
        · rename_i hp
          with_unfolding_all exact ⟨h3, ys ++ [z], zs, by simp [e1], rfl, by simp [List.filter_append, hp]⟩
  · with_unfolding_all rintro acc f' ⟨rfl, ys, zs, e1, e2, rfl⟩
    cases zs with
    | nil => simp [e1]
    | cons z zs => cases e2
/-! ### loops by a place -/
theorem for_idx {B : F → Out} {t : Tg} {Q : Po} (l : List D) (J : Nat → F → Prop) (f0 : F) (h0 : J 0 f0)
    (step : ∀ k (hk : k < l.length) f, J k f → (ofOpt (bindT t l[k] f.ρ)).Sat (kBody B f { nx := J (k + 1), rt := Q.rt, bk := Q.nx, ct := J (k + 1) })) (fin : ∀ f, J l.length f → Q.nx f) : (forLoop B t l f0).Sat Q := by
  with_unfolding_all refine for_sat (fun r f => ∃ k, r = l.drop k ∧ k ≤ l.length ∧ J k f) ?_ ?_ l f0 ⟨0, rfl, Nat.zero_le _, h0⟩
  · with_unfolding_all rintro x xs f ⟨k, e, hk, j⟩
    have hk2 : k < l.length := by
      have := congrArg List.length e
      simp at this
      omega
    rw [List.drop_eq_getElem_cons hk2, List.cons.injEq] at e
    obtain ⟨rfl, rfl⟩ := e
    have s := step k hk2 f j
    cases e : bindT t l[k] f.ρ with
    | none => rw [e] at s; with_unfolding_all exact s.elim
    | some ρ1 =>
      rw [e, sat_some] at s
      with_unfolding_all exact ⟨ρ1, rfl, s.mono (fun f h => ⟨k + 1, rfl, hk2, h⟩) (fun _ _ h => h) (fun _ h => h) fun f h => ⟨k + 1, rfl, hk2, h⟩⟩
  · with_unfolding_all rintro f ⟨k, e, hk, j⟩
    have := congrArg List.length e
    simp at this
    have : k = l.length := by omega
    subst this
    exact fin f j
theorem forK_idx {n : Nat} {ds : List D} {B : F → Out} {t : Tg} {Q : Po} (l : List D) (J : Nat → F → Prop) (f0 : F) (h0 : J 0 f0)
    (step : ∀ k (hk : k < l.length) f, J k f → (ofOpt (bindT t l[k] f.ρ)).Sat (kBody B f { nx := J (k + 1), rt := Q.rt, bk := Q.nx, ct := J (k + 1) })) (fin : ∀ f, J l.length f → Q.nx f) (keep : ∀ k f, J k f → keepS n ds f = true) : (forLoopK n ds B t l f0).Sat Q := by
  with_unfolding_all refine forK_sat (fun r f => ∃ k, r = l.drop k ∧ k ≤ l.length ∧ J k f) ?_ ?_ (fun _ f h => by obtain ⟨k, _, _, j⟩ := h; exact keep k f j) l f0 ⟨0, rfl, Nat.zero_le _, h0⟩
  · with_unfolding_all rintro x xs f ⟨k, e, hk, j⟩
    have hk2 : k < l.length := by
      have := congrArg List.length e
      simp at this
      omega
    rw [List.drop_eq_getElem_cons hk2, List.cons.injEq] at e
    obtain ⟨rfl, rfl⟩ := e
    have s := step k hk2 f j
    cases e : bindT t l[k] f.ρ with
    | none => rw [e] at s; with_unfolding_all exact s.elim
    | some ρ1 =>
      rw [e, sat_some] at s
      with_unfolding_all exact ⟨ρ1, rfl, s.mono (fun f h => ⟨k + 1, rfl, hk2, h⟩) (fun _ _ h => h) (fun _ h => h) fun f h => ⟨k + 1, rfl, hk2, h⟩⟩
  · with_unfolding_all rintro f ⟨k, e, hk, j⟩
    have := congrArg List.length e
    simp at this
    have : k = l.length := by omega
    subst this
    exact fin f j
theorem lc_idx {T : F → Res (Bool × F)} {E : F → Res (RV × F)} {t : Tg} {own : List Nat} {Q : List D × F → Prop} (l : List D) (J : Nat → List D → F → Prop) (f0 : F) (h0 : J 0 [] f0)
    (step : ∀ k (hk : k < l.length) acc f, J k acc f → (ofOpt (bindT t l[k] f.ρ)).Sat (kT T f (kTE E own (fun x f => acc.length < 16777216 ∧ J (k + 1) (acc ++ [x]) f) (J (k + 1) acc))))
    (fin : ∀ acc f, J l.length acc f → Q (acc, f)) : (lcLoop T E t own l [] f0).Sat Q := by
  with_unfolding_all refine lc_sat (fun r acc f => ∃ k, r = l.drop k ∧ k ≤ l.length ∧ J k acc f) ?_ ?_ l [] f0 ⟨0, rfl, Nat.zero_le _, h0⟩
  · with_unfolding_all rintro x xs acc f ⟨k, e, hk, j⟩
    have hk2 : k < l.length := by
      have := congrArg List.length e
      simp at this
      omega
    rw [List.drop_eq_getElem_cons hk2, List.cons.injEq] at e
    obtain ⟨rfl, rfl⟩ := e
    have s := step k hk2 acc f j
    cases e : bindT t l[k] f.ρ with
    | none => rw [e] at s; with_unfolding_all exact s.elim
    | some ρ1 =>
      rw [e, sat_some] at s
      with_unfolding_all refine ⟨ρ1, rfl, s.mono ?_⟩
      with_unfolding_all rintro ⟨b, f1⟩ s
      rw [kTE_eq] at s
      dsimp only at s ⊢
      split
      · rename_i hb
        rw [if_pos hb] at s
        with_unfolding_all refine s.mono ?_
        with_unfolding_all rintro ⟨v, f2⟩ s
        with_unfolding_all refine s.mono ?_
        with_unfolding_all rintro ⟨y, f3⟩ ⟨s1, s2⟩
        with_unfolding_all exact ⟨s1, k + 1, rfl, hk2, s2⟩
      · rename_i hb
        rw [if_neg hb] at s
        with_unfolding_all exact ⟨k + 1, rfl, hk2, s⟩
  · with_unfolding_all rintro acc f ⟨k, e, hk, j⟩
    have := congrArg List.length e
    simp at this
    have : k = l.length := by omega
    subst this
    exact fin acc f j
/-- a comprehension of two clauses, by the places; J: ahead of an outer turn, J1: ahead of an inner one -/
def kJ2 (I1 : F → Res (List D × F)) (P : List D × F → Prop) (N : F → Prop) (own : List Nat) (p : Bool × F) : Prop := if p.1 = true then (I1 p.2).Sat P else N { p.2 with ρ := wipeL p.2.ρ own }
@[simp] theorem kJ2_eq (I1 : F → Res (List D × F)) (P : List D × F → Prop) (N : F → Prop) (own : List Nat) (t : Bool) (f : F) : kJ2 I1 P N own (t, f) ↔ if t = true then (I1 f).Sat P else N { f with ρ := wipeL f.ρ own } := nri Iff.rfl
def kIn (L : List D → F → Res (List D × F)) (own1 : List Nat) (P : List D × F → Prop) (q : List D × F) : Prop := (L q.1 { q.2 with ρ := wipeL q.2.ρ own1 }).Sat P
@[simp] theorem kIn_eq (L : List D → F → Res (List D × F)) (own1 : List Nat) (P : List D × F → Prop) (ys : List D) (f : F) : kIn L own1 P (ys, f) ↔ (L ys { f with ρ := wipeL f.ρ own1 }).Sat P := nri Iff.rfl
def kOut (J : List D → F → Prop) (own : List Nat) (r : List D × F) : Prop := J r.1 { r.2 with ρ := wipeL r.2.ρ own }
@[simp] theorem kOut_eq (J : List D → F → Prop) (own : List Nat) (acc : List D) (f : F) : kOut J own (acc, f) ↔ J acc { f with ρ := wipeL f.ρ own } := nri Iff.rfl
theorem lc2_idx {T : F → Res (Bool × F)} {I1 : F → Res (List D × F)} {T1 : F → Res (Bool × F)} {E : F → Res (RV × F)} {t t1 : Tg} {own own1 : List Nat} {Q : List D × F → Prop} (l : List D) (J : Nat → List D → F → Prop) (f0 : F) (h0 : J 0 [] f0)
    (step : ∀ k (hk : k < l.length) acc f, J k acc f → (ofOpt (bindT t l[k] f.ρ)).Sat (kT T f (kJ2 I1 (kIn (fun ys f => lcLoop T1 E t1 own1 ys acc f) own1 (kOut (J (k + 1)) own)) (J (k + 1) acc) own)))
    (fin : ∀ acc f, J l.length acc f → Q (acc, f)) : (lc2Loop T I1 T1 E t t1 own own1 l [] f0).Sat Q := by
  have main : ∀ (m k : Nat) (acc : List D) (f : F), l.length - k = m → k ≤ l.length → J k acc f → (lc2Loop T I1 T1 E t t1 own own1 (l.drop k) acc f).Sat Q := by
    intro m
    induction m with
    | zero =>
      intro k acc f e hk j
      have : k = l.length := by omega
      subst this
      rw [List.drop_length]
      unfold lc2Loop
      rw [sat0_ok]
      exact fin acc f j
    | succ m ih =>
      intro k acc f e hk j
      have hk2 : k < l.length := by omega
      rw [List.drop_eq_getElem_cons hk2]
      unfold lc2Loop
      rw [sat_bind0]
      refine (step k hk2 acc f j).mono fun ρ1 s => ?_
      rw [kT_eq] at s
      rw [sat_bind0]
      refine s.mono ?_
      rintro ⟨b, f1⟩ s
      rw [kJ2_eq] at s
      dsimp only
      split
      · rename_i hb
        rw [if_pos hb] at s
        rw [sat_bind0]
        refine s.mono ?_
        rintro ⟨ys, f2⟩ s
        rw [kIn_eq] at s
        rw [sat_bind0]
        refine s.mono ?_
        rintro ⟨acc', f3⟩ s
        rw [kOut_eq] at s
        exact ih (k + 1) _ _ (by omega) hk2 s
      · rename_i hb
        rw [if_neg hb] at s
        exact ih (k + 1) _ _ (by omega) hk2 s
  exact main _ 0 [] f0 rfl (Nat.zero_le _) h0
/-- lc_idx from any beginning -/
theorem lc_idxA {T : F → Res (Bool × F)} {E : F → Res (RV × F)} {t : Tg} {own : List Nat} {Q : List D × F → Prop} (l : List D) (acc0 : List D) (J : Nat → List D → F → Prop) (f0 : F) (h0 : J 0 acc0 f0)
    (step : ∀ k (hk : k < l.length) acc f, J k acc f → (ofOpt (bindT t l[k] f.ρ)).Sat (kT T f (kTE E own (fun x f => acc.length < 16777216 ∧ J (k + 1) (acc ++ [x]) f) (J (k + 1) acc))))
    (fin : ∀ acc f, J l.length acc f → Q (acc, f)) : (lcLoop T E t own l acc0 f0).Sat Q := by
  refine lc_sat (fun r acc f => ∃ k, r = l.drop k ∧ k ≤ l.length ∧ J k acc f) ?_ ?_ l acc0 f0 ⟨0, rfl, Nat.zero_le _, h0⟩
  · rintro x xs acc f ⟨k, e, hk, j⟩
    have hk2 : k < l.length := by
      have := congrArg List.length e
      simp at this
      omega
    rw [List.drop_eq_getElem_cons hk2, List.cons.injEq] at e
    obtain ⟨rfl, rfl⟩ := e
    have s := step k hk2 acc f j
    cases e : bindT t l[k] f.ρ with
    | none => rw [e, sat_none] at s; exact s.elim
    | some ρ1 =>
      rw [e, sat_some, kT_eq] at s
      refine ⟨ρ1, rfl, s.mono ?_⟩
      rintro ⟨b, f1⟩ s
      rw [kTE_eq] at s
      dsimp only at s ⊢
      split
      · rename_i hb
        rw [if_pos hb] at s
        refine s.mono ?_
        rintro ⟨v, f2⟩ s
        rw [kE1_eq] at s
        refine s.mono ?_
        rintro ⟨y, f3⟩ s
        rw [kE2_eq] at s
        exact ⟨s.1, k + 1, rfl, hk2, s.2⟩
      · rename_i hb
        rw [if_neg hb] at s
        exact ⟨k + 1, rfl, hk2, s⟩
  · rintro acc f ⟨k, e, hk, j⟩
    have := congrArg List.length e
    simp at this
    have : k = l.length := by omega
    subst this
    exact fin acc f j
@[simp] theorem zipL_length (xs ys : List D) : (zipL xs ys).length = min xs.length ys.length := by
  induction xs generalizing ys with
  | nil => simp [zipL]
  | cons x xs ih => cases ys with
    | nil => simp [zipL]
    | cons y ys => simp [zipL, ih]
theorem zipL_eq (xs ys : List D) : zipL xs ys = (xs.zip ys).map fun p => .tuple [p.1, p.2] := by
  induction xs generalizing ys with
  | nil => simp [zipL]
  | cons x xs ih => cases ys with
    | nil => simp [zipL]
    | cons y ys => simp [zipL, ih]
@[simp] theorem enumL_length (n : Nat) (ds : List D) : (enumL n ds).length = ds.length := by
  induction ds generalizing n with
  | nil => rfl
  | cons d ds ih => simp [enumL, ih]
@[simp] theorem enumL_at (n : Nat) (ds : List D) (k : Nat) (h : k < (enumL n ds).length) : (enumL n ds)[k] = .tuple [.int ((n + k : Nat) : Int), ds[k]'(by rw [enumL_length] at h; with_unfolding_all exact h)] := by
  induction ds generalizing n k with
  | nil => simp at h
  | cons d ds ih =>
    cases k with
    | zero => simp [enumL]
    | succ k =>
      simp only [enumL, List.getElem_cons_succ]
      rw [ih]
      simp
      omega
@[simp] theorem rangeL_length (a b : Int) : (rangeL a b).length = (b - a).toNat := by simp [rangeL]
@[simp] theorem rangeL_get (a b : Int) (k : Nat) (h : k < (rangeL a b).length) : (rangeL a b)[k] = .int (a + (k : Int)) := by simp [rangeL]
@[simp] theorem bind_assoc' {α β γ : Type} (x : Res α) (f : α → Res β) (g : β → Res γ) : (x.bind f).bind g = x.bind (kBd f g) := by
  cases x <;> rfl
@[simp] theorem of_bind {α β : Type} (x : Res α) (f : α → Res β) (g : β → Out) : Out.of (x.bind f) g = Out.of x (kOb f g) := by
  cases x <;> rfl
@[simp] theorem of_seq {α : Type} (x : Res α) (g : α → Out) (k : F → Out) : (Out.of x g).seq k = Out.of x (kOq g k) := by
  cases x <;> rfl
end Vm
set_option maxRecDepth 100000
set_option maxHeartbeats 1000000
namespace Vm
open PySem PySem.Spec L2
/-! ### the evaluator's equations, for simp -/
section
variable {α β : Type}
@[simp] theorem rbnd_ok (a : α) (f : α → Res β) : (Res.ok a).bind f = f a := nr rfl
@[simp] theorem bind_bad (f : α → Res β) : (Res.bad : Res α).bind f = .bad := nr rfl
@[simp] theorem ofOpt_some (a : α) : ofOpt (some a) = .ok a := nr rfl
@[simp] theorem ofOpt_none : ofOpt (none : Option α) = .bad := nr rfl
@[simp] theorem of_ok (a : α) (g : α → Out) : Out.of (.ok a) g = g a := nr rfl
@[simp] theorem of_bad (g : α → Out) : Out.of (.bad : Res α) g = .bad := nr rfl
@[simp] theorem seq_nx (f : F) (g : F → Out) : (Out.nx f).seq g = g f := nr rfl
@[simp] theorem seq_rt (r : RR) (f : F) (g : F → Out) : (Out.rt r f).seq g = .rt r f := nr rfl
@[simp] theorem seq_bk (f : F) (g : F → Out) : (Out.bk f).seq g = .bk f := nr rfl
@[simp] theorem seq_ct (f : F) (g : F → Out) : (Out.ct f).seq g = .ct f := nr rfl
@[simp] theorem seq_bad (g : F → Out) : Out.bad.seq g = .bad := nr rfl
@[simp] theorem rv_d (x : D) : (RR.d x).rv = .d x := nr rfl
@[simp] theorem rv_fr (o : Ob) : (RR.fr o).rv = .fr o := nr rfl
@[simp] theorem norm_none : norm .none = .none := nr rfl
@[simp] theorem norm_bool (b : Bool) : norm (.bool b) = .bool b := nr rfl
@[simp] theorem norm_int (i : Int) : norm (.int i) = .int i := nr rfl
@[simp] theorem norm_str (s : Str) : norm (.str s) = .str s := nr rfl
@[simp] theorem norm_list (l : List D) : norm (.list l) = .list l := nr rfl
@[simp] theorem norm_tuple (l : List D) : norm (.tuple l) = .tuple l := nr rfl
@[simp] theorem norm_pl (l : List D) : norm (pl l) = .tuple l := nr rfl
@[simp] theorem norm_dnil : norm (.dict []) = .dict [] := nr rfl
@[simp] theorem norm_dct (kvs : List (Key × D)) : norm (.dict (kvs.map fun p => (kD p.1, p.2))) = .dict (kvs.map fun p => (kD p.1, p.2)) := by
  match kvs with
  | [] => rfl
  | [(k, x)] => cases k <;> rfl
  | p :: q :: r =>
    obtain ⟨k, x⟩ := p
    cases k <;> rfl
@[simp] theorem norm_ite (c : Prop) [Decidable c] (x y : D) : norm (if c then x else y) = if c then norm x else norm y := by split <;> rfl
@[simp] theorem isPl_none : isPl .none = false := nr rfl
@[simp] theorem isPl_bool (b : Bool) : isPl (.bool b) = false := nr rfl
@[simp] theorem isPl_int (i : Int) : isPl (.int i) = false := nr rfl
@[simp] theorem isPl_str (s : Str) : isPl (.str s) = false := nr rfl
@[simp] theorem isPl_list (l : List D) : isPl (.list l) = false := nr rfl
@[simp] theorem isPl_tuple (l : List D) : isPl (.tuple l) = false := nr rfl
@[simp] theorem isPl_pl (l : List D) : isPl (pl l) = true := nr rfl
@[simp] theorem isPl_dnil : isPl (.dict []) = false := nr rfl
@[simp] theorem isPl_dct (kvs : List (Key × D)) : isPl (.dict (kvs.map fun p => (kD p.1, p.2))) = false := by
  match kvs with
  | [] => rfl
  | [(k, x)] => cases k <;> rfl
  | p :: q :: r =>
    obtain ⟨k, x⟩ := p
    cases k <;> rfl
@[simp] theorem view_d (f : F) (x : D) : view f (.d x) = some (norm x) := nr rfl
@[simp] theorem view_fr (f : F) (o : Ob) : view f (.fr o) = some o.d := nr rfl
@[simp] theorem view_vr (f : F) (i : Nat) : view f (.vr i) = slotD f.ρ[i]? := nr rfl
@[simp] theorem view_ce (f : F) (i : Nat) : view f (.ce i) = cellD f.S[i]? := nr rfl
@[simp] theorem slotD_d (x : D) : slotD (some (.d x)) = some (norm x) := nr rfl
@[simp] theorem slotD_own (o : Ob) : slotD (some (.own o)) = some o.d := nr rfl
@[simp] theorem cellD_d (x : D) : cellD (some (.d x)) = some x := nr rfl
@[simp] theorem cellD_own (o : Ob) : cellD (some (.own o)) = some o.d := nr rfl
@[simp] theorem obd_lst (xs : List D) : (Ob.lst xs).d = .list xs := nr rfl
@[simp] theorem obd_dct (kvs : List (Key × D)) : (Ob.dct kvs).d = .dict (kvs.map fun p => (kD p.1, p.2)) := nr rfl
@[simp] theorem frz_d (f : F) (x : D) : frz f (.d x) = some (norm x, f) := nr rfl
@[simp] theorem frz_fr (f : F) (o : Ob) : frz f (.fr o) = some (o.d, f) := nr rfl
@[simp] theorem frz_vr (f : F) (i : Nat) : frz f (.vr i) = (match f.ρ[i]? with
    | some (.own o) => some (o.d, { f with ρ := f.ρ.set i (.d o.d) })
    | some (.d x) => some (norm x, f)
    | _ => none) := nr rfl
@[simp] theorem frz_ce (f : F) (n : Nat) : frz f (.ce n) = (match f.S[n]? with
    | some (.own o) => some (o.d, { f with S := f.S.set n (.d o.d) })
    | some (.d x) => some (x, f)
    | _ => none) := nr rfl
@[simp] theorem views_nil (f : F) : views f [] = some [] := nr rfl
@[simp] theorem views_cons (f : F) (r : RV) (rs : List RV) : views f (r :: rs) = (view f r).bind fun x => (views f rs).bind fun xs => some (x :: xs) := nr rfl
@[simp] theorem frzs_nil (f : F) : frzs f [] = some ([], f) := nr rfl
@[simp] theorem frzs_cons (f : F) (r : RV) (rs : List RV) : frzs f (r :: rs) = (frz f r).bind fun p => (frzs p.2 rs).bind fun q => some (p.1 :: q.1, q.2) := nr rfl
end
/-- small enough -/
def szB (n : Nat) : Bool := decide (n ≤ 16777216)
def szL (n : Nat) : Bool := decide (n < 16777216)
theorem szB_of {n : Nat} (h : n ≤ 16777216) : szB n = true := decide_eq_true h
theorem szL_of {n : Nat} (h : n < 16777216) : szL n = true := decide_eq_true h
theorem ite_szB {α : Type} {n : Nat} {a b : α} : (if n ≤ 16777216 then a else b) = if szB n = true then a else b := by
  by_cases h : n ≤ 16777216
  · rw [if_pos h, if_pos (szB_of h)]
  · rw [if_neg h, if_neg (show ¬ szB n = true from fun z => h (of_decide_eq_true z))]
theorem ite_szL {α : Type} {n : Nat} {a b : α} : (if n < 16777216 then a else b) = if szL n = true then a else b := by
  by_cases h : n < 16777216
  · rw [if_pos h, if_pos (szL_of h)]
  · rw [if_neg h, if_neg (show ¬ szL n = true from fun z => h (of_decide_eq_true z))]
@[simp] theorem szB_0 : szB 0 = true := szB_of (by omega)
@[simp] theorem szL_0 : szL 0 = true := szL_of (by omega)
@[simp] theorem szB_1 : szB 1 = true := szB_of (by omega)
@[simp] theorem szL_1 : szL 1 = true := szL_of (by omega)
@[simp] theorem szB_2 : szB 2 = true := szB_of (by omega)
@[simp] theorem szL_2 : szL 2 = true := szL_of (by omega)
@[simp] theorem szB_3 : szB 3 = true := szB_of (by omega)
@[simp] theorem szL_3 : szL 3 = true := szL_of (by omega)
@[simp] theorem szB_4 : szB 4 = true := szB_of (by omega)
@[simp] theorem szL_4 : szL 4 = true := szL_of (by omega)
@[simp] theorem szB_5 : szB 5 = true := szB_of (by omega)
@[simp] theorem szL_5 : szL 5 = true := szL_of (by omega)
@[simp] theorem szB_6 : szB 6 = true := szB_of (by omega)
@[simp] theorem szL_6 : szL 6 = true := szL_of (by omega)
@[simp] theorem szB_7 : szB 7 = true := szB_of (by omega)
@[simp] theorem szL_7 : szL 7 = true := szL_of (by omega)
@[simp] theorem szB_8 : szB 8 = true := szB_of (by omega)
@[simp] theorem szL_8 : szL 8 = true := szL_of (by omega)
@[simp] theorem szB_9 : szB 9 = true := szB_of (by omega)
@[simp] theorem szL_9 : szL 9 = true := szL_of (by omega)
@[simp] theorem szB_10 : szB 10 = true := szB_of (by omega)
@[simp] theorem szL_10 : szL 10 = true := szL_of (by omega)
@[simp] theorem szB_11 : szB 11 = true := szB_of (by omega)
@[simp] theorem szL_11 : szL 11 = true := szL_of (by omega)
@[simp] theorem szB_12 : szB 12 = true := szB_of (by omega)
@[simp] theorem szL_12 : szL 12 = true := szL_of (by omega)
@[simp] theorem szB_13 : szB 13 = true := szB_of (by omega)
@[simp] theorem szL_13 : szL 13 = true := szL_of (by omega)
@[simp] theorem szB_14 : szB 14 = true := szB_of (by omega)
@[simp] theorem szL_14 : szL 14 = true := szL_of (by omega)
@[simp] theorem szB_15 : szB 15 = true := szB_of (by omega)
@[simp] theorem szL_15 : szL 15 = true := szL_of (by omega)
@[simp] theorem szB_16 : szB 16 = true := szB_of (by omega)
@[simp] theorem szL_16 : szL 16 = true := szL_of (by omega)
@[simp] theorem szB_17 : szB 17 = true := szB_of (by omega)
@[simp] theorem szL_17 : szL 17 = true := szL_of (by omega)
@[simp] theorem szB_18 : szB 18 = true := szB_of (by omega)
@[simp] theorem szL_18 : szL 18 = true := szL_of (by omega)
@[simp] theorem szB_19 : szB 19 = true := szB_of (by omega)
@[simp] theorem szL_19 : szL 19 = true := szL_of (by omega)
@[simp] theorem szB_20 : szB 20 = true := szB_of (by omega)
@[simp] theorem szL_20 : szL 20 = true := szL_of (by omega)
@[simp] theorem szB_21 : szB 21 = true := szB_of (by omega)
@[simp] theorem szL_21 : szL 21 = true := szL_of (by omega)
@[simp] theorem szB_22 : szB 22 = true := szB_of (by omega)
@[simp] theorem szL_22 : szL 22 = true := szL_of (by omega)
@[simp] theorem szB_23 : szB 23 = true := szB_of (by omega)
@[simp] theorem szL_23 : szL 23 = true := szL_of (by omega)
@[simp] theorem szB_24 : szB 24 = true := szB_of (by omega)
@[simp] theorem szL_24 : szL 24 = true := szL_of (by omega)
/-- a range's bounds are small -/
def okR (a b : Int) : Bool := bnd a && bnd b && decide (b - a ≤ 16777216)
theorem okR_2 {a b : Int} : okR a b = true ↔ bnd a = true ∧ bnd b = true ∧ b - a ≤ 16777216 := by
  unfold okR
  rw [Bool.and_eq_true, Bool.and_eq_true, decide_eq_true_eq, and_assoc]
theorem okR_0 {b : Int} : okR 0 b = true ↔ bnd b = true ∧ b ≤ 16777216 := by
  rw [okR_2, Int.sub_zero]
  constructor
  · rintro ⟨_, h⟩; exact h
  · intro h; exact ⟨by decide, h⟩
theorem okR_of {a b : Int} (h1 : -16777216 ≤ a) (h2 : a ≤ 1073741824) (h3 : -16777216 ≤ b) (h4 : b ≤ 1073741824) (h5 : b - a ≤ 16777216) : okR a b = true := by
  rw [okR_2]
  unfold bnd
  simp only [Bool.and_eq_true, decide_eq_true_eq]
  omega
def rng1 : D → F → Res (List D × F)
  | .int b, f => if okR 0 b = true then .ok (rangeL 0 b, f) else .bad
  | _, _ => .bad
def rng2 : D → D → F → Res (List D × F)
  | .int a, .int b, f => if okR a b = true then .ok (rangeL a b, f) else .bad
  | _, _, _ => .bad
@[simp] theorem rng1_int (b : Int) (f : F) : rng1 (.int b) f = if okR 0 b = true then .ok (rangeL 0 b, f) else .bad := by rw [rng1]
@[simp] theorem rng2_int (a b : Int) (f : F) : rng2 (.int a) (.int b) f = if okR a b = true then .ok (rangeL a b, f) else .bad := by rw [rng2]
section
variable (G : Call) (f : F)
@[simp] theorem evE_k (x : D) : evE G (.k x) f = .ok (.d x, f) := by rw [evE]
def kV (i : Nat) (f : F) : Option LV → Res (RV × F)
  | some (.d x) => .ok (.d x, f)
  | some (.own _) => .ok (.vr i, f)
  | some (.c n) => .ok (.ce n, f)
  | _ => .bad
@[simp] theorem kV_d (i : Nat) (x : D) : kV i f (some (.d x)) = .ok (.d x, f) := nr rfl
@[simp] theorem kV_own (i : Nat) (o : Ob) : kV i f (some (.own o)) = .ok (.vr i, f) := nr rfl
@[simp] theorem kV_c (i n : Nat) : kV i f (some (.c n)) = .ok (.ce n, f) := nr rfl
@[simp] theorem evE_v (i : Nat) : evE G (.v i) f = kV i f f.ρ[i]? := by rw [evE] <;> rfl
@[simp] theorem evEs_nil : evEs G [] f = .ok ([], f) := by rw [evEs]
def kCons (r : RV) (q : List RV × F) : Res (List RV × F) := .ok (r :: q.1, q.2)
@[simp] theorem kCons_eq (r : RV) (rs : List RV) : kCons r (rs, f) = .ok (r :: rs, f) := nr rfl
def kEs (G : Call) (es : List Ex) (p : RV × F) : Res (List RV × F) := (evEs G es p.2).bind (kCons p.1)
@[simp] theorem kEs_eq (es : List Ex) (r : RV) : kEs G es (r, f) = (evEs G es f).bind (kCons r) := nr rfl
@[simp] theorem evEs_cons (e : Ex) (es : List Ex) : evEs G (e :: es) f = (evE G e f).bind (kEs G es) := by rw [evEs]; rfl
def kRr (f : F) (r : RR) : Res (RV × F) := .ok (r.rv, f)
@[simp] theorem kRr_d (x : D) : kRr f (.d x) = .ok (.d x, f) := nr rfl
@[simp] theorem kRr_fr (o : Ob) : kRr f (.fr o) = .ok (.fr o, f) := nr rfl
def kOp (o : Op) (p : List RV × F) : Res (RV × F) := (ofOpt ((views p.2 p.1).bind o.run)).bind (kRr p.2)
@[simp] theorem kOp_eq (o : Op) (rs : List RV) : kOp o (rs, f) = (ofOpt ((views f rs).bind o.run)).bind (kRr f) := nr rfl
@[simp] theorem evE_op (o : Op) (es : List Ex) : evE G (.op o es) f = (evEs G es f).bind (kOp o) := by rw [evE]; rfl
def kTup2 (q : List D × F) : Res (RV × F) := if q.1.length ≤ 16777216 then .ok (.d (.tuple q.1), q.2) else .bad
@[simp] theorem kTup2_eq (ds : List D) : kTup2 (ds, f) = if szB ds.length = true then .ok (.d (.tuple ds), f) else .bad := ite_szB
def kTup (p : List RV × F) : Res (RV × F) := (ofOpt (frzs p.2 p.1)).bind kTup2
@[simp] theorem kTup_eq (rs : List RV) : kTup (rs, f) = (ofOpt (frzs f rs)).bind kTup2 := nr rfl
@[simp] theorem evE_tup (es : List Ex) : evE G (.tup es) f = (evEs G es f).bind kTup := by rw [evE]; rfl
def kLst2 (q : List D × F) : Res (RV × F) := if q.1.length ≤ 16777216 then .ok (.fr (.lst q.1), q.2) else .bad
@[simp] theorem kLst2_eq (ds : List D) : kLst2 (ds, f) = if szB ds.length = true then .ok (.fr (.lst ds), f) else .bad := ite_szB
def kLst (p : List RV × F) : Res (RV × F) := (ofOpt (frzs p.2 p.1)).bind kLst2
@[simp] theorem kLst_eq (rs : List RV) : kLst (rs, f) = (ofOpt (frzs f rs)).bind kLst2 := nr rfl
@[simp] theorem evE_lst (es : List Ex) : evE G (.lst es) f = (evEs G es f).bind kLst := by rw [evE]; rfl
@[simp] theorem evE_dct : evE G (.dct [] []) f = .ok (.fr (.dct []), f) := by rw [evE]
def kAnd2 (G : Call) (b : Ex) (p : RV × F) (t : Bool) : Res (RV × F) := if t = true then evE G b p.2 else .ok p
@[simp] theorem kAnd2_eq (b : Ex) (p : RV × F) (t : Bool) : kAnd2 G b p t = if t = true then evE G b p.2 else .ok p := nr rfl
def kAnd (G : Call) (b : Ex) (p : RV × F) : Res (RV × F) := (ofOpt ((view p.2 p.1).bind truth)).bind (kAnd2 G b p)
@[simp] theorem kAnd_eq (b : Ex) (r : RV) : kAnd G b (r, f) = (ofOpt ((view f r).bind truth)).bind (kAnd2 G b (r, f)) := nr rfl
@[simp] theorem evE_and (a b : Ex) : evE G (.and a b) f = (evE G a f).bind (kAnd G b) := by rw [evE]; rfl
def kOr2 (G : Call) (b : Ex) (p : RV × F) (t : Bool) : Res (RV × F) := if t = true then .ok p else evE G b p.2
@[simp] theorem kOr2_eq (b : Ex) (p : RV × F) (t : Bool) : kOr2 G b p t = if t = true then .ok p else evE G b p.2 := nr rfl
def kOr (G : Call) (b : Ex) (p : RV × F) : Res (RV × F) := (ofOpt ((view p.2 p.1).bind truth)).bind (kOr2 G b p)
@[simp] theorem kOr_eq (b : Ex) (r : RV) : kOr G b (r, f) = (ofOpt ((view f r).bind truth)).bind (kOr2 G b (r, f)) := nr rfl
@[simp] theorem evE_or (a b : Ex) : evE G (.or a b) f = (evE G a f).bind (kOr G b) := by rw [evE]; rfl
def kIfe2 (G : Call) (a b : Ex) (f : F) (t : Bool) : Res (RV × F) := if t = true then evE G a f else evE G b f
@[simp] theorem kIfe2_eq (a b : Ex) (t : Bool) : kIfe2 G a b f t = if t = true then evE G a f else evE G b f := nr rfl
def kIfe (G : Call) (a b : Ex) (p : RV × F) : Res (RV × F) := (ofOpt ((view p.2 p.1).bind truth)).bind (kIfe2 G a b p.2)
@[simp] theorem kIfe_eq (a b : Ex) (r : RV) : kIfe G a b (r, f) = (ofOpt ((view f r).bind truth)).bind (kIfe2 G a b f) := nr rfl
@[simp] theorem evE_ife (c a b : Ex) : evE G (.ife c a b) f = (evE G c f).bind (kIfe G a b) := by rw [evE]; rfl
def kCh4 (o' : Op) (q : RV) (u : RV × F) : Res (RV × F) := (ofOpt ((views u.2 [q, u.1]).bind o'.run)).bind (kRr u.2)
@[simp] theorem kCh4_eq (o' : Op) (q r : RV) : kCh4 o' q (r, f) = (ofOpt ((views f [q, r]).bind o'.run)).bind (kRr f) := nr rfl
def kCh3 (G : Call) (o' : Op) (c : Ex) (q : RV × F) : RR → Res (RV × F)
  | .d (.bool b) => if b = true then (evE G c q.2).bind (kCh4 o' q.1) else .ok (.d (.bool false), q.2)
  | _ => .bad
@[simp] theorem kCh3_eq (o' : Op) (c : Ex) (q : RV) (b : Bool) : kCh3 G o' c (q, f) (.d (.bool b)) = if b = true then (evE G c f).bind (kCh4 o' q) else .ok (.d (.bool false), f) := nr rfl
def kCh2 (G : Call) (o o' : Op) (c : Ex) (p : RV) (q : RV × F) : Res (RV × F) := (ofOpt ((views q.2 [p, q.1]).bind o.run)).bind (kCh3 G o' c q)
@[simp] theorem kCh2_eq (o o' : Op) (c : Ex) (p q : RV) : kCh2 G o o' c p (q, f) = (ofOpt ((views f [p, q]).bind o.run)).bind (kCh3 G o' c (q, f)) := nr rfl
def kCh1 (G : Call) (o o' : Op) (b c : Ex) (p : RV × F) : Res (RV × F) := (evE G b p.2).bind (kCh2 G o o' c p.1)
@[simp] theorem kCh1_eq (o o' : Op) (b c : Ex) (p : RV) : kCh1 G o o' b c (p, f) = (evE G b f).bind (kCh2 G o o' c p) := nr rfl
@[simp] theorem evE_ch (o o' : Op) (a b c : Ex) : evE G (.ch o o' a b c) f = (evE G a f).bind (kCh1 G o o' b c) := by
  rw [evE]
  cases evE G a f with
  | bad => rfl
  | ok p =>
    rw [rbnd_ok, rbnd_ok]
    unfold kCh1
    cases evE G b p.2 with
    | bad => rfl
    | ok q =>
      rw [rbnd_ok, rbnd_ok]
      unfold kCh2
      cases (views q.2 [p.1, q.1]).bind o.run with
      | none => rfl
      | some r =>
        cases r with
        | fr o => rfl
        | ex c => rfl
        | d x => cases x with
          | bool b => cases b <;> rfl
          | _ => rfl
def kSl3 (x : RV) (i : D) (r : RV × F) : Res (RV × F) := match i, r.1 with
  | .int i, .d (.int j) => (ofOpt ((view r.2 x).bind fun x => sliceD x (some i) (some j))).bind (kRr r.2)
  | _, _ => .bad
@[simp] theorem kSl3_eq (x : RV) (i j : Int) : kSl3 x (.int i) (.d (.int j), f) = (ofOpt ((view f x).bind fun x => sliceD x (some i) (some j))).bind (kRr f) := nr rfl
def kSl2 (G : Call) (hi : Ex) (x : RV) (q : RV × F) : Res (RV × F) := match q.1 with
  | .d (.int i) => (evE G hi q.2).bind (kSl3 x (.int i))
  | _ => .bad
@[simp] theorem kSl2_eq (hi : Ex) (x : RV) (i : Int) : kSl2 G hi x (.d (.int i), f) = (evE G hi f).bind (kSl3 x (.int i)) := nr rfl
def kSl1 (G : Call) (lo hi : Ex) (p : RV × F) : Res (RV × F) := (evE G lo p.2).bind (kSl2 G hi p.1)
@[simp] theorem kSl1_eq (lo hi : Ex) (x : RV) : kSl1 G lo hi (x, f) = (evE G lo f).bind (kSl2 G hi x) := nr rfl
@[simp] theorem evE_sl2 (a lo hi : Ex) : evE G (.sl2 a lo hi) f = (evE G a f).bind (kSl1 G lo hi) := by
  rw [evE]
  cases evE G a f with
  | bad => rfl
  | ok p =>
    rw [rbnd_ok, rbnd_ok]
    unfold kSl1
    cases evE G lo p.2 with
    | bad => rfl
    | ok q =>
      obtain ⟨q1, q2⟩ := q
      rw [rbnd_ok, rbnd_ok]
      unfold kSl2
      cases q1 with
      | d x => cases x with
        | int i =>
          dsimp only
          cases evE G hi q2 with
          | bad => rfl
          | ok r =>
            obtain ⟨r1, r2⟩ := r
            rw [rbnd_ok, rbnd_ok]
            cases r1 with
            | d x => cases x <;> rfl
            | _ => rfl
        | _ => rfl
      | _ => rfl
def kRv (r : RR) (f : F) : Res (RV × F) := (ofOpt r.val).bind fun v => .ok (v, f)
@[simp] theorem kRv_d (x : D) : kRv (.d x) f = .ok (.d x, f) := nr rfl
@[simp] theorem kRv_fr (o : Ob) : kRv (.fr o) f = .ok (.fr o, f) := nr rfl
def kBack (f : F) (ls : List Loc) (p : RR × List SV) : Res (RV × F) := (ofOpt (putB (clr f ls) ls p.2)).bind (kRv p.1)
@[simp] theorem kBack_eq (ls : List Loc) (r : RR) (us : List SV) : kBack f ls (r, us) = (ofOpt (putB (clr f ls) ls us)).bind (kRv r) := nr rfl
def kCall2 (G : Call) (g : Nat) (f : F) (rvs : List RV) (as : List Arg) : Res (RV × F) := if (locs f rvs).Nodup then (G g as).bind (kBack f (locs f rvs)) else .bad
@[simp] theorem kCall2_eq (g : Nat) (rvs : List RV) (as : List Arg) : kCall2 G g f rvs as = if (locs f rvs).Nodup then (G g as).bind (kBack f (locs f rvs)) else .bad := nr rfl
def kCall (G : Call) (g : Nat) (p : List RV × F) : Res (RV × F) := doCall G g p.2 p.1
@[simp] theorem kCall_eq (g : Nat) (rvs : List RV) : kCall G g (rvs, f) = (ofOpt (toArgs f rvs)).bind (kCall2 G g f rvs) := by
  show (doCallR G g f rvs).bind _ = _
  unfold doCallR
  cases toArgs f rvs with
  | none => rfl
  | some as =>
    show (if (locs f rvs).Nodup then _ else _ : Res (RR × F)).bind _ = (if (locs f rvs).Nodup then _ else _)
    split
    · cases G g as with
      | bad => rfl
      | ok p =>
        show (Res.bind (ofOpt (putB (clr f (locs f rvs)) (locs f rvs) p.2)) _).bind _ = (ofOpt (putB (clr f (locs f rvs)) (locs f rvs) p.2)).bind (kRv p.1)
        cases putB (clr f (locs f rvs)) (locs f rvs) p.2 <;> rfl
    · rfl
/-! calls that may let an exception out -/
def kPr (r : RR) (f : F) : Res (RR × F) := .ok (r, f)
@[simp] theorem kPr_eq (r : RR) : kPr r f = .ok (r, f) := nr rfl
def kBackX (f : F) (ls : List Loc) (p : RR × List SV) : Res (RR × F) := (ofOpt (putB (clr f ls) ls p.2)).bind (kPr p.1)
@[simp] theorem kBackX_eq (ls : List Loc) (r : RR) (us : List SV) : kBackX f ls (r, us) = (ofOpt (putB (clr f ls) ls us)).bind (kPr r) := nr rfl
def kCallX2 (G : Call) (g : Nat) (f : F) (rvs : List RV) (as : List Arg) : Res (RR × F) := if (locs f rvs).Nodup then (G g as).bind (kBackX f (locs f rvs)) else .bad
@[simp] theorem kCallX2_eq (g : Nat) (rvs : List RV) (as : List Arg) : kCallX2 G g f rvs as = if (locs f rvs).Nodup then (G g as).bind (kBackX f (locs f rvs)) else .bad := nr rfl
def kCallX (G : Call) (g : Nat) (p : List RV × F) : Res (RR × F) := doCallR G g p.2 p.1
@[simp] theorem kCallX_eq (g : Nat) (rvs : List RV) : kCallX G g (rvs, f) = (ofOpt (toArgs f rvs)).bind (kCallX2 G g f rvs) := nr rfl
@[simp] theorem evX_call (g : Nat) (es : List Ex) : evX G (.call g es) f = (evEs G es f).bind (kCallX G g) := by rw [evX]; rfl
def kCallkX (G : Call) (g : Nat) (pm : List Nat) (p : List RV × F) : Res (RR × F) := doCallR G g p.2 (permR p.1 pm)
@[simp] theorem kCallkX_eq (g : Nat) (pm : List Nat) (rvs : List RV) : kCallkX G g pm (rvs, f) = kCallX G g (permR rvs pm, f) := nr rfl
@[simp] theorem evX_callk (g : Nat) (pm : List Nat) (es : List Ex) : evX G (.callk g pm es) f = (evEs G es f).bind (kCallkX G g pm) := by rw [evX]; rfl
@[simp] theorem evE_call (g : Nat) (es : List Ex) : evE G (.call g es) f = (evEs G es f).bind (kCall G g) := by rw [evE]; rfl
def kCallk (G : Call) (g : Nat) (pm : List Nat) (p : List RV × F) : Res (RV × F) := doCall G g p.2 (permR p.1 pm)
@[simp] theorem kCallk_eq (g : Nat) (pm : List Nat) (rvs : List RV) : kCallk G g pm (rvs, f) = kCall G g (permR rvs pm, f) := nr rfl
@[simp] theorem evE_callk (g : Nat) (pm : List Nat) (es : List Ex) : evE G (.callk g pm es) f = (evEs G es f).bind (kCallk G g pm) := by rw [evE]; rfl
def kMe3 (r : RV) (o : Op) (q : List RV × F) : Res (RV × F) := (ofOpt ((views q.2 (r :: q.1)).bind o.run)).bind (kRr q.2)
@[simp] theorem kMe3_eq (r : RV) (o : Op) (rs : List RV) : kMe3 r o (rs, f) = (ofOpt ((views f (r :: rs)).bind o.run)).bind (kRr f) := nr rfl
def kMe2 (G : Call) (es : List Ex) (p : RV × F) (o : Op) : Res (RV × F) := (evEs G es p.2).bind (kMe3 p.1 o)
@[simp] theorem kMe2_eq (es : List Ex) (r : RV) (o : Op) : kMe2 G es (r, f) o = (evEs G es f).bind (kMe3 r o) := nr rfl
def kMe (G : Call) (nm : Str) (es : List Ex) (p : RV × F) : Res (RV × F) := (ofOpt (meR p.2 nm es.length p.1)).bind (kMe2 G es p)
@[simp] theorem kMe_eq (nm : Str) (es : List Ex) (r : RV) : kMe G nm es (r, f) = (ofOpt (meR f nm es.length r)).bind (kMe2 G es (r, f)) := nr rfl
@[simp] theorem meR_d (nm : Str) (n : Nat) (x : D) : meR f nm n (.d x) = if isPl x = true then plT nm n else meT nm (tyD (norm x)) n := nr rfl
@[simp] theorem meR_fr (nm : Str) (n : Nat) (o : Ob) : meR f nm n (.fr o) = meT nm (tyD o.d) n := nr rfl
@[simp] theorem meR_vr (nm : Str) (n : Nat) (i : Nat) : meR f nm n (.vr i) = (slotD f.ρ[i]?).bind fun y => meT nm (tyD y) n := nr rfl
@[simp] theorem meR_ce (nm : Str) (n : Nat) (i : Nat) : meR f nm n (.ce i) = (cellD f.S[i]?).bind fun y => meT nm (tyD y) n := nr rfl
@[simp] theorem evE_me (nm : Str) (a : Ex) (es : List Ex) : evE G (.me nm a es) f = (evE G a f).bind (kMe G nm es) := by rw [evE]; rfl
def kMu5 (f : F) (l : Loc) (u : Ob × D) : Res (RV × F) := .ok (.d u.2, put1 f l (.own u.1))
@[simp] theorem kMu5_eq (l : Loc) (o : Ob) (x : D) : kMu5 f l (o, x) = .ok (.d x, put1 f l (.own o)) := nr rfl
def kMu4 (m : Mu) (ds : List D) (f : F) (l : Loc × Ob) : Res (RV × F) := (ofOpt (m.run l.2 ds)).bind (kMu5 f l.1)
@[simp] theorem kMu4_eq (m : Mu) (ds : List D) (l : Loc) (o : Ob) : kMu4 m ds f (l, o) = (ofOpt (m.run o ds)).bind (kMu5 f l) := nr rfl
def kMu3 (m : Mu) (r : RV) (q : List D × F) : Res (RV × F) := (ofOpt (ownAt q.2 r)).bind (kMu4 m q.1 q.2)
@[simp] theorem kMu3_eq (m : Mu) (r : RV) (ds : List D) : kMu3 m r (ds, f) = (ofOpt (ownAt f r)).bind (kMu4 m ds f) := nr rfl
def kMu2 (m : Mu) (r : RV) (q : List RV × F) : Res (RV × F) := (ofOpt (frzs q.2 q.1)).bind (kMu3 m r)
@[simp] theorem kMu2_eq (m : Mu) (r : RV) (rs : List RV) : kMu2 m r (rs, f) = (ofOpt (frzs f rs)).bind (kMu3 m r) := nr rfl
def isLst (y : D) : Option Unit := if tyD y = "list" then some () else none
@[simp] theorem isLst_list (ds : List D) : isLst (.list ds) = some () := nr rfl
def kMu1 (G : Call) (m : Mu) (es : List Ex) (p : RV × F) (_ : Unit) : Res (RV × F) := (evEs G es p.2).bind (kMu2 m p.1)
@[simp] theorem kMu1_eq (m : Mu) (es : List Ex) (r : RV) (u : Unit) : kMu1 G m es (r, f) u = (evEs G es f).bind (kMu2 m r) := nr rfl
def kMu (G : Call) (m : Mu) (es : List Ex) (p : RV × F) : Res (RV × F) := (ofOpt ((view p.2 p.1).bind isLst)).bind (kMu1 G m es p)
@[simp] theorem kMu_eq (m : Mu) (es : List Ex) (r : RV) : kMu G m es (r, f) = (ofOpt ((view f r).bind isLst)).bind (kMu1 G m es (r, f)) := nr rfl
@[simp] theorem evE_mu (m : Mu) (a : Ex) (es : List Ex) : evE G (.mu m a es) f = (evE G a f).bind (kMu G m es) := by rw [evE]; rfl
@[simp] theorem frz1_eq (v : Nat) : frz1 f v = (match f.ρ[v]? with
  | some (.own o) => { f with ρ := f.ρ.set v (.d o.d) }
  | _ => f) := nr rfl
@[simp] theorem frzV_nil : frzV f [] = f := nr rfl
@[simp] theorem frzV_cons (v : Nat) (vs : List Nat) : frzV f (v :: vs) = frzV (frz1 f v) vs := nr rfl
@[simp] theorem kFz_eq (own : List Nat) (ds : List D) : kFz own (ds, f) = .ok (ds, frzV f own) := nr rfl
def kLc2 (ρ : List LV) (own : List Nat) (q : List D × F) : Res (RV × F) := .ok (.fr (.lst q.1), { q.2 with ρ := backL ρ q.2.ρ own })
@[simp] theorem kLc2_eq (ρ : List LV) (own : List Nat) (ds : List D) : kLc2 ρ own (ds, f) = .ok (.fr (.lst ds), { f with ρ := backL ρ f.ρ own }) := nr rfl
def kLc (G : Call) (t : Tg) (ifs : List Ex) (e : Ex) (own : List Nat) (p : List D × F) : Res (RV × F) := if noOwn p.2.ρ own = true ∧ (tgI t).all (own.contains ·) = true then
      (lcLoop (evT G ifs) (evE G e) t own p.1 [] { p.2 with ρ := wipeL p.2.ρ own }).bind (kLc2 p.2.ρ own) else .bad
@[simp] theorem kLc_eq (t : Tg) (ifs : List Ex) (e : Ex) (own : List Nat) (ds : List D) : kLc G t ifs e own (ds, f) = if noOwn f.ρ own = true ∧ (tgI t).all (own.contains ·) = true then
      (lcLoop (evT G ifs) (evE G e) t own ds [] { f with ρ := wipeL f.ρ own }).bind (kLc2 f.ρ own) else .bad := nr rfl
@[simp] theorem evE_lc (t : Tg) (it : It) (ifs : List Ex) (e : Ex) (own : List Nat) : evE G (.lc t it ifs e own) f = ((evI G it f).bind (kFz own)).bind (kLc G t ifs e own) := by rw [evE]; rfl
theorem eqDs_ints (L : List Int) : eqDs (L.map .int) (L.map .int) = true := by
  induction L with
  | nil => rfl
  | cons x L ih => rw [List.map_cons, eqDs, eqD, ih]; simp
def kIsD (f : F) (r : Option LV) : Option D := match r with
  | some (.d x) => some x
  | _ => none
@[simp] theorem isDat_eq (j : Nat) : isDat f j = match f.ρ[j]? with
  | some (.d x) => some x
  | _ => none := nr rfl
@[simp] theorem lstAt_eq (j : Nat) : lstAt f j = match f.ρ[j]? with
  | some (.own (.lst xs)) => some xs
  | some (.c n) => (match f.S[n]? with
    | some (.own (.lst xs)) => some xs
    | some (.d (.list xs)) => some xs
    | _ => none)
  | _ => none := nr rfl
def kKp (ds : List D) : Option (List D) → Bool
  | some xs => eqDs xs ds
  | none => false
@[simp] theorem kKp_some (ds xs : List D) : kKp ds (some xs) = eqDs xs ds := nr rfl
@[simp] theorem kKp_ints (L : List Int) : eqDs (L.map .int) (L.map .int) = true := eqDs_ints L
theorem keepB_eq (j : Nat) (ds : List D) : keepB j ds f = kKp ds (lstAt f j) := by unfold keepB kKp; cases lstAt f j <;> rfl
@[simp] theorem evK_eq (j : Nat) (ds : List D) (T : F → Res (Bool × F)) : evK j ds T f = if kKp ds (lstAt f j) = true then T f else .bad := by unfold evK; rw [keepB_eq]
def kLk2 (j : Nat) (ds : List D) (ρ : List LV) (own : List Nat) (q : List D × F) : Res (RV × F) := if kKp ds (lstAt q.2 j) = true then .ok (.fr (.lst q.1), { q.2 with ρ := backL ρ q.2.ρ own }) else .bad
@[simp] theorem kLk2_eq (j : Nat) (ds : List D) (ρ : List LV) (own : List Nat) (ys : List D) : kLk2 j ds ρ own (ys, f) = if kKp ds (lstAt f j) = true then .ok (.fr (.lst ys), { f with ρ := backL ρ f.ρ own }) else .bad := nr rfl
def kLk1 (G : Call) (t : Tg) (j : Nat) (ifs : List Ex) (e : Ex) (own : List Nat) (f : F) (ds : List D) : Res (RV × F) := if noOwn (frzV f own).ρ own = true ∧ (tgI t).all (own.contains ·) = true ∧ own.contains j = false then
      (lcLoop (evK j ds (evT G ifs)) (evE G e) t own ds [] { (frzV f own) with ρ := wipeL (frzV f own).ρ own }).bind (kLk2 j ds (frzV f own).ρ own) else .bad
@[simp] theorem kLk1_eq (t : Tg) (j : Nat) (ifs : List Ex) (e : Ex) (own : List Nat) (ds : List D) : kLk1 G t j ifs e own f ds = if noOwn (frzV f own).ρ own = true ∧ (tgI t).all (own.contains ·) = true ∧ own.contains j = false then
      (lcLoop (evK j ds (evT G ifs)) (evE G e) t own ds [] { (frzV f own) with ρ := wipeL (frzV f own).ρ own }).bind (kLk2 j ds (frzV f own).ρ own) else .bad := nr rfl
def kLk (G : Call) (t : Tg) (j : Nat) (ifs : List Ex) (e : Ex) (own : List Nat) (f : F) : Option D → Res (RV × F)
  | some x => (((ofOpt (itemsD (norm x))).bind fun l => .ok (l, f)).bind (kFz own)).bind (kLc G t ifs e own)
  | none => (ofOpt (lstAt f j)).bind (kLk1 G t j ifs e own f)
@[simp] theorem kLk_some (t : Tg) (j : Nat) (ifs : List Ex) (e : Ex) (own : List Nat) (x : D) : kLk G t j ifs e own f (some x) = (((ofOpt (itemsD (norm x))).bind fun l => .ok (l, f)).bind (kFz own)).bind (kLc G t ifs e own) := nr rfl
@[simp] theorem kLk_none (t : Tg) (j : Nat) (ifs : List Ex) (e : Ex) (own : List Nat) : kLk G t j ifs e own f none = (ofOpt (lstAt f j)).bind (kLk1 G t j ifs e own f) := nr rfl
@[simp] theorem evE_lck (t : Tg) (j : Nat) (ifs : List Ex) (e : Ex) (own : List Nat) : evE G (.lck t j ifs e own) f = kLk G t j ifs e own f (isDat f j) := by
  rw [evE]
  cases h : isDat f j with
  | some x => rfl
  | none =>
    simp only [kLk]
    congr 1
def kL2 (G : Call) (t : Tg) (ifs : List Ex) (t1 : Tg) (it1 : It) (ifs1 : List Ex) (e : Ex) (own own1 : List Nat) (p : List D × F) : Res (RV × F) := if noOwn p.2.ρ own = true ∧ (tgI t).all (own.contains ·) = true ∧ (tgI t1).all (own1.contains ·) = true ∧ own1.all (own.contains ·) = true then
      (lc2Loop (evT G ifs) (evI G it1) (evT G ifs1) (evE G e) t t1 own own1 p.1 [] { p.2 with ρ := wipeL p.2.ρ own }).bind (kLc2 p.2.ρ own) else .bad
@[simp] theorem kL2_eq (t : Tg) (ifs : List Ex) (t1 : Tg) (it1 : It) (ifs1 : List Ex) (e : Ex) (own own1 : List Nat) (ds : List D) : kL2 G t ifs t1 it1 ifs1 e own own1 (ds, f) = if noOwn f.ρ own = true ∧ (tgI t).all (own.contains ·) = true ∧ (tgI t1).all (own1.contains ·) = true ∧ own1.all (own.contains ·) = true then
      (lc2Loop (evT G ifs) (evI G it1) (evT G ifs1) (evE G e) t t1 own own1 ds [] { f with ρ := wipeL f.ρ own }).bind (kLc2 f.ρ own) else .bad := nr rfl
@[simp] theorem evE_lc2 (t : Tg) (it : It) (ifs : List Ex) (t1 : Tg) (it1 : It) (ifs1 : List Ex) (e : Ex) (own own1 : List Nat) : evE G (.lc2 t it ifs t1 it1 ifs1 e own own1) f = ((evI G it f).bind (kFz own)).bind (kL2 G t ifs t1 it1 ifs1 e own own1) := by rw [evE]; rfl
@[simp] theorem evT_nil : evT G [] f = .ok (true, f) := by rw [evT]
def kT2 (G : Call) (es : List Ex) (f : F) (t : Bool) : Res (Bool × F) := if t = true then evT G es f else .ok (false, f)
@[simp] theorem kT2_eq (es : List Ex) (t : Bool) : kT2 G es f t = if t = true then evT G es f else .ok (false, f) := nr rfl
def kT1 (G : Call) (es : List Ex) (p : RV × F) : Res (Bool × F) := (ofOpt ((view p.2 p.1).bind truth)).bind (kT2 G es p.2)
@[simp] theorem kT1_eq (es : List Ex) (r : RV) : kT1 G es (r, f) = (ofOpt ((view f r).bind truth)).bind (kT2 G es f) := nr rfl
@[simp] theorem evT_cons (e : Ex) (es : List Ex) : evT G (e :: es) f = (evE G e f).bind (kT1 G es) := by rw [evT]; rfl
def kI3 (f : F) (l : List D) : Res (List D × F) := .ok (l, f)
@[simp] theorem kI3_eq (l : List D) : kI3 f l = .ok (l, f) := nr rfl
def kI2 (q : D × F) : Res (List D × F) := (ofOpt (itemsD q.1)).bind (kI3 q.2)
@[simp] theorem kI2_eq (x : D) : kI2 (x, f) = (ofOpt (itemsD x)).bind (kI3 f) := nr rfl
def kI1 (p : RV × F) : Res (List D × F) := (ofOpt (frz p.2 p.1)).bind kI2
@[simp] theorem kI1_eq (r : RV) : kI1 (r, f) = (ofOpt (frz f r)).bind kI2 := nr rfl
@[simp] theorem evI_seq (e : Ex) : evI G (.seq e) f = (evE G e f).bind kI1 := by rw [evI]; rfl
def kR1 (p : RV × F) : Res (List D × F) := (ofOpt (view p.2 p.1)).bind fun d => rng1 d p.2
@[simp] theorem kR1_eq (r : RV) : kR1 (r, f) = (ofOpt (view f r)).bind fun d => rng1 d f := nr rfl
@[simp] theorem evI_rng1 (e : Ex) : evI G (.rng [e]) f = (evE G e f).bind kR1 := by
  rw [evI, evEs_cons]
  cases evE G e f with
  | bad => rfl
  | ok p =>
    obtain ⟨p1, p2⟩ := p
    rw [rbnd_ok, kEs_eq, evEs_nil, rbnd_ok, kCons_eq, rbnd_ok, rbnd_ok, kR1_eq]
    dsimp only
    rw [views_cons]
    cases view p2 p1 with
    | none => rfl
    | some d =>
      cases d <;> try rfl
      rename_i b
      show (if bnd b = true ∧ b ≤ 16777216 then Res.ok (rangeL 0 b, p2) else .bad) = if okR 0 b = true then Res.ok (rangeL 0 b, p2) else .bad
      by_cases h : bnd b = true ∧ b ≤ 16777216
      · rw [if_pos h, if_pos (okR_0.mpr h)]
      · rw [if_neg h, if_neg (fun z => h (okR_0.mp z))]
def kR3 (x : RV) (q : RV × F) : Res (List D × F) := (ofOpt (view q.2 x)).bind fun x => (ofOpt (view q.2 q.1)).bind fun y => rng2 x y q.2
@[simp] theorem kR3_eq (x r : RV) : kR3 x (r, f) = (ofOpt (view f x)).bind fun x => (ofOpt (view f r)).bind fun y => rng2 x y f := nr rfl
def kR2 (G : Call) (b : Ex) (p : RV × F) : Res (List D × F) := (evE G b p.2).bind (kR3 p.1)
@[simp] theorem kR2_eq (b : Ex) (r : RV) : kR2 G b (r, f) = (evE G b f).bind (kR3 r) := nr rfl
@[simp] theorem evI_rng2 (a b : Ex) : evI G (.rng [a, b]) f = (evE G a f).bind (kR2 G b) := by
  rw [evI, evEs_cons]
  cases evE G a f with
  | bad => rfl
  | ok p =>
    obtain ⟨p1, p2⟩ := p
    rw [rbnd_ok, rbnd_ok, kEs_eq, evEs_cons, kR2_eq]
    cases evE G b p2 with
    | bad => rfl
    | ok q =>
      obtain ⟨q1, q2⟩ := q
      rw [rbnd_ok, rbnd_ok, kEs_eq, evEs_nil, rbnd_ok, kCons_eq, rbnd_ok, kCons_eq, rbnd_ok, kR3_eq]
      dsimp only
      rw [views_cons]
      cases view q2 p1 with
      | none => rfl
      | some x =>
        rw [views_cons]
        cases view q2 q1 with
        | none => cases x <;> rfl
        | some y =>
          cases x <;> cases y <;> try rfl
          rename_i a b
          show (if bnd a = true ∧ bnd b = true ∧ b - a ≤ 16777216 then Res.ok (rangeL a b, q2) else .bad) = if okR a b = true then Res.ok (rangeL a b, q2) else .bad
          by_cases h : bnd a = true ∧ bnd b = true ∧ b - a ≤ 16777216
          · rw [if_pos h, if_pos (okR_2.mpr h)]
          · rw [if_neg h, if_neg (fun z => h (okR_2.mp z))]
def kN2 (q : D × F) : Res (List D × F) := match q.1 with
  | .list ds => .ok (enumL 0 ds, q.2)
  | .tuple ds => .ok (enumL 0 ds, q.2)
  | .str s => if s.length ≤ 16777216 then .ok (enumL 0 (signs s), q.2) else .bad
  | _ => .bad
theorem kN2_str {s : Str} (h : s.length ≤ 16777216) : kN2 (.str s, f) = .ok (enumL 0 (signs s), f) := by
  show (if s.length ≤ 16777216 then Res.ok (enumL 0 (signs s), f) else .bad) = _
  rw [if_pos h]
@[simp] theorem kN2_list (ds : List D) : kN2 (.list ds, f) = .ok (enumL 0 ds, f) := nr rfl
@[simp] theorem kN2_tuple (ds : List D) : kN2 (.tuple ds, f) = .ok (enumL 0 ds, f) := nr rfl
def kN1 (p : RV × F) : Res (List D × F) := (ofOpt (frz p.2 p.1)).bind kN2
@[simp] theorem kN1_eq (r : RV) : kN1 (r, f) = (ofOpt (frz f r)).bind kN2 := nr rfl
@[simp] theorem evI_enum (e : Ex) : evI G (.enum e) f = (evE G e f).bind kN1 := by rw [evI] <;> rfl
def kZ3 (q : List D × F) : Res (List D × F) := match q.1 with
  | [.list xs, .list ys] => .ok (zipL xs ys, q.2)
  | [.tuple xs, .tuple ys] => .ok (zipL xs ys, q.2)
  | _ => .bad
@[simp] theorem kZ3_list (xs ys : List D) : kZ3 ([.list xs, .list ys], f) = .ok (zipL xs ys, f) := nr rfl
@[simp] theorem kZ3_tuple (xs ys : List D) : kZ3 ([.tuple xs, .tuple ys], f) = .ok (zipL xs ys, f) := nr rfl
def kZ2 (r : RV) (q : RV × F) : Res (List D × F) := (ofOpt (frzs q.2 [r, q.1])).bind kZ3
@[simp] theorem kZ2_eq (r r2 : RV) : kZ2 r (r2, f) = (ofOpt (frzs f [r, r2])).bind kZ3 := nr rfl
def kZ1 (G : Call) (b : Ex) (p : RV × F) : Res (List D × F) := (evE G b p.2).bind (kZ2 p.1)
@[simp] theorem kZ1_eq (b : Ex) (r : RV) : kZ1 G b (r, f) = (evE G b f).bind (kZ2 r) := nr rfl
@[simp] theorem evI_zip (a b : Ex) : evI G (.zip a b) f = (evE G a f).bind (kZ1 G b) := by rw [evI]; rfl
def kEx (p : RV × F) : Out := .nx p.2
@[simp] theorem kEx_eq (r : RV) : kEx (r, f) = .nx f := nr rfl
@[simp] theorem xS_ex (e : Ex) : xS G (.ex e) f = Out.of (evE G e f) kEx := by rw [xS]; rfl
def kAsg (i : Nat) (p : RV × F) : Out := Out.of (ofOpt (bindN p.2 i p.1)) .nx
@[simp] theorem kAsg_eq (i : Nat) (r : RV) : kAsg i (r, f) = Out.of (ofOpt (bindN f i r)) .nx := nr rfl
@[simp] theorem xS_asg (i : Nat) (e : Ex) : xS G (.asg (.name i) e) f = Out.of (evE G e f) (kAsg i) := by rw [xS]; rfl
def kAsgT3 (f : F) (ρ1 : List LV) : Out := .nx { f with ρ := ρ1 }
@[simp] theorem kAsgT3_eq (ρ1 : List LV) : kAsgT3 f ρ1 = .nx { f with ρ := ρ1 } := nr rfl
def kAsgT2 (t : Tg) (q : D × F) : Out := Out.of (ofOpt (bindT t q.1 q.2.ρ)) (kAsgT3 q.2)
@[simp] theorem kAsgT2_eq (t : Tg) (x : D) : kAsgT2 t (x, f) = Out.of (ofOpt (bindT t x f.ρ)) (kAsgT3 f) := nr rfl
def kAsgT (t : Tg) (p : RV × F) : Out := Out.of (ofOpt (frz p.2 p.1)) (kAsgT2 t)
@[simp] theorem kAsgT_eq (t : Tg) (r : RV) : kAsgT t (r, f) = Out.of (ofOpt (frz f r)) (kAsgT2 t) := nr rfl
@[simp] theorem xS_asgT (ts : List Tg) (e : Ex) : xS G (.asg (.tup ts) e) f = Out.of (evE G e f) (kAsgT (.tup ts)) := by
  rw [xS]
  · rfl
  · intro i e
    cases e
def kPar2 (is : List Nat) (q : List RV × F) : Out := Out.of (ofOpt (bindNs q.2 is q.1)) .nx
@[simp] theorem kPar2_eq (is : List Nat) (rs : List RV) : kPar2 is (rs, f) = Out.of (ofOpt (bindNs f is rs)) .nx := nr rfl
def kPar (is : List Nat) (p : List RV × F) : Out := Out.of (ofOpt (prepN p.2 p.1)) (kPar2 is)
@[simp] theorem kPar_eq (is : List Nat) (rs : List RV) : kPar is (rs, f) = Out.of (ofOpt (prepN f rs)) (kPar2 is) := nr rfl
@[simp] theorem xS_par (is : List Nat) (es : List Ex) : xS G (.par is es) f = Out.of (evEs G es f) (kPar is) := by rw [xS]; rfl
def kSub6 (f : F) (l : Loc) (o : Ob) : Out := .nx (put1 f l (.own o))
@[simp] theorem kSub6_eq (l : Loc) (o : Ob) : kSub6 f l o = .nx (put1 f l (.own o)) := nr rfl
def kSub5 (f : F) (y : D) (k : D) (l : Loc × Ob) : Out := Out.of (ofOpt (putO l.2 k y)) (kSub6 f l.1)
@[simp] theorem kSub5_eq (y k : D) (l : Loc) (o : Ob) : kSub5 f y k (l, o) = Out.of (ofOpt (putO o k y)) (kSub6 f l) := nr rfl
def kSub4 (f : F) (y : D) (q : RV) (k : D) : Out := Out.of (ofOpt (ownAt f q)) (kSub5 f y k)
@[simp] theorem kSub4_eq (y : D) (q : RV) (k : D) : kSub4 f y q k = Out.of (ofOpt (ownAt f q)) (kSub5 f y k) := nr rfl
def kSub3 (y : D) (q : RV) (r : RV × F) : Out := Out.of (ofOpt (view r.2 r.1)) (kSub4 r.2 y q)
@[simp] theorem kSub3_eq (y : D) (q r : RV) : kSub3 y q (r, f) = Out.of (ofOpt (view f r)) (kSub4 f y q) := nr rfl
def kSub2 (G : Call) (i : Ex) (y : D) (q : RV × F) : Out := Out.of (evE G i q.2) (kSub3 y q.1)
@[simp] theorem kSub2_eq (i : Ex) (y : D) (q : RV) : kSub2 G i y (q, f) = Out.of (evE G i f) (kSub3 y q) := nr rfl
def kSub1 (G : Call) (a i : Ex) (y : D × F) : Out := Out.of (evE G a y.2) (kSub2 G i y.1)
@[simp] theorem kSub1_eq (a i : Ex) (y : D) : kSub1 G a i (y, f) = Out.of (evE G a f) (kSub2 G i y) := nr rfl
def kSub (G : Call) (a i : Ex) (p : RV × F) : Out := Out.of (ofOpt (frz p.2 p.1)) (kSub1 G a i)
@[simp] theorem kSub_eq (a i : Ex) (r : RV) : kSub G a i (r, f) = Out.of (ofOpt (frz f r)) (kSub1 G a i) := nr rfl
@[simp] theorem xS_sub (a i e : Ex) : xS G (.sub a i e) f = Out.of (evE G e f) (kSub G a i) := by rw [xS]; rfl
def kTs6 (f : F) (l : Loc) (j : Nat) (y2 : D) (o : Ob) : Out := let f3 := put1 f l (.own o); .nx { f3 with ρ := f3.ρ.set j (.d y2) }
@[simp] theorem kTs6_eq (l : Loc) (j : Nat) (y2 : D) (o : Ob) : kTs6 f l j y2 o = .nx { (put1 f l (.own o)) with ρ := (put1 f l (.own o)).ρ.set j (.d y2) } := nr rfl
def kTs5 (f : F) (j : Nat) (y1 y2 : D) (k : D) (l : Loc × Ob) : Out := Out.of (ofOpt (putO l.2 k y1)) (kTs6 f l.1 j y2)
@[simp] theorem kTs5_eq (j : Nat) (y1 y2 k : D) (l : Loc) (o : Ob) : kTs5 f j y1 y2 k (l, o) = Out.of (ofOpt (putO o k y1)) (kTs6 f l j y2) := nr rfl
def kTs4 (f : F) (j : Nat) (y1 y2 : D) (q : RV) (k : D) : Out := Out.of (ofOpt (ownAt f q)) (kTs5 f j y1 y2 k)
@[simp] theorem kTs4_eq (j : Nat) (y1 y2 : D) (q : RV) (k : D) : kTs4 f j y1 y2 q k = Out.of (ofOpt (ownAt f q)) (kTs5 f j y1 y2 k) := nr rfl
def kTs3 (j : Nat) (y1 y2 : D) (q : RV) (r : RV × F) : Out := Out.of (ofOpt (view r.2 r.1)) (kTs4 r.2 j y1 y2 q)
@[simp] theorem kTs3_eq (j : Nat) (y1 y2 : D) (q r : RV) : kTs3 j y1 y2 q (r, f) = Out.of (ofOpt (view f r)) (kTs4 f j y1 y2 q) := nr rfl
def kTs2 (G : Call) (i : Ex) (j : Nat) (y1 y2 : D) (q : RV × F) : Out := Out.of (evE G i q.2) (kTs3 j y1 y2 q.1)
@[simp] theorem kTs2_eq (i : Ex) (j : Nat) (y1 y2 : D) (q : RV) : kTs2 G i j y1 y2 (q, f) = Out.of (evE G i f) (kTs3 j y1 y2 q) := nr rfl
def kTs1 (G : Call) (a i : Ex) (j : Nat) (y : D × F) : Out := match y.1 with
    | .tuple [y1, y2] => Out.of (evE G a y.2) (kTs2 G i j y1 y2)
    | _ => .bad
@[simp] theorem kTs1_eq (a i : Ex) (j : Nat) (y1 y2 : D) : kTs1 G a i j (.tuple [y1, y2], f) = Out.of (evE G a f) (kTs2 G i j y1 y2) := nr rfl
def kTs (G : Call) (a i : Ex) (j : Nat) (p : RV × F) : Out := Out.of (ofOpt (frz p.2 p.1)) (kTs1 G a i j)
@[simp] theorem kTs_eq (a i : Ex) (j : Nat) (r : RV) : kTs G a i j (r, f) = Out.of (ofOpt (frz f r)) (kTs1 G a i j) := nr rfl
@[simp] theorem xS_tsub (a i : Ex) (j : Nat) (e : Ex) : xS G (.tsub a i j e) f = Out.of (evE G e f) (kTs G a i j) := by rw [xS] <;> rfl
def kAug3 (i : Nat) (f : F) (z : Int) : Out := .nx { f with ρ := f.ρ.set i (.d (.int z)) }
@[simp] theorem kAug3_eq (i : Nat) (z : Int) : kAug3 i f z = .nx { f with ρ := f.ρ.set i (.d (.int z)) } := nr rfl
def kAug2 (i : Nat) (o : Op) (a : Int) (p : RV × F) : Out := Out.of (ofOpt ((view p.2 p.1).bind fun y => augI o a y)) (kAug3 i p.2)
@[simp] theorem kAug2_eq (i : Nat) (o : Op) (a : Int) (r : RV) : kAug2 i o a (r, f) = Out.of (ofOpt ((view f r).bind fun y => augI o a y)) (kAug3 i f) := nr rfl
def kAug (G : Call) (i : Nat) (o : Op) (e : Ex) (f : F) : Option LV → Out
  | some (.d (.int a)) => Out.of (evE G e f) (kAug2 i o a)
  | _ => .bad
@[simp] theorem kAug_eq (i : Nat) (o : Op) (e : Ex) (a : Int) : kAug G i o e f (some (.d (.int a))) = Out.of (evE G e f) (kAug2 i o a) := nr rfl
@[simp] theorem xS_aug (i : Nat) (o : Op) (e : Ex) : xS G (.aug i o e) f = kAug G i o e f f.ρ[i]? := by rw [xS] <;> rfl
def kRet2 (q : RR × F) : Out := .rt q.1 q.2
@[simp] theorem kRet2_eq (r : RR) : kRet2 (r, f) = .rt r f := nr rfl
def kRet (p : RV × F) : Out := Out.of (ofOpt (retR p.2 p.1)) kRet2
@[simp] theorem kRet_eq (r : RV) : kRet (r, f) = Out.of (ofOpt (retR f r)) kRet2 := nr rfl
@[simp] theorem xS_ret (e : Ex) : xS G (.ret e) f = Out.of (evE G e f) kRet := by rw [xS]; rfl
@[simp] theorem xS_retN : xS G .retN f = .rt (.d .none) f := by rw [xS]
def kIfs (G : Call) (a b : List Sm) (p : Bool × F) : Out := if p.1 = true then xSs G a p.2 else xSs G b p.2
@[simp] theorem kIfs_eq (a b : List Sm) (t : Bool) : kIfs G a b (t, f) = if t = true then xSs G a f else xSs G b f := nr rfl
@[simp] theorem xS_ifs (c : Ex) (a b : List Sm) : xS G (.ifs c a b) f = Out.of (evC G c f) (kIfs G a b) := by rw [xS]; rfl
def kFor (B : F → Out) (t : Tg) (p : List D × F) : Out := forLoop B t p.1 p.2
@[simp] theorem kFor_eq (B : F → Out) (t : Tg) (ds : List D) : kFor B t (ds, f) = forLoop B t ds f := nr rfl
@[simp] theorem xS_for (t : Tg) (it : It) (b : List Sm) : xS G (.for t it b) f = Out.of (evI G it f) (kFor (xSs G b) t) := by rw [xS]; rfl
def kFk2 (G : Call) (t : Tg) (b : List Sm) (f : F) (n : Nat) (ds : List D) : Out := forLoopK n ds (xSs G b) t ds f
@[simp] theorem kFk2_eq (t : Tg) (b : List Sm) (n : Nat) (ds : List D) : kFk2 G t b f n ds = forLoopK n ds (xSs G b) t ds f := nr rfl
def kFk1 (G : Call) (t : Tg) (b : List Sm) (f : F) (n : Nat) : Out := Out.of (ofOpt (lstS f n)) (kFk2 G t b f n)
@[simp] theorem kFk1_eq (t : Tg) (b : List Sm) (n : Nat) : kFk1 G t b f n = Out.of (ofOpt (lstS f n)) (kFk2 G t b f n) := nr rfl
def kFk0 (G : Call) (t : Tg) (b : List Sm) (f : F) (ds : List D) : Out := forLoop (xSs G b) t ds f
@[simp] theorem kFk0_eq (t : Tg) (b : List Sm) (ds : List D) : kFk0 G t b f ds = forLoop (xSs G b) t ds f := nr rfl
def kFk (G : Call) (t : Tg) (j : Nat) (b : List Sm) (f : F) : Option D → Out
  | some x => Out.of (ofOpt (itemsD (norm x))) (kFk0 G t b f)
  | none => Out.of (ofOpt (refAt f j)) (kFk1 G t b f)
@[simp] theorem kFk_some (t : Tg) (j : Nat) (b : List Sm) (x : D) : kFk G t j b f (some x) = Out.of (ofOpt (itemsD (norm x))) (kFk0 G t b f) := nr rfl
@[simp] theorem kFk_none (t : Tg) (j : Nat) (b : List Sm) : kFk G t j b f none = Out.of (ofOpt (refAt f j)) (kFk1 G t b f) := nr rfl
@[simp] theorem refAt_eq (j : Nat) : refAt f j = match f.ρ[j]? with
  | some (.c n) => some n
  | _ => none := nr rfl
@[simp] theorem lstS_eq (n : Nat) : lstS f n = match f.S[n]? with
  | some (.own (.lst xs)) => some xs
  | some (.d (.list xs)) => some xs
  | _ => none := nr rfl
@[simp] theorem xS_fork (t : Tg) (j : Nat) (b : List Sm) : xS G (.fork t j b) f = kFk G t j b f (isDat f j) := by
  rw [xS]
  cases h : isDat f j with
  | some x => rfl
  | none => rfl
@[simp] theorem xS_whl (c : Ex) (b : List Sm) : xS G (.whl c b) f = whlLoop (evC G c) (xSs G b) fuel f := by rw [xS]
@[simp] theorem xS_brk : xS G .brk f = .bk f := by rw [xS]
@[simp] theorem xS_cont : xS G .cont f = .ct f := by rw [xS]
@[simp] theorem xS_raise (c : Str) : xS G (.raise c) f = .rt (.ex c) f := by rw [xS]
@[simp] theorem xS_clx (e : Ex) : xS G (.clx e) f = Out.of (evX G e f) kClx := by rw [xS]
@[simp] theorem xS_clr (e : Ex) : xS G (.clr e) f = Out.of (evX G e f) kClr := by rw [xS]
@[simp] theorem xS_cla (i : Nat) (e : Ex) : xS G (.cla i e) f = Out.of (evX G e f) (kCla i) := by rw [xS]
@[simp] theorem xS_clt (ts : List Tg) (e : Ex) : xS G (.clt ts e) f = Out.of (evX G e f) (kClt ts) := by rw [xS]
@[simp] theorem xS_trys (b : List Sm) (cs all : List Str) (h : List Sm) : xS G (.trys b cs all h) f = kTry cs all (xSs G h) (xSs G b f) := by rw [xS]
@[simp] theorem kClx_ex (c : Str) : kClx (.ex c, f) = .rt (.ex c) f := nr rfl
@[simp] theorem kClx_d (x : D) : kClx (.d x, f) = .nx f := nr rfl
@[simp] theorem kClx_fr (o : Ob) : kClx (.fr o, f) = .nx f := nr rfl
@[simp] theorem kClr_eq (r : RR) : kClr (r, f) = .rt r f := nr rfl
@[simp] theorem kCla_ex (i : Nat) (c : Str) : kCla i (.ex c, f) = .rt (.ex c) f := nr rfl
@[simp] theorem kCla_d (i : Nat) (x : D) : kCla i (.d x, f) = .nx { f with ρ := f.ρ.set i (.d x) } := nr rfl
@[simp] theorem kCla_fr (i : Nat) (o : Ob) : kCla i (.fr o, f) = .nx { f with ρ := f.ρ.set i (.own o) } := nr rfl
@[simp] theorem kClt_ex (ts : List Tg) (c : Str) : kClt ts (.ex c, f) = .rt (.ex c) f := nr rfl
@[simp] theorem kClt_d (ts : List Tg) (x : D) : kClt ts (.d x, f) = Out.of (ofOpt (bindT (.tup ts) x f.ρ)) (kAsgT3 f) := nr rfl
@[simp] theorem kClt_fr (ts : List Tg) (o : Ob) : kClt ts (.fr o, f) = Out.of (ofOpt (bindT (.tup ts) o.d f.ρ)) (kAsgT3 f) := nr rfl
@[simp] theorem kTry_nx (cs all : List Str) (h : F → Out) : kTry cs all h (.nx f) = .nx f := nr rfl
@[simp] theorem kTry_bk (cs all : List Str) (h : F → Out) : kTry cs all h (.bk f) = .bk f := nr rfl
@[simp] theorem kTry_ct (cs all : List Str) (h : F → Out) : kTry cs all h (.ct f) = .ct f := nr rfl
@[simp] theorem kTry_d (cs all : List Str) (h : F → Out) (x : D) : kTry cs all h (.rt (.d x) f) = .rt (.d x) f := nr rfl
@[simp] theorem kTry_fr (cs all : List Str) (h : F → Out) (o : Ob) : kTry cs all h (.rt (.fr o) f) = .rt (.fr o) f := nr rfl
@[simp] theorem kTry_ex (cs all : List Str) (h : F → Out) (c : Str) : kTry cs all h (.rt (.ex c) f) = if all.contains c = true then (if cs.contains c = true then noEx (h f) else .rt (.ex c) f) else .bad := nr rfl
@[simp] theorem noEx_nx : noEx (.nx f) = .nx f := nr rfl
@[simp] theorem noEx_d (x : D) : noEx (.rt (.d x) f) = .rt (.d x) f := nr rfl
@[simp] theorem noEx_fr (o : Ob) : noEx (.rt (.fr o) f) = .rt (.fr o) f := nr rfl
@[simp] theorem xS_pass : xS G .pass f = .nx f := by rw [xS]
@[simp] theorem xSs_nil : xSs G [] f = .nx f := by rw [xSs]
@[simp] theorem xSs_cons (s : Sm) (ss : List Sm) : xSs G (s :: ss) f = (xS G s f).seq (xSs G ss) := by rw [xSs]
def kC2 (f : F) (t : Bool) : Res (Bool × F) := .ok (t, f)
@[simp] theorem kC2_eq (t : Bool) : kC2 f t = .ok (t, f) := nr rfl
def kC1 (p : RV × F) : Res (Bool × F) := (ofOpt ((view p.2 p.1).bind truth)).bind (kC2 p.2)
@[simp] theorem kC1_eq (r : RV) : kC1 (r, f) = (ofOpt ((view f r).bind truth)).bind (kC2 f) := nr rfl
@[simp] theorem evC_eq (e : Ex) : evC G e f = (evE G e f).bind kC1 := nr rfl
end
section
variable (f : F)
@[simp] theorem bindN_fr (i : Nat) (o : Ob) : bindN f i (.fr o) = some { f with ρ := f.ρ.set i (.own o) } := nr rfl
@[simp] theorem bindN_ce (i n : Nat) : bindN f i (.ce n) = some { f with ρ := f.ρ.set i (.c n) } := nr rfl
@[simp] theorem bindN_d (i : Nat) (x : D) : bindN f i (.d x) = some { f with ρ := f.ρ.set i (.d x) } := nr rfl
@[simp] theorem bindN_vr (i j : Nat) : bindN f i (.vr j) = (frz f (.vr j)).map fun p => { p.2 with ρ := p.2.ρ.set i (.d p.1) } := nr rfl
@[simp] theorem prepN_nil : prepN f [] = some ([], f) := nr rfl
@[simp] theorem prepN_vr (i : Nat) (rs : List RV) : prepN f (.vr i :: rs) = (frz f (.vr i)).bind fun p => (prepN p.2 rs).bind fun q => some (.d p.1 :: q.1, q.2) := nr rfl
@[simp] theorem prepN_d (x : D) (rs : List RV) : prepN f (.d x :: rs) = (prepN f rs).bind fun q => some (.d x :: q.1, q.2) := nr rfl
@[simp] theorem prepN_fr (o : Ob) (rs : List RV) : prepN f (.fr o :: rs) = (prepN f rs).bind fun q => some (.fr o :: q.1, q.2) := nr rfl
@[simp] theorem prepN_ce (n : Nat) (rs : List RV) : prepN f (.ce n :: rs) = (prepN f rs).bind fun q => some (.ce n :: q.1, q.2) := nr rfl
@[simp] theorem bindNs_nil : bindNs f [] [] = some f := nr rfl
@[simp] theorem bindNs_cons (i : Nat) (is : List Nat) (r : RV) (rs : List RV) : bindNs f (i :: is) (r :: rs) = (bindN f i r).bind fun f1 => bindNs f1 is rs := nr rfl
@[simp] theorem retR_d (x : D) : retR f (.d x) = some (.d x, f) := nr rfl
@[simp] theorem retR_fr (o : Ob) : retR f (.fr o) = some (.fr o, f) := nr rfl
@[simp] theorem retR_vr (i : Nat) : retR f (.vr i) = (match f.ρ[i]? with
    | some (.own o) => some (.fr o, { f with ρ := f.ρ.set i .no })
    | some (.d x) => some (.d x, f)
    | _ => none) := nr rfl
@[simp] theorem retR_ce (n : Nat) : retR f (.ce n) = (frz f (.ce n)).map fun p => (.d p.1, p.2) := nr rfl
@[simp] theorem bindT_name (i : Nat) (x : D) (ρ : List LV) : bindT (.name i) x ρ = some (ρ.set i (.d x)) := by rw [bindT]
@[simp] theorem bindT_tup (ts : List Tg) (ds : List D) (ρ : List LV) : bindT (.tup ts) (.tuple ds) ρ = bindTs ts ds ρ := by rw [bindT]
@[simp] theorem bindTs_nil (ρ : List LV) : bindTs [] [] ρ = some ρ := by rw [bindTs]
@[simp] theorem bindTs_cons (t : Tg) (ts : List Tg) (d : D) (ds : List D) (ρ : List LV) : bindTs (t :: ts) (d :: ds) ρ = (bindT t d ρ).bind fun ρ1 => bindTs ts ds ρ1 := by rw [bindTs]
@[simp] theorem wipeL_nil (ρ : List LV) : wipeL ρ [] = ρ := nr rfl
@[simp] theorem wipeL_cons (ρ : List LV) (v : Nat) (vs : List Nat) : wipeL ρ (v :: vs) = (wipeL ρ vs).set v .no := nr rfl
@[simp] theorem backL_nil (ρ0 ρ : List LV) : backL ρ0 ρ [] = ρ := nr rfl
@[simp] theorem backL_cons (ρ0 ρ : List LV) (v : Nat) (vs : List Nat) : backL ρ0 ρ (v :: vs) = (backL ρ0 ρ vs).set v (ρ0.getD v .no) := nr rfl
@[simp] theorem noOwn_nil (ρ : List LV) : noOwn ρ [] = true := nr rfl
@[simp] theorem noOwn_cons (ρ : List LV) (v : Nat) (vs : List Nat) : noOwn ρ (v :: vs) = ((match ρ[v]? with
  | some (.own _) => false
  | some _ => true
  | none => false) && noOwn ρ vs) := nr rfl
@[simp] theorem tgI_name (i : Nat) : tgI (.name i) = [i] := by rw [tgI]
@[simp] theorem tgI_tup (ts : List Tg) : tgI (.tup ts) = tgIs ts := by rw [tgI]
@[simp] theorem tgIs_nil : tgIs [] = [] := by rw [tgIs]
@[simp] theorem tgIs_cons (t : Tg) (ts : List Tg) : tgIs (t :: ts) = tgI t ++ tgIs ts := by rw [tgIs]
@[simp] theorem permR_nil {α : Type} (rs : List α) : permR rs [] = [] := nr rfl
@[simp] theorem permR_c {α : Type} (rs : List α) (i : Nat) (pm : List Nat) : permR rs (i :: pm) = (rs[i]?).toList ++ permR rs pm := by
  unfold permR
  rw [List.filterMap_cons]
  cases rs[i]? <;> rfl
@[simp] theorem ownAt_vr (i : Nat) : ownAt f (.vr i) = (match f.ρ[i]? with
    | some (.own o) => some (.inl i, o)
    | _ => none) := nr rfl
@[simp] theorem ownAt_ce (n : Nat) : ownAt f (.ce n) = (match f.S[n]? with
    | some (.own o) => some (.inr n, o)
    | _ => none) := nr rfl
@[simp] theorem put1_inl (i : Nat) (u : SV) : put1 f (.inl i) u = { f with ρ := f.ρ.set i u.lv } := nr rfl
@[simp] theorem put1_inr (n : Nat) (u : SV) : put1 f (.inr n) u = { f with S := f.S.set n u } := nr rfl
@[simp] theorem clr1_inl (i : Nat) : clr1 f (.inl i) = { f with ρ := f.ρ.set i .no } := nr rfl
@[simp] theorem clr1_inr (n : Nat) : clr1 f (.inr n) = { f with S := f.S.set n .no } := nr rfl
@[simp] theorem lv_no : SV.no.lv = .no := nr rfl
@[simp] theorem lv_d (x : D) : (SV.d x).lv = .d x := nr rfl
@[simp] theorem lv_own (o : Ob) : (SV.own o).lv = .own o := nr rfl
@[simp] theorem svok_d (x : D) : (SV.d x).ok = true := nr rfl
@[simp] theorem svok_own (o : Ob) : (SV.own o).ok = true := nr rfl
@[simp] theorem clr_nil : clr f [] = f := nr rfl
@[simp] theorem clr_cons (l : Loc) (ls : List Loc) : clr f (l :: ls) = clr (clr1 f l) ls := nr rfl
@[simp] theorem putB_nil : putB f [] [] = some f := nr rfl
@[simp] theorem putB_cons (l : Loc) (ls : List Loc) (u : SV) (us : List SV) : putB f (l :: ls) (u :: us) = putB (put1 f l u) ls us := nr rfl
@[simp] theorem toArg_d (x : D) : toArg f (.d x) = some (.d x) := nr rfl
@[simp] theorem toArg_fr (o : Ob) : toArg f (.fr o) = some (.o o) := nr rfl
@[simp] theorem toArg_vr (i : Nat) : toArg f (.vr i) = (match f.ρ[i]? with
    | some (.own o) => some (.r o)
    | some (.d x) => some (.d x)
    | _ => none) := nr rfl
@[simp] theorem toArg_ce (n : Nat) : toArg f (.ce n) = (match f.S[n]? with
    | some (.own o) => some (.r o)
    | some (.d x) => some (.d x)
    | _ => none) := nr rfl
@[simp] theorem toArgs_nil : toArgs f [] = some [] := nr rfl
@[simp] theorem toArgs_c (r : RV) (rs : List RV) : toArgs f (r :: rs) = (toArg f r).bind fun a => (toArgs f rs).bind fun l => some (a :: l) := nr rfl
@[simp] theorem locs_nil : locs f [] = [] := nr rfl
@[simp] theorem locs_d (x : D) (rs : List RV) : locs f (.d x :: rs) = locs f rs := nr rfl
@[simp] theorem locs_fr (o : Ob) (rs : List RV) : locs f (.fr o :: rs) = locs f rs := nr rfl
@[simp] theorem locs_vr (i : Nat) (rs : List RV) : locs f (.vr i :: rs) = (match f.ρ[i]? with
    | some (.own _) => .inl i :: locs f rs
    | _ => locs f rs) := nr rfl
@[simp] theorem locs_ce (n : Nat) (rs : List RV) : locs f (.ce n :: rs) = (match f.S[n]? with
    | some (.own _) => .inr n :: locs f rs
    | _ => locs f rs) := nr rfl
@[simp] theorem entry_eq (d : Df) (args : List Arg) : entry d args = ⟨entR 0 args ++ List.replicate (d.ns - d.np) .no, entS args⟩ := nr rfl
@[simp] theorem entR_nil (n : Nat) : entR n [] = [] := nr rfl
@[simp] theorem entR_d (n : Nat) (x : D) (r : List Arg) : entR n (.d x :: r) = .d x :: entR n r := nr rfl
@[simp] theorem entR_o (n : Nat) (o : Ob) (r : List Arg) : entR n (.o o :: r) = .own o :: entR n r := nr rfl
@[simp] theorem entR_r (n : Nat) (o : Ob) (r : List Arg) : entR n (.r o :: r) = .c n :: entR (n + 1) r := nr rfl
@[simp] theorem entS_nil : entS [] = [] := nr rfl
@[simp] theorem entS_d (x : D) (r : List Arg) : entS (.d x :: r) = entS r := nr rfl
@[simp] theorem entS_o (o : Ob) (r : List Arg) : entS (.o o :: r) = entS r := nr rfl
@[simp] theorem entS_r (o : Ob) (r : List Arg) : entS (.r o :: r) = .own o :: entS r := nr rfl
end
end Vm
set_option maxRecDepth 100000
set_option maxHeartbeats 1000000
namespace Vm
open PySem PySem.Spec L2
/-! ### operations on known data, for simp -/
@[simp] theorem run_add (a b : D) : Op.run .add [a, b] = runAdd a b := nr rfl
@[simp] theorem run_sub (a b : D) : Op.run .sub [a, b] = runSub a b := nr rfl
@[simp] theorem runSub_int (i j : Int) : runSub (.int i) (.int j) = some (.d (.int (i - j))) := nr rfl
@[simp] theorem runSub_bool (i : Bool) (j : Int) : runSub (.bool i) (.int j) = some (.d (.int ((if i = true then 1 else 0) - j))) := nr rfl
@[simp] theorem runAdd_bool (i : Bool) (j : Int) : runAdd (.bool i) (.int j) = some (.d (.int ((if i = true then 1 else 0) + j))) := nr rfl
@[simp] theorem runMul_bool (i : Int) (j : Bool) : runMul (.int i) (.bool j) = some (.d (.int (i * if j = true then 1 else 0))) := nr rfl
@[simp] theorem runNeg_bool (i : Bool) : runNeg (.bool i) = some (.d (.int (-(if i = true then 1 else 0)))) := nr rfl
@[simp] theorem run_isb (a b : D) : Op.run .isb [a, b] = runIs false a b := nr rfl
@[simp] theorem run_isnb (a b : D) : Op.run .isnb [a, b] = runIs true a b := nr rfl
@[simp] theorem runIs_bool (neg a b : Bool) : runIs neg (.bool a) (.bool b) = some (.d (.bool (if neg then !(a == b) else a == b))) := nr rfl
@[simp] theorem run_mul (a b : D) : Op.run .mul [a, b] = runMul a b := nr rfl
@[simp] theorem run_fdiv (a b : D) : Op.run .fdiv [a, b] = runInts (fun _ j => decide (0 < j) && (decide (j < 1073741824) || wideB j)) (fun i j => .int (i / j)) a b := nr rfl
@[simp] theorem run_mod (a b : D) : Op.run .mod [a, b] = runInts (fun _ j => decide (0 < j)) (fun i j => .int (i % j)) a b := nr rfl
@[simp] theorem run_pow (a b : D) : Op.run .pow [a, b] = runInts (fun i j => decide (0 ≤ j) && decide (j ≤ 1000000) && decide (i.natAbs < 2 ^ 64)) (fun i j => .int (i ^ j.toNat)) a b := nr rfl
@[simp] theorem run_neg (a : D) : Op.run .neg [a] = runNeg a := nr rfl
@[simp] theorem run_not (a : D) : Op.run .not [a] = (truth a).map fun b => .d (.bool (!b)) := nr rfl
@[simp] theorem run_lt (a b : D) : Op.run .lt [a, b] = runLt a b := nr rfl
@[simp] theorem run_le (a b : D) : Op.run .le [a, b] = runInts (fun _ _ => true) (fun i j => .bool (decide (i ≤ j))) a b := nr rfl
@[simp] theorem run_gt (a b : D) : Op.run .gt [a, b] = runInts (fun _ _ => true) (fun i j => .bool (decide (j < i))) a b := nr rfl
@[simp] theorem run_ge (a b : D) : Op.run .ge [a, b] = runInts (fun _ _ => true) (fun i j => .bool (decide (j ≤ i))) a b := nr rfl
@[simp] theorem run_eq (a b : D) : Op.run .eq [a, b] = runEq false a b := nr rfl
@[simp] theorem run_ne (a b : D) : Op.run .ne [a, b] = runEq true a b := nr rfl
@[simp] theorem run_isn (a : D) : Op.run .isn [a] = some (.d (.bool (isNone a))) := nr rfl
@[simp] theorem run_isnn (a : D) : Op.run .isnn [a] = some (.d (.bool (!isNone a))) := nr rfl
@[simp] theorem run_mem (a b : D) : Op.run .mem [a, b] = (memD a b).map fun b => .d (.bool b) := nr rfl
@[simp] theorem run_nmem (a b : D) : Op.run .nmem [a, b] = (memD a b).map fun b => .d (.bool (!b)) := nr rfl
@[simp] theorem run_item (a b : D) : Op.run .item [a, b] = (itemD a b).map .d := nr rfl
@[simp] theorem run_slice00 (a : D) : Op.run (.slice false false) [a] = sliceD a none none := nr rfl
@[simp] theorem run_slice10 (x a : D) : Op.run (.slice true false) [x, a] = (intD a).bind fun a => sliceD x (some a) none := nr rfl
@[simp] theorem run_slice01 (x a : D) : Op.run (.slice false true) [x, a] = (intD a).bind fun a => sliceD x none (some a) := nr rfl
@[simp] theorem run_len (a : D) : Op.run .len [a] = (lenD a).map fun n : Nat => RR.d (.int (n : Int)) := nr rfl
@[simp] theorem run_int (a : D) : Op.run .int [a] = runInt a := nr rfl
@[simp] theorem run_abs (a : D) : Op.run .abs [a] = runAbs a := nr rfl
@[simp] theorem run_min2 (a b : D) : Op.run .min2 [a, b] = runInts (fun _ _ => true) (fun i j => .int (if j < i then j else i)) a b := nr rfl
@[simp] theorem run_max2 (a b : D) : Op.run .max2 [a, b] = runInts (fun _ _ => true) (fun i j => .int (if j > i then j else i)) a b := nr rfl
@[simp] theorem run_min1 (a : D) : Op.run .min1 [a] = runInts1 runMin1 a := nr rfl
@[simp] theorem run_max1 (a : D) : Op.run .max1 [a] = runInts1 runMax1 a := nr rfl
@[simp] theorem run_repr (a : D) : Op.run .repr [a] = runRepr a := nr rfl
@[simp] theorem run_tuple (a : D) : Op.run .tuple [a] = runSeq (fun ds => .d (.tuple ds)) a := nr rfl
@[simp] theorem run_list (a : D) : Op.run .list [a] = runSeq (fun ds => .fr (.lst ds)) a := nr rfl
@[simp] theorem run_any (a : D) : Op.run .any [a] = runBools1 (fun bs => bs.any id) a := nr rfl
@[simp] theorem run_all (a : D) : Op.run .all [a] = runBools1 (fun bs => bs.all id) a := nr rfl
@[simp] theorem run_sum (a : D) : Op.run .sum [a] = runSum a := nr rfl
@[simp] theorem runSum_list (ds : List D) : runSum (.list ds) = (intsD ds).bind fun ns => some (.d (.int ns.sum)) := nr rfl
@[simp] theorem runSum_tuple (ds : List D) : runSum (.tuple ds) = (intsD ds).bind fun ns => some (.d (.int ns.sum)) := nr rfl
@[simp] theorem run_sorted (a : D) : Op.run .sorted [a] = runSorted a := nr rfl
@[simp] theorem run_divmod (a b : D) : Op.run .divmod [a, b] = runInts (fun _ j => decide (0 < j) && decide (j < 1073741824)) (fun i j => .tuple [.int (i / j), .int (i % j)]) a b := nr rfl
@[simp] theorem run_rev (a : D) : Op.run .rev [a] = runRev a := nr rfl
@[simp] theorem run_mget1 (a b : D) : Op.run .mget1 [a, b] = runGet1 a b := nr rfl
@[simp] theorem run_mget2 (a b c : D) : Op.run .mget2 [a, b, c] = runGet2 a b c := nr rfl
@[simp] theorem run_maxd (a b : D) : Op.run .maxd [a, b] = runMaxd a b := nr rfl
@[simp] theorem run_mind (a b : D) : Op.run .mind [a, b] = runMind a b := nr rfl
@[simp] theorem scD_int (i : Int) : scD (.int i) = some (.d (.int i)) := nr rfl
@[simp] theorem scD_none : scD .none = some (.d .none) := nr rfl
@[simp] theorem run_tindex (a b : D) : Op.run .tindex [a, b] = runTIdx a b := nr rfl
@[simp] theorem run_tcount (a b : D) : Op.run .tcount [a, b] = runTCnt a b := nr rfl
@[simp] theorem run_lcount (a b : D) : Op.run .lcount [a, b] = runLCnt a b := nr rfl
@[simp] theorem run_ptuple (a : D) : Op.run .ptuple [a] = runPtup a := nr rfl
@[simp] theorem runPtup_list (ds : List D) : runPtup (.list ds) = some (.d (pl ds)) := nr rfl
@[simp] theorem runTCnt_t (ds : List D) (k : D) : runTCnt (.tuple ds) k = cntD ds k := nr rfl
@[simp] theorem runLCnt_l (ds : List D) (k : D) : runLCnt (.list ds) k = cntD ds k := nr rfl
@[simp] theorem runTIdx_t (ds : List D) (k : D) : runTIdx (.tuple ds) k = idxD ds k := nr rfl
@[simp] theorem cntD_int (ds : List D) (k : Int) : cntD ds (.int k) = (intsD ds).bind fun ns => some (.d (.int ((ns.count k : Nat) : Int))) := nr rfl
@[simp] theorem run_lindex (a b : D) : Op.run .lindex [a, b] = runLIdx a b := nr rfl
@[simp] theorem run_isI (t : String) (x : D) : Op.run (.isI t) [x] = (kitB (tyD x) t).map fun b => .d (.bool b) := nr rfl
@[simp] theorem runRev_list (ds : List D) : runRev (.list ds) = some (.fr (.lst ds.reverse)) := nr rfl
@[simp] theorem runRev_tuple (ds : List D) : runRev (.tuple ds) = some (.d (.tuple ds.reverse)) := nr rfl
@[simp] theorem runAdd_int (i j : Int) : runAdd (.int i) (.int j) = some (.d (.int (i + j))) := nr rfl
@[simp] theorem runAdd_str (i j : Str) : runAdd (.str i) (.str j) = if szB (i.length + j.length) = true then some (.d (.str (i ++ j))) else none := by rw [runAdd]; exact ite_szB
@[simp] theorem runAdd_tuple (i j : List D) : runAdd (.tuple i) (.tuple j) = if szB (i.length + j.length) = true then some (.d (.tuple (i ++ j))) else none := by rw [runAdd]; exact ite_szB
@[simp] theorem runAdd_list (i j : List D) : runAdd (.list i) (.list j) = if szB (i.length + j.length) = true then some (.fr (.lst (i ++ j))) else none := by rw [runAdd]; exact ite_szB
@[simp] theorem runMul_int (i j : Int) : runMul (.int i) (.int j) = if (-(2 ^ 64) < i ∧ i < 2 ^ 64) ∨ (-(2 ^ 64) < j ∧ j < 2 ^ 64) then some (.d (.int (i * j))) else if (wideB i && wideB j) = true then some (.d (.int (i * j))) else none := by rw [runMul]
def mulB (n : Nat) (k : Int) : Bool := decide (-(2 ^ 63) ≤ k ∧ k < 2 ^ 63 ∧ n * k.toNat ≤ 16777216)
theorem mulB_of {n : Nat} {k : Int} (h1 : -(2 ^ 63) ≤ k) (h2 : k < 2 ^ 63) (h3 : n * k.toNat ≤ 16777216) : mulB n k = true := decide_eq_true ⟨h1, h2, h3⟩
@[simp] theorem runMul_list (xs : List D) (k : Int) : runMul (.list xs) (.int k) = if mulB xs.length k = true then some (.fr (.lst (List.replicate k.toNat xs).flatten)) else none := by
  rw [runMul]
  unfold mulB
  by_cases h : -(2 ^ 63) ≤ k ∧ k < 2 ^ 63 ∧ xs.length * k.toNat ≤ 16777216
  · rw [if_pos h, if_pos (decide_eq_true h)]
  · rw [if_neg h, if_neg (by simpa using h)]
def mulT (n : Nat) (k : Int) : Bool := decide (-1000 ≤ k ∧ k ≤ 1000 ∧ n ≤ 1000)
theorem mulT_of {n : Nat} {k : Int} (h1 : -1000 ≤ k) (h2 : k ≤ 1000) (h3 : n ≤ 1000) : mulT n k = true := decide_eq_true ⟨h1, h2, h3⟩
@[simp] theorem runMul_tuple (xs : List D) (k : Int) : runMul (.tuple xs) (.int k) = if mulT xs.length k = true then some (.d (.tuple (List.replicate k.toNat xs).flatten)) else none := by
  rw [runMul]
  unfold mulT
  by_cases h : -1000 ≤ k ∧ k ≤ 1000 ∧ xs.length ≤ 1000
  · rw [if_pos h, if_pos (decide_eq_true h)]
  · rw [if_neg h, if_neg (by simpa using h)]
@[simp] theorem runInts_int (c : Int → Int → Bool) (g : Int → Int → D) (i j : Int) : runInts c g (.int i) (.int j) = if c i j = true then some (.d (g i j)) else none := by rw [runInts]
@[simp] theorem runLt_int (i j : Int) : runLt (.int i) (.int j) = some (.d (.bool (decide (i < j)))) := nr rfl
@[simp] theorem runNeg_int (i : Int) : runNeg (.int i) = some (.d (.int (-i))) := nr rfl
@[simp] theorem runAbs_int (i : Int) : runAbs (.int i) = some (.d (.int (if i < 0 then -i else i))) := nr rfl
@[simp] theorem runInt_int (i : Int) : runInt (.int i) = some (.d (.int i)) := nr rfl
@[simp] theorem runInt_bool (b : Bool) : runInt (.bool b) = some (.d (.int (if b then 1 else 0))) := nr rfl
@[simp] theorem intD_int (i : Int) : intD (.int i) = some i := nr rfl
@[simp] theorem runSeq_list (g : List D → RR) (ds : List D) : runSeq g (.list ds) = some (g ds) := nr rfl
@[simp] theorem runSeq_tuple (g : List D → RR) (ds : List D) : runSeq g (.tuple ds) = some (g ds) := nr rfl
@[simp] theorem runInts1_list (g : List Int → Option RR) (ds : List D) : runInts1 g (.list ds) = (intsD ds).bind g := nr rfl
@[simp] theorem runBools1_list (g : List Bool → Bool) (ds : List D) : runBools1 g (.list ds) = (boolsD ds).map fun bs => .d (.bool (g bs)) := nr rfl
@[simp] theorem intsD_nil : intsD [] = some [] := nr rfl
@[simp] theorem intsD_cons (i : Int) (r : List D) : intsD (.int i :: r) = (intsD r).map (i :: ·) := nr rfl
@[simp] theorem boolsD_nil : boolsD [] = some [] := nr rfl
@[simp] theorem boolsD_cons (i : Bool) (r : List D) : boolsD (.bool i :: r) = (boolsD r).map (i :: ·) := nr rfl
@[simp] theorem intsD_map (l : List Int) : intsD (l.map .int) = some l := by
  induction l with
  | nil => rfl
  | cons x l ih => rw [List.map_cons, intsD_cons, ih]; rfl
@[simp] theorem boolsD_map (l : List Bool) : boolsD (l.map .bool) = some l := by
  induction l with
  | nil => rfl
  | cons x l ih => rw [List.map_cons, boolsD_cons, ih]; rfl
@[simp] theorem intsD_mapf {α : Type} (g : α → Int) (l : List α) : intsD (l.map fun x => PyData.int (g x)) = some (l.map g) := by
  induction l with
  | nil => rfl
  | cons x l ih => rw [List.map_cons, intsD_cons, ih]; rfl
@[simp] theorem boolsD_mapf {α : Type} (g : α → Bool) (l : List α) : boolsD (l.map fun x => PyData.bool (g x)) = some (l.map g) := by
  induction l with
  | nil => rfl
  | cons x l ih => rw [List.map_cons, boolsD_cons, ih]; rfl
theorem opt_map_bind {α β γ : Type} (o : Option α) (f : α → β) (g : β → Option γ) : (o.map f).bind g = o.bind fun a => g (f a) := by cases o <;> rfl
@[simp] theorem intsD_append : ∀ a b : List D, intsD (a ++ b) = (intsD a).bind fun x => (intsD b).map (x ++ ·)
  | [], b => by simp
  | .int i :: a, b => by
    rw [List.cons_append, intsD_cons, intsD_cons, intsD_append a b]
    cases intsD a <;> cases intsD b <;> simp
  | .none :: _, _ => rfl
  | .bool _ :: _, _ => rfl
  | .str _ :: _, _ => rfl
  | .list _ :: _, _ => rfl
  | .tuple _ :: _, _ => rfl
  | .dict _ :: _, _ => rfl
@[simp] theorem boolsD_append : ∀ a b : List D, boolsD (a ++ b) = (boolsD a).bind fun x => (boolsD b).map (x ++ ·)
  | [], b => by simp
  | .bool i :: a, b => by
    rw [List.cons_append, boolsD_cons, boolsD_cons, boolsD_append a b]
    cases boolsD a <;> cases boolsD b <;> simp
  | .none :: _, _ => rfl
  | .int _ :: _, _ => rfl
  | .str _ :: _, _ => rfl
  | .list _ :: _, _ => rfl
  | .tuple _ :: _, _ => rfl
  | .dict _ :: _, _ => rfl
@[simp] theorem runMax1_cons (n : Int) (r : List Int) : runMax1 (n :: r) = some (.d (.int (maxI n r))) := nr rfl
@[simp] theorem runMin1_cons (n : Int) (r : List Int) : runMin1 (n :: r) = some (.d (.int (minI n r))) := nr rfl
theorem maxI_fold (n : Int) (r : List Int) : maxI n r = r.foldl max n := by
  induction r generalizing n with
  | nil => rfl
  | cons x r ih =>
    rw [List.foldl_cons, ← ih]
    show maxI (if x > n then x else n) r = _
    congr 1
    split <;> omega
theorem minI_fold (n : Int) (r : List Int) : minI n r = r.foldl min n := by
  induction r generalizing n with
  | nil => rfl
  | cons x r ih =>
    rw [List.foldl_cons, ← ih]
    show minI (if x < n then x else n) r = _
    congr 1
    split <;> omega
@[simp] theorem truth_none : truth .none = some false := nr rfl
@[simp] theorem truth_bool (b : Bool) : truth (.bool b) = some b := nr rfl
@[simp] theorem truth_int (i : Int) : truth (.int i) = some (i != 0) := nr rfl
@[simp] theorem truth_str (s : Str) : truth (.str s) = if szB (s.length) = true then some ((s.length : Int) != 0) else none := by rw [truth]; exact ite_szB
@[simp] theorem truth_list (xs : List D) : truth (.list xs) = some (!xs.isEmpty) := nr rfl
@[simp] theorem truth_tuple (xs : List D) : truth (.tuple xs) = some (!xs.isEmpty) := nr rfl
@[simp] theorem truth_dict (xs : List (D × D)) : truth (.dict xs) = some (!xs.isEmpty) := nr rfl
@[simp] theorem lenD_list (ds : List D) : lenD (.list ds) = some ds.length := nr rfl
@[simp] theorem lenD_tuple (ds : List D) : lenD (.tuple ds) = some ds.length := nr rfl
@[simp] theorem lenD_dict (ds : List (D × D)) : lenD (.dict ds) = some ds.length := nr rfl
@[simp] theorem lenD_str (s : Str) : lenD (.str s) = if szB (s.length) = true then some s.length else none := by rw [lenD]; exact ite_szB
@[simp] theorem itemD_list (ds : List D) (i : Int) : itemD (.list ds) (.int i) = atI ds i := nr rfl
@[simp] theorem itemD_tuple (ds : List D) (i : Int) : itemD (.tuple ds) (.int i) = atI ds i := nr rfl
@[simp] theorem sliceD_list (ds : List D) (lo hi : Option Int) : sliceD (.list ds) lo hi = some (.fr (.lst (cutD ds lo hi))) := nr rfl
@[simp] theorem sliceD_tuple (ds : List D) (lo hi : Option Int) : sliceD (.tuple ds) lo hi = some (.d (.tuple (cutD ds lo hi))) := nr rfl
@[simp] theorem itemsD_list (ds : List D) : itemsD (.list ds) = some ds := nr rfl
@[simp] theorem itemsD_tuple (ds : List D) : itemsD (.tuple ds) = some ds := nr rfl
@[simp] theorem isNone_none : isNone .none = true := nr rfl
@[simp] theorem isNone_bool (b : Bool) : isNone (.bool b) = false := nr rfl
@[simp] theorem isNone_int (b : Int) : isNone (.int b) = false := nr rfl
@[simp] theorem isNone_str (b : Str) : isNone (.str b) = false := nr rfl
@[simp] theorem isNone_list (b : List D) : isNone (.list b) = false := nr rfl
@[simp] theorem isNone_tuple (b : List D) : isNone (.tuple b) = false := nr rfl
@[simp] theorem isNone_dict (b : List (D × D)) : isNone (.dict b) = false := nr rfl
@[simp] theorem tyD_none : tyD .none = "NoneType" := nr rfl
@[simp] theorem tyD_bool (b : Bool) : tyD (.bool b) = "bool" := nr rfl
@[simp] theorem tyD_int (b : Int) : tyD (.int b) = "int" := nr rfl
@[simp] theorem tyD_str (b : Str) : tyD (.str b) = "str" := nr rfl
@[simp] theorem tyD_list (b : List D) : tyD (.list b) = "list" := nr rfl
@[simp] theorem tyD_tuple (b : List D) : tyD (.tuple b) = "tuple" := nr rfl
@[simp] theorem tyD_dict (b : List (D × D)) : tyD (.dict b) = "dict" := nr rfl
@[simp] theorem mur_append (xs : List D) (y : D) : Mu.run .append (.lst xs) [y] = if szL (xs.length) = true then some (.lst (xs ++ [y]), .none) else none := by rw [Mu.run]; exact ite_szL
@[simp] theorem mur_extend (xs ys : List D) : Mu.run .extend (.lst xs) [.list ys] = if szB (xs.length + ys.length) = true then some (.lst (xs ++ ys), .none) else none := by rw [Mu.run]; exact ite_szB
@[simp] theorem mur_pop0 (xs : List D) : Mu.run .pop0 (.lst xs) [] = (xs[xs.length - 1]?).map fun y => (.lst xs.dropLast, y) := nr rfl
@[simp] theorem putO_lst (xs : List D) (i : Int) (y : D) : putO (.lst xs) (.int i) y = (ixN xs.length i).map fun j => .lst (xs.set j y) := nr rfl
@[simp] theorem putO_dct (kvs : List (Key × D)) (k y : D) : putO (.dct kvs) k y = (keyD k).bind fun k => if szL kvs.length = true then some (.dct (putD kvs k y)) else none := by rw [putO]; simp only [ite_szL]
@[simp] theorem augI_add (a b : Int) : augI .add a (.int b) = some (a + b) := nr rfl
@[simp] theorem augI_sub (a b : Int) : augI .sub a (.int b) = some (a - b) := nr rfl
theorem atI_pos {α : Type} {xs : List α} {i : Int} (h : 0 ≤ i) : atI xs i = xs[i.toNat]? := by
  unfold atI ixN
  rw [if_pos h]
  split
  · rfl
  · rw [List.getElem?_eq_none (by omega)]; rfl
theorem atI_neg {α : Type} {xs : List α} {i : Int} (h : i < 0) (h2 : -(xs.length : Int) ≤ i) : atI xs i = xs[(i + xs.length).toNat]? := by
  unfold atI ixN
  rw [if_neg (by omega), if_pos h2]
  rfl
@[simp] theorem atI_nat {α : Type} (xs : List α) (i : Nat) : atI xs (i : Int) = xs[i]? := by
  rw [atI_pos (by omega), Int.toNat_natCast]
@[simp] theorem atI_0 {α : Type} (xs : List α) : atI xs 0 = xs[0]? := atI_pos (by omega)
@[simp] theorem atI_1 {α : Type} (xs : List α) : atI xs 1 = xs[1]? := atI_pos (by omega)
@[simp] theorem atI_2 {α : Type} (xs : List α) : atI xs 2 = xs[2]? := atI_pos (by omega)
@[simp] theorem atI_3 {α : Type} (xs : List α) : atI xs 3 = xs[3]? := atI_pos (by omega)
@[simp] theorem atI_last {α : Type} (xs : List α) : atI xs (-1) = xs.getLast? := by
  cases xs with
  | nil => rfl
  | cons x r =>
    rw [atI_neg (by omega) (by simp; omega), List.getLast?_eq_getElem?]
    congr 1
    simp only [List.length_cons]
    omega
@[simp] theorem atI_map {α β : Type} (g : α → β) (xs : List α) (i : Int) : atI (xs.map g) i = (atI xs i).map g := by
  unfold atI
  rw [List.length_map]
  cases ixN xs.length i with
  | none => rfl
  | some j => simp
@[simp] theorem cutD_00 (xs : List D) : cutD xs none none = xs := by simp [cutD, HT.sIx]
@[simp] theorem cutD_to (xs : List D) (n : Nat) : cutD xs none (some (n : Int)) = xs.take n := by
  simp only [cutD, HT.sIx_nat, HT.sIx_none, List.drop_zero, Nat.sub_zero]
  by_cases h : n ≤ xs.length
  · rw [Nat.min_eq_left h]
  · rw [Nat.min_eq_right (by omega), List.take_of_length_le (by omega), List.take_of_length_le (by omega)]
@[simp] theorem cutD_from (xs : List D) (n : Nat) : cutD xs (some (n : Int)) none = xs.drop n := by
  simp only [cutD, HT.sIx_nat, HT.sIx_none]
  rw [List.take_of_length_le (by simp)]
  by_cases h : n ≤ xs.length
  · rw [Nat.min_eq_left h]
  · rw [Nat.min_eq_right (by omega), List.drop_eq_nil_of_le (by omega), List.drop_eq_nil_of_le (by omega)]
@[simp] theorem cutD_ft (xs : List D) (m n : Nat) : cutD xs (some (m : Int)) (some (n : Int)) = (xs.take n).drop m := by
  simp only [cutD, HT.sIx_nat]
  rw [List.drop_take]
  by_cases h : m ≤ xs.length
  · rw [Nat.min_eq_left h]
    by_cases h2 : n ≤ xs.length
    · rw [Nat.min_eq_left h2]
    · rw [Nat.min_eq_right (by omega), List.take_of_length_le (by simp), List.take_of_length_le (by simp; omega)]
  · have e1 : List.drop m xs = [] := List.drop_eq_nil_of_le (by omega)
    have e2 : List.drop xs.length xs = [] := List.drop_eq_nil_of_le (by omega)
    rw [Nat.min_eq_right (show xs.length ≤ m by omega), e1, e2]
    simp
@[simp] theorem cutD_to1 (xs : List D) (n : Nat) : cutD xs none (some ((n : Int) + 1)) = xs.take (n + 1) := cutD_to xs (n + 1)
theorem cutD_toI (xs : List D) {i : Int} (h : 0 ≤ i) : cutD xs none (some i) = xs.take i.toNat := by
  have := cutD_to xs i.toNat
  rw [Int.toNat_of_nonneg h] at this
  exact this
theorem cutD_fromI (xs : List D) {i : Int} (h : 0 ≤ i) : cutD xs (some i) none = xs.drop i.toNat := by
  have := cutD_from xs i.toNat
  rw [Int.toNat_of_nonneg h] at this
  exact this
/-- xs[-1:] -/
@[simp] theorem cutD_last (xs : List D) : cutD xs (some (-1)) none = xs.getLast?.toList := by
  have e : HT.sIx xs.length 0 (some (-1)) = xs.length - 1 := by
    show (if (-1 : Int) < 0 then ((-1 : Int) + (xs.length : Int)).toNat else min (-1 : Int).toNat xs.length) = xs.length - 1
    rw [if_pos (by omega)]
    omega
  simp only [cutD, e, HT.sIx_none]
  cases h : xs.getLast? with
  | none => rw [List.getLast?_eq_none_iff] at h; subst h; rfl
  | some y =>
    obtain ⟨M, rfl⟩ := List.getLast?_eq_some_iff.mp h
    simp [List.take_of_length_le]
@[simp] theorem kb_int_int : kitB "int" "int" = some true := by decide +kernel
@[simp] theorem kb_int_bool : kitB "int" "bool" = some false := by decide +kernel
@[simp] theorem kb_int_str : kitB "int" "str" = some false := by decide +kernel
@[simp] theorem kb_int_tuple : kitB "int" "tuple" = some false := by decide +kernel
@[simp] theorem kb_int_list : kitB "int" "list" = some false := by decide +kernel
@[simp] theorem kb_int_dict : kitB "int" "dict" = some false := by decide +kernel
@[simp] theorem kb_bool_int : kitB "bool" "int" = some true := by decide +kernel
@[simp] theorem kb_bool_bool : kitB "bool" "bool" = some true := by decide +kernel
@[simp] theorem kb_bool_str : kitB "bool" "str" = some false := by decide +kernel
@[simp] theorem kb_bool_tuple : kitB "bool" "tuple" = some false := by decide +kernel
@[simp] theorem kb_bool_list : kitB "bool" "list" = some false := by decide +kernel
@[simp] theorem kb_bool_dict : kitB "bool" "dict" = some false := by decide +kernel
@[simp] theorem kb_str_int : kitB "str" "int" = some false := by decide +kernel
@[simp] theorem kb_str_bool : kitB "str" "bool" = some false := by decide +kernel
@[simp] theorem kb_str_str : kitB "str" "str" = some true := by decide +kernel
@[simp] theorem kb_str_tuple : kitB "str" "tuple" = some false := by decide +kernel
@[simp] theorem kb_str_list : kitB "str" "list" = some false := by decide +kernel
@[simp] theorem kb_str_dict : kitB "str" "dict" = some false := by decide +kernel
@[simp] theorem kb_tuple_int : kitB "tuple" "int" = some false := by decide +kernel
@[simp] theorem kb_tuple_bool : kitB "tuple" "bool" = some false := by decide +kernel
@[simp] theorem kb_tuple_str : kitB "tuple" "str" = some false := by decide +kernel
@[simp] theorem kb_tuple_tuple : kitB "tuple" "tuple" = some true := by decide +kernel
@[simp] theorem kb_tuple_list : kitB "tuple" "list" = some false := by decide +kernel
@[simp] theorem kb_tuple_dict : kitB "tuple" "dict" = some false := by decide +kernel
@[simp] theorem kb_list_int : kitB "list" "int" = some false := by decide +kernel
@[simp] theorem kb_list_bool : kitB "list" "bool" = some false := by decide +kernel
@[simp] theorem kb_list_str : kitB "list" "str" = some false := by decide +kernel
@[simp] theorem kb_list_tuple : kitB "list" "tuple" = some false := by decide +kernel
@[simp] theorem kb_list_list : kitB "list" "list" = some true := by decide +kernel
@[simp] theorem kb_list_dict : kitB "list" "dict" = some false := by decide +kernel
@[simp] theorem kb_none_int : kitB "NoneType" "int" = some false := by decide +kernel
@[simp] theorem kb_none_bool : kitB "NoneType" "bool" = some false := by decide +kernel
@[simp] theorem kb_none_str : kitB "NoneType" "str" = some false := by decide +kernel
@[simp] theorem kb_none_tuple : kitB "NoneType" "tuple" = some false := by decide +kernel
@[simp] theorem kb_none_list : kitB "NoneType" "list" = some false := by decide +kernel
@[simp] theorem kb_none_dict : kitB "NoneType" "dict" = some false := by decide +kernel
@[simp] theorem kb_dict_int : kitB "dict" "int" = some false := by decide +kernel
@[simp] theorem kb_dict_bool : kitB "dict" "bool" = some false := by decide +kernel
@[simp] theorem kb_dict_str : kitB "dict" "str" = some false := by decide +kernel
@[simp] theorem kb_dict_tuple : kitB "dict" "tuple" = some false := by decide +kernel
@[simp] theorem kb_dict_list : kitB "dict" "list" = some false := by decide +kernel
@[simp] theorem kb_dict_dict : kitB "dict" "dict" = some true := by decide +kernel
/-! ### data of a kind -/
/-- a tuple of ints -/
abbrev iT (l : List Int) : D := .tuple (l.map .int)
/-- a list of ints -/
abbrev iL (l : List Int) : D := .list (l.map .int)
abbrev iP (p : Int × Int) : D := .tuple [.int p.1, .int p.2]
/-- a tuple of pairs of ints -/
abbrev iPs (l : List (Int × Int)) : D := .tuple (l.map iP)
/-! ### == of scalars, of tuples of ints; repr of them -/
theorem eqv_int (a b : Int) : PyData.eqv (.int a) (.int b) = (a == b) := by rw [PyData.eqv]
@[simp] theorem runEq_int (neg : Bool) (a b : Int) : runEq neg (.int a) (.int b) = some (.d (.bool (if neg then !(a == b) else a == b))) := by
  unfold runEq
  rw [if_pos (by simp [SeqAt.shaped, PyData.canLay0, PyData.depth]), eqv_int]
theorem eqvAll_ints (a b : List Int) : PyData.eqvAll (a.map .int) (b.map .int) = (a == b) := by
  induction a generalizing b with
  | nil => cases b <;> simp [PyData.eqvAll]
  | cons x a ih => cases b with
    | nil => simp [PyData.eqvAll]
    | cons y b => simp [PyData.eqvAll, ih, eqv_int]
theorem canLay_ints (a : List Int) : PyData.canLayAll0 (a.map .int) = true := by
  induction a with
  | nil => simp [PyData.canLayAll0]
  | cons x a ih => simp [PyData.canLayAll0, PyData.canLay0, ih]
theorem depth_ints (a : List Int) : PyData.depthAll (a.map .int) = 0 := by
  induction a with
  | nil => simp [PyData.depthAll]
  | cons x a ih => simp [PyData.depthAll, PyData.depth, ih]
theorem shaped_iL (a : List Int) : SeqAt.shaped (iL a) = true := by
  simp [SeqAt.shaped, iL, PyData.canLay0, PyData.depth, canLay_ints, depth_ints]
theorem shaped_iT (a : List Int) : SeqAt.shaped (iT a) = true := by
  simp [SeqAt.shaped, iT, PyData.canLay0, PyData.depth, canLay_ints, depth_ints]
@[simp] theorem runEq_iL (neg : Bool) (a b : List Int) : runEq neg (.list (a.map .int)) (.list (b.map .int)) = some (.d (.bool (if neg then !(a == b) else a == b))) := by
  unfold runEq
  have h1 := shaped_iL a
  have h2 := shaped_iL b
  rw [if_pos (by rw [h1, h2]; simp), PyData.eqv, eqvAll_ints]
@[simp] theorem runEq_iT (neg : Bool) (a b : List Int) : runEq neg (.tuple (a.map .int)) (.tuple (b.map .int)) = some (.d (.bool (if neg then !(a == b) else a == b))) := by
  unfold runEq
  have h1 := shaped_iT a
  have h2 := shaped_iT b
  rw [if_pos (by rw [h1, h2]; simp), PyData.eqv, eqvAll_ints]
theorem shaped_iPs (a : List (Int × Int)) : SeqAt.shaped (iPs a) = true := by
  have h1 : PyData.canLayAll0 (a.map iP) = true := by
    induction a with
    | nil => simp [PyData.canLayAll0]
    | cons x a ih => simp [PyData.canLayAll0, PyData.canLay0, iP, ih]
  have h2 : PyData.depthAll (a.map iP) ≤ 1 := by
    clear h1
    induction a with
    | nil => simp [PyData.depthAll]
    | cons x a ih => simp [PyData.depthAll, PyData.depth, iP]; omega
  simp only [SeqAt.shaped, iPs, PyData.canLay0, PyData.depth, h1, Bool.true_and]
  exact decide_eq_true (by omega)
theorem runEq_nil (neg : Bool) (ds : List D) (h : SeqAt.shaped (.tuple ds) = true) : runEq neg (.tuple ds) (.tuple []) = some (.d (.bool (if neg then !ds.isEmpty else ds.isEmpty))) := by
  unfold runEq
  have h2 : SeqAt.shaped (.tuple []) = true := shaped_iT []
  rw [if_pos (by rw [h, h2]; simp), PyData.eqv]
  cases ds <;> simp [PyData.eqvAll]
@[simp] theorem runEq_iPs_nil (neg : Bool) (a : List (Int × Int)) : runEq neg (.tuple (a.map iP)) (.tuple []) = some (.d (.bool (if neg then !a.isEmpty else a.isEmpty))) := by
  rw [runEq_nil _ _ (shaped_iPs a)]
  simp
@[simp] theorem runEq_str (neg : Bool) (a b : Str) : runEq neg (.str a) (.str b) = some (.d (.bool (if neg then !(a == b) else a == b))) := by
  unfold runEq
  rw [if_pos (by simp [twoStr]), PyData.eqv]
/-! ### repr of data that is small -/
/-- ints below 10^12, few leaves -/
def reprOk (d : D) : Prop := PyData.layable0 d = true ∧ d.intsShort 13 = true ∧ d.showable = true
theorem runRepr_of {d : D} (h : reprOk d) : runRepr d = some (.d (.str d.shown)) := by
  obtain ⟨h1, h2, h3⟩ := h
  have h4 := PyProof.Rows.shown_le13 h1 h2
  have h5 : (PyData.canLay0 d && decide (PyData.depth d ≤ 64) && decide (PyData.weight d ≤ 2 ^ 20)) = true := h1
  simp only [Bool.and_eq_true, decide_eq_true_eq] at h5
  unfold runRepr
  rw [if_pos ⟨h5.1.1, h3, h5.1.2, by omega⟩]
theorem log_small {i : Int} (h : i.natAbs < 10 ^ 12) : i.natAbs.log2 < 40 := by
  by_cases z : i.natAbs = 0
  · rw [z]; decide
  · rw [Nat.log2_lt z]
    omega
theorem weight_ints (a : List Int) (h : ∀ x ∈ a, x.natAbs < 10 ^ 12) : PyData.weightAll (a.map .int) ≤ 50 * a.length := by
  induction a with
  | nil => simp [PyData.weightAll]
  | cons x a ih =>
    have h1 := log_small (h x (List.mem_cons_self ..))
    have h2 := ih fun y hy => h y (List.mem_cons_of_mem _ hy)
    simp only [List.map_cons, PyData.weightAll, PyData.weight, List.length_cons]
    split <;> omega
theorem short_ints (a : List Int) (h : ∀ x ∈ a, x.natAbs < 10 ^ 12) : PyData.intsShortAll 13 (a.map .int) = true := by
  induction a with
  | nil => simp [PyData.intsShortAll]
  | cons x a ih =>
    have h1 := PyData.shown_int_le (h x (List.mem_cons_self ..))
    have h2 := ih fun y hy => h y (List.mem_cons_of_mem _ hy)
    simp [PyData.intsShortAll, PyData.intsShort, h1, h2]
theorem showable_ints (a : List Int) (h : ∀ x ∈ a, x.natAbs < 10 ^ 12) : PyData.showableAll (a.map .int) = true := by
  induction a with
  | nil => simp [PyData.showableAll]
  | cons x a ih =>
    have h1 := log_small (h x (List.mem_cons_self ..))
    have h2 := ih fun y hy => h y (List.mem_cons_of_mem _ hy)
    simp [PyData.showableAll, PyData.showable, h2]
    omega
theorem repr_iT {a : List Int} (hl : a.length ≤ 20000) (h : ∀ x ∈ a, x.natAbs < 10 ^ 12) : reprOk (iT a) := by
  have h1 := weight_ints a h
  refine ⟨?_, ?_, ?_⟩
  · simp [PyData.layable0, iT, PyData.canLay0, PyData.depth, PyData.weight, canLay_ints, depth_ints]
    exact decide_eq_true (by omega)
  · simp [iT, PyData.intsShort, short_ints a h]
  · simp [iT, PyData.showable, showable_ints a h]
theorem repr_iL {a : List Int} (hl : a.length ≤ 20000) (h : ∀ x ∈ a, x.natAbs < 10 ^ 12) : reprOk (iL a) := by
  have h1 := weight_ints a h
  refine ⟨?_, ?_, ?_⟩
  · simp [PyData.layable0, iL, PyData.canLay0, PyData.depth, PyData.weight, canLay_ints, depth_ints]
    exact decide_eq_true (by omega)
  · simp [iL, PyData.intsShort, short_ints a h]
  · simp [iL, PyData.showable, showable_ints a h]
theorem optMapList {α β : Type} (g : α → β) (o : Option α) : (Option.map g o).toList = o.toList.map g := by cases o <;> rfl
theorem optLen {α : Type} (o : Option α) : o.toList.length ≤ 1 := by cases o <;> simp
theorem bnd_nat (k : Nat) (h : k ≤ 16777216) : bnd (k : Int) = true := by
  unfold bnd
  simp only [Bool.and_eq_true, decide_eq_true_eq]
  omega
theorem bnd_int (k : Int) (h : -16777216 ≤ k) (h2 : k ≤ 16777216) : bnd k = true := by
  unfold bnd
  simp only [Bool.and_eq_true, decide_eq_true_eq]
  omega
@[simp] theorem bnd_0 : bnd 0 = true := bnd_nat 0 (by omega)
/-! ### two ways that meet again -/
section
variable {c : Prop} [Decidable c]
@[simp] theorem ite_ok {α : Type} (a b : α) : (if c then Res.ok a else Res.ok b) = Res.ok (if c then a else b) := by split <;> rfl
@[simp] theorem ite_pair {α β : Type} (a b : α) (f : β) : (if c then (a, f) else (b, f)) = (if c then a else b, f) := by split <;> rfl
@[simp] theorem ite_rvd (a b : D) : (if c then RV.d a else RV.d b) = RV.d (if c then a else b) := by split <;> rfl
@[simp] theorem ite_int (a b : Int) : (if c then PyData.int a else PyData.int b) = PyData.int (if c then a else b) := by split <;> rfl
@[simp] theorem ite_bool (a b : Bool) : (if c then PyData.bool a else PyData.bool b) = PyData.bool (if c then a else b) := by split <;> rfl
@[simp] theorem ite_tuple (a b : List D) : (if c then PyData.tuple a else PyData.tuple b) = PyData.tuple (if c then a else b) := by split <;> rfl
theorem sat_ite {α : Type} (x y : Res α) (P : α → Prop) : (if c then x else y).Sat P ↔ if c then x.Sat P else y.Sat P := by split <;> rfl
theorem osat_ite (x y : Out) (Q : Po) : (if c then x else y).Sat Q ↔ if c then x.Sat Q else y.Sat Q := by split <;> rfl
end
end Vm
set_option maxRecDepth 100000
set_option maxHeartbeats 1000000
namespace Vm
open PySem PySem.Spec
variable {G : Call} {f : F}
@[simp] theorem evSt_nil (fl : List Bool) : evSt G [] fl f = .ok ([], f) := by rw [evSt]
def kStF (G : Call) (es : List Ex) (fl : List Bool) (p : RV × F) : Res (List RV × F) := (evSt G es fl p.2).bind (kCons p.1)
@[simp] theorem kStF_eq (es : List Ex) (fl : List Bool) (r : RV) : kStF G es fl (r, f) = (evSt G es fl f).bind (kCons r) := nr rfl
def kApp (a : List RV) (q : List RV × F) : Res (List RV × F) := .ok (a ++ q.1, q.2)
@[simp] theorem kApp_eq (a rs : List RV) : kApp a (rs, f) = .ok (a ++ rs, f) := nr rfl
def kStT (G : Call) (es : List Ex) (fl : List Bool) (p : RV × F) : Res (List RV × F) := match p.1 with
  | .d (.tuple ds) => (evSt G es fl p.2).bind (kApp (ds.map RV.d))
  | .d (.list ds) => (evSt G es fl p.2).bind (kApp (ds.map RV.d))
  | _ => .bad
@[simp] theorem kStT_tup (es : List Ex) (fl : List Bool) (ds : List D) : kStT G es fl (.d (.tuple ds), f) = (evSt G es fl f).bind (kApp (ds.map RV.d)) := nr rfl
@[simp] theorem kStT_lst (es : List Ex) (fl : List Bool) (ds : List D) : kStT G es fl (.d (.list ds), f) = (evSt G es fl f).bind (kApp (ds.map RV.d)) := nr rfl
@[simp] theorem evSt_false (e : Ex) (es : List Ex) (fl : List Bool) : evSt G (e :: es) (false :: fl) f = (evE G e f).bind (kStF G es fl) := by rw [evSt]; rfl
@[simp] theorem evSt_true (e : Ex) (es : List Ex) (fl : List Bool) : evSt G (e :: es) (true :: fl) f = (evE G e f).bind (kStT G es fl) := by
  rw [evSt]
  congr 1
  funext p
  obtain ⟨r, f⟩ := p
  unfold kStT
  rcases r with (x | _ | _ | _)
  · cases x <;> rfl
  all_goals rfl
@[simp] theorem evE_tups (fl : List Bool) (es : List Ex) : evE G (.tups fl es) f = (evSt G es fl f).bind kTup := by rw [evE]; rfl
theorem frzs_ints (L : List Int) : frzs f (L.map fun i => RV.d (.int i)) = some (L.map .int, f) := by
  induction L with
  | nil => rfl
  | cons x L ih => simp [ih]
@[simp] theorem plT_count : plT (Str.ofString "count") 1 = some .tcount := by unfold plT; rw [if_neg (by decide +kernel), if_pos (by decide +kernel)]
end Vm
set_option maxRecDepth 100000
set_option maxHeartbeats 1000000
namespace Vm
open PySem PySem.Spec L2
/-! ### small data: its repr is had, it may be compared -/
def RO (d : D) (w k : Nat) : Prop := PyData.canLay0 d = true ∧ PyData.depth d ≤ k ∧ PyData.weight d ≤ w ∧ PyData.intsShort 13 d = true ∧ PyData.showable d = true
def ROs (ds : List D) (w k : Nat) : Prop := PyData.canLayAll0 ds = true ∧ PyData.depthAll ds ≤ k ∧ PyData.weightAll ds ≤ w ∧ PyData.intsShortAll 13 ds = true ∧ PyData.showableAll ds = true
theorem RO.int {i : Int} (h : i.natAbs < 10 ^ 12) : RO (.int i) 50 0 := by
  have h1 := log_small h
  refine ⟨by simp [PyData.canLay0], by simp [PyData.depth], ?_, ?_, ?_⟩
  · simp only [PyData.weight]; split <;> omega
  · simp [PyData.intsShort, PyData.shown_int_le h]
  · simp [PyData.showable]; omega
theorem RO.int' {i : Int} (h1 : -999999999999 ≤ i) (h2 : i ≤ 999999999999) : RO (.int i) 50 0 := RO.int (by omega)
theorem RO.none : RO .none 0 0 := ⟨by simp [PyData.canLay0], by simp [PyData.depth], by simp [PyData.weight], by simp [PyData.intsShort], by simp [PyData.showable]⟩
theorem RO.bool {b : Bool} : RO (.bool b) 0 0 := ⟨by simp [PyData.canLay0], by simp [PyData.depth], by simp [PyData.weight], by simp [PyData.intsShort], by simp [PyData.showable]⟩
theorem RO.str {s : Str} (h : PyData.strOk s = true) : RO (.str s) s.cps.size 0 := ⟨by simp [PyData.canLay0, h], by simp [PyData.depth], by simp [PyData.weight], by simp [PyData.intsShort], by simp [PyData.showable]⟩
theorem ROs.nil {k : Nat} : ROs [] 0 k := ⟨by simp [PyData.canLayAll0], by simp [PyData.depthAll], by simp [PyData.weightAll], by simp [PyData.intsShortAll], by simp [PyData.showableAll]⟩
theorem RO.mono {d : D} {w k w' k' : Nat} (h : RO d w k) (h1 : w ≤ w') (h2 : k ≤ k') : RO d w' k' := ⟨h.1, Nat.le_trans h.2.1 h2, Nat.le_trans h.2.2.1 h1, h.2.2.2⟩
theorem ROs.mono {d : List D} {w k w' k' : Nat} (h : ROs d w k) (h1 : w ≤ w') (h2 : k ≤ k') : ROs d w' k' := ⟨h.1, Nat.le_trans h.2.1 h2, Nat.le_trans h.2.2.1 h1, h.2.2.2⟩
theorem ROs.cons {d : D} {ds : List D} {w w' k k' : Nat} (h : RO d w k) (h' : ROs ds w' k') : ROs (d :: ds) (w + 1 + w') (max k k') := by
  obtain ⟨a1, a2, a3, a4, a5⟩ := h
  obtain ⟨b1, b2, b3, b4, b5⟩ := h'
  refine ⟨by simp [PyData.canLayAll0, a1, b1], ?_, ?_, by simp [PyData.intsShortAll, a4, b4], by simp [PyData.showableAll, a5, b5]⟩
  · simp only [PyData.depthAll]; omega
  · simp only [PyData.weightAll]; omega
theorem ROs.app {ds es : List D} {w w' k k' : Nat} (h : ROs ds w k) (h' : ROs es w' k') : ROs (ds ++ es) (w + w') (max k k') := by
  induction ds generalizing w with
  | nil => exact h'.mono (by omega) (by omega)
  | cons d ds ih =>
    obtain ⟨a1, a2, a3, a4, a5⟩ := h
    simp only [PyData.canLayAll0, PyData.depthAll, PyData.weightAll, PyData.intsShortAll, PyData.showableAll, Bool.and_eq_true] at a1 a2 a3 a4 a5
    have h1 : RO d (PyData.weight d) k := ⟨a1.1, by omega, Nat.le_refl _, a4.1, a5.1⟩
    have h2 : ROs ds (PyData.weightAll ds) k := ⟨a1.2, by omega, Nat.le_refl _, a4.2, a5.2⟩
    exact (ROs.cons h1 (ih h2)).mono (by omega) (by omega)
theorem ROs.all {ds : List D} {w k : Nat} (h : ∀ d ∈ ds, RO d w k) : ROs ds (ds.length * (w + 1)) k := by
  induction ds with
  | nil => exact ROs.nil.mono (by simp) (Nat.le_refl _)
  | cons d ds ih =>
    have := ROs.cons (h d (List.mem_cons_self ..)) (ih fun e he => h e (List.mem_cons_of_mem _ he))
    refine this.mono ?_ (by omega)
    rw [List.length_cons, Nat.succ_mul]; omega
theorem ROs.map {α : Type} {g : α → D} {l : List α} {w k : Nat} (h : ∀ x ∈ l, RO (g x) w k) : ROs (l.map g) (l.length * (w + 1)) k := by
  have := ROs.all (ds := l.map g) (w := w) (k := k) fun d hd => by
    obtain ⟨x, hx, rfl⟩ := List.mem_map.mp hd
    exact h x hx
  rwa [List.length_map] at this
theorem RO.tuple {ds : List D} {w k : Nat} (h : ROs ds w k) : RO (.tuple ds) w (k + 1) := by
  obtain ⟨a1, a2, a3, a4, a5⟩ := h
  exact ⟨by simp [PyData.canLay0, a1], by simp only [PyData.depth]; omega, by simp only [PyData.weight]; omega, by simp [PyData.intsShort, a4], by simp [PyData.showable, a5]⟩
theorem RO.list {ds : List D} {w k : Nat} (h : ROs ds w k) : RO (.list ds) w (k + 1) := by
  obtain ⟨a1, a2, a3, a4, a5⟩ := h
  exact ⟨by simp [PyData.canLay0, a1], by simp only [PyData.depth]; omega, by simp only [PyData.weight]; omega, by simp [PyData.intsShort, a4], by simp [PyData.showable, a5]⟩
theorem RO.norm {d : D} {w k : Nat} (h : RO d w k) : Vm.norm d = d := by
  cases d with
  | dict kvs => have := h.1; simp [PyData.canLay0] at this
  | _ => rfl
theorem RO.ok {d : D} {w k : Nat} (h : RO d w k) (h1 : w ≤ 1048576) (h2 : k ≤ 64) : reprOk d := by
  obtain ⟨a1, a2, a3, a4, a5⟩ := h
  refine ⟨?_, a4, a5⟩
  show (PyData.canLay0 d && decide (PyData.depth d ≤ 64) && decide (PyData.weight d ≤ 2 ^ 20)) = true
  rw [a1, decide_eq_true (by omega), decide_eq_true (show PyData.weight d ≤ 2 ^ 20 by omega)]; rfl
theorem RO.repr {d : D} {w k : Nat} (h : RO d w k) (h1 : w ≤ 1048576) (h2 : k ≤ 64) : runRepr d = some (.d (.str d.shown)) := runRepr_of (h.ok h1 h2)
theorem RO.shaped {d : D} {w k : Nat} (h : RO d w k) (h2 : k ≤ 64) : SeqAt.shaped d = true := by
  show (PyData.canLay0 d && decide (PyData.depth d ≤ 64)) = true
  rw [h.1, decide_eq_true (by have := h.2.1; omega)]; rfl
theorem RO.iP {p : Int × Int} (h1 : -999999999999 ≤ p.1) (h2 : p.1 ≤ 999999999999) (h3 : -999999999999 ≤ p.2) (h4 : p.2 ≤ 999999999999) : RO (Vm.iP p) 102 1 :=
  RO.tuple ((ROs.cons (RO.int' h1 h2) (ROs.cons (RO.int' h3 h4) ROs.nil (k' := 0))).mono (by omega) (by omega))
mutual
theorem eqv_self : ∀ d : D, PyData.canLay0 d = true → PyData.eqv d d = true
  | .none, _ => by simp [PyData.eqv]
  | .bool b, _ => by simp [PyData.eqv]
  | .int i, _ => by simp [PyData.eqv]
  | .str s, _ => by simp [PyData.eqv]
  | .list xs, h => by simp only [PyData.canLay0] at h; simp only [PyData.eqv]; exact eqv_selfs xs h
  | .tuple xs, h => by simp only [PyData.canLay0] at h; simp only [PyData.eqv]; exact eqv_selfs xs h
  | .dict _, h => by simp [PyData.canLay0] at h
theorem eqv_selfs : ∀ ds : List D, PyData.canLayAll0 ds = true → PyData.eqvAll ds ds = true
  | [], _ => by simp [PyData.eqvAll]
  | d :: ds, h => by
    simp only [PyData.canLayAll0, Bool.and_eq_true] at h
    simp only [PyData.eqvAll, eqv_self d h.1, eqv_selfs ds h.2, Bool.and_self]
end
/-- == of two small ones -/
theorem runEq_small {neg : Bool} {a b : D} {w w' k k' : Nat} (ha : RO a w k) (hb : RO b w' k') (h : k ≤ 64) (h' : k' ≤ 64) : runEq neg a b = some (.d (.bool (if neg then !PyData.eqv a b else PyData.eqv a b))) := by
  unfold runEq
  rw [if_pos (by rw [ha.shaped h, hb.shaped h']; simp)]
theorem runEq_lnil (neg : Bool) (ds : List D) {w k : Nat} (h : ROs ds w k) (hk : k ≤ 63) : runEq neg (.list ds) (.list []) = some (.d (.bool (if neg then !ds.isEmpty else ds.isEmpty))) := by
  rw [runEq_small (RO.list h) (RO.list ROs.nil) (by omega) (by omega) (k' := 1)]
  cases ds <;> simp [PyData.eqv, PyData.eqvAll]
theorem runEq_tnil (neg : Bool) (ds : List D) {w k : Nat} (h : ROs ds w k) (hk : k ≤ 63) : runEq neg (.tuple ds) (.tuple []) = some (.d (.bool (if neg then !ds.isEmpty else ds.isEmpty))) := by
  rw [runEq_small (RO.tuple h) (RO.tuple ROs.nil) (by omega) (by omega) (k' := 1)]
  cases ds <;> simp [PyData.eqv, PyData.eqvAll]
theorem ROs.sub {ds es : List D} {w k : Nat} (h : ∀ d ∈ ds, RO d w k) (hs : ∀ e ∈ es, e ∈ ds) : ROs es (es.length * (w + 1)) k := ROs.all fun e he => h e (hs e he)
theorem RO_iPs {R : List (Int × Int)} (h : ∀ p ∈ R, (-999999999999 ≤ p.1 ∧ p.1 ≤ 999999999999) ∧ -999999999999 ≤ p.2 ∧ p.2 ≤ 999999999999) : RO (.tuple (R.map Vm.iP)) (R.length * 103) 2 :=
  RO.tuple (ROs.map fun p hp => RO.iP (h p hp).1.1 (h p hp).1.2 (h p hp).2.1 (h p hp).2.2)
end Vm
set_option maxRecDepth 100000
set_option maxHeartbeats 1000000
namespace Vm
open PySem PySem.Spec
/-! data whose texts fit, with numbers of up to a hundred figures -/
def RX (d : D) (w k : Nat) : Prop := PyData.canLay0 d = true ∧ PyData.depth d ≤ k ∧ PyData.weight d ≤ w ∧ PyData.intsShort 120 d = true ∧ PyData.showable d = true
def RXs (ds : List D) (w k : Nat) : Prop := PyData.canLayAll0 ds = true ∧ PyData.depthAll ds ≤ k ∧ PyData.weightAll ds ≤ w ∧ PyData.intsShortAll 120 ds = true ∧ PyData.showableAll ds = true
theorem RX.int {i : Int} (h : i.natAbs < 10 ^ 100) : RX (.int i) 400 0 := by
  have h1 : i.natAbs.log2 < 333 := by
    by_cases z : i.natAbs = 0
    · rw [z]; decide
    · rw [Nat.log2_lt z]
      exact Nat.lt_of_lt_of_le h (by decide +kernel)
  refine ⟨by simp [PyData.canLay0], by simp [PyData.depth], ?_, ?_, ?_⟩
  · simp only [PyData.weight]; split <;> omega
  · have e := int_text_length_le10 (k := 100) (by decide) h
    have : (PyData.shown (.int i)).length ≤ 120 := by
      show (Str.ofString (toString i)).length ≤ 120
      rw [ofString_length]
      omega
    simp [PyData.intsShort, this]
  · simp [PyData.showable]; omega
theorem RX.none : RX .none 0 0 := ⟨by simp [PyData.canLay0], by simp [PyData.depth], by simp [PyData.weight], by simp [PyData.intsShort], by simp [PyData.showable]⟩
theorem RX.bool {b : Bool} : RX (.bool b) 0 0 := ⟨by simp [PyData.canLay0], by simp [PyData.depth], by simp [PyData.weight], by simp [PyData.intsShort], by simp [PyData.showable]⟩
theorem RX.str {s : Str} (h : PyData.strOk s = true) : RX (.str s) s.cps.size 0 := ⟨by simp [PyData.canLay0, h], by simp [PyData.depth], by simp [PyData.weight], by simp [PyData.intsShort], by simp [PyData.showable]⟩
theorem RXs.nil {k : Nat} : RXs [] 0 k := ⟨by simp [PyData.canLayAll0], by simp [PyData.depthAll], by simp [PyData.weightAll], by simp [PyData.intsShortAll], by simp [PyData.showableAll]⟩
theorem RX.mono {d : D} {w k w' k' : Nat} (h : RX d w k) (h1 : w ≤ w') (h2 : k ≤ k') : RX d w' k' := ⟨h.1, Nat.le_trans h.2.1 h2, Nat.le_trans h.2.2.1 h1, h.2.2.2⟩
theorem RXs.mono {d : List D} {w k w' k' : Nat} (h : RXs d w k) (h1 : w ≤ w') (h2 : k ≤ k') : RXs d w' k' := ⟨h.1, Nat.le_trans h.2.1 h2, Nat.le_trans h.2.2.1 h1, h.2.2.2⟩
theorem RXs.cons {d : D} {ds : List D} {w w' k k' : Nat} (h : RX d w k) (h' : RXs ds w' k') : RXs (d :: ds) (w + 1 + w') (max k k') := by
  obtain ⟨a1, a2, a3, a4, a5⟩ := h
  obtain ⟨b1, b2, b3, b4, b5⟩ := h'
  refine ⟨by simp [PyData.canLayAll0, a1, b1], ?_, ?_, by simp [PyData.intsShortAll, a4, b4], by simp [PyData.showableAll, a5, b5]⟩
  · simp only [PyData.depthAll]; omega
  · simp only [PyData.weightAll]; omega
theorem RXs.app {ds es : List D} {w w' k k' : Nat} (h : RXs ds w k) (h' : RXs es w' k') : RXs (ds ++ es) (w + w') (max k k') := by
  induction ds generalizing w with
  | nil => exact h'.mono (by omega) (by omega)
  | cons d ds ih =>
    obtain ⟨a1, a2, a3, a4, a5⟩ := h
    simp only [PyData.canLayAll0, PyData.depthAll, PyData.weightAll, PyData.intsShortAll, PyData.showableAll, Bool.and_eq_true] at a1 a2 a3 a4 a5
    have h1 : RX d (PyData.weight d) k := ⟨a1.1, by omega, Nat.le_refl _, a4.1, a5.1⟩
    have h2 : RXs ds (PyData.weightAll ds) k := ⟨a1.2, by omega, Nat.le_refl _, a4.2, a5.2⟩
    exact (RXs.cons h1 (ih h2)).mono (by omega) (by omega)
theorem RXs.all {ds : List D} {w k : Nat} (h : ∀ d ∈ ds, RX d w k) : RXs ds (ds.length * (w + 1)) k := by
  induction ds with
  | nil => exact RXs.nil.mono (by simp) (Nat.le_refl _)
  | cons d ds ih =>
    have := RXs.cons (h d (List.mem_cons_self ..)) (ih fun e he => h e (List.mem_cons_of_mem _ he))
    refine this.mono ?_ (by omega)
    rw [List.length_cons, Nat.succ_mul]; omega
theorem RXs.map {α : Type} {g : α → D} {l : List α} {w k : Nat} (h : ∀ x ∈ l, RX (g x) w k) : RXs (l.map g) (l.length * (w + 1)) k := by
  have := RXs.all (ds := l.map g) (w := w) (k := k) fun d hd => by
    obtain ⟨x, hx, rfl⟩ := List.mem_map.mp hd
    exact h x hx
  rwa [List.length_map] at this
theorem RX.tuple {ds : List D} {w k : Nat} (h : RXs ds w k) : RX (.tuple ds) w (k + 1) := by
  obtain ⟨a1, a2, a3, a4, a5⟩ := h
  exact ⟨by simp [PyData.canLay0, a1], by simp only [PyData.depth]; omega, by simp only [PyData.weight]; omega, by simp [PyData.intsShort, a4], by simp [PyData.showable, a5]⟩
theorem RX.list {ds : List D} {w k : Nat} (h : RXs ds w k) : RX (.list ds) w (k + 1) := by
  obtain ⟨a1, a2, a3, a4, a5⟩ := h
  exact ⟨by simp [PyData.canLay0, a1], by simp only [PyData.depth]; omega, by simp only [PyData.weight]; omega, by simp [PyData.intsShort, a4], by simp [PyData.showable, a5]⟩
theorem RX.repr {d : D} {w k : Nat} (h : RX d w k) (h1 : w ≤ 100000) (h2 : k ≤ 64) : runRepr d = some (.d (.str d.shown)) := by
  obtain ⟨a1, a2, a3, a4, a5⟩ := h
  have l := PyData.shown_le 120 (by omega) d (PyData.leavesShort_of_canLay0 120 d a1 a4)
  have l2 : (120 + 2) * PyData.weight d + 120 ≤ 16777216 := by
    have : (120 + 2) * PyData.weight d ≤ 122 * 100000 := Nat.mul_le_mul (by omega) (by omega)
    omega
  unfold runRepr
  rw [if_pos ⟨a1, a5, by omega, by omega⟩]
theorem RX.shaped {d : D} {w k : Nat} (h : RX d w k) (h2 : k ≤ 64) : SeqAt.shaped d = true := by
  show (PyData.canLay0 d && decide (PyData.depth d ≤ 64)) = true
  rw [h.1, decide_eq_true (Nat.le_trans h.2.1 h2)]; rfl
end Vm
namespace Pol
/-! ### asks, limits, hours: the arithmetic -/
abbrev Lim := List (Int × Int)
def opn (C : List Int) (t : Int) : Bool := decide (C.getD (t % (C.length : Int)).toNat 0 = 1)
def back (L : List Int) (k : Int) : Int := L.getD (L.length - k.toNat) 0
def bnds (P : Lim) (L : List Int) : List Int := (P.filter fun p => decide (p.1 ≤ (L.length : Int))).map fun p => back L p.1 + p.2
def low (P : Lim) (L : List Int) (s : Int) : Int := (L.getLast?.toList ++ bnds P L).foldl max s
def upO (C : List Int) : Nat → Int → Int
  | 0, t => t
  | n + 1, t => if opn C t = true then t else upO C n (t + 1)
def nxt (P : Lim) (C L : List Int) (s : Int) : Int := upO C C.length (low P L s)
def soon (P : Lim) (C : List Int) : Nat → List Int → Int → List Int
  | 0, _, _ => []
  | n + 1, L, s => nxt P C L s :: soon P C n (L ++ [nxt P C L s]) s
/-- one more ask is let -/
def may (P : Lim) (C L : List Int) (t : Int) : Prop := opn C t = true ∧ ∀ p ∈ P, p.1 ≤ (L.length : Int) → back L p.1 + p.2 ≤ t
def up (L : List Int) : Prop := L.Pairwise (· ≤ ·)
/-- polite -/
def pol (P : Lim) (C L : List Int) : Prop := ∀ i, i < L.length → may P C (L.take i) (L.getD i 0)
def okC (C : List Int) : Prop := 1 ∈ C
def okP (P : Lim) (K W : Int) : Prop := ∀ p ∈ P, 1 ≤ p.1 ∧ p.1 ≤ K ∧ 1 ≤ p.2 ∧ p.2 ≤ W
theorem foldmax_le {l : List Int} {s t : Int} : l.foldl max s ≤ t ↔ s ≤ t ∧ ∀ x ∈ l, x ≤ t := by
  induction l generalizing s with
  | nil => simp
  | cons a l ih =>
    rw [List.foldl_cons, ih]
    simp only [List.mem_cons, forall_eq_or_imp]
    constructor
    · rintro ⟨h1, h2⟩; exact ⟨by omega, by omega, h2⟩
    · rintro ⟨h1, h2, h3⟩; exact ⟨by omega, h3⟩
theorem low_le {P : Lim} {L : List Int} {s t : Int} : low P L s ≤ t ↔ s ≤ t ∧ (∀ x ∈ L.getLast?, x ≤ t) ∧ ∀ p ∈ P, p.1 ≤ (L.length : Int) → back L p.1 + p.2 ≤ t := by
  unfold low bnds
  rw [foldmax_le]
  simp only [List.mem_append, List.mem_map, List.mem_filter, decide_eq_true_eq, Option.mem_toList, Option.mem_def]
  constructor
  · rintro ⟨h1, h2⟩
    exact ⟨h1, fun x hx => h2 x (.inl hx), fun p hp hl => h2 _ (.inr ⟨p, ⟨hp, hl⟩, rfl⟩)⟩
  · rintro ⟨h1, h2, h3⟩
    refine ⟨h1, ?_⟩
    rintro x (hx | ⟨p, ⟨hp, hl⟩, rfl⟩)
    · exact h2 x hx
    · exact h3 p hp hl
theorem opn_ex {C : List Int} (h : okC C) (t : Int) : ∃ k : Nat, k < C.length ∧ opn C (t + k) = true := by
  obtain ⟨j, hj, e⟩ := List.mem_iff_getElem.mp h
  have hn : (0 : Int) < C.length := by omega
  refine ⟨((j - t) % (C.length : Int)).toNat, ?_, ?_⟩
  · have h1 := Int.emod_lt_of_pos ((j : Int) - t) hn
    have h2 := Int.emod_nonneg ((j : Int) - t) (by omega : (C.length : Int) ≠ 0)
    omega
  · have h2 := Int.emod_nonneg ((j : Int) - t) (by omega : (C.length : Int) ≠ 0)
    have e1 : (t + (((j - t) % (C.length : Int)).toNat : Int)) % (C.length : Int) = j := by
      rw [Int.toNat_of_nonneg h2, Int.add_emod, Int.emod_emod, ← Int.add_emod]
      rw [show t + (↑j - t) = (j : Int) by omega]
      exact Int.emod_eq_of_lt (by omega) (by omega)
    unfold opn
    rw [e1]
    simp [hj, e]
theorem upO_ge (C : List Int) (n : Nat) (t : Int) : t ≤ upO C n t ∧ upO C n t ≤ t + n := by
  induction n generalizing t with
  | zero => simp [upO]
  | succ n ih =>
    unfold upO
    split
    · omega
    · have := ih (t + 1); omega
theorem upO_least (C : List Int) (n : Nat) (t u : Int) (h1 : t ≤ u) (h2 : opn C u = true) : upO C n t ≤ u := by
  induction n generalizing t with
  | zero => simpa [upO]
  | succ n ih =>
    unfold upO
    split
    · omega
    · rename_i hn
      refine ih (t + 1) ?_
      have : t ≠ u := fun e => hn (e ▸ h2)
      omega
theorem upO_opn (C : List Int) (n : Nat) (t : Int) (h : ∃ k : Nat, k < n ∧ opn C (t + k) = true) : opn C (upO C n t) = true := by
  induction n generalizing t with
  | zero => obtain ⟨k, hk, _⟩ := h; omega
  | succ n ih =>
    unfold upO
    split
    · assumption
    · rename_i hn
      obtain ⟨k, hk, e⟩ := h
      cases k with
      | zero => simp at e; exact absurd e hn
      | succ k => exact ih (t + 1) ⟨k, by omega, by rw [← e]; congr 1; omega⟩
theorem nxt_least {P : Lim} {C L : List Int} {s t : Int} (h : low P L s ≤ t) (ho : opn C t = true) : nxt P C L s ≤ t := upO_least C _ _ t h ho
theorem nxt_low (P : Lim) (C L : List Int) (s : Int) : low P L s ≤ nxt P C L s := (upO_ge C _ _).1
theorem nxt_opn {P : Lim} {C L : List Int} {s : Int} (h : okC C) : opn C (nxt P C L s) = true := upO_opn C _ _ (opn_ex h _)
theorem nxt_may {P : Lim} {C L : List Int} {s : Int} (h : okC C) : may P C L (nxt P C L s) := ⟨nxt_opn h, (low_le.mp (nxt_low P C L s)).2.2⟩
theorem nxt_since (P : Lim) (C L : List Int) (s : Int) : s ≤ nxt P C L s := (low_le.mp (nxt_low P C L s)).1
theorem nxt_last (P : Lim) (C L : List Int) (s : Int) : ∀ x ∈ L.getLast?, x ≤ nxt P C L s := (low_le.mp (nxt_low P C L s)).2.1
/-- rows that are later at each place -/
def ge (L M : List Int) : Prop := L.length = M.length ∧ ∀ i, L.getD i 0 ≤ M.getD i 0
theorem ge.refl (L : List Int) : ge L L := ⟨rfl, fun i => Int.le_refl _⟩
theorem ge.snoc {L M : List Int} {a b : Int} (h : ge L M) (hab : a ≤ b) : ge (L ++ [a]) (M ++ [b]) := by
  obtain ⟨h1, h2⟩ := h
  refine ⟨by simp [h1], fun i => ?_⟩
  have := h2 i
  simp only [List.getD_eq_getElem?_getD, List.getElem?_append] at this ⊢
  rw [h1]
  split
  · exact this
  · cases i - M.length <;> simp <;> omega
theorem ge.back {L M : List Int} (h : ge L M) (k : Int) : back L k ≤ back M k := by
  unfold Pol.back
  rw [h.1]
  exact h.2 _
theorem ge.last {L M : List Int} {t : Int} (h : ge L M) (hm : ∀ x ∈ M.getLast?, x ≤ t) : ∀ x ∈ L.getLast?, x ≤ t := by
  intro x hx
  rw [List.getLast?_eq_getElem?, Option.mem_def] at hx
  have h2 := h.2 (L.length - 1)
  simp only [List.getD_eq_getElem?_getD, hx] at h2
  cases e : M.getLast? with
  | none => rw [List.getLast?_eq_none_iff] at e; subst e; have := h.1; simp at this; subst this; simp at hx
  | some y =>
    have := hm y (by simp [e])
    rw [List.getLast?_eq_getElem?, ← h.1] at e
    rw [e] at h2
    simp at h2
    omega
theorem nxt_mono {P : Lim} {C L M : List Int} {s t : Int} (h : ge L M) (hs : s ≤ t) (hl : ∀ x ∈ M.getLast?, x ≤ t) (hm : may P C M t) : nxt P C L s ≤ t := by
  refine nxt_least (low_le.mpr ⟨hs, h.last hl, fun p hp hk => ?_⟩) hm.1
  rw [h.1] at hk
  have := hm.2 p hp hk
  have := h.back p.1
  omega
theorem pol_snoc {P : Lim} {C L : List Int} {t : Int} : pol P C (L ++ [t]) ↔ pol P C L ∧ may P C L t := by
  unfold pol
  constructor
  · intro h
    constructor
    · intro i hi
      have := h i (by simp; omega)
      rw [List.take_append_of_le_length (by omega)] at this
      simpa [List.getD_eq_getElem?_getD, List.getElem?_append, hi] using this
    · simpa [List.getD_eq_getElem?_getD] using h L.length (by simp)
  · rintro ⟨h1, h2⟩ i hi
    simp at hi
    by_cases e : i < L.length
    · rw [List.take_append_of_le_length (by omega)]
      simpa [List.getD_eq_getElem?_getD, List.getElem?_append, e] using h1 i e
    · have e : i = L.length := by omega
      subst e
      simpa [List.getD_eq_getElem?_getD] using h2
theorem up_snoc {L : List Int} {t : Int} : up (L ++ [t]) ↔ up L ∧ ∀ x ∈ L, x ≤ t := by
  unfold up
  rw [List.pairwise_append]
  simp
theorem up_last {L : List Int} {t : Int} (h : up L) (hl : ∀ x ∈ L.getLast?, x ≤ t) : ∀ x ∈ L, x ≤ t := by
  intro x hx
  cases e : L.getLast? with
  | none => rw [List.getLast?_eq_none_iff] at e; subst e; simp at hx
  | some y =>
    have h1 := hl y (by simp [e])
    obtain ⟨M, rfl⟩ := List.getLast?_eq_some_iff.mp e
    rw [up_snoc] at h
    rw [List.mem_append] at hx
    rcases hx with hx | hx
    · have := h.2 x hx; omega
    · simp at hx; omega
theorem soon_length (P : Lim) (C : List Int) (n : Nat) (L : List Int) (s : Int) : (soon P C n L s).length = n := by
  induction n generalizing L with
  | zero => rfl
  | succ n ih => simp [soon, ih]
theorem soon_pol {P : Lim} {C : List Int} (hc : okC C) (n : Nat) {L : List Int} {s : Int} (hp : pol P C L) : pol P C (L ++ soon P C n L s) := by
  induction n generalizing L with
  | zero => simpa [soon]
  | succ n ih =>
    have := ih (L := L ++ [nxt P C L s]) (pol_snoc.mpr ⟨hp, nxt_may hc⟩)
    simpa [soon] using this
theorem soon_up {P : Lim} {C : List Int} (n : Nat) {L : List Int} {s : Int} (hp : up L) : up (L ++ soon P C n L s) := by
  induction n generalizing L with
  | zero => simpa [soon]
  | succ n ih =>
    have := ih (L := L ++ [nxt P C L s]) (up_snoc.mpr ⟨hp, up_last hp (nxt_last P C L s)⟩)
    simpa [soon] using this
theorem soon_add (P : Lim) (C : List Int) (m n : Nat) (L : List Int) (s : Int) : soon P C (m + n) L s = soon P C m L s ++ soon P C n (L ++ soon P C m L s) s := by
  induction m generalizing L with
  | zero => simp [soon]
  | succ m ih =>
    rw [Nat.succ_add]
    simp [soon, ih]
theorem soon_take (P : Lim) (C : List Int) {m n : Nat} (h : m ≤ n) (L : List Int) (s : Int) : (soon P C n L s).take m = soon P C m L s := by
  obtain ⟨k, rfl⟩ := Nat.exists_eq_add_of_le h
  rw [soon_add]
  rw [List.take_append_of_le_length (by simp [soon_length])]
  rw [List.take_of_length_le (by simp [soon_length])]
theorem soon_drop (P : Lim) (C : List Int) {m n : Nat} (h : m ≤ n) (L : List Int) (s : Int) : (soon P C n L s).drop m = soon P C (n - m) (L ++ soon P C m L s) s := by
  obtain ⟨k, rfl⟩ := Nat.exists_eq_add_of_le h
  rw [soon_add, List.drop_append_of_le_length (by simp [soon_length]), List.drop_of_length_le (by simp [soon_length])]
  simp
theorem soon_since (P : Lim) (C : List Int) (n : Nat) (L : List Int) (s : Int) : ∀ x ∈ soon P C n L s, s ≤ x := by
  induction n generalizing L with
  | zero => simp [soon]
  | succ n ih =>
    intro x hx
    simp only [soon, List.mem_cons] at hx
    rcases hx with rfl | hx
    · exact nxt_since _ _ _ _
    · exact ih _ x hx
/-- counted: how many asks lie in the W moments up to t -/
def cnt (L : List Int) (t W : Int) : Nat := (L.filter fun x => decide (x > t - W)).length
theorem cnt_snoc (L : List Int) (a t W : Int) : cnt (L ++ [a]) t W = cnt L t W + if a > t - W then 1 else 0 := by
  unfold cnt
  rw [List.filter_append, List.length_append]
  split <;> simp [*]
theorem revInd {α : Type} {p : List α → Prop} (h0 : p []) (h1 : ∀ L a, p L → p (L ++ [a])) (L : List α) : p L := by
  have : ∀ n (L : List α), L.length = n → p L := by
    intro n
    induction n with
    | zero => intro L h; rw [List.length_eq_zero_iff] at h; subst h; exact h0
    | succ n ih =>
      intro L h
      have hn : L ≠ [] := by intro e; subst e; simp at h
      rw [← List.dropLast_concat_getLast hn]
      exact h1 _ _ (ih _ (by simp [h]))
  exact this _ L rfl
/-- in an ascending row at least k lie above a bound exactly if the k-th last one does -/
theorem cnt_up' (t W : Int) {L : List Int} : ∀ (h : up L) (k : Nat) (hk : 1 ≤ k), k ≤ cnt L t W ↔ k ≤ L.length ∧ L.getD (L.length - k) 0 > t - W := by
  refine revInd (p := fun L => ∀ (h : up L) (k : Nat) (hk : 1 ≤ k), k ≤ cnt L t W ↔ k ≤ L.length ∧ L.getD (L.length - k) 0 > t - W) (fun h k hk => by simp only [cnt, List.filter_nil, List.length_nil]; omega) (fun L a ih h k hk => ?_) L
  · rw [up_snoc] at h
    rw [cnt_snoc]
    by_cases ha : a > t - W
    · rw [if_pos ha]
      by_cases h1 : k = 1
      · subst h1
        simp [List.getD_eq_getElem?_getD, ha]
      · have := ih h.1 (k - 1) (by omega)
        rw [show (k ≤ cnt L t W + 1) ↔ (k - 1 ≤ cnt L t W) by omega, this]
        simp only [List.length_append, List.length_cons, List.length_nil]
        have e : L.length + (0 + 1) - k = L.length - (k - 1) := by omega
        rw [e]
        constructor
        · rintro ⟨q1, q2⟩
          refine ⟨by omega, ?_⟩
          rw [List.getD_eq_getElem?_getD, List.getElem?_append_left (by omega), ← List.getD_eq_getElem?_getD]
          exact q2
        · rintro ⟨q1, q2⟩
          refine ⟨by omega, ?_⟩
          rw [List.getD_eq_getElem?_getD, List.getElem?_append_left (by omega), ← List.getD_eq_getElem?_getD] at q2
          exact q2
    · rw [if_neg ha]
      have z : cnt L t W = 0 := by
        unfold cnt
        rw [List.length_eq_zero_iff, List.filter_eq_nil_iff]
        intro x hx
        have := h.2 x hx
        simp; omega
      rw [z]
      constructor
      · omega
      · rintro ⟨q1, q2⟩
        exfalso
        simp only [List.length_append, List.length_cons, List.length_nil] at q1 q2
        rw [List.getD_eq_getElem?_getD, List.getElem?_eq_getElem (by simp; omega)] at q2
        simp only [Option.getD_some] at q2
        by_cases h1 : k = 1
        · subst h1; simp at q2; omega
        · rw [List.getElem_append_left (by omega)] at q2
          have := h.2 _ (List.getElem_mem (by omega : L.length + (0+1) - k < L.length))
          omega
theorem cnt_up {L : List Int} (h : up L) {k : Nat} (hk : 1 ≤ k) (t W : Int) : k ≤ cnt L t W ↔ k ≤ L.length ∧ L.getD (L.length - k) 0 > t - W := cnt_up' t W h k hk
theorem may_cnt {P : Lim} {C L : List Int} {t : Int} (h : up L) (hp : ∀ p ∈ P, 1 ≤ p.1) : may P C L t ↔ opn C t = true ∧ ∀ p ∈ P, (cnt L t p.2 : Int) + 1 ≤ p.1 := by
  unfold may
  refine and_congr_right fun _ => forall_congr' fun p => forall_congr' fun hm => ?_
  have hk := hp p hm
  have := cnt_up h (k := p.1.toNat) (by omega) t p.2
  have e : back L p.1 = L.getD (L.length - p.1.toNat) 0 := rfl
  rw [e]
  constructor
  · intro q
    have : ¬ p.1.toNat ≤ cnt L t p.2 := by
      rw [this]
      rintro ⟨z1, z2⟩
      have := q (by omega)
      omega
    omega
  · intro q hl
    have : ¬ (p.1.toNat ≤ L.length ∧ L.getD (L.length - p.1.toNat) 0 > t - p.2) := by
      rw [← this]; omega
    have : ¬ L.getD (L.length - p.1.toNat) 0 > t - p.2 := fun z => this ⟨by omega, z⟩
    omega
theorem nxt_bound {P : Lim} {C L : List Int} {s B W : Int} (hw : 0 ≤ W) (hP : ∀ p ∈ P, 1 ≤ p.1 ∧ p.2 ≤ W) (hs : s ≤ B) (hL : ∀ x ∈ L, x ≤ B) : nxt P C L s ≤ B + W + C.length := by
  have h1 : low P L s ≤ B + W := by
    refine low_le.mpr ⟨by omega, fun x hx => ?_, fun p hp hk => ?_⟩
    · have := hL x (List.mem_of_getLast? hx); omega
    · have h2 := hP p hp
      have : back L p.1 ≤ B := by
        unfold back
        rw [List.getD_eq_getElem?_getD, List.getElem?_eq_getElem (by omega)]
        exact hL _ (List.getElem_mem _)
      omega
  have := (upO_ge C C.length (low P L s)).2
  unfold nxt
  omega
end Pol
namespace Pol
/-! ### the most asks in some moments, always open -/
theorem opn_one (t : Int) : opn [1] t = true := by
  unfold opn
  have : (t % (([1] : List Int).length : Int)).toNat = 0 := by
    have h : (([1] : List Int).length : Int) = 1 := rfl
    rw [h, Int.emod_one]; rfl
  rw [this]; rfl
theorem okC_one : okC [1] := by simp [okC]
theorem nxt_one (P : Lim) (L : List Int) (s : Int) : nxt P [1] L s = low P L s := by
  unfold nxt
  show (if opn [1] (low P L s) = true then low P L s else _) = _
  rw [if_pos (opn_one _)]
theorem may_one {P : Lim} {L : List Int} {t : Int} : may P [1] L t ↔ ∀ p ∈ P, p.1 ≤ (L.length : Int) → back L p.1 + p.2 ≤ t := by
  unfold may
  simp [opn_one]
/-- the greatest number of asks in m moments (for limits that are some) -/
def mst (P : Lim) (m : Nat) : Nat := ((soon P [1] (6 * m + 1) [] 0).filter fun x => decide (x < (m : Int))).length
theorem soon_snoc' (P : Lim) (C : List Int) (j : Nat) (L : List Int) (s : Int) : soon P C (j + 1) L s = soon P C j L s ++ [nxt P C (L ++ soon P C j L s) s] := by
  rw [soon_add]
  simp [soon]
theorem soon_at {P : Lim} {C A : List Int} {s : Int} {K i : Nat} (hK : i < K) : (soon P C K A s).getD i 0 = nxt P C (A ++ soon P C i A s) s := by
  have h1 := soon_snoc' P C i A s
  have h2 : (soon P C K A s).take (i + 1) = soon P C (i + 1) A s := soon_take P C hK A s
  have h3 : ((soon P C K A s).take (i + 1)).getD i 0 = (soon P C K A s).getD i 0 := by
    simp [List.getD_eq_getElem?_getD]
  rw [← h3, h2, h1]
  have := soon_length P C i A s
  simp [List.getD_eq_getElem?_getD, this]
/-- K asks take W moments -/
theorem soon_step {P : Lim} {C : List Int} {s : Int} {n i : Nat} {p : Int × Int} (hC : okC C) (hp : p ∈ P) (h1 : 1 ≤ p.1) (hi : p.1.toNat ≤ i) (hn : i < n) : (soon P C n [] s).getD (i - p.1.toNat) 0 + p.2 ≤ (soon P C n [] s).getD i 0 := by
  have e := soon_at (P := P) (C := C) (A := []) (s := s) hn
  rw [List.nil_append] at e
  have m := (nxt_may (P := P) (L := soon P C i [] s) (s := s) hC).2 p hp (by rw [soon_length]; omega)
  rw [e]
  have e2 : back (soon P C i [] s) p.1 = (soon P C n [] s).getD (i - p.1.toNat) 0 := by
    unfold back
    rw [soon_length, ← soon_take P C (Nat.le_of_lt hn) [] s]
    simp only [List.getD_eq_getElem?_getD]
    rw [List.getElem?_take_of_lt (by omega)]
  omega
theorem soon_up' {P : Lim} {C : List Int} {s : Int} {n : Nat} : up (soon P C n [] s) := by
  have := soon_up (P := P) (C := C) n (L := []) (s := s) List.Pairwise.nil
  simpa using this
theorem up_get {L : List Int} (h : up L) {i j : Nat} (hij : i ≤ j) (hj : j < L.length) : L.getD i 0 ≤ L.getD j 0 := by
  rw [List.getD_eq_getElem?_getD, List.getD_eq_getElem?_getD, List.getElem?_eq_getElem hj, List.getElem?_eq_getElem (by omega)]
  simp only [Option.getD_some]
  by_cases e : i = j
  · subst e; exact Int.le_refl _
  · exact List.pairwise_iff_getElem.mp h i j (by omega) hj (by omega)
/-- they grow: behind 6 k asks k moments are gone -/
theorem soon_grow {P : Lim} {C : List Int} (hC : okC C) (hP : okP P 6 12) (hne : P ≠ []) {s : Int} : ∀ (k n : Nat), 6 * k < n → s + k ≤ (soon P C n [] s).getD (6 * k) 0 := by
  intro k
  induction k with
  | zero =>
    intro n hn
    have : (soon P C n [] s).getD 0 0 ∈ soon P C n [] s := by
      rw [List.getD_eq_getElem?_getD, List.getElem?_eq_getElem (by rw [soon_length]; omega)]
      exact List.getElem_mem _
    have := soon_since P C n [] s _ this
    simpa using this
  | succ k ih =>
    intro n hn
    obtain ⟨p, P', rfl⟩ : ∃ p P', P = p :: P' := by cases P with | nil => exact absurd rfl hne | cons p P' => exact ⟨p, P', rfl⟩
    have hp := hP p (List.mem_cons_self ..)
    have h1 := soon_step (P := p :: P') (C := C) (s := s) (n := n) (i := 6 * (k + 1)) (p := p) hC (List.mem_cons_self ..) hp.1 (by omega) hn
    have h2 := up_get (soon_up' (P := p :: P') (C := C) (s := s) (n := n)) (i := 6 * k) (j := 6 * (k + 1) - p.1.toNat) (by omega) (by rw [soon_length]; omega)
    have h3 := ih n (by omega)
    omega
/-- a row that ascends is cut in two by a bound -/
theorem up_split {L : List Int} (h : up L) (b : Int) : L = (L.filter fun x => decide (x < b)) ++ L.filter fun x => !decide (x < b) := by
  induction L with
  | nil => rfl
  | cons x L ih =>
    unfold up at h
    rw [List.pairwise_cons] at h
    by_cases hx : x < b
    · rw [List.filter_cons_of_pos (by simpa using hx), List.filter_cons_of_neg (by simpa using hx), List.cons_append, ← ih h.2]
    · have e : L.filter (fun x => decide (x < b)) = [] := by
        rw [List.filter_eq_nil_iff]
        intro y hy
        have := h.1 y hy
        simp; omega
      have e2 : L.filter (fun x => !decide (x < b)) = L := by
        rw [List.filter_eq_self]
        intro y hy
        have := h.1 y hy
        simp; omega
      rw [List.filter_cons_of_neg (by simpa using hx), List.filter_cons_of_pos (by simpa using hx), e, e2]
      rfl
theorem mst_eq {P : Lim} (hP : okP P 6 12) (hne : P ≠ []) {m j n : Nat} (hn : n = 6 * m + 1 ∨ 6 * m + 1 ≤ n) (h1 : ∀ x ∈ soon P [1] j [] 0, x < (m : Int)) (h2 : (m : Int) ≤ nxt P [1] (soon P [1] j [] 0) 0) : ((soon P [1] n [] 0).filter fun x => decide (x < (m : Int))).length = j := by
  have hn' : 6 * m + 1 ≤ n := by omega
  have hj : j ≤ 6 * m := by
    apply Decidable.byContradiction
    intro z
    have h3 := soon_grow okC_one hP hne (s := 0) m j (by omega)
    have : (soon P [1] j [] 0).getD (6 * m) 0 ∈ soon P [1] j [] 0 := by
      rw [List.getD_eq_getElem?_getD, List.getElem?_eq_getElem (by rw [soon_length]; omega)]
      exact List.getElem_mem _
    have := h1 _ this
    omega
  obtain ⟨k, rfl⟩ : ∃ k, n = j + (k + 1) := ⟨n - j - 1, by omega⟩
  rw [soon_add, List.nil_append, List.filter_append, List.length_append]
  have e1 : (soon P [1] j [] 0).filter (fun x => decide (x < (m : Int))) = soon P [1] j [] 0 := by
    rw [List.filter_eq_self]
    intro x hx
    simpa using h1 x hx
  have e2 : (soon P [1] (k + 1) (soon P [1] j [] 0) 0).filter (fun x => decide (x < (m : Int))) = [] := by
    rw [List.filter_eq_nil_iff]
    intro x hx
    have hu := soon_up (P := P) (C := [1]) (k + 1) (L := soon P [1] j [] 0) (s := 0) soon_up'
    unfold up at hu
    rw [List.pairwise_append] at hu
    have hu2 := hu.2.1
    simp only [soon] at hx hu2
    rw [List.pairwise_cons] at hu2
    rw [List.mem_cons] at hx
    rcases hx with rfl | hx
    · simp; omega
    · have := hu2.1 x hx
      simp; omega
  rw [e1, e2, soon_length]
  rfl
theorem low_shift (P : Lim) (L : List Int) (s d : Int) (hp : ∀ p ∈ P, 1 ≤ p.1) : low P (L.map (· + d)) (s + d) = low P L s + d := by
  apply Int.le_antisymm
  · refine low_le.mpr ⟨?_, ?_, ?_⟩
    · have := (low_le.mp (Int.le_refl (low P L s))).1; omega
    · intro x hx
      rw [List.getLast?_map] at hx
      obtain ⟨y, hy, rfl⟩ := Option.map_eq_some_iff.mp (Option.mem_def.mp hx)
      have := (low_le.mp (Int.le_refl (low P L s))).2.1 y hy
      omega
    · intro p hm hk
      rw [List.length_map] at hk
      have h1 := hp p hm
      have := (low_le.mp (Int.le_refl (low P L s))).2.2 p hm hk
      have e : back (L.map (· + d)) p.1 = back L p.1 + d := by
        unfold back
        rw [List.length_map, List.getD_eq_getElem?_getD, List.getD_eq_getElem?_getD, List.getElem?_map, List.getElem?_eq_getElem (by omega)]
        rfl
      omega
  · have : low P L s ≤ low P (L.map (· + d)) (s + d) - d := by
      have h0 := low_le.mp (Int.le_refl (low P (L.map (· + d)) (s + d)))
      refine low_le.mpr ⟨by have := h0.1; omega, fun x hx => ?_, fun p hm hk => ?_⟩
      · have := h0.2.1 (x + d) (by rw [List.getLast?_map, Option.mem_def.mp hx]; rfl)
        omega
      · have h1 := hp p hm
        have := h0.2.2 p hm (by rw [List.length_map]; exact hk)
        have e : back (L.map (· + d)) p.1 = back L p.1 + d := by
          unfold back
          rw [List.length_map, List.getD_eq_getElem?_getD, List.getD_eq_getElem?_getD, List.getElem?_map, List.getElem?_eq_getElem (by omega)]
          rfl
        omega
    omega
theorem soon_shift {P : Lim} (hp : ∀ p ∈ P, 1 ≤ p.1) (n : Nat) (L : List Int) (s d : Int) : soon P [1] n (L.map (· + d)) (s + d) = (soon P [1] n L s).map (· + d) := by
  induction n generalizing L with
  | zero => rfl
  | succ n ih =>
    simp only [soon, List.map_cons]
    rw [nxt_one, nxt_one, low_shift P L s d hp]
    have := ih (L ++ [low P L s])
    rw [List.map_append] at this
    rw [← this]
    rfl
theorem soon_shift0 {P : Lim} (hp : ∀ p ∈ P, 1 ≤ p.1) (n : Nat) (s : Int) : soon P [1] n [] s = (soon P [1] n [] 0).map (· + s) := by
  have := soon_shift hp n [] 0 s
  simpa using this
theorem ge_soon {P : Lim} {M : List Int} {a : Int} (hu : up M) (hm : pol P [1] M) (ha : ∀ x ∈ M, a ≤ x) : ∀ j, j ≤ M.length → ge (soon P [1] j [] a) (M.take j) := by
  intro j
  induction j with
  | zero => intro _; simpa [soon] using ge.refl []
  | succ j ih =>
    intro hj
    rw [soon_snoc', List.nil_append, ← List.take_append_getElem (show j < M.length by omega)]
    refine (ih (by omega)).snoc ?_
    have h1 := hm j (by omega)
    have e : M.getD j 0 = M[j] := by rw [List.getD_eq_getElem?_getD, List.getElem?_eq_getElem (by omega)]; rfl
    rw [e] at h1
    refine nxt_mono (ih (by omega)) (ha _ (List.getElem_mem _)) ?_ h1
    intro x hx
    rw [List.getLast?_eq_getElem?, Option.mem_def, List.length_take, Nat.min_eq_left (by omega)] at hx
    by_cases hj0 : j = 0
    · subst hj0; simp at hx
    · rw [List.getElem?_take_of_lt (by omega), List.getElem?_eq_getElem (by omega)] at hx
      cases hx
      exact List.pairwise_iff_getElem.mp hu (j - 1) j (by omega) (by omega) (by omega)
/-- as many asks as the greedy ones at most -/
theorem len_mst {P : Lim} (hP : okP P 6 12) (hne : P ≠ []) {M : List Int} {a : Int} {m : Nat} (hu : up M) (hm : pol P [1] M) (ha : ∀ x ∈ M, a ≤ x ∧ x < a + m) : M.length ≤ mst P m := by
  have h1 := ge_soon hu hm (fun x hx => (ha x hx).1) M.length (Nat.le_refl _)
  rw [List.take_length] at h1
  have hlt : ∀ x ∈ soon P [1] M.length [] 0, x < (m : Int) := by
    intro x hx
    obtain ⟨i, hi, rfl⟩ := List.mem_iff_getElem.mp hx
    have h2 := h1.2 i
    rw [soon_shift0 (fun p hp => (hP p hp).1)] at h2
    rw [soon_length] at hi
    rw [List.getD_eq_getElem?_getD, List.getD_eq_getElem?_getD, List.getElem?_map, List.getElem?_eq_getElem (by rw [soon_length]; exact hi), List.getElem?_eq_getElem hi] at h2
    simp only [Option.map_some, Option.getD_some] at h2
    have := ha M[i] (List.getElem_mem _)
    omega
  have hlen : M.length ≤ 6 * m + 1 := by
    apply Decidable.byContradiction
    intro z
    have h3 := soon_grow okC_one hP hne (s := 0) m M.length (by omega)
    have : (soon P [1] M.length [] 0).getD (6 * m) 0 ∈ soon P [1] M.length [] 0 := by
      rw [List.getD_eq_getElem?_getD, List.getElem?_eq_getElem (by rw [soon_length]; omega)]
      exact List.getElem_mem _
    have := hlt _ this
    omega
  unfold mst
  have e : soon P [1] M.length [] 0 = ((soon P [1] (6 * m + 1) [] 0).take M.length) := (soon_take P [1] hlen [] 0).symm
  have e2 : (soon P [1] M.length [] 0).filter (fun x => decide (x < (m : Int))) = soon P [1] M.length [] 0 := by
    rw [List.filter_eq_self]; intro x hx; simpa using hlt x hx
  have h4 : ((soon P [1] M.length [] 0).filter fun x => decide (x < (m : Int))).length ≤ ((soon P [1] (6 * m + 1) [] 0).filter fun x => decide (x < (m : Int))).length := by
    rw [e]
    exact ((List.take_sublist _ _).filter _).length_le
  rw [e2, soon_length] at h4
  exact h4
theorem pol_back {P : Lim} {A B : List Int} (hp : ∀ p ∈ P, 1 ≤ p.1) (h : pol P [1] (A ++ B)) : pol P [1] B := by
  intro i hi
  have h1 := h (A.length + i) (by rw [List.length_append]; omega)
  rw [may_one] at h1 ⊢
  intro p hm hk
  have h0 := hp p hm
  rw [List.length_take, Nat.min_eq_left (by omega)] at hk
  have h2 := h1 p hm (by rw [List.length_take, List.length_append]; omega)
  have e1 : (A ++ B).getD (A.length + i) 0 = B.getD i 0 := by
    rw [List.getD_eq_getElem?_getD, List.getD_eq_getElem?_getD, List.getElem?_append_right (by omega)]
    congr 2; omega
  have e2 : back ((A ++ B).take (A.length + i)) p.1 = back (B.take i) p.1 := by
    unfold back
    rw [List.length_take, List.length_take, List.length_append, Nat.min_eq_left (by omega), Nat.min_eq_left (by omega)]
    rw [List.getD_eq_getElem?_getD, List.getD_eq_getElem?_getD, List.getElem?_take_of_lt (by omega), List.getElem?_take_of_lt (by omega), List.getElem?_append_right (by omega)]
    congr 2; omega
  rw [e1, e2] at h2
  exact h2
theorem pol_front {P : Lim} {C A B : List Int} (h : pol P C (A ++ B)) : pol P C A := by
  intro i hi
  have := h i (by rw [List.length_append]; omega)
  rw [List.take_append_of_le_length (by omega)] at this
  rw [List.getD_eq_getElem?_getD, List.getElem?_append_left hi, ← List.getD_eq_getElem?_getD] at this
  exact this
/-- in any m moments -/
theorem win_mst {P : Lim} (hP : okP P 6 12) (hne : P ≠ []) {L : List Int} (hu : up L) (hm : pol P [1] L) (a : Int) (m : Nat) : (L.filter fun x => decide (a ≤ x) && decide (x < a + m)).length ≤ mst P m := by
  have e1 := up_split hu a
  have u1 : up (L.filter fun x => !decide (x < a)) := hu.sublist List.filter_sublist
  have e2 := up_split u1 (a + m)
  have p1 : pol P [1] (L.filter fun x => !decide (x < a)) := pol_back (fun p hp => (hP p hp).1) (A := L.filter fun x => decide (x < a)) (by rw [← e1]; exact hm)
  rw [e2] at p1
  have p2 := pol_front p1
  have e3 : (L.filter fun x => decide (a ≤ x) && decide (x < a + m)) = ((L.filter fun x => !decide (x < a)).filter fun x => decide (x < a + m)) := by
    rw [List.filter_filter]
    apply List.filter_congr
    intro x _
    by_cases h1 : a ≤ x <;> by_cases h2 : x < a + m <;> simp [h1, h2] <;> omega
  rw [e3]
  refine len_mst hP hne (u1.sublist List.filter_sublist) p2 (a := a) ?_
  intro x hx
  rw [List.mem_filter, List.mem_filter] at hx
  simp at hx
  omega
end Pol
set_option maxRecDepth 100000
set_option maxHeartbeats 0
namespace T
open PySem PySem.Spec Vm
abbrev i_is_path : Nat := 0
abbrev i_check_path : Nat := 1
abbrev i_is_some_pattern : Nat := 2
abbrev i_body_by : Nat := 3
abbrev i_closed_places : Nat := 4
abbrev i_first_places : Nat := 5
abbrev i_led_places : Nat := 6
abbrev i_places_by : Nat := 7
abbrev i_does_meet : Nat := 8
abbrev i_check_pattern : Nat := 9
abbrev i_places : Nat := 10
abbrev i_next_places : Nat := 11
abbrev i_meets : Nat := 12
abbrev i__law_well : Nat := 13
abbrev i__law_pick : Nat := 14
abbrev i__law_one : Nat := 15
abbrev i__law_signs : Nat := 16
abbrev i__law_alphabet : Nat := 17
abbrev i__law_body : Nat := 18
abbrev i__law_fits : Nat := 19
abbrev i__law_some_pattern : Nat := 20
abbrev i__law_some_path : Nat := 21
abbrev i__law_due_places : Nat := 22
abbrev i__law_walk_right : Nat := 23
abbrev i__law_right : Nat := 24
abbrev i_law : Nat := 25
/-- is_path(value): slots 0=value 1=sign -/
def ir_is_path : List Sm := [.ifs (.or (.op .not [(.op (.isI "str") [(.v 0)])]) (.op .ne [(.op (.slice false true) [(.v 0), (.k (.int 1))]), (.k (.str "/"))])) [.ret (.k (.bool false))] [], .ret (.op .all [(.lc (.name 1) (.seq (.v 0)) [] (.op .mem [(.v 1), (.k (.str "-./0123456789_abcdefghijklmnopqrstuvwxyz"))]) [1])])]
/-- check_path(value): slots 0=value -/
def ir_check_path : List Sm := [.ifs (.op .not [(.call i_is_path [(.v 0)])]) [.never] []]
/-- is_some_pattern(value): slots 0=value 1=text -/
def ir_is_some_pattern : List Sm := [.ifs (.or (.op .not [(.op (.isI "str") [(.v 0)])]) (.op .not [(.ch .le .le (.k (.int 1)) (.op .len [(.v 0)]) (.k (.int 12)))])) [.ret (.k (.bool false))] [], .asg (.name 1) (.ife (.and (.op .gt [(.op .len [(.v 0)]), (.k (.int 1))]) (.op .eq [(.op .item [(.v 0), (.op .neg [(.k (.int 1))])]), (.k (.str "$"))])) (.op (.slice false true) [(.v 0), (.op .neg [(.k (.int 1))])]) (.v 0)), .ret (.and (.call i_is_path [(.op (.repl "*" "-") [(.v 1)])]) (.op .eq [(.op .item [(.v 1), (.k (.int 0))]), (.k (.str "/"))]))]
/-- body_by(pattern): slots 0=pattern -/
def ir_body_by : List Sm := [.ret (.ife (.op .eq [(.op .item [(.v 0), (.op .neg [(.k (.int 1))])]), (.k (.str "$"))]) (.op (.slice false true) [(.v 0), (.op .neg [(.k (.int 1))])]) (.op .add [(.v 0), (.k (.str "*"))]))]
/-- closed_places(body, places): slots 0=body 1=places 2=found 3=place 4=at -/
def ir_closed_places : List Sm := [.asg (.name 2) (.dct [] []), .for (.name 3) (.seq (.v 1)) [.asg (.name 4) (.v 3), .sub (.v 2) (.v 4) (.k (.bool true)), .whl (.and (.op .lt [(.v 4), (.op .len [(.v 0)])]) (.op .eq [(.op .item [(.v 0), (.v 4)]), (.k (.str "*"))])) [.aug 4 .add (.k (.int 1)), .sub (.v 2) (.v 4) (.k (.bool true))]], .ret (.op .tuple [(.op .sorted [(.v 2)])])]
/-- first_places(body): slots 0=body -/
def ir_first_places : List Sm := [.ret (.call i_closed_places [(.v 0), (.lst [(.k (.int 1))])])]
/-- led_places(body, places, sign): slots 0=body 1=places 2=sign 3=found 4=place -/
def ir_led_places : List Sm := [.asg (.name 3) (.lst []), .for (.name 4) (.seq (.v 1)) [.ifs (.and (.op .lt [(.v 4), (.op .len [(.v 0)])]) (.op .eq [(.op .item [(.v 0), (.v 4)]), (.v 2)])) [.ex (.mu .append (.v 3) [(.op .add [(.v 4), (.k (.int 1))])])] [], .ifs (.and (.op .gt [(.v 4), (.k (.int 0))]) (.op .eq [(.op .item [(.v 0), (.op .sub [(.v 4), (.k (.int 1))])]), (.k (.str "*"))])) [.ex (.mu .append (.v 3) [(.v 4)])] []], .ret (.call i_closed_places [(.v 0), (.v 3)])]
/-- places_by(body, path): slots 0=body 1=path 2=found 3=sign -/
def ir_places_by : List Sm := [.asg (.name 2) (.call i_first_places [(.v 0)]), .for (.name 3) (.seq (.op (.slice true false) [(.v 1), (.k (.int 1))])) [.asg (.name 2) (.call i_led_places [(.v 0), (.v 2), (.v 3)])], .ret (.v 2)]
/-- does_meet(pattern, path): slots 0=pattern 1=path 2=body -/
def ir_does_meet : List Sm := [.asg (.name 2) (.call i_body_by [(.v 0)]), .ret (.op .mem [(.op .len [(.v 2)]), (.call i_places_by [(.v 2), (.v 1)])])]
/-- check_pattern(value): slots 0=value -/
def ir_check_pattern : List Sm := [.ifs (.op .not [(.call i_is_some_pattern [(.v 0)])]) [.never] []]
/-- places(pattern, path): slots 0=pattern 1=path -/
def ir_places : List Sm := [.ex (.call i_check_pattern [(.v 0)]), .ex (.call i_check_path [(.v 1)]), .ret (.call i_places_by [(.call i_body_by [(.v 0)]), (.v 1)])]
/-- next_places(pattern, places, sign): slots 0=pattern 1=places 2=sign -/
def ir_next_places : List Sm := [.ex (.call i_check_pattern [(.v 0)]), .ret (.call i_led_places [(.call i_body_by [(.v 0)]), (.v 1), (.v 2)])]
/-- meets(pattern, path): slots 0=pattern 1=path -/
def ir_meets : List Sm := [.ex (.call i_check_pattern [(.v 0)]), .ex (.call i_check_path [(.v 1)]), .ret (.call i_does_meet [(.v 0), (.v 1)])]
/-- _law_well(_law_script, _law_turn): slots 0=_law_script 1=_law_turn 2=_law_mixed 3=_law_each 4=_law_cell 5=_law_digits -/
def ir__law_well : List Sm := [.asg (.name 2) (.op .add [(.k (.int 179426549)), (.op .mul [(.k (.int 5003)), (.v 1)])]), .for (.name 3) (.seq (.op (.slice false true) [(.v 0), (.k (.int 9))])) [.asg (.name 2) (.op .mod [(.op .int [(.op .add [(.op .add [(.op .mul [(.v 2), (.k (.int 30011))]), (.op .mul [(.op .mod [(.op .int [(.v 3)]), (.k (.int 2038074743))]), (.k (.int 7001))])]), (.k (.int 13))])]), (.k (.int 2038074743))])], .asg (.name 4) (.ife (.op .lt [(.v 1), (.op .len [(.v 0)])]) (.op .int [(.op .item [(.v 0), (.v 1)])]) (.v 2)), .asg (.name 5) (.ife (.op .ge [(.op .abs [(.v 4)]), (.op .pow [(.k (.int 10)), (.k (.int 18))])]) (.op .abs [(.v 4)]) (.k (.int 0))), .asg (.name 2) (.op .mod [(.op .int [(.op .add [(.op .add [(.op .mul [(.v 2), (.k (.int 16807))]), (.op .mul [(.op .mod [(.op .int [(.v 4)]), (.k (.int 2038074743))]), (.k (.int 39373))])]), (.k (.int 29))])]), (.k (.int 2038074743))]), .ret (.lst [(.v 5), (.v 2), (.k (.int 0))])]
/-- _law_pick(_law_well_here, _law_top): slots 0=_law_well_here 1=_law_top 2=_law_digit -/
def ir__law_pick : List Sm := [.ifs (.op .gt [(.op .item [(.v 0), (.k (.int 0))]), (.k (.int 0))]) [.tsub (.v 0) (.k (.int 0)) 2 (.op .divmod [(.op .item [(.v 0), (.k (.int 0))]), (.v 1)]), .ret (.v 2)] [], .sub (.v 0) (.k (.int 2)) (.op .add [(.op .item [(.v 0), (.k (.int 2))]), (.k (.int 1))]), .sub (.v 0) (.k (.int 1)) (.op .mod [(.op .int [(.op .add [(.op .mul [(.op .item [(.v 0), (.k (.int 1))]), (.k (.int 48271))]), (.op .mul [(.k (.int 1013)), (.op .item [(.v 0), (.k (.int 2))])])])]), (.k (.int 2038074743))]), .ret (.op .mod [(.op .int [(.op .fdiv [(.op .item [(.v 0), (.k (.int 1))]), (.k (.int 23))])]), (.v 1)])]
/-- _law_one(_law_well_here, _law_some): slots 0=_law_well_here 1=_law_some -/
def ir__law_one : List Sm := [.ret (.op .item [(.v 1), (.call i__law_pick [(.v 0), (.op .len [(.v 1)])])])]
/-- _law_signs(): slots  -/
def ir__law_signs : List Sm := [.ret (.k (.str "-./0123456789_abcdefghijklmnopqrstuvwxyz"))]
/-- _law_alphabet(_law_well_here): slots 0=_law_well_here 1=_law_turn -/
def ir__law_alphabet : List Sm := [.ret (.op .add [(.lc (.name 1) (.rng [(.op .add [(.k (.int 2)), (.call i__law_pick [(.v 0), (.k (.int 2))])])]) [] (.call i__law_one [(.v 0), (.call i__law_signs [])]) [1]), (.op .mul [(.lst [(.k (.str "/"))]), (.call i__law_pick [(.v 0), (.k (.int 2))])])])]
/-- _law_body(_law_shape): slots 0=_law_shape -/
def ir__law_body : List Sm := [.ret (.ife (.and (.op .gt [(.op .len [(.v 0)]), (.k (.int 1))]) (.op .eq [(.op .item [(.v 0), (.op .neg [(.k (.int 1))])]), (.k (.str "$"))])) (.op (.slice false true) [(.v 0), (.op .neg [(.k (.int 1))])]) (.op .add [(.v 0), (.k (.str "*"))]))]
/-- _law_fits(_law_body_here, _law_route): slots 0=_law_body_here 1=_law_route 2=_law_row 3=_law_sign 4=_law_new 5=_law_at 6=_law_other -/
def ir__law_fits : List Sm := [.asg (.name 2) (.op .add [(.lst [(.k (.bool true))]), (.op .mul [(.lst [(.k (.bool false))]), (.op .len [(.v 1)])])]), .for (.name 3) (.seq (.v 0)) [.asg (.name 4) (.lst [(.and (.op .item [(.v 2), (.k (.int 0))]) (.op .eq [(.v 3), (.k (.str "*"))]))]), .for (.tup [(.name 5), (.name 6)]) (.enum (.v 1)) [.ex (.mu .append (.v 4) [(.ife (.op .eq [(.v 3), (.k (.str "*"))]) (.or (.op .item [(.v 2), (.op .add [(.v 5), (.k (.int 1))])]) (.op .item [(.v 4), (.v 5)])) (.and (.op .item [(.v 2), (.v 5)]) (.op .eq [(.v 3), (.v 6)])))])], .asg (.name 2) (.v 4)], .ret (.op .item [(.v 2), (.op .len [(.v 1)])])]
/-- _law_some_pattern(_law_well_here, _law_signs_here, _law_stars, _law_top): slots 0=_law_well_here 1=_law_signs_here 2=_law_stars 3=_law_top 4=_law_turn 5=_law_text 6=_law_left -/
def ir__law_some_pattern : List Sm := [.par [5, 6] [(.k (.str "/")), (.v 2)], .for (.name 4) (.rng [(.call i__law_pick [(.v 0), (.op .add [(.v 3), (.k (.int 1))])])]) [.ifs (.and (.op .gt [(.v 6), (.k (.int 0))]) (.op .eq [(.call i__law_pick [(.v 0), (.k (.int 3))]), (.k (.int 0))])) [.par [5, 6] [(.op .add [(.v 5), (.k (.str "*"))]), (.op .sub [(.v 6), (.k (.int 1))])]] [.asg (.name 5) (.op .add [(.v 5), (.call i__law_one [(.v 0), (.v 1)])])]], .ret (.ife (.op .eq [(.call i__law_pick [(.v 0), (.k (.int 3))]), (.k (.int 0))]) (.op .add [(.v 5), (.k (.str "$"))]) (.v 5))]
/-- _law_some_path(_law_well_here, _law_signs_here, _law_shape): slots 0=_law_well_here 1=_law_signs_here 2=_law_shape 3=_law_text 4=_law_sign 5=_law_at 6=_law_turn -/
def ir__law_some_path : List Sm := [.asg (.name 3) (.k (.str "")), .for (.name 4) (.seq (.call i__law_body [(.v 2)])) [.ifs (.op .eq [(.v 4), (.k (.str "*"))]) [.for (.name 6) (.rng [(.call i__law_one [(.v 0), (.lst [(.k (.int 0)), (.k (.int 1)), (.k (.int 1)), (.k (.int 2)), (.k (.int 3))])])]) [.asg (.name 3) (.op .add [(.v 3), (.call i__law_one [(.v 0), (.v 1)])])]] [.asg (.name 3) (.op .add [(.v 3), (.v 4)])]], .asg (.name 5) (.call i__law_pick [(.v 0), (.op .len [(.v 3)])]), .ifs (.and (.op .gt [(.v 5), (.k (.int 0))]) (.op .eq [(.call i__law_pick [(.v 0), (.k (.int 3))]), (.k (.int 0))])) [.asg (.name 3) (.op .add [(.op .add [(.op (.slice false true) [(.v 3), (.v 5)]), (.call i__law_one [(.v 0), (.call i__law_signs [])])]), (.op (.slice true false) [(.v 3), (.op .add [(.v 5), (.k (.int 1))])])])] [], .ret (.v 3)]
/-- _law_due_places(_law_body_here, _law_route): slots 0=_law_body_here 1=_law_route 2=_law_k -/
def ir__law_due_places : List Sm := [.ret (.op .tuple [(.lc (.name 2) (.rng [(.op .add [(.op .len [(.v 0)]), (.k (.int 1))])]) [(.call i__law_fits [(.op (.slice false true) [(.v 0), (.v 2)]), (.v 1)])] (.v 2) [2])])]
/-- _law_walk_right(_law_shape, _law_route): slots 0=_law_shape 1=_law_route 2=_law_end 3=_law_others 4=_law_far 5=_law_last 6=_law_body_here 7=_law_here 8=_law_due 9=_law_sign -/
def ir__law_walk_right : List Sm := [.par [6, 7] [(.call i__law_body [(.v 0)]), (.tup [])], .for (.name 2) (.rng [(.k (.int 1)), (.op .add [(.op .len [(.v 1)]), (.k (.int 1))])]) [.asg (.name 8) (.call i__law_due_places [(.v 6), (.op (.slice false true) [(.v 1), (.v 2)])]), .ifs (.op .ne [(.op .repr [(.call i_places [(.v 0), (.op (.slice false true) [(.v 1), (.v 2)])])]), (.op .repr [(.v 8)])]) [.ret (.k (.bool false))] [], .ifs (.and (.op .gt [(.v 2), (.k (.int 1))]) (.op .ne [(.op .repr [(.call i_next_places [(.v 0), (.v 7), (.op .item [(.v 1), (.op .sub [(.v 2), (.k (.int 1))])])])]), (.op .repr [(.v 8)])])) [.ret (.k (.bool false))] [], .ifs (.op .ne [(.op .repr [(.call i_meets [(.v 0), (.op (.slice false true) [(.v 1), (.v 2)])])]), (.op .repr [(.op .mem [(.op .len [(.v 6)]), (.v 8)])])]) [.ret (.k (.bool false))] [], .asg (.name 7) (.v 8)], .asg (.name 3) (.lc (.name 9) (.seq (.call i__law_signs [])) [(.op .nmem [(.v 9), (.v 0)])] (.v 9) [9]), .asg (.name 4) (.lc (.name 9) (.seq (.lst [(.op .item [(.v 3), (.k (.int 0))]), (.op .item [(.v 3), (.op .fdiv [(.op .len [(.v 3)]), (.k (.int 2))])]), (.op .item [(.v 3), (.op .neg [(.k (.int 1))])])])) [] (.op .repr [(.call i_next_places [(.v 0), (.v 7), (.v 9)])]) [9]), .ifs (.op .ne [(.v 4), (.op .mul [(.lst [(.op .repr [(.call i__law_due_places [(.v 6), (.op .add [(.v 1), (.op .item [(.v 3), (.k (.int 0))])])])])]), (.k (.int 3))])]) [.ret (.k (.bool false))] [], .asg (.name 5) (.op .item [(.v 1), (.op .neg [(.k (.int 1))])]), .ret (.op .eq [(.op .repr [(.callk i_next_places [2, 1, 0] [(.v 5), (.v 7), (.v 0)])]), (.op .repr [(.call i__law_due_places [(.v 6), (.op .add [(.v 1), (.v 5)])])])])]
/-- _law_right(_law_well_here): slots 0=_law_well_here 1=_law_signs_here 2=_law_shape 3=_law_route -/
def ir__law_right : List Sm := [.asg (.name 1) (.call i__law_alphabet [(.v 0)]), .asg (.name 2) (.call i__law_some_pattern [(.v 0), (.v 1), (.call i__law_one [(.v 0), (.lst [(.k (.int 0)), (.k (.int 1)), (.k (.int 2)), (.k (.int 4))])]), (.call i__law_one [(.v 0), (.lst [(.k (.int 3)), (.k (.int 6)), (.k (.int 10))])])]), .asg (.name 3) (.op (.slice false true) [(.call i__law_some_path [(.v 0), (.v 1), (.v 2)]), (.k (.int 14))]), .ret (.and (.call i__law_walk_right [(.v 2), (.v 3)]) (.call i__law_walk_right [(.call i__law_some_pattern [(.v 0), (.v 1), (.k (.int 2)), (.k (.int 3))]), (.op (.slice false true) [(.v 3), (.k (.int 6))])]))]
/-- law(_law_script): slots 0=_law_script 1=_law_turn -/
def ir_law : List Sm := [.ret (.op .all [(.lc (.name 1) (.rng [(.op .max2 [(.k (.int 2)), (.op .min2 [(.op .len [(.v 0)]), (.k (.int 4))])])]) [] (.call i__law_right [(.call i__law_well [(.v 0), (.v 1)])]) [1])])]
def dfs : List Df := [⟨1, 2, ir_is_path⟩, ⟨1, 1, ir_check_path⟩, ⟨1, 2, ir_is_some_pattern⟩, ⟨1, 1, ir_body_by⟩, ⟨2, 5, ir_closed_places⟩, ⟨1, 1, ir_first_places⟩, ⟨3, 5, ir_led_places⟩, ⟨2, 4, ir_places_by⟩, ⟨2, 3, ir_does_meet⟩, ⟨1, 1, ir_check_pattern⟩, ⟨2, 2, ir_places⟩, ⟨3, 3, ir_next_places⟩, ⟨2, 2, ir_meets⟩, ⟨2, 6, ir__law_well⟩, ⟨2, 3, ir__law_pick⟩, ⟨2, 2, ir__law_one⟩, ⟨0, 0, ir__law_signs⟩, ⟨1, 2, ir__law_alphabet⟩, ⟨1, 1, ir__law_body⟩, ⟨2, 7, ir__law_fits⟩, ⟨4, 7, ir__law_some_pattern⟩, ⟨3, 7, ir__law_some_path⟩, ⟨2, 3, ir__law_due_places⟩, ⟨2, 10, ir__law_walk_right⟩, ⟨1, 4, ir__law_right⟩, ⟨1, 2, ir_law⟩]
theorem run_is_path (n : Nat) (a0 : Vm.Arg) : runD dfs (n + 1) i_is_path [a0] = finish (xSs (runD dfs n) ir_is_path (entry ⟨1, 2, ir_is_path⟩ [a0])) := run_fin (d := ⟨1, 2, ir_is_path⟩) rfl rfl
theorem run_check_path (n : Nat) (a0 : Vm.Arg) : runD dfs (n + 1) i_check_path [a0] = finish (xSs (runD dfs n) ir_check_path (entry ⟨1, 1, ir_check_path⟩ [a0])) := run_fin (d := ⟨1, 1, ir_check_path⟩) rfl rfl
theorem run_is_some_pattern (n : Nat) (a0 : Vm.Arg) : runD dfs (n + 1) i_is_some_pattern [a0] = finish (xSs (runD dfs n) ir_is_some_pattern (entry ⟨1, 2, ir_is_some_pattern⟩ [a0])) := run_fin (d := ⟨1, 2, ir_is_some_pattern⟩) rfl rfl
theorem run_body_by (n : Nat) (a0 : Vm.Arg) : runD dfs (n + 1) i_body_by [a0] = finish (xSs (runD dfs n) ir_body_by (entry ⟨1, 1, ir_body_by⟩ [a0])) := run_fin (d := ⟨1, 1, ir_body_by⟩) rfl rfl
theorem run_closed_places (n : Nat) (a0 a1 : Vm.Arg) : runD dfs (n + 1) i_closed_places [a0, a1] = finish (xSs (runD dfs n) ir_closed_places (entry ⟨2, 5, ir_closed_places⟩ [a0, a1])) := run_fin (d := ⟨2, 5, ir_closed_places⟩) rfl rfl
theorem run_first_places (n : Nat) (a0 : Vm.Arg) : runD dfs (n + 1) i_first_places [a0] = finish (xSs (runD dfs n) ir_first_places (entry ⟨1, 1, ir_first_places⟩ [a0])) := run_fin (d := ⟨1, 1, ir_first_places⟩) rfl rfl
theorem run_led_places (n : Nat) (a0 a1 a2 : Vm.Arg) : runD dfs (n + 1) i_led_places [a0, a1, a2] = finish (xSs (runD dfs n) ir_led_places (entry ⟨3, 5, ir_led_places⟩ [a0, a1, a2])) := run_fin (d := ⟨3, 5, ir_led_places⟩) rfl rfl
theorem run_places_by (n : Nat) (a0 a1 : Vm.Arg) : runD dfs (n + 1) i_places_by [a0, a1] = finish (xSs (runD dfs n) ir_places_by (entry ⟨2, 4, ir_places_by⟩ [a0, a1])) := run_fin (d := ⟨2, 4, ir_places_by⟩) rfl rfl
theorem run_does_meet (n : Nat) (a0 a1 : Vm.Arg) : runD dfs (n + 1) i_does_meet [a0, a1] = finish (xSs (runD dfs n) ir_does_meet (entry ⟨2, 3, ir_does_meet⟩ [a0, a1])) := run_fin (d := ⟨2, 3, ir_does_meet⟩) rfl rfl
theorem run_check_pattern (n : Nat) (a0 : Vm.Arg) : runD dfs (n + 1) i_check_pattern [a0] = finish (xSs (runD dfs n) ir_check_pattern (entry ⟨1, 1, ir_check_pattern⟩ [a0])) := run_fin (d := ⟨1, 1, ir_check_pattern⟩) rfl rfl
theorem run_places (n : Nat) (a0 a1 : Vm.Arg) : runD dfs (n + 1) i_places [a0, a1] = finish (xSs (runD dfs n) ir_places (entry ⟨2, 2, ir_places⟩ [a0, a1])) := run_fin (d := ⟨2, 2, ir_places⟩) rfl rfl
theorem run_next_places (n : Nat) (a0 a1 a2 : Vm.Arg) : runD dfs (n + 1) i_next_places [a0, a1, a2] = finish (xSs (runD dfs n) ir_next_places (entry ⟨3, 3, ir_next_places⟩ [a0, a1, a2])) := run_fin (d := ⟨3, 3, ir_next_places⟩) rfl rfl
theorem run_meets (n : Nat) (a0 a1 : Vm.Arg) : runD dfs (n + 1) i_meets [a0, a1] = finish (xSs (runD dfs n) ir_meets (entry ⟨2, 2, ir_meets⟩ [a0, a1])) := run_fin (d := ⟨2, 2, ir_meets⟩) rfl rfl
theorem run__law_well (n : Nat) (a0 a1 : Vm.Arg) : runD dfs (n + 1) i__law_well [a0, a1] = finish (xSs (runD dfs n) ir__law_well (entry ⟨2, 6, ir__law_well⟩ [a0, a1])) := run_fin (d := ⟨2, 6, ir__law_well⟩) rfl rfl
theorem run__law_pick (n : Nat) (a0 a1 : Vm.Arg) : runD dfs (n + 1) i__law_pick [a0, a1] = finish (xSs (runD dfs n) ir__law_pick (entry ⟨2, 3, ir__law_pick⟩ [a0, a1])) := run_fin (d := ⟨2, 3, ir__law_pick⟩) rfl rfl
theorem run__law_one (n : Nat) (a0 a1 : Vm.Arg) : runD dfs (n + 1) i__law_one [a0, a1] = finish (xSs (runD dfs n) ir__law_one (entry ⟨2, 2, ir__law_one⟩ [a0, a1])) := run_fin (d := ⟨2, 2, ir__law_one⟩) rfl rfl
theorem run__law_signs (n : Nat) : runD dfs (n + 1) i__law_signs [] = finish (xSs (runD dfs n) ir__law_signs (entry ⟨0, 0, ir__law_signs⟩ [])) := run_fin (d := ⟨0, 0, ir__law_signs⟩) rfl rfl
theorem run__law_alphabet (n : Nat) (a0 : Vm.Arg) : runD dfs (n + 1) i__law_alphabet [a0] = finish (xSs (runD dfs n) ir__law_alphabet (entry ⟨1, 2, ir__law_alphabet⟩ [a0])) := run_fin (d := ⟨1, 2, ir__law_alphabet⟩) rfl rfl
theorem run__law_body (n : Nat) (a0 : Vm.Arg) : runD dfs (n + 1) i__law_body [a0] = finish (xSs (runD dfs n) ir__law_body (entry ⟨1, 1, ir__law_body⟩ [a0])) := run_fin (d := ⟨1, 1, ir__law_body⟩) rfl rfl
theorem run__law_fits (n : Nat) (a0 a1 : Vm.Arg) : runD dfs (n + 1) i__law_fits [a0, a1] = finish (xSs (runD dfs n) ir__law_fits (entry ⟨2, 7, ir__law_fits⟩ [a0, a1])) := run_fin (d := ⟨2, 7, ir__law_fits⟩) rfl rfl
theorem run__law_some_pattern (n : Nat) (a0 a1 a2 a3 : Vm.Arg) : runD dfs (n + 1) i__law_some_pattern [a0, a1, a2, a3] = finish (xSs (runD dfs n) ir__law_some_pattern (entry ⟨4, 7, ir__law_some_pattern⟩ [a0, a1, a2, a3])) := run_fin (d := ⟨4, 7, ir__law_some_pattern⟩) rfl rfl
theorem run__law_some_path (n : Nat) (a0 a1 a2 : Vm.Arg) : runD dfs (n + 1) i__law_some_path [a0, a1, a2] = finish (xSs (runD dfs n) ir__law_some_path (entry ⟨3, 7, ir__law_some_path⟩ [a0, a1, a2])) := run_fin (d := ⟨3, 7, ir__law_some_path⟩) rfl rfl
theorem run__law_due_places (n : Nat) (a0 a1 : Vm.Arg) : runD dfs (n + 1) i__law_due_places [a0, a1] = finish (xSs (runD dfs n) ir__law_due_places (entry ⟨2, 3, ir__law_due_places⟩ [a0, a1])) := run_fin (d := ⟨2, 3, ir__law_due_places⟩) rfl rfl
theorem run__law_walk_right (n : Nat) (a0 a1 : Vm.Arg) : runD dfs (n + 1) i__law_walk_right [a0, a1] = finish (xSs (runD dfs n) ir__law_walk_right (entry ⟨2, 10, ir__law_walk_right⟩ [a0, a1])) := run_fin (d := ⟨2, 10, ir__law_walk_right⟩) rfl rfl
theorem run__law_right (n : Nat) (a0 : Vm.Arg) : runD dfs (n + 1) i__law_right [a0] = finish (xSs (runD dfs n) ir__law_right (entry ⟨1, 4, ir__law_right⟩ [a0])) := run_fin (d := ⟨1, 4, ir__law_right⟩) rfl rfl
theorem run_law (n : Nat) (a0 : Vm.Arg) : runD dfs (n + 1) i_law [a0] = finish (xSs (runD dfs n) ir_law (entry ⟨1, 2, ir_law⟩ [a0])) := run_fin (d := ⟨1, 2, ir_law⟩) rfl rfl
end T
set_option maxRecDepth 100000
set_option maxHeartbeats 0
namespace T
open PySem PySem.Spec Vm
def G0 : Gam := { N := [], sc := sc 0, defs := [(("is_path" : Str), ([("value" : Str)] : List Str)), (("check_path" : Str), ([("value" : Str)] : List Str)), (("is_some_pattern" : Str), ([("value" : Str)] : List Str)), (("body_by" : Str), ([("pattern" : Str)] : List Str)), (("closed_places" : Str), ([("body" : Str), ("places" : Str)] : List Str)), (("first_places" : Str), ([("body" : Str)] : List Str)), (("led_places" : Str), ([("body" : Str), ("places" : Str), ("sign" : Str)] : List Str)), (("places_by" : Str), ([("body" : Str), ("path" : Str)] : List Str)), (("does_meet" : Str), ([("pattern" : Str), ("path" : Str)] : List Str)), (("check_pattern" : Str), ([("value" : Str)] : List Str)), (("places" : Str), ([("pattern" : Str), ("path" : Str)] : List Str)), (("next_places" : Str), ([("pattern" : Str), ("places" : Str), ("sign" : Str)] : List Str)), (("meets" : Str), ([("pattern" : Str), ("path" : Str)] : List Str)), (("_law_well" : Str), ([("_law_script" : Str), ("_law_turn" : Str)] : List Str)), (("_law_pick" : Str), ([("_law_well_here" : Str), ("_law_top" : Str)] : List Str)), (("_law_one" : Str), ([("_law_well_here" : Str), ("_law_some" : Str)] : List Str)), (("_law_signs" : Str), ([] : List Str)), (("_law_alphabet" : Str), ([("_law_well_here" : Str)] : List Str)), (("_law_body" : Str), ([("_law_shape" : Str)] : List Str)), (("_law_fits" : Str), ([("_law_body_here" : Str), ("_law_route" : Str)] : List Str)), (("_law_some_pattern" : Str), ([("_law_well_here" : Str), ("_law_signs_here" : Str), ("_law_stars" : Str), ("_law_top" : Str)] : List Str)), (("_law_some_path" : Str), ([("_law_well_here" : Str), ("_law_signs_here" : Str), ("_law_shape" : Str)] : List Str)), (("_law_due_places" : Str), ([("_law_body_here" : Str), ("_law_route" : Str)] : List Str)), (("_law_walk_right" : Str), ([("_law_shape" : Str), ("_law_route" : Str)] : List Str)), (("_law_right" : Str), ([("_law_well_here" : Str)] : List Str)), (("law" : Str), ([("_law_script" : Str)] : List Str))], cs := [(("SIGNS" : Str), (.str "-./0123456789_abcdefghijklmnopqrstuvwxyz" : PyData)), (("MOST_SIGNS" : Str), (.int 12 : PyData))], bs := ([("ValueError" : Str), ("abs" : Str), ("all" : Str), ("divmod" : Str), ("enumerate" : Str), ("int" : Str), ("isinstance" : Str), ("len" : Str), ("max" : Str), ("min" : Str), ("range" : Str), ("repr" : Str), ("sorted" : Str), ("str" : Str), ("tuple" : Str)] : List Str), kws := [(("next_places" : Str), 0, ([("sign" : Str), ("places" : Str), ("pattern" : Str)] : List Str), ([] : List PyData), ([2, 1, 0] : List Nat))], kwo := ([] : List Str), fn := fun _ => true, xs := ([] : List Str), xc := ([] : List Str), xm := [], rz := ([] : List Str) }
theorem irok_is_path : cSs 80 { G0 with N := ([("value" : Str), ("sign" : Str)] : List Str), sc := sc 6 } (bd 6) = some ir_is_path := by kernel_rfl
theorem irok_check_path : cSs 80 { G0 with N := ([("value" : Str)] : List Str), sc := sc 8 } (bd 8) = some ir_check_path := by kernel_rfl
theorem irok_is_some_pattern : cSs 80 { G0 with N := ([("value" : Str), ("text" : Str)] : List Str), sc := sc 11 } (bd 11) = some ir_is_some_pattern := by kernel_rfl
theorem irok_body_by : cSs 80 { G0 with N := ([("pattern" : Str)] : List Str), sc := sc 12 } (bd 12) = some ir_body_by := by kernel_rfl
theorem irok_closed_places : cSs 80 { G0 with N := ([("body" : Str), ("places" : Str), ("found" : Str), ("place" : Str), ("at" : Str)] : List Str), sc := sc 13 } (bd 13) = some ir_closed_places := by kernel_rfl
theorem irok_first_places : cSs 80 { G0 with N := ([("body" : Str)] : List Str), sc := sc 14 } (bd 14) = some ir_first_places := by kernel_rfl
theorem irok_led_places : cSs 80 { G0 with N := ([("body" : Str), ("places" : Str), ("sign" : Str), ("found" : Str), ("place" : Str)] : List Str), sc := sc 15 } (bd 15) = some ir_led_places := by kernel_rfl
theorem irok_places_by : cSs 80 { G0 with N := ([("body" : Str), ("path" : Str), ("found" : Str), ("sign" : Str)] : List Str), sc := sc 16 } (bd 16) = some ir_places_by := by kernel_rfl
theorem irok_does_meet : cSs 80 { G0 with N := ([("pattern" : Str), ("path" : Str), ("body" : Str)] : List Str), sc := sc 17 } (bd 17) = some ir_does_meet := by kernel_rfl
theorem irok_check_pattern : cSs 80 { G0 with N := ([("value" : Str)] : List Str), sc := sc 19 } (bd 19) = some ir_check_pattern := by kernel_rfl
theorem irok_places : cSs 80 { G0 with N := ([("pattern" : Str), ("path" : Str)] : List Str), sc := sc 20 } (bd 20) = some ir_places := by kernel_rfl
theorem irok_next_places : cSs 80 { G0 with N := ([("pattern" : Str), ("places" : Str), ("sign" : Str)] : List Str), sc := sc 21 } (bd 21) = some ir_next_places := by kernel_rfl
theorem irok_meets : cSs 80 { G0 with N := ([("pattern" : Str), ("path" : Str)] : List Str), sc := sc 22 } (bd 22) = some ir_meets := by kernel_rfl
theorem irok__law_well : cSs 80 { G0 with N := ([("_law_script" : Str), ("_law_turn" : Str), ("_law_mixed" : Str), ("_law_each" : Str), ("_law_cell" : Str), ("_law_digits" : Str)] : List Str), sc := sc 24 } (bd 24) = some ir__law_well := by kernel_rfl
theorem irok__law_pick : cSs 80 { G0 with N := ([("_law_well_here" : Str), ("_law_top" : Str), ("_law_digit" : Str)] : List Str), sc := sc 25 } (bd 25) = some ir__law_pick := by kernel_rfl
theorem irok__law_one : cSs 80 { G0 with N := ([("_law_well_here" : Str), ("_law_some" : Str)] : List Str), sc := sc 26 } (bd 26) = some ir__law_one := by kernel_rfl
theorem irok__law_signs : cSs 80 { G0 with N := ([] : List Str), sc := sc 27 } (bd 27) = some ir__law_signs := by kernel_rfl
theorem irok__law_alphabet : cSs 80 { G0 with N := ([("_law_well_here" : Str), ("_law_turn" : Str)] : List Str), sc := sc 28 } (bd 28) = some ir__law_alphabet := by kernel_rfl
theorem irok__law_body : cSs 80 { G0 with N := ([("_law_shape" : Str)] : List Str), sc := sc 29 } (bd 29) = some ir__law_body := by kernel_rfl
theorem irok__law_fits : cSs 80 { G0 with N := ([("_law_body_here" : Str), ("_law_route" : Str), ("_law_row" : Str), ("_law_sign" : Str), ("_law_new" : Str), ("_law_at" : Str), ("_law_other" : Str)] : List Str), sc := sc 30 } (bd 30) = some ir__law_fits := by kernel_rfl
theorem irok__law_some_pattern : cSs 80 { G0 with N := ([("_law_well_here" : Str), ("_law_signs_here" : Str), ("_law_stars" : Str), ("_law_top" : Str), ("_law_turn" : Str), ("_law_text" : Str), ("_law_left" : Str)] : List Str), sc := sc 31 } (bd 31) = some ir__law_some_pattern := by kernel_rfl
theorem irok__law_some_path : cSs 80 { G0 with N := ([("_law_well_here" : Str), ("_law_signs_here" : Str), ("_law_shape" : Str), ("_law_text" : Str), ("_law_sign" : Str), ("_law_at" : Str), ("_law_turn" : Str)] : List Str), sc := sc 32 } (bd 32) = some ir__law_some_path := by kernel_rfl
theorem irok__law_due_places : cSs 80 { G0 with N := ([("_law_body_here" : Str), ("_law_route" : Str), ("_law_k" : Str)] : List Str), sc := sc 33 } (bd 33) = some ir__law_due_places := by kernel_rfl
theorem irok__law_walk_right : cSs 80 { G0 with N := ([("_law_shape" : Str), ("_law_route" : Str), ("_law_end" : Str), ("_law_others" : Str), ("_law_far" : Str), ("_law_last" : Str), ("_law_body_here" : Str), ("_law_here" : Str), ("_law_due" : Str), ("_law_sign" : Str)] : List Str), sc := sc 34 } (bd 34) = some ir__law_walk_right := by kernel_rfl
theorem irok__law_right : cSs 80 { G0 with N := ([("_law_well_here" : Str), ("_law_signs_here" : Str), ("_law_shape" : Str), ("_law_route" : Str)] : List Str), sc := sc 35 } (bd 35) = some ir__law_right := by kernel_rfl
theorem irok_law : cSs 80 { G0 with N := ([("_law_script" : Str), ("_law_turn" : Str)] : List Str), sc := sc 36 } (bd 36) = some ir_law := by kernel_rfl
end T
set_option maxRecDepth 100000
set_option maxHeartbeats 1000000
namespace T
open PySem PySem.Spec Vm Pol
abbrev W3 (d m c : Int) : Ob := .lst [.int d, .int m, .int c]
/-- a well, any -/
def IsW (o : Ob) : Prop := ∃ d m c, o = W3 d m c
/-- data, and the well that was drawn from -/
def Gives (Q : D → Prop) (p : RR × List SV) : Prop := ∃ x w, Q x ∧ IsW w ∧ p = (.d x, [.own w])
def GivesW (p : RR × List SV) : Prop := ∃ w, IsW w ∧ p = (.fr w, [])
theorem r_pick (n : Nat) (w : Ob) (hw : IsW w) (top : Int) (h1 : 0 < top) (h2 : top < 1073741824) :
    (runD dfs (n + 1) i__law_pick [.r w, .d (.int top)]).Sat (Gives fun x => ∃ r : Int, x = .int r ∧ 0 ≤ r ∧ r < top) := by
  obtain ⟨d, m, c, rfl⟩ := hw
  rw [run__law_pick, finish_sat]
  by_cases hd : 0 < d
  · simp [ir__law_pick, hd, h1, h2, L2.ixN]
    exact ⟨_, _, ⟨_, rfl, Int.emod_nonneg _ (by omega), Int.emod_lt_of_pos _ h1⟩, ⟨_, _, _, rfl⟩, rfl⟩
  · simp [ir__law_pick, hd, h1, h2, L2.ixN]
    exact ⟨_, _, ⟨_, rfl, Int.emod_nonneg _ (by omega), Int.emod_lt_of_pos _ h1⟩, ⟨_, _, _, rfl⟩, rfl⟩
theorem r_one (n : Nat) (w : Ob) (hw : IsW w) (a : Vm.Arg) (ds : List D) (ha : a = .o (.lst ds) ∨ a = .d (.tuple ds) ∨ a = .d (.list ds)) (h1 : 0 < ds.length) (h2 : ds.length < 1073741824) :
    (runD dfs (n + 2) i__law_one [.r w, a]).Sat (Gives fun x => x ∈ ds) := by
  rw [run__law_one, finish_sat]
  rcases ha with rfl | rfl | rfl <;>
  · simp [ir__law_one]
    refine (r_pick n w hw ds.length (by omega) (by omega)).mono ?_
    rintro _ ⟨_, w', ⟨r, rfl, h3, h4⟩, h5, rfl⟩
    obtain ⟨x, e⟩ : ∃ x, ds[r.toNat]? = some x := ⟨_, List.getElem?_eq_getElem (by omega)⟩
    simp [atI_pos h3, e]
    exact ⟨_, _, List.mem_of_getElem? e, h5, rfl⟩
theorem cutD_mem {xs : List D} {lo hi : Option Int} {x : D} (h : x ∈ cutD xs lo hi) : x ∈ xs := List.mem_of_mem_drop (List.mem_of_mem_take h)
theorem r_well (n : Nat) (ns : List Int) (t : Nat) : (runD dfs (n + 1) i__law_well [.d (iL ns), .d (.int t)]).Sat GivesW := by
  rw [run__law_well, finish_sat]
  simp [ir__law_well]
  refine for_idx _ (fun k f => ∃ m a, f = ⟨[.d (iL ns), .d (.int t), .d (.int m), a, .no, .no], []⟩) _ ⟨_, _, rfl⟩ ?_ ?_
  · rintro k hk f ⟨m, a, rfl⟩
    have := cutD_mem (List.getElem_mem hk)
    rw [List.mem_map] at this
    obtain ⟨x, hx, e⟩ := this
    rw [← e]
    simp
  · rintro f ⟨m, a, rfl⟩
    by_cases h1 : t < ns.length
    · obtain ⟨x, e⟩ : ∃ x, ns[t]? = some x := ⟨_, List.getElem?_eq_getElem h1⟩
      simp [h1, e]
      exact ⟨_, ⟨_, _, _, rfl⟩, rfl⟩
    · simp [h1]
      exact ⟨_, ⟨_, _, _, rfl⟩, rfl⟩
/-! texts as lists of signs -/
@[irreducible] def tx (l : List Nat) : Str := ⟨l.toArray⟩
theorem tx_def (l : List Nat) : tx l = ⟨l.toArray⟩ := by unfold tx; rfl
theorem tx_inj {a b : List Nat} (h : tx a = tx b) : a = b := by rw [tx_def, tx_def] at h; exact SX.S_inj h
theorem tx_tl (l : List Nat) : (tx l).cps.toList = l := by rw [tx_def]
@[simp] theorem tx_len (l : List Nat) : (tx l).length = l.length := by rw [tx_def]; exact SX.S_len l
@[simp] theorem tx_app (a b : List Nat) : tx a ++ tx b = tx (a ++ b) := by rw [tx_def, tx_def, tx_def]; exact SX.S_cat a b
@[simp] theorem tx_beq (a b : List Nat) : (tx a == tx b) = (a == b) := by rw [tx_def, tx_def]; exact SX.S_beq a b
abbrev ch (c : Nat) : D := .str (tx [c])
theorem item_tx {l : List Nat} (h : l.length ≤ 16777216) (i : Int) : itemD (.str (tx l)) (.int i) = (L2.atI l i).map ch := by
  show (if (tx l).length ≤ 16777216 then (L2.atI (tx l).cps.toList i).map fun c => PyData.str (sign c) else none) = _
  rw [tx_len, if_pos h, tx_tl]
  congr 1
  funext c
  show PyData.str ⟨#[c]⟩ = PyData.str (tx [c])
  rw [tx_def]
theorem items_tx {l : List Nat} (h : l.length ≤ 16777216) : itemsD (.str (tx l)) = some (l.map ch) := by
  show (if (tx l).length ≤ 16777216 then some (signs (tx l)) else none) = _
  rw [tx_len, if_pos h]
  unfold signs
  rw [tx_tl]
  congr 2
  funext c
  show PyData.str ⟨#[c]⟩ = PyData.str (tx [c])
  rw [tx_def]
theorem signs_tx (l : List Nat) : signs (tx l) = l.map ch := by
  unfold signs
  rw [tx_tl]
  congr 1
  funext c
  show PyData.str ⟨#[c]⟩ = PyData.str (tx [c])
  rw [tx_def]
theorem slice_tx {l : List Nat} (h : l.length ≤ 16777216) (lo hi : Option Int) : sliceD (.str (tx l)) lo hi = some (.d (.str (tx ((l.drop (HT.sIx l.length 0 lo)).take (HT.sIx l.length l.length hi - HT.sIx l.length 0 lo))))) := by
  show (if (tx l).length ≤ 16777216 then some (RR.d (.str (L2.cutS (tx l) lo hi))) else none) = _
  rw [tx_len, if_pos h]
  unfold L2.cutS
  rw [tx_tl, tx_len, tx_def]
theorem to_tx {l : List Nat} (h : l.length ≤ 16777216) (n : Nat) : sliceD (.str (tx l)) none (some (n : Int)) = some (.d (.str (tx (l.take n)))) := by
  rw [slice_tx h]
  simp only [HT.sIx_nat, HT.sIx_none, List.drop_zero, Nat.sub_zero]
  by_cases h : n ≤ l.length
  · rw [Nat.min_eq_left h]
  · rw [Nat.min_eq_right (by omega), List.take_of_length_le (by omega), List.take_of_length_le (by omega)]
theorem from_tx {l : List Nat} (h : l.length ≤ 16777216) (n : Nat) : sliceD (.str (tx l)) (some (n : Int)) none = some (.d (.str (tx (l.drop n)))) := by
  rw [slice_tx h]
  simp only [HT.sIx_nat, HT.sIx_none]
  rw [List.take_of_length_le (by simp)]
  by_cases h : n ≤ l.length
  · rw [Nat.min_eq_left h]
  · rw [Nat.min_eq_right (by omega), List.drop_eq_nil_of_le (by omega), List.drop_eq_nil_of_le (by omega)]
theorem butlast_tx {l : List Nat} (h : l.length ≤ 16777216) : sliceD (.str (tx l)) none (some (-1)) = some (.d (.str (tx l.dropLast))) := by
  rw [slice_tx h]
  have e : HT.sIx l.length l.length (some (-1)) = l.length - 1 := by
    show (if (-1 : Int) < 0 then ((-1 : Int) + (l.length : Int)).toNat else min (-1 : Int).toNat l.length) = _
    rw [if_pos (by omega)]; omega
  rw [e, HT.sIx_none, List.drop_zero, Nat.sub_zero, ← List.dropLast_eq_take]
theorem mem_tx (c : Nat) (y : List Nat) : memD (ch c) (.str (tx y)) = some (decide (c ∈ y)) := by
  show some (inS (tx [c]) (tx y)) = _
  unfold inS
  rw [tx_tl, tx_tl]
def SG : List Nat := [45, 46, 47, 48, 49, 50, 51, 52, 53, 54, 55, 56, 57, 95, 97, 98, 99, 100, 101, 102, 103, 104, 105, 106, 107, 108, 109, 110, 111, 112, 113, 114, 115, 116, 117, 118, 119, 120, 121, 122]
theorem c_signs : Str.ofString "-./0123456789_abcdefghijklmnopqrstuvwxyz" = tx SG := by rw [tx_def]; decide +kernel
theorem c_slash : Str.ofString "/" = tx [47] := by rw [tx_def]; decide +kernel
theorem c_star : Str.ofString "*" = tx [42] := by rw [tx_def]; decide +kernel
theorem c_dash : Str.ofString "-" = tx [45] := by rw [tx_def]; decide +kernel
theorem c_doll : Str.ofString "$" = tx [36] := by rw [tx_def]; decide +kernel
theorem c_a : Str.ofString "a" = tx [97] := by rw [tx_def]; decide +kernel
theorem c_nil : Str.ofString "" = tx [] := by rw [tx_def]; decide +kernel
theorem rep_tx (l : List Nat) : Txt.replace (tx l) (tx [42]) (tx [45]) = tx (l.map fun c => if c = 42 then 45 else c) := by
  have e : (Txt.replace (tx l) (tx [42]) (tx [45])).cps.toList = l.map fun c => if c = 42 then 45 else c := by
    rw [StrLaws.replace_list (by rw [tx_len]; decide), tx_tl, tx_tl, tx_tl]
    induction l with
    | nil => exact StrLaws.replL_nil
    | cons c l ih =>
      by_cases h : c = 42
      · subst h
        rw [StrLaws.replL_hit (by decide) (by simp)]
        simpa using ih
      · rw [StrLaws.replL_miss (by simpa using h)]
        simp [h, ih]
  rw [tx_def (l.map _), ← e]
@[simp] theorem run_repl (y z : Str) (a : D) : Op.run (.repl y z) [a] = runRepl y z a := nr rfl
/-- a path -/
structure Pth (l : List Nat) : Prop where
  h : l.head? = some 47
  s : ∀ c ∈ l, c ∈ SG
  n : l.length ≤ 1000
theorem r_is_path (n : Nat) {l : List Nat} (h : Pth l) : runD dfs (n + 1) i_is_path [.d (.str (tx l))] = .ok (.d (.bool true), []) := by
  have hn := h.n
  have hz : l.length ≤ 16777216 := by omega
  have t1 : sliceD (.str (tx l)) none (some 1) = some (.d (.str (tx (l.take 1)))) := to_tx hz 1
  have t2 : l.take 1 = [47] := by
    have := h.h
    cases l with
    | nil => cases this
    | cons a l => simp at this; subst this; rfl
  have hc : ∀ f : F, f = ⟨[.d (.str (tx l)), .no], []⟩ → lcLoop (evT (runD dfs n) []) (evE (runD dfs n) (.op .mem [.v 1, .k (.str (Str.ofString "-./0123456789_abcdefghijklmnopqrstuvwxyz"))])) (.name 1) [1] (l.map ch) [] f = .ok ((l.filter fun _ => true).map fun c => PyData.bool true, f) := by
    rintro f rfl
    refine lc_pure ch (fun _ => true) (fun c => PyData.bool true) _ _ (by omega) ?_
    intro c hc
    have m := mem_tx c SG
    rw [decide_eq_true (h.s c hc)] at m
    simp [c_signs, m]
  rw [List.filter_eq_self.mpr (by simp)] at hc
  have ha : ((l.map fun _ => true).all id) = true := by simp
  rw [run_is_path]
  simp [ir_is_path, c_slash, t1, t2, items_tx hz, hc, ha]
/-- the signs of a pattern behind its first one -/
structure Mid (m : List Nat) : Prop where
  s : ∀ c ∈ m, c ∈ SG ∨ c = 42
  n : m.length ≤ 10
theorem sg_ne {c : Nat} (h : c ∈ SG) : c ≠ 36 ∧ c ≠ 42 := by
  constructor <;> (rintro rfl; revert h; decide)
theorem last_ne {m : List Nat} (h : Mid m) : ∃ c, (47 :: m).getLast? = some c ∧ c ≠ 36 := by
  refine ⟨(47 :: m).getLast (List.cons_ne_nil _ _), by rw [List.getLast?_eq_some_getLast (List.cons_ne_nil _ _)], ?_⟩
  have := List.getLast_mem (List.cons_ne_nil 47 m)
  rcases List.mem_cons.mp this with e | e
  · rw [e]; decide
  · rcases h.s _ e with q | q
    · exact (sg_ne q).1
    · rw [q]; decide
/-- a pattern -/
def Shp (p m : List Nat) : Prop := Mid m ∧ (p = 47 :: m ∨ p = 47 :: (m ++ [36]))
theorem Shp.len {p m : List Nat} (h : Shp p m) : 1 ≤ p.length ∧ p.length ≤ 12 := by
  obtain ⟨h1, rfl | rfl⟩ := h <;> have := h1.n <;> simp <;> omega
theorem Shp.pth {m : List Nat} (h : Mid m) : Pth ((47 :: m).map fun c => if c = 42 then 45 else c) := by
  have := h.n
  refine ⟨by simp, fun c hc => ?_, by simp; omega⟩
  obtain ⟨d, hd, rfl⟩ := List.mem_map.mp hc
  rcases List.mem_cons.mp hd with rfl | e
  · decide
  · rcases h.s _ e with q | q
    · rw [if_neg (sg_ne q).2]; exact q
    · rw [if_pos q]; decide
theorem r_is_some_pattern (n : Nat) {p m : List Nat} (h : Shp p m) : runD dfs (n + 2) i_is_some_pattern [.d (.str (tx p))] = .ok (.d (.bool true), []) := by
  obtain ⟨l1, l2⟩ := h.len
  have hz : p.length ≤ 16777216 := by omega
  have hp := r_is_path n (Shp.pth h.1)
  have mn := h.1.n
  have rr : runRepl (Str.ofString "*") (Str.ofString "-") (.str (tx (47 :: m))) = some (.d (.str (tx ((47 :: m).map fun c => if c = 42 then 45 else c)))) := by
    show (if (tx (47 :: m)).length + ((tx (47 :: m)).length + 1) * (Str.ofString "-").length ≤ 16777216 then some (RR.d (.str (Txt.replace (tx (47 :: m)) (Str.ofString "*") (Str.ofString "-")))) else none) = _
    rw [c_star, c_dash, rep_tx, tx_len, tx_len, if_pos (by simp; omega)]
  generalize ((47 :: m).map fun c => if c = 42 then 45 else c) = w at hp rr
  have i0 := item_tx (l := 47 :: m) (by simp; omega) 0
  have sz1 : szB (m.length + 1) = true := szB_of (by omega)
  have sz2 : szB (m.length + 1 + 1) = true := szB_of (by omega)
  rw [run_is_some_pattern]
  obtain ⟨hm, rfl | rfl⟩ := h
  · obtain ⟨c, e1, e2⟩ := last_ne hm
    have il := item_tx (l := 47 :: m) hz (-1)
    rw [atI_last, e1] at il
    have h1 : ¬ ((m.length : Int) + 1 < 1 ∨ (12 : Int) < (m.length : Int) + 1) := by omega
    by_cases hl : 0 < m.length
    · simp [ir_is_some_pattern, il, e2, rr, hp, i0, c_doll, c_slash, sz1, hl, h1]
    · have hl0 : m.length = 0 := by omega
      simp [ir_is_some_pattern, il, e2, rr, hp, i0, c_doll, c_slash, sz1, hl0]
  · have il := item_tx (l := 47 :: (m ++ [36])) hz (-1)
    rw [atI_last, show (47 :: (m ++ [36])).getLast? = some 36 by rw [← List.cons_append, List.getLast?_append]; rfl] at il
    have bl := butlast_tx (l := 47 :: (m ++ [36])) hz
    rw [show (47 :: (m ++ [36])).dropLast = 47 :: m by rw [← List.cons_append, List.dropLast_concat]] at bl
    have h1 : ¬ ((m.length : Int) + 1 + 1 < 1 ∨ (12 : Int) < (m.length : Int) + 1 + 1) := by omega
    have h2 : (1 : Int) < (m.length : Int) + 1 + 1 := by omega
    simp [ir_is_some_pattern, il, bl, rr, hp, i0, c_doll, c_slash, sz2, h1, h2]
/-- a pattern's body -/
def bdyP (p : List Nat) : List Nat := if p.getLast? = some 36 then p.dropLast else p ++ [42]
theorem bd_of {p m : List Nat} (h : Shp p m) : ∃ q, bdyP p = 47 :: q ∧ (∀ c ∈ q, c ∈ SG ∨ c = 42) ∧ q.length ≤ 11 := by
  obtain ⟨hm, rfl | rfl⟩ := h
  · obtain ⟨c, e1, e2⟩ := last_ne hm
    refine ⟨m ++ [42], ?_, fun c hc => ?_, by have := hm.n; simp; omega⟩
    · unfold bdyP; rw [e1, if_neg (by simpa using e2)]; rfl
    · rcases List.mem_append.mp hc with q | q
      · exact hm.s c q
      · exact .inr (List.mem_singleton.mp q)
  · refine ⟨m, ?_, hm.s, by have := hm.n; omega⟩
    unfold bdyP
    rw [show (47 :: (m ++ [36])).getLast? = some 36 by rw [← List.cons_append, List.getLast?_append]; rfl, if_pos rfl, ← List.cons_append, List.dropLast_concat]
theorem last_some {p m : List Nat} (h : Shp p m) : ∃ c, p.getLast? = some c := by
  have := h.len
  exact ⟨_, List.getLast?_eq_some_getLast (by rintro rfl; simp at this)⟩
theorem r_body_by (n : Nat) {p m : List Nat} (h : Shp p m) : runD dfs (n + 1) i_body_by [.d (.str (tx p))] = .ok (.d (.str (tx (bdyP p))), []) := by
  obtain ⟨l1, l2⟩ := h.len
  have hz : p.length ≤ 16777216 := by omega
  obtain ⟨c, hc⟩ := last_some h
  have il := item_tx hz (-1)
  rw [atI_last, hc] at il
  have bl := butlast_tx hz
  have sz : szB (p.length + 1) = true := szB_of (by omega)
  rw [run_body_by]
  unfold bdyP
  rw [hc]
  by_cases e : c = 36
  · subst e
    simp [ir_body_by, il, bl, c_doll]
  · simp [ir_body_by, il, c_doll, c_star, e, sz]
theorem r_law_body (n : Nat) {p m : List Nat} (h : Shp p m) : runD dfs (n + 1) i__law_body [.d (.str (tx p))] = .ok (.d (.str (tx (bdyP p))), []) := by
  obtain ⟨l1, l2⟩ := h.len
  have hz : p.length ≤ 16777216 := by omega
  obtain ⟨c, hc⟩ := last_some h
  have il := item_tx hz (-1)
  rw [atI_last, hc] at il
  have bl := butlast_tx hz
  have sz : szB (p.length + 1) = true := szB_of (by omega)
  have sz0 : szB (p.length) = true := szB_of (by omega)
  rw [run__law_body]
  unfold bdyP
  rw [hc]
  by_cases hl : 1 < p.length
  · have hl2 : (1 : Int) < (p.length : Int) := by omega
    by_cases e : c = 36
    · subst e
      simp [ir__law_body, il, bl, c_doll, hl2, sz0]
    · simp [ir__law_body, il, c_doll, c_star, e, sz, hl2, sz0]
  · have hp : p = [47] := by
      obtain ⟨hm, rfl | rfl⟩ := h
      · simp at hl; subst hl; rfl
      · simp at hl
    subst hp
    simp at hc
    subst hc
    simp [ir__law_body, c_star]
theorem sI_perm1 (x : Int) : ∀ l : List Int, (insI x l).Perm (x :: l)
  | [] => .refl _
  | y :: r => by
    show (if x ≤ y then x :: y :: r else y :: insI x r).Perm _
    split
    · exact .refl _
    · exact ((sI_perm1 x r).cons y).trans (.swap x y r)
theorem sI_perm : ∀ l : List Int, (sortI l).Perm l
  | [] => .refl _
  | x :: r => (sI_perm1 x _).trans ((sI_perm r).cons x)
theorem sI_up1 (x : Int) : ∀ l : List Int, l.Pairwise (· ≤ ·) → (insI x l).Pairwise (· ≤ ·)
  | [], _ => List.pairwise_singleton _ _
  | y :: r, h => by
    show (if x ≤ y then x :: y :: r else y :: insI x r).Pairwise (· ≤ ·)
    have h' := h
    rw [List.pairwise_cons] at h
    split
    · rename_i hxy
      rw [List.pairwise_cons]
      refine ⟨fun z hz => ?_, h'⟩
      rw [List.mem_cons] at hz
      rcases hz with rfl | hz
      · exact hxy
      · have := h.1 z hz; omega
    · rename_i hxy
      rw [List.pairwise_cons]
      refine ⟨fun z hz => ?_, sI_up1 x r h.2⟩
      rw [(sI_perm1 x r).mem_iff, List.mem_cons] at hz
      rcases hz with rfl | hz
      · omega
      · exact h.1 z hz
theorem sI_up : ∀ l : List Int, (sortI l).Pairwise (· ≤ ·)
  | [] => List.Pairwise.nil
  | x :: r => sI_up1 x _ (sI_up r)
abbrev nI (ps : List Nat) : List D := ps.map fun i : Nat => PyData.int (i : Int)
abbrev kI (i : Nat) : L2.Key := Sum.inl (i : Int)
abbrev dk (ks : List Nat) : List (L2.Key × D) := ks.map fun i : Nat => (kI i, PyData.bool true)
def ins (ks : List Nat) (i : Nat) : List Nat := if i ∈ ks then ks else ks ++ [i]
theorem mem_ins {ks : List Nat} {i q : Nat} : q ∈ ins ks i ↔ q ∈ ks ∨ q = i := by
  unfold ins
  split
  · rename_i h
    constructor
    · exact .inl
    · rintro (h1 | rfl)
      · exact h1
      · exact h
  · simp
theorem nodup_ins {ks : List Nat} {i : Nat} (h : ks.Nodup) : (ins ks i).Nodup := by
  unfold ins
  split
  · exact h
  · rename_i hi
    rw [List.nodup_append]
    exact ⟨h, by simp, fun a ha b hb => by rw [List.mem_singleton] at hb; subst hb; exact fun e => hi (e ▸ ha)⟩
theorem put_dk (ks : List Nat) (i : Nat) : putD (dk ks) (kI i) (.bool true) = dk (ins ks i) := by
  have hany : ((dk ks).any fun kv => decide (kv.1 = kI i)) = decide (i ∈ ks) := by
    rw [Bool.eq_iff_iff]
    simp
    exact ⟨fun ⟨x, h1, h2⟩ => by obtain rfl : x = i := by omega
                                 exact h1, fun h => ⟨i, h, rfl⟩⟩
  unfold putD
  rw [hany]
  unfold ins
  by_cases h : i ∈ ks
  · rw [decide_eq_true h, if_pos rfl, if_pos h]
    rw [List.map_map]
    refine List.map_congr_left fun j hj => ?_
    simp only [Function.comp]
    split <;> rfl
  · rw [decide_eq_false h, if_neg (by simp), if_neg h]
    simp
theorem putO_dk {ks : List Nat} (hl : ks.length < 16777216) (i : Nat) : putO (.dct (dk ks)) (.int (i : Int)) (.bool true) = some (.dct (dk (ins ks i))) := by
  show (keyD (.int (i : Int))).bind (fun k => if (dk ks).length < 16777216 then some (Ob.dct (putD (dk ks) k (.bool true))) else none) = _
  show (if (dk ks).length < 16777216 then some (Ob.dct (putD (dk ks) (kI i) (.bool true))) else none) = _
  rw [if_pos (by simpa using hl), put_dk]
/-- q is come to from p over stars -/
def run42 (b : List Nat) (p q : Nat) : Prop := p ≤ q ∧ ∀ i, p ≤ i → i < q → b[i]? = some 42
def clos (b : List Nat) (ps : List Nat) (q : Nat) : Prop := ∃ p ∈ ps, run42 b p q
theorem nod_len {ks : List Nat} {n : Nat} (h : ks.Nodup) (hb : ∀ q ∈ ks, q ≤ n) : ks.length ≤ n + 1 := by
  have := h.length_le_of_subset (l₂ := List.range (n + 1)) fun q hq => List.mem_range.mpr (by have := hb q hq; omega)
  simpa using this
/-- places, ascending, where S holds -/
def plc (n : Nat) (S : Nat → Bool) : List Nat := (List.range (n + 1)).filter S
theorem sort_plc {ks : List Nat} {n : Nat} {S : Nat → Bool} (h : ks.Nodup) (hb : ∀ q, q ∈ ks ↔ q ≤ n ∧ S q = true) : sortI (ks.map fun i : Nat => (i : Int)) = (plc n S).map fun i : Nat => (i : Int) := by
  have e1 : (sortI (ks.map fun i : Nat => (i : Int))).Perm ((plc n S).map fun i : Nat => (i : Int)) := by
    refine (sI_perm _).trans (List.Perm.map _ ?_)
    refine (List.perm_ext_iff_of_nodup h (List.Pairwise.filter _ List.nodup_range)).mpr fun q => ?_
    show _ ↔ q ∈ (List.range (n + 1)).filter S
    rw [hb, List.mem_filter, List.mem_range]
    constructor <;> rintro ⟨a, b⟩ <;> exact ⟨by omega, b⟩
  refine List.Perm.eq_of_pairwise (le := fun a b : Int => a ≤ b) (fun a b _ _ h1 h2 => by omega) (sI_up _) ?_ e1
  rw [List.pairwise_map]
  refine List.Pairwise.filter _ ?_
  exact List.pairwise_lt_range.imp fun h => by omega
theorem runSorted_dk {ks : List Nat} (h : ks.length < 64) : runSorted (Ob.dct (dk ks)).d = some (.fr (.lst ((sortI (ks.map fun i : Nat => (i : Int))).map .int))) := by
  have e : ((dk ks).map fun p => (kD p.1, p.2)).map (·.1) = (ks.map fun i : Nat => (i : Int)).map PyData.int := by
    rw [List.map_map, List.map_map, List.map_map]; rfl
  show (if ((dk ks).map fun p => (kD p.1, p.2)).length < 64 then (intsD (((dk ks).map fun p => (kD p.1, p.2)).map (·.1))).map fun ns => RR.fr (.lst ((sortI ns).map .int)) else none) = _
  rw [if_pos (by simpa using h), e, intsD_map]; rfl
theorem run42_step {b : List Nat} {p q : Nat} (h : run42 b p q) (hb : b[q]? = some 42) : run42 b p (q + 1) :=
  ⟨by have := h.1; omega, fun i h1 h2 => by
    rcases Nat.lt_or_ge i q with z | z
    · exact h.2 i h1 z
    · obtain rfl : i = q := by omega
      exact hb⟩
/-- how the places come to a def: a fresh list; a list that comes back -/
def argP : Bool → List Nat → Vm.Arg
  | true, ps => .o (.lst (nI ps))
  | false, ps => .r (.lst (nI ps))
def outP : Bool → List Nat → List SV
  | true, _ => []
  | false, ps => [.d (.list (nI ps))]
theorem run42_le {b : List Nat} {p q : Nat} (h : run42 b p q) (hp : p ≤ b.length) : q ≤ b.length := by
  rcases Nat.lt_or_ge p q with z | z
  · have := h.2 (q - 1) (by omega) (by omega)
    have := (List.getElem?_eq_some_iff.mp this).1
    omega
  · have := h.1; omega
theorem clos_le {b ps : List Nat} {q : Nat} (hp : ∀ p ∈ ps, p ≤ b.length) (h : clos b ps q) : q ≤ b.length := by
  obtain ⟨p, h1, h2⟩ := h
  exact run42_le h2 (hp p h1)
theorem clos_take {b ps : List Nat} {k : Nat} (hk : k < ps.length) (x : Nat) : clos b (ps.take (k + 1)) x ↔ clos b (ps.take k) x ∨ run42 b ps[k] x := by
  unfold clos
  rw [List.take_succ_eq_append_getElem hk]
  constructor
  · rintro ⟨p, h1, h2⟩
    rcases List.mem_append.mp h1 with q | q
    · exact .inl ⟨p, q, h2⟩
    · rw [List.mem_singleton] at q; subst q; exact .inr h2
  · rintro (⟨p, h1, h2⟩ | h2)
    · exact ⟨p, List.mem_append_left _ h1, h2⟩
    · exact ⟨_, List.mem_append_right _ (List.mem_singleton.mpr rfl), h2⟩
theorem closed_loop (n : Nat) {b ps : List Nat} (hb : b.length ≤ 12) (hp : ∀ p ∈ ps, p ≤ b.length) (v1 : LV) (T0 : List SV) (Q : Po)
    (hQ : ∀ ks a c, ks.Nodup → (∀ q, q ∈ ks ↔ clos b ps q) → Q.nx ⟨[.d (.str (tx b)), v1, .own (.dct (dk ks)), a, c], T0⟩) :
    (forLoop (xSs (runD dfs n) (forB ir_closed_places 1)) (.name 3) (nI ps) ⟨[.d (.str (tx b)), v1, .own (.dct []), .no, .no], T0⟩).Sat Q := by
  have hz : b.length ≤ 16777216 := by omega
  have hsz : szB b.length = true := szB_of (by omega)
  obtain ⟨J, hJ⟩ := opq (fun (k : Nat) (f : F) => ∃ ks a c, ks.Nodup ∧ (∀ q, q ∈ ks ↔ clos b (ps.take k) q) ∧ f = ⟨[.d (.str (tx b)), v1, .own (.dct (dk ks)), a, c], T0⟩)
  refine for_idx _ J _ ?_ ?_ ?_
  · rw [hJ]
    refine ⟨[], _, _, List.nodup_nil, fun q => ?_, rfl⟩
    simp [clos]
  · rintro k hk f hf
    rw [hJ] at hf
    obtain ⟨ks, a, c, hn, hm, rfl⟩ := hf
    have hk2 : k < ps.length := by simpa using hk
    have hpk := hp _ (List.getElem_mem hk2)
    have hlen : ks.length ≤ 13 := by
      have := nod_len (n := 12) hn fun q hq => by
        have := clos_le (fun p h => hp p (List.mem_of_mem_take h)) ((hm q).mp hq)
        omega
      omega
    have put := putO_dk (ks := ks) (by omega) ps[k]
    have e0 : (nI ps)[k] = .int (ps[k] : Int) := by simp
    rw [e0]
    obtain ⟨p, ep⟩ : ∃ p, ps[k] = p := ⟨_, rfl⟩
    have hct := clos_take (b := b) hk2
    rw [ep] at hpk put hct ⊢
    simp [forB, ir_closed_places, put]
    refine whl_sat (fun m f => ∃ q ks, run42 b p q ∧ q ≤ b.length ∧ ks.Nodup ∧ (∀ x, x ∈ ks ↔ clos b (ps.take k) x ∨ (run42 b p x ∧ x ≤ q)) ∧ m = b.length - q ∧ f = ⟨[.d (.str (tx b)), v1, .own (.dct (dk ks)), .d (.int (p : Int)), .d (.int (q : Int))], T0⟩) ?_ _ (b.length - p) _ (by unfold fuel; omega) ⟨p, ins ks p, ⟨Nat.le_refl _, fun i h1 h2 => by omega⟩, hpk, nodup_ins hn, fun x => ?_, rfl, rfl⟩
    · rintro m f ⟨q, ks, hr, hq, hn, hm, rfl, rfl⟩
      have hlen : ks.length ≤ 13 := by
        have := nod_len (n := 12) hn fun x hx => by
          rcases (hm x).mp hx with h | h
          · have := clos_le (fun p h => hp p (List.mem_of_mem_take h)) h
            omega
          · have := run42_le h.1 hpk
            omega
        omega
      have put := putO_dk (ks := ks) (by omega) (q + 1)
      have iq := item_tx hz (q : Int)
      have fin : b[q]? ≠ some 42 → J (k + 1) ⟨[.d (.str (tx b)), v1, .own (.dct (dk ks)), .d (.int (p : Int)), .d (.int (q : Int))], T0⟩ := fun hne => by
        rw [hJ]
        refine ⟨ks, _, _, hn, fun x => ?_, rfl⟩
        rw [hm, hct]
        refine or_congr_right ⟨fun h => h.1, fun h => ⟨h, ?_⟩⟩
        rcases Nat.lt_or_ge q x with z | z
        · exact absurd (h.2 q hr.1 z) hne
        · exact z
      clear hJ
      by_cases h1 : q < b.length
      · rw [atI_nat, List.getElem?_eq_getElem h1] at iq
        have h2 : (q : Int) < (b.length : Int) := by omega
        by_cases h3 : b[q] = 42
        · have b42 : b[q]? = some 42 := by rw [List.getElem?_eq_getElem h1, h3]
          have pk : putD (dk ks) (Sum.inl ((q : Int) + 1)) (.bool true) = dk (ins ks (q + 1)) := put_dk ks (q + 1)
          have kd : keyD (.int ((q : Int) + 1)) = some (Sum.inl ((q : Int) + 1)) := rfl
          have sl : szL ks.length = true := szL_of (by omega)
          simp [h2, iq, c_star, h3, hsz, kd, sl, pk]
          refine ⟨b.length - (q + 1), by omega, q + 1, run42_step hr b42, by omega, ins ks (q + 1), nodup_ins hn, fun x => ?_, rfl, by simp⟩
          rw [mem_ins, hm]
          constructor
          · rintro ((h | ⟨h, h'⟩) | rfl)
            · exact .inl h
            · exact .inr ⟨h, by omega⟩
            · exact .inr ⟨run42_step hr b42, Nat.le_refl _⟩
          · rintro (h | ⟨h, h'⟩)
            · exact .inl (.inl h)
            · rcases Nat.lt_or_ge q x with z | z
              · exact .inr (by omega)
              · exact .inl (.inr ⟨h, z⟩)
        · have f2 := fin (by rw [List.getElem?_eq_getElem h1]; simpa using h3)
          simp [h2, iq, c_star, h3, hsz]
          exact f2
      · have h2 : ¬ (q : Int) < (b.length : Int) := by omega
        have f2 := fin (by rw [List.getElem?_eq_none (by omega)]; simp)
        simp [h2, hsz]
        exact f2
    · rw [mem_ins, hm]
      refine or_congr_right ⟨fun h => by subst h; exact ⟨⟨Nat.le_refl _, fun i h1 h2 => by omega⟩, Nat.le_refl _⟩, fun h => by have := h.1.1; omega⟩
  · rintro f hf
    rw [hJ] at hf
    obtain ⟨ks, a, c, hn, hm, rfl⟩ := hf
    rw [show (nI ps).length = ps.length by simp, List.take_length] at hm
    exact hQ ks a c hn hm
theorem r_closed (n : Nat) (w : Bool) {b ps : List Nat} {S : Nat → Bool} (hb : b.length ≤ 12) (hp : ∀ p ∈ ps, p ≤ b.length) (hS : ∀ q, q ≤ b.length → (S q = true ↔ clos b ps q)) :
    runD dfs (n + 1) i_closed_places [.d (.str (tx b)), argP w ps] = .ok (.d (.tuple (nI (plc b.length S))), outP w ps) := by
  rw [run_closed_places, ← sat_iff, finish_sat]
  cases w
  · simp [argP, ir_closed_places]
    refine closed_loop n hb hp _ _ _ ?_
    intro ks a c hn hm
    have hlen : ks.length ≤ 13 := nod_len (n := 12) hn fun q hq => by have := clos_le hp ((hm q).mp hq); omega
    have rs := runSorted_dk (ks := ks) (by omega)
    rw [sort_plc hn (n := b.length) (S := S) fun q => ⟨fun h => ⟨clos_le hp ((hm q).mp h), (hS q (clos_le hp ((hm q).mp h))).mpr ((hm q).mp h)⟩, fun h => (hm q).mpr ((hS q h.1).mp h.2)⟩] at rs
    simp only [Ob.d, List.map_map] at rs
    simp [rs, outP]
  · simp [argP, ir_closed_places]
    refine closed_loop n hb hp _ _ _ ?_
    intro ks a c hn hm
    have hlen : ks.length ≤ 13 := nod_len (n := 12) hn fun q hq => by have := clos_le hp ((hm q).mp hq); omega
    have rs := runSorted_dk (ks := ks) (by omega)
    rw [sort_plc hn (n := b.length) (S := S) fun q => ⟨fun h => ⟨clos_le hp ((hm q).mp h), (hS q (clos_le hp ((hm q).mp h))).mpr ((hm q).mp h)⟩, fun h => (hm q).mpr ((hS q h.1).mp h.2)⟩] at rs
    simp only [Ob.d, List.map_map] at rs
    simp [rs, outP]
/-- the first k signs of b meet the first j of t -/
def mt (b t : List Nat) : Nat → Nat → Bool
  | 0, 0 => true
  | 0, _ + 1 => false
  | k + 1, 0 => decide (b[k]? = some 42) && mt b t k 0
  | k + 1, j + 1 => if b[k]? = some 42 then mt b t k (j + 1) || mt b t (k + 1) j else mt b t k j && decide (b[k]? = t[j]?)
termination_by k j => (k, j)
theorem mt_00 {b t : List Nat} : mt b t 0 0 = true := by rw [mt]
theorem mt_0s {b t : List Nat} {j : Nat} : mt b t 0 (j + 1) = false := by rw [mt]
theorem mt_s0 {b t : List Nat} {k : Nat} : mt b t (k + 1) 0 = (decide (b[k]? = some 42) && mt b t k 0) := by rw [mt]
theorem mt_ss {b t : List Nat} {k j : Nat} : mt b t (k + 1) (j + 1) = if b[k]? = some 42 then mt b t k (j + 1) || mt b t (k + 1) j else mt b t k j && decide (b[k]? = t[j]?) := by rw [mt]
theorem mt_no0 {b t : List Nat} (hb : b[0]? = some 47) : ∀ k, mt b t (k + 1) 0 = false
  | 0 => by rw [mt_s0, hb]; simp
  | k + 1 => by rw [mt_s0, mt_no0 hb k]; simp
theorem run42_succ {b : List Nat} {p q : Nat} (hp : p ≤ q) : run42 b p (q + 1) ↔ run42 b p q ∧ b[q]? = some 42 := by
  constructor
  · rintro ⟨h1, h2⟩
    exact ⟨⟨hp, fun i a c => h2 i a (by omega)⟩, h2 q hp (by omega)⟩
  · rintro ⟨h1, h2⟩
    exact run42_step h1 h2
theorem mt_first {b t : List Nat} (hb : b[0]? = some 47) (ht : t[0]? = some 47) : ∀ q, mt b t q 1 = true ↔ run42 b 1 q
  | 0 => by
    rw [mt_0s]
    exact ⟨fun h => (by cases h), fun h => (by have := h.1; omega)⟩
  | 1 => by
    rw [mt_ss, hb, ht, if_neg (by simp), mt_00]
    exact ⟨fun _ => ⟨Nat.le_refl _, fun i h1 h2 => (by omega)⟩, fun _ => (by simp)⟩
  | q + 2 => by
    rw [run42_succ (show 1 ≤ q + 1 by omega), ← mt_first hb ht (q + 1), mt_ss, mt_no0 hb]
    by_cases h : b[q + 1]? = some 42
    · rw [if_pos h]
      simp [h]
    · rw [if_neg h, mt_no0 hb]
      simp [h]
def fnd (b : List Nat) (c : Nat) (ps : List Nat) : List Nat := ps.flatMap fun p => (if b[p]? = some c then [p + 1] else []) ++ (if 0 < p ∧ b[p - 1]? = some 42 then [p] else [])
theorem mem_fnd {b : List Nat} {c : Nat} {ps : List Nat} {x : Nat} : x ∈ fnd b c ps ↔ ∃ p ∈ ps, (b[p]? = some c ∧ x = p + 1) ∨ (0 < p ∧ b[p - 1]? = some 42 ∧ x = p) := by
  unfold fnd
  rw [List.mem_flatMap]
  refine ⟨fun ⟨p, h1, h2⟩ => ⟨p, h1, ?_⟩, fun ⟨p, h1, h2⟩ => ⟨p, h1, ?_⟩⟩
  · rcases List.mem_append.mp h2 with h | h
    · split at h
      · rename_i hb; exact .inl ⟨hb, List.mem_singleton.mp h⟩
      · cases h
    · split at h
      · rename_i hb; exact .inr ⟨hb.1, hb.2, List.mem_singleton.mp h⟩
      · cases h
  · rcases h2 with ⟨h3, rfl⟩ | ⟨h3, h4, rfl⟩
    · exact List.mem_append_left _ (by rw [if_pos h3]; simp)
    · exact List.mem_append_right _ (by rw [if_pos ⟨h3, h4⟩]; simp)
theorem mem_plc {n q : Nat} {S : Nat → Bool} : q ∈ plc n S ↔ q ≤ n ∧ S q = true := by
  show q ∈ (List.range (n + 1)).filter S ↔ _
  rw [List.mem_filter, List.mem_range]
  constructor <;> rintro ⟨a, b⟩ <;> exact ⟨by omega, b⟩
theorem plc_len {n : Nat} {S : Nat → Bool} : (plc n S).length ≤ n + 1 := by
  have := List.length_filter_le S (List.range (n + 1))
  rw [List.length_range] at this
  exact this
theorem mt_led {b t : List Nat} {j c : Nat} (hc : t[j]? = some c) (h42 : c ≠ 42) : ∀ q, q ≤ b.length → (mt b t q (j + 1) = true ↔ clos b (fnd b c (plc b.length fun q => mt b t q j)) q)
  | 0, _ => by
    rw [mt_0s]
    refine ⟨fun h => (by cases h), ?_⟩
    rintro ⟨p, h1, h2, _⟩
    obtain ⟨r, _, ⟨_, rfl⟩ | ⟨h3, _, rfl⟩⟩ := mem_fnd.mp h1 <;> omega
  | q + 1, hq => by
    have ih := mt_led (b := b) hc h42 q (by omega)
    rw [mt_ss]
    by_cases h : b[q]? = some 42
    · rw [if_pos h, Bool.or_eq_true, ih]
      constructor
      · rintro (⟨p, h1, h2⟩ | h1)
        · exact ⟨p, h1, run42_step h2 h⟩
        · exact ⟨q + 1, mem_fnd.mpr ⟨q + 1, mem_plc.mpr ⟨hq, h1⟩, .inr ⟨by omega, h, rfl⟩⟩, Nat.le_refl _, fun i a b => (by omega)⟩
      · rintro ⟨p, h1, h2⟩
        rcases Nat.lt_or_ge q p with z | z
        · obtain rfl : p = q + 1 := by have := h2.1; omega
          obtain ⟨r, hr, ⟨h3, e⟩ | ⟨h3, _, e⟩⟩ := mem_fnd.mp h1
          · obtain rfl : r = q := by omega
            rw [h] at h3
            exact absurd (Option.some.inj h3).symm h42
          · subst e
            exact .inr (mem_plc.mp hr).2
        · exact .inl ⟨p, h1, ((run42_succ z).mp h2).1⟩
    · rw [if_neg h, Bool.and_eq_true, decide_eq_true_eq, hc]
      constructor
      · rintro ⟨h1, h2⟩
        exact ⟨q + 1, mem_fnd.mpr ⟨q, mem_plc.mpr ⟨by omega, h1⟩, .inl ⟨h2, rfl⟩⟩, Nat.le_refl _, fun i a b => (by omega)⟩
      · rintro ⟨p, h1, h2⟩
        rcases Nat.lt_or_ge q p with z | z
        · obtain rfl : p = q + 1 := by have := h2.1; omega
          obtain ⟨r, hr, ⟨h3, e⟩ | ⟨h3, h4, e⟩⟩ := mem_fnd.mp h1
          · obtain rfl : r = q := by omega
            exact ⟨(mem_plc.mp hr).2, h3⟩
          · subst e
            exact absurd h4 h
        · exact absurd ((run42_succ z).mp h2).2 h
/-- a body -/
structure Bdy (b : List Nat) : Prop where
  h : b[0]? = some 47
  n : b.length ≤ 12
theorem r_first (n : Nat) {b t : List Nat} (hb : Bdy b) (ht : t[0]? = some 47) : runD dfs (n + 2) i_first_places [.d (.str (tx b))] = .ok (.d (.tuple (nI (plc b.length fun q => mt b t q 1))), []) := by
  have l1 : 1 ≤ b.length := by have := (List.getElem?_eq_some_iff.mp hb.h).1; omega
  have c := r_closed n true (b := b) (ps := [1]) (S := fun q => mt b t q 1) hb.n (by simpa using l1) (fun q hq => by
    rw [mt_first hb.h ht]
    exact ⟨fun h => ⟨1, by simp, h⟩, fun ⟨p, h1, h2⟩ => by rw [List.mem_singleton] at h1; subst h1; exact h2⟩)
  have c : runD dfs (n + 1) i_closed_places [.d (.str (tx b)), .o (.lst [.int 1])] = .ok (.d (.tuple (nI (plc b.length fun q => mt b t q 1))), []) := c
  rw [run_first_places]
  simp [ir_first_places, c]
theorem r_led (n : Nat) {b t : List Nat} {j c : Nat} (hb : Bdy b) (hc : t[j]? = some c) (h42 : c ≠ 42) :
    runD dfs (n + 2) i_led_places [.d (.str (tx b)), .d (.tuple (nI (plc b.length fun q => mt b t q j))), .d (ch c)] = .ok (.d (.tuple (nI (plc b.length fun q => mt b t q (j + 1)))), []) := by
  have hz : b.length ≤ 16777216 := by have := hb.n; omega
  have bn := hb.n
  have hsz : szB b.length = true := szB_of (by omega)
  rw [run_led_places, ← sat_iff, finish_sat]
  have pm : ∀ p ∈ plc b.length (fun q => mt b t q j), p ≤ b.length := fun p hp => (mem_plc.mp hp).1
  have pl := plc_len (n := b.length) (S := fun q => mt b t q j)
  have led := mt_led (b := b) hc h42
  generalize plc b.length (fun q => mt b t q j) = ps at *
  simp [ir_led_places]
  obtain ⟨J, hJ⟩ := opq (fun (k : Nat) (f : F) => ∃ a, f = ⟨[.d (.str (tx b)), .d (.tuple (nI ps)), .d (ch c), .own (.lst (nI (fnd b c (ps.take k)))), a], []⟩)
  refine for_idx _ J _ ?_ ?_ ?_
  · rw [hJ]; exact ⟨_, rfl⟩
  · rintro k hk f hf
    rw [hJ] at hf
    obtain ⟨a, rfl⟩ := hf
    have hk2 : k < ps.length := by simpa using hk
    have e0 : (nI ps)[k] = .int (ps[k] : Int) := by simp
    have hpk := pm _ (List.getElem_mem hk2)
    have fe : fnd b c (ps.take (k + 1)) = fnd b c (ps.take k) ++ ((if b[ps[k]]? = some c then [ps[k] + 1] else []) ++ (if 0 < ps[k] ∧ b[ps[k] - 1]? = some 42 then [ps[k]] else [])) := by
      unfold fnd
      rw [List.take_succ_eq_append_getElem hk2, List.flatMap_append]
      simp
    have nxt : ∀ a, J (k + 1) ⟨[.d (.str (tx b)), .d (.tuple (nI ps)), .d (ch c), .own (.lst (nI (fnd b c (ps.take k) ++ ((if b[ps[k]]? = some c then [ps[k] + 1] else []) ++ (if 0 < ps[k] ∧ b[ps[k] - 1]? = some 42 then [ps[k]] else []))))), a], []⟩ := fun a => by
      rw [hJ, ← fe]; exact ⟨_, rfl⟩
    have fl : (fnd b c (ps.take k)).length ≤ 100 := by
      have : ∀ l : List Nat, (fnd b c l).length ≤ 2 * l.length := fun l => by
        unfold fnd
        induction l with
        | nil => simp
        | cons x l ih =>
          rw [List.flatMap_cons, List.length_append, List.length_append, List.length_cons]
          have a1 : (if b[x]? = some c then [x + 1] else []).length ≤ 1 := by split <;> simp
          have a2 : (if 0 < x ∧ b[x - 1]? = some 42 then [x] else []).length ≤ 1 := by split <;> simp
          omega
      have := this (ps.take k)
      rw [List.length_take] at this
      omega
    clear hJ fe
    rw [e0]
    generalize fnd b c (ps.take k) = fs at *
    obtain ⟨p, ep⟩ : ∃ p, ps[k] = p := ⟨_, rfl⟩
    rw [ep] at hpk nxt ⊢
    have ip := item_tx hz (p : Int)
    rw [atI_nat] at ip
    have s1 : szL fs.length = true := szL_of (by omega)
    have s2 : szL (fs.length + 1) = true := szL_of (by omega)
    have ip1 : 0 < p → itemD (.str (tx b)) (.int ((p : Int) - 1)) = (b[p - 1]?).map ch := fun h => by
      have := item_tx hz ((p - 1 : Nat) : Int)
      rw [atI_nat, show ((p - 1 : Nat) : Int) = (p : Int) - 1 by omega] at this
      exact this
    have second : ∀ (gs : List Nat), gs.length ≤ 110 → ∀ (P : Po), (∀ a, P.nx ⟨[.d (.str (tx b)), .d (.tuple (nI ps)), .d (ch c), .own (.lst (nI (gs ++ (if 0 < p ∧ b[p - 1]? = some 42 then [p] else [])))), a], []⟩) →
        (xSs (runD dfs (n + 1)) ((forB ir_led_places 1).drop 1) ⟨[.d (.str (tx b)), .d (.tuple (nI ps)), .d (ch c), .own (.lst (nI gs)), .d (.int (p : Int))], []⟩).Sat P := by
      intro gs hg P hP
      have s1 : szL gs.length = true := szL_of (by omega)
      by_cases c0 : 0 < p
      · have c0' : (0 : Int) < (p : Int) := by omega
        have i1 := ip1 c0
        have hb1 : p - 1 < b.length := by omega
        by_cases c2 : b[p - 1]? = some 42
        · rw [if_pos ⟨c0, c2⟩] at hP
          rw [c2] at i1
          have := hP (.d (.int (p : Int)))
          simp at this
          simp [forB, ir_led_places, c0', c0, i1, c_star, s1]
          exact this
        · rw [if_neg (fun h => c2 h.2)] at hP
          rw [List.getElem?_eq_getElem hb1] at i1 c2
          have c3 : ¬ b[p - 1] = 42 := by simpa using c2
          have := hP (.d (.int (p : Int)))
          simp at this
          simp [forB, ir_led_places, c0', c0, i1, c_star, s1, c3]
          exact this
      · rw [if_neg (fun h => c0 h.1)] at hP
        have p0 : p = 0 := by omega
        have := hP (.d (.int (p : Int)))
        simp at this
        subst p0
        simp [forB, ir_led_places]
        exact this
    by_cases c1 : b[p]? = some c
    · have h1 : (p : Int) < (b.length : Int) := by have := (List.getElem?_eq_some_iff.mp c1).1; omega
      rw [c1] at ip
      rw [if_pos c1] at nxt
      have t := second (fs ++ [p + 1]) (by simp; omega)
      clear second
      simp [forB, ir_led_places] at t nxt
      simp [h1, hsz, ip, s1]
      exact t _ nxt
    · rw [if_neg c1] at nxt
      have t := second fs (by omega)
      clear second
      simp [forB, ir_led_places] at t nxt
      by_cases h0 : p < b.length
      · have h1 : (p : Int) < (b.length : Int) := by omega
        rw [List.getElem?_eq_getElem h0] at ip c1
        have c3 : ¬ b[p] = c := by simpa using c1
        simp [h1, hsz, ip, s1, c3]
        exact t _ nxt
      · have h1 : ¬ (p : Int) < (b.length : Int) := by omega
        simp [h1, hsz]
        exact t _ nxt
  · rintro f hf
    rw [hJ] at hf
    obtain ⟨a, rfl⟩ := hf
    rw [show (nI ps).length = ps.length by simp, List.take_length]
    have cl := r_closed n false (b := b) (ps := fnd b c ps) (S := fun q => mt b t q (j + 1)) hb.n (fun x hx => by
      obtain ⟨p, h1, ⟨h2, rfl⟩ | ⟨_, _, rfl⟩⟩ := mem_fnd.mp hx
      · have := (List.getElem?_eq_some_iff.mp h2).1; omega
      · exact pm _ h1) (fun q hq => led q hq)
    have cl : runD dfs (n + 1) i_closed_places [.d (.str (tx b)), .r (.lst (nI (fnd b c ps)))] = .ok (.d (.tuple (nI (plc b.length fun q => mt b t q (j + 1)))), [.d (.list (nI (fnd b c ps)))]) := cl
    simp [cl]
theorem Pth.h0 {t : List Nat} (h : Pth t) : t[0]? = some 47 := by
  have := h.h
  cases t with
  | nil => cases this
  | cons a t => simpa using this
theorem Pth.pos {t : List Nat} (h : Pth t) : 1 ≤ t.length := by
  have := (List.getElem?_eq_some_iff.mp h.h0).1
  omega
theorem r_places_by (n : Nat) {b t : List Nat} (hb : Bdy b) (ht : Pth t) : runD dfs (n + 3) i_places_by [.d (.str (tx b)), .d (.str (tx t))] = .ok (.d (.tuple (nI (plc b.length fun q => mt b t q t.length))), []) := by
  have tn := ht.n
  have tp := ht.pos
  have hz : t.length ≤ 16777216 := by omega
  have f1 := from_tx hz 1
  have f1 : sliceD (.str (tx t)) (some 1) none = some (.d (.str (tx (t.drop 1)))) := f1
  have it := items_tx (l := t.drop 1) (by simp; omega)
  have first := r_first n (t := t) hb ht.h0
  rw [run_places_by, ← sat_iff, finish_sat]
  simp [ir_places_by, first, -List.drop_one, f1, it]
  obtain ⟨J, hJ⟩ := opq (fun (k : Nat) (f : F) => ∃ a, f = ⟨[.d (.str (tx b)), .d (.str (tx t)), .d (.tuple (nI (plc b.length fun q => mt b t q (k + 1)))), a], []⟩)
  refine for_idx _ J _ ?_ ?_ ?_
  · rw [hJ]; exact ⟨_, rfl⟩
  · rintro k hk f hf
    rw [hJ] at hf
    obtain ⟨a, rfl⟩ := hf
    have hk2 : k + 1 < t.length := by simp at hk; omega
    have hc : t[k + 1]? = some t[k + 1] := List.getElem?_eq_getElem hk2
    have e0 : ((t.map ch).drop 1)[k] = ch t[k + 1] := by simp [Nat.add_comm]
    rw [e0]
    have led := r_led n hb hc (sg_ne (ht.s _ (List.getElem_mem hk2))).2
    have nxt : J (k + 1) ⟨[.d (.str (tx b)), .d (.str (tx t)), .d (.tuple (nI (plc b.length fun q => mt b t q (k + 1 + 1)))), .d (ch t[k + 1])], []⟩ := by rw [hJ]; exact ⟨_, rfl⟩
    clear hJ
    simp [led]
    exact nxt
  · rintro f hf
    rw [hJ] at hf
    obtain ⟨a, rfl⟩ := hf
    rw [show ((t.map ch).drop 1).length + 1 = t.length by simp; omega]
    simp
theorem plc_mem (m q : Nat) (S : Nat → Bool) (hq : q ≤ m) : memD (.int (q : Int)) (.tuple (nI (plc m S))) = some (S q) := by
  show (if (flatD (.int (q : Int)) && (nI (plc m S)).all flatD) = true then some ((nI (plc m S)).any fun y => eqF y (.int (q : Int))) else none) = _
  rw [if_pos (by simp [flatD])]
  congr 1
  rw [Bool.eq_iff_iff, List.any_eq_true]
  constructor
  · rintro ⟨y, h1, h2⟩
    obtain ⟨i, hi, rfl⟩ := List.mem_map.mp h1
    have h3 : (i : Int) = (q : Int) := by simpa [eqF] using h2
    have : i = q := by omega
    subst this
    exact (mem_plc.mp hi).2
  · intro h
    exact ⟨.int (q : Int), List.mem_map.mpr ⟨q, mem_plc.mpr ⟨hq, h⟩, rfl⟩, by simp [eqF]⟩
theorem bdy_of {p m : List Nat} (h : Shp p m) : Bdy (bdyP p) := by
  obtain ⟨q, e, _, h2⟩ := bd_of h
  rw [e]
  exact ⟨rfl, by simp; omega⟩
def fit (b t : List Nat) : Bool := mt b t b.length t.length
theorem r_does_meet (n : Nat) {p m t : List Nat} (h : Shp p m) (ht : Pth t) : runD dfs (n + 4) i_does_meet [.d (.str (tx p)), .d (.str (tx t))] = .ok (.d (.bool (fit (bdyP p) t)), []) := by
  have hb := bdy_of h
  have e1 := r_body_by (n + 2) h
  have e2 := r_places_by n hb ht
  have sz : szB (bdyP p).length = true := szB_of (by have := hb.n; omega)
  have pm := plc_mem (bdyP p).length (bdyP p).length (fun q => mt (bdyP p) t q t.length) (Nat.le_refl _)
  rw [run_does_meet]
  simp [ir_does_meet, e1, e2, sz, pm, fit]
theorem r_check_pattern (n : Nat) {p m : List Nat} (h : Shp p m) : runD dfs (n + 3) i_check_pattern [.d (.str (tx p))] = .ok (.d .none, []) := by
  rw [run_check_pattern]
  simp [ir_check_pattern, r_is_some_pattern n h]
theorem r_check_path (n : Nat) {t : List Nat} (h : Pth t) : runD dfs (n + 2) i_check_path [.d (.str (tx t))] = .ok (.d .none, []) := by
  rw [run_check_path]
  simp [ir_check_path, r_is_path n h]
theorem r_meets (n : Nat) {p m t : List Nat} (h : Shp p m) (ht : Pth t) : runD dfs (n + 5) i_meets [.d (.str (tx p)), .d (.str (tx t))] = .ok (.d (.bool (fit (bdyP p) t)), []) := by
  rw [run_meets]
  simp [ir_meets, r_check_pattern (n + 1) h, r_check_path (n + 2) ht, r_does_meet n h ht]
/-- a row of the table -/
abbrev rw' (b t : List Nat) (k n : Nat) : List D := (List.range n).map fun j => PyData.bool (mt b t k j)
theorem row0 (b t : List Nat) (n : Nat) : rw' b t 0 (n + 1) = .bool true :: List.replicate n (.bool false) := by
  show (List.range (n + 1)).map (fun j => PyData.bool (mt b t 0 j)) = _
  rw [List.range_succ_eq_map, List.map_cons, List.map_map, mt_00]
  congr 1
  rw [List.eq_replicate_iff]
  refine ⟨by simp, fun x hx => ?_⟩
  obtain ⟨j, _, rfl⟩ := List.mem_map.mp hx
  show PyData.bool (mt b t 0 (j + 1)) = _
  rw [mt_0s]
theorem row_at (b t : List Nat) (k n j : Nat) (h : j < n) : (rw' b t k n)[j]? = some (.bool (mt b t k j)) := by
  simp [h]
theorem row_snoc (b t : List Nat) (k n : Nat) : rw' b t k (n + 1) = rw' b t k n ++ [.bool (mt b t k n)] := by
  show (List.range (n + 1)).map _ = _
  rw [List.range_succ, List.map_append]; rfl
theorem obs {α β : Type} (x : α) (g : α → Option β) : (some x).bind g = g x := nr rfl
abbrev inB : List Sm := [Sm.ex (Ex.mu Mu.append (Ex.v 4) [(Ex.op Op.eq [Ex.v 3, Ex.k (PyData.str (tx [42]))]).ife ((Ex.op Op.item [Ex.v 2, Ex.op Op.add [Ex.v 5, Ex.k (PyData.int 1)]]).or (Ex.op Op.item [Ex.v 4, Ex.v 5])) ((Ex.op Op.item [Ex.v 2, Ex.v 5]).and (Ex.op Op.eq [Ex.v 3, Ex.v 6]))])]
theorem inner_loop (n : Nat) {b t : List Nat} {k c : Nat} {R : List D} {x : LV} (hzt : t.length ≤ 1000) (hbk : b[k]? = some c) (rj : ∀ j, j ≤ t.length → R[j]? = some (.bool (mt b t k j)))
    (hx : x = LV.own (.lst R) ∨ x = LV.d (.list R)) (a3 a4 : LV) (Q : Po)
    (hQ : ∀ a3 a4, Q.nx ⟨[.d (.str (tx b)), .d (.str (tx t)), x, .d (ch c), .own (.lst (rw' b t (k + 1) (t.length + 1))), a3, a4], []⟩) :
    (forLoop (xSs (runD dfs n) inB) (.tup [.name 5, .name 6]) (enumL 0 (t.map ch)) ⟨[.d (.str (tx b)), .d (.str (tx t)), x, .d (ch c), .own (.lst (rw' b t (k + 1) 1)), a3, a4], []⟩).Sat Q := by
  obtain ⟨J2, hJ2⟩ := opq (fun (j : Nat) (f : F) => ∃ a3 a4, f = ⟨[.d (.str (tx b)), .d (.str (tx t)), x, .d (ch c), .own (.lst (rw' b t (k + 1) (j + 1))), a3, a4], []⟩)
  refine for_idx _ J2 _ ?_ ?_ ?_
  · rw [hJ2]; exact ⟨_, _, rfl⟩
  · rintro j hj f hf
    rw [hJ2] at hf
    obtain ⟨a3, a4, rfl⟩ := hf
    have hj2 : j < t.length := by simpa using hj
    have e0 : (enumL 0 (t.map ch))[j] = .tuple [.int (j : Int), ch t[j]] := by rw [enumL_at]; simp
    have etj : t[j]? = some t[j] := List.getElem?_eq_getElem hj2
    rw [e0]
    have r1 := rj (j + 1) (by omega)
    have r2 := rj j (by omega)
    have r1 : L2.atI R ((j : Int) + 1) = some (.bool (mt b t k (j + 1))) := by rw [show ((j : Int) + 1) = ((j + 1 : Nat) : Int) by omega, atI_nat]; exact r1
    have r3 : L2.atI (rw' b t (k + 1) (j + 1)) (j : Int) = some (.bool (mt b t (k + 1) j)) := by rw [atI_nat]; exact row_at _ _ _ _ _ (by omega)
    have r2 : L2.atI R (j : Int) = some (.bool (mt b t k j)) := by rw [atI_nat]; exact r2
    have sl : szL (rw' b t (k + 1) (j + 1)).length = true := szL_of (by simp; omega)
    have nxt : ∀ v, v = mt b t (k + 1) (j + 1) → J2 (j + 1) ⟨[.d (.str (tx b)), .d (.str (tx t)), x, .d (ch c), .own (.lst (rw' b t (k + 1) (j + 1) ++ [.bool v])), .d (.int (j : Int)), .d (ch t[j])], []⟩ := fun v hv => by
      rw [hJ2]
      exact ⟨.d (.int (j : Int)), .d (ch t[j]), by rw [row_snoc b t (k + 1) (j + 1), hv]⟩
    clear hJ2
    rw [mt_ss, hbk, etj] at nxt
    generalize rw' b t (k + 1) (j + 1) = R2 at *
    generalize t[j] = d at *
    by_cases h : c = 42
    · subst h
      rw [if_pos rfl] at nxt
      cases h1 : mt b t k (j + 1) with
      | true =>
        rw [h1] at r1 nxt
        have nx := nxt true (by simp)
        rcases hx with rfl | rfl <;> simp [-atI_nat, r1, r3, sl] <;> exact nx
      | false =>
        rw [h1] at r1 nxt
        have nx := nxt (mt b t (k + 1) j) (by simp)
        rcases hx with rfl | rfl <;> simp [-atI_nat, r1, r3, sl] <;> exact nx
    · rw [if_neg (by simpa using h)] at nxt
      cases h1 : mt b t k j with
      | true =>
        rw [h1] at r2 nxt
        have nx := nxt (c == d) (by by_cases hd : c = d <;> simp [hd])
        rcases hx with rfl | rfl <;> simp [-atI_nat, r2, sl, h] <;> exact nx
      | false =>
        rw [h1] at r2 nxt
        have nx := nxt false (by simp)
        rcases hx with rfl | rfl <;> simp [-atI_nat, r2, sl, h] <;> exact nx
  · rintro f hf
    rw [hJ2, enumL_length, List.length_map] at hf
    obtain ⟨a3, a4, rfl⟩ := hf
    exact hQ a3 a4
theorem fits_loop (n : Nat) {b t : List Nat} (hb : b.length ≤ 1000) (ht : t.length ≤ 1000) (Q : Po)
    (hQ : ∀ x a1 a2 a3 a4, (x = LV.own (.lst (rw' b t b.length (t.length + 1))) ∨ x = LV.d (.list (rw' b t b.length (t.length + 1)))) → Q.nx ⟨[.d (.str (tx b)), .d (.str (tx t)), x, a1, a2, a3, a4], []⟩) :
    (forLoop (xSs (runD dfs n) (forB ir__law_fits 1)) (.name 3) (b.map ch) ⟨[.d (.str (tx b)), .d (.str (tx t)), .own (.lst (rw' b t 0 (t.length + 1))), .no, .no, .no, .no], []⟩).Sat Q := by
  have hzt : t.length ≤ 16777216 := by omega
  obtain ⟨J, hJ⟩ := opq (fun (k : Nat) (f : F) => ∃ x a1 a2 a3 a4, (x = LV.own (.lst (rw' b t k (t.length + 1))) ∨ x = LV.d (.list (rw' b t k (t.length + 1)))) ∧ f = ⟨[.d (.str (tx b)), .d (.str (tx t)), x, a1, a2, a3, a4], []⟩)
  refine for_idx _ J _ ?_ ?_ ?_
  · rw [hJ]; exact ⟨_, _, _, _, _, .inl rfl, rfl⟩
  · rintro k hk f hf
    rw [hJ] at hf
    obtain ⟨x, a1, a2, a3, a4, hx, rfl⟩ := hf
    have hk2 : k < b.length := by simpa using hk
    have e0 : (b.map ch)[k] = ch b[k] := by simp
    have hbk : b[k]? = some b[k] := List.getElem?_eq_getElem hk2
    rw [e0]
    obtain ⟨c, ec⟩ : ∃ c, b[k] = c := ⟨_, rfl⟩
    rw [ec] at hbk ⊢
    have nxt : ∀ a1 a3 a4 y, J (k + 1) ⟨[.d (.str (tx b)), .d (.str (tx t)), .d (.list (rw' b t (k + 1) (t.length + 1))), a1, y, a3, a4], []⟩ := fun a1 a3 a4 y => by rw [hJ]; exact ⟨_, _, _, _, _, .inr rfl, rfl⟩
    clear hJ
    have kn2 : ∀ f : F, kN2 (.str (tx t), f) = .ok (enumL 0 (t.map ch), f) := fun f => (kN2_str (s := tx t) (f := f) (by rw [tx_len]; exact hzt)).trans (by rw [signs_tx])
    have r00 : (rw' b t k (t.length + 1))[0]? = some (.bool (mt b t k 0)) := row_at _ _ _ _ _ (by omega)
    have rj : ∀ j, j ≤ t.length → (rw' b t k (t.length + 1))[j]? = some (.bool (mt b t k j)) := fun j hj => row_at _ _ _ _ _ (by omega)
    have s10 : mt b t (k + 1) 0 = (mt b t k 0 && decide (c = 42)) := by rw [mt_s0, hbk, Bool.and_comm]; simp
    have one : rw' b t (k + 1) 1 = [.bool (mt b t (k + 1) 0)] := rfl
    obtain ⟨R, hR⟩ : ∃ R, R = rw' b t k (t.length + 1) := ⟨_, rfl⟩
    rw [← hR] at hx r00 rj
    have s10' : (if mt b t k 0 = true then c == 42 else mt b t k 0) = mt b t (k + 1) 0 := by
      rw [s10]
      cases mt b t k 0
      · rfl
      · by_cases h : c = 42 <;> simp [h]
    have main := inner_loop n ht hbk rj hx a3 a4
    rw [one] at main
    rcases hx with rfl | rfl
    · have main := main { nx := kOn (xSs (runD dfs n) [Sm.asg (Tg.name 2) (Ex.v 4)]) { nx := J (k + 1), rt := Q.rt, bk := Q.nx, ct := J (k + 1) }, rt := Q.rt, bk := Q.nx, ct := J (k + 1) } (fun a3 a4 => by
        have := nxt (.d (ch c)) a3 a4
        simp
        exact this _)
      simp [forB, ir__law_fits, r00, c_star, kn2, s10']
      exact main
    · have main := main { nx := kOn (xSs (runD dfs n) [Sm.asg (Tg.name 2) (Ex.v 4)]) { nx := J (k + 1), rt := Q.rt, bk := Q.nx, ct := J (k + 1) }, rt := Q.rt, bk := Q.nx, ct := J (k + 1) } (fun a3 a4 => by
        have := nxt (.d (ch c)) a3 a4
        simp
        exact this _)
      simp [forB, ir__law_fits, r00, c_star, kn2, s10']
      exact main
  · rintro f hf
    rw [hJ] at hf
    obtain ⟨x, a1, a2, a3, a4, hx, rfl⟩ := hf
    rw [show (b.map ch).length = b.length by simp] at hx
    exact hQ x a1 a2 a3 a4 hx
theorem r_law_fits (n : Nat) {b t : List Nat} (hb : b.length ≤ 1000) (ht : t.length ≤ 1000) : runD dfs (n + 1) i__law_fits [.d (.str (tx b)), .d (.str (tx t))] = .ok (.d (.bool (fit b t)), []) := by
  have hzb : b.length ≤ 16777216 := by omega
  have hzt : t.length ≤ 16777216 := by omega
  have sz : szB t.length = true := szB_of (by omega)
  have sz1 : szB (t.length + 1) = true := szB_of (by omega)
  have sz2 : szB (1 + t.length) = true := szB_of (by omega)
  have ib := items_tx hzb
  have rm : runMul (.list [.bool false]) (.int (t.length : Int)) = some (.fr (.lst (List.replicate t.length (.bool false)))) := by
    rw [runMul_list, if_pos (mulB_of (by omega) (by omega) (by simp; omega)), Int.toNat_natCast]
    congr 3
    induction t.length with
    | zero => rfl
    | succ m ih => rw [List.replicate_succ, List.flatten_cons, ih]; rfl
  rw [run__law_fits, ← sat_iff, finish_sat]
  simp [-Option.bind_some, -runMul_list, obs, ir__law_fits, sz, sz1, sz2, rm, ib]
  have l := fits_loop n hb ht
  rw [row0] at l
  refine l _ ?_
  intro x a1 a2 a3 a4 hx
  have ra := row_at b t b.length (t.length + 1) t.length (by omega)
  rcases hx with rfl | rfl
  · simp [sz, ra, fit, -List.getElem?_map, -List.map_map]
  · simp [sz, ra, fit, -List.getElem?_map, -List.map_map]
theorem rangeL_nat (m : Nat) : rangeL 0 (m : Int) = (List.range m).map fun i : Nat => PyData.int (i : Int) := by simp [rangeL]
/-- data, the well, and a list that came by reference -/
def GivesL (ds : List D) (Q : D → Prop) (p : RR × List SV) : Prop := ∃ x w, Q x ∧ IsW w ∧ p = (.d x, [.own w, .own (.lst ds)])
theorem r_one_l (n : Nat) (w : Ob) (hw : IsW w) (ds : List D) (h1 : 0 < ds.length) (h2 : ds.length < 1073741824) :
    (runD dfs (n + 2) i__law_one [.r w, .r (.lst ds)]).Sat (GivesL ds fun x => x ∈ ds) := by
  rw [run__law_one, finish_sat]
  simp [ir__law_one]
  refine (r_pick n w hw ds.length (by omega) (by omega)).mono ?_
  rintro _ ⟨_, w', ⟨r, rfl, h3, h4⟩, h5, rfl⟩
  obtain ⟨x, e⟩ : ∃ x, ds[r.toNat]? = some x := ⟨_, List.getElem?_eq_getElem (by omega)⟩
  simp [atI_pos h3, e]
  exact ⟨_, _, List.mem_of_getElem? e, h5, rfl⟩
theorem r_one_s (n : Nat) (w : Ob) (hw : IsW w) (l : List Nat) (h1 : 0 < l.length) (h2 : l.length < 1000) :
    (runD dfs (n + 2) i__law_one [.r w, .d (.str (tx l))]).Sat (Gives fun x => ∃ c ∈ l, x = ch c) := by
  have sz : szB l.length = true := szB_of (by omega)
  rw [run__law_one, finish_sat]
  simp [ir__law_one, sz]
  refine (r_pick n w hw l.length (by omega) (by omega)).mono ?_
  rintro _ ⟨_, w', ⟨r, rfl, h3, h4⟩, h5, rfl⟩
  obtain ⟨x, e⟩ : ∃ x, l[r.toNat]? = some x := ⟨_, List.getElem?_eq_getElem (by omega)⟩
  have it := item_tx (l := l) (by omega) r
  rw [atI_pos h3, e] at it
  simp [it]
  exact ⟨_, _, ⟨x, List.mem_of_getElem? e, rfl⟩, h5, rfl⟩
theorem r_signs (n : Nat) : runD dfs (n + 1) i__law_signs [] = .ok (.d (.str (tx SG)), []) := by
  rw [run__law_signs]
  simp [ir__law_signs, c_signs]
/-- signs to draw from -/
structure Alp (ds : List D) : Prop where
  s : ∀ x ∈ ds, ∃ c ∈ SG, x = ch c
  p : 0 < ds.length
  n : ds.length ≤ 10
def GivesA (p : RR × List SV) : Prop := ∃ ds w, Alp ds ∧ IsW w ∧ p = (.fr (.lst ds), [.own w])
theorem r_alphabet (n : Nat) (w : Ob) (hw : IsW w) : (runD dfs (n + 3) i__law_alphabet [.r w]).Sat GivesA := by
  rw [run__law_alphabet, finish_sat]
  simp [-Option.bind_some, obs, ir__law_alphabet, r_signs]
  refine (r_pick (n + 1) w hw 2 (by omega) (by omega)).mono ?_
  rintro _ ⟨_, w1, ⟨r, rfl, h3, h4⟩, hw1, rfl⟩
  have hok : okR 0 (2 + r) = true := okR_of (by omega) (by omega) (by omega) (by omega) (by omega)
  simp [-Option.bind_some, obs, hok]
  refine lc_idx _ (fun j acc f => (∃ w, IsW w ∧ f = ⟨[.c 0, .no], [.own w]⟩) ∧ acc.length = j ∧ ∀ x ∈ acc, ∃ c ∈ SG, x = ch c) _ ⟨⟨w1, hw1, rfl⟩, rfl, by simp⟩ ?_ ?_
  · rintro j hj acc f ⟨⟨w, hw, rfl⟩, rfl, hs⟩
    have hj2 : acc.length < (2 + r).toNat := by simpa [rangeL] using hj
    simp [-Option.bind_some, obs, r_signs]
    refine (r_one_s n w hw SG (by decide) (by decide)).mono ?_
    rintro _ ⟨_, w2, ⟨c, hc, rfl⟩, hw2, rfl⟩
    simp [-Option.bind_some, obs]
    refine ⟨by omega, hw2, fun x hx => ?_⟩
    rcases hx with h | rfl
    · exact hs x h
    · exact ⟨c, hc, rfl⟩
  · rintro acc f ⟨⟨w, hw, rfl⟩, hl, hs⟩
    have hl2 : acc.length ≤ 3 ∧ 2 ≤ acc.length := by rw [hl]; simp [rangeL]; omega
    simp [-Option.bind_some, obs]
    refine (r_pick (n + 1) w hw 2 (by omega) (by omega)).mono ?_
    rintro _ ⟨_, w2, ⟨r2, rfl, h5, h6⟩, hw2, rfl⟩
    have rm0 : runMul (.list [.str (tx [47])]) (.int 0) = some (.fr (.lst [])) := by
      rw [runMul_list, if_pos (mulB_of (by omega) (by omega) (by simp))]; rfl
    have rm1 : runMul (.list [.str (tx [47])]) (.int 1) = some (.fr (.lst [.str (tx [47])])) := by
      rw [runMul_list, if_pos (mulB_of (by omega) (by omega) (by simp))]; rfl
    have sz0 : szB acc.length = true := szB_of (by omega)
    have sz1 : szB (acc.length + 1) = true := szB_of (by omega)
    have r01 : r2 = 0 ∨ r2 = 1 := by omega
    rcases r01 with rfl | rfl
    · simp [-Option.bind_some, -runMul_list, obs, c_slash, rm0, sz0]
      exact ⟨acc, w2, ⟨hs, by omega, by omega⟩, hw2, rfl⟩
    · simp [-Option.bind_some, -runMul_list, obs, c_slash, rm1, sz1]
      refine ⟨acc ++ [.str (tx [47])], w2, ⟨fun x hx => ?_, by simp, by simp; omega⟩, hw2, rfl⟩
      rcases List.mem_append.mp hx with h | h
      · exact hs x h
      · exact ⟨47, by decide, List.mem_singleton.mp h⟩
def GivesP (ds : List D) (Q : List Nat → Prop) (p : RR × List SV) : Prop := ∃ l w, Q l ∧ IsW w ∧ p = (.d (.str (tx l)), [.own w, .own (.lst ds)])
theorem r_some_pattern (n : Nat) (w : Ob) (hw : IsW w) {ds : List D} (ha : Alp ds) (st : Int) (top : Nat) (ht : top ≤ 10) :
    (runD dfs (n + 3) i__law_some_pattern [.r w, .r (.lst ds), .d (.int st), .d (.int (top : Int))]).Sat (GivesP ds fun p => ∃ m, Shp p m) := by
  have dn := ha.n
  have dp := ha.p
  rw [run__law_some_pattern, finish_sat]
  simp [ir__law_some_pattern]
  refine (r_pick (n + 1) w hw ((top : Int) + 1) (by omega) (by omega)).mono ?_
  rintro _ ⟨_, w1, ⟨r, rfl, h3, h4⟩, hw1, rfl⟩
  obtain ⟨r, rfl⟩ : ∃ q : Nat, r = (q : Int) := ⟨r.toNat, by omega⟩
  have hok : okR 0 (r : Int) = true := okR_of (by omega) (by omega) (by omega) (by omega) (by omega)
  simp [hok]
  obtain ⟨J, hJ⟩ := opq (fun (j : Nat) (f : F) => ∃ (w : Ob) (m : List Nat) (a : LV) (left : Int), IsW w ∧ (∀ c ∈ m, c ∈ SG ∨ c = 42) ∧ m.length = j ∧ f = ⟨[.c 0, .c 1, .d (.int st), .d (.int (top : Int)), a, .d (.str (tx (47 :: m))), .d (.int left)], [.own w, .own (.lst ds)]⟩)
  rw [c_slash, rangeL_nat]
  refine for_idx _ J _ ?_ ?_ ?_
  · rw [hJ]; exact ⟨_, [], _, _, hw1, by simp, rfl, rfl⟩
  · rintro j hj f hf
    rw [hJ] at hf
    obtain ⟨w, m, a, left, hw, hm, hl, rfl⟩ := hf
    rw [List.length_map, List.length_range] at hj
    have nxt : ∀ w2 c left a, IsW w2 → (c ∈ SG ∨ c = 42) → J (j + 1) ⟨[.c 0, .c 1, .d (.int st), .d (.int (top : Int)), a, .d (.str (tx (47 :: (m ++ [c])))), .d (.int left)], [.own w2, .own (.lst ds)]⟩ := fun w2 c left a h2 hc => by
      rw [hJ]
      refine ⟨_, m ++ [c], _, _, h2, fun x hx => ?_, by simp [hl], rfl⟩
      rcases List.mem_append.mp hx with h | h
      · exact hm x h
      · rw [List.mem_singleton] at h; subst h; exact hc
    clear hJ
    have sz : szB (m.length + 1 + 1) = true := szB_of (by omega)
    have draw : ∀ (w : Ob), IsW w → (runD dfs (n + 2) i__law_one [.r w, .r (.lst ds)]).Sat (GivesL ds fun x => ∃ c ∈ SG, x = ch c) := fun w hw => by
      refine (r_one_l n w hw ds dp (by omega)).mono ?_
      rintro _ ⟨x, w2, hx, hw2, rfl⟩
      exact ⟨x, w2, ha.s x hx, hw2, rfl⟩
    by_cases hz : 0 < left
    · simp [hz]
      refine (r_pick (n + 1) w hw 3 (by omega) (by omega)).mono ?_
      rintro _ ⟨_, w2, ⟨u, rfl, u1, u2⟩, hw2, rfl⟩
      by_cases hu : u = 0
      · subst hu
        simp [c_star, sz]
        exact nxt _ _ _ _ hw2 (.inr rfl)
      · simp [hu]
        refine (draw w2 hw2).mono ?_
        rintro _ ⟨_, w3, ⟨c, hc, rfl⟩, hw3, rfl⟩
        simp [sz]
        exact nxt _ _ _ _ hw3 (.inl hc)
    · simp [hz]
      refine (draw w hw).mono ?_
      rintro _ ⟨_, w3, ⟨c, hc, rfl⟩, hw3, rfl⟩
      simp [sz]
      exact nxt _ _ _ _ hw3 (.inl hc)
  · rintro f hf
    rw [hJ] at hf
    obtain ⟨w, m, a, left, hw, hm, hl, rfl⟩ := hf
    clear hJ
    rw [List.length_map, List.length_range] at hl
    have mid : Mid m := ⟨hm, by omega⟩
    have sz : szB (m.length + 1 + 1) = true := szB_of (by omega)
    simp
    refine (r_pick (n + 1) w hw 3 (by omega) (by omega)).mono ?_
    rintro _ ⟨_, w2, ⟨u, rfl, u1, u2⟩, hw2, rfl⟩
    by_cases hu : u = 0
    · subst hu
      simp [c_doll, sz]
      exact ⟨_, w2, ⟨m, mid, .inr rfl⟩, hw2, rfl⟩
    · simp [hu]
      exact ⟨_, w2, ⟨m, mid, .inl rfl⟩, hw2, rfl⟩
theorem r_some_path (n : Nat) (w : Ob) (hw : IsW w) {ds : List D} (ha : Alp ds) {p m : List Nat} (hp : Shp p m) :
    (runD dfs (n + 3) i__law_some_path [.r w, .r (.lst ds), .d (.str (tx p))]).Sat (GivesP ds fun l => Pth l ∧ l.length ≤ 100) := by
  have dn := ha.n
  have dp := ha.p
  have eb := r_law_body (n + 1) hp
  obtain ⟨q, eq, hq, lq⟩ := bd_of hp
  rw [eq] at eb
  have ib := items_tx (l := 47 :: q) (by simp; omega)
  have draw : ∀ (w : Ob), IsW w → (runD dfs (n + 2) i__law_one [.r w, .r (.lst ds)]).Sat (GivesL ds fun x => ∃ c ∈ SG, x = ch c) := fun w hw => by
    refine (r_one_l n w hw ds dp (by omega)).mono ?_
    rintro _ ⟨x, w2, hx, hw2, rfl⟩
    exact ⟨x, w2, ha.s x hx, hw2, rfl⟩
  rw [run__law_some_path, finish_sat]
  simp [ir__law_some_path, eb, ib, -List.map_cons]
  rw [c_nil]
  obtain ⟨J, hJ⟩ := opq (fun (j : Nat) (f : F) => ∃ (w : Ob) (l : List Nat) (a b : LV), IsW w ∧ (j = 0 → l = []) ∧ (1 ≤ j → l.head? = some 47) ∧ (∀ c ∈ l, c ∈ SG) ∧ l.length ≤ 3 * j ∧ f = ⟨[.c 0, .c 1, .d (.str (tx p)), .d (.str (tx l)), a, .no, b], [.own w, .own (.lst ds)]⟩)
  refine for_idx _ J _ ?_ ?_ ?_
  · rw [hJ]; exact ⟨_, [], _, _, hw, fun _ => rfl, fun h => (by omega), by simp, by simp, rfl⟩
  · rintro j hj f hf
    rw [hJ] at hf
    obtain ⟨w, l, a, b, hw, h0, h1, hs, hl, rfl⟩ := hf
    have hj2 : j < (47 :: q).length := by simpa using hj
    have hj3 : j < 12 := by simp at hj2; omega
    have e0 : ((47 :: q).map ch)[j] = ch (47 :: q)[j] := by rw [List.getElem_map]
    rw [e0]
    have sz1 : ∀ k, k ≤ 100 → szB k = true := fun k hk => szB_of (by omega)
    by_cases hc : (47 :: q)[j] = 42
    · have j1 : 1 ≤ j := by
        rcases Nat.eq_zero_or_pos j with z | z
        · subst z; simp at hc
        · exact z
      have h1 := h1 j1
      have nxt : ∀ w l a b, IsW w → l.head? = some 47 → (∀ c ∈ l, c ∈ SG) → l.length ≤ 3 * (j + 1) → J (j + 1) ⟨[.c 0, .c 1, .d (.str (tx p)), .d (.str (tx l)), a, .no, b], [.own w, .own (.lst ds)]⟩ := fun w l a b h2 h3 h4 h5 => by
        rw [hJ]; exact ⟨_, _, _, _, h2, fun z => (by omega), fun _ => h3, h4, h5, rfl⟩
      clear hJ
      rw [hc]
      simp [c_star]
      refine (r_one n w hw _ _ (.inl rfl) (by simp) (by simp)).mono ?_
      rintro _ ⟨u, w2, hu, hw2, rfl⟩
      obtain ⟨r, rfl, hr⟩ : ∃ r : Nat, u = .int (r : Int) ∧ r ≤ 3 := by
        simp at hu
        rcases hu with rfl | rfl | rfl | rfl
        · exact ⟨0, rfl, by omega⟩
        · exact ⟨1, rfl, by omega⟩
        · exact ⟨2, rfl, by omega⟩
        · exact ⟨3, rfl, by omega⟩
      have hok : okR 0 (r : Int) = true := okR_of (by omega) (by omega) (by omega) (by omega) (by omega)
      simp [hok]
      rw [rangeL_nat]
      obtain ⟨J2, hJ2⟩ := opq (fun (i : Nat) (f : F) => ∃ (w : Ob) (l' : List Nat) (b : LV), IsW w ∧ l'.head? = some 47 ∧ (∀ c ∈ l', c ∈ SG) ∧ l'.length = l.length + i ∧ f = ⟨[.c 0, .c 1, .d (.str (tx p)), .d (.str (tx l')), .d (ch 42), .no, b], [.own w, .own (.lst ds)]⟩)
      refine for_idx _ J2 _ ?_ ?_ ?_
      · rw [hJ2]; exact ⟨_, _, _, hw2, h1, hs, rfl, rfl⟩
      · rintro i hi f hf
        rw [hJ2] at hf
        obtain ⟨w, l', b, hw, g1, g2, g3, rfl⟩ := hf
        rw [List.length_map, List.length_range] at hi
        have nx2 : ∀ w c b, IsW w → c ∈ SG → J2 (i + 1) ⟨[.c 0, .c 1, .d (.str (tx p)), .d (.str (tx (l' ++ [c]))), .d (ch 42), .no, b], [.own w, .own (.lst ds)]⟩ := fun w c b k1 k2 => by
          rw [hJ2]
          refine ⟨_, _, _, k1, ?_, fun x hx => ?_, by simp; omega, rfl⟩
          · cases l' with
            | nil => cases g1
            | cons a r => exact g1
          · rcases List.mem_append.mp hx with h | h
            · exact g2 x h
            · rw [List.mem_singleton] at h; subst h; exact k2
        clear hJ2
        have sz := sz1 (l'.length + 1) (by omega)
        simp
        refine (draw w hw).mono ?_
        rintro _ ⟨_, w3, ⟨c, hc, rfl⟩, hw3, rfl⟩
        simp [sz]
        exact nx2 _ _ _ hw3 hc
      · rintro f hf
        rw [hJ2] at hf
        obtain ⟨w, l', b, hw, g1, g2, g3, rfl⟩ := hf
        rw [List.length_map, List.length_range] at g3
        simp
        exact nxt _ _ _ _ hw g1 g2 (by omega)
    · have hcs : (47 :: q)[j] ∈ SG := by
        have := List.getElem_mem hj2
        rcases List.mem_cons.mp this with e | e
        · rw [e]; decide
        · rcases hq _ e with h | h
          · exact h
          · exact absurd h hc
      have nxt : ∀ a, J (j + 1) ⟨[.c 0, .c 1, .d (.str (tx p)), .d (.str (tx (l ++ [(47 :: q)[j]]))), a, .no, b], [.own w, .own (.lst ds)]⟩ := fun a => by
        rw [hJ]
        refine ⟨_, _, _, _, hw, fun z => (by omega), fun _ => ?_, fun x hx => ?_, by simp; omega, rfl⟩
        · rcases Nat.eq_zero_or_pos j with z | z
          · subst z
            rw [h0 rfl]; rfl
          · have := h1 z
            cases l with
            | nil => cases this
            | cons a r => exact this
        · rcases List.mem_append.mp hx with h | h
          · exact hs x h
          · rw [List.mem_singleton] at h; subst h; exact hcs
      clear hJ
      have sz := sz1 (l.length + 1) (by omega)
      generalize (47 :: q)[j] = c at *
      simp [c_star, hc, sz]
      exact nxt _
  · rintro f hf
    rw [hJ] at hf
    obtain ⟨w, l, a, b, hw, h0, h1, hs, hl, rfl⟩ := hf
    clear hJ
    have hlen : ((47 :: q).map ch).length ≤ 12 := by simp; omega
    have h1 := h1 (by simp)
    have hl2 : l.length ≤ 36 := by omega
    have lp : 1 ≤ l.length := by
      cases l with
      | nil => cases h1
      | cons a r => simp
    have sz := szB_of (n := l.length) (by omega)
    have hz : l.length ≤ 16777216 := by omega
    simp [sz]
    refine (r_pick (n + 1) w hw l.length (by omega) (by omega)).mono ?_
    rintro _ ⟨_, w2, ⟨r, rfl, h3, h4⟩, hw2, rfl⟩
    obtain ⟨r, rfl⟩ : ∃ q : Nat, r = (q : Int) := ⟨r.toNat, by omega⟩
    have whole : Pth l ∧ l.length ≤ 100 := ⟨⟨h1, hs, by omega⟩, by omega⟩
    by_cases hr : 0 < r
    · simp [hr]
      refine (r_pick (n + 1) w2 hw2 3 (by omega) (by omega)).mono ?_
      rintro _ ⟨_, w3, ⟨u, rfl, u1, u2⟩, hw3, rfl⟩
      by_cases hu : u = 0
      · subst hu
        have t1 := to_tx hz r
        have t2 := from_tx hz (r + 1)
        have t2 : sliceD (.str (tx l)) (some ((r : Int) + 1)) none = some (.d (.str (tx (l.drop (r + 1))))) := t2
        simp [t1, r_signs]
        refine (r_one_s n w3 hw3 SG (by decide) (by decide)).mono ?_
        rintro _ ⟨_, w4, ⟨c, hc, rfl⟩, hw4, rfl⟩
        have lt : (l.take r).length = r := by rw [List.length_take]; omega
        have ld := List.length_drop (i := r + 1) (l := l)
        have z1 : szB ((l.take r).length + 1) = true := szB_of (by omega)
        have z2 : szB ((l.take r).length + 1 + (l.drop (r + 1)).length) = true := szB_of (by omega)
        have z3 : szB ((l.take r).length + (1 + (l.drop (r + 1)).length)) = true := szB_of (by omega)
        have fin : Pth (l.take r ++ c :: l.drop (r + 1)) ∧ (l.take r ++ c :: l.drop (r + 1)).length ≤ 100 := by
          refine ⟨⟨?_, fun x hx => ?_, by simp; omega⟩, by simp; omega⟩
          · cases l with
            | nil => cases h1
            | cons a t =>
              cases r with
              | zero => omega
              | succ r => exact h1
          · rcases List.mem_append.mp hx with h | h
            · exact hs x (List.mem_of_mem_take h)
            · rcases List.mem_cons.mp h with rfl | h
              · exact hc
              · exact hs x (List.mem_of_mem_drop h)
        generalize hA : l.take r = A at *
        generalize hB : l.drop (r + 1) = B at *
        simp [t2, z1, z2, z3]
        exact ⟨_, w4, fin, hw4, rfl⟩
      · simp [hu]
        exact ⟨_, w3, whole, hw3, rfl⟩
    · have hr0 : r = 0 := by omega
      subst hr0
      simp
      exact ⟨_, w2, whole, hw2, rfl⟩
theorem mt_app {b t s : List Nat} : ∀ k j, j ≤ t.length → mt b (t ++ s) k j = mt b t k j
  | 0, 0, _ => by rw [mt_00, mt_00]
  | 0, j + 1, _ => by rw [mt_0s, mt_0s]
  | k + 1, 0, h => by rw [mt_s0, mt_s0, mt_app k 0 h]
  | k + 1, j + 1, h => by
    rw [mt_ss, mt_ss, mt_app k (j + 1) h, mt_app (k + 1) j (by omega), mt_app k j (by omega), List.getElem?_append_left (by omega)]
termination_by k j => (k, j)
theorem mt_star {b t : List Nat} {k : Nat} (hb : b[k]? = some 42) {j : Nat} (h : mt b t (k + 1) j = true) : ∀ i, mt b t (k + 1) (j + i) = true
  | 0 => h
  | i + 1 => by
    rw [show j + (i + 1) = (j + i) + 1 by omega, mt_ss, if_pos hb, mt_star hb h i, Bool.or_true]
theorem fit_star {b t s : List Nat} (h : fit (b ++ [42]) t = true) : fit (b ++ [42]) (t ++ s) = true := by
  unfold fit at h ⊢
  rw [List.length_append, List.length_append, List.length_singleton]
  rw [List.length_append, List.length_singleton] at h
  refine mt_star (by simp) ?_ _
  rw [mt_app _ _ (Nat.le_refl _)]
  exact h
theorem mt_plain {b t : List Nat} (hb : ∀ i : Nat, b[i]? ≠ some 42) : ∀ k j, k ≤ b.length → (mt b t k j = true ↔ k = j ∧ ∀ i, i < k → b[i]? = t[i]?)
  | 0, 0, _ => by rw [mt_00]; simp
  | 0, j + 1, _ => by rw [mt_0s]; simp
  | k + 1, 0, h => by
    rw [mt_s0, decide_eq_false (hb k)]
    simp
  | k + 1, j + 1, h => by
    rw [mt_ss, if_neg (hb k), Bool.and_eq_true, decide_eq_true_eq, mt_plain hb k j (by omega)]
    constructor
    · rintro ⟨⟨rfl, h1⟩, h2⟩
      refine ⟨rfl, fun i hi => ?_⟩
      rcases Nat.lt_or_ge i k with z | z
      · exact h1 i z
      · obtain rfl : i = k := by omega
        exact h2
    · rintro ⟨h1, h2⟩
      obtain rfl : k = j := by omega
      exact ⟨⟨rfl, fun i hi => h2 i (by omega)⟩, h2 k (by omega)⟩
theorem fit_plain {b t : List Nat} (hb : 42 ∉ b) : fit b t = (t == b) := by
  rw [Bool.eq_iff_iff, beq_iff_eq]
  unfold fit
  rw [mt_plain (fun i h => hb (List.mem_of_getElem? h)) _ _ (Nat.le_refl _)]
  constructor
  · rintro ⟨h1, h2⟩
    refine (List.ext_getElem? fun i => ?_)
    rcases Nat.lt_or_ge i b.length with z | z
    · exact (h2 i z).symm
    · rw [List.getElem?_eq_none z, List.getElem?_eq_none (by omega)]
  · rintro rfl
    exact ⟨rfl, fun _ _ => rfl⟩
theorem cnt_ge (c : Nat) : ∀ l : List Nat, 0 ≤ PyProof.Rows.cnt c l ∧ (c ∈ l → 1 ≤ PyProof.Rows.cnt c l)
  | [] => ⟨by rw [PyProof.Rows.cnt_nil]; omega, fun h => by cases h⟩
  | n :: r => by
    have := cnt_ge c r
    rw [PyProof.Rows.cnt_cons]
    refine ⟨by split <;> omega, fun h => ?_⟩
    rcases List.mem_cons.mp h with rfl | h
    · rw [if_pos rfl]; omega
    · have := this.2 h
      split <;> omega
theorem scnt (p : List Nat) : ∃ N : Int, runScnt (.str (tx p)) (.str (tx [42])) = some (.d (.int N)) ∧ (N = 0 → 42 ∉ p) := by
  refine ⟨_, rfl, fun h hm => ?_⟩
  have e : ((Builtin.Str.occurrences (tx p) (tx [42]) 0 (tx p).length ((tx p).length + 1)).length : Int) = PyProof.Rows.cnt 42 (tx p).cps.toList := by
    have := PyProof.Rows.count_is (tx p) 42
    rw [tx_def [42]]
    exact this
  have h : ((Builtin.Str.occurrences (tx p) (tx [42]) 0 (tx p).length ((tx p).length + 1)).length : Int) = 0 := h
  rw [e, tx_tl] at h
  have := (cnt_ge 42 p).2 hm
  omega
end T
set_option maxRecDepth 100000
set_option maxHeartbeats 1000000
namespace T
open PySem PySem.Spec Vm Pol
theorem mt_take {b t : List Nat} {m : Nat} : ∀ k j, k ≤ m → mt (b.take m) t k j = mt b t k j
  | 0, 0, _ => by rw [mt_00, mt_00]
  | 0, j + 1, _ => by rw [mt_0s, mt_0s]
  | k + 1, 0, h => by rw [mt_s0, mt_s0, mt_take k 0 (by omega), List.getElem?_take_of_lt (by omega)]
  | k + 1, j + 1, h => by
    rw [mt_ss, mt_ss, mt_take k (j + 1) (by omega), mt_take (k + 1) j h, mt_take k j (by omega), List.getElem?_take_of_lt (by omega)]
termination_by k j => (k, j)
theorem fit_take {b t : List Nat} {k : Nat} (hk : k ≤ b.length) : fit (b.take k) t = mt b t k t.length := by
  unfold fit
  rw [List.length_take, Nat.min_eq_left hk, mt_take k _ (Nat.le_refl _)]
/-- the places of a body and a path -/
abbrev dueD (b t : List Nat) : D := .tuple (nI (plc b.length fun k => mt b t k t.length))
theorem r_due (n : Nat) {b t : List Nat} (hb : b.length ≤ 12) (ht : t.length ≤ 1000) : runD dfs (n + 2) i__law_due_places [.d (.str (tx b)), .d (.str (tx t))] = .ok (.d (dueD b t), []) := by
  have sz : szB b.length = true := szB_of (by omega)
  have hz : b.length ≤ 16777216 := by omega
  have hok : okR 0 ((b.length : Int) + 1) = true := okR_of (by omega) (by omega) (by omega) (by omega) (by omega)
  have er : rangeL 0 ((b.length : Int) + 1) = (List.range (b.length + 1)).map fun i : Nat => PyData.int (i : Int) := rangeL_nat (b.length + 1)
  have hc : ∀ f : F, f = ⟨[.d (.str (tx b)), .d (.str (tx t)), .no], []⟩ → lcLoop (evT (runD dfs (n + 1)) [.call i__law_fits [.op (.slice false true) [.v 0, .v 2], .v 1]]) (evE (runD dfs (n + 1)) (.v 2)) (.name 2) [2] ((List.range (b.length + 1)).map fun i : Nat => PyData.int (i : Int)) [] f
      = .ok (nI (plc b.length fun k => mt b t k t.length), f) := by
    rintro f rfl
    refine lc_pure (fun i : Nat => PyData.int (i : Int)) (fun k => mt b t k t.length) (fun i : Nat => PyData.int (i : Int)) _ _ (by simp; omega) ?_
    intro k hk
    rw [List.mem_range] at hk
    have e := r_law_fits n (b := b.take k) (t := t) (by simp; omega) ht
    rw [fit_take (by omega)] at e
    have s := to_tx hz k
    simp [s, e]
  rw [run__law_due_places]
  simp [ir__law_due_places, sz, hok, er, hc]
theorem r_places (n : Nat) {p m t : List Nat} (h : Shp p m) (ht : Pth t) : runD dfs (n + 5) i_places [.d (.str (tx p)), .d (.str (tx t))] = .ok (.d (dueD (bdyP p) t), []) := by
  rw [run_places]
  simp [ir_places, r_check_pattern (n + 1) h, r_check_path (n + 2) ht, r_body_by (n + 3) h, r_places_by (n + 1) (bdy_of h) ht]
theorem r_next (n : Nat) {p m t : List Nat} {c : Nat} (h : Shp p m) (hc : c ≠ 42) : runD dfs (n + 4) i_next_places [.d (.str (tx p)), .d (dueD (bdyP p) t), .d (ch c)] = .ok (.d (dueD (bdyP p) (t ++ [c])), []) := by
  have e : dueD (bdyP p) t = .tuple (nI (plc (bdyP p).length fun q => mt (bdyP p) (t ++ [c]) q t.length)) := by
    show PyData.tuple _ = PyData.tuple _
    congr 2
    show (List.range _).filter _ = (List.range _).filter _
    congr 1
    funext q
    exact (mt_app q _ (Nat.le_refl _)).symm
  have l := r_led (n + 1) (t := t ++ [c]) (j := t.length) (c := c) (bdy_of h) (by simp) hc
  rw [← e] at l
  rw [run_next_places]
  have e2 : dueD (bdyP p) (t ++ [c]) = .tuple (nI (plc (bdyP p).length fun q => mt (bdyP p) (t ++ [c]) q (t.length + 1))) := by
    show PyData.tuple (nI (plc (bdyP p).length fun q => mt (bdyP p) (t ++ [c]) q (t ++ [c]).length)) = _
    rw [List.length_append, List.length_singleton]
  rw [e2]
  simp [ir_next_places, r_check_pattern n h, r_body_by (n + 2) h, l]
theorem mt_far {b t : List Nat} {c d : Nat} (hc : c ∉ b) (hd : d ∉ b) : ∀ k j, j ≤ t.length + 1 → mt b (t ++ [c]) k j = mt b (t ++ [d]) k j
  | 0, 0, _ => by rw [mt_00, mt_00]
  | 0, j + 1, _ => by rw [mt_0s, mt_0s]
  | k + 1, 0, h => by rw [mt_s0, mt_s0, mt_far hc hd k 0 (by omega)]
  | k + 1, j + 1, h => by
    rw [mt_ss, mt_ss, mt_far hc hd k (j + 1) h, mt_far hc hd (k + 1) j (by omega), mt_far hc hd k j (by omega)]
    rcases Nat.lt_or_ge j t.length with z | z
    · rw [List.getElem?_append_left z, List.getElem?_append_left z]
    · obtain rfl : j = t.length := by omega
      have e1 : ∀ x : Nat, x ∉ b → decide (b[k]? = some x) = false := fun x hx => decide_eq_false fun q => hx (List.mem_of_getElem? q)
      rw [List.getElem?_concat_length, List.getElem?_concat_length, e1 c hc, e1 d hd]
termination_by k j => (k, j)
theorem due_far {b t : List Nat} {c d : Nat} (hc : c ∉ b) (hd : d ∉ b) : dueD b (t ++ [c]) = dueD b (t ++ [d]) := by
  show PyData.tuple _ = PyData.tuple _
  congr 2
  show (List.range _).filter _ = (List.range _).filter _
  congr 1
  funext q
  rw [List.length_append, List.length_append, List.length_singleton, List.length_singleton]
  exact mt_far hc hd q _ (Nat.le_refl _)
end T
set_option maxRecDepth 100000
set_option maxHeartbeats 1000000
namespace T
open PySem PySem.Spec Vm Pol
theorem strOk_app (a b : Str) : PyData.strOk (a ++ b) = (PyData.strOk a && PyData.strOk b) := by
  show (a.cps ++ b.cps).all (· < 0x110000) = (a.cps.all (· < 0x110000) && b.cps.all (· < 0x110000))
  rw [Array.all_append]
theorem chr_lt (c : Char) : c.toNat < 1114112 := by
  have := c.valid
  rcases this with h | h
  · have : c.toNat < 55296 := h
    omega
  · exact h.2
theorem strOk_nat (n : Nat) : PyData.strOk (PyData.shown (.int (n : Int))) = true := by
  show PyData.strOk (Str.ofString (toString ((n : Nat) : Int))) = true
  rw [SX.num_S]
  show (SX.S (TL.numL n)).cps.all (· < 0x110000) = true
  rw [← Array.all_toList, List.all_eq_true]
  intro c hc
  obtain ⟨d, _, rfl⟩ := List.mem_map.mp hc
  exact decide_eq_true (chr_lt d)
theorem strOk_join {sep : Str} (h : PyData.strOk sep = true) : ∀ ts : List Str, (∀ t ∈ ts, PyData.strOk t = true) → PyData.strOk (Str.join sep ts) = true := by
  intro ts
  induction ts with
  | nil => intro _; show PyData.strOk Str.empty = true; decide +kernel
  | cons x r ih =>
    intro hx
    cases r with
    | nil => exact hx x (List.mem_cons_self ..)
    | cons y r =>
      show PyData.strOk (x ++ sep ++ Str.join sep (y :: r)) = true
      rw [strOk_app, strOk_app, hx x (List.mem_cons_self ..), h, ih fun t ht => hx t (List.mem_cons_of_mem _ ht)]
      rfl
theorem shownAll_map (ds : List D) : PyData.shownAll ds = ds.map PyData.shown := by
  induction ds with
  | nil => simp [PyData.shownAll]
  | cons d ds ih => simp [PyData.shownAll, ih]
theorem strOk_due (ps : List Nat) : PyData.strOk (PyData.shown (.tuple (nI ps))) = true := by
  have e : PyData.shown (.tuple (nI ps)) = tupleText (PyData.shownAll (nI ps)) := by simp only [PyData.shown]
  rw [e]
  unfold tupleText
  rw [strOk_app, strOk_app, strOk_join (by decide +kernel), Bool.and_true]
  · split <;> decide +kernel
  · intro t ht
    rw [shownAll_map] at ht
    obtain ⟨d, hd, rfl⟩ := List.mem_map.mp ht
    obtain ⟨i, _, rfl⟩ := List.mem_map.mp hd
    exact strOk_nat i
end T
set_option maxRecDepth 100000
set_option maxHeartbeats 1000000
namespace T
open PySem PySem.Spec Vm Pol
theorem RX_plc (b t : List Nat) (hb : b.length ≤ 12) : RX (dueD b t) 10000 1 := by
  have hl := plc_len (n := b.length) (S := fun k => mt b t k t.length)
  have hi : ∀ i ∈ plc b.length (fun k => mt b t k t.length), RX (PyData.int ((i : Nat) : Int)) 400 0 := fun i hi => by
    have h1 : i ≤ b.length := (mem_plc.mp hi).1
    exact RX.int (Nat.lt_of_le_of_lt (show ((i : Nat) : Int).natAbs ≤ 12 by rw [Int.natAbs_natCast]; omega) (by decide +kernel))
  have hm := RX.tuple (RXs.map hi)
  refine hm.mono ?_ (Nat.le_refl _)
  have : (plc b.length fun k => mt b t k t.length).length * (400 + 1) ≤ 13 * 401 := Nat.mul_le_mul_right _ (by omega)
  omega
theorem rp (b t : List Nat) (hb : b.length ≤ 12) : runRepr (dueD b t) = some (.d (.str (dueD b t).shown)) := (RX_plc b t hb).repr (by omega) (by omega)
theorem Pth.take {t : List Nat} (h : Pth t) {k : Nat} : Pth (t.take (k + 1)) := by
  refine ⟨?_, fun c hc => h.s c (List.mem_of_mem_take hc), by have := h.n; rw [List.length_take]; omega⟩
  have := h.h
  cases t with
  | nil => cases this
  | cons a r => exact this
theorem rangeL_1 (m : Nat) : rangeL 1 ((m : Int) + 1) = (List.range m).map fun i : Nat => PyData.int (1 + (i : Int)) := by
  unfold rangeL
  rw [show ((m : Int) + 1 - 1).toNat = m by omega]
/-- the places known ahead of a turn -/
def hereD (b t : List Nat) : Nat → D
  | 0 => .tuple []
  | k + 1 => dueD b (t.take (k + 1))
theorem walk_loop (n : Nat) {p m t : List Nat} (h : Shp p m) (ht : Pth t) (Q : Po)
    (hQ : ∀ a c, Q.nx ⟨[.d (.str (tx p)), .d (.str (tx t)), a, .no, .no, .no, .d (.str (tx (bdyP p))), .d (hereD (bdyP p) t t.length), c, .no], []⟩) :
    (forLoop (xSs (runD dfs (n + 6)) (forB ir__law_walk_right 1)) (.name 2) ((List.range t.length).map fun i : Nat => PyData.int (1 + (i : Int))) ⟨[.d (.str (tx p)), .d (.str (tx t)), .no, .no, .no, .no, .d (.str (tx (bdyP p))), .d (.tuple []), .no, .no], []⟩).Sat Q := by
  have hb := bdy_of h
  have tn := ht.n
  have hz : t.length ≤ 16777216 := by omega
  have szb : szB (bdyP p).length = true := szB_of (by have := hb.n; omega)
  obtain ⟨J, hJ⟩ := opq (fun (k : Nat) (f : F) => ∃ a c, f = ⟨[.d (.str (tx p)), .d (.str (tx t)), a, .no, .no, .no, .d (.str (tx (bdyP p))), .d (hereD (bdyP p) t k), c, .no], []⟩)
  refine for_idx _ J _ ?_ ?_ ?_
  · rw [hJ]; exact ⟨_, _, rfl⟩
  · rintro k hk f hf
    rw [hJ] at hf
    obtain ⟨a, c, rfl⟩ := hf
    rw [List.length_map, List.length_range] at hk
    have e0 : ((List.range t.length).map fun i : Nat => PyData.int (1 + (i : Int)))[k]'(by simpa using hk) = .int (1 + (k : Int)) := by simp
    rw [e0]
    have nxt : ∀ a c, J (k + 1) ⟨[.d (.str (tx p)), .d (.str (tx t)), a, .no, .no, .no, .d (.str (tx (bdyP p))), .d (dueD (bdyP p) (t.take (k + 1))), c, .no], []⟩ := fun a c => by rw [hJ]; exact ⟨_, _, rfl⟩
    clear hJ
    have pu := ht.take (k := k)
    have un := pu.n
    have s1 : sliceD (.str (tx t)) none (some (1 + (k : Int))) = some (.d (.str (tx (t.take (k + 1))))) := by
      have := to_tx hz (k + 1)
      rw [show ((k + 1 : Nat) : Int) = 1 + (k : Int) by omega] at this
      exact this
    have it : itemD (.str (tx t)) (.int (1 + (k : Int) - 1)) = some (ch t[k]) := by
      have := item_tx hz (k : Int)
      rw [atI_nat, List.getElem?_eq_getElem hk] at this
      rw [show 1 + (k : Int) - 1 = (k : Int) by omega]
      exact this
    have d1 := r_due (n + 4) hb.n (t := t.take (k + 1)) un
    have d2 := r_places (n + 1) h pu
    have d3 := r_meets (n + 1) h pu
    have rd := rp (bdyP p) (t.take (k + 1)) hb.n
    have pm := plc_mem (bdyP p).length (bdyP p).length (fun q => mt (bdyP p) (t.take (k + 1)) q (t.take (k + 1)).length) (Nat.le_refl _)
    have rb : ∀ b, runRepr (.bool b) = some (.d (.str (PyData.bool b).shown)) := fun b => (RX.bool (b := b)).repr (by omega) (by omega)
    have nd : norm (dueD (bdyP p) (t.take (k + 1))) = dueD (bdyP p) (t.take (k + 1)) := rfl
    have fe : fit (bdyP p) (t.take (k + 1)) = mt (bdyP p) (t.take (k + 1)) (bdyP p).length (t.take (k + 1)).length := rfl
    rw [fe] at d3
    have pm2 : memD (.int ((bdyP p).length : Int)) (dueD (bdyP p) (t.take (k + 1))) = some (mt (bdyP p) (t.take (k + 1)) (bdyP p).length (t.take (k + 1)).length) := pm
    cases k with
    | zero =>
      generalize dueD (bdyP p) (t.take (0 + 1)) = dd at *
      simp at s1
      simp [forB, ir__law_walk_right, hereD, s1, d1, d2, d3, rd, nd, szb, pm2, rb]
      exact nxt _ _
    | succ k =>
      have d4 := r_next (n + 2) h (t := t.take (k + 1)) (c := t[k + 1]) (sg_ne (ht.s _ (List.getElem_mem hk))).2
      rw [show t.take (k + 1) ++ [t[k + 1]] = t.take (k + 1 + 1) from (List.take_succ_eq_append_getElem hk).symm] at d4
      have hgt : (1 : Int) < 1 + ((k : Int) + 1) := by omega
      have it2 : itemD (.str (tx t)) (.int (1 + ((k : Int) + 1) - 1)) = some (ch t[k + 1]) := it
      simp only [hereD]
      have nh : norm (dueD (bdyP p) (t.take (k + 1))) = dueD (bdyP p) (t.take (k + 1)) := rfl
      generalize dueD (bdyP p) (t.take (k + 1 + 1)) = dd at *
      generalize dueD (bdyP p) (t.take (k + 1)) = d0 at *
      simp at s1
      simp [forB, ir__law_walk_right, s1, d1, d2, d3, d4, rd, nd, nh, szb, pm2, rb, hgt, it2]
      exact nxt _ _
  · rintro f hf
    rw [hJ, List.length_map, List.length_range] at hf
    obtain ⟨a, c, rfl⟩ := hf
    exact hQ a c
end T
set_option maxRecDepth 100000
set_option maxHeartbeats 1000000
namespace T
open PySem PySem.Spec Vm Pol
theorem oth_pos {p : List Nat} (hp : p.length ≤ 12) : 1 ≤ (SG.filter fun c => !decide (c ∈ p)).length := by
  have h1 : (SG.filter fun c => decide (c ∈ p)).length ≤ p.length :=
    List.Nodup.length_le_of_subset (List.Pairwise.filter _ (by decide)) fun c hc => of_decide_eq_true (List.mem_filter.mp hc).2
  have h2 : SG.length = (SG.filter fun c => decide (c ∈ p)).length + (SG.filter fun c => !decide (c ∈ p)).length := by
    have : ∀ l : List Nat, l.length = (l.filter fun c => decide (c ∈ p)).length + (l.filter fun c => !decide (c ∈ p)).length := fun l => by
      induction l with
      | nil => rfl
      | cons x l ih => by_cases hx : x ∈ p <;> simp [hx] <;> omega
    exact this SG
  have h3 : SG.length = 40 := rfl
  omega
theorem sg_bdy {p m : List Nat} (h : Shp p m) {c : Nat} (hs : c ∈ SG) (hc : c ∉ p) : c ∉ bdyP p := by
  obtain ⟨hm, rfl | rfl⟩ := h
  · obtain ⟨e, e1, e2⟩ := last_ne hm
    unfold bdyP
    rw [e1, if_neg (by simpa using e2)]
    intro q
    rcases List.mem_append.mp q with q | q
    · exact hc q
    · rw [List.mem_singleton] at q; exact (sg_ne hs).2 q
  · intro q
    unfold bdyP at q
    split at q
    · exact hc ((List.dropLast_sublist _).subset q)
    · rcases List.mem_append.mp q with q | q
      · exact hc q
      · rw [List.mem_singleton] at q; exact (sg_ne hs).2 q
theorem r_walk_right (n : Nat) {p m t : List Nat} (h : Shp p m) (ht : Pth t) (tl : t.length ≤ 100) : runD dfs (n + 7) i__law_walk_right [.d (.str (tx p)), .d (.str (tx t))] = .ok (.d (.bool true), []) := by
  have hb := bdy_of h
  have pl := h.len
  have tp := ht.pos
  have hz : t.length ≤ 16777216 := by omega
  have szt : szB t.length = true := szB_of (by omega)
  have szt1 : szB (t.length + 1) = true := szB_of (by omega)
  have e1 := r_law_body (n + 5) h
  have hok : okR 1 ((t.length : Int) + 1) = true := okR_of (by omega) (by omega) (by omega) (by omega) (by omega)
  have iSG := items_tx (l := SG) (by decide)
  have here : hereD (bdyP p) t t.length = dueD (bdyP p) t := by
    obtain ⟨k, e⟩ : ∃ k, t.length = k + 1 := ⟨t.length - 1, by omega⟩
    rw [e]
    show dueD (bdyP p) (t.take (k + 1)) = _
    rw [← e, List.take_length]
  rw [run__law_walk_right, ← sat_iff, finish_sat]
  simp [ir__law_walk_right, e1, szt, hok, rangeL_1]
  refine walk_loop n h ht _ ?_
  intro a c
  rw [here]
  have op := oth_pos (p := p) (by omega)
  have om : ∀ x ∈ SG.filter (fun c => !decide (c ∈ p)), x ∈ SG ∧ x ∉ bdyP p := fun x hx => by
    obtain ⟨h1, h2⟩ := List.mem_filter.mp hx
    exact ⟨h1, sg_bdy h h1 (by simpa using h2)⟩
  have lo : ∀ a c, lcLoop (evT (runD dfs (n + 6)) [.op .nmem [.v 9, .v 0]]) (evE (runD dfs (n + 6)) (.v 9)) (.name 9) [9] (SG.map ch) [] ⟨[.d (.str (tx p)), .d (.str (tx t)), a, .no, .no, .no, .d (.str (tx (bdyP p))), .d (dueD (bdyP p) t), c, .no], []⟩
      = .ok ((SG.filter fun c => !decide (c ∈ p)).map ch, ⟨[.d (.str (tx p)), .d (.str (tx t)), a, .no, .no, .no, .d (.str (tx (bdyP p))), .d (dueD (bdyP p) t), c, .no], []⟩) := fun a c => by
    refine lc_pure ch (fun c => !decide (c ∈ p)) ch SG _ (by decide) ?_
    intro x hx
    have mm := mem_tx x p
    simp [mm]
  generalize (SG.filter fun c => !decide (c ∈ p)) = O at *
  have lo2 := lo a c
  clear lo
  obtain ⟨o0, h0⟩ : ∃ x, O[0]? = some x := ⟨_, List.getElem?_eq_getElem (by omega)⟩
  obtain ⟨oh, hh⟩ : ∃ x, O[O.length / 2]? = some x := ⟨_, List.getElem?_eq_getElem (by omega)⟩
  obtain ⟨ol, hl⟩ : ∃ x, O.getLast? = some x := ⟨_, List.getLast?_eq_some_getLast (by rintro rfl; simp at op)⟩
  have m0 := om o0 (List.mem_of_getElem? h0)
  have mh := om oh (List.mem_of_getElem? hh)
  have ml := om ol (List.mem_of_getLast? hl)
  have ah : L2.atI (O.map ch) ((O.length : Int) / 2) = some (ch oh) := by
    rw [show (O.length : Int) / 2 = ((O.length / 2 : Nat) : Int) by omega, atI_nat, List.getElem?_map, hh]; rfl
  have bn := hb.n
  have n0 := r_next (n + 2) h (t := t) (c := o0) (sg_ne m0.1).2
  have nh := r_next (n + 2) h (t := t) (c := oh) (sg_ne mh.1).2
  have nl := r_next (n + 2) h (t := t) (c := ol) (sg_ne ml.1).2
  rw [due_far mh.2 m0.2] at nh
  rw [due_far ml.2 m0.2] at nl
  have d0 := r_due (n + 4) hb.n (t := t ++ [o0]) (by simp; omega)
  obtain ⟨la, hla⟩ : ∃ x, t.getLast? = some x := ⟨_, List.getLast?_eq_some_getLast (by rintro rfl; simp at tp)⟩
  have las := ht.s la (List.mem_of_getLast? hla)
  have n9 := r_next (n + 2) h (t := t) (c := la) (sg_ne las).2
  have d9 := r_due (n + 4) hb.n (t := t ++ [la]) (by simp; omega)
  have il := item_tx hz (-1)
  rw [atI_last, hla] at il
  have r0 := rp (bdyP p) (t ++ [o0]) hb.n
  have r9 := rp (bdyP p) (t ++ [la]) hb.n
  have ok0 : PyData.strOk (dueD (bdyP p) (t ++ [o0])).shown = true := strOk_due _
  have nd0 : norm (dueD (bdyP p) (t ++ [o0])) = dueD (bdyP p) (t ++ [o0]) := rfl
  have nd9 : norm (dueD (bdyP p) (t ++ [la])) = dueD (bdyP p) (t ++ [la]) := rfl
  have ndt : norm (dueD (bdyP p) t) = dueD (bdyP p) t := rfl
  generalize dueD (bdyP p) (t ++ [o0]) = D0 at *
  generalize dueD (bdyP p) (t ++ [la]) = D9 at *
  generalize dueD (bdyP p) t = DT at *
  generalize D0.shown = S at *
  have lay : PyData.canLay0 (.list [.str S, .str S, .str S]) = true := by simp [PyData.canLay0, PyData.canLayAll0, ok0]
  have req : runEq true (.list [.str S, .str S, .str S]) (.list [.str S, .str S, .str S]) = some (.d (.bool false)) := by
    have sh : SeqAt.shaped (.list [.str S, .str S, .str S]) = true := by
      show (PyData.canLay0 _ && decide (PyData.depth _ ≤ 64)) = true
      rw [lay]
      simp [PyData.depth, PyData.depthAll]
    unfold runEq
    rw [if_pos (by rw [sh]; simp), eqv_self _ lay]
    rfl
  have rm : runMul (.list [.str S]) (.int 3) = some (.fr (.lst [.str S, .str S, .str S])) := by
    rw [runMul_list, if_pos (mulB_of (by omega) (by omega) (by simp))]; rfl
  have far : ∀ f : F, f = ⟨[.d (.str (tx p)), .d (.str (tx t)), a, .own (.lst (O.map ch)), .no, .no, .d (.str (tx (bdyP p))), .d DT, c, .no], []⟩ →
      lcLoop (evT (runD dfs (n + 6)) []) (evE (runD dfs (n + 6)) (Ex.op Op.repr [Ex.call i_next_places [Ex.v 0, Ex.v 7, Ex.v 9]])) (Tg.name 9) [9] [PyData.str (tx [o0]), PyData.str (tx [oh]), PyData.str (tx [ol])] [] f = .ok ([.str S, .str S, .str S], f) := by
    rintro f rfl
    have := lc_pure (T := evT (runD dfs (n + 6)) []) (E := evE (runD dfs (n + 6)) (Ex.op Op.repr [Ex.call i_next_places [Ex.v 0, Ex.v 7, Ex.v 9]])) (t := Tg.name 9) (own := [9]) ch (fun _ => true) (fun _ => PyData.str S) [o0, oh, ol] ⟨[.d (.str (tx p)), .d (.str (tx t)), a, .own (.lst (O.map ch)), .no, .no, .d (.str (tx (bdyP p))), .d DT, c, .no], []⟩ (by simp) (fun x hx => by
      simp at hx
      rcases hx with rfl | rfl | rfl
      · simp [n0, r0, nd0]
      · simp [nh, r0, nd0]
      · simp [nl, r0, nd0])
    simpa using this
  simp [r_signs, iSG, lo2, h0, ah, hl]
  rw [far _ rfl]
  simp [-Option.bind_some, -runMul_list, obs, h0, szt1, d0, r0, nd0, rm, req, il, n9, nd9, r9, d9, ndt]
end T
set_option maxRecDepth 100000
set_option maxHeartbeats 1000000
namespace T
open PySem PySem.Spec Vm Pol
theorem r_right (n : Nat) (w : Ob) (hw : IsW w) : (runD dfs (n + 8) i__law_right [.o w]).Sat (fun q => q = (.d (.bool true), [])) := by
  rw [run__law_right, finish_sat]
  simp [ir__law_right]
  refine (r_alphabet (n + 4) w hw).mono ?_
  rintro _ ⟨ds, w1, ha, hw1, rfl⟩
  simp
  refine (r_one (n + 5) w1 hw1 _ _ (.inl rfl) (by simp) (by simp)).mono ?_
  rintro _ ⟨u, w2, hu, hw2, rfl⟩
  obtain ⟨k, rfl⟩ : ∃ k : Int, u = .int k := by
    simp at hu
    rcases hu with rfl | rfl | rfl | rfl <;> exact ⟨_, rfl⟩
  clear hu
  simp
  refine (r_one (n + 5) w2 hw2 _ _ (.inl rfl) (by simp) (by simp)).mono ?_
  rintro _ ⟨u, w3, hu, hw3, rfl⟩
  obtain ⟨top, rfl, htop⟩ : ∃ k : Nat, u = .int (k : Int) ∧ k ≤ 10 := by
    simp at hu
    rcases hu with rfl | rfl | rfl
    · exact ⟨3, rfl, by omega⟩
    · exact ⟨6, rfl, by omega⟩
    · exact ⟨10, rfl, by omega⟩
  clear hu
  simp
  refine (r_some_pattern (n + 4) w3 hw3 ha k top htop).mono ?_
  rintro _ ⟨p, w4, ⟨m, hp⟩, hw4, rfl⟩
  simp
  refine (r_some_path (n + 4) w4 hw4 ha hp).mono ?_
  rintro _ ⟨l, w5, ⟨pl, ll⟩, hw5, rfl⟩
  have s14 : sliceD (.str (tx l)) none (some 14) = some (.d (.str (tx (l.take 14)))) := to_tx (by omega) 14
  have p14 : Pth (l.take 14) := pl.take (k := 13)
  have l14 : (l.take 14).length ≤ 14 := List.length_take_le ..
  simp [s14]
  generalize l.take 14 = t at *
  have s6 : sliceD (.str (tx t)) none (some 6) = some (.d (.str (tx (t.take 6)))) := to_tx (by omega) 6
  have p6 : Pth (t.take 6) := p14.take (k := 5)
  have l6 : (t.take 6).length ≤ 6 := List.length_take_le ..
  have a1 := r_walk_right n hp p14 (by omega)
  have sp2 := r_some_pattern (n + 4) w5 hw5 ha 2 3 (by omega)
  rw [show ((3 : Nat) : Int) = 3 from rfl] at sp2
  simp [a1]
  refine sp2.mono ?_
  rintro _ ⟨p2, w6, ⟨m2, hp2⟩, hw6, rfl⟩
  have a2 := r_walk_right n hp2 p6 (by omega)
  simp [s6, a2]
theorem r_law (n : Nat) (ns : List Int) (hl : ns.length ≤ 63) : runD dfs (n + 9) i_law [.d (.list (ns.map .int))] = .ok (.d (.bool true), []) := by
  rw [run_law, ← sat_iff, finish_sat]
  simp [ir_law]
  generalize hm : (if (if 4 < (ns.length : Int) then 4 else (ns.length : Int)) > 2 then (if 4 < (ns.length : Int) then 4 else (ns.length : Int)) else 2) = m
  have hm2 : 0 ≤ m ∧ m ≤ 4 := by rw [← hm]; split <;> split <;> omega
  have hok : okR 0 m = true := okR_of (by omega) (by omega) (by omega) (by omega) (by omega)
  simp [hok]
  refine lc_idx _ (fun j acc f => f = ⟨[.d (.list (ns.map .int)), .no], []⟩ ∧ ∃ bs : List Bool, acc = bs.map .bool ∧ bs.all id = true ∧ bs.length = j) _ ⟨rfl, [], rfl, rfl, rfl⟩ ?_ ?_
  · rintro j hj acc f ⟨rfl, bs, rfl, hb, hl⟩
    simp at hj
    simp
    refine (r_well (n + 7) ns j).mono ?_
    rintro _ ⟨w, hw, rfl⟩
    simp
    refine (r_right n w hw).mono ?_
    rintro _ rfl
    simp
    exact ⟨by omega, bs ++ [true], by simp, by simpa using hb, by simp [hl]⟩
  · rintro acc f ⟨rfl, bs, rfl, hb, hl⟩
    simp
    simpa using hb
end T
set_option maxRecDepth 100000
set_option maxHeartbeats 1000000
namespace Vm
open PySem PySem.Spec PyProof.Rows L2
/-! ### the facts of all defs of a law, put together -/
section
variable (K : PySem.W.Frag) (mg : Str → Option Value) (Γ : Gam) (defs : List Df)
def KwFact (fd : FuncData) (ps : List Str) (n : Nat) (ks : List Str) (ds : List D) (pm : List Nat) : Prop :=
  pm.length = ps.length ∧ pm.Nodup ∧ (∀ i ∈ pm, i < n + ks.length + ds.length) ∧ ∃ (zs : List V) (dus : List Value), Vals zs dus ∧ (∀ L H, RdA K L H ds zs) ∧
      ∀ (s : Shared) (us ws : List Value), K.In s.heap → us.length = n → ws.length = ks.length → BindsTo s fd ⟨us, ks.zip ws⟩ (ps.zip (permR (us ++ (ws ++ dus)) pm))
def DfFact (x : Str) (ps : List Str) (g : Nat) : Prop := ∃ f fd, mg x = some (.ref f) ∧ PySem.W.keepIn K (.ref f) = true ∧ (Γ.kwo.contains x = false → ∀ us : List Value, us.length = ps.length → bindArgs fd ⟨us, []⟩ = pure (ps.zip us)) ∧
    (∀ n ks ds pm, (x, n, ks, ds, pm) ∈ Γ.kws → KwFact K fd ps n ks ds pm) ∧ DefOk K Γ defs g f fd ps
def AllDf (P : Str → List Str → Nat → Prop) : List (Str × List Str) → Nat → Prop
  | [], _ => True
  | y :: r, n => P y.1 y.2 n ∧ AllDf P r (n + 1)
theorem allDf_at {P : Str → List Str → Nat → Prop} {x : Str} {g : Nat} {ps : List Str} : ∀ {l : List (Str × List Str)} {n : Nat}, AllDf P l n → defOf l x n = some (g, ps) → P x ps g
  | [], _, _, h => by cases h
  | y :: r, n, a, h => by
    unfold defOf at h
    split at h
    · rename_i e
      cases h
      subst e
      exact a.1
    · exact allDf_at a.2 h
def CsFact (x : Str) (d : D) : Prop := ∃ u v, mg x = some u ∧ RelV v u ∧ ∀ L H, Rd K L H d v
def AllCs (P : Str → D → Prop) : List (Str × D) → Prop
  | [] => True
  | y :: r => P y.1 y.2 ∧ AllCs P r
theorem allCs_at {P : Str → D → Prop} {x : Str} {d : D} : ∀ {l : List (Str × D)}, AllCs P l → l.lookup x = some d → P x d
  | [], _, h => by cases h
  | y :: r, a, h => by
    obtain ⟨y1, y2⟩ := y
    rw [List.lookup_cons] at h
    split at h
    · rename_i e
      cases h
      rw [beq_iff_eq.mp e]
      exact a.1
    · exact allCs_at a.2 h
def AllBs (P : Str → Prop) : List Str → Prop
  | [] => True
  | y :: r => P y ∧ AllBs P r
theorem allBs_at {P : Str → Prop} {x : Str} : ∀ {l : List Str}, AllBs P l → l.contains x = true → P x
  | [], _, h => by cases h
  | y :: r, a, h => by
    rw [List.contains_cons, Bool.or_eq_true] at h
    rcases h with h | h
    · rw [beq_iff_eq.mp h]; exact a.1
    · exact allBs_at a.2 h
theorem wok_of (h1 : AllDf (DfFact K mg Γ defs) Γ.defs 0) (h2 : AllCs (CsFact K mg) Γ.cs) (h3 : AllBs (fun x => mg x = none) Γ.bs) (h4 : XsOk Γ K mg) : WOk K mg Γ defs :=
  ⟨fun x g ps h => allDf_at h1 h, fun x d h => allCs_at h2 h, fun x h => allBs_at h3 h, h4⟩
end
section
variable {K : PySem.W.Frag} {x qual : Str} {params : Arguments} {body : List Stmt} {scope : Scope} {dvs : List V} {kws : List (Str × V)} {f : Addr} {fd : FuncData} {ps : List Str}
/-- by position, all parameters written -/
theorem bind_plain (F : FunD K x qual params body scope [] kws f fd)
    (h : ∀ (kV doc pm : Value) (an : Option Addr) (cdv ct : Value) (us : List Value), us.length = ps.length → bindArgs (PySem.W.fnOf x qual params body scope .none kV doc pm an cdv ct) ⟨us, []⟩ = pure (ps.zip us)) :
    ∀ us : List Value, us.length = ps.length → bindArgs fd ⟨us, []⟩ = pure (ps.zip us) := by
  obtain ⟨oc, od, dV, kV, doc, pm, an, cdv, ct, osl, rfl, lk, hcd, hD, hK⟩ := F.ex
  rcases hD with ⟨_, rfl⟩ | ⟨e, _⟩
  · exact h kV doc pm an cdv ct
  · exact absurd rfl e
/-- by names; nothing is left out -/
theorem bind_names (F : FunD K x qual params body scope [] kws f fd) {n : Nat} {ks : List Str} {pm : List Nat} (h0 : pm.length = ps.length ∧ pm.Nodup ∧ ∀ i ∈ pm, i < n + ks.length + 0)
    (h : ∀ (kV doc pm' : Value) (an : Option Addr) (cdv ct : Value) (us ws : List Value), us.length = n → ws.length = ks.length → bindArgs (PySem.W.fnOf x qual params body scope .none kV doc pm' an cdv ct) ⟨us, ks.zip ws⟩ = pure (ps.zip (permR (us ++ (ws ++ [])) pm))) :
    KwFact K fd ps n ks [] pm := by
  obtain ⟨oc, od, dV, kV, doc, pm', an, cdv, ct, osl, rfl, lk, hcd, hD, hK⟩ := F.ex
  rcases hD with ⟨_, rfl⟩ | ⟨e, _⟩
  · exact ⟨h0.1, h0.2.1, h0.2.2, [], [], .nil, fun _ _ => RdA.nil, fun s us ws _ h1 h2 => .of_eq (h kV doc pm' an cdv ct us ws h1 h2)⟩
  · exact absurd rfl e
/-- with parameters that go by keyword alone; those left out have defaults (ms, data ds) -/
theorem bind_kwo (F : FunD K x qual params body scope [] kws f fd) {n : Nat} {ks : List Str} {ds : List D} {pm : List Nat} (ms : List (Str × V)) (h0 : pm.length = ps.length ∧ pm.Nodup ∧ ∀ i ∈ pm, i < n + ks.length + ds.length) (hk : kws ≠ []) (hms : ∀ q ∈ ms, q ∈ kws)
    (hd : ∀ L H, RdA K L H ds (ms.map (·.2)))
    (h : ∀ (E : Addr) (doc pm' : Value) (an : Option Addr) (cdv ct : Value) (us ws mv : List Value), us.length = n → ws.length = ks.length → mv.length = ms.length →
      KwChain E ((ms.map (·.1)).zip mv) (bindArgs (PySem.W.fnOf x qual params body scope .none (.ref E) doc pm' an cdv ct) ⟨us, ks.zip ws⟩) (ps.zip (permR (us ++ (ws ++ mv)) pm))) :
    KwFact K fd ps n ks ds pm := by
  obtain ⟨oc, od, dV, kV, doc, pm', an, cdv, ct, osl, rfl, lk, hcd, hD, hK⟩ := F.ex
  rcases hD with ⟨_, rfl⟩ | ⟨e, _⟩
  · rcases hK with e | ⟨E, rfl, hq⟩
    · exact absurd e hk
    · obtain ⟨mv, hl, rk, hks⟩ := kwd_vals (ms := ms) fun q hm => hq q (hms q hm)
      exact ⟨h0.1, h0.2.1, h0.2.2, _, mv, rk, hd, fun s us ws X h1 h2 => L2.BindsTo.of_looks fun M => KwChain.looks X hks (h E doc pm' an cdv ct us ws mv h1 h2 hl)⟩
  · exact absurd rfl e
/-- positional defaults, all left out, no keyword-only ones: f(e, ..) -/
theorem bind_dfl (F : FunD K x qual params body scope dvs kws f fd) {n : Nat} {ks : List Str} {ds : List D} {pm : List Nat} (j : Nat) (h0 : pm.length = ps.length ∧ pm.Nodup ∧ ∀ i ∈ pm, i < n + ks.length + ds.length) (hn : dvs ≠ [])
    (hd : ∀ L H, RdA K L H ds (dvs.drop j))
    (h : ∀ (T : Addr) (kV doc pm' : Value) (an : Option Addr) (cdv ct : Value) (us ws its : List Value), us.length = n → ws.length = ks.length → its.length = dvs.length →
      ∃ k, bindArgs (PySem.W.fnOf x qual params body scope (.ref T) kV doc pm' an cdv ct) ⟨us, ks.zip ws⟩ = seqItems? (.ref T) >>= k ∧ k (some its.toArray) = pure (ps.zip (permR (us ++ (ws ++ its.drop j)) pm))) :
    KwFact K fd ps n ks ds pm := by
  obtain ⟨oc, od, dV, kV, doc, pm', an, cdv, ct, osl, rfl, lk, hcd, hD, hK⟩ := F.ex
  rcases hD with ⟨e, _⟩ | ⟨_, T, o, its, m, rfl, lT, oT, rT⟩
  · exact absurd e hn
  · refine ⟨h0.1, h0.2.1, h0.2.2, _, its.drop j, rT.drop j, hd, fun s us ws X h1 h2 => L2.BindsTo.of_looks fun M => ?_⟩
    obtain ⟨k, e1, e2⟩ := h T kV doc pm' an cdv ct us ws its h1 h2 rT.length.symm
    rw [e1]
    exact looks_items X lT oT (.of_pure e2)
/-- a def's calls by keyword, one by one -/
theorem kws_of {Γ : Gam} {x : Str} {P : Nat → List Str → List D → List Nat → Prop} {l : List (Str × Nat × List Str × List D × List Nat)} (e : (Γ.kws.filter fun q => decide (q.1 = x)) = l) (h : ∀ q ∈ l, P q.2.1 q.2.2.1 q.2.2.2.1 q.2.2.2.2) :
    ∀ n ks ds pm, (x, n, ks, ds, pm) ∈ Γ.kws → P n ks ds pm := by
  intro n ks ds pm hm
  have : (x, n, ks, ds, pm) ∈ l := by
    rw [← e, List.mem_filter]
    exact ⟨hm, by simp⟩
  exact h _ this
end
section
variable {K : PySem.W.Frag} {h : Heap} {mg : Str → Option Value}
theorem cs_int (X : K.In h) (G : h.Ns mainGlobals mg) {x : Str} {i : Int} (c : (He.Fa.int x i).ok K = true) : CsFact K mg x (.int i) := by
  obtain ⟨t, e⟩ := He.int_ok X G c
  exact ⟨_, .int i, e, ⟨t, rfl⟩, fun L H => rd_int⟩
theorem cs_str (X : K.In h) (G : h.Ns mainGlobals mg) {x z : Str} (c : (He.Fa.str x z).ok K = true) : CsFact K mg x (.str z) := by
  obtain ⟨t, e⟩ := He.str_ok X G c
  exact ⟨_, .str z, e, ⟨t, rfl⟩, fun L H => rd_str⟩
end
end Vm
set_option maxRecDepth 100000
set_option maxHeartbeats 1000000
namespace Vm
open PySem PySem.Spec PyProof.Rows L2
/-! ### constants of a law's top that are tuples of scalars -/
theorem rdS {K : PySem.W.Frag} {L : ASet} {H : Hp} {d : D} (h : isS d = true) : Rd K L H d (svD d) := by
  cases d with
  | none => exact rd_none
  | bool b => exact rd_bool
  | int i => exact rd_int
  | str s => exact rd_str
  | _ => cases h
theorem okA_ok {K : PySem.W.Frag} : ∀ {ds : List D} {us : List Value}, okA ds us = true → Vals (ds.map svD) us ∧ ∀ L H, RdA K L H ds (ds.map svD)
  | [], [], _ => ⟨.nil, fun _ _ => RdA.nil⟩
  | d :: ds, u :: us, h => by
    obtain ⟨h1, h2⟩ := He.ba (show (isS d && (He.relB (svD d) u && okA ds us)) = true from h)
    obtain ⟨h3, h4⟩ := He.ba h2
    obtain ⟨i1, i2⟩ := okA_ok (K := K) h4
    exact ⟨.cons (He.relB_ok h3) i1, fun L H => RdA.cons (rdS h1) (i2 L H)⟩
section
variable {K : PySem.W.Frag} {h : Heap} {mg : Str → Option Value}
theorem cs_tup (X : K.In h) (G : h.Ns mainGlobals mg) {x : Str} {ds : List D} (c : tupB K x ds = true) : CsFact K mg x (.tuple ds) := by
  unfold tupB at c
  cases e : PySem.W.nsIn K mainGlobals x with
  | none => rw [e] at c; cases c
  | some o =>
    rw [e] at c
    cases o with
    | none => cases c
    | some u =>
      have c2 : okT K ds u = true := c
      cases u with
      | ref a =>
        have c3 : (match K.lookup a with
          | some ⟨.type c, _, .seq its _, _⟩ => decide (c = "tuple") && (decide (its.size ≤ sizeLine) && okA ds its.toList)
          | _ => false) = true := c2
        split at c3
        · rename_i cl od its n sl q
          obtain ⟨g1, g2⟩ := He.ba c3
          obtain ⟨g3, g4⟩ := He.ba g2
          have g1 : cl = "tuple" := of_decide_eq_true g1
          subst g1
          obtain ⟨v1, v2⟩ := okA_ok (K := K) g4
          refine ⟨_, .ref a, PySem.W.mg_of X G e, rfl, fun L H => ?_⟩
          unfold Rd
          exact ⟨a, _, rfl, .inr ⟨_, its, n, q, rfl, rfl, of_decide_eq_true g3, v1⟩, v2 L H⟩
        · cases c3
      | _ => cases c2
end
/-! ### exception classes -/
section
variable {K : PySem.W.Frag} {h : Heap} {mg : Str → Option Value}
theorem xz_ok (X : K.In h) (G : h.Ns mainGlobals mg) {Γ : Gam} (c : xzB K (Γ.xs, Γ.xc, Γ.xm, Γ.lc) = true) : XsOk Γ K mg := by
  unfold xzB at c
  obtain ⟨c1, c2⟩ := He.ba c
  obtain ⟨c2, c3⟩ := He.ba c2
  refine ⟨fun x hx => ?_, fun x hx => ?_, fun hl => ?_⟩
  · have hm : x ∈ Γ.xs := by simpa using hx
    have b := List.all_eq_true.mp c1 x hm
    unfold excB at b
    split at b
    · rename_i C e
      obtain ⟨b1, b⟩ := He.ba b
      obtain ⟨b2, b⟩ := He.ba b
      obtain ⟨b3, b4⟩ := He.ba b
      refine ⟨C, PySem.W.mg_of X G e, b1, b2, ?_, ?_⟩
      · split at b3
        · rename_i q; rw [q, b3]
        · cases b3
      · split at b4
        · rename_i t q; rw [q, of_decide_eq_true b4]
        · cases b4
    · cases b
  · have hm : x ∈ Γ.xc := by simpa using hx
    have b := List.all_eq_true.mp c2 x hm
    unfold catB at b
    split at b
    · rename_i C e
      refine ⟨C, PySem.W.mg_of X G e, fun y cls hy hmg => ?_⟩
      have hm : y ∈ Γ.xs := by simpa using hy
      have b := List.all_eq_true.mp b y hm
      unfold mtB at b
      split at b
      · rename_i Y ey
        have e2 := PySem.W.mg_of X G ey
        rw [hmg] at e2
        cases e2
        split at b
        · rename_i b' q
          rw [q, eq_of_beq b]
          rfl
        · cases b
      · cases b
    · cases b
  · rw [hl] at c3
    have c3 : lcB K = true := c3
    unfold lcB at c3
    split at c3
    · rename_i b e
      rw [PySem.W.mg_of X G e, eq_of_beq c3]
    · cases c3
end
end Vm
set_option maxRecDepth 100000
set_option maxHeartbeats 0
namespace T
open PySem PySem.Spec PyProof.Rows L2 Vm
theorem s_is_path : FnScope ([("value" : Str), ("sign" : Str)] : List Str) ([("value" : Str)] : List Str) (sc 6) := ⟨by kernel_rfl, by kernel_rfl, by kernel_rfl, by decide +kernel, by kernel_rfl, by decide +kernel, by decide +kernel⟩
theorem s_check_path : FnScope ([("value" : Str)] : List Str) ([("value" : Str)] : List Str) (sc 8) := ⟨by kernel_rfl, by kernel_rfl, by kernel_rfl, by decide +kernel, by kernel_rfl, by decide +kernel, by decide +kernel⟩
theorem s_is_some_pattern : FnScope ([("value" : Str), ("text" : Str)] : List Str) ([("value" : Str)] : List Str) (sc 11) := ⟨by kernel_rfl, by kernel_rfl, by kernel_rfl, by decide +kernel, by kernel_rfl, by decide +kernel, by decide +kernel⟩
theorem s_body_by : FnScope ([("pattern" : Str)] : List Str) ([("pattern" : Str)] : List Str) (sc 12) := ⟨by kernel_rfl, by kernel_rfl, by kernel_rfl, by decide +kernel, by kernel_rfl, by decide +kernel, by decide +kernel⟩
theorem s_closed_places : FnScope ([("body" : Str), ("places" : Str), ("found" : Str), ("place" : Str), ("at" : Str)] : List Str) ([("body" : Str), ("places" : Str)] : List Str) (sc 13) := ⟨by kernel_rfl, by kernel_rfl, by kernel_rfl, by decide +kernel, by kernel_rfl, by decide +kernel, by decide +kernel⟩
theorem s_first_places : FnScope ([("body" : Str)] : List Str) ([("body" : Str)] : List Str) (sc 14) := ⟨by kernel_rfl, by kernel_rfl, by kernel_rfl, by decide +kernel, by kernel_rfl, by decide +kernel, by decide +kernel⟩
theorem s_led_places : FnScope ([("body" : Str), ("places" : Str), ("sign" : Str), ("found" : Str), ("place" : Str)] : List Str) ([("body" : Str), ("places" : Str), ("sign" : Str)] : List Str) (sc 15) := ⟨by kernel_rfl, by kernel_rfl, by kernel_rfl, by decide +kernel, by kernel_rfl, by decide +kernel, by decide +kernel⟩
theorem s_places_by : FnScope ([("body" : Str), ("path" : Str), ("found" : Str), ("sign" : Str)] : List Str) ([("body" : Str), ("path" : Str)] : List Str) (sc 16) := ⟨by kernel_rfl, by kernel_rfl, by kernel_rfl, by decide +kernel, by kernel_rfl, by decide +kernel, by decide +kernel⟩
theorem s_does_meet : FnScope ([("pattern" : Str), ("path" : Str), ("body" : Str)] : List Str) ([("pattern" : Str), ("path" : Str)] : List Str) (sc 17) := ⟨by kernel_rfl, by kernel_rfl, by kernel_rfl, by decide +kernel, by kernel_rfl, by decide +kernel, by decide +kernel⟩
theorem s_check_pattern : FnScope ([("value" : Str)] : List Str) ([("value" : Str)] : List Str) (sc 19) := ⟨by kernel_rfl, by kernel_rfl, by kernel_rfl, by decide +kernel, by kernel_rfl, by decide +kernel, by decide +kernel⟩
theorem s_places : FnScope ([("pattern" : Str), ("path" : Str)] : List Str) ([("pattern" : Str), ("path" : Str)] : List Str) (sc 20) := ⟨by kernel_rfl, by kernel_rfl, by kernel_rfl, by decide +kernel, by kernel_rfl, by decide +kernel, by decide +kernel⟩
theorem s_next_places : FnScope ([("pattern" : Str), ("places" : Str), ("sign" : Str)] : List Str) ([("pattern" : Str), ("places" : Str), ("sign" : Str)] : List Str) (sc 21) := ⟨by kernel_rfl, by kernel_rfl, by kernel_rfl, by decide +kernel, by kernel_rfl, by decide +kernel, by decide +kernel⟩
theorem s_meets : FnScope ([("pattern" : Str), ("path" : Str)] : List Str) ([("pattern" : Str), ("path" : Str)] : List Str) (sc 22) := ⟨by kernel_rfl, by kernel_rfl, by kernel_rfl, by decide +kernel, by kernel_rfl, by decide +kernel, by decide +kernel⟩
theorem s__law_well : FnScope ([("_law_script" : Str), ("_law_turn" : Str), ("_law_mixed" : Str), ("_law_each" : Str), ("_law_cell" : Str), ("_law_digits" : Str)] : List Str) ([("_law_script" : Str), ("_law_turn" : Str)] : List Str) (sc 24) := ⟨by kernel_rfl, by kernel_rfl, by kernel_rfl, by decide +kernel, by kernel_rfl, by decide +kernel, by decide +kernel⟩
theorem s__law_pick : FnScope ([("_law_well_here" : Str), ("_law_top" : Str), ("_law_digit" : Str)] : List Str) ([("_law_well_here" : Str), ("_law_top" : Str)] : List Str) (sc 25) := ⟨by kernel_rfl, by kernel_rfl, by kernel_rfl, by decide +kernel, by kernel_rfl, by decide +kernel, by decide +kernel⟩
theorem s__law_one : FnScope ([("_law_well_here" : Str), ("_law_some" : Str)] : List Str) ([("_law_well_here" : Str), ("_law_some" : Str)] : List Str) (sc 26) := ⟨by kernel_rfl, by kernel_rfl, by kernel_rfl, by decide +kernel, by kernel_rfl, by decide +kernel, by decide +kernel⟩
theorem s__law_signs : FnScope ([] : List Str) ([] : List Str) (sc 27) := ⟨by kernel_rfl, by kernel_rfl, by kernel_rfl, by decide +kernel, by kernel_rfl, by decide +kernel, by decide +kernel⟩
theorem s__law_alphabet : FnScope ([("_law_well_here" : Str), ("_law_turn" : Str)] : List Str) ([("_law_well_here" : Str)] : List Str) (sc 28) := ⟨by kernel_rfl, by kernel_rfl, by kernel_rfl, by decide +kernel, by kernel_rfl, by decide +kernel, by decide +kernel⟩
theorem s__law_body : FnScope ([("_law_shape" : Str)] : List Str) ([("_law_shape" : Str)] : List Str) (sc 29) := ⟨by kernel_rfl, by kernel_rfl, by kernel_rfl, by decide +kernel, by kernel_rfl, by decide +kernel, by decide +kernel⟩
theorem s__law_fits : FnScope ([("_law_body_here" : Str), ("_law_route" : Str), ("_law_row" : Str), ("_law_sign" : Str), ("_law_new" : Str), ("_law_at" : Str), ("_law_other" : Str)] : List Str) ([("_law_body_here" : Str), ("_law_route" : Str)] : List Str) (sc 30) := ⟨by kernel_rfl, by kernel_rfl, by kernel_rfl, by decide +kernel, by kernel_rfl, by decide +kernel, by decide +kernel⟩
theorem s__law_some_pattern : FnScope ([("_law_well_here" : Str), ("_law_signs_here" : Str), ("_law_stars" : Str), ("_law_top" : Str), ("_law_turn" : Str), ("_law_text" : Str), ("_law_left" : Str)] : List Str) ([("_law_well_here" : Str), ("_law_signs_here" : Str), ("_law_stars" : Str), ("_law_top" : Str)] : List Str) (sc 31) := ⟨by kernel_rfl, by kernel_rfl, by kernel_rfl, by decide +kernel, by kernel_rfl, by decide +kernel, by decide +kernel⟩
theorem s__law_some_path : FnScope ([("_law_well_here" : Str), ("_law_signs_here" : Str), ("_law_shape" : Str), ("_law_text" : Str), ("_law_sign" : Str), ("_law_at" : Str), ("_law_turn" : Str)] : List Str) ([("_law_well_here" : Str), ("_law_signs_here" : Str), ("_law_shape" : Str)] : List Str) (sc 32) := ⟨by kernel_rfl, by kernel_rfl, by kernel_rfl, by decide +kernel, by kernel_rfl, by decide +kernel, by decide +kernel⟩
theorem s__law_due_places : FnScope ([("_law_body_here" : Str), ("_law_route" : Str), ("_law_k" : Str)] : List Str) ([("_law_body_here" : Str), ("_law_route" : Str)] : List Str) (sc 33) := ⟨by kernel_rfl, by kernel_rfl, by kernel_rfl, by decide +kernel, by kernel_rfl, by decide +kernel, by decide +kernel⟩
theorem s__law_walk_right : FnScope ([("_law_shape" : Str), ("_law_route" : Str), ("_law_end" : Str), ("_law_others" : Str), ("_law_far" : Str), ("_law_last" : Str), ("_law_body_here" : Str), ("_law_here" : Str), ("_law_due" : Str), ("_law_sign" : Str)] : List Str) ([("_law_shape" : Str), ("_law_route" : Str)] : List Str) (sc 34) := ⟨by kernel_rfl, by kernel_rfl, by kernel_rfl, by decide +kernel, by kernel_rfl, by decide +kernel, by decide +kernel⟩
theorem s__law_right : FnScope ([("_law_well_here" : Str), ("_law_signs_here" : Str), ("_law_shape" : Str), ("_law_route" : Str)] : List Str) ([("_law_well_here" : Str)] : List Str) (sc 35) := ⟨by kernel_rfl, by kernel_rfl, by kernel_rfl, by decide +kernel, by kernel_rfl, by decide +kernel, by decide +kernel⟩
theorem s_law : FnScope ([("_law_script" : Str), ("_law_turn" : Str)] : List Str) ([("_law_script" : Str)] : List Str) (sc 36) := ⟨by kernel_rfl, by kernel_rfl, by kernel_rfl, by decide +kernel, by kernel_rfl, by decide +kernel, by decide +kernel⟩
section
variable {K : PySem.W.Frag} {h : Heap} {mg : Str → Option Value}
theorem f_is_path (X : K.In h) (G : h.Ns mainGlobals mg) (c : He.SaysD fa fn K) : DfFact K mg G0 dfs "is_path" ([("value" : Str)] : List Str) 0 := by
  obtain ⟨fd, F⟩ := c.def_ 0 (d := d_is_path) rfl
  refine ⟨_, fd, He.glo_ok X G (c.fact 0 (f := .glo "is_path") rfl), F.kp, fun _ => bind_plain F fun _ _ _ _ _ _ us hl => match us, hl with | [_], _ => rfl, kws_of (l := []) (by kernel_rfl) (by
    intro q hq
    cases hq), ?_⟩
  exact ⟨"is_path", "is_path", ag 6, bd 6, sc 6, _, _, ([("value" : Str), ("sign" : Str)] : List Str), ir_is_path, 80, false, false, false, F, s_is_path, irok_is_path, rfl⟩
theorem f_check_path (X : K.In h) (G : h.Ns mainGlobals mg) (c : He.SaysD fa fn K) : DfFact K mg G0 dfs "check_path" ([("value" : Str)] : List Str) 1 := by
  obtain ⟨fd, F⟩ := c.def_ 1 (d := d_check_path) rfl
  refine ⟨_, fd, He.glo_ok X G (c.fact 1 (f := .glo "check_path") rfl), F.kp, fun _ => bind_plain F fun _ _ _ _ _ _ us hl => match us, hl with | [_], _ => rfl, kws_of (l := []) (by kernel_rfl) (by
    intro q hq
    cases hq), ?_⟩
  exact ⟨"check_path", "check_path", ag 8, bd 8, sc 8, _, _, ([("value" : Str)] : List Str), ir_check_path, 80, false, false, false, F, s_check_path, irok_check_path, rfl⟩
theorem f_is_some_pattern (X : K.In h) (G : h.Ns mainGlobals mg) (c : He.SaysD fa fn K) : DfFact K mg G0 dfs "is_some_pattern" ([("value" : Str)] : List Str) 2 := by
  obtain ⟨fd, F⟩ := c.def_ 2 (d := d_is_some_pattern) rfl
  refine ⟨_, fd, He.glo_ok X G (c.fact 2 (f := .glo "is_some_pattern") rfl), F.kp, fun _ => bind_plain F fun _ _ _ _ _ _ us hl => match us, hl with | [_], _ => rfl, kws_of (l := []) (by kernel_rfl) (by
    intro q hq
    cases hq), ?_⟩
  exact ⟨"is_some_pattern", "is_some_pattern", ag 11, bd 11, sc 11, _, _, ([("value" : Str), ("text" : Str)] : List Str), ir_is_some_pattern, 80, false, false, false, F, s_is_some_pattern, irok_is_some_pattern, rfl⟩
theorem f_body_by (X : K.In h) (G : h.Ns mainGlobals mg) (c : He.SaysD fa fn K) : DfFact K mg G0 dfs "body_by" ([("pattern" : Str)] : List Str) 3 := by
  obtain ⟨fd, F⟩ := c.def_ 3 (d := d_body_by) rfl
  refine ⟨_, fd, He.glo_ok X G (c.fact 3 (f := .glo "body_by") rfl), F.kp, fun _ => bind_plain F fun _ _ _ _ _ _ us hl => match us, hl with | [_], _ => rfl, kws_of (l := []) (by kernel_rfl) (by
    intro q hq
    cases hq), ?_⟩
  exact ⟨"body_by", "body_by", ag 12, bd 12, sc 12, _, _, ([("pattern" : Str)] : List Str), ir_body_by, 80, false, false, false, F, s_body_by, irok_body_by, rfl⟩
theorem f_closed_places (X : K.In h) (G : h.Ns mainGlobals mg) (c : He.SaysD fa fn K) : DfFact K mg G0 dfs "closed_places" ([("body" : Str), ("places" : Str)] : List Str) 4 := by
  obtain ⟨fd, F⟩ := c.def_ 4 (d := d_closed_places) rfl
  refine ⟨_, fd, He.glo_ok X G (c.fact 4 (f := .glo "closed_places") rfl), F.kp, fun _ => bind_plain F fun _ _ _ _ _ _ us hl => match us, hl with | [_, _], _ => rfl, kws_of (l := []) (by kernel_rfl) (by
    intro q hq
    cases hq), ?_⟩
  exact ⟨"closed_places", "closed_places", ag 13, bd 13, sc 13, _, _, ([("body" : Str), ("places" : Str), ("found" : Str), ("place" : Str), ("at" : Str)] : List Str), ir_closed_places, 80, false, false, false, F, s_closed_places, irok_closed_places, rfl⟩
theorem f_first_places (X : K.In h) (G : h.Ns mainGlobals mg) (c : He.SaysD fa fn K) : DfFact K mg G0 dfs "first_places" ([("body" : Str)] : List Str) 5 := by
  obtain ⟨fd, F⟩ := c.def_ 5 (d := d_first_places) rfl
  refine ⟨_, fd, He.glo_ok X G (c.fact 5 (f := .glo "first_places") rfl), F.kp, fun _ => bind_plain F fun _ _ _ _ _ _ us hl => match us, hl with | [_], _ => rfl, kws_of (l := []) (by kernel_rfl) (by
    intro q hq
    cases hq), ?_⟩
  exact ⟨"first_places", "first_places", ag 14, bd 14, sc 14, _, _, ([("body" : Str)] : List Str), ir_first_places, 80, false, false, false, F, s_first_places, irok_first_places, rfl⟩
theorem f_led_places (X : K.In h) (G : h.Ns mainGlobals mg) (c : He.SaysD fa fn K) : DfFact K mg G0 dfs "led_places" ([("body" : Str), ("places" : Str), ("sign" : Str)] : List Str) 6 := by
  obtain ⟨fd, F⟩ := c.def_ 6 (d := d_led_places) rfl
  refine ⟨_, fd, He.glo_ok X G (c.fact 6 (f := .glo "led_places") rfl), F.kp, fun _ => bind_plain F fun _ _ _ _ _ _ us hl => match us, hl with | [_, _, _], _ => rfl, kws_of (l := []) (by kernel_rfl) (by
    intro q hq
    cases hq), ?_⟩
  exact ⟨"led_places", "led_places", ag 15, bd 15, sc 15, _, _, ([("body" : Str), ("places" : Str), ("sign" : Str), ("found" : Str), ("place" : Str)] : List Str), ir_led_places, 80, false, false, false, F, s_led_places, irok_led_places, rfl⟩
theorem f_places_by (X : K.In h) (G : h.Ns mainGlobals mg) (c : He.SaysD fa fn K) : DfFact K mg G0 dfs "places_by" ([("body" : Str), ("path" : Str)] : List Str) 7 := by
  obtain ⟨fd, F⟩ := c.def_ 7 (d := d_places_by) rfl
  refine ⟨_, fd, He.glo_ok X G (c.fact 7 (f := .glo "places_by") rfl), F.kp, fun _ => bind_plain F fun _ _ _ _ _ _ us hl => match us, hl with | [_, _], _ => rfl, kws_of (l := []) (by kernel_rfl) (by
    intro q hq
    cases hq), ?_⟩
  exact ⟨"places_by", "places_by", ag 16, bd 16, sc 16, _, _, ([("body" : Str), ("path" : Str), ("found" : Str), ("sign" : Str)] : List Str), ir_places_by, 80, false, false, false, F, s_places_by, irok_places_by, rfl⟩
theorem f_does_meet (X : K.In h) (G : h.Ns mainGlobals mg) (c : He.SaysD fa fn K) : DfFact K mg G0 dfs "does_meet" ([("pattern" : Str), ("path" : Str)] : List Str) 8 := by
  obtain ⟨fd, F⟩ := c.def_ 8 (d := d_does_meet) rfl
  refine ⟨_, fd, He.glo_ok X G (c.fact 8 (f := .glo "does_meet") rfl), F.kp, fun _ => bind_plain F fun _ _ _ _ _ _ us hl => match us, hl with | [_, _], _ => rfl, kws_of (l := []) (by kernel_rfl) (by
    intro q hq
    cases hq), ?_⟩
  exact ⟨"does_meet", "does_meet", ag 17, bd 17, sc 17, _, _, ([("pattern" : Str), ("path" : Str), ("body" : Str)] : List Str), ir_does_meet, 80, false, false, false, F, s_does_meet, irok_does_meet, rfl⟩
theorem f_check_pattern (X : K.In h) (G : h.Ns mainGlobals mg) (c : He.SaysD fa fn K) : DfFact K mg G0 dfs "check_pattern" ([("value" : Str)] : List Str) 9 := by
  obtain ⟨fd, F⟩ := c.def_ 9 (d := d_check_pattern) rfl
  refine ⟨_, fd, He.glo_ok X G (c.fact 9 (f := .glo "check_pattern") rfl), F.kp, fun _ => bind_plain F fun _ _ _ _ _ _ us hl => match us, hl with | [_], _ => rfl, kws_of (l := []) (by kernel_rfl) (by
    intro q hq
    cases hq), ?_⟩
  exact ⟨"check_pattern", "check_pattern", ag 19, bd 19, sc 19, _, _, ([("value" : Str)] : List Str), ir_check_pattern, 80, false, false, false, F, s_check_pattern, irok_check_pattern, rfl⟩
theorem f_places (X : K.In h) (G : h.Ns mainGlobals mg) (c : He.SaysD fa fn K) : DfFact K mg G0 dfs "places" ([("pattern" : Str), ("path" : Str)] : List Str) 10 := by
  obtain ⟨fd, F⟩ := c.def_ 10 (d := d_places) rfl
  refine ⟨_, fd, He.glo_ok X G (c.fact 10 (f := .glo "places") rfl), F.kp, fun _ => bind_plain F fun _ _ _ _ _ _ us hl => match us, hl with | [_, _], _ => rfl, kws_of (l := []) (by kernel_rfl) (by
    intro q hq
    cases hq), ?_⟩
  exact ⟨"places", "places", ag 20, bd 20, sc 20, _, _, ([("pattern" : Str), ("path" : Str)] : List Str), ir_places, 80, false, false, false, F, s_places, irok_places, rfl⟩
theorem f_next_places (X : K.In h) (G : h.Ns mainGlobals mg) (c : He.SaysD fa fn K) : DfFact K mg G0 dfs "next_places" ([("pattern" : Str), ("places" : Str), ("sign" : Str)] : List Str) 11 := by
  obtain ⟨fd, F⟩ := c.def_ 11 (d := d_next_places) rfl
  refine ⟨_, fd, He.glo_ok X G (c.fact 11 (f := .glo "next_places") rfl), F.kp, fun _ => bind_plain F fun _ _ _ _ _ _ us hl => match us, hl with | [_, _, _], _ => rfl, kws_of (l := [(("next_places" : Str), 0, ([("sign" : Str), ("places" : Str), ("pattern" : Str)] : List Str), ([] : List PyData), ([2, 1, 0] : List Nat))]) (by kernel_rfl) (by
    intro q hq
    simp only [List.mem_cons, List.not_mem_nil, or_false] at hq
    rcases hq with rfl
    · exact bind_names F (by decide) fun _ _ _ _ _ _ us ws h1 h2 => match us, ws, h1, h2 with | [], [_, _, _], _, _ => rfl), ?_⟩
  exact ⟨"next_places", "next_places", ag 21, bd 21, sc 21, _, _, ([("pattern" : Str), ("places" : Str), ("sign" : Str)] : List Str), ir_next_places, 80, false, false, false, F, s_next_places, irok_next_places, rfl⟩
theorem f_meets (X : K.In h) (G : h.Ns mainGlobals mg) (c : He.SaysD fa fn K) : DfFact K mg G0 dfs "meets" ([("pattern" : Str), ("path" : Str)] : List Str) 12 := by
  obtain ⟨fd, F⟩ := c.def_ 12 (d := d_meets) rfl
  refine ⟨_, fd, He.glo_ok X G (c.fact 12 (f := .glo "meets") rfl), F.kp, fun _ => bind_plain F fun _ _ _ _ _ _ us hl => match us, hl with | [_, _], _ => rfl, kws_of (l := []) (by kernel_rfl) (by
    intro q hq
    cases hq), ?_⟩
  exact ⟨"meets", "meets", ag 22, bd 22, sc 22, _, _, ([("pattern" : Str), ("path" : Str)] : List Str), ir_meets, 80, false, false, false, F, s_meets, irok_meets, rfl⟩
theorem f__law_well (X : K.In h) (G : h.Ns mainGlobals mg) (c : He.SaysD fa fn K) : DfFact K mg G0 dfs "_law_well" ([("_law_script" : Str), ("_law_turn" : Str)] : List Str) 13 := by
  obtain ⟨fd, F⟩ := c.def_ 13 (d := d__law_well) rfl
  refine ⟨_, fd, He.glo_ok X G (c.fact 13 (f := .glo "_law_well") rfl), F.kp, fun _ => bind_plain F fun _ _ _ _ _ _ us hl => match us, hl with | [_, _], _ => rfl, kws_of (l := []) (by kernel_rfl) (by
    intro q hq
    cases hq), ?_⟩
  exact ⟨"_law_well", "_law_well", ag 24, bd 24, sc 24, _, _, ([("_law_script" : Str), ("_law_turn" : Str), ("_law_mixed" : Str), ("_law_each" : Str), ("_law_cell" : Str), ("_law_digits" : Str)] : List Str), ir__law_well, 80, false, false, false, F, s__law_well, irok__law_well, rfl⟩
theorem f__law_pick (X : K.In h) (G : h.Ns mainGlobals mg) (c : He.SaysD fa fn K) : DfFact K mg G0 dfs "_law_pick" ([("_law_well_here" : Str), ("_law_top" : Str)] : List Str) 14 := by
  obtain ⟨fd, F⟩ := c.def_ 14 (d := d__law_pick) rfl
  refine ⟨_, fd, He.glo_ok X G (c.fact 14 (f := .glo "_law_pick") rfl), F.kp, fun _ => bind_plain F fun _ _ _ _ _ _ us hl => match us, hl with | [_, _], _ => rfl, kws_of (l := []) (by kernel_rfl) (by
    intro q hq
    cases hq), ?_⟩
  exact ⟨"_law_pick", "_law_pick", ag 25, bd 25, sc 25, _, _, ([("_law_well_here" : Str), ("_law_top" : Str), ("_law_digit" : Str)] : List Str), ir__law_pick, 80, false, false, false, F, s__law_pick, irok__law_pick, rfl⟩
theorem f__law_one (X : K.In h) (G : h.Ns mainGlobals mg) (c : He.SaysD fa fn K) : DfFact K mg G0 dfs "_law_one" ([("_law_well_here" : Str), ("_law_some" : Str)] : List Str) 15 := by
  obtain ⟨fd, F⟩ := c.def_ 15 (d := d__law_one) rfl
  refine ⟨_, fd, He.glo_ok X G (c.fact 15 (f := .glo "_law_one") rfl), F.kp, fun _ => bind_plain F fun _ _ _ _ _ _ us hl => match us, hl with | [_, _], _ => rfl, kws_of (l := []) (by kernel_rfl) (by
    intro q hq
    cases hq), ?_⟩
  exact ⟨"_law_one", "_law_one", ag 26, bd 26, sc 26, _, _, ([("_law_well_here" : Str), ("_law_some" : Str)] : List Str), ir__law_one, 80, false, false, false, F, s__law_one, irok__law_one, rfl⟩
theorem f__law_signs (X : K.In h) (G : h.Ns mainGlobals mg) (c : He.SaysD fa fn K) : DfFact K mg G0 dfs "_law_signs" ([] : List Str) 16 := by
  obtain ⟨fd, F⟩ := c.def_ 16 (d := d__law_signs) rfl
  refine ⟨_, fd, He.glo_ok X G (c.fact 16 (f := .glo "_law_signs") rfl), F.kp, fun _ => bind_plain F fun _ _ _ _ _ _ us hl => match us, hl with | [], _ => rfl, kws_of (l := []) (by kernel_rfl) (by
    intro q hq
    cases hq), ?_⟩
  exact ⟨"_law_signs", "_law_signs", ag 27, bd 27, sc 27, _, _, ([] : List Str), ir__law_signs, 80, false, false, false, F, s__law_signs, irok__law_signs, rfl⟩
theorem f__law_alphabet (X : K.In h) (G : h.Ns mainGlobals mg) (c : He.SaysD fa fn K) : DfFact K mg G0 dfs "_law_alphabet" ([("_law_well_here" : Str)] : List Str) 17 := by
  obtain ⟨fd, F⟩ := c.def_ 17 (d := d__law_alphabet) rfl
  refine ⟨_, fd, He.glo_ok X G (c.fact 17 (f := .glo "_law_alphabet") rfl), F.kp, fun _ => bind_plain F fun _ _ _ _ _ _ us hl => match us, hl with | [_], _ => rfl, kws_of (l := []) (by kernel_rfl) (by
    intro q hq
    cases hq), ?_⟩
  exact ⟨"_law_alphabet", "_law_alphabet", ag 28, bd 28, sc 28, _, _, ([("_law_well_here" : Str), ("_law_turn" : Str)] : List Str), ir__law_alphabet, 80, false, false, false, F, s__law_alphabet, irok__law_alphabet, rfl⟩
theorem f__law_body (X : K.In h) (G : h.Ns mainGlobals mg) (c : He.SaysD fa fn K) : DfFact K mg G0 dfs "_law_body" ([("_law_shape" : Str)] : List Str) 18 := by
  obtain ⟨fd, F⟩ := c.def_ 18 (d := d__law_body) rfl
  refine ⟨_, fd, He.glo_ok X G (c.fact 18 (f := .glo "_law_body") rfl), F.kp, fun _ => bind_plain F fun _ _ _ _ _ _ us hl => match us, hl with | [_], _ => rfl, kws_of (l := []) (by kernel_rfl) (by
    intro q hq
    cases hq), ?_⟩
  exact ⟨"_law_body", "_law_body", ag 29, bd 29, sc 29, _, _, ([("_law_shape" : Str)] : List Str), ir__law_body, 80, false, false, false, F, s__law_body, irok__law_body, rfl⟩
theorem f__law_fits (X : K.In h) (G : h.Ns mainGlobals mg) (c : He.SaysD fa fn K) : DfFact K mg G0 dfs "_law_fits" ([("_law_body_here" : Str), ("_law_route" : Str)] : List Str) 19 := by
  obtain ⟨fd, F⟩ := c.def_ 19 (d := d__law_fits) rfl
  refine ⟨_, fd, He.glo_ok X G (c.fact 19 (f := .glo "_law_fits") rfl), F.kp, fun _ => bind_plain F fun _ _ _ _ _ _ us hl => match us, hl with | [_, _], _ => rfl, kws_of (l := []) (by kernel_rfl) (by
    intro q hq
    cases hq), ?_⟩
  exact ⟨"_law_fits", "_law_fits", ag 30, bd 30, sc 30, _, _, ([("_law_body_here" : Str), ("_law_route" : Str), ("_law_row" : Str), ("_law_sign" : Str), ("_law_new" : Str), ("_law_at" : Str), ("_law_other" : Str)] : List Str), ir__law_fits, 80, false, false, false, F, s__law_fits, irok__law_fits, rfl⟩
theorem f__law_some_pattern (X : K.In h) (G : h.Ns mainGlobals mg) (c : He.SaysD fa fn K) : DfFact K mg G0 dfs "_law_some_pattern" ([("_law_well_here" : Str), ("_law_signs_here" : Str), ("_law_stars" : Str), ("_law_top" : Str)] : List Str) 20 := by
  obtain ⟨fd, F⟩ := c.def_ 20 (d := d__law_some_pattern) rfl
  refine ⟨_, fd, He.glo_ok X G (c.fact 20 (f := .glo "_law_some_pattern") rfl), F.kp, fun _ => bind_plain F fun _ _ _ _ _ _ us hl => match us, hl with | [_, _, _, _], _ => rfl, kws_of (l := []) (by kernel_rfl) (by
    intro q hq
    cases hq), ?_⟩
  exact ⟨"_law_some_pattern", "_law_some_pattern", ag 31, bd 31, sc 31, _, _, ([("_law_well_here" : Str), ("_law_signs_here" : Str), ("_law_stars" : Str), ("_law_top" : Str), ("_law_turn" : Str), ("_law_text" : Str), ("_law_left" : Str)] : List Str), ir__law_some_pattern, 80, false, false, false, F, s__law_some_pattern, irok__law_some_pattern, rfl⟩
theorem f__law_some_path (X : K.In h) (G : h.Ns mainGlobals mg) (c : He.SaysD fa fn K) : DfFact K mg G0 dfs "_law_some_path" ([("_law_well_here" : Str), ("_law_signs_here" : Str), ("_law_shape" : Str)] : List Str) 21 := by
  obtain ⟨fd, F⟩ := c.def_ 21 (d := d__law_some_path) rfl
  refine ⟨_, fd, He.glo_ok X G (c.fact 21 (f := .glo "_law_some_path") rfl), F.kp, fun _ => bind_plain F fun _ _ _ _ _ _ us hl => match us, hl with | [_, _, _], _ => rfl, kws_of (l := []) (by kernel_rfl) (by
    intro q hq
    cases hq), ?_⟩
  exact ⟨"_law_some_path", "_law_some_path", ag 32, bd 32, sc 32, _, _, ([("_law_well_here" : Str), ("_law_signs_here" : Str), ("_law_shape" : Str), ("_law_text" : Str), ("_law_sign" : Str), ("_law_at" : Str), ("_law_turn" : Str)] : List Str), ir__law_some_path, 80, false, false, false, F, s__law_some_path, irok__law_some_path, rfl⟩
theorem f__law_due_places (X : K.In h) (G : h.Ns mainGlobals mg) (c : He.SaysD fa fn K) : DfFact K mg G0 dfs "_law_due_places" ([("_law_body_here" : Str), ("_law_route" : Str)] : List Str) 22 := by
  obtain ⟨fd, F⟩ := c.def_ 22 (d := d__law_due_places) rfl
  refine ⟨_, fd, He.glo_ok X G (c.fact 22 (f := .glo "_law_due_places") rfl), F.kp, fun _ => bind_plain F fun _ _ _ _ _ _ us hl => match us, hl with | [_, _], _ => rfl, kws_of (l := []) (by kernel_rfl) (by
    intro q hq
    cases hq), ?_⟩
  exact ⟨"_law_due_places", "_law_due_places", ag 33, bd 33, sc 33, _, _, ([("_law_body_here" : Str), ("_law_route" : Str), ("_law_k" : Str)] : List Str), ir__law_due_places, 80, false, false, false, F, s__law_due_places, irok__law_due_places, rfl⟩
theorem f__law_walk_right (X : K.In h) (G : h.Ns mainGlobals mg) (c : He.SaysD fa fn K) : DfFact K mg G0 dfs "_law_walk_right" ([("_law_shape" : Str), ("_law_route" : Str)] : List Str) 23 := by
  obtain ⟨fd, F⟩ := c.def_ 23 (d := d__law_walk_right) rfl
  refine ⟨_, fd, He.glo_ok X G (c.fact 23 (f := .glo "_law_walk_right") rfl), F.kp, fun _ => bind_plain F fun _ _ _ _ _ _ us hl => match us, hl with | [_, _], _ => rfl, kws_of (l := []) (by kernel_rfl) (by
    intro q hq
    cases hq), ?_⟩
  exact ⟨"_law_walk_right", "_law_walk_right", ag 34, bd 34, sc 34, _, _, ([("_law_shape" : Str), ("_law_route" : Str), ("_law_end" : Str), ("_law_others" : Str), ("_law_far" : Str), ("_law_last" : Str), ("_law_body_here" : Str), ("_law_here" : Str), ("_law_due" : Str), ("_law_sign" : Str)] : List Str), ir__law_walk_right, 80, false, false, false, F, s__law_walk_right, irok__law_walk_right, rfl⟩
theorem f__law_right (X : K.In h) (G : h.Ns mainGlobals mg) (c : He.SaysD fa fn K) : DfFact K mg G0 dfs "_law_right" ([("_law_well_here" : Str)] : List Str) 24 := by
  obtain ⟨fd, F⟩ := c.def_ 24 (d := d__law_right) rfl
  refine ⟨_, fd, He.glo_ok X G (c.fact 24 (f := .glo "_law_right") rfl), F.kp, fun _ => bind_plain F fun _ _ _ _ _ _ us hl => match us, hl with | [_], _ => rfl, kws_of (l := []) (by kernel_rfl) (by
    intro q hq
    cases hq), ?_⟩
  exact ⟨"_law_right", "_law_right", ag 35, bd 35, sc 35, _, _, ([("_law_well_here" : Str), ("_law_signs_here" : Str), ("_law_shape" : Str), ("_law_route" : Str)] : List Str), ir__law_right, 80, false, false, false, F, s__law_right, irok__law_right, rfl⟩
theorem f_law (X : K.In h) (G : h.Ns mainGlobals mg) (c : He.SaysD fa fn K) : DfFact K mg G0 dfs "law" ([("_law_script" : Str)] : List Str) 25 := by
  obtain ⟨fd, F⟩ := c.def_ 25 (d := d_law) rfl
  refine ⟨_, fd, He.glo_ok X G (c.fact 25 (f := .glo "law") rfl), F.kp, fun _ => bind_plain F fun _ _ _ _ _ _ us hl => match us, hl with | [_], _ => rfl, kws_of (l := []) (by kernel_rfl) (by
    intro q hq
    cases hq), ?_⟩
  exact ⟨"law", "law", ag 36, bd 36, sc 36, _, _, ([("_law_script" : Str), ("_law_turn" : Str)] : List Str), ir_law, 80, false, false, false, F, s_law, irok_law, rfl⟩
theorem wok (X : K.In h) (G : h.Ns mainGlobals mg) (cz : Vm.SaysZ fa fn tz xz K) : WOk K mg G0 dfs := by
  have c := cz.d
  refine wok_of K mg G0 dfs ?_ ?_ ?_ (xz_ok X G cz.x)
  · exact ⟨f_is_path X G c, f_check_path X G c, f_is_some_pattern X G c, f_body_by X G c, f_closed_places X G c, f_first_places X G c, f_led_places X G c, f_places_by X G c, f_does_meet X G c, f_check_pattern X G c, f_places X G c, f_next_places X G c, f_meets X G c, f__law_well X G c, f__law_pick X G c, f__law_one X G c, f__law_signs X G c, f__law_alphabet X G c, f__law_body X G c, f__law_fits X G c, f__law_some_pattern X G c, f__law_some_path X G c, f__law_due_places X G c, f__law_walk_right X G c, f__law_right X G c, f_law X G c, trivial⟩
  · exact ⟨cs_str X G (c.fact 26 (f := .str "SIGNS" "-./0123456789_abcdefghijklmnopqrstuvwxyz") rfl), cs_int X G (c.fact 27 (f := .int "MOST_SIGNS" 12) rfl), trivial⟩
  · exact ⟨He.free_ok X G (c.fact 28 (f := .free "ValueError") rfl), He.free_ok X G (c.fact 29 (f := .free "abs") rfl), He.free_ok X G (c.fact 30 (f := .free "all") rfl), He.free_ok X G (c.fact 31 (f := .free "divmod") rfl), He.free_ok X G (c.fact 32 (f := .free "enumerate") rfl), He.free_ok X G (c.fact 33 (f := .free "int") rfl), He.free_ok X G (c.fact 34 (f := .free "isinstance") rfl), He.free_ok X G (c.fact 35 (f := .free "len") rfl), He.free_ok X G (c.fact 36 (f := .free "max") rfl), He.free_ok X G (c.fact 37 (f := .free "min") rfl), He.free_ok X G (c.fact 38 (f := .free "range") rfl), He.free_ok X G (c.fact 39 (f := .free "repr") rfl), He.free_ok X G (c.fact 40 (f := .free "sorted") rfl), He.free_ok X G (c.fact 41 (f := .free "str") rfl), He.free_ok X G (c.fact 42 (f := .free "tuple") rfl), trivial⟩
end
theorem facts {P : Program} {w : World} {K : PySem.W.Frag} {h : Heap} {mg : Str → Option Value} {f : Addr} (X : K.In h) (G : h.Ns mainGlobals mg) (hfa : mg ("law" : Str) = some (.ref f)) (cz : Vm.SaysZ fa fn tz xz K) :
    ∃ fd : FuncData, (∀ (s : Shared) (u : Value), BindsTo s fd ⟨[u], []⟩ [(("_law_script" : Str), u)]) ∧ ∀ base : Heap, K.In base → base.Ns mainGlobals mg → FnG P w K mg base 9 f fd ["_law_script"] (spG K mg 1 (runD dfs 9 25)) := by
  obtain ⟨f2, fd, e1, kp, hb, _, D⟩ := f_law X G cz.d
  have e := hfa.symm.trans e1
  cases e
  exact ⟨fd, fun s u => .of_eq (hb (by decide +kernel) [u] rfl), fun base _ _ => fn_all (wok X G cz) 9 25 f fd ["_law_script"] D⟩
end T
open PySem PySem.W PySem.Calls PyProof.Rows
theorem PySem.Challenge.cw_gentlerounds_k04_whole_places_tell_how_t_holds : PySem.Challenge.rw_gentlerounds_k04_whole_places_tell_how_t.Holds := by
  w_on; o_law
  refine HandSHeadRun.head_any (r := OpenLaw.row PySem.Challenge.rw_gentlerounds_k04_whole_places_tell_how_t) (q := view (OpenLaw.row PySem.Challenge.rw_gentlerounds_k04_whole_places_tell_how_t).prog [36]) (H := T.hk) (ob := T.ob) (M := 4227) (loose := T.names0) (d := HandSHeadRun.topDef (OpenLaw.row PySem.Challenge.rw_gentlerounds_k04_whole_places_tell_how_t).prog 36) (kwd := []) T.ob_eq
    (by kernel_rfl) (fun s => by kernel_rfl) T.run (by kernel_rfl) (by kernel_rfl) (by kernel_rfl) (by rfl) (by first | assumption | decide +kernel) (by decide +kernel) ⟨rfl, rfl, rfl, rfl, rfl, by decide +kernel⟩ ?hw ?hc
  case hw => w_witness2
  case hc =>
    refine Vm.walk_G (l := PySem.Challenge.rw_gentlerounds_k04_whole_places_tell_how_t) (n := 63) (k := 9) (g := 25) (x := "_law_script") (defs := T.dfs) rfl (by decide) (by kernel_rfl) ⟨rfl, by decide, by decide⟩ ?F (fun ns hl => T.r_law 0 ns hl)
    intro w mg fa h Y G hmg0
    obtain ⟨K, KX, c⟩ := Y
    have hmg : mg ("law" : PySem.Str) = some (.ref fa) := by
      have e : (HandSHeadRun.topDef (OpenLaw.row PySem.Challenge.rw_gentlerounds_k04_whole_places_tell_how_t).prog 36).name = ("law" : PySem.Str) := by kernel_rfl
      rw [← e]
      exact hmg0
    obtain ⟨fd, hb, hF⟩ := T.facts (P := (PySem.Challenge.rw_gentlerounds_k04_whole_places_tell_how_t).prog) (w := w) KX G hmg c
    exact ⟨K, fd, KX, hb, hF⟩
