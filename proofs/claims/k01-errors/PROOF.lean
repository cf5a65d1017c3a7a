import PyProof.Rows.All
import Wide.All
import OpenK.AllK
import Wide.FinOn
import HandS.ForMost
import HandS.ForExc
import HandS.Walk
import HandS.TupAny
import HandS.IsInst
import HandS.Defaults
import KE.GoesEnum
import KE.GoesEnumKw
import KE.KDictZip
import HandS.Property
import HandS.OwnEq
import HandS.Star
import KE.KOpsOwn
import PyProof.ReprRoads
import PyProof.CallFns
import PyProof.FString
import PyProof.FString4
import HandS.FStr
import HandS.Ends
import HandS.FStrTup
import KE.KStateDown
import Lean
import HandS.Words
import HandS.Head0
import HandS.Head1
import HandS.Head2
import HandS.HeadEnd
import HandS.HeadHook1
import HandS.HeadHook2
import HandS.ExcInit
import HandS.ExcField
import HandS.ExcOwn
import HandS.ExcIs
import HandS.TryMany
import HandS.TryOnly
import HandS.TupMul
import HandS.MakeKwOnly
import HandS.ClsMeth
import HandS.HeadNt
import HandS.WordsExc
import HandS.MakeKw
import PyProof.ExcBaseAll.LookupError
import PySem.Challenge.RW_sourwright_k01_errors
set_option Elab.async false
set_option linter.all false
set_option maxRecDepth 100000
set_option maxHeartbeats 4000000
/-! DL: data over the readings. A value is told by a datum D; F is the part of the abstract heap that never changes any more. -/
namespace DL
open PySem L2

inductive D where
  | raw (v : V)
  | lst (xs : List D)
  | tup (xs : List D)
  | obj (C : Addr) (ns : List Str) (ds : List D)
  /-- the very object -/
  | pin (o : HO)
abbrev D.int (i : Int) : D := .raw (.int i)
abbrev D.bl (b : Bool) : D := .raw (.bl b)
abbrev D.str (s : Str) : D := .raw (.str s)
abbrev D.non : D := .raw .non
abbrev D.at (a : Addr) : D := .raw (.ref a)

def Sub (F H : Hp) : Prop := ∀ a o, F a = some o → H a = some o
theorem Sub.rfl {F : Hp} : Sub F F := fun _ _ h => h
theorem Sub.trans {F G H : Hp} (a : Sub F G) (b : Sub G H) : Sub F H := fun x o h => b x o (a x o h)
theorem Sub.rd {F H : Hp} (s : Sub F H) {a : Addr} {u : HO} (h : Rd F a u) : Rd H a u := by
  cases h with
  | inl h => exact .inl (s a _ h)
  | inr h => obtain ⟨o, h⟩ := h; exact .inr ⟨o, s a _ h⟩
theorem Sub.sqT {F H : Hp} (s : Sub F H) {K : PySem.W.Frag} {a : Addr} {xs : List V} (h : SqT K F a xs) : SqT K H a xs := by
  cases h with
  | inl h => exact .inl (s.rd h)
  | inr h => exact .inr h
theorem Sub.sqL {F H : Hp} (s : Sub F H) {K : PySem.W.Frag} {a : Addr} {xs : List V} (h : SqL K F a xs) : SqL K H a xs := by
  cases h with
  | inl h => exact .inl (s.rd h)
  | inr h => exact .inr h
theorem Sub.none {F H : Hp} (s : Sub F H) {p : Addr} (h : H p = none) : F p = none := by
  cases e : F p with
  | none => rfl
  | some o => rw [s p o e] at h; cases h
theorem sub_upd {F : Hp} {p : Addr} {o : HO} (h : F p = none) : Sub F (upd F p o) := fun a u e => by rw [upd_ne (ne_of_none e h)]; exact e
theorem sub_upd2 {F H : Hp} {p : Addr} {o : HO} (s : Sub F H) : Sub (upd F p o) (upd H p o) := fun a u e => by
  by_cases h : a = p
  · subst h; rw [upd_same] at e ⊢; exact e
  · rw [upd_ne h] at e ⊢; exact s a u e

mutual
inductive Rp (K : PySem.W.Frag) (F : Hp) : V → D → Prop
  | raw (v : V) : Rp K F v (.raw v)
  | lst {a : Addr} {xs : List V} {ds : List D} : F a = some (.lst xs) → RpL K F xs ds → Rp K F (.ref a) (.lst ds)
  | tup {a : Addr} {xs : List V} {ds : List D} : F a = some (.tup xs) → RpL K F xs ds → Rp K F (.ref a) (.tup ds)
  | obj {a C dx : Addr} {ns : List Str} {xs : List V} {ds : List D} : F a = some (.ins C dx (ns.zip xs)) → ns.length = xs.length → RpL K F xs ds → Rp K F (.ref a) (.obj C ns ds)
  | pin {a : Addr} {o : HO} : F a = some o → Rp K F (.ref a) (.pin o)
inductive RpL (K : PySem.W.Frag) (F : Hp) : List V → List D → Prop
  | nil : RpL K F [] []
  | cons {v : V} {vs : List V} {d : D} {ds : List D} : Rp K F v d → RpL K F vs ds → RpL K F (v :: vs) (d :: ds)
end
section
variable {K : PySem.W.Frag} {F F' H : Hp}
mutual
theorem Rp.mono (s : Sub F F') : ∀ {v : V} {d : D}, Rp K F v d → Rp K F' v d
  | _, _, .raw v => .raw v
  | _, _, .lst h r => .lst (s _ _ h) (RpL.mono s r)
  | _, _, .tup h r => .tup (s _ _ h) (RpL.mono s r)
  | _, _, .obj h n r => .obj (s _ _ h) n (RpL.mono s r)
  | _, _, .pin h => .pin (s _ _ h)
theorem RpL.mono (s : Sub F F') : ∀ {vs : List V} {ds : List D}, RpL K F vs ds → RpL K F' vs ds
  | _, _, .nil => .nil
  | _, _, .cons h r => .cons (Rp.mono s h) (RpL.mono s r)
end
theorem Rp.raw_eq {v w : V} (h : Rp K F v (.raw w)) : v = w := by cases h; rfl
theorem Rp.lst_at {v : V} {ds : List D} (h : Rp K F v (.lst ds)) : ∃ a xs, v = .ref a ∧ F a = some (.lst xs) ∧ RpL K F xs ds := by
  cases h with | lst h r => exact ⟨_, _, rfl, h, r⟩
theorem Rp.tup_at {v : V} {ds : List D} (h : Rp K F v (.tup ds)) : ∃ a xs, v = .ref a ∧ F a = some (.tup xs) ∧ RpL K F xs ds := by
  cases h with | tup h r => exact ⟨_, _, rfl, h, r⟩
theorem Rp.obj_at {v : V} {C : Addr} {ns : List Str} {ds : List D} (h : Rp K F v (.obj C ns ds)) : ∃ a dx xs, v = .ref a ∧ F a = some (.ins C dx (ns.zip xs)) ∧ ns.length = xs.length ∧ RpL K F xs ds := by
  cases h with | obj h n r => exact ⟨_, _, _, rfl, h, n, r⟩
theorem Rp.pin_at {v : V} {o : HO} (h : Rp K F v (.pin o)) : ∃ a, v = .ref a ∧ F a = some o := by
  cases h with | pin h => exact ⟨_, rfl, h⟩
theorem RpL.length : ∀ {vs : List V} {ds : List D}, RpL K F vs ds → vs.length = ds.length
  | _, _, .nil => rfl
  | _, _, .cons _ r => congrArg Nat.succ r.length
theorem RpL.get : ∀ {vs : List V} {ds : List D} {i : Nat} {d : D}, RpL K F vs ds → ds[i]? = some d → ∃ v, vs[i]? = some v ∧ Rp K F v d
  | _, _, _, _, .nil, e => by simp at e
  | _, _, 0, _, .cons h _, e => by simp at e; subst e; exact ⟨_, rfl, h⟩
  | _, _, i + 1, d, .cons _ r, e => by
    obtain ⟨v, h1, h2⟩ := RpL.get (i := i) (d := d) r (by simpa using e)
    exact ⟨v, by simpa using h1, h2⟩
theorem RpL.getV : ∀ {vs : List V} {ds : List D} {i : Nat} {v : V}, RpL K F vs ds → vs[i]? = some v → ∃ d, ds[i]? = some d ∧ Rp K F v d
  | _, _, _, _, .nil, e => by simp at e
  | _, _, 0, _, .cons h _, e => by simp at e; subst e; exact ⟨_, rfl, h⟩
  | _, _, i + 1, v, .cons _ r, e => by
    obtain ⟨d, h1, h2⟩ := RpL.getV (i := i) (v := v) r (by simpa using e)
    exact ⟨d, by simpa using h1, h2⟩
theorem RpL.append : ∀ {vs ws : List V} {ds es : List D}, RpL K F vs ds → RpL K F ws es → RpL K F (vs ++ ws) (ds ++ es)
  | _, _, _, _, .nil, s => s
  | _, _, _, _, .cons h r, s => .cons h (r.append s)
theorem RpL.take : ∀ {vs : List V} {ds : List D} (n : Nat), RpL K F vs ds → RpL K F (vs.take n) (ds.take n)
  | _, _, 0, _ => by simpa using RpL.nil
  | _, _, _ + 1, .nil => by simpa using RpL.nil
  | _, _, n + 1, .cons h r => by simpa using RpL.cons h (r.take n)
theorem RpL.drop : ∀ {vs : List V} {ds : List D} (n : Nat), RpL K F vs ds → RpL K F (vs.drop n) (ds.drop n)
  | _, _, 0, r => r
  | _, _, _ + 1, .nil => by simpa using RpL.nil
  | _, _, n + 1, .cons _ r => by simpa using r.drop n
theorem RpL.set : ∀ {vs : List V} {ds : List D} {v : V} {d : D} (n : Nat), RpL K F vs ds → Rp K F v d → RpL K F (vs.set n v) (ds.set n d)
  | _, _, _, _, _, .nil, _ => .nil
  | _, _, _, _, 0, .cons _ r, q => .cons q r
  | _, _, _, _, n + 1, .cons h r, q => .cons h (RpL.set n r q)
theorem RpL.nil_eq {vs : List V} (h : RpL K F vs []) : vs = [] := by cases h; rfl
theorem RpL.cons_of {vs : List V} {d : D} {ds : List D} (h : RpL K F vs (d :: ds)) : ∃ v ws, vs = v :: ws ∧ Rp K F v d ∧ RpL K F ws ds := by
  cases h with | cons a b => exact ⟨_, _, rfl, a, b⟩
theorem RpL.raws : ∀ {vs ws : List V}, RpL K F vs (ws.map D.raw) → vs = ws
  | _, [], h => by cases h; rfl
  | _, w :: ws, h => by
    cases h with
    | cons a b => rw [Rp.raw_eq a, RpL.raws b]
theorem RpL.ofRaws : ∀ (ws : List V), RpL K F ws (ws.map D.raw)
  | [] => .nil
  | w :: ws => .cons (.raw w) (RpL.ofRaws ws)
end

/-- one object that may change: the source of draws (a list of three ints), or one under construction -/
def isBox : HO → Prop
  | .lst xs => ∃ n s c : Int, xs = [.int n, .int s, .int c]
  | _ => False
def BoxOk (B : HO → Prop) (H : Hp) (b : Addr) : Prop := ∃ o, H b = some o ∧ B o

/-- from (F, H) to (F', H'): what stood stands (but the box), what is known for ever grows by new things alone -/
structure Step (M : Option Addr) (B : HO → Prop) (F H F' H' : Hp) : Prop where
  ff : Sub F F'
  sub : Sub F' H'
  keep : ∀ a o, H a = some o → M ≠ some a → H' a = some o
  new : ∀ a, F a = none → H a ≠ none → F' a = none
  box : ∀ b, M = some b → BoxOk B H' b
section
variable {M : Option Addr} {B : HO → Prop} {F H F1 H1 F2 H2 : Hp}
theorem Step.keepN (s : Step M B F H F1 H1) {a : Addr} (h : H a ≠ none) : H1 a ≠ none := by
  cases e : H a with
  | none => exact absurd e h
  | some o =>
    by_cases q : M = some a
    · obtain ⟨_, z, _⟩ := s.box a q; rw [z]; exact fun x => nomatch x
    · rw [s.keep a o e q]; exact fun x => nomatch x
theorem Step.trans (s : Step M B F H F1 H1) (t : Step M B F1 H1 F2 H2) : Step M B F H F2 H2 :=
  ⟨s.ff.trans t.ff, t.sub, fun a o h m => t.keep a o (s.keep a o h m) m, fun a f h => t.new a (s.new a f h) (s.keepN h), t.box⟩
theorem Step.same (h : Sub F H) (b : ∀ b, M = some b → BoxOk B H b) : Step M B F H F H := ⟨Sub.rfl, h, fun _ _ e _ => e, fun _ e _ => e, b⟩
/-- a pure call's step is one beside any box -/
theorem Step.any {B' : HO → Prop} (s : Step none B' F H F1 H1) (b : ∀ b, M = some b → BoxOk B H b) : Step M B F H F1 H1 :=
  ⟨s.ff, s.sub, fun a o h _ => s.keep a o h (fun q => nomatch q), s.new, fun x q => by
    obtain ⟨o, e, t⟩ := b x q
    exact ⟨o, s.keep x _ e (fun q => nomatch q), t⟩⟩
theorem Step.alloc {p : Addr} {o : HO} (h : Sub F H) (b : ∀ b, M = some b → BoxOk B H b) (hp : H p = none) : Step M B F H (upd F p o) (upd H p o) :=
  ⟨sub_upd (h.none hp), sub_upd2 h, fun a u e _ => by rw [upd_ne (ne_of_none e hp)]; exact e, fun a f q => by
    have ne : a ≠ p := fun z => q (by rw [z]; exact hp)
    rw [upd_ne ne]; exact f, fun x q => by
    obtain ⟨o, e, t⟩ := b x q
    exact ⟨o, by rw [upd_ne (ne_of_none e hp)]; exact e, t⟩⟩
end

/-- what is fixed through a def's body -/
structure Eb where
  K : PySem.W.Frag
  M : Option Addr
  B : HO → Prop
  F0 : Hp
  H0 : Hp

/-- the state: G the slots' data, O the lists that the body owns (with their items), S the values at hand -/
structure FO (E : Eb) (G : List (Option D)) (O : List (Addr × List D)) (S : List (V × D)) (F : Hp) (σ : L2.St) (H : Hp) : Prop where
  st : Step E.M E.B E.F0 E.H0 F H
  bx : ∀ b, E.M = some b → F b = none
  len : σ.length = G.length
  slot : ∀ (i : Nat) (d : D), G[i]? = some (some d) → ∃ v, σ[i]? = some (some v) ∧ Rp E.K F v d
  stk : ∀ p ∈ S, Rp E.K F p.1 p.2
  own : ∀ p ∈ O, ∃ vs, H p.1 = some (.lst vs) ∧ RpL E.K F vs p.2 ∧ F p.1 = none ∧ E.H0 p.1 = none ∧ E.M ≠ some p.1
  nd : (O.map (·.1)).Nodup
section
variable {E : Eb} {G : List (Option D)} {O : List (Addr × List D)} {S : List (V × D)} {F F' H H' : Hp} {σ : L2.St} {v x y : V} {d e : D} {Q : VK}
theorem FO.sub (fo : FO E G O S F σ H) : Sub F H := fo.st.sub
theorem FO.box (fo : FO E G O S F σ H) : ∀ b, E.M = some b → BoxOk E.B H b := fo.st.box
theorem FO.push (fo : FO E G O S F σ H) (r : Rp E.K F v d) : FO E G O ((v, d) :: S) F σ H :=
  ⟨fo.st, fo.bx, fo.len, fo.slot, fun p hp => by
    rcases List.mem_cons.mp hp with z | z
    · rw [z]; exact r
    · exact fo.stk p z, fo.own, fo.nd⟩
theorem FO.top (fo : FO E G O ((v, d) :: S) F σ H) : Rp E.K F v d := fo.stk _ List.mem_cons_self
theorem FO.pop (fo : FO E G O ((v, d) :: S) F σ H) : FO E G O S F σ H := ⟨fo.st, fo.bx, fo.len, fo.slot, fun p hp => fo.stk p (List.mem_cons_of_mem _ hp), fo.own, fo.nd⟩
theorem FO.weakS {S' : List (V × D)} (fo : FO E G O S F σ H) (h : ∀ p ∈ S', p ∈ S) : FO E G O S' F σ H := ⟨fo.st, fo.bx, fo.len, fo.slot, fun p hp => fo.stk p (h p hp), fo.own, fo.nd⟩
theorem FO.weakO {O' : List (Addr × List D)} (fo : FO E G O S F σ H) (h : ∀ p ∈ O', p ∈ O) (n : (O'.map (·.1)).Nodup) : FO E G O' S F σ H := ⟨fo.st, fo.bx, fo.len, fo.slot, fo.stk, fun p hp => fo.own p (h p hp), n⟩
theorem FO.dropO (fo : FO E G O S F σ H) : FO E G [] S F σ H := fo.weakO (fun _ h => nomatch h) List.nodup_nil
theorem FO.weakG {G' : List (Option D)} (fo : FO E G O S F σ H) (hl : G'.length = G.length) (h : ∀ (i : Nat) d, G'[i]? = some (some d) → G[i]? = some (some d)) : FO E G' O S F σ H :=
  ⟨fo.st, fo.bx, by rw [hl]; exact fo.len, fun i d q => fo.slot i d (h i d q), fo.stk, fo.own, fo.nd⟩
/-- the heap goes on by a step that leaves the owned lists -/
theorem FO.step (fo : FO E G O S F σ H) (s : Step E.M E.B F H F' H') : FO E G O S F' σ H' :=
  ⟨fo.st.trans s, fun b q => by
      obtain ⟨_, z, _⟩ := fo.box b q
      exact s.new b (fo.bx b q) (by rw [z]; exact fun x => nomatch x),
    fo.len, fun i d q => by
      obtain ⟨v, a, r⟩ := fo.slot i d q
      exact ⟨v, a, r.mono s.ff⟩,
    fun p hp => (fo.stk p hp).mono s.ff,
    fun p hp => by
      obtain ⟨vs, a, r, f, h0, m⟩ := fo.own p hp
      exact ⟨vs, s.keep _ _ a m, r.mono s.ff, s.new _ f (by rw [a]; exact fun x => nomatch x), h0, m⟩,
    fo.nd⟩
/-- a new object, known for ever -/
theorem FO.alloc {p : Addr} {o : HO} (fo : FO E G O S F σ H) (hp : H p = none) : FO E G O S (upd F p o) σ (upd H p o) := fo.step (.alloc fo.sub fo.box hp)
theorem FO.old {a : Addr} {o : HO} (fo : FO E G O S F σ H) (h : E.H0 a = some o) (m : E.M ≠ some a) : H a = some o := fo.st.keep a o h m
theorem FO.none0 {p : Addr} (fo : FO E G O S F σ H) (hp : H p = none) : E.H0 p = none := by
  cases e : E.H0 p with
  | none => rfl
  | some o => exact absurd hp (fo.st.keepN (by rw [e]; exact fun x => nomatch x))
theorem FO.notBox {p : Addr} (fo : FO E G O S F σ H) (hp : H p = none) : E.M ≠ some p := fun q => by
  obtain ⟨_, z, _⟩ := fo.box p q
  rw [z] at hp; cases hp
/-- a new list that the body owns -/
theorem FO.allocO {p : Addr} {vs : List V} {ds : List D} (fo : FO E G O S F σ H) (hp : H p = none) (r : RpL E.K F vs ds) : FO E G ((p, ds) :: O) S F σ (upd H p (.lst vs)) := by
  have st : Step E.M E.B F H F (upd H p (.lst vs)) := ⟨Sub.rfl, fun a o e => by rw [upd_ne (ne_of_none (fo.sub a o e) hp)]; exact fo.sub a o e, fun a o e _ => by rw [upd_ne (ne_of_none e hp)]; exact e, fun _ e _ => e, fun b q => by
    obtain ⟨o, e, t⟩ := fo.box b q
    exact ⟨o, by rw [upd_ne (ne_of_none e hp)]; exact e, t⟩⟩
  have fo' := fo.step st
  refine ⟨fo'.st, fo'.bx, fo'.len, fo'.slot, fo'.stk, fun q hq => ?_, ?_⟩
  · rcases List.mem_cons.mp hq with z | z
    · subst z
      exact ⟨vs, upd_same, r, fo.sub.none hp, fo.none0 hp, fo.notBox hp⟩
    · exact fo'.own q z
  · rw [List.map_cons, List.nodup_cons]
    refine ⟨fun hm => ?_, fo.nd⟩
    obtain ⟨q, hq, e⟩ := List.mem_map.mp hm
    obtain ⟨ws, a, _⟩ := fo.own q hq
    rw [e, hp] at a; cases a
/-- an owned list is changed -/
theorem FO.mut {p : Addr} {vs : List V} {ds es : List D} (fo : FO E G ((p, ds) :: O) S F σ H) (r : RpL E.K F vs es) : FO E G ((p, es) :: O) S F σ (upd H p (.lst vs)) := by
  obtain ⟨ws, hp, _, fp, h0, mp⟩ := fo.own (p, ds) List.mem_cons_self
  have hn : p ∉ O.map (·.1) := by
    have z := fo.nd
    rw [List.map_cons, List.nodup_cons] at z
    exact z.1
  refine ⟨⟨fo.st.ff, fun a o e => ?_, fun a o e m => ?_, fo.st.new, fun b q => ?_⟩, fo.bx, fo.len, fo.slot, fo.stk, fun q hq => ?_, ?_⟩
  · rw [upd_ne (fun z => by rw [z, fp] at e; cases e)]; exact fo.sub a o e
  · rw [upd_ne (fun z => by rw [z, h0] at e; cases e)]; exact fo.st.keep a o e m
  · obtain ⟨o, e, t⟩ := fo.box b q
    exact ⟨o, by rw [upd_ne (fun z => mp (by rw [← z]; exact q))]; exact e, t⟩
  · rcases List.mem_cons.mp hq with z | z
    · subst z
      exact ⟨vs, upd_same, r, fp, h0, mp⟩
    · obtain ⟨us, a, b, c, e1, f1⟩ := fo.own q (List.mem_cons_of_mem _ z)
      refine ⟨us, ?_, b, c, e1, f1⟩
      rw [upd_ne (fun w => hn (List.mem_map.mpr ⟨q, z, w⟩))]; exact a
  · exact fo.nd
/-- an owned list is known for ever from now on -/
theorem FO.freeze {p : Addr} {ds : List D} (fo : FO E G ((p, ds) :: O) S F σ H) : ∃ F', FO E G O ((.ref p, .lst ds) :: S) F' σ H ∧ Sub F F' := by
  obtain ⟨ws, hp, rw_, fp, h0, mp⟩ := fo.own (p, ds) List.mem_cons_self
  have hn : p ∉ O.map (·.1) := by
    have z := fo.nd
    rw [List.map_cons, List.nodup_cons] at z
    exact z.1
  have ff : Sub F (upd F p (.lst ws)) := sub_upd fp
  refine ⟨upd F p (.lst ws), FO.push ⟨⟨fo.st.ff.trans ff, fun a o e => ?_, fo.st.keep, fun a e q => ?_, fo.box⟩, fun b q => ?_, fo.len, fun i d q => ?_, fun q hq => (fo.stk q hq).mono ff, fun q hq => ?_, ?_⟩ (.lst upd_same (rw_.mono ff)), ff⟩
  · by_cases z : a = p
    · subst z; rw [upd_same] at e; cases e; exact hp
    · rw [upd_ne z] at e; exact fo.sub a o e
  · rw [upd_ne (fun z => q (by rw [z]; exact h0))]; exact fo.st.new a e q
  · rw [upd_ne (fun z => mp (by rw [← z]; exact q))]; exact fo.bx b q
  · obtain ⟨v, a, r⟩ := fo.slot i d q
    exact ⟨v, a, r.mono ff⟩
  · obtain ⟨us, a, b, c, e1, f1⟩ := fo.own q (List.mem_cons_of_mem _ hq)
    refine ⟨us, a, b.mono ff, ?_, e1, f1⟩
    rw [upd_ne (fun w => hn (List.mem_map.mpr ⟨q, hq, w⟩))]; exact c
  · have z := fo.nd
    rw [List.map_cons, List.nodup_cons] at z
    exact z.2
theorem FO.set {i : Nat} (fo : FO E G O ((v, d) :: S) F σ H) : FO E (G.set i (some d)) O S F (σ.set i (some v)) H := by
  refine ⟨fo.st, fo.bx, by rw [List.length_set, List.length_set]; exact fo.len, fun j e q => ?_, fo.pop.stk, fo.own, fo.nd⟩
  by_cases z : j = i
  · subst z
    have hj : j < G.length := by
      have := List.getElem?_eq_some_iff.mp q
      obtain ⟨h, _⟩ := this
      rwa [List.length_set] at h
    rw [List.getElem?_set_self hj] at q
    cases q
    exact ⟨v, List.getElem?_set_self (by rw [fo.len]; exact hj), fo.top⟩
  · rw [List.getElem?_set_ne (fun h => z h.symm)] at q ⊢
    exact fo.slot j e q
/-- a slot whose address is that of a value at hand, by that value's datum -/
theorem FO.know {i : Nat} (fo : FO E G O ((v, d) :: S) F σ H) (h : G[i]? = some (some (.raw v))) : FO E (G.set i (some d)) O ((v, d) :: S) F σ H := by
  refine ⟨fo.st, fo.bx, by rw [List.length_set]; exact fo.len, fun j e q => ?_, fo.stk, fo.own, fo.nd⟩
  by_cases z : j = i
  · subst z
    obtain ⟨u, a, r⟩ := fo.slot j _ h
    have hj : j < G.length := (List.getElem?_eq_some_iff.mp h).1
    rw [List.getElem?_set_self hj] at q
    cases q
    rw [Rp.raw_eq r] at a
    exact ⟨v, a, fo.top⟩
  · rw [List.getElem?_set_ne (fun h => z h.symm)] at q
    exact fo.slot j e q
end
end DL

set_option maxHeartbeats 4000000
namespace DL
open PySem L2
/-! ### continuations by name -/
def kTup (Q : VK) (xs : List V) (H : Hp) : Prop := xs.length ≤ sizeLine ∧ ∀ p, H p = none → Q (.ref p) (upd H p (.tup xs))
def kLst (Q : VK) (xs : List V) (H : Hp) : Prop := xs.length ≤ sizeLine ∧ ∀ p, H p = none → Q (.ref p) (upd H p (.lst xs))
def kLstO (Q : VK) (xs : List V) (H : Hp) : Prop := kLst Q xs H
def kCall (sp : Sp) (dvs : List V) (Ex : XK) (Q : VK) (vs : List V) (H : Hp) : Prop := sp (vs ++ dvs) H Q Ex
def kTest (Q : Bool → Hp → Prop) (x : V) (H : Hp) : Prop := ∃ k, x = .bl k ∧ Q k H
def kTru (K : PySem.W.Frag) (Q : Bool → Hp → Prop) (x : V) (H : Hp) : Prop := ∃ k, TruV K x H k ∧ Q k H
/-- a display of a list that the body owns -/
def tLstO (t : TA) : TE := tLst t
def tTruth (K : PySem.W.Frag) (te : TE) : TT := fun σ H Q => te σ H fun x H' => ∃ k, TruV K x H' k ∧ Q k H'

/-- vs are the last values at hand, with data ds; S0 is left -/
inductive Taken (S : List (V × D)) : List V → List D → List (V × D) → Prop
  | nil : Taken S [] [] S
  | cons {v : V} {vs : List V} {d : D} {ds : List D} {S0 : List (V × D)} : Taken S vs ds ((v, d) :: S0) → Taken S (v :: vs) (d :: ds) S0
theorem Taken.sub {S S0 : List (V × D)} {vs : List V} {ds : List D} (t : Taken S vs ds S0) : ∀ p ∈ S0, p ∈ S := by
  induction t with
  | nil => exact fun _ h => h
  | cons _ ih => exact fun p h => ih p (List.mem_cons_of_mem _ h)
theorem Taken.rpl {K : PySem.W.Frag} {F : Hp} {S S0 : List (V × D)} {vs : List V} {ds : List D} (t : Taken S vs ds S0) (h : ∀ p ∈ S, Rp K F p.1 p.2) : RpL K F vs ds := by
  induction t with
  | nil => exact .nil
  | cons t ih => exact .cons (h _ (t.sub _ List.mem_cons_self)) ih

section
variable {E : Eb} {G : List (Option D)} {O : List (Addr × List D)} {S S0 : List (V × D)} {F F' H H' : Hp} {σ : L2.St} {v x y : V} {d e : D} {Q : VK} {ta tb te : TE} {tas : TA} {vs : List V} {ds : List D}
theorem FO.taken (fo : FO E G O S F σ H) (t : Taken S vs ds S0) : FO E G O S0 F σ H := fo.weakS t.sub
theorem FO.rpl (fo : FO E G O S F σ H) (t : Taken S vs ds S0) : RpL E.K F vs ds := t.rpl fo.stk
/-! ### names, constants, operators -/
theorem x_var {i : Nat} (fo : FO E G O S F σ H) (h : G[i]? = some (some d)) (k : ∀ v, FO E G O ((v, d) :: S) F σ H → Q v H) : tVar i σ H Q := by
  obtain ⟨v, a, r⟩ := fo.slot i d h
  exact ⟨v, a, k v (fo.push r)⟩
/-- a name whose value is known as such -/
theorem x_varR {i : Nat} (fo : FO E G O S F σ H) (h : G[i]? = some (some (.raw v))) (k : FO E G O ((v, .raw v) :: S) F σ H → Q v H) : tVar i σ H Q := by
  obtain ⟨u, a, r⟩ := fo.slot i _ h
  have := r.raw_eq
  subst this
  exact ⟨u, a, k (fo.push r)⟩
theorem x_c (fo : FO E G O S F σ H) (k : FO E G O ((v, .raw v) :: S) F σ H → Q v H) : tC v σ H Q := k (fo.push (.raw v))
theorem x_op {r : R2} (h : ta σ H fun x H1 => tb σ H1 fun y H2 => r x y H2 Q) : tOp r ta tb σ H Q := h
theorem x_un {r : V → Hp → VK → Prop} (h : ta σ H fun x H1 => r x H1 Q) : tUn r ta σ H Q := h
theorem x_nil {R : List V → Hp → Prop} (h : R [] H) : tNil σ H R := h
theorem x_cons {R : List V → Hp → Prop} (h : te σ H fun x H1 => tas σ H1 fun xs H2 => R (x :: xs) H2) : tCons te tas σ H R := h
theorem x_tup (h : tas σ H (kTup Q)) : tTup tas σ H Q := h
theorem x_lst (h : tas σ H (kLst Q)) : tLst tas σ H Q := h
theorem x_lstO (h : tas σ H (kLstO Q)) : tLstO tas σ H Q := h
theorem x_cb {r : List V → Hp → VK → Prop} (h : tas σ H fun vs H1 => r vs H1 Q) : tCB r tas σ H Q := h
theorem x_call {sp : Sp} {dvs : List V} {Ex : XK} (h : tas σ H (kCall sp dvs Ex Q)) : tCall sp dvs Ex tas σ H Q := h
theorem x_test {R : Bool → Hp → Prop} (h : te σ H (kTest R)) : tTest te σ H R := h
theorem x_tB {R : Bool → Hp → Prop} (h : te σ H (kTest R)) : tB te σ H R := h
theorem x_truth {K : PySem.W.Frag} {R : Bool → Hp → Prop} (h : te σ H (kTru K R)) : tTruth K te σ H R := h
theorem x_bool {R : Bool → Hp → Prop} {b : Bool} (fo : FO E G O ((x, .raw (.bl b)) :: S) F σ H) (k : FO E G O S F σ H → R b H) : kTest R x H := ⟨b, fo.top.raw_eq, k fo.pop⟩
theorem x_mkTup (fo : FO E G O S F σ H) (t : Taken S vs ds S0) (hl : vs.length ≤ 1000) (k : ∀ p F' H', FO E G O ((.ref p, .tup ds) :: S0) F' σ H' → Q (.ref p) H') : kTup Q vs H :=
  ⟨Nat.le_trans hl (by decide), fun p hp => k p _ _ (((fo.taken t).alloc hp).push (.tup upd_same ((fo.rpl t).mono (sub_upd (fo.sub.none hp)))))⟩
theorem x_mkLst (fo : FO E G O S F σ H) (t : Taken S vs ds S0) (hl : vs.length ≤ 1000) (k : ∀ p F' H', FO E G O ((.ref p, .lst ds) :: S0) F' σ H' → Q (.ref p) H') : kLst Q vs H :=
  ⟨Nat.le_trans hl (by decide), fun p hp => k p _ _ (((fo.taken t).alloc hp).push (.lst upd_same ((fo.rpl t).mono (sub_upd (fo.sub.none hp)))))⟩
theorem x_mkLstO (fo : FO E G O S F σ H) (t : Taken S vs ds S0) (hl : vs.length ≤ 1000) (k : ∀ p H', FO E G ((p, ds) :: O) ((.ref p, .raw (.ref p)) :: S0) F σ H' → Q (.ref p) H') : kLstO Q vs H :=
  ⟨Nat.le_trans hl (by decide), fun p hp => k p _ (((fo.taken t).allocO hp (fo.rpl t)).push (.raw _))⟩
/-! ### tests -/
variable {t u : TT} {R : Bool → Hp → Prop}
theorem x_and (h : t σ H fun c H1 => if c = true then u σ H1 R else R false H1) : tAnd t u σ H R := h
theorem x_or (h : t σ H fun c H1 => if c = true then R true H1 else u σ H1 R) : tOr t u σ H R := h
theorem x_not (h : t σ H fun c H1 => R (!c) H1) : tNot t σ H R := h
theorem x_if (h : t σ H fun c H1 => if c = true then ta σ H1 Q else tb σ H1 Q) : tIf t ta tb σ H Q := h
theorem x_yes (h : R true H) : tYes σ H R := h
def kAndV (tb : TE) (σ : L2.St) (Q : VK) (x : V) (H : Hp) : Prop := ∃ c, x = .bl c ∧ if c = true then tb σ H Q else Q (.bl false) H
def kOrV (tb : TE) (σ : L2.St) (Q : VK) (x : V) (H : Hp) : Prop := ∃ c, x = .bl c ∧ if c = true then Q (.bl true) H else tb σ H Q
def kNotV (Q : VK) (x : V) (H : Hp) : Prop := ∃ c, x = .bl c ∧ Q (.bl (!c)) H
theorem x_andV (h : ta σ H (kAndV tb σ Q)) : tAndV ta tb σ H Q := h
theorem x_orV (h : ta σ H (kOrV tb σ Q)) : tOrV ta tb σ H Q := h
theorem x_notV (h : ta σ H (kNotV Q)) : tNotV ta σ H Q := h
theorem x_kAndV {b : Bool} (fo : FO E G O ((x, .raw (.bl b)) :: S) F σ H) (k1 : b = true → FO E G O S F σ H → tb σ H Q) (k2 : b = false → FO E G O ((.bl false, .raw (.bl false)) :: S) F σ H → Q (.bl false) H) : kAndV tb σ Q x H := by
  refine ⟨b, fo.top.raw_eq, ?_⟩
  cases b with
  | true => exact k1 rfl fo.pop
  | false => exact k2 rfl (fo.pop.push (.raw _))
theorem x_kOrV {b : Bool} (fo : FO E G O ((x, .raw (.bl b)) :: S) F σ H) (k1 : b = true → FO E G O ((.bl true, .raw (.bl true)) :: S) F σ H → Q (.bl true) H) (k2 : b = false → FO E G O S F σ H → tb σ H Q) : kOrV tb σ Q x H := by
  refine ⟨b, fo.top.raw_eq, ?_⟩
  cases b with
  | true => exact k1 rfl (fo.pop.push (.raw _))
  | false => exact k2 rfl fo.pop
theorem x_kNotV {b : Bool} (fo : FO E G O ((x, .raw (.bl b)) :: S) F σ H) (k : FO E G O ((.bl (!b), .raw (.bl (!b))) :: S) F σ H → Q (.bl (!b)) H) : kNotV Q x H := ⟨b, fo.top.raw_eq, k (fo.pop.push (.raw _))⟩
/-! ### statements -/
variable {D : Ends} {s1 s2 : TS} {g : TG}
theorem x_seq (h : s1 { D with nx := s2 D } σ H) : tSeq s1 s2 D σ H := h
theorem x_next (h : D.nx σ H) : tNext D σ H := h
theorem x_brk (h : D.bk σ H) : tBreak D σ H := h
theorem x_cont (h : D.ct σ H) : tCont D σ H := h
theorem x_asg (h : te σ H fun x H1 => g x σ H1 D.nx) : tAsg te g D σ H := h
theorem x_drop (h : te σ H fun _ H1 => D.nx σ H1) : tDrop te D σ H := h
theorem x_ret (h : te σ H D.rt) : tRet te D σ H := h
theorem x_retN (h : D.rt .non H) : tRetN D σ H := h
theorem x_ifS (h : t σ H fun b H1 => if b = true then s1 D σ H1 else s2 D σ H1) : tIfS t s1 s2 D σ H := h
variable {Z : L2.St → Hp → Prop}
theorem x_gname {i : Nat} (fo : FO E G O ((x, d) :: S) F σ H) (k : ∀ σ', FO E (G.set i (some d)) O S F σ' H → Z σ' H) : gName i x σ H Z := k _ fo.set
theorem x_gnil {ws : List V} (h : ws = []) (k : Z σ H) : gNil ws σ H Z := ⟨h, k⟩
theorem x_gcons {ts : TGs} {w : V} {ws : List V} (k : g w σ H fun σ' H' => ts ws σ' H' Z) : gCons g ts (w :: ws) σ H Z := ⟨w, ws, rfl, k⟩
theorem x_gtup2 {K : PySem.W.Frag} {ts : TGs} {d1 d2 : DL.D} (fo : FO E G O ((x, .tup [d1, d2]) :: S) F σ H) (k : ∀ v1 v2, FO E G O ((v1, d1) :: (v2, d2) :: S) F σ H → ts [v1, v2] σ H Z) : gTup K 2 ts x σ H Z := by
  obtain ⟨a, xs, rfl, h, r⟩ := fo.top.tup_at
  obtain ⟨v1, ws, rfl, r1, r⟩ := r.cons_of
  obtain ⟨v2, ws, rfl, r2, r⟩ := r.cons_of
  have := r.nil_eq; subst this
  exact ⟨a, _, rfl, .inl (.inl (fo.sub _ _ h)), rfl, k _ _ ((fo.pop.push r2).push r1)⟩
theorem x_gtup3 {K : PySem.W.Frag} {ts : TGs} {d1 d2 d3 : DL.D} (fo : FO E G O ((x, .tup [d1, d2, d3]) :: S) F σ H) (k : ∀ v1 v2 v3, FO E G O ((v1, d1) :: (v2, d2) :: (v3, d3) :: S) F σ H → ts [v1, v2, v3] σ H Z) : gTup K 3 ts x σ H Z := by
  obtain ⟨a, xs, rfl, h, r⟩ := fo.top.tup_at
  obtain ⟨v1, ws, rfl, r1, r⟩ := r.cons_of
  obtain ⟨v2, ws, rfl, r2, r⟩ := r.cons_of
  obtain ⟨v3, ws, rfl, r3, r⟩ := r.cons_of
  have := r.nil_eq; subst this
  exact ⟨a, _, rfl, .inl (.inl (fo.sub _ _ h)), rfl, k _ _ _ (((fo.pop.push r3).push r2).push r1)⟩
theorem x_gtup5 {K : PySem.W.Frag} {ts : TGs} {d1 d2 d3 d4 d5 : DL.D} (fo : FO E G O ((x, .tup [d1, d2, d3, d4, d5]) :: S) F σ H) (k : ∀ v1 v2 v3 v4 v5, FO E G O ((v1, d1) :: (v2, d2) :: (v3, d3) :: (v4, d4) :: (v5, d5) :: S) F σ H → ts [v1, v2, v3, v4, v5] σ H Z) : gTup K 5 ts x σ H Z := by
  obtain ⟨a, xs, rfl, h, r⟩ := fo.top.tup_at
  obtain ⟨v1, ws, rfl, r1, r⟩ := r.cons_of
  obtain ⟨v2, ws, rfl, r2, r⟩ := r.cons_of
  obtain ⟨v3, ws, rfl, r3, r⟩ := r.cons_of
  obtain ⟨v4, ws, rfl, r4, r⟩ := r.cons_of
  obtain ⟨v5, ws, rfl, r5, r⟩ := r.cons_of
  have := r.nil_eq; subst this
  exact ⟨a, _, rfl, .inl (.inl (fo.sub _ _ h)), rfl, k _ _ _ _ _ (((((fo.pop.push r5).push r4).push r3).push r2).push r1)⟩
/-- two targets, two values written -/
theorem x_par {i j : Nat} (h : tas σ H fun vs H1 => ∃ v w, vs = [v, w] ∧ D.nx ((σ.set i (some v)).set j (some w)) H1) : tPar i j tas D σ H := h
theorem x_par2 {i j : Nat} (fo : FO E G O ((y, e) :: (x, d) :: S) F σ H) (k : ∀ σ', FO E ((G.set i (some d)).set j (some e)) O S F σ' H → Z σ' H) : ∃ v w, [x, y] = [v, w] ∧ Z ((σ.set i (some v)).set j (some w)) H := by
  refine ⟨x, y, rfl, k _ ?_⟩
  have f1 : FO E G O ((x, d) :: (y, e) :: S) F σ H := fo.weakS (by intro p hp; simp at hp ⊢; rcases hp with h | h | h <;> simp [h])
  exact f1.set.set
/-! ### what a branch decides -/
theorem ite_y {b : Bool} {A B : Prop} (hb : b = true) (h : A) : if b = true then A else B := by rw [if_pos hb]; exact h
theorem ite_n {b : Bool} {A B : Prop} (hb : b = false) (h : B) : if b = true then A else B := by rw [hb, if_neg Bool.false_ne_true]; exact h
theorem ite_b {b : Bool} {A B : Prop} (h1 : b = true → A) (h2 : b = false → B) : if b = true then A else B := by
  cases b with
  | true => rw [if_pos rfl]; exact h1 rfl
  | false => rw [if_neg Bool.false_ne_true]; exact h2 rfl
end

/-! ### promises -/
def spX (K : PySem.W.Frag) {α : Type} (M : α → Option Addr) (arg : α → List D) (pre : α → Prop) (post : α → D → Prop) : Sp := fun vs H Q _ =>
  ∃ x F, Sub F H ∧ (∀ b, M x = some b → F b = none ∧ BoxOk isBox H b) ∧ RpL K F vs (arg x) ∧ pre x ∧ ∀ v d F' H', Step (M x) isBox F H F' H' → Rp K F' v d → post x d → Q v H'
section
variable {E : Eb} {G : List (Option D)} {O : List (Addr × List D)} {S S0 : List (V × D)} {F F' H H' : Hp} {σ : L2.St} {v : V} {d : D} {Q : VK} {vs : List V} {ds : List D} {Ex : XK}
variable {α : Type} {M : α → Option Addr} {arg : α → List D} {pre : α → Prop} {post : α → D → Prop}
/-- a call by its promise -/
theorem x_fn (x : α) (fo : FO E G O S F σ H) (t : Taken S vs ds S0) (ha : ds = arg x) (hM : M x = none ∨ (M x = E.M ∧ E.B = isBox)) (hp : pre x)
    (k : ∀ r e F' H', post x e → FO E G O ((r, e) :: S0) F' σ H' → Q r H') : kCall (spX E.K M arg pre post) [] Ex Q vs H := by
  have rl := fo.rpl t
  rw [ha] at rl
  refine ⟨x, F, fo.sub, fun b q => ?_, ?_, hp, fun v d F' H' s r p => k v d F' H' p (((fo.taken t).step ?_).push r)⟩
  · rcases hM with h | h
    · rw [h] at q; cases q
    · rw [h.1] at q
      have z := fo.box b q
      rw [h.2] at z
      exact ⟨fo.bx b q, z⟩
  · rw [List.append_nil]; exact rl
  · rcases hM with h | h
    · rw [h] at s; exact s.any fo.box
    · rw [h.1, ← h.2] at s; exact s
/-- the body begins -/
theorem fo_start {n : Nat} {N : List Str} (h : spX E.K M arg pre post vs H Q Ex) : ∃ (x : α) (F : Hp), pre x ∧ vs.length = (arg x).length ∧
    FO ⟨E.K, M x, isBox, F, H⟩ ((arg x).map some ++ List.replicate (N.length - (arg x).length) none) [] [] F (L2.start N vs) H ∧
    ∀ v d F' H', Step (M x) isBox F H F' H' → Rp E.K F' v d → post x d → Q v H' := by
  obtain ⟨x, F, s, b, r, p, k⟩ := h
  have hl : vs.length = (arg x).length := r.length
  refine ⟨x, F, p, hl, ⟨.same s (fun c q => (b c q).2), fun c q => (b c q).1, ?_, fun i d q => ?_, (fun _ h => nomatch h), (fun _ h => nomatch h), List.nodup_nil⟩, k⟩
  · unfold L2.start
    simp [hl]
  · have hi : i < (arg x).length := by
      rcases Nat.lt_or_ge i (arg x).length with h | h
      · exact h
      · rw [List.getElem?_append_right (by simpa using h)] at q
        rw [List.getElem?_replicate] at q
        split at q <;> cases q
    rw [List.getElem?_append_left (by simpa using hi), List.getElem?_map] at q
    cases e : (arg x)[i]? with
    | none => rw [e] at q; cases q
    | some d' =>
      rw [e] at q; cases q
      obtain ⟨v, h1, h2⟩ := r.get e
      refine ⟨v, ?_, h2⟩
      unfold L2.start
      rw [List.getElem?_append_left (by simpa [hl] using hi), List.getElem?_map, h1]; rfl
/-- the body ends -/
theorem x_done {P : D → Prop} (k : ∀ v d F' H', Step E.M E.B E.F0 E.H0 F' H' → Rp E.K F' v d → P d → Q v H') (fo : FO E G O ((v, d) :: S) F σ H) (p : P d) : Q v H := k v d F H fo.st fo.top p
theorem x_doneN {P : D → Prop} (k : ∀ v d F' H', Step E.M E.B E.F0 E.H0 F' H' → Rp E.K F' v d → P d → Q v H') (fo : FO E G O S F σ H) (p : P .non) : Q .non H := k .non _ F H fo.st (.raw _) p
/-- .. with a list that the body owned -/
theorem x_doneO {P : D → Prop} {p : Addr} (k : ∀ v d F' H', Step E.M E.B E.F0 E.H0 F' H' → Rp E.K F' v d → P d → Q v H') (fo : FO E G ((p, ds) :: O) S F σ H) (h : P (.lst ds)) : Q (.ref p) H := by
  obtain ⟨F', f, _⟩ := fo.freeze
  exact k _ _ F' H f.st f.top h
end
end DL

set_option maxHeartbeats 4000000
namespace DL
open PySem L2
/-! ### data that == sees -/
mutual
def toPy : D → Option PyData
  | .raw .non => some .none
  | .raw (.bl b) => some (.bool b)
  | .raw (.int i) => some (.int i)
  | .raw (.str s) => some (.str s)
  | .lst xs => (toPyL xs).map .list
  | .tup xs => (toPyL xs).map .tuple
  | _ => none
def toPyL : List D → Option (List PyData)
  | [] => some []
  | x :: xs => match toPy x, toPyL xs with
    | some p, some ps => some (p :: ps)
    | _, _ => none
end
section
variable {K : PySem.W.Frag} {F H : Hp}
mutual
theorem Rp.dp (s : Sub F H) : ∀ {v : V} {d : D} {p : PyData}, Rp K F v d → toPy d = some p → Dp K H v p
  | _, _, _, .raw v, e => by
    cases v <;> simp only [toPy] at e <;> (try cases e)
    · exact .non
    · exact .bl _
    · exact .int _
    · exact .str _
  | _, _, _, .lst (ds := ds) h r, e => by
    simp only [toPy] at e
    cases q : toPyL ds with
    | none => rw [q] at e; cases e
    | some ps => rw [q] at e; cases e; exact .lst (.inl (.inl (s _ _ h))) (RpL.dp s r q)
  | _, _, _, .tup (ds := ds) h r, e => by
    simp only [toPy] at e
    cases q : toPyL ds with
    | none => rw [q] at e; cases e
    | some ps => rw [q] at e; cases e; exact .tup (.inl (.inl (s _ _ h))) (RpL.dp s r q)
  | _, _, _, .obj h n r, e => by simp only [toPy] at e; cases e
  | _, _, _, .pin h, e => by simp only [toPy] at e; cases e
theorem RpL.dp (s : Sub F H) : ∀ {vs : List V} {ds : List D} {ps : List PyData}, RpL K F vs ds → toPyL ds = some ps → DpAll K H vs ps
  | _, _, _, .nil, e => by simp only [toPyL] at e; cases e; exact .nil
  | _, _, _, .cons (d := d) (ds := ds) h r, e => by
    simp only [toPyL] at e
    cases q : toPy d with
    | none => rw [q] at e; cases e
    | some p =>
      cases q2 : toPyL ds with
      | none => rw [q, q2] at e; cases e
      | some ps => rw [q, q2] at e; cases e; exact .cons (Rp.dp s h q) (RpL.dp s r q2)
end
end

/-- a list at hand: known for ever, or one that the body owns -/
def IsL (O : List (Addr × List D)) (d : D) (xs : List D) : Prop := d = .lst xs ∨ ∃ p, d = .raw (.ref p) ∧ (p, xs) ∈ O
section
variable {E : Eb} {G : List (Option D)} {O : List (Addr × List D)} {S S0 : List (V × D)} {F F' H H' : Hp} {σ : L2.St} {v x y : V} {d e : D} {Q : VK} {vs : List V} {ds as bs : List D}
theorem FO.lstOf (fo : FO E G O S F σ H) (r : Rp E.K F v d) (h : IsL O d ds) : ∃ a ws, v = .ref a ∧ H a = some (.lst ws) ∧ RpL E.K F ws ds := by
  rcases h with rfl | ⟨p, rfl, hm⟩
  · obtain ⟨a, ws, rfl, h, r⟩ := r.lst_at
    exact ⟨a, ws, rfl, fo.sub _ _ h, r⟩
  · obtain ⟨ws, h, r2, _⟩ := fo.own _ hm
    exact ⟨p, ws, r.raw_eq, h, r2⟩
theorem FO.tupOf (fo : FO E G O S F σ H) (r : Rp E.K F v (.tup ds)) : ∃ a ws, v = .ref a ∧ H a = some (.tup ws) ∧ RpL E.K F ws ds := by
  obtain ⟨a, ws, rfl, h, r⟩ := r.tup_at
  exact ⟨a, ws, rfl, fo.sub _ _ h, r⟩
theorem FO.snd (fo : FO E G O ((y, e) :: (x, d) :: S) F σ H) : Rp E.K F x d := fo.pop.top
/-- a new list, tuple of known items -/
theorem FO.newL {p : Addr} (fo : FO E G O S F σ H) (hp : H p = none) (r : RpL E.K F vs ds) : FO E G O ((.ref p, .lst ds) :: S) (upd F p (.lst vs)) σ (upd H p (.lst vs)) :=
  (fo.alloc hp).push (.lst upd_same (r.mono (sub_upd (fo.sub.none hp))))
theorem FO.newT {p : Addr} (fo : FO E G O S F σ H) (hp : H p = none) (r : RpL E.K F vs ds) : FO E G O ((.ref p, .tup ds) :: S) (upd F p (.tup vs)) σ (upd H p (.tup vs)) :=
  (fo.alloc hp).push (.tup upd_same (r.mono (sub_upd (fo.sub.none hp))))

/-! ### operators -/
def rAddU (K : PySem.W.Frag) : R2 := fun x y H Q => (∃ i j, x = .int i ∧ y = .int j ∧ Q (.int (i + j)) H) ∨ (∃ i j, x = .str i ∧ y = .str j ∧ i.length + j.length ≤ sizeLine ∧ Q (.str (i ++ j)) H) ∨ rCat x y H Q ∨ rCatA K x y H Q
theorem p_add {X : Cx} : OpR X (binaryOp .Add) (rAddU X.K) := op_add.or (op_add_str.or (op_cat.or op_catA))
theorem x_addI {K : PySem.W.Frag} {i j : Int} (fo : FO E G O ((y, .raw (.int j)) :: (x, .raw (.int i)) :: S) F σ H) (k : FO E G O ((.int (i + j), .raw (.int (i + j))) :: S) F σ H → Q (.int (i + j)) H) : rAddU K x y H Q :=
  .inl ⟨i, j, fo.snd.raw_eq, fo.top.raw_eq, k (fo.pop.pop.push (.raw _))⟩
theorem x_addS {K : PySem.W.Frag} {i j : Str} (fo : FO E G O ((y, .raw (.str j)) :: (x, .raw (.str i)) :: S) F σ H) (hl : i.length + j.length ≤ sizeLine) (k : FO E G O ((.str (i ++ j), .raw (.str (i ++ j))) :: S) F σ H → Q (.str (i ++ j)) H) : rAddU K x y H Q :=
  .inr (.inl ⟨i, j, fo.snd.raw_eq, fo.top.raw_eq, hl, k (fo.pop.pop.push (.raw _))⟩)
theorem x_addL {K : PySem.W.Frag} (fo : FO E G O ((y, e) :: (x, d) :: S) F σ H) (hx : IsL O d as) (hy : IsL O e bs) (hl : as.length + bs.length ≤ 100000) (k : ∀ p F' H', FO E G O ((.ref p, .lst (as ++ bs)) :: S) F' σ H' → Q (.ref p) H') : rAddU K x y H Q := by
  obtain ⟨a, ws, rfl, h1, r1⟩ := fo.lstOf fo.snd hx
  obtain ⟨b, us, rfl, h2, r2⟩ := fo.lstOf fo.top hy
  exact .inr (.inr (.inl ⟨a, b, ws, us, rfl, rfl, h1, h2, by rw [r1.length, r2.length]; exact Nat.le_trans hl (by decide), fun p hp => k p _ _ (fo.pop.pop.newL hp (r1.append r2))⟩))
theorem x_addT {K : PySem.W.Frag} (fo : FO E G O ((y, .tup bs) :: (x, .tup as) :: S) F σ H) (hl : as.length + bs.length ≤ 100000) (k : ∀ v F' H', FO E G O ((v, .tup (as ++ bs)) :: S) F' σ H' → Q v H') : rAddU K x y H Q := by
  obtain ⟨a, ws, rfl, h1, r1⟩ := fo.tupOf fo.snd
  obtain ⟨b, us, rfl, h2, r2⟩ := fo.tupOf fo.top
  refine .inr (.inr (.inr ⟨a, b, ws, us, rfl, rfl, .inl (.inl h1), .inl (.inl h2), by rw [r1.length, r2.length]; exact Nat.le_trans hl (by decide), fun h => ?_, fun h h' => ?_, fun _ _ p hp => k _ _ _ (fo.pop.pop.newT hp (r1.append r2))⟩))
  · have ea : as = [] := by
      have := r1.length; rw [h] at this; exact List.length_eq_zero_iff.mp this.symm
    refine k _ _ _ (fo.pop.pop.push ?_)
    rw [ea]; exact fo.top
  · have eb : bs = [] := by
      have := r2.length; rw [h'] at this; exact List.length_eq_zero_iff.mp this.symm
    refine k _ _ _ (fo.pop.pop.push ?_)
    rw [eb, List.append_nil]; exact fo.snd
def rSubI : R2 := rI0 fun i j => .int (i - j)
theorem p_sub {X : Cx} : OpR X (binaryOp .Sub) rSubI := op_sub
theorem x_subI {i j : Int} (fo : FO E G O ((y, .raw (.int j)) :: (x, .raw (.int i)) :: S) F σ H) (k : FO E G O ((.int (i - j), .raw (.int (i - j))) :: S) F σ H → Q (.int (i - j)) H) : rSubI x y H Q :=
  ⟨i, j, fo.snd.raw_eq, fo.top.raw_eq, k (fo.pop.pop.push (.raw _))⟩
def rMulU : R2 := fun x y H Q => rI CMul (fun i j => .int (i * j)) x y H Q ∨ rRep x y H Q
theorem p_mul {X : Cx} : OpR X (binaryOp .Mult) rMulU := op_mul.or op_rep
theorem x_mulI {i j : Int} (fo : FO E G O ((y, .raw (.int j)) :: (x, .raw (.int i)) :: S) F σ H) (hc : CMul i j) (k : FO E G O ((.int (i * j), .raw (.int (i * j))) :: S) F σ H → Q (.int (i * j)) H) : rMulU x y H Q :=
  .inl ⟨i, j, fo.snd.raw_eq, fo.top.raw_eq, hc, k (fo.pop.pop.push (.raw _))⟩
theorem RpL.rep {K : PySem.W.Frag} (r : RpL K F vs ds) : ∀ n : Nat, RpL K F (List.replicate n vs).flatten (List.replicate n ds).flatten
  | 0 => by simpa using RpL.nil
  | n + 1 => by
    rw [List.replicate_succ, List.replicate_succ, List.flatten_cons, List.flatten_cons]
    exact r.append (RpL.rep r n)
theorem x_mulL {j : Int} (fo : FO E G O ((y, .raw (.int j)) :: (x, d) :: S) F σ H) (hx : IsL O d as) (h0 : 0 ≤ j) (h1 : j ≤ 1000) (h2 : as.length ≤ 1000) (k : ∀ p F' H', FO E G O ((.ref p, .lst (List.replicate j.toNat as).flatten) :: S) F' σ H' → Q (.ref p) H') : rMulU x y H Q := by
  obtain ⟨a, ws, rfl, ha, r1⟩ := fo.lstOf fo.snd hx
  have hz : ws.length * j.toNat ≤ sizeLine := by
    rw [r1.length]
    have : j.toNat ≤ 1000 := by omega
    exact Nat.le_trans (Nat.mul_le_mul h2 this) (by decide)
  exact .inr ⟨a, j, ws, rfl, fo.top.raw_eq, ha, by omega, by omega, hz, fun p hp => k p _ _ (fo.pop.pop.newL hp (r1.rep _))⟩
def rModI : R2 := rI (fun _ j => 0 < j) fun i j => .int (i % j)
def rFdivI : R2 := rI CDiv fun i j => .int (i / j)
def rPowI : R2 := rI CPow fun i j => .int (i ^ j.toNat)
theorem p_mod {X : Cx} : OpR X (binaryOp .Mod) rModI := op_mod
theorem p_fdiv {X : Cx} : OpR X (binaryOp .FloorDiv) rFdivI := op_fdiv
theorem p_pow {X : Cx} : OpR X (binaryOp .Pow) rPowI := op_pow
theorem x_modI {i j : Int} (fo : FO E G O ((y, .raw (.int j)) :: (x, .raw (.int i)) :: S) F σ H) (hc : 0 < j) (k : FO E G O ((.int (i % j), .raw (.int (i % j))) :: S) F σ H → Q (.int (i % j)) H) : rModI x y H Q :=
  ⟨i, j, fo.snd.raw_eq, fo.top.raw_eq, hc, k (fo.pop.pop.push (.raw _))⟩
theorem x_fdivI {i j : Int} (fo : FO E G O ((y, .raw (.int j)) :: (x, .raw (.int i)) :: S) F σ H) (hc : 0 < j ∧ j < 1073741824) (k : FO E G O ((.int (i / j), .raw (.int (i / j))) :: S) F σ H → Q (.int (i / j)) H) : rFdivI x y H Q :=
  ⟨i, j, fo.snd.raw_eq, fo.top.raw_eq, hc, k (fo.pop.pop.push (.raw _))⟩
theorem x_powI {i j : Int} (fo : FO E G O ((y, .raw (.int j)) :: (x, .raw (.int i)) :: S) F σ H) (hc : CPow i j) (k : FO E G O ((.int (i ^ j.toNat), .raw (.int (i ^ j.toNat))) :: S) F σ H → Q (.int (i ^ j.toNat)) H) : rPowI x y H Q :=
  ⟨i, j, fo.snd.raw_eq, fo.top.raw_eq, hc, k (fo.pop.pop.push (.raw _))⟩
def rNegI : V → Hp → VK → Prop := rU fun i => .int (-i)
theorem p_neg {X : Cx} : UnR X (unaryOp .USub) rNegI := un_neg
theorem x_negI {i : Int} (fo : FO E G O ((x, .raw (.int i)) :: S) F σ H) (k : FO E G O ((.int (-i), .raw (.int (-i))) :: S) F σ H → Q (.int (-i)) H) : rNegI x H Q :=
  ⟨i, fo.top.raw_eq, k (fo.pop.push (.raw _))⟩
/-! ### comparisons -/
def rEqU (K : PySem.W.Frag) : R2 := fun x y H Q => rEqD K x y H Q ∨ rEq x y H Q
def rNeU (K : PySem.W.Frag) : R2 := fun x y H Q => rNeD K x y H Q ∨ rNe x y H Q
theorem p_eq {X : Cx} {k : Nat} (hr : Room k X.A) : OpR X (compareOp .Eq) (rEqU X.K) := (op_eqD hr.units).or op_eq
theorem p_ne {X : Cx} {k : Nat} (hr : Room k X.A) : OpR X (compareOp .NotEq) (rNeU X.K) := (op_neD hr.units).or op_ne
theorem shaped_int (i : Int) : SeqAt.shaped (.int i) = true := by rfl
theorem eqv_int (i j : Int) : PyData.eqv (.int i) (.int j) = decide (i = j) := by
  show (i == j) = _
  by_cases h : i = j
  · subst h; simp
  · simp [h]
theorem x_eqI {i j : Int} (fo : FO E G O ((y, .raw (.int j)) :: (x, .raw (.int i)) :: S) F σ H) (k : FO E G O ((.bl (decide (i = j)), .raw (.bl (decide (i = j)))) :: S) F σ H → Q (.bl (decide (i = j))) H) : rEqU E.K x y H Q := by
  refine .inl ⟨.int i, .int j, ?_, ?_, rfl, rfl, ?_⟩
  · rw [fo.snd.raw_eq]; exact .int i
  · rw [fo.top.raw_eq]; exact .int j
  · rw [eqv_int]; exact k (fo.pop.pop.push (.raw _))
theorem x_neI {i j : Int} (fo : FO E G O ((y, .raw (.int j)) :: (x, .raw (.int i)) :: S) F σ H) (k : FO E G O ((.bl (!decide (i = j)), .raw (.bl (!decide (i = j)))) :: S) F σ H → Q (.bl (!decide (i = j))) H) : rNeU E.K x y H Q := by
  refine .inl ⟨.int i, .int j, ?_, ?_, rfl, rfl, ?_⟩
  · rw [fo.snd.raw_eq]; exact .int i
  · rw [fo.top.raw_eq]; exact .int j
  · rw [eqv_int]; exact k (fo.pop.pop.push (.raw _))
theorem x_eqD {p q : PyData} (fo : FO E G O ((y, e) :: (x, d) :: S) F σ H) (hp : toPy d = some p) (hq : toPy e = some q) (sp : SeqAt.shaped p = true) (sq : SeqAt.shaped q = true)
    (k : FO E G O ((.bl (PyData.eqv p q), .raw (.bl (PyData.eqv p q))) :: S) F σ H → Q (.bl (PyData.eqv p q)) H) : rEqU E.K x y H Q :=
  .inl ⟨p, q, fo.snd.dp fo.sub hp, fo.top.dp fo.sub hq, sp, sq, k (fo.pop.pop.push (.raw _))⟩
theorem x_neD {p q : PyData} (fo : FO E G O ((y, e) :: (x, d) :: S) F σ H) (hp : toPy d = some p) (hq : toPy e = some q) (sp : SeqAt.shaped p = true) (sq : SeqAt.shaped q = true)
    (k : FO E G O ((.bl (!PyData.eqv p q), .raw (.bl (!PyData.eqv p q))) :: S) F σ H → Q (.bl (!PyData.eqv p q)) H) : rNeU E.K x y H Q :=
  .inl ⟨p, q, fo.snd.dp fo.sub hp, fo.top.dp fo.sub hq, sp, sq, k (fo.pop.pop.push (.raw _))⟩
theorem x_eqS {i j : Str} (fo : FO E G O ((y, .raw (.str j)) :: (x, .raw (.str i)) :: S) F σ H) (k : FO E G O ((.bl (decide (i = j)), .raw (.bl (decide (i = j)))) :: S) F σ H → Q (.bl (decide (i = j))) H) : rEqU E.K x y H Q := by
  have e1 := fo.top.raw_eq
  have e2 := fo.snd.raw_eq
  subst e1 e2
  have e : decide (V.str i = V.str j) = decide (i = j) := by simp
  refine .inr ⟨rfl, ?_⟩
  rw [e]; exact k (fo.pop.pop.push (.raw _))
theorem x_neS {i j : Str} (fo : FO E G O ((y, .raw (.str j)) :: (x, .raw (.str i)) :: S) F σ H) (k : FO E G O ((.bl (!decide (i = j)), .raw (.bl (!decide (i = j)))) :: S) F σ H → Q (.bl (!decide (i = j))) H) : rNeU E.K x y H Q := by
  have e1 := fo.top.raw_eq
  have e2 := fo.snd.raw_eq
  subst e1 e2
  have e : decide (V.str i = V.str j) = decide (i = j) := by simp
  refine .inr ⟨rfl, ?_⟩
  rw [e]; exact k (fo.pop.pop.push (.raw _))
/-- a list of the body's against [] -/
theorem eqv_nil (ps : List PyData) : PyData.eqv (.list ps) (.list []) = ps.isEmpty := by cases ps <;> simp [PyData.eqv, PyData.eqvAll]
def rLtI : R2 := rI0 fun i j => .bl (decide (i < j))
def rLeI : R2 := rI0 fun i j => .bl (decide (i ≤ j))
def rGtI : R2 := rI0 fun i j => .bl (decide (j < i))
def rGeI : R2 := rI0 fun i j => .bl (decide (j ≤ i))
theorem p_lt {X : Cx} : OpR X (compareOp .Lt) rLtI := op_lt
theorem p_le {X : Cx} : OpR X (compareOp .LtE) rLeI := op_le
theorem p_gt {X : Cx} : OpR X (compareOp .Gt) rGtI := op_gt
theorem p_ge {X : Cx} : OpR X (compareOp .GtE) rGeI := op_ge
theorem x_ltI {i j : Int} (fo : FO E G O ((y, .raw (.int j)) :: (x, .raw (.int i)) :: S) F σ H) (k : FO E G O ((.bl (decide (i < j)), .raw (.bl (decide (i < j)))) :: S) F σ H → Q (.bl (decide (i < j))) H) : rLtI x y H Q :=
  ⟨i, j, fo.snd.raw_eq, fo.top.raw_eq, k (fo.pop.pop.push (.raw _))⟩
theorem x_leI {i j : Int} (fo : FO E G O ((y, .raw (.int j)) :: (x, .raw (.int i)) :: S) F σ H) (k : FO E G O ((.bl (decide (i ≤ j)), .raw (.bl (decide (i ≤ j)))) :: S) F σ H → Q (.bl (decide (i ≤ j))) H) : rLeI x y H Q :=
  ⟨i, j, fo.snd.raw_eq, fo.top.raw_eq, k (fo.pop.pop.push (.raw _))⟩
theorem x_gtI {i j : Int} (fo : FO E G O ((y, .raw (.int j)) :: (x, .raw (.int i)) :: S) F σ H) (k : FO E G O ((.bl (decide (j < i)), .raw (.bl (decide (j < i)))) :: S) F σ H → Q (.bl (decide (j < i))) H) : rGtI x y H Q :=
  ⟨i, j, fo.snd.raw_eq, fo.top.raw_eq, k (fo.pop.pop.push (.raw _))⟩
theorem x_geI {i j : Int} (fo : FO E G O ((y, .raw (.int j)) :: (x, .raw (.int i)) :: S) F σ H) (k : FO E G O ((.bl (decide (j ≤ i)), .raw (.bl (decide (j ≤ i)))) :: S) F σ H → Q (.bl (decide (j ≤ i))) H) : rGeI x y H Q :=
  ⟨i, j, fo.snd.raw_eq, fo.top.raw_eq, k (fo.pop.pop.push (.raw _))⟩
/-- is None: what the datum says -/
def isNon : D → Bool
  | .raw .non => true
  | _ => false
theorem Rp.isNon {K : PySem.W.Frag} (r : Rp K F v d) : decide (v = .non) = DL.isNon d := by
  cases r with
  | raw v => cases v <;> simp [DL.isNon]
  | lst _ _ => simp [DL.isNon]
  | tup _ _ => simp [DL.isNon]
  | obj _ _ _ => simp [DL.isNon]
  | pin _ => simp [DL.isNon]
def rIsNn : R2 := fun x y H Q => y = .non ∧ Q (.bl (decide (x = .non))) H
def rNotNn : R2 := fun x y H Q => y = .non ∧ Q (.bl (!decide (x = .non))) H
theorem p_isN {X : Cx} : OpR X (compareOp .Is) rIsNn := op_isN
theorem p_notN {X : Cx} : OpR X (compareOp .IsNot) rNotNn := op_notN
theorem x_isN (fo : FO E G O ((y, .raw .non) :: (x, d) :: S) F σ H) (k : FO E G O ((.bl (isNon d), .raw (.bl (isNon d))) :: S) F σ H → Q (.bl (isNon d)) H) : rIsNn x y H Q :=
  ⟨fo.top.raw_eq, by rw [fo.snd.isNon]; exact k (fo.pop.pop.push (.raw _))⟩
theorem x_notN (fo : FO E G O ((y, .raw .non) :: (x, d) :: S) F σ H) (k : FO E G O ((.bl (!isNon d), .raw (.bl (!isNon d))) :: S) F σ H → Q (.bl (!isNon d)) H) : rNotNn x y H Q :=
  ⟨fo.top.raw_eq, by rw [fo.snd.isNon]; exact k (fo.pop.pop.push (.raw _))⟩
/-! ### items, slices -/
theorem RpL.atI {K : PySem.W.Frag} {i : Int} (r : RpL K F vs ds) (h : L2.atI ds i = some d) : ∃ v, L2.atI vs i = some v ∧ Rp K F v d := by
  unfold L2.atI at h ⊢
  rw [r.length]
  cases q : ixN ds.length i with
  | none => rw [q] at h; cases h
  | some j =>
    rw [q] at h
    obtain ⟨v, a, b⟩ := r.get (i := j) (d := d) h
    exact ⟨v, a, b⟩
theorem x_ixL {i : Int} (fo : FO E G O ((y, .raw (.int i)) :: (x, d) :: S) F σ H) (hx : IsL O d ds) (hi : L2.atI ds i = some e) (k : ∀ v, FO E G O ((v, e) :: S) F σ H → Q v H) : rIx E.K x y H Q := by
  obtain ⟨a, ws, rfl, h1, r1⟩ := fo.lstOf fo.snd hx
  obtain ⟨v, h2, r2⟩ := r1.atI hi
  exact .inl ⟨a, ws, i, v, rfl, fo.top.raw_eq, .inl (.inl h1), h2, k v (fo.pop.pop.push r2)⟩
theorem x_ixT {i : Int} (fo : FO E G O ((y, .raw (.int i)) :: (x, .tup ds) :: S) F σ H) (hi : L2.atI ds i = some e) (k : ∀ v, FO E G O ((v, e) :: S) F σ H → Q v H) : rIx E.K x y H Q := by
  obtain ⟨a, ws, rfl, h1, r1⟩ := fo.tupOf fo.snd
  obtain ⟨v, h2, r2⟩ := r1.atI hi
  exact .inr (.inl ⟨a, ws, i, v, rfl, fo.top.raw_eq, .inl (.inl h1), h2, k v (fo.pop.pop.push r2)⟩)
/-- a raw item of a raw list: the value itself -/
def cutD (xs : List D) (lo hi : Option Int) : List D := (xs.drop (HT.sIx xs.length 0 lo)).take (HT.sIx xs.length xs.length hi - HT.sIx xs.length 0 lo)
theorem RpL.cut {K : PySem.W.Frag} {lo hi : Option Int} (r : RpL K F vs ds) : RpL K F (cutV vs lo hi) (cutD ds lo hi) := by
  unfold cutV cutD
  rw [r.length]
  exact (r.drop _).take _
def rSlU (K : PySem.W.Frag) : V → Option Int → Option Int → Hp → VK → Prop := fun x lo hi H Q => rSlL K x lo hi H Q ∨ rSlA K x lo hi H Q
theorem p_sl {X : Cx} : SlR X (rSlU X.K) := by
  intro pins s σ H x v vl vu lo hi sl Q I rx hs pl pu h
  rcases h with h | h
  · exact sl_list pins s σ H x v vl vu lo hi sl Q I rx hs pl pu h
  · exact sl_tupA pins s σ H x v vl vu lo hi sl Q I rx hs pl pu h
theorem x_slT {lo hi : Option Int} (fo : FO E G O ((x, .tup ds) :: S) F σ H) (k : ∀ v F' H', FO E G O ((v, .tup (cutD ds lo hi)) :: S) F' σ H' → Q v H') : rSlU E.K x lo hi H Q := by
  obtain ⟨a, ws, rfl, h1, r1⟩ := fo.tupOf fo.top
  refine .inr ⟨a, ws, rfl, .inl (.inl h1), fun h => ?_, fun _ p hp => k _ _ _ (fo.pop.newT hp r1.cut)⟩
  refine k _ _ _ (fo.pop.push ?_)
  have e1 : HT.sIx ds.length 0 lo = 0 := by rw [← r1.length]; exact h.1
  have e2 : HT.sIx ds.length ds.length hi = ds.length := by rw [← r1.length]; exact h.2
  have : cutD ds lo hi = ds := by
    unfold cutD
    rw [e1, e2, List.drop_zero, Nat.sub_zero, List.take_length]
  rw [this]; exact fo.top
theorem x_slL {lo hi : Option Int} (fo : FO E G O ((x, d) :: S) F σ H) (hx : IsL O d ds) (k : ∀ p F' H', FO E G O ((.ref p, .lst (cutD ds lo hi)) :: S) F' σ H' → Q (.ref p) H') : rSlU E.K x lo hi H Q := by
  obtain ⟨a, ws, rfl, h1, r1⟩ := fo.lstOf fo.top hx
  exact .inl ⟨a, ws, rfl, .inl (.inl h1), fun p hp => k _ _ _ (fo.pop.newL hp r1.cut)⟩
variable {te : TE} {tl th : TO} {RO : Option Int → Hp → Prop}
theorem x_sl {r : V → Option Int → Option Int → Hp → VK → Prop} (h : te σ H fun x H1 => tl σ H1 fun l H2 => th σ H2 fun u H3 => r x l u H3 Q) : tSl r te tl th σ H Q := h
def kPart (R : Option Int → Hp → Prop) (x : V) (H : Hp) : Prop := ∃ i, x = .int i ∧ R (some i) H
theorem x_part (h : te σ H (kPart RO)) : tPart te σ H RO := h
theorem x_kPart {i : Int} (fo : FO E G O ((x, .raw (.int i)) :: S) F σ H) (k : FO E G O S F σ H → RO (some i) H) : kPart RO x H := ⟨i, fo.top.raw_eq, k fo.pop⟩
theorem x_nopart (k : RO none H) : tNoPart σ H RO := k
/-! ### built-ins by name -/
def cLen (K : PySem.W.Frag) : List V → Hp → VK → Prop := fun xs H Q => ∃ x n, xs = [x] ∧ LenV K x H n ∧ Q (.int n) H
theorem p_len {X : Cx} : CallR X (.builtin "len") (cLen X.K) := call_len
theorem x_lenL (fo : FO E G O ((x, d) :: S) F σ H) (hx : IsL O d ds) (k : FO E G O ((.int (ds.length : Int), .raw (.int (ds.length : Int))) :: S) F σ H → Q (.int (ds.length : Int)) H) : cLen E.K [x] H Q := by
  obtain ⟨a, ws, rfl, h1, r1⟩ := fo.lstOf fo.top hx
  exact ⟨_, ds.length, rfl, .inl ⟨ws, .inl (.inl h1), r1.length.symm⟩, k (fo.pop.push (.raw _))⟩
theorem x_lenT (fo : FO E G O ((x, .tup ds) :: S) F σ H) (k : FO E G O ((.int (ds.length : Int), .raw (.int (ds.length : Int))) :: S) F σ H → Q (.int (ds.length : Int)) H) : cLen E.K [x] H Q := by
  obtain ⟨a, ws, rfl, h1, r1⟩ := fo.tupOf fo.top
  exact ⟨_, ds.length, rfl, .inr ⟨ws, .inl (.inl h1), r1.length.symm⟩, k (fo.pop.push (.raw _))⟩
def cMax2 : List V → Hp → VK → Prop := fun xs H Q => ∃ i j, xs = [.int i, .int j] ∧ Q (.int (if j > i then j else i)) H
def cMin2 : List V → Hp → VK → Prop := fun xs H Q => ∃ i j, xs = [.int i, .int j] ∧ Q (.int (if j < i then j else i)) H
theorem p_max2 {X : Cx} (hc : X.calm = true) : CallR X (.builtin "max") cMax2 := call_max2 hc
theorem p_min2 {X : Cx} (hc : X.calm = true) : CallR X (.builtin "min") cMin2 := call_min2 hc
theorem imax_eq (i j : Int) : (if j > i then j else i) = max i j := by rw [Int.max_def]; split <;> split <;> omega
theorem imin_eq (i j : Int) : (if j < i then j else i) = min i j := by rw [Int.min_def]; split <;> split <;> omega
theorem x_max2 {i j : Int} (fo : FO E G O ((y, .raw (.int j)) :: (x, .raw (.int i)) :: S) F σ H) (k : FO E G O ((.int (max i j), .raw (.int (max i j))) :: S) F σ H → Q (.int (max i j)) H) : cMax2 [x, y] H Q :=
  ⟨i, j, by rw [fo.snd.raw_eq, fo.top.raw_eq], by rw [imax_eq]; exact k (fo.pop.pop.push (.raw _))⟩
theorem x_min2 {i j : Int} (fo : FO E G O ((y, .raw (.int j)) :: (x, .raw (.int i)) :: S) F σ H) (k : FO E G O ((.int (min i j), .raw (.int (min i j))) :: S) F σ H → Q (.int (min i j)) H) : cMin2 [x, y] H Q :=
  ⟨i, j, by rw [fo.snd.raw_eq, fo.top.raw_eq], by rw [imin_eq]; exact k (fo.pop.pop.push (.raw _))⟩
def cInt1 : List V → Hp → VK → Prop := fun xs H Q => (∃ i, xs = [.int i] ∧ Q (.int i) H) ∨ ∃ k, xs = [.bl k] ∧ Q (.int (if k then 1 else 0)) H
theorem p_int1 {X : Cx} : CallR X (.type "int") cInt1 := call_int1
theorem x_intB {b : Bool} (fo : FO E G O ((x, .raw (.bl b)) :: S) F σ H) (k : FO E G O ((.int (if b then 1 else 0), .raw (.int (if b then 1 else 0))) :: S) F σ H → Q (.int (if b then 1 else 0)) H) : cInt1 [x] H Q :=
  .inr ⟨b, by rw [fo.top.raw_eq], k (fo.pop.push (.raw _))⟩
theorem x_intI {i : Int} (fo : FO E G O ((x, .raw (.int i)) :: S) F σ H) (k : FO E G O ((.int i, .raw (.int i)) :: S) F σ H → Q (.int i) H) : cInt1 [x] H Q :=
  .inl ⟨i, by rw [fo.top.raw_eq], k (fo.pop.push (.raw _))⟩
end
end DL

set_option maxHeartbeats 4000000
namespace DL
open PySem L2
/-! ### what is walked: a list or a tuple, seen when it has come -/
def iSeqU (K : PySem.W.Frag) (tl : TE) : TI := fun σ H R => tl σ H fun x H1 => ∃ a, x = .ref a ∧ (((∃ xs, SqL K H1 a xs) ∧ R (Itl K a) H1) ∨ ((∃ xs, SqT K H1 a xs) ∧ R (Itt K a) H1))
section
variable {X : Cx} {tg l : Expr} {tl : TE}
theorem newIt {pins : List (Addr × Obj)} {σ : L2.St} {H : Hp} {s : Shared} {o : Obj} (I : Inv X pins σ H s) : Inv X pins σ H { s with heap := s.heap.push o } ∧ ∀ b ∈ [s.heap.objs.size], FpOk X pins H b := by
  constructor
  · exact I.kept (t' := s.toks) fun b o e => Heap.get?_push_of_some _ e
  · intro b hb
    rw [List.mem_singleton] at hb
    rw [hb]
    exact I.fpOk (Nat.le_refl _) (I.hok.fresh (Nat.le_refl _))
theorem p_seq (hl : PE X l tl) : PI X tg l (iSeqU X.K tl) := by
  constructor
  intro pins s σ H R I h
  refine thn (hl.run pins s σ H _ I h) ?_
  rintro v s1 ⟨x, H1, I1, r1, a, rfl, q⟩
  cases r1
  rcases q with ⟨⟨xs, hq⟩, q⟩ | ⟨⟨xs, hq⟩, q⟩
  · obtain ⟨its, rv, p, hz⟩ := I1.list hq
    have n := fun o => newIt (o := o) I1
    exact wpAny_pyIter_list p.isList ⟨_, _, _, _, H1, rfl, (n _).1, turn_list a _, ⟨_, Heap.get?_push_size _ rfl, rfl, rfl⟩, (n { cls := .none, data := .plain }).2, q⟩
  · obtain ⟨its, rv, p, hz⟩ := I1.tuple hq
    have n := fun o => newIt (o := o) I1
    exact wpAny_pyIter_tuple (show s1.heap.IsTuple a its.toArray from p) ⟨_, _, _, _, H1, rfl, (n _).1, turn_tuple a _, ⟨_, Heap.get?_push_size _ rfl, rfl, rfl⟩, (n { cls := .none, data := .plain }).2, q⟩
end

/-- n turns whose items have the data it i, as long as the sources Sx stand -/
structure DW (K : PySem.W.Frag) (J : It) (n : Nat) (it : Nat → D) (Sx : List (V × D)) : Prop where
  goes : ∀ i F H, i < n → (∀ p ∈ Sx, Rp K F p.1 p.2) → Sub F H → J.go i H
  stops : ∀ F H, (∀ p ∈ Sx, Rp K F p.1 p.2) → Sub F H → J.stop n H
  yields : ∀ i F H x H', i < n → (∀ p ∈ Sx, Rp K F p.1 p.2) → Sub F H → J.yld i H x H' → (H' = H ∧ Rp K F x (it i)) ∨ ∃ T o, H T = none ∧ H' = upd H T o ∧ Rp K (upd F T o) x (it i)
def itOf (ds : List D) (i : Nat) : D := ds[i]?.getD .non
theorem itOf_some {ds : List D} {i : Nat} {d : D} (h : ds[i]? = some d) : itOf ds i = d := by unfold itOf; rw [h]; rfl
section
variable {K : PySem.W.Frag} {a : Addr} {ds : List D}
theorem dw_list {xs : List V} {H0 : Hp} : DW K (Itl K a) ds.length (itOf ds) [(.ref a, .lst ds)] := by
  have src : ∀ F H, (∀ p ∈ [((.ref a : V), D.lst ds)], Rp K F p.1 p.2) → Sub F H → ∃ ws, SqL K H a ws ∧ RpL K F ws ds := fun F H h s => by
    obtain ⟨b, ws, e, h1, r⟩ := (h _ List.mem_cons_self).lst_at
    cases e
    exact ⟨ws, .inl (.inl (s _ _ h1)), r⟩
  refine ⟨fun i F H hi h s => ?_, fun F H h s => ?_, fun i F H x H' hi h s y => ?_⟩
  · obtain ⟨ws, q, r⟩ := src F H h s
    obtain ⟨v, hv, _⟩ := r.get (i := i) (List.getElem?_eq_getElem hi)
    exact ⟨ws, v, q, hv⟩
  · obtain ⟨ws, q, r⟩ := src F H h s
    exact ⟨ws, q, by rw [r.length]; exact Nat.le_refl _⟩
  · obtain ⟨ws, q, r⟩ := src F H h s
    obtain ⟨d, hd, rd⟩ := r.getV (y.2 ws q)
    exact .inl ⟨y.1, by rw [itOf_some hd]; exact rd⟩
theorem dw_tup {H0 : Hp} : DW K (Itt K a) ds.length (itOf ds) [(.ref a, .tup ds)] := by
  have src : ∀ F H, (∀ p ∈ [((.ref a : V), D.tup ds)], Rp K F p.1 p.2) → Sub F H → ∃ ws, SqT K H a ws ∧ RpL K F ws ds := fun F H h s => by
    obtain ⟨b, ws, e, h1, r⟩ := (h _ List.mem_cons_self).tup_at
    cases e
    exact ⟨ws, .inl (.inl (s _ _ h1)), r⟩
  refine ⟨fun i F H hi h s => ?_, fun F H h s => ?_, fun i F H x H' hi h s y => ?_⟩
  · obtain ⟨ws, q, r⟩ := src F H h s
    obtain ⟨v, hv, _⟩ := r.get (i := i) (List.getElem?_eq_getElem hi)
    exact ⟨ws, v, q, hv⟩
  · obtain ⟨ws, q, r⟩ := src F H h s
    exact ⟨ws, q, by rw [r.length]; exact Nat.le_refl _⟩
  · obtain ⟨ws, q, r⟩ := src F H h s
    obtain ⟨d, hd, rd⟩ := r.getV (y.2 ws q)
    exact .inl ⟨y.1, by rw [itOf_some hd]; exact rd⟩
theorem dw_rng {lo : Int} {n : Nat} : DW K (Itr lo n) n (fun i => .int (lo + i)) [] :=
  ⟨fun _ _ _ hi _ _ => hi, fun _ _ _ _ => Nat.le_refl _, fun i F H x H' _ _ _ y => .inl ⟨y.1, by rw [y.2]; exact .raw _⟩⟩
end

/-- between two turns -/
def LI (E : Eb) (S : List (V × D)) (Iv : Nat → List (Option D) → List (Addr × List D) → Prop) (i : Nat) : L2.St → Hp → Prop := fun σ H => ∃ G O F, Iv i G O ∧ FO E G O S F σ H
/-- what a for asks of its iterator -/
def kFor (g : TG) (tb : TS) (D : Ends) (σ : L2.St) (J : It) (H1 : Hp) : Prop := ∃ W : Nat → Nat → L2.St → Hp → Prop, (∃ m, W 0 m σ H1) ∧ ∀ i m σ H, W i m σ H →
  (J.stop i H ∧ D.nx σ H) ∨ (J.go i H ∧ ∃ N : L2.St → Hp → Prop, (∀ σ' H', N σ' H' → ∃ m', m' < m ∧ W (i + 1) m' σ' H') ∧ ∀ x H', J.yld i H x H' → g x σ H' fun σ2 H2 => tb { D with nx := N, ct := N, bk := D.nx } σ2 H2)
section
variable {E : Eb} {G : List (Option D)} {O : List (Addr × List D)} {S S0 Sx : List (V × D)} {F F' H H' : Hp} {σ : L2.St} {v x y : V} {d e : D} {Q : VK} {vs : List V} {ds as bs : List D} {g : TG} {tb : TS} {B : Ends} {wi : TI} {tl : TE} {tas : TA}
theorem x_forS (h : wi σ H (kFor g tb B σ)) : tFor wi g tb B σ H := h
theorem FO.yield {J : It} {n i : Nat} {it : Nat → D} (dw : DW E.K J n it Sx) (fo : FO E G O S F σ H) (hS : ∀ p ∈ Sx, p ∈ S) (hi : i < n) (y : J.yld i H x H') : ∃ F', FO E G O ((x, it i) :: S) F' σ H' := by
  rcases dw.yields i F H x H' hi (fun p hp => fo.stk p (hS p hp)) fo.sub y with ⟨rfl, r⟩ | ⟨T, o, hT, rfl, r⟩
  · exact ⟨F, fo.push r⟩
  · exact ⟨_, (fo.alloc hT).push r⟩
/-- a for loop, by what holds between its turns -/
theorem x_for {J : It} {n : Nat} {it : Nat → D} (Iv : Nat → List (Option D) → List (Addr × List D) → Prop) (dw : DW E.K J n it Sx) (fo : FO E G O S F σ H) (hS : ∀ p ∈ Sx, p ∈ S) (h0 : Iv 0 G O)
    (hs : ∀ i G' O' F' σ' H' v, i < n → Iv i G' O' → FO E G' O' ((v, it i) :: S) F' σ' H' → g v σ' H' fun σ2 H2 => tb { B with nx := LI E S Iv (i + 1), ct := LI E S Iv (i + 1), bk := B.nx } σ2 H2)
    (hd : ∀ G' O' F' σ' H', Iv n G' O' → FO E G' O' S F' σ' H' → B.nx σ' H') : kFor g tb B σ J H := by
  refine ⟨fun i m σ H => m = n - i ∧ i ≤ n ∧ LI E S Iv i σ H, ⟨n, by simp, Nat.zero_le _, G, O, F, h0, fo⟩, ?_⟩
  rintro i m σ' H' ⟨rfl, hi, G', O', F', iv, fo'⟩
  have src : ∀ p ∈ Sx, Rp E.K F' p.1 p.2 := fun p hp => fo'.stk p (hS p hp)
  by_cases hlt : i < n
  · refine .inr ⟨dw.goes i F' H' hlt src fo'.sub, LI E S Iv (i + 1), fun σ2 H2 p2 => ⟨n - (i + 1), by omega, rfl, hlt, p2⟩, fun x H2 y => ?_⟩
    obtain ⟨F2, f2⟩ := fo'.yield dw hS hlt y
    exact hs i G' O' F2 σ' H2 x hlt iv f2
  · have e : i = n := by omega
    subst e
    exact .inl ⟨dw.stops F' H' src fo'.sub, hd G' O' F' σ' H' iv fo'⟩
theorem x_li {Iv : Nat → List (Option D) → List (Addr × List D) → Prop} {i : Nat} (fo : FO E G O S F σ H) (h : Iv i G O) : LI E S Iv i σ H := ⟨G, O, F, h, fo⟩
/-- with what is left at hand -/
theorem x_liS {Iv : Nat → List (Option D) → List (Addr × List D) → Prop} {i : Nat} {S' : List (V × D)} (fo : FO E G O S' F σ H) (hS : ∀ p ∈ S, p ∈ S') (h : Iv i G O) : LI E S Iv i σ H := ⟨G, O, F, h, fo.weakS hS⟩
/-! the iterators -/
def kSeq (K : PySem.W.Frag) (R : It → Hp → Prop) (x : V) (H : Hp) : Prop := ∃ a, x = .ref a ∧ (((∃ xs, SqL K H a xs) ∧ R (Itl K a) H) ∨ ((∃ xs, SqT K H a xs) ∧ R (Itt K a) H))
theorem x_seqI {R : It → Hp → Prop} {K : PySem.W.Frag} (h : tl σ H (kSeq K R)) : iSeqU K tl σ H R := h
theorem x_seqL {R : It → Hp → Prop} (fo : FO E G O ((x, .lst ds) :: S) F σ H) (k : ∀ J, DW E.K J ds.length (itOf ds) [(x, .lst ds)] → R J H) : kSeq E.K R x H := by
  obtain ⟨a, ws, rfl, h, r⟩ := fo.top.lst_at
  exact ⟨a, rfl, .inl ⟨⟨ws, .inl (.inl (fo.sub _ _ h))⟩, k _ (dw_list (xs := ws) (H0 := H))⟩⟩
theorem x_seqT {R : It → Hp → Prop} (fo : FO E G O ((x, .tup ds) :: S) F σ H) (k : ∀ J, DW E.K J ds.length (itOf ds) [(x, .tup ds)] → R J H) : kSeq E.K R x H := by
  obtain ⟨a, ws, rfl, h, r⟩ := fo.top.tup_at
  exact ⟨a, rfl, .inr ⟨⟨ws, .inl (.inl (fo.sub _ _ h))⟩, k _ (dw_tup (H0 := H))⟩⟩
def kRng1 (R : It → Hp → Prop) (vs : List V) (H : Hp) : Prop := ∃ j : Int, vs = [.int j] ∧ -(2 ^ 62) ≤ j ∧ j < 2 ^ 62 ∧ R (Itr 0 j.toNat) H
def kRng2 (R : It → Hp → Prop) (vs : List V) (H : Hp) : Prop := ∃ i j : Int, vs = [.int i, .int j] ∧ (-(2 ^ 62) ≤ i ∧ i < 2 ^ 62 ∧ -(2 ^ 62) ≤ j ∧ j < 2 ^ 62) ∧ R (Itr i (j - i).toNat) H
theorem x_rng1 {R : It → Hp → Prop} (h : tas σ H (kRng1 R)) : iRng1 tas σ H R := h
theorem x_rng2 {R : It → Hp → Prop} (h : tas σ H (kRng2 R)) : iRng2 tas σ H R := h
theorem x_kRng1 {R : It → Hp → Prop} {j : Int} (fo : FO E G O ((x, .raw (.int j)) :: S) F σ H) (h1 : -1000000 ≤ j) (h2 : j ≤ 1000000) (k : ∀ J, DW E.K J j.toNat (fun i => .int i) [] → FO E G O S F σ H → R J H) : kRng1 R [x] H := by
  refine ⟨j, by rw [fo.top.raw_eq], by omega, by omega, k _ ?_ fo.pop⟩
  have := dw_rng (K := E.K) (lo := 0) (n := j.toNat)
  simpa using this
theorem x_kRng2 {R : It → Hp → Prop} {i j : Int} (fo : FO E G O ((y, .raw (.int j)) :: (x, .raw (.int i)) :: S) F σ H) (h1 : -1000000 ≤ i ∧ i ≤ 1000000) (h2 : -1000000 ≤ j ∧ j ≤ 1000000) (k : ∀ J, DW E.K J (j - i).toNat (fun m => .int (i + m)) [] → FO E G O S F σ H → R J H) : kRng2 R [x, y] H :=
  ⟨i, j, by rw [fo.snd.raw_eq, fo.top.raw_eq], ⟨by omega, by omega, by omega, by omega⟩, k _ dw_rng fo.pop.pop⟩
/-! ### while -/
theorem x_while {c : TT} (Iv : Nat → List (Option D) → List (Addr × List D) → Prop) (m : Nat) (fo : FO E G O S F σ H) (h0 : Iv m G O)
    (hs : ∀ m G' O' F' σ' H', Iv m G' O' → FO E G' O' S F' σ' H' → c σ' H' fun b H1 => if b = true then tb { B with nx := fun σ2 H2 => ∃ m2, m2 < m ∧ LI E S Iv m2 σ2 H2, ct := fun σ2 H2 => ∃ m2, m2 < m ∧ LI E S Iv m2 σ2 H2, bk := B.nx } σ' H1 else B.nx σ' H1)
    (mono : ∀ σ H Q Q', (∀ b H1, Q b H1 → Q' b H1) → c σ H Q → c σ H Q') : tWhile c tb B σ H := by
  refine ⟨fun m σ H => LI E S Iv m σ H, ⟨m, G, O, F, h0, fo⟩, ?_⟩
  rintro m σ' H' ⟨G', O', F', iv, fo'⟩
  refine mono σ' H' _ _ (fun b H1 q => ?_) (hs m G' O' F' σ' H' iv fo')
  cases b with
  | true => exact ⟨_, fun _ _ z => z, q⟩
  | false => exact q
/-! ### comprehensions: the new list is the body's while it grows -/
def kLc (g : TG) (tt : TT) (te : TE) (ws : List Nat) (σ : L2.St) (Q : VK) (J : It) (H1 : Hp) : Prop := ∀ D, H1 D = none → ∃ W : Nat → Nat → Hp → Prop, (∃ m, W 0 m (upd H1 D (.lst []))) ∧ ∀ i m H, W i m H →
  (J.stop i H ∧ Q (.ref D) H) ∨ (J.go i H ∧ ∃ Nx : Hp → Prop, (∀ H', Nx H' → ∃ m', m' < m ∧ W (i + 1) m' H') ∧ ∀ x H', J.yld i H x H' → g x (wipe σ ws) H' fun σ2 H2 => wipe σ2 ws = wipe σ ws ∧ tt σ2 H2 fun b H3 =>
    if b = true then te σ2 H3 fun y H4 => ∃ acc, H4 D = some (.lst acc) ∧ acc.length < sizeLine ∧ Nx (upd H4 D (.lst (acc ++ [y]))) else Nx H3)
variable {tt : TT} {te : TE} {ws : List Nat}
theorem x_lc (h : wi σ H (kLc g tt te ws σ Q)) : tLc wi g tt te ws σ H Q := h
def tLcO (wi : TI) (g : TG) (tt : TT) (te : TE) (ws : List Nat) : TE := tLc wi g tt te ws
def kLcO (g : TG) (tt : TT) (te : TE) (ws : List Nat) (σ : L2.St) (Q : VK) (J : It) (H1 : Hp) : Prop := kLc g tt te ws σ Q J H1
theorem x_lcO (h : wi σ H (kLcO g tt te ws σ Q)) : tLcO wi g tt te ws σ H Q := h
/-- the slots of the block's own names forgotten, as data -/
def wipeG (G : List (Option D)) : List Nat → List (Option D)
  | [] => G
  | i :: r => (wipeG G r).set i none
theorem wipeG_length (G : List (Option D)) : ∀ ws : List Nat, (wipeG G ws).length = G.length
  | [] => rfl
  | i :: r => by unfold wipeG; rw [List.length_set, wipeG_length G r]
theorem wipe_slot {G : List (Option D)} {σ : L2.St} {P : V → D → Prop} (hl : σ.length = G.length) (h : ∀ (i : Nat) (d : D), G[i]? = some (some d) → ∃ v, σ[i]? = some (some v) ∧ P v d) : ∀ ws : List Nat, ∀ (i : Nat) (d : D), (wipeG G ws)[i]? = some (some d) → ∃ v, (wipe σ ws)[i]? = some (some v) ∧ P v d
  | [] => h
  | j :: r => fun i d q => by
    unfold wipeG at q
    unfold wipe
    by_cases z : i = j
    · subst z
      have hj : i < (wipeG G r).length := by
        obtain ⟨k, _⟩ := List.getElem?_eq_some_iff.mp q
        rwa [List.length_set] at k
      rw [List.getElem?_set_self hj] at q
      cases q
    · rw [List.getElem?_set_ne (fun k => z k.symm)] at q ⊢
      exact wipe_slot hl h r i d q
theorem FO.wiped (fo : FO E G O S F σ H) (ws : List Nat) : FO E (wipeG G ws) O S F (wipe σ ws) H :=
  ⟨fo.st, fo.bx, by rw [wipe_length, wipeG_length]; exact fo.len, wipe_slot fo.len fo.slot ws, fo.stk, fo.own, fo.nd⟩
theorem wipe_keep {σ : L2.St} {G : List (Option D)} : ∀ (ws : List Nat) (i : Nat) (d : D), (wipeG G ws)[i]? = some (some d) → (wipe σ ws)[i]? = σ[i]?
  | [], _, _, _ => rfl
  | j :: r, i, d, q => by
    unfold wipeG at q
    unfold wipe
    by_cases z : i = j
    · subst z
      have hj : i < (wipeG G r).length := by
        obtain ⟨k, _⟩ := List.getElem?_eq_some_iff.mp q
        rwa [List.length_set] at k
      rw [List.getElem?_set_self hj] at q
      cases q
    · rw [List.getElem?_set_ne (fun k => z k.symm)] at q ⊢
      exact wipe_keep r i d q
theorem FO.unwipe (fo : FO E (wipeG G ws) O S F (wipe σ ws) H) : FO E (wipeG G ws) O S F σ H :=
  ⟨fo.st, fo.bx, by rw [← fo.len, wipe_length], fun i d q => by
    obtain ⟨v, a, r⟩ := fo.slot i d q
    exact ⟨v, by rw [← wipe_keep ws i d q]; exact a, r⟩, fo.stk, fo.own, fo.nd⟩
/-- the end of a turn that keeps its item -/
def kEnd (p : Addr) (Nx : Hp → Prop) (y : V) (H4 : Hp) : Prop := ∃ acc, H4 p = some (.lst acc) ∧ acc.length < sizeLine ∧ Nx (upd H4 p (.lst (acc ++ [y])))
/-- between two turns of a comprehension -/
def LC (E : Eb) (G : List (Option D)) (O : List (Addr × List D)) (S : List (V × D)) (σ : L2.St) (p : Addr) (Iv : Nat → List D → Prop) (i : Nat) (H : Hp) : Prop := ∃ F acc, Iv i acc ∧ acc.length ≤ i ∧ FO E G ((p, acc) :: O) S F σ H
theorem x_lcGo {J : It} {n : Nat} {it : Nat → D} (Iv : Nat → List D → Prop) (dw : DW E.K J n it Sx) (fo : FO E G O S F σ H) (hS : ∀ p ∈ Sx, p ∈ S) (hn : n ≤ 100000) (h0 : Iv 0 [])
    (hs : ∀ p i acc F' H' v τ, τ = wipe σ ws → i < n → Iv i acc → acc.length ≤ i → FO E (wipeG G ws) ((p, acc) :: O) ((v, it i) :: S) F' τ H' → g v τ H' fun σ2 H2 => wipe σ2 ws = τ ∧ tt σ2 H2 fun b H3 =>
      if b = true then te σ2 H3 (kEnd p (LC E (wipeG G ws) O S τ p Iv (i + 1))) else LC E (wipeG G ws) O S τ p Iv (i + 1) H3)
    (hd : ∀ p acc F' H', Iv n acc → acc.length ≤ n → FO E (wipeG G ws) ((p, acc) :: O) S F' σ H' → Q (.ref p) H') : kLc g tt te ws σ Q J H := by
  intro p hp
  have f0 : FO E (wipeG G ws) ((p, []) :: O) S F (wipe σ ws) (upd H p (.lst [])) := (fo.allocO hp .nil).wiped ws
  refine ⟨fun i m H => m = n - i ∧ i ≤ n ∧ LC E (wipeG G ws) O S (wipe σ ws) p Iv i H, ⟨n, by simp, Nat.zero_le _, F, [], h0, Nat.le_refl _, f0⟩, ?_⟩
  rintro i m H' ⟨rfl, hi, F', acc, iv, hl, fo'⟩
  have src : ∀ q ∈ Sx, Rp E.K F' q.1 q.2 := fun q hq => fo'.stk q (hS q hq)
  by_cases hlt : i < n
  · refine .inr ⟨dw.goes i F' H' hlt src fo'.sub, LC E (wipeG G ws) O S (wipe σ ws) p Iv (i + 1), fun H2 p2 => ⟨n - (i + 1), by omega, rfl, hlt, p2⟩, fun x H2 y => ?_⟩
    obtain ⟨F2, f2⟩ := fo'.yield dw hS hlt y
    exact hs p i acc F2 H2 x _ rfl hlt iv hl f2
  · have e : i = n := by omega
    subst e
    exact .inl ⟨dw.stops F' H' src fo'.sub, hd p acc F' H' iv hl fo'.unwipe⟩
theorem x_gnameK {i : Nat} {Z : L2.St → Hp → Prop} (fo : FO E G O ((x, d) :: S) F σ H) (k : FO E (G.set i (some d)) O S F (σ.set i (some x)) H → Z (σ.set i (some x)) H) : gName i x σ H Z := k fo.set
theorem wipe_set {σ : L2.St} {u : Option V} : ∀ {ws : List Nat} {j : Nat}, j ∈ ws → wipe (σ.set j u) ws = wipe σ ws
  | k :: r, j, h => by
    unfold wipe
    by_cases hr : j ∈ r
    · rw [wipe_set hr]
    · rcases List.mem_cons.mp h with z | z
      · subst z
        have e : ∀ (r : List Nat) (τ : L2.St), j ∉ r → wipe (τ.set j u) r = (wipe τ r).set j u := by
          intro r
          induction r with
          | nil => intro τ _; rfl
          | cons m r ih =>
            intro τ hm
            rw [List.mem_cons, not_or] at hm
            unfold wipe
            rw [ih τ hm.2, List.set_comm _ _ (fun q => hm.1 q)]
        rw [e r σ hr, List.set_set]
      · exact absurd z hr
theorem wipe_twice (σ : L2.St) (ws : List Nat) : wipe (wipe σ ws) ws = wipe σ ws := by
  have gen : ∀ (r : List Nat) (τ : L2.St), (∀ j ∈ r, j ∈ ws) → wipe (wipe τ r) ws = wipe τ ws := by
    intro r
    induction r with
    | nil => intro τ _; rfl
    | cons m r ih =>
      intro τ h
      show wipe ((wipe τ r).set m none) ws = _
      rw [wipe_set (h m List.mem_cons_self)]
      exact ih τ fun j hj => h j (List.mem_cons_of_mem _ hj)
  exact gen ws σ fun _ h => h
/-- a turn's end -/
theorem x_kEnd {p : Addr} {acc : List D} {i : Nat} {Iv : Nat → List D → Prop} {σ2 τ : L2.St} {G2 : List (Option D)} (fo : FO E G2 ((p, acc) :: O) ((y, d) :: S) F σ2 H) (hl : acc.length ≤ i) (hi : i < 100000) (e1 : wipe σ2 ws = τ) (e2 : wipeG G2 ws = G) (h : Iv (i + 1) (acc ++ [d])) : kEnd p (LC E G O S τ p Iv (i + 1)) y H := by
  obtain ⟨us, h1, r1, _⟩ := fo.own _ List.mem_cons_self
  subst e1 e2
  refine ⟨us, h1, ?_, F, acc ++ [d], h, by simp; omega, (fo.pop.mut (r1.append (.cons fo.top .nil))).wiped ws⟩
  rw [r1.length]
  exact Nat.lt_of_le_of_lt hl (Nat.lt_trans hi (by decide))
/-- a turn that drops its item -/
theorem x_kSkip {p : Addr} {acc : List D} {i : Nat} {Iv : Nat → List D → Prop} {σ2 τ : L2.St} {G2 : List (Option D)} (fo : FO E G2 ((p, acc) :: O) S F σ2 H) (hl : acc.length ≤ i) (e1 : wipe σ2 ws = τ) (e2 : wipeG G2 ws = G) (h : Iv (i + 1) acc) : LC E G O S τ p Iv (i + 1) H := by
  subst e1 e2
  exact ⟨F, acc, h, Nat.le_succ_of_le hl, fo.wiped ws⟩
/-- a list just made by the body, known for ever from now on -/
theorem x_frozen {p : Addr} (fo : FO E G ((p, ds) :: O) S F σ H) (k : ∀ F', FO E G O ((.ref p, .lst ds) :: S) F' σ H → Q (.ref p) H) : Q (.ref p) H := by
  obtain ⟨F', f, _⟩ := fo.freeze
  exact k F' f
/-- a list that the body owns, known for ever from now on: its slot -/
theorem x_freezeSlot {p : Addr} {i : Nat} {A : Prop} (fo : FO E G ((p, ds) :: O) S F σ H) (h : G[i]? = some (some (.raw (.ref p)))) (k : ∀ F', FO E (G.set i (some (.lst ds))) O S F' σ H → A) : A := by
  obtain ⟨F', f, _⟩ := fo.freeze
  exact k F' (f.know h).pop
end
end DL

set_option maxHeartbeats 4000000
namespace DL.Zs
open PySem PySem.Builtin.SmallTypes
/-! zip(v1, v2, strict=True) over two iterators of any kind -/
section
variable {prog : Program} {w : World} {A : Around} {E : Value → Shared → Prop} {s : Shared} {it : Addr} {fp : List Addr} {n i : Nat} {P : Nat → Value → Prop} {St : Nat → Heap → Prop}
theorem orEnd_item {Q : Option Value → Shared → Prop} (D : Draws prog w A it fp n P St) (hi : i < n) (st : St i s.heap)
    (hQ : ∀ x h' tk, P i x → St (i + 1) h' → Heap.SameBut it s.heap h' → Q (some x) { s with heap := h', toks := tk }) : wpAny (model prog w) A (nextOrEnd (.ref it)) Q E s := by
  unfold nextOrEnd
  exact wpAny_bind (wpAny_attempt (D.item i s _ _ hi st fun x h' tk p st' sb => wpAny_pure (hQ x h' tk p st' sb)))
theorem orEnd_done {Q : Option Value → Shared → Prop} (D : Draws prog w A it fp n P St) (st : St n s.heap)
    (hQ : ∀ h', Heap.ExtBut it s.heap h' → Q none { s with heap := h' }) : wpAny (model prog w) A (nextOrEnd (.ref it)) Q E s := by
  unfold nextOrEnd
  refine wpAny_bind (wpAny_attempt (D.done s _ _ st ?_))
  rintro h' e ex ⟨o, ho, hc⟩
  exact wpAny_bind (wpAny_isInstance (T := "StopIteration") (b := true) ⟨o, ho, hc⟩ isSubtype_stop (wpAny_pure (hQ h' ex)))
end
/-- a strict zip at z -/
abbrev IsZ (h : Heap) (z TI TO : Addr) (f0 : Value) : Prop :=
  h.get? z = some { cls := .type "zip", dict := none, data := .fields #[f0, .bool false, .bool true, .ref TI, .ref TO], slots := #[] }
section
variable {prog : Program} {w : World} {A : Around} {E : Value → Shared → Prop} {s : Shared} {z TI TO i1 i2 : Addr} {fp1 fp2 : List Addr} {n1 n2 i : Nat} {P1 P2 : Nat → Value → Prop} {St1 St2 : Nat → Heap → Prop} {a1 a2 : Value}
theorem next_item {Q : Value → Shared → Prop} (S : ZipSep2 z TI TO i1 i2 fp1 fp2) (D1 : Draws prog w A i1 fp1 n1 P1 St1) (D2 : Draws prog w A i2 fp2 n2 P2 St2)
    (hz : IsZ s.heap z TI TO .none) (hTI : IsTupOf2 s.heap TI (.ref i1) (.ref i2)) (hTO : IsTupOf2 s.heap TO a1 a2) (st1 : St1 i s.heap) (st2 : St2 i s.heap) (l1 : i < n1) (l2 : i < n2)
    (hQ : ∀ x1 x2 h' tk, P1 i x1 → P2 i x2 → IsZ h' z TI TO (rawInt s.heap.objs.size) → IsTupOf2 h' TO x1 x2 → St1 (i + 1) h' → St2 (i + 1) h' → IsTupOf2 h' s.heap.objs.size x1 x2 →
      (∀ c o, c ≠ z → c ≠ TO → c ≠ i1 → c ≠ i2 → s.heap.get? c = some o → h'.get? c = some o) → Q (.ref s.heap.objs.size) { s with heap := h', toks := tk }) :
    wpAny (model prog w) A (Builtin.«zip.__next__» ⟨[.ref z], []⟩) (fun fin s' => ∃ v, fin = .done (.ret v) ∧ Q v s') E s := by
  obtain ⟨hp, g, d, tk0, os⟩ := s
  show wpAny _ _ (field (.ref z) 2 >>= _) _ _ _
  refine wpAny_bind (wpAny_field hz rfl (x := .bool true) rfl ?_)
  show wpAny _ _ (field (.ref z) 3 >>= _) _ _ _
  refine wpAny_bind (wpAny_field hz rfl (x := .ref TI) rfl (wpAny_bind (wpAny_seqItems hTI rfl ?_)))
  show wpAny _ _ (ownedTupleIsFree (.ref z) >>= _) _ _ _
  refine wpAny_bind ?_
  unfold ownedTupleIsFree
  refine wpAny_bind (wpAny_field hz rfl (x := .none) rfl (wpAny_pure ?_))
  simp only [if_true]
  refine wpAny_bind (wpAny_rule (wpAny_bind (wpAny_field hz rfl (x := .ref TO) rfl ?_)))
  refine wpAny_bind (wpAny_setField_rec hz (by simp) fun g0 z0 b0 => ?_)
  change IsZ g0 z TI TO .ellipsis at z0
  change Heap.SameBut z hp g0 at b0
  refine wpAny_bind ?_
  simp only [List.zipIdx_cons, List.zipIdx_nil, List.forIn_cons, List.forIn_nil]
  refine wpAny_bind (wpAny_bind (wpAny_onRaise ?_))
  show wpAny _ _ (nextOrEnd (.ref i1)) _ _ ⟨g0, g, d, tk0, os⟩
  refine orEnd_item D1 l1 (D1.over st1 b0 S.zf1) fun x1 p1 tk1 hx1 sn1 c1 => ?_
  change Heap.SameBut i1 g0 p1 at c1
  have u1 : IsTupOf2 p1 TO a1 a2 := c1.extBut _ _ S.Ti1 (b0.extBut _ _ S.TOz hTO)
  refine wpAny_bind (wpAny_seqItems (s := ⟨p1, g, d, tk1, os⟩) u1 rfl (wpAny_bind (updateSeq_IsTupOf2 (s := ⟨p1, g, d, tk1, os⟩) u1 fun g1 t1 b1 => ?_)))
  change IsTupOf2 g1 TO x1 a2 at t1
  change Heap.SameBut TO p1 g1 at b1
  refine wpAny_bind (wpAny_letGo (wpAny_pure (wpAny_bind (wpAny_bind (wpAny_onRaise ?_)))))
  show wpAny _ _ (nextOrEnd (.ref i2)) _ _ ⟨g1, g, d, tk1, os⟩
  refine orEnd_item D2 l2 (D2.over (D2.over (D2.over st2 b0 S.zf2) c1 S.sep1_2) b1 S.Tf2) fun x2 p2 tk2 hx2 sn2 c2 => ?_
  change Heap.SameBut i2 g1 p2 at c2
  have u2 : IsTupOf2 p2 TO x1 a2 := c2.extBut _ _ S.Ti2 t1
  refine wpAny_bind (wpAny_seqItems (s := ⟨p2, g, d, tk2, os⟩) u2 rfl (wpAny_bind (updateSeq_IsTupOf2 (s := ⟨p2, g, d, tk2, os⟩) u2 fun g2 t2 b2 => ?_)))
  change IsTupOf2 g2 TO x1 x2 at t2
  change Heap.SameBut TO p2 g2 at b2
  refine wpAny_bind (wpAny_letGo (wpAny_pure (wpAny_pure (wpAny_bind (wpAny_seqItems (s := ⟨g2, g, d, tk2, os⟩) t2 rfl (wpAny_bind (wpAny_newTuple ?_)))))))
  have sz : g2.objs.size = hp.objs.size := by rw [b2.1, c2.1, b1.1, c1.1, b0.1]
  have zz : IsZ g2 z TI TO .ellipsis := b2.extBut _ _ S.TOz.symm (c2.extBut _ _ S.zi2 (b1.extBut _ _ S.TOz.symm (c1.extBut _ _ S.zi1 z0)))
  have kk : ∀ c o, c ≠ z → c ≠ TO → c ≠ i1 → c ≠ i2 → hp.get? c = some o → g2.get? c = some o := fun c o q1 q2 q3 q4 e =>
    b2.extBut _ _ q2 (c2.extBut _ _ q4 (b1.extBut _ _ q2 (c1.extBut _ _ q3 (b0.extBut _ _ q1 e))))
  have j1 : St1 (i + 1) g2 := D1.over (D1.over (D1.over sn1 b1 S.Tf1) c2 S.sep2_1) b2 S.Tf1
  have j2 : St2 (i + 1) g2 := D2.over sn2 b2 S.Tf2
  have zlt : z < g2.objs.size := Heap.lt_size zz
  show wpAny _ _ (ownedTupleHandOut (.ref z) (.ref g2.objs.size) >>= _) _ _ ⟨g2.push { cls := .type "tuple", data := .seq #[x1, x2] }, g, d, tk2, os⟩
  refine wpAny_bind ?_
  unfold ownedTupleHandOut
  have z6 : IsZ (g2.push { cls := .type "tuple", data := .seq #[x1, x2] }) z TI TO .ellipsis := Heap.get?_push_of_some _ zz
  refine wpAny_bind (wpAny_setField_rec z6 (by simp) fun h7 z7 b7 => ?_)
  change IsZ h7 z TI TO (rawInt g2.objs.size) at z7
  refine wpAny_setField_rec z7 (by simp) fun h8 z8 b8 => ?_
  change IsZ h8 z TI TO (rawInt g2.objs.size) at z8
  change Heap.SameBut z (g2.push { cls := .type "tuple", data := .seq #[x1, x2] }) h7 at b7
  change Heap.SameBut z h7 h8 at b8
  have up : ∀ c o, c ≠ z → g2.get? c = some o → h8.get? c = some o := fun c o q e => b8.extBut _ _ q (b7.extBut _ _ q (Heap.get?_push_of_some _ e))
  have t8 : IsTupOf2 h8 g2.objs.size x1 x2 := b8.extBut _ _ (Nat.ne_of_gt zlt) (b7.extBut _ _ (Nat.ne_of_gt zlt) (Heap.get?_push_size _ rfl))
  refine wpAny_pure ⟨_, rfl, ?_⟩
  rw [sz] at z8 t8
  show Q (.ref g2.objs.size) ⟨h8, g, d, tk2, os⟩
  rw [sz]
  exact hQ x1 x2 h8 tk2 hx1 hx2 z8 (up _ _ S.TOz t2) (D1.frame _ _ _ j1 fun b hb o e => up b o (fun q => S.zf1 (q ▸ hb)) e) (D2.frame _ _ _ j2 fun b hb o e => up b o (fun q => S.zf2 (q ▸ hb)) e) t8 fun c o q1 q2 q3 q4 e => up c o q1 (kk c o q1 q2 q3 q4 e)
theorem next_end {Q : Fin → Shared → Prop} (hh : A.handled = none) (S : ZipSep2 z TI TO i1 i2 fp1 fp2) (D1 : Draws prog w A i1 fp1 i P1 St1) (D2 : Draws prog w A i2 fp2 i P2 St2)
    (hz : IsZ s.heap z TI TO .none) (hTI : IsTupOf2 s.heap TI (.ref i1) (.ref i2)) (hTO : IsTupOf2 s.heap TO a1 a2) (st1 : St1 i s.heap) (st2 : St2 i s.heap)
    (hE : ∀ h' e, (∀ c o, c ≠ z → c ≠ i1 → c ≠ i2 → s.heap.get? c = some o → h'.get? c = some o) → (∃ o, h'.get? e = some o ∧ o.cls = .type "StopIteration") → E (.ref e) { s with heap := h' }) :
    wpAny (model prog w) A (Builtin.«zip.__next__» ⟨[.ref z], []⟩) Q E s := by
  obtain ⟨hp, g, d, tk0, os⟩ := s
  show wpAny _ _ (field (.ref z) 2 >>= _) _ _ _
  refine wpAny_bind (wpAny_field hz rfl (x := .bool true) rfl ?_)
  show wpAny _ _ (field (.ref z) 3 >>= _) _ _ _
  refine wpAny_bind (wpAny_field hz rfl (x := .ref TI) rfl (wpAny_bind (wpAny_seqItems hTI rfl ?_)))
  show wpAny _ _ (ownedTupleIsFree (.ref z) >>= _) _ _ _
  refine wpAny_bind ?_
  unfold ownedTupleIsFree
  refine wpAny_bind (wpAny_field hz rfl (x := .none) rfl (wpAny_pure ?_))
  simp only [if_true]
  refine wpAny_bind (wpAny_rule (wpAny_bind (wpAny_field hz rfl (x := .ref TO) rfl ?_)))
  refine wpAny_bind (wpAny_setField_rec hz (by simp) fun g0 z0 b0 => ?_)
  change IsZ g0 z TI TO .ellipsis at z0
  change Heap.SameBut z hp g0 at b0
  refine wpAny_bind ?_
  simp only [List.zipIdx_cons, List.zipIdx_nil, List.forIn_cons, List.forIn_nil]
  refine wpAny_bind (wpAny_bind (wpAny_onRaise ?_))
  show wpAny _ _ (nextOrEnd (.ref i1)) _ _ ⟨g0, g, d, tk0, os⟩
  refine orEnd_done D1 (D1.over st1 b0 S.zf1) fun q c1 => ?_
  change Heap.ExtBut i1 g0 q at c1
  have zq : IsZ q z TI TO .ellipsis := c1 _ _ S.zi1 z0
  refine wpAny_bind (wpAny_setField_rec (s := ⟨q, g, d, tk0, os⟩) zq (by simp) fun q' z' b' => ?_)
  change Heap.SameBut z q q' at b'
  have s2 : St2 i q' := by
    refine D2.frame i g0 q' (D2.over st2 b0 S.zf2) fun b hb o e => b'.extBut _ _ (fun k => S.zf2 (k ▸ hb)) (c1 _ _ (fun k => S.sep1_2 (k ▸ hb)) e)
  refine wpAny_bind ?_
  wp_delta
  rw [if_neg (Nat.lt_irrefl 0)]
  refine wpAny_bind ?_
  show wpAny _ _ (forIn [(Value.ref i2, 1)] _ _) _ _ _
  simp only [List.forIn_cons, List.forIn_nil]
  refine wpAny_bind (wpAny_bind (orEnd_done D2 s2 fun q2 c2 => ?_))
  change Heap.ExtBut i2 q' q2 at c2
  refine wpAny_pure (wpAny_pure (wpAny_bind (wpAny_rule ?_)))
  show wpAny _ _ (newExc (.type "StopIteration") [] >>= _) _ _ _
  refine wpAny_bind ?_
  simp only [newExc, newTuple]
  refine wpAny_bind (wpAny_newObj_type (wpAny_bind (m := firstArgMember _ _) (wpAny_of_eq (a := Value.none) (by first | rfl | (simp only [firstArgMember]; rfl)) (wpAny_newObj_type ?_ (by size_fits)))) (by size_fits))
  simp only [raiseNew]
  refine wpAny_bind (wpAny_handled ?_)
  rw [hh]
  refine wpAny_bind (wpAny_pure (wpAny_throw ?_))
  refine hE _ _ (fun c o q1 q2 q3 e => ?_) ⟨_, Heap.get?_push_size _ rfl, rfl⟩
  exact Heap.get?_push_of_some _ (Heap.get?_push_of_some _ (c2 _ _ q3 (b'.extBut _ _ q1 (c1 _ _ q2 (b0.extBut _ _ q1 e)))))
theorem py_item {Q : Option Value → Shared → Prop} (S : ZipSep2 z TI TO i1 i2 fp1 fp2) (D1 : Draws prog w A.in1 i1 fp1 n1 P1 St1) (D2 : Draws prog w A.in1 i2 fp2 n2 P2 St2)
    (hz : IsZ s.heap z TI TO .none) (hTI : IsTupOf2 s.heap TI (.ref i1) (.ref i2)) (hTO : IsTupOf2 s.heap TO a1 a2) (st1 : St1 i s.heap) (st2 : St2 i s.heap) (l1 : i < n1) (l2 : i < n2)
    (hQ : ∀ x1 x2 h' tk, P1 i x1 → P2 i x2 → IsZ h' z TI TO (rawInt s.heap.objs.size) → IsTupOf2 h' TO x1 x2 → St1 (i + 1) h' → St2 (i + 1) h' → IsTupOf2 h' s.heap.objs.size x1 x2 →
      (∀ c o, c ≠ z → c ≠ TO → c ≠ i1 → c ≠ i2 → s.heap.get? c = some o → h'.get? c = some o) → Q (some (.ref s.heap.objs.size)) { s with heap := h', toks := tk }) : wpAny (model prog w) A (pyNext (.ref z)) Q E s := by
  have hT : s.TypeIs (.ref z) "zip" := ⟨_, hz, rfl⟩
  unfold pyNext
  refine wpAny_bind (wpAny_attempt (wpAny_callSpecial?_slot (name := Str.ofString "__next__") hT F.slot_zip_next (wpAny_call_entry F.slot_zip_next hT F.entry_zip_next ?_ (F.args_zip_next_1 _))))
  exact next_item S D1 D2 hz hTI hTO st1 st2 l1 l2 fun x1 x2 h' tk p1 p2 q1 q2 q3 q4 q5 q6 => wpAny_pure (hQ x1 x2 h' tk p1 p2 q1 q2 q3 q4 q5 q6)
theorem py_end {Q : Option Value → Shared → Prop} (hh : A.handled = none) (S : ZipSep2 z TI TO i1 i2 fp1 fp2) (D1 : Draws prog w A.in1 i1 fp1 i P1 St1) (D2 : Draws prog w A.in1 i2 fp2 i P2 St2)
    (hz : IsZ s.heap z TI TO .none) (hTI : IsTupOf2 s.heap TI (.ref i1) (.ref i2)) (hTO : IsTupOf2 s.heap TO a1 a2) (st1 : St1 i s.heap) (st2 : St2 i s.heap)
    (hQ : ∀ h', (∀ c o, c ≠ z → c ≠ i1 → c ≠ i2 → s.heap.get? c = some o → h'.get? c = some o) → Q none { s with heap := h' }) : wpAny (model prog w) A (pyNext (.ref z)) Q E s := by
  have hT : s.TypeIs (.ref z) "zip" := ⟨_, hz, rfl⟩
  unfold pyNext
  refine wpAny_bind (wpAny_attempt (wpAny_callSpecial?_slot (name := Str.ofString "__next__") hT F.slot_zip_next (wpAny_call_entry F.slot_zip_next hT F.entry_zip_next ?_ (F.args_zip_next_1 _))))
  refine next_end (A := A.in1) hh S D1 D2 hz hTI hTO st1 st2 ?_
  rintro h' e k ⟨o, ho, hc⟩
  exact wpAny_bind (wpAny_isInstance (T := "StopIteration") (b := true) ⟨o, ho, hc⟩ isSubtype_stop (wpAny_pure (hQ _ k)))
end
/-! the making -/
theorem tc_strict (a b c : Value) : checkTypeCall "zip" ⟨[a, b], [(Str.ofString "strict", c)]⟩ = pure () := by kernel_rfl
theorem nc_strict (a b c : Value) : checkBuiltinCall "zip.__new__" ⟨[.type "zip", a, b], [(Str.ofString "strict", c)]⟩ = pure () := by kernel_rfl
theorem ia_strict (o a b c : Value) : argsOk "object.__init__" ⟨[o, a, b], [(Str.ofString "strict", c)]⟩ := by unfold argsOk; kernel_rfl
theorem meets_new {v1 v2 : Value} {o1 o2 : Obj} {H1 H2 : Heap → Prop} (B1 : Begins v1 o1 H1) (B2 : Begins v2 o2 H2) :
    Meets (Builtin.«zip.__new__» ⟨[.type "zip", v1, v2], [(Str.ofString "strict", .bool true)]⟩) (fun _ R s => H1 s.heap ∧ H2 s.heap ∧
      R (.ok (.ret (.ref (s.heap.objs.size + 4)))) { s with heap := ((((s.heap.push o1).push o2).push { cls := .type "tuple", data := .seq #[.ref s.heap.objs.size, .ref (s.heap.objs.size + 1)] }).push { cls := .type "tuple", data := .seq #[.none, .none] }).push { cls := .type "zip", data := .fields #[.none, .bool false, .bool true, .ref (s.heap.objs.size + 2), .ref (s.heap.objs.size + 3)] } }) :=
  .of_wp fun prog w A R s h => by
    obtain ⟨hp, g, d, tk, os⟩ := s
    obtain ⟨h1, h2, h⟩ := h
    have hsub := sub_zip
    have h2' : H2 (hp.push o1) := B2.keeps _ _ h2 fun b o e => Heap.get?_push_of_some _ e
    have q1 : ∀ {A' : Around} {E : Value → Shared → Prop} {Q : Value → Shared → Prop}, Q (.ref hp.objs.size) ⟨hp.push o1, g, d, tk, os⟩ → wpAny (model prog w) A' (pyIter v1) Q E ⟨hp, g, d, tk, os⟩ :=
      fun q => B1.iter prog w _ _ ⟨hp, g, d, tk, os⟩ _ h1 q
    have q2 : ∀ {A' : Around} {E : Value → Shared → Prop} {Q : Value → Shared → Prop}, Q (.ref (hp.push o1).objs.size) ⟨(hp.push o1).push o2, g, d, tk, os⟩ → wpAny (model prog w) A' (pyIter v2) Q E ⟨hp.push o1, g, d, tk, os⟩ :=
      fun q => B2.iter prog w _ _ ⟨hp.push o1, g, d, tk, os⟩ _ h2' q
    have e1 : (Str.ofString "strict" != ("strict" : Str)) = false := by decide +kernel
    wp_walk using q1, q2
    refine ⟨_, rfl, ?_⟩
    simpa [Heap.size_push, ownedTupleFields] using h
/-- a zip, strict or not -/
abbrev IsZB (h : Heap) (z TI TO : Addr) (sb : Bool) (f0 : Value) : Prop :=
  h.get? z = some { cls := .type "zip", dict := none, data := .fields #[f0, .bool false, .bool sb, .ref TI, .ref TO], slots := #[] }
section
variable {prog : Program} {w : World} {A : Around} {E : Value → Shared → Prop} {s : Shared}
theorem made {v1 v2 : Value} {o1 o2 : Obj} {H1 H2 : Heap → Prop} {Q : Value → Shared → Prop} (B1 : Begins v1 o1 H1) (B2 : Begins v2 o2 H2) (h1 : H1 s.heap) (h2 : H2 s.heap)
    (h : ∀ h', IsZ h' (s.heap.objs.size + 4) (s.heap.objs.size + 2) (s.heap.objs.size + 3) .none → IsTupOf2 h' (s.heap.objs.size + 2) (.ref s.heap.objs.size) (.ref (s.heap.objs.size + 1)) → IsTupOf2 h' (s.heap.objs.size + 3) .none .none →
      h'.get? s.heap.objs.size = some o1 → h'.get? (s.heap.objs.size + 1) = some o2 → (∀ b o, s.heap.get? b = some o → h'.get? b = some o) → Q (.ref (s.heap.objs.size + 4)) { s with heap := h' }) :
    wpAny (model prog w) A (call (.type "zip") [v1, v2] [(Str.ofString "strict", .bool true)]) Q E s := by
  refine callType_newKw F.called_zip (by decide) (tc_strict _ _ _) (nc_strict _ _ _) (fun obj => ia_strict obj _ _ _) F.entry_zip_new (meets_new B1 B2) ⟨h1, h2, ?_⟩
  have f1 := B1.free
  have f2 := B2.free
  obtain ⟨hp, g, d, tk, os⟩ := s
  have g1 := Heap.get?_push_size hp (o := o1) f1
  have g2 := Heap.get?_push_size (hp.push o1) (o := o2) f2
  have g3 := Heap.get?_push_size ((hp.push o1).push o2) (o := { cls := .type "tuple", data := .seq #[.ref hp.objs.size, .ref (hp.objs.size + 1)] }) rfl
  have g4 := Heap.get?_push_size (((hp.push o1).push o2).push { cls := .type "tuple", data := .seq #[.ref hp.objs.size, .ref (hp.objs.size + 1)] }) (o := { cls := .type "tuple", data := .seq #[.none, .none] }) rfl
  have g5 := Heap.get?_push_size ((((hp.push o1).push o2).push { cls := .type "tuple", data := .seq #[.ref hp.objs.size, .ref (hp.objs.size + 1)] }).push { cls := .type "tuple", data := .seq #[.none, .none] }) (o := { cls := .type "zip", data := .fields #[.none, .bool false, .bool true, .ref (hp.objs.size + 2), .ref (hp.objs.size + 3)] }) rfl
  simp only [Heap.size_push] at g2 g3 g4 g5
  have up : ∀ {q : Heap} {b : Addr} {o : Obj} (p : Obj), q.get? b = some o → (q.push p).get? b = some o := fun p e => Heap.get?_push_of_some _ e
  exact ⟨⟨_, g5, rfl⟩, h _ g5 (up _ (up _ g3)) (up _ g4) (up _ (up _ (up _ (up _ g1)))) (up _ (up _ (up _ g2))) fun b o e => up _ (up _ (up _ (up _ (up _ e))))⟩
theorem letGo {elts : List Expr} {x1 : Nat} {pos : Pos} {z TI TO T : Addr} {sb : Bool} {Q : Unit → Shared → Prop} (hz : IsZB s.heap z TI TO sb (rawInt T))
    (hQ : ∀ h', IsZB h' z TI TO sb .none → Heap.SameBut z s.heap h' → Q () { s with heap := h' }) : wpAny (model prog w) A (letOwnedTupleGo (.Tuple elts x1 pos) (.ref z) (.ref T)) Q E s := by
  unfold letOwnedTupleGo
  refine wpAny_bind (wpAny_load hz ?_)
  show wpAny _ _ (if (_ && (#[rawInt T, .bool false, .bool sb, .ref TI, .ref TO] : Array Value)[0]? == some (rawInt T)) = true then _ else _) Q E s
  rw [if_pos (by simp)]
  exact wpAny_bind (wpAny_rule (wpAny_setField_rec hz (by simp) fun h' z' b' => hQ h' z' b'))
theorem selfIter {z TI TO : Addr} {sb : Bool} {f0 : Value} {Q : Value → Shared → Prop} (hz : IsZB s.heap z TI TO sb f0) (h : Q (.ref z) s) : wpAny (model prog w) A (pyIter (.ref z)) Q E s := by
  have hT : s.TypeIs (.ref z) "zip" := ⟨_, hz, rfl⟩
  refine wpAny_pyIter_slot hT F.slot_zip_iter (wpAny_call_entry F.slot_zip_iter hT F.entry_zip_iter ?_ (F.args_zip_iter_1 _))
  show wpAny _ _ (ret (.ref z)) _ _ s
  exact wpAny_pure ⟨_, rfl, "zip", _, hT, F.slot_zip_next.lookup, h⟩
end
end DL.Zs
namespace DL
open PySem L2
/-- a sequence that is walked: a tuple or a list -/
def Src (k : Bool) (K : PySem.W.Frag) (H : Hp) (a : Addr) (xs : List V) : Prop := if k = true then SqT K H a xs else SqL K H a xs
def SIt (k : Bool) (h : Heap) (it a : Addr) (i : Nat) : Prop := if k = true then h.IsTupleIter it a i else h.IsListIter it a i
theorem SIt.there {k : Bool} {h : Heap} {it a : Addr} {i : Nat} (x : SIt k h it a i) : ∃ o, h.get? it = some o ∧ ∀ v, o.data ≠ .cell v := by
  cases k
  · obtain ⟨o, e, _, d⟩ := (show h.IsListIter it a i from x)
    exact ⟨o, e, fun v q => by rw [d] at q; cases q⟩
  · obtain ⟨o, e, _, d⟩ := (show h.IsTupleIter it a i from x)
    exact ⟨o, e, fun v q => by rw [d] at q; cases q⟩
theorem SIt.at {k : Bool} {h h' : Heap} {it a : Addr} {i : Nat} (x : SIt k h it a i) (u : ∀ o, h.get? it = some o → h'.get? it = some o) : SIt k h' it a i := by
  cases k
  · exact (show h.IsListIter it a i from x).at u
  · exact (show h.IsTupleIter it a i from x).at u
section
variable {X : Cx} {pins : List (Addr × Obj)} {σ : L2.St} {H : Hp} {s : Shared} {a it : Addr} {xs : List V} {k : Bool} {i : Nat}
theorem src_draws {A : Around} (hh : A.handled = none) (I : Inv X pins σ H s) (q : Src k X.K H a xs) (hne : a ≠ it) (st : SIt k s.heap it a i) :
    ∃ (its : List Value) (St : Nat → Heap → Prop), Vals xs its ∧ Draws X.prog X.w A it [it, a] its.length (fun i v => its[i]? = some v) St ∧ St i s.heap ∧ ∀ j h, St j h → SIt k h it a j := by
  cases k
  · obtain ⟨its, rv, p, _⟩ := I.list (show SqL X.K H a xs from q)
    have D := Draws.list (prog := X.prog) (w := X.w) hh it a hne its.toArray
    exact ⟨its, fun i h => h.IsListIter it a i ∧ h.IsList a its.toArray, rv, by simpa using D, ⟨st, p.isList⟩, fun j h z => z.1⟩
  · obtain ⟨its, rv, p, _⟩ := I.tuple (show SqT X.K H a xs from q)
    have D := Draws.tuple (prog := X.prog) (w := X.w) hh it a hne its.toArray
    exact ⟨its, fun i h => h.IsTupleIter it a i ∧ h.IsTuple a its.toArray, rv, by simpa using D, ⟨st, p⟩, fun j h z => z.1⟩
theorem src_begins (I : Inv X pins σ H s) (q : Src k X.K H a xs) : a < s.heap.objs.size ∧ ∃ (o : Obj) (P : Heap → Prop), Begins (.ref a) o P ∧ P s.heap ∧ ∀ (h : Heap) (it : Addr), h.get? it = some o → SIt k h it a 0 := by
  cases k
  · obtain ⟨its, rv, p, _⟩ := I.list (show SqL X.K H a xs from q)
    exact ⟨p.lt, _, _, begins_list a its.toArray, p.isList, fun h it e => ⟨_, e, rfl, rfl⟩⟩
  · obtain ⟨its, rv, p, _⟩ := I.tuple (show SqT X.K H a xs from q)
    exact ⟨(show PyProof.Rows.IsTup s.heap a its.toArray from p).lt, _, _, begins_tuple a its.toArray, p, fun h it e => ⟨_, e, rfl, rfl⟩⟩
end
/-- zip of two of them -/
def Izu (K : PySem.W.Frag) (k1 k2 sb : Bool) (a b : Addr) (xs ys : List V) : It :=
  ⟨fun i H => Src k1 K H a xs ∧ Src k2 K H b ys ∧ i < xs.length ∧ i < ys.length,
    fun i H v H' => ∃ T x y, v = .ref T ∧ H T = none ∧ H' = upd H T (.tup [x, y]) ∧ xs[i]? = some x ∧ ys[i]? = some y,
    fun i H => Src k1 K H a xs ∧ Src k2 K H b ys ∧ i ≤ xs.length ∧ i ≤ ys.length ∧ (i = xs.length ∨ i = ys.length) ∧ (sb = true → i = xs.length ∧ i = ys.length)⟩
theorem turn_zu {P : Program} {w : World} {K : PySem.W.Frag} {elts : List Expr} {kk : Nat} {tpos : Pos} {a b z TI TO i1 i2 : Addr} {xs ys : List V} {k1 k2 sb : Bool} (S : ZipSep2 z TI TO i1 i2 [i1, a] [i2, b]) (ha : a ≠ i1) (hb : b ≠ i2) :
    Turn P w K (.Tuple elts kk tpos) (Izu K k1 k2 sb a b xs ys) [z, TI, TO, i1, i2] z (fun i h => Zs.IsZB h z TI TO sb .none ∧ IsTupOf2 h TI (.ref i1) (.ref i2) ∧ (∃ x y, IsTupOf2 h TO x y) ∧ SIt k1 h i1 a i ∧ SIt k2 h i2 b i) where
  mem := by simp
  obj := by
    rintro i h ⟨hz, hTI, ⟨x, y, hTO⟩, h1, h2⟩ c hc
    simp only [List.mem_cons, List.not_mem_nil, or_false] at hc
    rcases hc with q | q | q | q | q
    · rw [q]; exact ⟨_, hz, fun v q => nomatch q⟩
    · rw [q]; exact ⟨_, hTI, fun v q => nomatch q⟩
    · rw [q]; exact ⟨_, hTO, fun v q => nomatch q⟩
    · rw [q]; exact h1.there
    · rw [q]; exact h2.there
  keep := by
    rintro i h h' ⟨hz, hTI, ⟨x, y, hTO⟩, h1, h2⟩ k
    exact ⟨k z (by simp) _ hz, k TI (by simp) _ hTI, ⟨x, y, k TO (by simp) _ hTO⟩, h1.at fun o q => k i1 (by simp) o q, h2.at fun o q => k i2 (by simp) o q⟩
  item := by
    intro X hP hw hK hc i pins s σ H E I hf st hg
    subst hP hw hK
    obtain ⟨hz, hTI, ⟨x0, y0, hTO⟩, h1, h2⟩ := st
    obtain ⟨q1, q2, l1, l2⟩ := hg
    have hh : X.A.in1.handled = none := I.ok.hd hc
    obtain ⟨its, St1, rv1, D1, s1, n1⟩ := src_draws hh I q1 ha h1
    obtain ⟨its2, St2, rv2, D2, s2, n2⟩ := src_draws hh I q2 hb h2
    have hzl : z < s.heap.objs.size := Heap.lt_size hz
    obtain ⟨x, hx⟩ : ∃ x, xs[i]? = some x := ⟨xs[i], List.getElem?_eq_getElem l1⟩
    obtain ⟨y, hy⟩ : ∃ y, ys[i]? = some y := ⟨ys[i], List.getElem?_eq_getElem l2⟩
    obtain ⟨u1, e1, r1⟩ := rv1.get hx
    obtain ⟨u2, e2, r2⟩ := rv2.get hy
    have go : ∀ x1 x2 h' tk, its[i]? = some x1 → its2[i]? = some x2 → Zs.IsZB h' z TI TO sb (rawInt s.heap.objs.size) → IsTupOf2 h' TO x1 x2 → St1 (i + 1) h' → St2 (i + 1) h' → IsTupOf2 h' s.heap.objs.size x1 x2 →
        (∀ c o, c ≠ z → c ≠ TO → c ≠ i1 → c ≠ i2 → s.heap.get? c = some o → h'.get? c = some o) →
        ∃ u, some (Value.ref s.heap.objs.size) = some u ∧ wpAny (model X.prog X.w) X.A (letOwnedTupleGo (.Tuple elts kk tpos) (.ref z) u) (fun _ s2 => ∃ x H', Inv X pins σ H' s2 ∧ RelV x u ∧ (Izu X.K k1 k2 sb a b xs ys).yld i H x H' ∧
          (Zs.IsZB s2.heap z TI TO sb .none ∧ IsTupOf2 s2.heap TI (.ref i1) (.ref i2) ∧ (∃ x y, IsTupOf2 s2.heap TO x y) ∧ SIt k1 s2.heap i1 a (i + 1) ∧ SIt k2 s2.heap i2 b (i + 1)) ∧ ∀ b ∈ [z, TI, TO, i1, i2], H' b = none) E { s with heap := h', toks := tk } := by
      intro x1 x2 h' tk g1 g2 z' TO' n1' n2' hT hk
      rw [e1] at g1
      rw [e2] at g2
      cases g1
      cases g2
      refine ⟨_, rfl, Zs.letGo (s := { s with heap := h', toks := tk }) z' fun h'' z'' sb' => ?_⟩
      have hT2 : h''.get? s.heap.objs.size = some { cls := .type "tuple", data := .seq #[u1, u2] } := (sb'.2 _ (Nat.ne_of_gt hzl)).trans hT
      have new : ObjOk X.prog X.w (upd H s.heap.objs.size (.tup [x, y])) h'' s.heap.objs.size (.tup [x, y]) :=
        ⟨by show 2 ≤ sizeLine; decide, [u1, u2], .cons r1 (.cons r2 .nil), ⟨_, hT2, rfl, _, rfl⟩⟩
      have up : ∀ c o, c ∉ [z, TI, TO, i1, i2] → s.heap.get? c = some o → h''.get? c = some o := fun c o hb q => by
        simp only [List.mem_cons, List.not_mem_nil, or_false, not_or] at hb
        exact (sb'.2 c hb.1).trans (hk c o hb.1 hb.2.2.1 hb.2.2.2.1 hb.2.2.2.2 q)
      have I1 : Inv X pins σ (upd H s.heap.objs.size (.tup [x, y])) { s with heap := h'', toks := tk } := I.turnedNew (t' := tk) (ch := [z, TI, TO, i1, i2]) up hf (Nat.le_refl _) new
      refine ⟨.ref s.heap.objs.size, _, I1, rfl, ⟨_, x, y, rfl, I.hok.fresh (Nat.le_refl _), rfl, hx, hy⟩, ⟨z'', ?_, ⟨u1, u2, ?_⟩, ?_, ?_⟩, fun c hcm => ?_⟩
      · exact (sb'.2 _ S.TIz).trans (hk _ _ S.TIz S.TITO S.TIi1 S.TIi2 hTI)
      · exact (sb'.2 _ S.TOz).trans TO'
      · exact (n1 _ _ n1').at fun o q => (sb'.2 _ S.zi1.symm).trans q
      · exact (n2 _ _ n2').at fun o q => (sb'.2 _ S.zi2.symm).trans q
      · have hlt : c < s.heap.objs.size := by
          simp only [List.mem_cons, List.not_mem_nil, or_false] at hcm
          rcases hcm with q | q | q | q | q
          · rw [q]; exact hzl
          · rw [q]; exact Heap.lt_size hTI
          · rw [q]; exact Heap.lt_size hTO
          · rw [q]; obtain ⟨_, e1, _⟩ := h1.there; exact Heap.lt_size e1
          · rw [q]; obtain ⟨_, e2, _⟩ := h2.there; exact Heap.lt_size e2
        rw [upd_ne (Nat.ne_of_lt hlt)]
        exact (hf c hcm).1
    have l1' : i < its.length := by rw [← rv1.length]; exact l1
    have l2' : i < its2.length := by rw [← rv2.length]; exact l2
    cases sb
    · exact wpAny_pyNext_zipD2_item S D1 D2 hz hTI hTO s1 s2 l1' l2' fun x1 x2 h' tk y1 y2 b1 b2 d1 d2 b5 b6 b7 => go x1 x2 h' tk y1 y2 b1 b2 d1 d2 b5 b7
    · exact Zs.py_item S D1 D2 hz hTI hTO s1 s2 l1' l2' go
  done := by
    intro X hP hw hK hc i pins s σ H E I hf st hg
    subst hP hw hK
    obtain ⟨hz, hTI, ⟨x0, y0, hTO⟩, h1, h2⟩ := st
    obtain ⟨q1, q2, l1, l2, le, ls⟩ := hg
    have hh : X.A.handled = none := I.ok.hd hc
    obtain ⟨its, St1, rv1, D1, s1, n1⟩ := src_draws (A := X.A.in1) hh I q1 ha h1
    obtain ⟨its2, St2, rv2, D2, s2, n2⟩ := src_draws (A := X.A.in1) hh I q2 hb h2
    have m1 := rv1.length
    have m2 := rv2.length
    cases sb
    · refine wpAny_pyNext_zipD2_end S D1 D2 hz hTI hTO s1 s2 (by omega) (by omega) (by omega) fun h' tk k => ⟨rfl, I.turnedL (t' := tk) (ch := [z, TI, TO, i1, i2]) (fun c o hb q => ?_) hf⟩
      simp only [List.mem_cons, List.not_mem_nil, or_false, not_or] at hb
      exact k c o hb.1 hb.2.2.1 hb.2.2.2.1 hb.2.2.2.2 q
    · obtain ⟨e1, e2⟩ := ls rfl
      have D1' : Draws X.prog X.w X.A.in1 i1 [i1, a] i (fun i v => its[i]? = some v) St1 := by rw [e1, m1]; exact D1
      have D2' : Draws X.prog X.w X.A.in1 i2 [i2, b] i (fun i v => its2[i]? = some v) St2 := by rw [e2, m2]; exact D2
      refine Zs.py_end hh S D1' D2' hz hTI hTO s1 s2 fun h' k => ⟨rfl, I.turnedL (t' := s.toks) (ch := [z, TI, TO, i1, i2]) (fun c o hb q => ?_) hf⟩
      simp only [List.mem_cons, List.not_mem_nil, or_false, not_or] at hb
      exact k c o hb.1 hb.2.2.2.1 hb.2.2.2.2 q
  self := fun A i s Q E st h => Zs.selfIter st.1 h
/-! the rules -/
def iZipU (K : PySem.W.Frag) (sb : Bool) (ta : TA) : TI := fun σ H R => ta σ H fun vs H1 => ∃ k1 k2 a b xs ys, vs = [.ref a, .ref b] ∧ Src k1 K H1 a xs ∧ Src k2 K H1 b ys ∧ R (Izu K k1 k2 sb a b xs ys) H1
section
variable {X : Cx} {e e2 : Expr} {ta : TA} {p pos tpos kp kpos : Pos} {elts : List Expr} {kk j : Nat}
theorem zip_fp {pins : List (Addr × Obj)} {H : Hp} {σ : L2.St} {s : Shared} (I : Inv X pins σ H s) : ∀ c ∈ [s.heap.objs.size + 4, s.heap.objs.size + 2, s.heap.objs.size + 3, s.heap.objs.size, s.heap.objs.size + 1], FpOk X pins H c := by
  intro c hc
  have hle : s.heap.objs.size ≤ c := by
    simp only [List.mem_cons, List.not_mem_nil, or_false] at hc
    rcases hc with z | z | z | z | z <;> rw [z]
    · exact Nat.le_add_right _ _
    · exact Nat.le_add_right _ _
    · exact Nat.le_add_right _ _
    · exact Nat.le_refl _
    · exact Nat.le_add_right _ _
  exact I.fpOk hle (I.hok.fresh hle)
theorem zip_sepU {N a b : Nat} (ha : a < N) (hb : b < N) : ZipSep2 (N + 4) (N + 2) (N + 3) N (N + 1) [N, a] [N + 1, b] :=
  zip_sep2 (fun x hx => by rw [List.mem_singleton] at hx; rw [hx]; exact ha) (fun x hx => by rw [List.mem_singleton] at hx; rw [hx]; exact hb)
theorem p_zip (hg : Gl X "zip") (hm : X.mg "zip" = none) (ha : PA X [e, e2] ta) (hs : starEach [e, e2] X.env = (false, eval e X.env) :: starEach [e2] X.env := by rfl) (hpl : (backTo pos (starEach [e2] X.env)).any (·.1) = false := by rfl) :
    PI X (.Tuple elts kk tpos) (.Call (.Name "zip" p) [e, e2] [] pos) (iZipU X.K false ta) := by
  constructor
  intro pins s σ H R I h
  refine PyProof.Rows.Call_ (ld_blt I hg hm PyProof.Rows.boot_zip (PyProof.Rows.callWith_type1 (thn (ha.run pos pins s σ H _ I h) ?_) hs hpl))
  rintro us s1 ⟨vs, H1, I1, r1, k1, k2, a, b, xs, ys, rfl, q1, q2, q⟩
  obtain ⟨u1, u2, rfl, r1, r2⟩ := vals2 r1
  cases r1
  cases r2
  obtain ⟨la, o1, P1, B1, hP1, f1⟩ := src_begins I1 q1
  obtain ⟨lb, o2, P2, B2, hP2, f2⟩ := src_begins I1 q2
  refine zip_begins2 B1 B2 hP1 hP2 fun h' hz hTI hTO g1 g2 hsz hk => Zs.selfIter (sb := false) hz ?_
  exact ⟨s1.heap.objs.size + 4, _, _, _, H1, rfl, I1.kept (t' := s1.toks) hk, turn_zu (zip_sepU la lb) (Nat.ne_of_lt la) (Nat.ne_of_lt (Nat.lt_succ_of_lt lb)), ⟨hz, hTI, ⟨_, _, hTO⟩, f1 _ _ g1, f2 _ _ g2⟩, zip_fp I1, q⟩
theorem callTyKw {M : Model} {A : Around} {E : Value → Shared → Prop} {s : Shared} {T : String} {first : List Value} {args : List (Bool × Sem Value)} {kws : List (Option Str × Sem Value)} {Q : Value → Shared → Prop} (hplain : (args.any (·.1) || kws.any (·.1.isNone)) = false)
    (h : wpAny M A (evalArgs (.type T) true args kws) (fun a s₁ => wpAny M A (call (.type T) (first ++ a.pos) a.kw) Q E s₁) E s) : wpAny M A (callWith pos (.type T) first args kws) Q E s := by
  unfold callWith
  refine wpAny_bind (wpAny_holding (wpAny_mono h (fun a s1 h1 => wpAny_bind (wpAny_standAt ?_)) fun _ _ z => z))
  simp only [hplain]
  exact wpAny_bind (wpAny_pure (wpAny_bind (wpAny_mono h1 (fun r s2 hr => wpAny_bind (wpAny_holding (wpAny_point (wpAny_pure hr)))) fun _ _ z => z)))
theorem p_zipS (hg : Gl X "zip") (hm : X.mg "zip" = none) (ha : PA X [e, e2] ta) (hs : starEach (e :: [e2]) X.env = (false, eval e X.env) :: starEach [e2] X.env := by rfl)
    (hpl : ((backTo pos (starEach (e :: [e2]) X.env)).any (·.1) || (backToKw pos (keywordEach [⟨some "strict", .Constant (.bool true) j kp, kpos⟩] X.env)).any (·.1.isNone)) = false := by rfl) :
    PI X (.Tuple elts kk tpos) (.Call (.Name "zip" p) [e, e2] [⟨some "strict", .Constant (.bool true) j kp, kpos⟩] pos) (iZipU X.K true ta) := by
  constructor
  intro pins s σ H R I h
  refine wpAny_Call_Name_kw (ld_blt I hg hm PyProof.Rows.boot_zip ?_)
  refine callTyKw hpl (PyProof.Rows.evalArgs_kw2 rfl (thn (ha.run pos pins s σ H _ I h) ?_) hs)
  rintro us s1 ⟨vs, H1, I1, r1, k1, k2, a, b, xs, ys, rfl, q1, q2, q⟩
  obtain ⟨u1, u2, rfl, r1, r2⟩ := vals2 r1
  cases r1
  cases r2
  have hk : PK X [⟨some "strict", .Constant (.bool true) j kp, kpos⟩] (tCons (tC (.bl true)) tNil) := pk_cons pe_bl pk_nil
  refine thn (hk.run pos pins s1 σ H1 (fun zs H2 => zs = [.bl true] ∧ H2 = H1) I1 ⟨rfl, rfl⟩) ?_
  rintro ws s2 ⟨zs, H2, I2, rz, rfl, rfl⟩
  obtain ⟨w1, rfl, rw1⟩ := vals1 rz
  cases rw1
  obtain ⟨la, o1, P1, B1, hP1, f1⟩ := src_begins I2 q1
  obtain ⟨lb, o2, P2, B2, hP2, f2⟩ := src_begins I2 q2
  refine Zs.made B1 B2 hP1 hP2 fun h' hz hTI hTO g1 g2 hk => Zs.selfIter (sb := true) hz ?_
  exact ⟨s2.heap.objs.size + 4, _, _, _, H2, rfl, I2.kept (t' := s2.toks) hk, turn_zu (zip_sepU la lb) (Nat.ne_of_lt la) (Nat.ne_of_lt (Nat.lt_succ_of_lt lb)), ⟨hz, hTI, ⟨_, _, hTO⟩, f1 _ _ g1, f2 _ _ g2⟩, zip_fp I2, q⟩
end
end DL

set_option maxHeartbeats 4000000
namespace DL.Zl
open PySem PySem.Builtin.SmallTypes
/-! list(zip(v1, v2)): the pairs are kept, so that zip makes each one anew -/
section
variable {prog : Program} {w : World} {A : Around} {E : Value → Shared → Prop} {s : Shared} {z TI TO i1 i2 : Addr} {fp1 fp2 : List Addr} {n1 n2 i : Nat} {P1 P2 : Nat → Value → Prop} {St1 St2 : Nat → Heap → Prop} {T0 : Addr} {f : Bool} {oT : Obj}
theorem held_item {Q : Value → Shared → Prop} (S : ZipSep2 z TI TO i1 i2 fp1 fp2) (D1 : Draws prog w A i1 fp1 n1 P1 St1) (D2 : Draws prog w A i2 fp2 n2 P2 St2)
    (hz : IsZipHeld s.heap z TI TO T0 f) (hT0 : s.heap.get? T0 = some oT) (hTI : IsTupOf2 s.heap TI (.ref i1) (.ref i2)) (st1 : St1 i s.heap) (st2 : St2 i s.heap) (l1 : i < n1) (l2 : i < n2)
    (hQ : ∀ x1 x2 h' tk, P1 i x1 → P2 i x2 → IsZipHeld h' z TI TO T0 true → St1 (i + 1) h' → St2 (i + 1) h' → IsTupOf2 h' s.heap.objs.size x1 x2 →
      (∀ c o, c ≠ z → c ≠ i1 → c ≠ i2 → s.heap.get? c = some o → h'.get? c = some o) → Q (.ref s.heap.objs.size) { s with heap := h', toks := tk }) :
    wpAny (model prog w) A (Builtin.«zip.__next__» ⟨[.ref z], []⟩) (fun fin s' => ∃ v, fin = .done (.ret v) ∧ Q v s') E s := by
  obtain ⟨hp, g, d, tk0, os⟩ := s
  show wpAny _ _ (field (.ref z) 2 >>= _) _ _ _
  refine wpAny_bind (wpAny_field hz rfl (x := .bool false) rfl ?_)
  show wpAny _ _ (field (.ref z) 3 >>= _) _ _ _
  refine wpAny_bind (wpAny_field hz rfl (x := .ref TI) rfl (wpAny_bind (wpAny_seqItems hTI rfl ?_)))
  show wpAny _ _ (ownedTupleIsFree (.ref z) >>= _) _ _ _
  refine wpAny_bind (wpAny_tupleHeld_zip hz hT0 fun g0 z0 b0 => ?_)
  change Heap.SameBut z hp g0 at b0
  simp only [Bool.false_eq_true, if_false]
  refine wpAny_bind ?_
  show wpAny _ _ (forIn (#[Value.ref i1, Value.ref i2] : Array Value) _ _) _ _ _
  rw [← Array.forIn_toList]
  simp only [List.forIn_cons, List.forIn_nil]
  refine wpAny_bind (wpAny_bind (wpAny_holding ?_))
  show wpAny _ _ (nextOf (.ref i1) >>= _) _ _ ⟨g0, g, d, tk0, os⟩
  refine wpAny_bind (D1.item i _ _ _ l1 (D1.over st1 b0 S.zf1) fun x1 p1 tk1 hx1 sn1 c1 => wpAny_pure ?_)
  change Heap.SameBut i1 g0 p1 at c1
  refine wpAny_pure (wpAny_bind (wpAny_bind (wpAny_holding ?_)))
  show wpAny _ _ (nextOf (.ref i2) >>= _) _ _ ⟨p1, g, d, tk1, os⟩
  refine wpAny_bind (D2.item i _ _ _ l2 (D2.over (D2.over st2 b0 S.zf2) c1 S.sep1_2) fun x2 p2 tk2 hx2 sn2 c2 => wpAny_pure ?_)
  change Heap.SameBut i2 p1 p2 at c2
  refine wpAny_pure (wpAny_pure (wpAny_bind (wpAny_newTuple (hsz := by show 2 ≤ sizeLine; decide) ?_)))
  have sz : p2.objs.size = hp.objs.size := by rw [c2.1, c1.1, b0.1]
  refine wpAny_pure ⟨_, rfl, ?_⟩
  show Q (.ref p2.objs.size) ⟨p2.push { cls := .type "tuple", data := .seq #[x1, x2] }, g, d, tk2, os⟩
  have up0 : ∀ c o, c ≠ i1 → c ≠ i2 → g0.get? c = some o → (p2.push { cls := .type "tuple", data := .seq #[x1, x2] }).get? c = some o := fun c o q1 q2 e => Heap.get?_push_of_some _ (c2.extBut _ _ q2 (c1.extBut _ _ q1 e))
  have up : ∀ c o, c ≠ z → c ≠ i1 → c ≠ i2 → hp.get? c = some o → (p2.push { cls := .type "tuple", data := .seq #[x1, x2] }).get? c = some o := fun c o q0 q1 q2 e => up0 c o q1 q2 (b0.extBut _ _ q0 e)
  have t8 : IsTupOf2 (p2.push { cls := .type "tuple", data := .seq #[x1, x2] }) p2.objs.size x1 x2 := Heap.get?_push_size _ rfl
  rw [sz] at t8 ⊢
  exact hQ x1 x2 _ tk2 hx1 hx2 (up0 _ _ S.zi1 S.zi2 z0) (D1.frame _ _ _ (D1.over sn1 c2 S.sep2_1) fun b _ o e => Heap.get?_push_of_some _ e) (D2.frame _ _ _ sn2 fun b _ o e => Heap.get?_push_of_some _ e) t8 up
theorem held_end {Q : Fin → Shared → Prop} (S : ZipSep2 z TI TO i1 i2 fp1 fp2) (D1 : Draws prog w A i1 fp1 n1 P1 St1) (D2 : Draws prog w A i2 fp2 n2 P2 St2)
    (hz : IsZipHeld s.heap z TI TO T0 f) (hT0 : s.heap.get? T0 = some oT) (hTI : IsTupOf2 s.heap TI (.ref i1) (.ref i2)) (st1 : St1 n1 s.heap)
    (hE : ∀ h' e, (∀ c o, c ≠ z → c ≠ i1 → s.heap.get? c = some o → h'.get? c = some o) → (∃ o, h'.get? e = some o ∧ o.cls = .type "StopIteration") → E (.ref e) { s with heap := h' }) :
    wpAny (model prog w) A (Builtin.«zip.__next__» ⟨[.ref z], []⟩) Q E s := by
  obtain ⟨hp, g, d, tk0, os⟩ := s
  show wpAny _ _ (field (.ref z) 2 >>= _) _ _ _
  refine wpAny_bind (wpAny_field hz rfl (x := .bool false) rfl ?_)
  show wpAny _ _ (field (.ref z) 3 >>= _) _ _ _
  refine wpAny_bind (wpAny_field hz rfl (x := .ref TI) rfl (wpAny_bind (wpAny_seqItems hTI rfl ?_)))
  show wpAny _ _ (ownedTupleIsFree (.ref z) >>= _) _ _ _
  refine wpAny_bind (wpAny_tupleHeld_zip hz hT0 fun g0 z0 b0 => ?_)
  change Heap.SameBut z hp g0 at b0
  simp only [Bool.false_eq_true, if_false]
  refine wpAny_bind ?_
  show wpAny _ _ (forIn (#[Value.ref i1, Value.ref i2] : Array Value) _ _) _ _ _
  rw [← Array.forIn_toList]
  simp only [List.forIn_cons, List.forIn_nil]
  refine wpAny_bind (wpAny_bind (wpAny_holding ?_))
  show wpAny _ _ (nextOf (.ref i1) >>= _) _ _ ⟨g0, g, d, tk0, os⟩
  exact wpAny_bind (D1.done _ _ _ (D1.over st1 b0 S.zf1) fun h' e x y => hE h' e (fun c o q0 q e => x c o q (b0.extBut _ _ q0 e)) y)
theorem py_held {Q : Option Value → Shared → Prop} (S : ZipSep2 z TI TO i1 i2 fp1 fp2) (D1 : Draws prog w A.in1 i1 fp1 n1 P1 St1) (D2 : Draws prog w A.in1 i2 fp2 n2 P2 St2)
    (hz : IsZipHeld s.heap z TI TO T0 f) (hT0 : s.heap.get? T0 = some oT) (hTI : IsTupOf2 s.heap TI (.ref i1) (.ref i2)) (st1 : St1 i s.heap) (st2 : St2 i s.heap) (l1 : i < n1) (l2 : i < n2)
    (hQ : ∀ x1 x2 h' tk, P1 i x1 → P2 i x2 → IsZipHeld h' z TI TO T0 true → St1 (i + 1) h' → St2 (i + 1) h' → IsTupOf2 h' s.heap.objs.size x1 x2 →
      (∀ c o, c ≠ z → c ≠ i1 → c ≠ i2 → s.heap.get? c = some o → h'.get? c = some o) → Q (some (.ref s.heap.objs.size)) { s with heap := h', toks := tk }) : wpAny (model prog w) A (pyNext (.ref z)) Q E s := by
  have hT : s.TypeIs (.ref z) "zip" := ⟨_, hz, rfl⟩
  unfold pyNext
  refine wpAny_bind (wpAny_attempt (wpAny_callSpecial?_slot (name := Str.ofString "__next__") hT F.slot_zip_next (wpAny_call_entry F.slot_zip_next hT F.entry_zip_next ?_ (F.args_zip_next_1 _))))
  exact held_item S D1 D2 hz hT0 hTI st1 st2 l1 l2 fun x1 x2 h' tk p1 p2 q1 q2 q3 q4 q5 => wpAny_pure (hQ x1 x2 h' tk p1 p2 q1 q2 q3 q4 q5)
theorem py_heldEnd {Q : Option Value → Shared → Prop} (S : ZipSep2 z TI TO i1 i2 fp1 fp2) (D1 : Draws prog w A.in1 i1 fp1 n1 P1 St1) (D2 : Draws prog w A.in1 i2 fp2 n2 P2 St2)
    (hz : IsZipHeld s.heap z TI TO T0 f) (hT0 : s.heap.get? T0 = some oT) (hTI : IsTupOf2 s.heap TI (.ref i1) (.ref i2)) (st1 : St1 n1 s.heap)
    (hQ : ∀ h', (∀ c o, c ≠ z → c ≠ i1 → s.heap.get? c = some o → h'.get? c = some o) → Q none { s with heap := h' }) : wpAny (model prog w) A (pyNext (.ref z)) Q E s := by
  have hT : s.TypeIs (.ref z) "zip" := ⟨_, hz, rfl⟩
  unfold pyNext
  refine wpAny_bind (wpAny_attempt (wpAny_callSpecial?_slot (name := Str.ofString "__next__") hT F.slot_zip_next (wpAny_call_entry F.slot_zip_next hT F.entry_zip_next ?_ (F.args_zip_next_1 _))))
  refine held_end (A := A.in1) S D1 D2 hz hT0 hTI st1 ?_
  rintro h' e k ⟨o, ho, hc⟩
  exact wpAny_bind (wpAny_isInstance (T := "StopIteration") (b := true) ⟨o, ho, hc⟩ isSubtype_stop (wpAny_pure (hQ _ k)))
end
end DL.Zl
namespace DL
open PySem L2
section
variable {X : Cx} {pins : List (Addr × Obj)} {σ : L2.St} {a b z TI TO i1 i2 S : Addr} {xs ys : List V} {k1 k2 : Bool} {n : Nat}
/-- how the zip stands while its pairs are kept -/
def ZKept (h : Heap) (z TI TO i1 i2 : Addr) : Prop := (IsZip h z TI TO .none ∨ ∃ T f oT, IsZipHeld h z TI TO T f ∧ h.get? T = some oT ∧ T ∉ [z, TI, TO, i1, i2]) ∧ (∃ x y, IsTupOf2 h TO x y) ∧ IsTupOf2 h TI (.ref i1) (.ref i2)
/-- where the loop of list(zip(..)) stands behind i pairs -/
structure LzAt (X : Cx) (pins : List (Addr × Obj)) (σ : L2.St) (k1 k2 : Bool) (a b z TI TO i1 i2 : Addr) (xs ys : List V) (i : Nat) (H : Hp) (s : Shared) : Prop where
  inv : Inv X pins σ H s
  fp : ∀ c ∈ [z, TI, TO, i1, i2], FpOk X pins H c
  zip : ZKept s.heap z TI TO i1 i2
  it1 : SIt k1 s.heap i1 a i
  it2 : SIt k2 s.heap i2 b i
  q1 : Src k1 X.K H a xs
  q2 : Src k2 X.K H b ys
theorem FpOk.laid {H : Hp} {c T : Addr} {o : HO} (f : FpOk X pins H c) (ne : c ≠ T) : FpOk X pins (upd H T o) c := ⟨by rw [upd_ne ne]; exact f.1, f.2⟩
theorem LzAt.low {H : Hp} {s : Shared} {i : Nat} (st : LzAt X pins σ k1 k2 a b z TI TO i1 i2 xs ys i H s) : ∀ c ∈ [z, TI, TO, i1, i2], c < s.heap.objs.size := by
  intro c hcm
  simp only [List.mem_cons, List.not_mem_nil, or_false] at hcm
  obtain ⟨hz, ⟨_, _, hTO⟩, hTI⟩ := st.zip
  rcases hcm with q | q | q | q | q
  · rw [q]
    rcases hz with e | ⟨_, _, _, e, _⟩
    · exact Heap.lt_size e
    · exact Heap.lt_size e
  · rw [q]; exact Heap.lt_size hTI
  · rw [q]; exact Heap.lt_size hTO
  · rw [q]; obtain ⟨_, e1, _⟩ := st.it1.there; exact Heap.lt_size e1
  · rw [q]; obtain ⟨_, e2, _⟩ := st.it2.there; exact Heap.lt_size e2
theorem Src.mono {k : Bool} {K : PySem.W.Frag} {H H' : Hp} {a : Addr} {xs : List V} (s : Sub H H') (h : Src k K H a xs) : Src k K H' a xs := by
  cases k
  · exact s.sqL (show SqL K H a xs from h)
  · exact s.sqT (show SqT K H a xs from h)
/-- one pair more -/
theorem lz_next {H : Hp} {s : Shared} {i : Nat} {Q : Option Value → Shared → Prop} {E : Value → Shared → Prop} {B : Around} (hc : B.handled = none) (Sp : ZipSep2 z TI TO i1 i2 [i1, a] [i2, b]) (ha : a ≠ i1) (hb : b ≠ i2)
    (st : LzAt X pins σ k1 k2 a b z TI TO i1 i2 xs ys i H s) (l1 : i < xs.length) (l2 : i < ys.length)
    (hQ : ∀ T s' x y, xs[i]? = some x → ys[i]? = some y → H T = none → LzAt X pins σ k1 k2 a b z TI TO i1 i2 xs ys (i + 1) (upd H T (.tup [x, y])) s' → Q (some (.ref T)) s') : wpAny (model X.prog X.w) B (pyNext (.ref z)) Q E s := by
  have I := st.inv
  have hh : B.in1.handled = none := hc
  obtain ⟨its, St1, rv1, D1, s1, n1⟩ := src_draws hh I st.q1 ha st.it1
  obtain ⟨its2, St2, rv2, D2, s2, n2⟩ := src_draws hh I st.q2 hb st.it2
  obtain ⟨x, hx⟩ : ∃ x, xs[i]? = some x := ⟨xs[i], List.getElem?_eq_getElem l1⟩
  obtain ⟨y, hy⟩ : ∃ y, ys[i]? = some y := ⟨ys[i], List.getElem?_eq_getElem l2⟩
  obtain ⟨u1, e1, r1⟩ := rv1.get hx
  obtain ⟨u2, e2, r2⟩ := rv2.get hy
  have l1' : i < its.length := by rw [← rv1.length]; exact l1
  have l2' : i < its2.length := by rw [← rv2.length]; exact l2
  have low := st.low
  have fresh : H s.heap.objs.size = none := I.hok.fresh (Nat.le_refl _)
  have go : ∀ v1 v2 h' tk, its[i]? = some v1 → its2[i]? = some v2 → St1 (i + 1) h' → St2 (i + 1) h' → IsTupOf2 h' s.heap.objs.size v1 v2 → ZKept h' z TI TO i1 i2 → (∀ c o, c ∉ [z, TI, TO, i1, i2] → s.heap.get? c = some o → h'.get? c = some o) →
      Q (some (.ref s.heap.objs.size)) { s with heap := h', toks := tk } := by
    intro v1 v2 h' tk g1 g2 t1 t2 hT zk up
    rw [e1] at g1
    rw [e2] at g2
    cases g1
    cases g2
    have new : ObjOk X.prog X.w (upd H s.heap.objs.size (.tup [x, y])) h' s.heap.objs.size (.tup [x, y]) := ⟨by show 2 ≤ sizeLine; decide, [u1, u2], .cons r1 (.cons r2 .nil), ⟨_, hT, rfl, _, rfl⟩⟩
    have I1 : Inv X pins σ (upd H s.heap.objs.size (.tup [x, y])) { s with heap := h', toks := tk } := I.turnedNew (t' := tk) (ch := [z, TI, TO, i1, i2]) up st.fp (Nat.le_refl _) new
    exact hQ _ _ x y hx hy fresh ⟨I1, fun c hcm => FpOk.laid (st.fp c hcm) (Nat.ne_of_lt (low c hcm)), zk, n1 _ _ t1, n2 _ _ t2, st.q1.mono (sub_upd fresh), st.q2.mono (sub_upd fresh)⟩
  obtain ⟨hz, ⟨a1, a2, hTO⟩, hTI⟩ := st.zip
  have nin : s.heap.objs.size ∉ [z, TI, TO, i1, i2] := fun q => Nat.lt_irrefl _ (low _ q)
  rcases hz with hz | ⟨T0, f, oT, hz, hT0, hnT⟩
  · refine wpAny_pyNext_zipD2_item Sp D1 D2 hz hTI hTO s1 s2 l1' l2' fun v1 v2 h' tk p1 p2 z' TO' t1 t2 hT _ up => ?_
    refine go v1 v2 h' tk p1 p2 t1 t2 hT ⟨.inr ⟨_, false, _, z', hT, nin⟩, ⟨_, _, TO'⟩, up _ _ Sp.TIz Sp.TITO Sp.TIi1 Sp.TIi2 hTI⟩ fun c o hn e => ?_
    simp only [List.mem_cons, List.not_mem_nil, or_false, not_or] at hn
    exact up c o hn.1 hn.2.2.1 hn.2.2.2.1 hn.2.2.2.2 e
  · refine Zl.py_held Sp D1 D2 hz hT0 hTI s1 s2 l1' l2' fun v1 v2 h' tk p1 p2 z' t1 t2 hT up => ?_
    have hn0 := hnT
    simp only [List.mem_cons, List.not_mem_nil, or_false, not_or] at hn0
    refine go v1 v2 h' tk p1 p2 t1 t2 hT ⟨.inr ⟨T0, true, oT, z', up _ _ hn0.1 hn0.2.2.2.1 hn0.2.2.2.2 hT0, hnT⟩, ⟨_, _, up _ _ Sp.TOz Sp.Ti1 Sp.Ti2 hTO⟩, up _ _ Sp.TIz Sp.TIi1 Sp.TIi2 hTI⟩ fun c o hn e => ?_
    simp only [List.mem_cons, List.not_mem_nil, or_false, not_or] at hn
    exact up c o hn.1 hn.2.2.2.1 hn.2.2.2.2 e
theorem lz_end {H : Hp} {s : Shared} {Q : Option Value → Shared → Prop} {E : Value → Shared → Prop} {B : Around} (hc : B.handled = none) (Sp : ZipSep2 z TI TO i1 i2 [i1, a] [i2, b]) (ha : a ≠ i1) (hb : b ≠ i2)
    (st : LzAt X pins σ k1 k2 a b z TI TO i1 i2 xs ys xs.length H s) (hl : xs.length = ys.length) (hQ : ∀ s', Inv X pins σ H s' → Q none s') : wpAny (model X.prog X.w) B (pyNext (.ref z)) Q E s := by
  have I := st.inv
  have hh : B.in1.handled = none := hc
  obtain ⟨its, St1, rv1, D1, s1, n1⟩ := src_draws hh I st.q1 ha st.it1
  obtain ⟨its2, St2, rv2, D2, s2, n2⟩ := src_draws hh I st.q2 hb st.it2
  have m1 := rv1.length
  have m2 := rv2.length
  obtain ⟨hz, ⟨a1, a2, hTO⟩, hTI⟩ := st.zip
  rcases hz with hz | ⟨T0, f, oT, hz, hT0, hnT⟩
  · refine wpAny_pyNext_zipD2_end Sp D1 D2 hz hTI hTO s1 s2 (by omega) (by omega) (by omega) fun h' tk k => hQ _ (I.turnedL (t' := tk) (ch := [z, TI, TO, i1, i2]) (fun c o hn q => ?_) st.fp)
    simp only [List.mem_cons, List.not_mem_nil, or_false, not_or] at hn
    exact k c o hn.1 hn.2.2.1 hn.2.2.2.1 hn.2.2.2.2 q
  · refine Zl.py_heldEnd Sp D1 D2 hz hT0 hTI (by rw [← m1]; exact s1) fun h' k => hQ _ (I.turnedL (t' := s.toks) (ch := [z, TI, TO, i1, i2]) (fun c o hn q => ?_) st.fp)
    simp only [List.mem_cons, List.not_mem_nil, or_false, not_or] at hn
    exact k c o hn.1 hn.2.2.2.1 q
theorem Src.but {k : Bool} {K : PySem.W.Frag} {H : Hp} {a S : Addr} {o : HO} {xs : List V} (h : Src k K H a xs) (ne : a ≠ S) : Src k K (upd H S o) a xs := by
  have rd : ∀ u, Rd H a u → Rd (upd H S o) a u := fun u q => by
    rcases q with q | ⟨p, q⟩
    · exact .inl (by rw [upd_ne ne]; exact q)
    · exact .inr ⟨p, by rw [upd_ne ne]; exact q⟩
  cases k
  · rcases (show SqL K H a xs from h) with q | q
    · exact .inl (rd _ q)
    · exact .inr q
  · rcases (show SqT K H a xs from h) with q | q
    · exact .inl (rd _ q)
    · exact .inr q
/-- the list under way is written -/
theorem LzAt.wrote {H : Hp} {s : Shared} {i : Nat} {ps qs : List V} {h' : Heap} {tk : Nat} {us : List Value} {c : Nat} (st : LzAt X pins σ k1 k2 a b z TI TO i1 i2 xs ys i H s) (hS : H S = some (.lst ps)) (naS : a ≠ S) (nbS : b ≠ S)
    (up : ∀ b o, b ≠ S → s.heap.get? b = some o → h'.get? b = some o) (hz : qs.length ≤ sizeLine) (rv : Vals qs us) (hg : h'.get? S = some { cls := .type "list", data := .seq us.toArray c }) :
    LzAt X pins σ k1 k2 a b z TI TO i1 i2 xs ys i (upd H S (.lst qs)) { s with heap := h', toks := tk } := by
  have ne : ∀ c ∈ [z, TI, TO, i1, i2], c ≠ S := fun c hc q => by
    have := (st.fp c hc).1
    rw [q, hS] at this; cases this
  have z0 := ne z (by simp)
  have z1 := ne TI (by simp)
  have z2 := ne TO (by simp)
  have z3 := ne i1 (by simp)
  have z4 := ne i2 (by simp)
  have I2 : Inv X pins σ (upd H S (.lst qs)) { s with heap := h', toks := tk } := st.inv.write (e := S) (by rw [hS]; trivial) (.inl rfl) up ⟨_, hg⟩ ⟨hz, us, c, rv, hg⟩
  obtain ⟨hzp, ⟨a1, a2, hTO⟩, hTI⟩ := st.zip
  refine ⟨I2, fun c hc => FpOk.laid (st.fp c hc) (ne c hc), ⟨?_, ⟨a1, a2, up _ _ z2 hTO⟩, up _ _ z1 hTI⟩, st.it1.at fun o q => up _ _ z3 q, st.it2.at fun o q => up _ _ z4 q, st.q1.but naS, st.q2.but nbS⟩
  rcases hzp with e | ⟨T0, f, oT, e, hT0, hn⟩
  · exact .inl (up _ _ z0 e)
  · by_cases q : T0 = S
    · exact .inr ⟨T0, f, _, up _ _ z0 e, by rw [q]; exact hg, hn⟩
    · exact .inr ⟨T0, f, oT, up _ _ z0 e, up _ _ q hT0, hn⟩
/-- the pairs so far -/
def Prd (xs ys : List V) (H0 H : Hp) (i : Nat) (ps : List V) : Prop := ps.length = i ∧ ∀ (j : Nat) x y, j < i → xs[j]? = some x → ys[j]? = some y → ∃ T, ps[j]? = some (.ref T) ∧ H T = some (.tup [x, y]) ∧ H0 T = none
/-- the loop -/
theorem lz_loop {B : Around} (hc : B.handled = none) (Sp : ZipSep2 z TI TO i1 i2 [i1, a] [i2, b]) (ha : a ≠ i1) (hb : b ≠ i2) (naS : a ≠ S) (nbS : b ≠ S) (hl : xs.length = ys.length) (hn : xs.length ≤ 100000) (res : Value) (H0 : Hp) {R : Result → Shared → Prop}
    (hR : ∀ ps H s, Inv X pins σ H s → H S = some (.lst ps) → Prd xs ys H0 H xs.length ps → (∀ c o, H0 c = some o → c ≠ S → H c = some o) → R (.ok (.ret res)) s) :
    ∀ (k i : Nat) (s : Shared) (ps : List V) (H : Hp), xs.length - i = k → i ≤ xs.length → LzAt X pins σ k1 k2 a b z TI TO i1 i2 xs ys i H s → H S = some (.lst ps) → Prd xs ys H0 H i ps → (∀ c o, H0 c = some o → c ≠ S → H c = some o) →
      codeAny (model X.prog X.w) B (.builtin "list.extend.loop" ⟨[.ref S, .ref z, res], []⟩) R s := by
  intro k
  induction k with
  | zero =>
    intro i s ps H hk hi st hS hp h0
    have e : i = xs.length := by omega
    subst e
    refine codeAny_builtin F.entry_extend_loop ?_
    rw [Around.under_plainId F.plain_extend_loop _]
    show wpAny _ B.in1 (pyNext (.ref z) >>= _) _ _ s
    exact wpAny_bind (lz_end (B := B.in1) hc Sp ha hb st hl fun s' I' => wpAny_pure (hR ps H s' I' hS hp h0))
  | succ k ih =>
    intro i s ps H hk hi st hS hp h0
    refine codeAny_builtin F.entry_extend_loop ?_
    rw [Around.under_plainId F.plain_extend_loop _]
    show wpAny _ B.in1 (pyNext (.ref z) >>= _) _ _ s
    refine wpAny_bind (lz_next (B := B.in1) hc Sp ha hb st (by omega) (by omega) fun T s1 x y hx hy hT st1 => ?_)
    have neT : S ≠ T := ne_of_none hS hT
    have I1 := st1.inv
    have hS1 : upd H T (.tup [x, y]) S = some (.lst ps) := by rw [upd_ne neT]; exact hS
    obtain ⟨hz, its, c, rv, hget⟩ := I1.hok S _ hS1
    show wpAny _ B.in1 (updateSeq S (·.push (.ref T)) >>= _) _ _ _
    have hlen : its.length = i := by rw [← rv.length]; exact hp.1
    have big : i + 1 ≤ sizeLine := Nat.le_trans (show i + 1 ≤ 100000 by omega) (by decide)
    refine wpAny_bind (wpAny_updateSeq hget rfl (wpAny_pure ⟨plainId_quiet F.plain_extend_loop _, ?_⟩) (by rw [List.size_toArray, hlen]; omega) (by rw [Array.size_push, List.size_toArray, hlen]; omega))
    have hg2 := Heap.get?_update_self (Obj.mapSeq (·.push (Value.ref T))) hget rfl
    obtain ⟨c3, hg3⟩ : ∃ c3, (s1.heap.update S (Obj.mapSeq (·.push (Value.ref T)))).get? S = some { cls := .type "list", data := .seq (its ++ [Value.ref T]).toArray c3 } := ⟨_, by rw [hg2]; simp [Obj.mapSeq]; rfl⟩
    have st2 := st1.wrote (tk := s1.toks) hS1 naS nbS (fun b o hb e => (Heap.get?_update_other _ _ (Ne.symm hb)).trans e) (qs := ps ++ [.ref T]) (by rw [List.length_append, hp.1]; exact big) (us := its ++ [Value.ref T]) (rv.append (.cons (show RelV (.ref T) (Value.ref T) from rfl) .nil)) hg3
    refine ih (i + 1) _ (ps ++ [.ref T]) _ (by omega) (by omega) st2 upd_same ⟨by rw [List.length_append, hp.1]; rfl, fun j x' y' hj hx' hy' => ?_⟩ fun c' o hc' hne => ?_
    · by_cases hji : j = i
      · subst hji
        rw [hx] at hx'
        rw [hy] at hy'
        cases hx'
        cases hy'
        exact ⟨T, by rw [List.getElem?_append_right (by rw [hp.1]; exact Nat.le_refl _), hp.1, Nat.sub_self]; rfl, by rw [upd_ne neT.symm, upd_same], by
          cases q : H0 T with
          | none => rfl
          | some o => rw [h0 T o q neT.symm] at hT; cases hT⟩
      · obtain ⟨T', e1, e2, e3⟩ := hp.2 j x' y' (by omega) hx' hy'
        refine ⟨T', by rw [List.getElem?_append_left (by rw [hp.1]; omega)]; exact e1, ?_, e3⟩
        rw [upd_ne (fun q => by rw [q, hS] at e2; cases e2), upd_ne (ne_of_none e2 hT)]; exact e2
    · rw [upd_ne hne, upd_ne (ne_of_none (h0 c' o hc' hne) hT)]; exact h0 c' o hc' hne
/-- list(it) for a zip it that has just been made -/
theorem lz_list {H : Hp} {s : Shared} {Q : Value → Shared → Prop} {E : Value → Shared → Prop} (hc : X.calm = true) (Sp : ZipSep2 z TI TO i1 i2 [i1, a] [i2, b]) (ha : a ≠ i1) (hb : b ≠ i2) (hl : xs.length = ys.length) (hn : xs.length ≤ 100000)
    (st : LzAt X pins σ k1 k2 a b z TI TO i1 i2 xs ys 0 H s) (la : a < s.heap.objs.size) (lb : b < s.heap.objs.size)
    (hQ : ∀ S ps H' s', Inv X pins σ H' s' → H S = none → H' S = some (.lst ps) → Prd xs ys H H' xs.length ps → (∀ c o, H c = some o → H' c = some o) → Q (.ref S) s') :
    wpAny (model X.prog X.w) X.A (call (.type "list") [.ref z]) Q E s := by
  have fr : H s.heap.objs.size = none := st.inv.hok.fresh (Nat.le_refl _)
  have nS : ∀ c ∈ [z, TI, TO, i1, i2], c ≠ s.heap.objs.size := fun c hc => Nat.ne_of_lt (st.low c hc)
  refine callType_codes (Q₁ := fun obj s₁ => obj = .ref s.heap.objs.size ∧ s₁ = { s with heap := s.heap.push { cls := .type "list", data := .seq #[] } }) F.called_list (F.typeCall_list_1 _) F.entry_list_init (code_list_new _ ⟨rfl, rfl⟩) fun obj s₁ h₁ => ?_
  obtain ⟨rfl, rfl⟩ := h₁
  have hS : (s.heap.push { cls := .type "list", data := .seq #[] }).get? s.heap.objs.size = some { cls := .type "list", data := .seq #[] } := Heap.get?_push_size _ rfl
  -- the new list is tracked
  have I1 : Inv X pins σ (upd H s.heap.objs.size (.lst [])) { s with heap := s.heap.push { cls := .type "list", data := .seq #[] } } :=
    st.inv.laid (t' := s.toks) (fun b o e => Heap.get?_push_of_some _ e) (Nat.le_refl _) ⟨Nat.zero_le _, [], 0, .nil, hS⟩
  have st1 : LzAt X pins σ k1 k2 a b z TI TO i1 i2 xs ys 0 (upd H s.heap.objs.size (.lst [])) { s with heap := s.heap.push { cls := .type "list", data := .seq #[] } } := by
    obtain ⟨hzp, ⟨a1, a2, hTO⟩, hTI⟩ := st.zip
    refine ⟨I1, fun c hc => FpOk.laid (st.fp c hc) (nS c hc), ⟨?_, ⟨a1, a2, Heap.get?_push_of_some _ hTO⟩, Heap.get?_push_of_some _ hTI⟩, st.it1.at fun o q => Heap.get?_push_of_some _ q, st.it2.at fun o q => Heap.get?_push_of_some _ q, st.q1.mono (sub_upd fr), st.q2.mono (sub_upd fr)⟩
    rcases hzp with e | ⟨T0, f, oT, e, hT0, hn⟩
    · exact .inl (Heap.get?_push_of_some _ e)
    · exact .inr ⟨T0, f, oT, Heap.get?_push_of_some _ e, Heap.get?_push_of_some _ hT0, hn⟩
  refine ⟨⟨_, hS, rfl⟩, F.args_list_init_2 _ _, ?_⟩
  generalize e0 : s.heap.push { cls := .type "list", data := .seq #[] } = h0 at hS I1 st1 ⊢
  show wpAny _ _ (do let old ← Builtin.List.listItems (.ref s.heap.objs.size); Builtin.List.listUpdate (.ref s.heap.objs.size) (fun _ => #[]); letGo old.toList.reverse; Builtin.List.listExtendWith (.ref s.heap.objs.size) (.ref z) .none) _ _ _
  refine wpAny_bind ?_
  unfold Builtin.List.listItems
  refine wpAny_bind (wpAny_seqItems hS rfl (wpAny_pure ?_))
  show wpAny _ _ (updateSeq s.heap.objs.size (fun _ => #[]) >>= fun _ => letGo (#[] : Array Value).toList.reverse >>= fun _ => Builtin.List.listExtendWith (.ref s.heap.objs.size) (.ref z) .none) _ _ _
  refine wpAny_bind (wpAny_updateSeq hS rfl (wpAny_bind (wpAny_letGo ?_)))
  have a2 := Heap.get?_update_self (Obj.mapSeq (fun _ => (#[] : Array Value))) hS rfl
  have o2 : ∀ b o, b ≠ s.heap.objs.size → h0.get? b = some o → (h0.update s.heap.objs.size (Obj.mapSeq (fun _ => (#[] : Array Value)))).get? b = some o := fun b o hb e => (Heap.get?_update_other _ _ (Ne.symm hb)).trans e
  generalize e2 : h0.update s.heap.objs.size (Obj.mapSeq (fun _ => (#[] : Array Value))) = h2 at a2 o2 ⊢
  have a2' : h2.get? s.heap.objs.size = some { cls := .type "list", data := .seq #[] 0 } := a2
  have zt : (⟨h2, s.gens, s.drawn, s.toks, s.os⟩ : Shared).TypeIs (.ref z) "zip" := by
    obtain ⟨hzp, _⟩ := st1.zip
    have nz : z ≠ s.heap.objs.size := nS z (by simp)
    rcases hzp with e | ⟨T0, f, oT, e, _⟩
    · exact ⟨_, o2 _ _ nz e, rfl⟩
    · exact ⟨_, o2 _ _ nz e, rfl⟩
  unfold Builtin.List.listExtendWith
  refine wpAny_bind (wpAny_typeOf (T := "zip") zt ?_)
  have h1 : Builtin.List.listSameRef (.ref s.heap.objs.size) (.ref z) = false := by
    have nz : s.heap.objs.size ≠ z := (nS z (by simp)).symm
    simp [Builtin.List.listSameRef, nz]
  have hb2 : (Value.type "zip" == Value.type "list") = false := by decide
  have hb3 : (Value.type "zip" == Value.type "tuple") = false := by decide
  simp only [h1, hb2, hb3, Bool.or_false, Bool.false_eq_true, if_false]
  have selfI : ∀ (h : Heap), (∀ b o, b ≠ s.heap.objs.size → h0.get? b = some o → h.get? b = some o) → ∀ (Q : Value → Shared → Prop) (E : Value → Shared → Prop), Q (.ref z) ⟨h, s.gens, s.drawn, s.toks, s.os⟩ → wpAny (model X.prog X.w) X.A.in1.in1 (pyIter (.ref z)) Q E ⟨h, s.gens, s.drawn, s.toks, s.os⟩ := by
    intro h up Q E q
    have hT : (⟨h, s.gens, s.drawn, s.toks, s.os⟩ : Shared).TypeIs (.ref z) "zip" := by
      obtain ⟨hzp, _⟩ := st1.zip
      have nz : z ≠ s.heap.objs.size := nS z (by simp)
      rcases hzp with e | ⟨T0, f, oT, e, _⟩
      · exact ⟨_, up _ _ nz e, rfl⟩
      · exact ⟨_, up _ _ nz e, rfl⟩
    refine wpAny_pyIter_slot hT F.slot_zip_iter (wpAny_call_entry F.slot_zip_iter hT F.entry_zip_iter ?_ (F.args_zip_iter_1 _))
    exact wpAny_pure ⟨_, rfl, "zip", _, hT, F.slot_zip_next.lookup, q⟩
  refine wpAny_bind (selfI h2 o2 _ _ (wpAny_bind (wpAny_holding ?_)))
  unfold Builtin.List.listLengthHint
  refine wpAny_bind (wpAny_specialOf zt (show typeLookup (.type "zip") "__len__" = pure none by rw [typeLookup_type, builtinLookup_eq_fast]; kernel_rfl) ?_)
  show wpAny _ _ (specialOf (Value.ref z) (Str.ofString "__length_hint__") >>= _) _ _ _
  refine wpAny_bind (wpAny_specialOf zt (show typeLookup (.type "zip") "__length_hint__" = pure none by rw [typeLookup_type, builtinLookup_eq_fast]; kernel_rfl) (wpAny_pure ?_))
  show wpAny _ _ (rule _ >>= _) _ _ _
  refine wpAny_bind (wpAny_rule (wpAny_bind ?_))
  show wpAny _ _ (updateSeq s.heap.objs.size (·.push .none) >>= fun _ => updateSeq s.heap.objs.size (·.pop)) _ _ _
  refine wpAny_bind (wpAny_updateSeq a2' rfl ?_)
  have a3 := Heap.get?_update_self (Obj.mapSeq (·.push Value.none)) a2' rfl
  refine wpAny_updateSeq (hz := by seq_fits) a3 rfl ?_
  have a4 := Heap.get?_update_self (Obj.mapSeq (·.pop)) a3 rfl
  have o4 : ∀ b o, b ≠ s.heap.objs.size → h0.get? b = some o → ((h2.update s.heap.objs.size (Obj.mapSeq (·.push Value.none))).update s.heap.objs.size (Obj.mapSeq (·.pop))).get? b = some o := fun b o hb e =>
    (Heap.get?_update_other _ _ (Ne.symm hb)).trans ((Heap.get?_update_other _ _ (Ne.symm hb)).trans (o2 b o hb e))
  generalize (h2.update s.heap.objs.size (Obj.mapSeq (·.push Value.none))).update s.heap.objs.size (Obj.mapSeq (·.pop)) = h4 at a4 o4 ⊢
  obtain ⟨c4, a4'⟩ : ∃ c4, h4.get? s.heap.objs.size = some { cls := .type "list", data := .seq ([] : List Value).toArray c4 } := ⟨_, a4⟩
  have st4 := st1.wrote (tk := s.toks) (qs := []) (us := []) (ps := []) upd_same (Nat.ne_of_lt la) (Nat.ne_of_lt lb) o4 (Nat.zero_le _) .nil a4'
  refine wpAny_pure ⟨plainId_quiet F.plain_extend_loop _, ?_⟩
  refine lz_loop (B := X.A.in1) (S := s.heap.objs.size) (st.inv.ok.hd hc) Sp ha hb (Nat.ne_of_lt la) (Nat.ne_of_lt lb) hl hn .none H (fun ps H' s' I' hS' hp h0' => ?_) xs.length 0 _ [] _ rfl (Nat.zero_le _) st4 upd_same ⟨rfl, fun j x y hj => absurd hj (Nat.not_lt_zero _)⟩ ?_
  · exact ⟨rfl, hQ _ ps H' s' I' fr hS' hp fun c o e => h0' c o e (ne_of_none e fr)⟩
  · intro c o e ne
    rw [upd_ne ne, upd_ne ne]; exact e
/-- list(zip(e, e2)) of two sequences of one length -/
def tListZip (K : PySem.W.Frag) (ta : TA) : TE := fun σ H Q => ta σ H fun vs H1 => ∃ k1 k2 a b xs ys, vs = [.ref a, .ref b] ∧ Src k1 K H1 a xs ∧ Src k2 K H1 b ys ∧ xs.length = ys.length ∧ xs.length ≤ 100000 ∧
  ∀ S ps H', H1 S = none → H' S = some (.lst ps) → Prd xs ys H1 H' xs.length ps → (∀ c o, H1 c = some o → H' c = some o) → Q (.ref S) H'
theorem p_listZip {e e2 : Expr} {ta : TA} {p pos p2 pos2 : Pos} (hc : X.calm = true) (hgl : Gl X "list") (hml : X.mg "list" = none) (hg : Gl X "zip") (hm : X.mg "zip" = none) (ha : PA X [e, e2] ta)
    (hs : starEach [e, e2] X.env = (false, eval e X.env) :: starEach [e2] X.env := by rfl) (hpl : (backTo pos2 (starEach [e2] X.env)).any (·.1) = false := by rfl) :
    PE X (.Call (.Name "list" p) [.Call (.Name "zip" p2) [e, e2] [] pos2] [] pos) (tListZip X.K ta) := by
  constructor
  intro pins s σ H Q I h
  refine PyProof.Rows.Call_ (ld_blt I hgl hml PyProof.Rows.boot_list (PyProof.Rows.callWith_type1 ?_ rfl rfl))
  show wpAny _ _ (spliced [(false, eval (.Call (.Name "zip" p2) [e, e2] [] pos2) X.env)]) _ _ s
  refine Calls.spliced_cons ?_
  refine PyProof.Rows.Call_ (ld_blt I hg hm PyProof.Rows.boot_zip (PyProof.Rows.callWith_type1 (thn (ha.run pos2 pins s σ H _ I h) ?_) hs hpl))
  rintro us s1 ⟨vs, H1, I1, r1, k1, k2, a, b, xs, ys, rfl, q1, q2, hl, hn, q⟩
  obtain ⟨u1, u2, rfl, r1, r2⟩ := vals2 r1
  cases r1
  cases r2
  obtain ⟨la, o1, P1, B1, hP1, f1⟩ := src_begins I1 q1
  obtain ⟨lb, o2, P2, B2, hP2, f2⟩ := src_begins I1 q2
  refine zip_begins2 B1 B2 hP1 hP2 fun h' hz hTI hTO g1 g2 hsz hk => Calls.spliced_nil ?_
  have I2 : Inv X pins σ H1 { s1 with heap := h' } := I1.kept (t' := s1.toks) hk
  have big : ∀ {c : Addr}, c < s1.heap.objs.size → c < h'.objs.size := fun hlt => by rw [hsz]; exact Nat.lt_of_lt_of_le hlt (Nat.le_add_right _ _)
  refine lz_list (s := { s1 with heap := h' }) hc (zip_sepU la lb) (Nat.ne_of_lt la) (Nat.ne_of_lt (Nat.lt_succ_of_lt lb)) hl hn ⟨I2, zip_fp I1, ⟨.inl hz, ⟨_, _, hTO⟩, hTI⟩, f1 _ _ g1, f2 _ _ g2, q1, q2⟩ (big la) (big lb) ?_
  intro S ps H' s' I' hS hS' hp hx
  exact ⟨.ref S, H', I', rfl, q S ps H' hS hS' hp hx⟩
end
end DL

set_option maxHeartbeats 4000000
namespace DL
open PySem L2
/-- what a sequence is, as a datum: a tuple or a list -/
def SeqD (O : List (Addr × List D)) (d : D) (xs : List D) : Prop := d = .tup xs ∨ IsL O d xs
section
variable {E : Eb} {G : List (Option D)} {O : List (Addr × List D)} {S S0 Sx : List (V × D)} {F F' H H' : Hp} {σ : L2.St} {v x y : V} {d e : D} {Q : VK} {vs : List V} {ds as bs : List D} {tas : TA} {te : TE}
theorem FO.srcOf (fo : FO E G O S F σ H) (r : Rp E.K F v d) (h : SeqD O d ds) : ∃ k a ws, v = .ref a ∧ Src k E.K H a ws ∧ RpL E.K F ws ds := by
  rcases h with rfl | h
  · obtain ⟨a, ws, rfl, h, r⟩ := fo.tupOf r
    exact ⟨true, a, ws, rfl, .inl (.inl h), r⟩
  · obtain ⟨a, ws, rfl, h, r⟩ := fo.lstOf r h
    exact ⟨false, a, ws, rfl, .inl (.inl h), r⟩
/-! ### tuple(..), list(..) -/
def cTuple (K : PySem.W.Frag) : List V → Hp → VK → Prop := fun xs H Q => ∃ p ys, xs = [.ref p] ∧ ((SqL K H p ys ∧ ∀ l, H l = none → Q (.ref l) (upd H l (.tup ys))) ∨ (SqT K H p ys ∧ Q (.ref p) H))
theorem p_tuple {X : Cx} : CallR X (.type "tuple") (cTuple X.K) := call_tuple_of
theorem x_tupleOf (fo : FO E G O ((x, d) :: S) F σ H) (hx : SeqD O d ds) (k : ∀ v F' H', FO E G O ((v, .tup ds) :: S) F' σ H' → Q v H') : cTuple E.K [x] H Q := by
  rcases hx with rfl | hx
  · obtain ⟨a, ws, rfl, h, r⟩ := fo.tupOf fo.top
    exact ⟨a, ws, rfl, .inr ⟨.inl (.inl h), k _ _ _ fo⟩⟩
  · obtain ⟨a, ws, rfl, h, r⟩ := fo.lstOf fo.top hx
    exact ⟨a, ws, rfl, .inl ⟨.inl (.inl h), fun l hl => k _ _ _ (fo.pop.newT hl r)⟩⟩
def cList (K : PySem.W.Frag) : List V → Hp → VK → Prop := fun xs H Q => ∃ p ys, xs = [.ref p] ∧ (SqL K H p ys ∨ SqT K H p ys) ∧ ∀ l, H l = none → Q (.ref l) (upd H l (.lst ys))
def cListO (K : PySem.W.Frag) : List V → Hp → VK → Prop := cList K
theorem p_list {X : Cx} : CallR X (.type "list") (cList X.K) := call_list_of
theorem p_listO {X : Cx} : CallR X (.type "list") (cListO X.K) := call_list_of
theorem x_listOf (fo : FO E G O ((x, d) :: S) F σ H) (hx : SeqD O d ds) (k : ∀ p F' H', FO E G O ((.ref p, .lst ds) :: S) F' σ H' → Q (.ref p) H') : cList E.K [x] H Q := by
  rcases hx with rfl | hx
  · obtain ⟨a, ws, rfl, h, r⟩ := fo.tupOf fo.top
    exact ⟨a, ws, rfl, .inr (.inl (.inl h)), fun l hl => k _ _ _ (fo.pop.newL hl r)⟩
  · obtain ⟨a, ws, rfl, h, r⟩ := fo.lstOf fo.top hx
    exact ⟨a, ws, rfl, .inl (.inl (.inl h)), fun l hl => k _ _ _ (fo.pop.newL hl r)⟩
theorem x_listOfO (fo : FO E G O ((x, d) :: S) F σ H) (hx : SeqD O d ds) (k : ∀ p F' H', FO E G ((p, ds) :: O) ((.ref p, .raw (.ref p)) :: S) F' σ H' → Q (.ref p) H') : cListO E.K [x] H Q := by
  rcases hx with rfl | hx
  · obtain ⟨a, ws, rfl, h, r⟩ := fo.tupOf fo.top
    exact ⟨a, ws, rfl, .inr (.inl (.inl h)), fun l hl => k _ _ _ ((fo.pop.allocO hl r).push (.raw _))⟩
  · obtain ⟨a, ws, rfl, h, r⟩ := fo.lstOf fo.top hx
    exact ⟨a, ws, rfl, .inl (.inl (.inl h)), fun l hl => k _ _ _ ((fo.pop.allocO hl r).push (.raw _))⟩
/-! ### min(xs), max(xs) of a list of ints -/
def cMinL (K : PySem.W.Frag) : List V → Hp → VK → Prop := rMin K
def cMaxL (K : PySem.W.Frag) : List V → Hp → VK → Prop := rMax K
theorem p_minL {X : Cx} (hc : X.calm = true) : CallR X (.builtin "min") (cMinL X.K) := cr_min hc
theorem p_maxL {X : Cx} (hc : X.calm = true) : CallR X (.builtin "max") (cMaxL X.K) := cr_max hc
theorem RpL.ints {K : PySem.W.Frag} : ∀ {ns : List Int} {vs : List V}, RpL K F vs (ns.map D.int) → vs = ns.map V.int
  | [], _, h => h.nil_eq
  | n :: ns, _, h => by
    obtain ⟨v, ws, rfl, a, b⟩ := h.cons_of
    rw [Rp.raw_eq a, RpL.ints b]; rfl
theorem x_minL {ns : List Int} (fo : FO E G O ((x, d) :: S) F σ H) (hx : IsL O d (ns.map D.int)) (h0 : 0 < ns.length) (k : ∀ m, m ∈ ns → (∀ y, y ∈ ns → m ≤ y) → FO E G O ((.int m, .raw (.int m)) :: S) F σ H → Q (.int m) H) : cMinL E.K [x] H Q := by
  obtain ⟨a, ws, rfl, h, r⟩ := fo.lstOf fo.top hx
  have e := r.ints; subst e
  exact ⟨a, ns, rfl, .inl (.inl h), h0, fun m h1 h2 => k m h1 h2 (fo.pop.push (.raw _))⟩
theorem x_maxL {ns : List Int} (fo : FO E G O ((x, d) :: S) F σ H) (hx : IsL O d (ns.map D.int)) (h0 : 0 < ns.length) (k : ∀ m, m ∈ ns → (∀ y, y ∈ ns → y ≤ m) → FO E G O ((.int m, .raw (.int m)) :: S) F σ H → Q (.int m) H) : cMaxL E.K [x] H Q := by
  obtain ⟨a, ws, rfl, h, r⟩ := fo.lstOf fo.top hx
  have e := r.ints; subst e
  exact ⟨a, ns, rfl, .inl (.inl h), h0, fun m h1 h2 => k m h1 h2 (fo.pop.push (.raw _))⟩
/-! ### any(xs), all(xs) of a list of bools -/
def cAny (K : PySem.W.Frag) : List V → Hp → VK → Prop := rAny K
def cAll (K : PySem.W.Frag) : List V → Hp → VK → Prop := rAll K
theorem p_any {X : Cx} (hc : X.calm = true) : CallR X (.builtin "any") (cAny X.K) := cr_any hc
theorem p_all {X : Cx} (hc : X.calm = true) : CallR X (.builtin "all") (cAll X.K) := cr_all hc
theorem RpL.bls {K : PySem.W.Frag} : ∀ {ns : List Bool} {vs : List V}, RpL K F vs (ns.map D.bl) → vs = ns.map V.bl
  | [], _, h => h.nil_eq
  | n :: ns, _, h => by
    obtain ⟨v, ws, rfl, a, b⟩ := h.cons_of
    rw [Rp.raw_eq a, RpL.bls b]; rfl
theorem x_any {ns : List Bool} (fo : FO E G O ((x, d) :: S) F σ H) (hx : IsL O d (ns.map D.bl)) (k : FO E G O ((.bl (ns.any id), .raw (.bl (ns.any id))) :: S) F σ H → Q (.bl (ns.any id)) H) : cAny E.K [x] H Q := by
  obtain ⟨a, ws, rfl, h, r⟩ := fo.lstOf fo.top hx
  have e := r.bls; subst e
  exact ⟨a, ns, rfl, .inl (.inl h), k (fo.pop.push (.raw _))⟩
theorem x_all {ns : List Bool} (fo : FO E G O ((x, d) :: S) F σ H) (hx : IsL O d (ns.map D.bl)) (k : FO E G O ((.bl (ns.all id), .raw (.bl (ns.all id))) :: S) F σ H → Q (.bl (ns.all id)) H) : cAll E.K [x] H Q := by
  obtain ⟨a, ws, rfl, h, r⟩ := fo.lstOf fo.top hx
  have e := r.bls; subst e
  exact ⟨a, ns, rfl, .inl (.inl h), k (fo.pop.push (.raw _))⟩
/-! ### isinstance -/
/-- the built-in type of a datum -/
def tyD : D → Option String
  | .raw .non => some "NoneType"
  | .raw (.bl _) => some "bool"
  | .raw (.int _) => some "int"
  | .raw (.str _) => some "str"
  | .lst _ => some "list"
  | .tup _ => some "tuple"
  | _ => none
theorem FO.tyX {t : String} (fo : FO E G O S F σ H) (r : Rp E.K F v d) (h : tyD d = some t) : TyX E.K H v (.type t) := by
  cases r with
  | raw v =>
    cases v <;> simp only [tyD] at h <;> cases h
    · exact .base .non
    · exact .base (.bl _)
    · exact .base (.int _)
    · exact .base (.str _)
  | lst a b => simp only [tyD] at h; cases h; exact .base (.lst (fo.sub _ _ a))
  | tup a b => simp only [tyD] at h; cases h; exact .base (.tup (fo.sub _ _ a))
  | obj _ _ _ => simp only [tyD] at h; cases h
  | pin _ => simp only [tyD] at h; cases h
def cIsi (K : PySem.W.Frag) : List V → Hp → VK → Prop := fun xs H Q => rIsi K xs H Q ∨ rIsiT K xs H Q
theorem p_isi {X : Cx} : CallR X (.builtin "isinstance") (cIsi X.K) := by
  intro pins s σ H xs us Q I rs q
  rcases q with q | q
  · exact call_isi pins s σ H xs us Q I rs q
  · exact call_isiT pins s σ H xs us Q I rs q
theorem x_isi {t n : String} {b : Bool} (fo : FO E G O ((y, .raw (.ty n)) :: (x, d) :: S) F σ H) (ht : tyD d = some t) (hk : kitB t n = some b) (k : FO E G O ((.bl b, .raw (.bl b)) :: S) F σ H → Q (.bl b) H) : cIsi E.K [x, y] H Q := by
  have e := fo.top.raw_eq; subst e
  exact .inl ⟨x, _, _, _, b, rfl, .ty n, fo.tyX fo.snd ht, kit_ty hk, k (fo.pop.pop.push (.raw _))⟩
/-- a tuple of two built-in classes -/
theorem x_isi2 {t n m : String} {b c : Bool} (fo : FO E G O ((y, .tup [.raw (.ty n), .raw (.ty m)]) :: (x, d) :: S) F σ H) (ht : tyD d = some t) (hk : kitB t n = some b) (hk2 : kitB t m = some c) (k : FO E G O ((.bl (b || c), .raw (.bl (b || c))) :: S) F σ H → Q (.bl (b || c)) H) : cIsi E.K [x, y] H Q := by
  obtain ⟨a, ws, rfl, h, r⟩ := fo.tupOf fo.top
  obtain ⟨v1, ws, rfl, r1, r⟩ := r.cons_of
  obtain ⟨v2, ws, rfl, r2, r⟩ := r.cons_of
  have e := r.nil_eq; subst e
  have e1 := r1.raw_eq; subst e1
  have e2 := r2.raw_eq; subst e2
  refine .inr ⟨x, a, _, _, [.type n, .type m], b || c, rfl, h, .cons (.ty n) (.cons (.ty m) .nil), fo.tyX fo.snd ht, ?_, k (fo.pop.pop.push (.raw _))⟩
  refine kitAny_cons (kit_ty hk) (fun hb => ?_) (fun hb => by rw [hb]; rfl)
  rw [hb, Bool.false_or]
  refine kitAny_cons (kit_ty hk2) (fun hc => ?_) (fun hc => hc)
  rw [hc]; exact kitAny_nil
/-! ### methods of lists that the body owns -/
def tMet0 (K : PySem.W.Frag) (T : String) (r : V → List V → Hp → VK → Prop) (to : TE) : TE := tBM0 K T r to
def kMet (K : PySem.W.Frag) (T : String) (r : V → List V → Hp → VK → Prop) (t : TA) (σ : L2.St) (Q : VK) (x : V) (H1 : Hp) : Prop := tyV K T x H1 ∧ t σ H1 fun xs H2 => r x xs H2 Q
def kMet0 (K : PySem.W.Frag) (T : String) (r : V → List V → Hp → VK → Prop) (Q : VK) (x : V) (H1 : Hp) : Prop := tyV K T x H1 ∧ r x [] H1 Q
theorem x_met {K : PySem.W.Frag} {T : String} {r : V → List V → Hp → VK → Prop} (h : te σ H (kMet K T r tas σ Q)) : tBM K T r te tas σ H Q := h
theorem x_met0 {K : PySem.W.Frag} {T : String} {r : V → List V → Hp → VK → Prop} (h : te σ H (kMet0 K T r Q)) : tBM0 K T r te σ H Q := h
theorem x_kMetL {r : V → List V → Hp → VK → Prop} (fo : FO E G O ((x, d) :: S) F σ H) (hx : IsL O d ds) (k : tas σ H fun xs H2 => r x xs H2 Q) : kMet E.K "list" r tas σ Q x H := by
  obtain ⟨a, ws, rfl, h, _⟩ := fo.lstOf fo.top hx
  exact ⟨.inl ⟨rfl, ws, .inl (.inl h)⟩, k⟩
theorem x_kMet0L {r : V → List V → Hp → VK → Prop} (fo : FO E G O ((x, d) :: S) F σ H) (hx : IsL O d ds) (k : r x [] H Q) : kMet0 E.K "list" r Q x H := by
  obtain ⟨a, ws, rfl, h, _⟩ := fo.lstOf fo.top hx
  exact ⟨.inl ⟨rfl, ws, .inl (.inl h)⟩, k⟩
theorem x_append {p : Addr} (fo : FO E G ((p, ds) :: O) ((y, d) :: (x, .raw (.ref p)) :: S) F σ H) (hl : ds.length < 100000) (k : ∀ H', FO E G ((p, ds ++ [d]) :: O) ((.non, .raw .non) :: S) F σ H' → Q .non H') : rAppend x [y] H Q := by
  obtain ⟨ws, h, r, _⟩ := fo.own _ List.mem_cons_self
  exact ⟨p, ws, y, fo.snd.raw_eq, rfl, h, by rw [r.length]; exact Nat.lt_trans hl (by decide), k _ ((fo.pop.pop.mut (r.append (.cons fo.top .nil))).push (.raw _))⟩
theorem x_extend {p : Addr} (fo : FO E G ((p, ds) :: O) ((y, e) :: (x, .raw (.ref p)) :: S) F σ H) (hy : IsL O e as) (hl : ds.length + as.length ≤ 100000) (k : ∀ H', FO E G ((p, ds ++ as) :: O) ((.non, .raw .non) :: S) F σ H' → Q .non H') : rExtend x [y] H Q := by
  obtain ⟨ws, h, r, _⟩ := fo.own _ List.mem_cons_self
  have hy' : IsL ((p, ds) :: O) e as := by
    rcases hy with q | ⟨q, a, b⟩
    · exact .inl q
    · exact .inr ⟨q, a, List.mem_cons_of_mem _ b⟩
  obtain ⟨b, us, rfl, h2, r2⟩ := fo.lstOf fo.top hy'
  exact ⟨p, b, ws, us, fo.snd.raw_eq, rfl, h, h2, by rw [r.length, r2.length]; exact Nat.le_trans hl (by decide), k _ ((fo.pop.pop.mut (r.append r2)).push (.raw _))⟩
theorem x_popL {p : Addr} {z : D} (fo : FO E G ((p, ds ++ [z]) :: O) ((x, .raw (.ref p)) :: S) F σ H) (k : ∀ v H', FO E G ((p, ds) :: O) ((v, z) :: S) F σ H' → Q v H') : rPop x [] H Q := by
  obtain ⟨ws, h, r, _⟩ := fo.own _ List.mem_cons_self
  have hl : ws.length = ds.length + 1 := by rw [r.length]; simp
  obtain ⟨v, hv, rv⟩ := r.get (i := ds.length) (d := z) (by simp)
  have r' : RpL E.K F ws.dropLast ds := by
    have := r.take ds.length
    rw [List.dropLast_eq_take, hl]
    simpa using this
  exact ⟨p, ws, v, fo.top.raw_eq, rfl, h, by rw [hl]; exact hv, k v _ ((fo.pop.mut r').push rv)⟩
/-- xs[i] = e of a list that the body owns -/
theorem x_setI {p : Addr} {i : Int} {j : Nat} {Z : L2.St → Hp → Prop} {w : V} (fo : FO E G ((p, ds) :: O) ((y, .raw (.int i)) :: (x, .raw (.ref p)) :: (w, d) :: S) F σ H) (hj : ixN ds.length i = some j) (k : ∀ H', FO E G ((p, ds.set j d) :: O) S F σ H' → Z σ H') : rSetL x y w H (fun H3 => Z σ H3) := by
  obtain ⟨ws, h, r, _⟩ := fo.own _ List.mem_cons_self
  exact ⟨p, ws, i, j, fo.snd.raw_eq, fo.top.raw_eq, h, by rw [r.length]; exact hj, k _ (fo.pop.pop.pop.mut (r.set j fo.pop.pop.top))⟩
theorem x_gsub {to ti : TE} {t : TSet} {Z : L2.St → Hp → Prop} (h : to σ H fun o H1 => ti σ H1 fun i H2 => t o i v H2 fun H3 => Z σ H3) : gSub to ti t v σ H Z := h
/-! ### zip, list(zip(..)) -/
def kZip (K : PySem.W.Frag) (sb : Bool) (R : It → Hp → Prop) (vs : List V) (H1 : Hp) : Prop := ∃ k1 k2 a b xs ys, vs = [.ref a, .ref b] ∧ Src k1 K H1 a xs ∧ Src k2 K H1 b ys ∧ R (Izu K k1 k2 sb a b xs ys) H1
theorem x_zip {K : PySem.W.Frag} {sb : Bool} {R : It → Hp → Prop} (h : tas σ H (kZip K sb R)) : iZipU K sb tas σ H R := h
/-- the pairs of two rows of data -/
def pairD (as bs : List D) (i : Nat) : D := .tup [itOf as i, itOf bs i]
/-- a sequence known for ever: which, and how it is told of again -/
theorem src_pin (fo : FO E G O S F σ H) (r : Rp E.K F v d) (h : d = .tup ds ∨ d = .lst ds) : ∃ k a ws o, v = .ref a ∧ Rp E.K F v (.pin o) ∧ Src k E.K H a ws ∧ ws.length = ds.length ∧ ∀ F' H', Rp E.K F' v (.pin o) → Rp E.K F' v d → Sub F' H' → Src k E.K H' a ws ∧ RpL E.K F' ws ds := by
  rcases h with rfl | rfl
  · obtain ⟨a, ws, rfl, h, rl⟩ := r.tup_at
    refine ⟨true, a, ws, .tup ws, rfl, .pin h, .inl (.inl (fo.sub _ _ h)), rl.length, fun F' H' p r' s => ?_⟩
    obtain ⟨b, e, hb⟩ := p.pin_at
    cases e
    obtain ⟨b, ws', e, hb', rl'⟩ := r'.tup_at
    cases e
    rw [hb] at hb'
    cases hb'
    exact ⟨.inl (.inl (s _ _ hb)), rl'⟩
  · obtain ⟨a, ws, rfl, h, rl⟩ := r.lst_at
    refine ⟨false, a, ws, .lst ws, rfl, .pin h, .inl (.inl (fo.sub _ _ h)), rl.length, fun F' H' p r' s => ?_⟩
    obtain ⟨b, e, hb⟩ := p.pin_at
    cases e
    obtain ⟨b, ws', e, hb', rl'⟩ := r'.lst_at
    cases e
    rw [hb] at hb'
    cases hb'
    exact ⟨.inl (.inl (s _ _ hb)), rl'⟩
theorem x_kZip {sb : Bool} {R : It → Hp → Prop} (fo : FO E G O ((y, e) :: (x, d) :: S) F σ H) (hx : d = .tup as ∨ d = .lst as) (hy : e = .tup bs ∨ e = .lst bs) (hl : sb = true → as.length = bs.length)
    (k : ∀ J p q, DW E.K J (min as.length bs.length) (pairD as bs) [(x, p), (y, q), (y, e), (x, d)] → FO E G O ((x, p) :: (y, q) :: (y, e) :: (x, d) :: S) F σ H → R J H) : kZip E.K sb R [x, y] H := by
  obtain ⟨k1, a, ws, o1, rfl, p1, s1, l1, t1⟩ := src_pin fo fo.snd hx
  obtain ⟨k2, b, us, o2, rfl, p2, s2, l2, t2⟩ := src_pin fo fo.top hy
  refine ⟨k1, k2, a, b, ws, us, rfl, s1, s2, k _ (.pin o1) (.pin o2) ?_ ((fo.push p2).push p1)⟩
  have src : ∀ F H, (∀ p ∈ [((.ref a : V), D.pin o1), ((.ref b : V), D.pin o2), ((.ref b : V), e), ((.ref a : V), d)], Rp E.K F p.1 p.2) → Sub F H → Src k1 E.K H a ws ∧ RpL E.K F ws as ∧ Src k2 E.K H b us ∧ RpL E.K F us bs := fun F H h s => by
    have a1 := t1 F H (h (.ref a, .pin o1) (by simp)) (h (.ref a, d) (by simp)) s
    have a2 := t2 F H (h (.ref b, .pin o2) (by simp)) (h (.ref b, e) (by simp)) s
    exact ⟨a1.1, a1.2, a2.1, a2.2⟩
  refine ⟨fun i F H hi h s => ?_, fun F H h s => ?_, fun i F H x H' hi h s y => ?_⟩
  · obtain ⟨q1, _, q2, _⟩ := src F H h s
    exact ⟨q1, q2, by omega, by omega⟩
  · obtain ⟨q1, _, q2, _⟩ := src F H h s
    exact ⟨q1, q2, by omega, by omega, by omega, fun hb => by have := hl hb; omega⟩
  · obtain ⟨_, r1, _, r2⟩ := src F H h s
    obtain ⟨T, x1, y1, rfl, hT, rfl, e1, e2⟩ := y
    obtain ⟨d1, g1, z1⟩ := r1.getV e1
    obtain ⟨d2, g2, z2⟩ := r2.getV e2
    refine .inr ⟨T, .tup [x1, y1], hT, rfl, ?_⟩
    have ff : Sub F (upd F T (.tup [x1, y1])) := sub_upd (s.none hT)
    unfold pairD
    rw [itOf_some g1, itOf_some g2]
    exact .tup upd_same (.cons (z1.mono ff) (.cons (z2.mono ff) .nil))
/-- list(zip(a, b)) -/
def kLz (K : PySem.W.Frag) (Q : VK) (vs : List V) (H1 : Hp) : Prop := ∃ k1 k2 a b xs ys, vs = [.ref a, .ref b] ∧ Src k1 K H1 a xs ∧ Src k2 K H1 b ys ∧ xs.length = ys.length ∧ xs.length ≤ 100000 ∧
  ∀ S ps H', H1 S = none → H' S = some (.lst ps) → Prd xs ys H1 H' xs.length ps → (∀ c o, H1 c = some o → H' c = some o) → Q (.ref S) H'
theorem x_listZip {K : PySem.W.Frag} (h : tas σ H (kLz K Q)) : tListZip K tas σ H Q := h
theorem prd_rpl {K : PySem.W.Frag} {xs ys : List V} {F' H0 H' : Hp} (hf : ∀ T x y, H0 T = none → H' T = some (.tup [x, y]) → F' T = some (.tup [x, y])) (r1 : RpL K F' xs as) (r2 : RpL K F' ys bs) : ∀ {ps : List V}, xs.length = ys.length → Prd xs ys H0 H' xs.length ps → RpL K F' ps ((List.range xs.length).map (pairD as bs)) := by
  intro ps hl hp
  have gen : ∀ (n : Nat), n ≤ xs.length → RpL K F' (ps.take n) ((List.range n).map (pairD as bs)) := by
    intro n
    induction n with
    | zero => intro _; simpa using RpL.nil
    | succ n ih =>
      intro hn
      have hx : xs[n]? = some xs[n] := List.getElem?_eq_getElem (by omega)
      have hy : ys[n]? = some (ys[n]'(by omega)) := List.getElem?_eq_getElem (by omega)
      obtain ⟨T, e1, e2, e3⟩ := hp.2 n _ _ (by omega) hx hy
      obtain ⟨d1, g1, z1⟩ := r1.getV hx
      obtain ⟨d2, g2, z2⟩ := r2.getV hy
      rw [List.range_succ, List.map_append, List.take_succ, e1]
      refine (ih (by omega)).append (.cons ?_ .nil)
      unfold pairD
      rw [itOf_some g1, itOf_some g2]
      exact .tup (hf _ _ _ e3 e2) (.cons z1 (.cons z2 .nil))
  have := gen xs.length (Nat.le_refl _)
  rwa [List.take_of_length_le (by rw [hp.1]; exact Nat.le_refl _)] at this
theorem x_kLz (fo : FO E G O ((y, e) :: (x, d) :: S) F σ H) (hx : SeqD O d as) (hy : SeqD O e bs) (hl : as.length = bs.length) (hn : as.length ≤ 100000)
    (k : ∀ p F' H', FO E G O ((.ref p, .lst ((List.range as.length).map (pairD as bs))) :: S) F' σ H' → Q (.ref p) H') : kLz E.K Q [x, y] H := by
  obtain ⟨k1, a, ws, rfl, s1, r1⟩ := fo.srcOf fo.snd hx
  obtain ⟨k2, b, us, rfl, s2, r2⟩ := fo.srcOf fo.top hy
  refine ⟨k1, k2, a, b, ws, us, rfl, s1, s2, by rw [r1.length, r2.length]; exact hl, by rw [r1.length]; exact hn, fun p ps H' hp hp' prd kp => ?_⟩
  -- what is new and known: the list and its pairs
  have dn : ∀ c, Decidable (H c = none) := fun c => by cases H c <;> infer_instance
  let F' : Hp := fun c => match F c with
    | some o => some o
    | none => match H c with
      | some _ => none
      | none => H' c
  have ff : Sub F F' := fun c o e => by show (match F c with | some o => some o | none => _) = _; rw [e]
  have sb : Sub F' H' := fun c o e => by
    have e' : (match F c with | some o => some o | none => match H c with | some _ => none | none => H' c) = some o := e
    cases q : F c with
    | some u => rw [q] at e'; cases e'; exact kp _ _ (fo.sub _ _ q)
    | none =>
      rw [q] at e'
      cases q2 : H c with
      | some u => rw [q2] at e'; cases e'
      | none => rw [q2] at e'; exact e'
  have nw : ∀ c o, H c = none → H' c = some o → F' c = some o := fun c o e1 e2 => by
    show (match F c with | some o => some o | none => match H c with | some _ => none | none => H' c) = some o
    rw [fo.sub.none e1, e1]; exact e2
  have st : Step E.M E.B F H F' H' := ⟨ff, sb, fun c o e _ => kp c o e, fun c e1 e2 => by
    show (match F c with | some o => some o | none => match H c with | some _ => none | none => H' c) = none
    rw [e1]
    cases q : H c with
    | none => exact absurd q e2
    | some u => rfl, fun b q => by
    obtain ⟨o, e, t⟩ := fo.box b q
    exact ⟨o, kp _ _ e, t⟩⟩
  have rr : RpL E.K F' ps ((List.range as.length).map (pairD as bs)) := by
    have q := prd_rpl (K := E.K) (F' := F') (fun T x y e1 e2 => nw _ _ e1 e2) (r1.mono ff) (r2.mono ff) (by rw [r1.length, r2.length]; exact hl) prd
    rwa [r1.length] at q
  exact k p F' H' ((fo.pop.pop.step st).push (.lst (nw _ _ hp hp') rr))
end
end DL

set_option maxHeartbeats 4000000
/-! DLf: calls of the text's own defs, methods, properties, classes, operators. -/
namespace DL
open PySem L2

/-- a def's promise by positional values; g: it is wanted under no repr guard alone -/
def FnS (g : Bool) (P : Program) (w : World) (K : PySem.W.Frag) (mg : Str → Option Value) (base : Heap) (k : Nat) (f : Addr) (sp : Sp) : Prop :=
  ∀ (A : Around) (outer : List Env) (s : Shared) (H : Hp) (us : List Value) (vs : List V) (Q : VK) (Ex : XK), Room k A → (g = true → A.guards = some []) → Env0 P w K mg base A outer s H → Vals vs us → sp vs H Q Ex →
    codeAny (model P w) A (.call (.ref f) ⟨us, []⟩) (CR CX0 outer P w H s Q Ex) s
section
variable {g : Bool} {P : Program} {w : World} {K : PySem.W.Frag} {mg : Str → Option Value} {base : Heap} {j k : Nat} {f : Addr} {sp : Sp}
theorem FnS.mono (F : FnS g P w K mg base j f sp) (h : j ≤ k) : FnS g P w K mg base k f sp := fun A outer s H us vs Q Ex hr => F A outer s H us vs Q Ex (hr.mono h)
theorem FnS.raw (F : FnS false P w K mg base k f sp) : FnR P w K mg base CX0 k f sp := fun A outer s H us vs Q Ex hr e0 r h => F A outer s H us vs Q Ex hr (fun q => nomatch q) e0 r h
theorem fnS_of {fd : FuncData} {ps : List Str} (F : FnOk P w K mg base CX0 k f fd ps sp) (hb : Binds K fd ps []) : FnS g P w K mg base k f sp := fun A outer s H us vs Q Ex hr _ e0 r h => by
  have hl : (us ++ []).length = ps.length := by rw [List.append_nil, ← r.length]; exact F.len _ _ _ _ h
  have b := hb s us (e0.mod.kin.keeps fun b o e => (e0.bs b o e).1) hl
  rw [List.append_nil] at b
  exact F.run A outer s H ⟨us, []⟩ us vs Q Ex hr e0 b r h
end

/-! ### the callee runs, under any context that has the body's frames -/
section
variable {X : Cx} {pins : List (Addr × Obj)} {σ : L2.St} {H : Hp} {s : Shared} {g : Bool} {k : Nat} {f C : Addr} {sp : Sp}
def back (X : Cx) (pins : List (Addr × Obj)) (σ : L2.St) (Q : VK) : Result → Shared → Prop := fun r s' => match r with
  | .ok (.ret v) => EP X pins σ Q v s'
  | .ok _ => False
  | .error e => X.xe e s'
theorem run_code {A : Around} {Q : VK} {us : List Value} {vs : List V} (F : FnS g X.prog X.w X.K X.mg X.base k f sp) (hr : Room k A) (hA : A.frames = X.A.frames) (hg : g = true → A.guards = some []) (I : Inv X pins σ H s) (r : Vals vs us) (h : sp vs H Q E0) :
    codeAny (model X.prog X.w) A (.call (.ref f) ⟨us, []⟩) (back X pins σ Q) s := by
  have e := I.env0
  have e0 : Env0 X.prog X.w X.K X.mg X.base A X.stack s H := ⟨by rw [hA]; exact e.frames, e.mod, e.bs, e.bsz, e.funs, e.frf, e.hok, e.bare⟩
  refine codeAny_mono (F A X.stack s H us vs Q E0 hr hg e0 r h) fun r s' hq => ?_
  cases r with
  | error z => exact False.elim (pass0 (X := X) pins σ H s z s' I hq |> fun _ => hq)
  | ok fl =>
    cases fl with
    | ret u => exact I.after hq
    | next => exact False.elim hq
    | brk => exact False.elim hq
    | cont => exact False.elim hq
theorem run_call {A : Around} {Q : VK} {us : List Value} {vs : List V} (F : FnS g X.prog X.w X.K X.mg X.base k f sp) (hr : Room k A) (hA : A.frames = X.A.frames) (hg : g = true → A.guards = some []) (I : Inv X pins σ H s) (r : Vals vs us) (h : sp vs H Q E0) :
    wpAny (model X.prog X.w) A (call (.ref f) us) (EP X pins σ Q) X.xe s := wpAny_call (run_code F hr hA hg I r h)
end

/-! ### bundles -/
section
variable (g : Bool) (P : Program) (w : World) (K : PySem.W.Frag) (mg : Str → Option Value) (base : Heap) (k : Nat)
/-- a def of the module -/
def Gf (x : Str) (sp : Sp) : Prop := ∃ f, mg x = some (.ref f) ∧ PySem.W.keepIn K (.ref f) = true ∧ FnS g P w K mg base k f sp
/-- a method (or an operator's) of the class at C -/
def Mf (C : Addr) (m : Str) (sp : Sp) : Prop := ∃ f, Meth K C m f ∧ FnS g P w K mg base k f sp
def Pf (C : Addr) (m : Str) (sp : Sp) : Prop := ∃ p f fd ps, PropOf K C m p f ∧ Binds K fd ps [] ∧ FnOk P w K mg base CX0 k f fd ps sp
def Nf (C : Addr) (sp : Sp) : Prop := ∃ f fd ps, Mk K C f ∧ Binds K fd ps [] ∧ FnOk P w K mg base CX0 k f fd ps sp
def Of (C : Addr) (sp : Sp) : Prop := ∃ f, StX.CallO K C f ∧ FnS false P w K mg base k f sp
end

/-! ### rules -/
section
variable {X : Cx} {g : Bool} {k : Nat} {C : Addr} {sp : Sp} {x m : Str} {p pos apos : Pos} {e o fe : Expr} {es : List Expr} {ta tf : TE} {t : TA}
theorem p_call (h : Gf g X.prog X.w X.K X.mg X.base k x sp) (hr : Room k X.A) (hgu : g = true → X.A.guards = some []) (hg : Gl X x) (ha : PA X (e :: es) t) (hdb : (x == ("__debug__" : Str)) = false := by decide)
    (he : starEach (e :: es) X.env = (false, eval e X.env) :: starEach es X.env := by rfl) (hpl : (backTo pos (starEach es X.env)).any (·.1) = false := by rfl) : PE X (.Call (.Name x p) (e :: es) [] pos) (tCall sp [] E0 t) := by
  obtain ⟨f, hm, hk, F⟩ := h
  refine ⟨fun pins s σ H Q I h => ?_⟩
  refine wpAny_Call_Name_kw (ld_glob I hg hm ?_ hdb)
  refine PySem.W.callWith_K (h₀ := X.base) I.ok.mod.kin hk (thn (ha.run pos pins s σ H _ I h) fun us s1 ⟨vs, H1, I1, r, q⟩ => ⟨I1.kIn, ?_⟩) he hpl
  have q' : sp (vs ++ []) H1 Q E0 := q
  rw [List.append_nil] at q'
  exact run_call F hr rfl hgu I1 r q'
theorem p_meth {pl : Sem Bool} (ho : PE X o ta) (c : Cls X.K C) (h : Mf g X.prog X.w X.K X.mg X.base k C m sp) (hr : Room k X.A) (hgu : g = true → X.A.guards = some []) (ha : PA X (e :: es) t)
    (hst : starEach (e :: es) X.env = (false, eval e X.env) :: starEach es X.env := by rfl) (hpl : (backTo pos (starEach es X.env)).any (·.1) = false := by rfl)
    (ht : eval (.Call (.Attribute o m apos) (e :: es) [] pos) X.env = (do
      let ov ← eval o X.env
      standAt apos.atName
      let (f, first) ← holding [ov] (getMethod ov m pl)
      callWith pos f first (backTo pos (starEach (e :: es) X.env)) (backToKw pos (keywordEach [] X.env))) := by rfl) :
    PE X (.Call (.Attribute o m apos) (e :: es) [] pos) (tMeth C m sp [] E0 ta t) := by
  obtain ⟨f, hm, F⟩ := h
  refine ⟨fun pins s σ H Q I h => ?_⟩
  refine PySem.W.methodCall_KW (pl := pl) (thn (ho.run pins s σ H _ I h) fun u s1 ⟨x, H1, I1, rx, a, dx, fs, ex, ea, l, q⟩ => ?_) ht
  subst ex
  obtain rfl : u = Value.ref a := rx
  refine getmeth_ok I1 ea c hm l ?_
  refine PySem.W.callWith_K (first := [.ref a]) (h₀ := X.base) I.ok.mod.kin hm.kp (thn (ha.run pos pins s1 σ H1 _ I1 q) fun us s2 ⟨vs, H2, I2, r, q2⟩ => ⟨I2.kIn, ?_⟩) hst hpl
  have q3 : sp (V.ref a :: (vs ++ [])) H2 Q E0 := q2
  rw [List.append_nil] at q3
  exact run_call (us := .ref a :: us) (vs := .ref a :: vs) F hr rfl hgu I2 (.cons rfl r) q3
theorem p_meth0 {pl : Sem Bool} (ho : PE X o ta) (c : Cls X.K C) (h : Mf g X.prog X.w X.K X.mg X.base k C m sp) (hr : Room k X.A) (hgu : g = true → X.A.guards = some [])
    (ht : eval (.Call (.Attribute o m apos) [] [] pos) X.env = (do
      let ov ← eval o X.env
      standAt apos.atName
      let (f, first) ← holding [ov] (getMethod ov m pl)
      callWith pos f first (backTo pos (starEach [] X.env)) (backToKw pos (keywordEach [] X.env))) := by rfl) :
    PE X (.Call (.Attribute o m apos) [] [] pos) (tMeth C m sp [] E0 ta tNil) := by
  obtain ⟨f, hm, F⟩ := h
  refine ⟨fun pins s σ H Q I h => ?_⟩
  refine PySem.W.methodCall_KW (pl := pl) (thn (ho.run pins s σ H _ I h) fun u s1 ⟨x, H1, I1, rx, a, dx, fs, ex, ea, l, q⟩ => ?_) ht
  subst ex
  obtain rfl : u = Value.ref a := rx
  refine getmeth_ok I1 ea c hm l ?_
  exact PySem.W.callWith_K0 (first := [.ref a]) I1.kIn hm.kp (run_call (us := [.ref a]) (vs := [.ref a]) F hr rfl hgu I1 (.cons rfl .nil) q)
theorem p_prop (ho : PE X e ta) (c : Cls X.K C) (h : Pf X.prog X.w X.K X.mg X.base k C m sp) (hr : Room (k + 1) X.A) (hab : attributeBase e m X.env (eval e X.env) = eval e X.env) : PE X (.Attribute e m pos) (tProp C sp [] E0 ta) := by
  obtain ⟨q, f, fd, ps, hp, hb, F⟩ := h
  exact pe_prop ho c hp F hr hb .nil pass0 hab
theorem p_make (h : Nf X.prog X.w X.K X.mg X.base k C sp) (hr : Room (k + 1) X.A) (hg : Gl X x) (hm : X.mg x = some (.ref C)) (ha : PA X (e :: es) t) (hdb : (x == ("__debug__" : Str)) = false := by decide)
    (he : starEach (e :: es) X.env = (false, eval e X.env) :: starEach es X.env := by rfl) (hpl : (backTo pos (starEach es X.env)).any (·.1) = false := by rfl) : PE X (.Call (.Name x p) (e :: es) [] pos) (tMake C sp [] E0 t) := by
  obtain ⟨f, fd, ps, M, hb, F⟩ := h
  exact pe_make M F hr hg hm hb .nil pass0 ha hdb he hpl
/-- o(e, ..), o an instance of C -/
def tCallI (C : Addr) (sp : Sp) (tf : TE) (t : TA) : TE := fun σ H Q => tf σ H fun y H1 => ∃ a, y = V.ref a ∧ t σ H1 fun vs H2 => (∃ dx fs, H2 a = some (.ins C dx fs)) ∧ sp (V.ref a :: vs) H2 Q E0
theorem p_callO (hf : PE X fe tf) (h : Of X.prog X.w X.K X.mg X.base k C sp) (hr : Room k X.A) (ha : PA X (e :: es) t)
    (ht : eval (.Call fe (e :: es) [] pos) X.env = (do callWith pos (← eval fe X.env) [] (backTo pos (starEach (e :: es) X.env)) (backToKw pos (keywordEach [] X.env))) := by rfl)
    (he : starEach (e :: es) X.env = (false, eval e X.env) :: starEach es X.env := by rfl) (hpl : (backTo pos (starEach es X.env)).any (·.1) = false := by rfl) : PE X (.Call fe (e :: es) [] pos) (tCallI C sp tf t) := by
  obtain ⟨f, c, F⟩ := h
  refine ⟨fun pins s σ H Q I h => ?_⟩
  refine PyProof.Rows.Call_ (thn (hf.run pins s σ H _ I h) fun u s1 ⟨y, H1, I1, ry, a, ey, q⟩ => ?_) ht
  subst ey
  obtain rfl : u = Value.ref a := ry
  refine StX.callO_with (thn (ha.run pos pins s1 σ H1 _ I1 q) fun us s2 ⟨vs, H2, I2, r, ⟨dx, fs, hi⟩, q2⟩ => ?_) he hpl
  have hI : StX.InsC X H2 a C := .inr ⟨dx, fs, hi⟩
  obtain ⟨ox, od, J, hd⟩ := StX.insC_at I2 hI
  exact ⟨⟨C, ox, od, J, hd⟩, StX.run_callO c F.raw hr pass0 I2 hI r q2⟩
end
end DL

set_option maxHeartbeats 4000000
/-! DLg: own operators and comparisons, model side. -/
namespace DL
open PySem L2

def InC (C : Addr) (H : Hp) (x : V) : Prop := ∃ a dx fs, x = .ref a ∧ H a = some (.ins C dx fs)
/-- what may stand on the right of an own == -/
def Oth (K : PySem.W.Frag) (C : Addr) (H : Hp) (y : V) : Prop := InC C H y ∨ y = .non ∨ (∃ i, y = .int i) ∨ (∃ z, y = .str z) ∨ ∃ a xs, y = .ref a ∧ SqT K H a xs
section
variable {X : Cx} {pins : List (Addr × Obj)} {σ : L2.St} {H : Hp} {s : Shared} {g : Bool} {k : Nat} {f C : Addr} {sp : Sp} {x y : V} {u v : Value} {Q : VK}
theorem inC_at (I : Inv X pins σ H s) (h : InC C H x) (r : RelV x u) : ∃ a ox od, u = .ref a ∧ PySem.W.InstAt s.heap a ox C od := by
  obtain ⟨a, dx, fs, rfl, e⟩ := h
  cases r
  obtain ⟨mA, O, _⟩ := ins_get I.hok e
  obtain ⟨od, J, _⟩ := O.look
  exact ⟨a, _, od, rfl, J⟩
theorem ep_cmp {s' : Shared} (h : EP X pins σ Q u s') : PySem.W.CmpBack (EP X pins σ Q) u s' := by
  obtain ⟨v, H', I, r, q⟩ := h
  have hn : u ≠ .notImplemented := by
    intro z
    subst z
    cases v <;> first | (exact nomatch r) | (obtain ⟨t, e⟩ := r; exact nomatch e)
  unfold PySem.W.CmpBack
  split
  · exact hn rfl
  · exact ⟨v, H', I, r, q⟩
def rOwn (C : Addr) (sp : Sp) : R2 := fun x y H Q => InC C H x ∧ InC C H y ∧ sp [x, y] H Q E0
def rOwnI (C : Addr) (sp : Sp) : R2 := fun x y H Q => InC C H x ∧ (∃ i, y = .int i) ∧ sp [x, y] H Q E0
/-- a binary operator, both sides of the class -/
theorem p_opSame {op : Operator} {m : Str} (h : Mf false X.prog X.w X.K X.mg X.base k C m sp) (hr : Room k X.A) (hc : PySem.W.selfFirst X.K C = true) (hm : PySem.dunder op.info.2 = m) : OpR X (binaryOp op) (rOwn C sp) := by
  intro pins s σ H x y v u Q I rx ry ⟨hx, hy, q⟩
  obtain ⟨f, M, F⟩ := h
  obtain ⟨a, ox, od, rfl, J⟩ := inC_at I hx rx
  obtain ⟨b, oy, od', rfl, J'⟩ := inC_at I hy ry
  obtain ⟨mm, hF⟩ := I.fr
  exact PySem.W.binop_K hF I.ok.mod.kin J J'.type hc (by rw [hm]; exact M.at_) M.fn (wpAny_mono (run_call F hr rfl (fun z => nomatch z) I (.cons rx (.cons ry .nil)) q) (fun _ _ z => ep_cmp z) fun _ _ z => z)
/-- .. an int on the right -/
theorem p_opInt {op : Operator} {m n : Str} (h : Mf false X.prog X.w X.K X.mg X.base k C m sp) (hr : Room k X.A) (hc : PySem.W.selfFirst X.K C = true) (hn : NoAttr X.K C n) (hm : PySem.dunder op.info.2 = m) (hm' : PySem.dunderR op.info.2 = n)
    (h1 : (PySem.fastLookup "int" m).isSome = true) (h2 : (PySem.fastLookup "int" n).isSome = true) : OpR X (binaryOp op) (rOwnI C sp) := by
  intro pins s σ H x y v u Q I rx ry ⟨hx, ⟨i, hy⟩, q⟩
  obtain ⟨f, M, F⟩ := h
  obtain ⟨a, ox, od, rfl, J⟩ := inC_at I hx rx
  obtain ⟨mm, hF⟩ := I.fr
  have rc := run_call F hr rfl (fun z => nomatch z) I (.cons rx (.cons ry .nil)) q
  subst hy
  obtain ⟨t, rfl⟩ := (show ∃ t, u = Value.int i t from ry)
  obtain ⟨fo, e1⟩ := Option.isSome_iff_exists.mp h1
  obtain ⟨ro, e2⟩ := Option.isSome_iff_exists.mp h2
  exact PySem.W.ksp_binT (T := "int") (rc := none) (fo := fo) (ro := ro) hF I.ok.mod.kin J rfl hc (by rw [hm]; exact M.at_) M.fn (by rw [hm']; exact hn) (.inl rfl) (by rw [hm]; exact e1) (by rw [hm']; exact e2) rfl
    (wpAny_mono rc (fun _ _ z => ep_cmp z) fun _ _ z => z)
end
end DL

set_option maxHeartbeats 4000000
/-! DLh: own == and != . -/
namespace DL
open PySem L2
/-- object.__ne__ asks the class's own __eq__ -/
theorem ne_slotB : Slot "object" "__ne__" "object.__ne__" :=
  Slot.of (T := "object") (name := "__ne__") (owner := "object") (n := "__ne__") (by rw [typeLookup_type, builtinLookup_eq_fast]; kernel_rfl) (by decide +kernel) (by decide +kernel) (by decide +kernel)
    (.inl (by decide +kernel)) (by rw [isSubtype_type]; kernel_rfl)
section
variable {prog : Program} {w : World} {A : Around} {E : Value → Shared → Prop} {s : Shared} {K : PySem.W.Frag} {x C f : Addr} {ox : Obj} {od : Option Obj} {b tb : Value} {Q : Value → Shared → Prop}
theorem own_ne_entry {Q : Fin → Shared → Prop} (hu : A.units < cLine) (X : K.In s.heap) (I : PySem.W.InstAt s.heap x ox C od) (hs : PySem.W.findIn K (.ref C) "__eq__" = some (some (.ref f))) (hf : PySem.W.isFn K (.ref f) = true)
    (h : wpAny (model prog w) A (call (.ref f) [.ref x, b]) (fun v s' => ∃ r, v = .bool r ∧ Q (.done (.ret (.bool (!r)))) s') E s) : wpAny (model prog w) A (Builtin.«object.__ne__» ⟨[.ref x, b], []⟩) Q E s := by
  unfold Builtin.«object.__ne__»
  refine wpAny_bind (m := slotArgs _ _ _) (wpAny_pure ?_)
  refine wpAny_bind (wpAny_cRoomFor hu ?_)
  refine wpAny_bind (m := callSpecialIfBound? (.ref x) _ [b]) (PySem.W.ifBound_K X I hs hf (wpAny_mono h (fun r s' hr => ?_) fun _ _ e => e))
  obtain ⟨r, rfl, q⟩ := hr
  exact wpAny_bind (wpAny_truthy_bool (wpAny_pure q))
theorem own_ne (hu : A.units + 1 < cLine) (X : K.In s.heap) (I : PySem.W.InstAt s.heap x ox C od) (hb : PySem.W.Looks (model prog w) s.heap (typeOf b) tb) (hn : PySem.W.notFirst K C tb = true)
    (hs : PySem.W.findIn K (.ref C) "__eq__" = some (some (.ref f))) (hf : PySem.W.isFn K (.ref f) = true) (hne : PySem.W.findIn K (.ref C) "__ne__" = some (some (.builtin "object.__ne__"))) (hm : PySem.W.mroIn K C (.type "object") = some true)
    (h : wpAny (model prog w) A.in1 (call (.ref f) [.ref x, b]) (fun v s' => ∃ r, v = .bool r ∧ Q (.bool (!r)) s') E s) : wpAny (model prog w) A (richCompare .NotEq (.ref x) b) Q E s := by
  have one : wpAny (model prog w) A (tryCompare (.ref x) "__ne__" b) (fun r s' => ∃ v, r = some v ∧ Q v s') E s := by
    unfold tryCompare
    simp only [callSpecialIfBound?, bindSpecialIfBound?]
    refine wpAny_bind (wpAny_holding (wpAny_bind (wpAny_bind (wpAny_bind (I.type.here ((PySem.W.looks_findIn X hne).here ?_))))))
    have fin : wpAny (model prog w) A (call (.builtin "object.__ne__") ([.ref x] ++ [b]) >>= fun v => pure (some v)) (fun r s' => wpAny (model prog w) A (match r with | some .notImplemented | none => pure none | some r => pure (some r)) (fun r s' => ∃ v, r = some v ∧ Q v s') E s') E s := by
      refine wpAny_bind (wpAny_call (codeAny_call_builtin ne_slotB.plain F.cmpEntry_ne (@PySem.W.check_slot (model prog w) _ _ s "object.__ne__" "object" "__ne__" (.ref x) [b] [] _ F.cmpKind_ne F.cmpSplit_ne (I.type.andThen (PySem.W.looks_mroIn X hm)) (F.cmpArgs_ne _ _) ?_)))
      refine own_ne_entry (A := A.in1) hu X I hs hf (wpAny_mono h (fun v s' hv => ?_) fun _ _ e => e)
      obtain ⟨r, rfl, q⟩ := hv
      exact ⟨r, rfl, wpAny_pure (wpAny_pure ⟨_, rfl, q⟩)⟩
    have bd : bindSpecial (.builtin "object.__ne__") (.ref x) = pure (.builtin "object.__ne__", [.ref x]) := ne_slotB.bind (.ref x)
    refine wpAny_bind (wpAny_askSetting (wpAny_ite ?_))
    split
    · rw [bd]; exact wpAny_pure (by exact fin)
    · rw [bd]; exact wpAny_tryCatch (wpAny_pure (by exact fin))
  unfold richCompare
  simp only [oneThing_ref]
  refine wpAny_holding (wpAny_bind (wpAny_cRoomFor (Nat.lt_of_succ_lt hu) ?_))
  refine wpAny_bind (I.type.here (wpAny_bind (hb.here ?_)))
  split
  · rename_i q
    have e : PySem.W.subIn K tb (.ref C) = some false := by
      rcases Bool.or_eq_true_iff.mp hn with e | e
      · rw [beq_iff_eq.mp e] at q; simp at q
      · exact beq_iff_eq.mp e
    refine wpAny_bind ((PySem.W.looks_subIn X e).here ?_)
    simp only [Bool.false_eq_true, if_false]
    refine wpAny_bind (wpAny_mono one (fun r s' z => ?_) fun _ _ e => e)
    obtain ⟨v, rfl, hq⟩ := z
    exact wpAny_pure hq
  · refine wpAny_bind (wpAny_pure ?_)
    simp only [Bool.false_eq_true, if_false]
    refine wpAny_bind (wpAny_mono one (fun r s' z => ?_) fun _ _ e => e)
    obtain ⟨v, rfl, hq⟩ := z
    exact wpAny_pure hq
end
end DL

set_option maxHeartbeats 4000000
/-! DLi: own == and != as operators; the steps for calls of own things. -/
namespace DL
open PySem L2
/-- what is known of a class of the text -/
structure OwnC (K : PySem.W.Frag) (C : Addr) : Prop where
  cls : Cls K C
  sf : PySem.W.selfFirst K C = true
  ne : PySem.W.findIn K (.ref C) "__ne__" = some (some (.builtin "object.__ne__"))
  mo : PySem.W.mroIn K C (.type "object") = some true
  ca : PySem.W.findIn K (.ref C) "__class__" = some (some (.builtin "object.__class__"))
  cg : PySem.W.specialIn K (.builtin "object.__class__") "__get__" = some (some (.builtin "getset_descriptor.__get__"))
  ct : PySem.W.takesIn K (.builtin "object.__class__") = some true
  kt : ∀ T ∈ ["NoneType", "int", "str", "tuple", "list", "bool"], PySem.W.kitOne K (.type T) (.ref C) = some false

def rOwnEq (K : PySem.W.Frag) (C : Addr) (sp : Sp) : R2 := fun x y H Q => InC C H x ∧ Oth K C H y ∧ sp [x, y] H Q E0
def kNe (Q : VK) (v : V) (H : Hp) : Prop := ∃ b, v = .bl b ∧ Q (.bl (!b)) H
def rOwnNe (K : PySem.W.Frag) (C : Addr) (sp : Sp) : R2 := fun x y H Q => InC C H x ∧ Oth K C H y ∧ sp [x, y] H (kNe Q) E0
section
variable {X : Cx} {pins : List (Addr × Obj)} {σ : L2.St} {H : Hp} {s : Shared} {k : Nat} {C : Addr} {sp : Sp} {x y : V} {u v : Value} {Q : VK}
theorem oth_at (I : Inv X pins σ H s) (h : Oth X.K C H y) (r : RelV y u) : ∃ tb, PySem.W.Looks (model X.prog X.w) s.heap (typeOf u) tb ∧ PySem.W.notFirst X.K C tb = true := by
  have nt : ∀ T : String, PySem.W.subIn X.K (.type T) (.ref C) = some false → PySem.W.notFirst X.K C (.type T) = true := fun T e => by
    unfold PySem.W.notFirst; rw [e]; simp
  rcases h with h | h | ⟨i, h⟩ | ⟨z, h⟩ | ⟨a, xs, h, q⟩
  · obtain ⟨a, ox, od, rfl, J⟩ := inC_at I h r
    exact ⟨_, J.type, by simp [PySem.W.notFirst]⟩
  · subst h; cases r
    exact ⟨_, PySem.W.Looks.of_pure rfl, nt "NoneType" rfl⟩
  · subst h; obtain ⟨t, rfl⟩ := (show ∃ t, u = Value.int i t from r)
    exact ⟨_, PySem.W.Looks.of_pure rfl, nt "int" rfl⟩
  · subst h; obtain ⟨t, rfl⟩ := (show ∃ t, u = Value.str z t from r)
    exact ⟨_, PySem.W.Looks.of_pure rfl, nt "str" rfl⟩
  · subst h; cases r
    obtain ⟨its, _, ⟨o, e, c, _⟩, _⟩ := I.tuple q
    refine ⟨.type "tuple", ?_, nt "tuple" rfl⟩
    exact c ▸ (PySem.W.Looks.ld e).andThen .now
theorem p_ownEq (h : Mf false X.prog X.w X.K X.mg X.base k C "__eq__" sp) (hr : Room k X.A) : OpR X (compareOp .Eq) (rOwnEq X.K C sp) := by
  intro pins s σ H x y v u Q I rx ry ⟨hx, hy, q⟩
  obtain ⟨f, M, F⟩ := h
  obtain ⟨a, ox, od, rfl, J⟩ := inC_at I hx rx
  obtain ⟨tb, L, nf⟩ := oth_at I hy ry
  obtain ⟨mm, hF⟩ := I.fr
  show wpAny (model X.prog X.w) X.A (richCompare .Eq (.ref a) u) (EP X pins σ Q) X.xe s
  exact PySem.W.cmp_K (op := .Eq) hr.units0 hF I.ok.mod.kin J L nf M.at_ M.fn (wpAny_mono (run_call F hr rfl (fun z => nomatch z) I (.cons rx (.cons ry .nil)) q) (fun _ _ z => ep_cmp z) fun _ _ z => z)
theorem p_ownNe (h : Mf false X.prog X.w X.K X.mg X.base k C "__eq__" sp) (hr : Room (k + 1) X.A) (c : OwnC X.K C) : OpR X (compareOp .NotEq) (rOwnNe X.K C sp) := by
  intro pins s σ H x y v u Q I rx ry ⟨hx, hy, q⟩
  obtain ⟨f, M, F⟩ := h
  obtain ⟨a, ox, od, rfl, J⟩ := inC_at I hx rx
  obtain ⟨tb, L, nf⟩ := oth_at I hy ry
  show wpAny (model X.prog X.w) X.A (richCompare .NotEq (.ref a) u) (EP X pins σ Q) X.xe s
  refine own_ne (hu_of hr) I.kIn J L nf M.at_ M.fn c.ne c.mo (wpAny_mono (run_call (A := X.A.in1) F hr.in1 rfl (fun z => nomatch z) I (.cons rx (.cons ry .nil)) q) (fun r s' z => ?_) fun _ _ z => z)
  obtain ⟨b, H', I', rb, bb, e, q'⟩ := z
  subst e
  cases rb
  exact ⟨bb, rfl, ⟨.bl (!bb), H', I', rfl, q'⟩⟩
end

/-! ### steps -/
section
variable {E : Eb} {G : List (Option D)} {O : List (Addr × List D)} {S S0 : List (V × D)} {F F' H H' : Hp} {σ : L2.St} {v x y : V} {d e : D} {Q : VK} {vs : List V} {ds es as bs : List D} {tas : TA} {te ta : TE} {C : Addr} {sp : Sp} {m f : Str} {ns ms : List Str}
theorem zip_none : ∀ {ns : List Str} {xs : List V}, ns.contains m = false → (ns.zip xs).lookup m = none
  | [], _, _ => rfl
  | n :: ns, [], _ => rfl
  | n :: ns, x :: xs, h => by
    rw [List.contains_cons, Bool.or_eq_false_iff] at h
    show List.lookup m ((n, x) :: ns.zip xs) = none
    rw [List.lookup_cons, h.1]
    exact zip_none h.2
theorem FO.inC (fo : FO E G O S F σ H) (r : Rp E.K F v (.obj C ns ds)) : InC C H v := by
  obtain ⟨a, dx, xs, rfl, h, _, _⟩ := r.obj_at
  exact ⟨a, dx, _, rfl, fo.sub _ _ h⟩
def kArg (sp : Sp) (x : V) (Q : VK) (vs : List V) (H : Hp) : Prop := sp (x :: (vs ++ [])) H Q E0
def kMth (C : Addr) (m : Str) (sp : Sp) (t : TA) (σ : L2.St) (Q : VK) (x : V) (H : Hp) : Prop := ∃ a dx fs, x = .ref a ∧ H a = some (.ins C dx fs) ∧ fs.lookup m = none ∧ t σ H (kArg sp x Q)
theorem x_meth (h : ta σ H (kMth C m sp tas σ Q)) : tMeth C m sp [] E0 ta tas σ H Q := h
theorem x_kMth (fo : FO E G O ((x, .obj C ns ds) :: S) F σ H) (hm : ns.contains m = false) (k : tas σ H (kArg sp x Q)) : kMth C m sp tas σ Q x H := by
  obtain ⟨a, dx, xs, rfl, h, _, _⟩ := fo.top.obj_at
  exact ⟨a, dx, _, rfl, fo.sub _ _ h, zip_none hm, k⟩
theorem x_arg (h : kCall sp [] E0 Q (x :: vs) H) : kArg sp x Q vs H := h
def kProp (C : Addr) (sp : Sp) (Q : VK) (x : V) (H : Hp) : Prop := ∃ a dx fs, x = .ref a ∧ H a = some (.ins C dx fs) ∧ sp [.ref a] H Q E0
theorem x_prop (h : ta σ H (kProp C sp Q)) : tProp C sp [] E0 ta σ H Q := h
theorem x_kProp (fo : FO E G O ((x, .obj C ns ds) :: S) F σ H) (k : kCall sp [] E0 Q [x] H) : kProp C sp Q x H := by
  obtain ⟨a, dx, xs, rfl, h, _, _⟩ := fo.top.obj_at
  exact ⟨a, dx, _, rfl, fo.sub _ _ h, k⟩
def kFld (K : PySem.W.Frag) (f : Str) (Q : VK) (x : V) (H : Hp) : Prop := ∃ a C dx fs v, x = .ref a ∧ H a = some (.ins C dx fs) ∧ Cls K C ∧ NoAttr K C f ∧ fs.lookup f = some v ∧ Q v H
theorem x_fld {K : PySem.W.Frag} (h : ta σ H (kFld K f Q)) : tFld K ta f σ H Q := h
theorem x_kFld (fo : FO E G O ((x, .obj C [f] [d]) :: S) F σ H) (c : Cls E.K C) (n : NoAttr E.K C f) (k : ∀ v, FO E G O ((v, d) :: S) F σ H → Q v H) : kFld E.K f Q x H := by
  obtain ⟨a, dx, xs, rfl, h, hl, r⟩ := fo.top.obj_at
  obtain ⟨v1, ws, rfl, r1, r⟩ := r.cons_of
  have := r.nil_eq; subst this
  exact ⟨a, C, dx, _, v1, rfl, fo.sub _ _ h, c, n, by simp [List.lookup], k v1 (fo.pop.push r1)⟩
def kCa (C : Addr) (sp : Sp) (a : Addr) (Q : VK) (vs : List V) (H : Hp) : Prop := (∃ dx fs, H a = some (.ins C dx fs)) ∧ sp (V.ref a :: vs) H Q E0
def kCi (C : Addr) (sp : Sp) (t : TA) (σ : L2.St) (Q : VK) (y : V) (H : Hp) : Prop := ∃ a, y = V.ref a ∧ t σ H (kCa C sp a Q)
theorem x_callI (h : ta σ H (kCi C sp tas σ Q)) : tCallI C sp ta tas σ H Q := h
theorem x_kCi (fo : FO E G O ((x, .obj C ns ds) :: S) F σ H) (k : ∀ a, FO E G O ((.ref a, .obj C ns ds) :: S) F σ H → tas σ H (kCa C sp a Q)) : kCi C sp tas σ Q x H := by
  obtain ⟨a, dx, xs, rfl, h, _, _⟩ := fo.top.obj_at
  exact ⟨a, rfl, k a fo⟩
theorem x_kCa {a : Addr} (fo : FO E G O S F σ H) (t : Taken S (.ref a :: vs) (.obj C ns ds :: es) S0) (k : kCall sp [] E0 Q (.ref a :: vs) H) : kCa C sp a Q vs H := by
  obtain ⟨b, dx, xs, e, h, _, _⟩ := ((fo.rpl t).cons_of).elim fun v h => h.elim fun w h => by obtain ⟨e, r, _⟩ := h; cases e; exact r.obj_at
  cases e
  refine ⟨⟨dx, _, fo.sub _ _ h⟩, ?_⟩
  have k' : sp ((.ref a :: vs) ++ []) H Q E0 := k
  rw [List.append_nil] at k'
  exact k'
theorem x_own (fo : FO E G O ((y, .obj C ns es) :: (x, .obj C ms ds) :: S) F σ H) (k : kCall sp [] E0 Q [x, y] H) : rOwn C sp x y H Q := ⟨fo.inC fo.snd, fo.inC fo.top, k⟩
theorem x_ownI {i : Int} (fo : FO E G O ((y, .raw (.int i)) :: (x, .obj C ms ds) :: S) F σ H) (k : kCall sp [] E0 Q [x, y] H) : rOwnI C sp x y H Q := ⟨fo.inC fo.snd, ⟨i, fo.top.raw_eq⟩, k⟩
/-- the data that may stand on the right of an own == -/
def othD (C : Addr) : D → Prop
  | .obj B _ _ => B = C
  | .raw .non => True
  | .raw (.int _) => True
  | .raw (.str _) => True
  | .tup _ => True
  | _ => False
theorem FO.oth (fo : FO E G O S F σ H) (r : Rp E.K F v d) (h : othD C d) : Oth E.K C H v := by
  cases r with
  | raw v =>
    cases v <;> simp only [othD] at h
    · exact .inr (.inl rfl)
    · exact .inr (.inr (.inl ⟨_, rfl⟩))
    · exact .inr (.inr (.inr (.inl ⟨_, rfl⟩)))
  | lst _ _ => exact h.elim
  | tup a b => exact .inr (.inr (.inr (.inr ⟨_, _, rfl, .inl (.inl (fo.sub _ _ a))⟩)))
  | obj a b c =>
    have h' : _ = C := h
    subst h'
    exact .inl ⟨_, _, _, rfl, fo.sub _ _ a⟩
  | pin _ => exact h.elim
theorem x_ownEq (fo : FO E G O ((y, e) :: (x, .obj C ms ds) :: S) F σ H) (he : othD C e) (k : kCall sp [] E0 Q [x, y] H) : rOwnEq E.K C sp x y H Q := ⟨fo.inC fo.snd, fo.oth fo.top he, k⟩
theorem x_ownNe (fo : FO E G O ((y, e) :: (x, .obj C ms ds) :: S) F σ H) (he : othD C e) (k : kCall sp [] E0 (kNe Q) [x, y] H) : rOwnNe E.K C sp x y H Q := ⟨fo.inC fo.snd, fo.oth fo.top he, k⟩
theorem x_kNe {b : Bool} (fo : FO E G O ((x, .raw (.bl b)) :: S) F σ H) (k : FO E G O ((.bl (!b), .raw (.bl (!b))) :: S) F σ H → Q (.bl (!b)) H) : kNe Q x H := ⟨b, fo.top.raw_eq, k (fo.pop.push (.raw _))⟩
/-- isinstance(x, C) -/
theorem x_isiC (fo : FO E G O ((y, .raw (.ref C)) :: (x, .obj C ms ds) :: S) F σ H) (c : OwnC E.K C) (k : FO E G O ((.bl true, .raw (.bl true)) :: S) F σ H → Q (.bl true) H) : cIsi E.K [x, y] H Q := by
  have e := fo.top.raw_eq; subst e
  obtain ⟨a, dx, xs, rfl, h, _, _⟩ := fo.snd.obj_at
  exact .inl ⟨_, _, .ref C, .ref C, true, rfl, .own C, .base (.ins (fo.sub _ _ h) c.cls c.ca c.cg c.ct c.mo), by unfold PySem.W.kitOne; simp, k (fo.pop.pop.push (.raw _))⟩
theorem x_isiN {t : String} (fo : FO E G O ((y, .raw (.ref C)) :: (x, d) :: S) F σ H) (c : OwnC E.K C) (ht : tyD d = some t) (hm : t ∈ ["NoneType", "int", "str", "tuple", "list", "bool"]) (k : FO E G O ((.bl false, .raw (.bl false)) :: S) F σ H → Q (.bl false) H) : cIsi E.K [x, y] H Q := by
  have e := fo.top.raw_eq; subst e
  exact .inl ⟨_, _, .type t, .ref C, false, rfl, .own C, fo.tyX fo.snd ht, c.kt t hm, k (fo.pop.pop.push (.raw _))⟩
end

/-! ### making -/
/-- __init__'s promise: it fills one new object -/
def spI (K : PySem.W.Frag) (C : Addr) {α : Type} (arg : α → List D) (pre : α → Prop) (ns : List Str) (key : α → List D) : Sp := fun vs H Q _ =>
  ∃ z F a dx ws, vs = .ref a :: ws ∧ Sub F H ∧ F a = none ∧ H a = some (.ins C dx []) ∧ RpL K F ws (arg z) ∧ pre z ∧
    ∀ F' H', Sub F F' → Sub F' H' → (∀ b o, H b = some o → b ≠ a → H' b = some o) → (∀ b, F b = none → H b ≠ none → b ≠ a → F' b = none) → Rp K F' (.ref a) (.obj C ns (key z)) → Q .non H'
def kMake (C : Addr) (sp : Sp) (Q : VK) (vs : List V) (H1 : Hp) : Prop := ∀ x dx, H1 x = none → H1 dx = none → dx ≠ x →
  sp (.ref x :: (vs ++ [])) (upd (upd H1 dx (.own x)) x (.ins C dx [])) (fun v H2 => v = .non ∧ Q (.ref x) H2) E0
section
variable {E : Eb} {G : List (Option D)} {O : List (Addr × List D)} {S S0 : List (V × D)} {F F' H H' : Hp} {σ : L2.St} {v x y : V} {d e : D} {Q : VK} {vs : List V} {ds es as bs : List D} {tas : TA} {te ta tv : TE} {C : Addr} {sp : Sp} {m f : Str} {ns ms : List Str}
variable {α : Type} {arg : α → List D} {pre : α → Prop} {key : α → List D}
theorem x_make (h : tas σ H (kMake C sp Q)) : tMake C sp [] E0 tas σ H Q := h
theorem x_kMake (z : α) (fo : FO E G O S F σ H) (t : Taken S vs ds S0) (ha : ds = arg z) (hp : pre z) (k : ∀ p F' H', FO E G O ((.ref p, .obj C ns (key z)) :: S0) F' σ H' → Q (.ref p) H') : kMake C (spI E.K C arg pre ns key) Q vs H := by
  intro p dx hp0 hd0 hne
  have rl := fo.rpl t
  rw [ha] at rl
  have up : ∀ b o, H b = some o → upd (upd H dx (.own p)) p (.ins C dx []) b = some o := fun b o e => by
    rw [upd_ne (ne_of_none e hp0), upd_ne (ne_of_none e hd0)]; exact e
  have fs := fo.sub
  refine ⟨z, F, p, dx, vs, by rw [List.append_nil], fun b o e => up b o (fs b o e), fs.none hp0, upd_same, rl, hp, fun F' H' s1 s2 s3 s4 r => ⟨rfl, ?_⟩⟩
  refine k p F' H' (((fo.taken t).step ⟨s1, s2, fun b o e _ => s3 b o (up b o e) (ne_of_none e hp0), fun b e q => s4 b e ?_ ?_, fun b q => ?_⟩).push r)
  · intro z0
    cases hb : H b with
    | none => exact q hb
    | some o => rw [up b o hb] at z0; cases z0
  · intro z0; subst z0; exact q hp0
  · obtain ⟨o, e, t⟩ := fo.box b q
    exact ⟨o, s3 b o (up b o e) (ne_of_none e hp0), t⟩
/-- __init__ begins -/
theorem init_start {K : PySem.W.Frag} {N : List Str} {Ex : XK} (h : spI K C arg pre ns key vs H Q Ex) : ∃ (z : α) (F : Hp) (a dx : Addr), pre z ∧ vs.length = (arg z).length + 1 ∧
    FO ⟨K, some a, (· = .ins C dx []), F, H⟩ ((D.at a :: arg z).map some ++ List.replicate (N.length - (arg z).length - 1) none) [] [] F (L2.start N vs) H ∧
    ∀ F' H', Sub F F' → Sub F' H' → (∀ b o, H b = some o → b ≠ a → H' b = some o) → (∀ b, F b = none → H b ≠ none → b ≠ a → F' b = none) → Rp K F' (.ref a) (.obj C ns (key z)) → Q .non H' := by
  obtain ⟨z, F, a, dx, ws, rfl, s, fa, hA, r, p, k⟩ := h
  have hl : ws.length = (arg z).length := r.length
  have rl : RpL K F (.ref a :: ws) (D.at a :: arg z) := .cons (.raw _) r
  refine ⟨z, F, a, dx, p, by rw [List.length_cons, hl], ⟨.same s (fun c q => ?_), fun c q => ?_, ?_, fun i d q => ?_, (fun _ h => nomatch h), (fun _ h => nomatch h), List.nodup_nil⟩, k⟩
  · cases q; exact ⟨_, hA, rfl⟩
  · cases q; exact fa
  · unfold L2.start
    simp [hl]; omega
  · have hi : i < (D.at a :: arg z).length := by
      rcases Nat.lt_or_ge i (D.at a :: arg z).length with h | h
      · exact h
      · rw [List.getElem?_append_right (by simpa using h)] at q
        rw [List.getElem?_replicate] at q
        split at q <;> cases q
    rw [List.getElem?_append_left (by simpa using hi), List.getElem?_map] at q
    cases e : (D.at a :: arg z)[i]? with
    | none => rw [e] at q; cases q
    | some d' =>
      rw [e] at q; cases q
      obtain ⟨v, h1, h2⟩ := rl.get e
      refine ⟨v, ?_, h2⟩
      unfold L2.start
      rw [List.getElem?_append_left (by simp at hi ⊢; omega), List.getElem?_map, h1]; rfl
def kSf (K : PySem.W.Frag) (f : Str) (nx : L2.St → Hp → Prop) (σ : L2.St) (y x : V) (H2 : Hp) : Prop := ∃ a C dx fs, x = .ref a ∧ H2 a = some (.ins C dx fs) ∧ Cls K C ∧ NoAttr K C f ∧ fs.length < 1000 ∧ nx σ (upd H2 a (.ins C dx (putF f y fs)))
theorem x_sfld {K : PySem.W.Frag} {Dn : Ends} (h : tv σ H fun y H1 => ta σ H1 (kSf K f Dn.nx σ y)) : sFld K ta tv f Dn σ H := h
/-- the one field of a new object is laid, __init__ ends -/
theorem x_kSf {K : PySem.W.Frag} {a dx : Addr} {F0 H0 : Hp} {nx : L2.St → Hp → Prop} {R : Hp → Prop} (fo : FO ⟨K, some a, (· = .ins C dx []), F0, H0⟩ G O ((x, D.at a) :: (y, d) :: S) F σ H) (c : Cls K C) (n : NoAttr K C f) (hA : F0 a = none)
    (k : ∀ F' H', Sub F0 F' → Sub F' H' → (∀ b o, H0 b = some o → b ≠ a → H' b = some o) → (∀ b, F0 b = none → H0 b ≠ none → b ≠ a → F' b = none) → Rp K F' (.ref a) (.obj C [f] [d]) → nx σ H') : kSf K f nx σ y x H := by
  have e := fo.top.raw_eq; subst e
  obtain ⟨o, h, ho⟩ := fo.box a rfl
  have ho : o = .ins C dx [] := ho
  subst ho
  have fa : F a = none := fo.bx a rfl
  have ff : Sub F (upd F a (.ins C dx [(f, y)])) := sub_upd fa
  refine ⟨a, C, dx, [], rfl, h, c, n, by decide, ?_⟩
  refine k (upd F a (.ins C dx [(f, y)])) _ (fo.st.ff.trans ff) (sub_upd2 fo.sub) (fun b o e hb => ?_) (fun b e q hb => ?_) ?_
  · rw [upd_ne hb]; exact fo.st.keep b o e (fun z => hb (Option.some.inj z).symm)
  · rw [upd_ne hb]; exact fo.st.new b e q
  · exact Rp.obj (dx := dx) (ns := [f]) (xs := [y]) upd_same rfl (.cons (fo.snd.mono ff) .nil)
end
end DL

set_option maxHeartbeats 4000000
/-! DLj: repr. -/
namespace DL
open PySem L2
/-- the text that repr gives of a value of data -/
def Shw (K : PySem.W.Frag) (H : Hp) (x : V) (z : Str) : Prop := ∃ p, Dp K H x p ∧ (p = .none ∨ (∃ i, p = .int i) ∨ (∃ ps, p = .tuple ps) ∨ ∃ ps, p = .list ps) ∧ p.showable = true ∧ p.hasDict = false ∧ p.depth ≤ 20 ∧ p.shown.length ≤ 100000 ∧ z = p.shown
theorem long_ok {n : Nat} (h : n ≤ 100000) : n ≤ sizeLine := Nat.le_trans h (by decide)
section
variable {X : Cx} {pins : List (Addr × Obj)} {σ : L2.St} {H : Hp} {s : Shared} {k : Nat} {C : Addr} {sp : Sp} {x : V} {u : Value} {z : Str} {Q : VK}
theorem shw_size (h : Shw X.K H x z) : z.length ≤ sizeLine := by
  obtain ⟨p, _, _, _, _, _, hl, rfl⟩ := h
  exact long_ok hl
theorem repr_shw {Q : Value → Shared → Prop} (I : Inv X pins σ H s) (h : Shw X.K H x z) (r : RelV x u) (hr : Room k X.A) (hg : X.A.guards = some []) (q : ∀ t s', Inv X pins σ H s' → Q (.str z t) s') : wpAny (model X.prog X.w) X.A (call (.builtin "repr") [u]) Q X.xe s := by
  obtain ⟨p, hd, hk, hs, hn, hp, hl, rfl⟩ := h
  have hu := hr.units
  have ref : ∀ a, u = .ref a → wpAny (model X.prog X.w) X.A (call (.builtin "repr") [u]) Q X.xe s := fun a e => by
    subst e
    obtain ⟨as, rd⟩ := Dp.reads I p x _ hd r
    exact repr_of_reads' rd hs (PyData.noDict_hsm hn) hg (by omega) (fun _ _ e => e) (fun h' t tk kp => q t _ (I.kept (t' := tk) kp)) (long_ok hl)
  cases hd with
  | non => cases r; exact PySem.P.repr_of_none (q _ _ (I.tok _))
  | bl b => rcases hk with e | ⟨_, e⟩ | ⟨_, e⟩ | ⟨_, e⟩ <;> cases e
  | int i => obtain ⟨t, rfl⟩ := (show ∃ t, u = Value.int i t from r); exact PySem.P.repr_of_int (by simpa [PyData.showable] using hs) (q _ _ (I.tok _))
  | str b => rcases hk with e | ⟨_, e⟩ | ⟨_, e⟩ | ⟨_, e⟩ <;> cases e
  | lst _ _ => exact ref _ r
  | tup _ _ => exact ref _ r
theorem robj_shw {Q : Value → Shared → Prop} (I : Inv X pins σ H s) (h : Shw X.K H x z) (r : RelV x u) (hr : Room k X.A) (hg : X.A.guards = some []) (q : ∀ t s', Inv X pins σ H s' → Q (.str z t) s') : wpAny (model X.prog X.w) X.A (pyReprObj u) Q X.xe s := by
  obtain ⟨p, hd, hk, hs, hn, hp, hl, rfl⟩ := h
  have hu := hr.units
  have ref : ∀ a, u = .ref a → wpAny (model X.prog X.w) X.A (pyReprObj u) Q X.xe s := fun a e => by
    subst e
    obtain ⟨as, rd⟩ := Dp.reads I p x _ hd r
    exact pyReprObj_of_reads rd hs (PyData.noDict_hsm hn) hg (by omega) (fun _ _ e => e) (fun h' t tk kp => q t _ (I.kept (t' := tk) kp)) (long_ok hl)
  cases hd with
  | non => cases r; exact pyReprObj_none (q _ _ (I.tok _))
  | bl b => rcases hk with e | ⟨_, e⟩ | ⟨_, e⟩ | ⟨_, e⟩ <;> cases e
  | int i => obtain ⟨t, rfl⟩ := (show ∃ t, u = Value.int i t from r); exact pyReprObj_int (by simpa [PyData.showable] using hs) (q _ _ (I.tok _))
  | str b => rcases hk with e | ⟨_, e⟩ | ⟨_, e⟩ | ⟨_, e⟩ <;> cases e
  | lst _ _ => exact ref _ r
  | tup _ _ => exact ref _ r
/-- {x!r} -/
def tFmtD (K : PySem.W.Frag) (te : TE) : TE := fun σ H Q => te σ H fun x H1 => ∃ z, Shw K H1 x z ∧ Q (.str z) H1
theorem p_fmtD {e : Expr} {te : TE} {pos : Pos} (hr : Room k X.A) (hg : X.A.guards = some []) (he : PE X e te) : PE X (.FormattedValue e 114 none pos) (tFmtD X.K te) := by
  refine ⟨fun pins s σ H Q I h => ?_⟩
  refine wpAny_FormattedValue_repr (thn (he.run pins s σ H _ I h) fun v s1 hv => ?_)
  obtain ⟨x, H1, I1, r1, z, hz, q⟩ := hv
  refine robj_shw I1 hz r1 hr hg fun t s' I' => ?_
  exact wpAny_formatField_str ⟨.str z, H1, I', ⟨_, rfl⟩, q⟩ ⟨.str z, H1, I'.tok _, ⟨_, rfl⟩, q⟩ (shw_size hz)
/-- the parts of a text one behind the other, by Lean's own list -/
def tJoin (ts : List TE) : TE := fun σ H Q => tJs ts Str.empty σ H fun out H1 => Q (.str out) H1
theorem p_join {v1 v2 : Expr} {rest : List Expr} {ts : List TE} {pos : Pos} (h : PJ X (v1 :: v2 :: rest) ts) : PE X (.JoinedStr (v1 :: v2 :: rest) pos) (tJoin ts) := pe_joined h
/-- repr(x): of data, or of an instance of the class at C with its own __repr__ -/
def kStr (Q : VK) (v : V) (H : Hp) : Prop := (∃ z, v = .str z) ∧ Q v H
def cRepr (K : PySem.W.Frag) (C : Addr) (sp : Sp) : List V → Hp → VK → Prop := fun xs H Q => (∃ x z, xs = [x] ∧ Shw K H x z ∧ Q (.str z) H) ∨ ∃ x, xs = [x] ∧ InC C H x ∧ sp [x] H (kStr Q) E0
theorem p_repr (h : Mf true X.prog X.w X.K X.mg X.base k C "__repr__" sp) (hr : Room (k + 1) X.A) (hg : X.A.guards = some []) : CallR X (.builtin "repr") (cRepr X.K C sp) := by
  intro pins s σ H xs us Q I rs q
  rcases q with ⟨x, z, rfl, hz, q⟩ | ⟨x, rfl, hx, q⟩
  · obtain ⟨u, rfl, r⟩ := vals1 rs
    exact repr_shw I hz r hr hg fun t s' I' => ⟨.str z, H, I', ⟨t, rfl⟩, q⟩
  · obtain ⟨u, rfl, r⟩ := vals1 rs
    obtain ⟨f, M, F⟩ := h
    obtain ⟨a, ox, od, rfl, J⟩ := inC_at I hx r
    obtain ⟨mm, hF⟩ := I.fr
    refine PySem.W.repr_K (by have := hr.un; show X.A.units + 1 < _; omega) hF I.ok.mod.kin J M.at_ M.fn (wpAny_mono (run_call (A := X.A.in1) F hr.in1 rfl (fun _ => hg) I (.cons r .nil) q) (fun v s' hv => ?_) fun _ _ e => e)
    obtain ⟨y, H', I', ry, ⟨z, e⟩, q'⟩ := hv
    subst e
    obtain ⟨t, rfl⟩ := (show ∃ t, v = Value.str z t from ry)
    exact ⟨.str z, H', I', ⟨t, rfl⟩, q'⟩
end
section
variable {E : Eb} {G : List (Option D)} {O : List (Addr × List D)} {S S0 : List (V × D)} {F F' H H' : Hp} {σ : L2.St} {v x y : V} {d e : D} {Q : VK} {vs : List V} {ds es as bs : List D} {tas : TA} {te ta tv : TE} {C : Addr} {sp : Sp} {ns : List Str}
theorem FO.shw {p : PyData} (fo : FO E G O S F σ H) (r : Rp E.K F v d) (hp : toPy d = some p) (hk : p = .none ∨ (∃ i, p = .int i) ∨ (∃ ps, p = .tuple ps) ∨ ∃ ps, p = .list ps) (h1 : p.showable = true) (h2 : p.hasDict = false) (h3 : p.depth ≤ 20) (h4 : p.shown.length ≤ 100000) : Shw E.K H v p.shown :=
  ⟨p, r.dp fo.sub hp, hk, h1, h2, h3, h4, rfl⟩
/-- a datum that repr shows as z -/
def ShwD (d : D) (z : Str) : Prop := ∃ p, toPy d = some p ∧ (p = .none ∨ (∃ i, p = .int i) ∨ (∃ ps, p = .tuple ps) ∨ ∃ ps, p = .list ps) ∧ p.showable = true ∧ p.hasDict = false ∧ p.depth ≤ 20 ∧ p.shown.length ≤ 100000 ∧ z = p.shown
theorem FO.shwD {z : Str} (fo : FO E G O S F σ H) (r : Rp E.K F v d) (h : ShwD d z) : Shw E.K H v z := by
  obtain ⟨p, hp, hk, h1, h2, h3, h4, rfl⟩ := h
  exact fo.shw r hp hk h1 h2 h3 h4
theorem x_repr {z : Str} (fo : FO E G O ((x, d) :: S) F σ H) (h : ShwD d z) (k : FO E G O ((.str z, .raw (.str z)) :: S) F σ H → Q (.str z) H) : cRepr E.K C sp [x] H Q := .inl ⟨x, z, rfl, fo.shwD fo.top h, k (fo.pop.push (.raw _))⟩
theorem x_reprO (fo : FO E G O ((x, .obj C ns ds) :: S) F σ H) (k : kCall sp [] E0 (kStr Q) [x] H) : cRepr E.K C sp [x] H Q := .inr ⟨x, rfl, fo.inC fo.top, k⟩
theorem x_kStr {z : Str} (fo : FO E G O ((x, .raw (.str z)) :: S) F σ H) (k : FO E G O ((.str z, .raw (.str z)) :: S) F σ H → Q (.str z) H) : kStr Q x H := by
  have e := fo.top.raw_eq; subst e
  exact ⟨⟨z, rfl⟩, k fo⟩
def kFmt (K : PySem.W.Frag) (Q : VK) (x : V) (H : Hp) : Prop := ∃ z, Shw K H x z ∧ Q (.str z) H
theorem x_fmt {K : PySem.W.Frag} (h : te σ H (kFmt K Q)) : tFmtD K te σ H Q := h
theorem x_kFmt {z : Str} (fo : FO E G O ((x, d) :: S) F σ H) (h : ShwD d z) (k : FO E G O ((.str z, .raw (.str z)) :: S) F σ H → Q (.str z) H) : kFmt E.K Q x H := ⟨z, fo.shwD fo.top h, k (fo.pop.push (.raw _))⟩
def kJs (ts : List TE) (acc : Str) (σ : L2.St) (R : Str → Hp → Prop) (x : V) (H : Hp) : Prop := ∃ y : Str, x = .str y ∧ (acc ++ y).length ≤ sizeLine ∧ tJs ts (acc ++ y) σ H R
theorem x_join {ts : List TE} (h : tJs ts Str.empty σ H fun out H1 => Q (.str out) H1) : tJoin ts σ H Q := h
theorem x_jcons {t : TE} {ts : List TE} {acc : Str} {R : Str → Hp → Prop} (h : t σ H (kJs ts acc σ R)) : tJs (t :: ts) acc σ H R := h
theorem x_jnil {acc : Str} {R : Str → Hp → Prop} (h : R acc H) : tJs [] acc σ H R := h
theorem x_kJs {ts : List TE} {acc z : Str} {R : Str → Hp → Prop} (fo : FO E G O ((x, .raw (.str z)) :: S) F σ H) (hl : (acc ++ z).length ≤ 1000000) (k : FO E G O S F σ H → tJs ts (acc ++ z) σ H R) : kJs ts acc σ R x H := ⟨z, fo.top.raw_eq, Nat.le_trans hl (by decide), k fo.pop⟩
end
end DL

set_option maxHeartbeats 4000000
/-! DLk: a def by its body, and a law's end, where the stack of repr guards is known to be empty. -/
namespace DL
open PySem PySem.Spec PyProof.Rows L2
section
variable {P : Program} {w : World} {K : PySem.W.Frag} {mg : Str → Option Value} {base : Heap}
theorem ok_body {g : Bool} {x qual : Str} {st : Stmt} {f : Addr} {fd : FuncData} {N ps : List Str} {k : Nat} {sp : Sp} (F : L2.Fun K x qual st f fd) (S : FnScope N ps (defScope st)) (hb : Binds K fd ps []) (len : ∀ vs H Q E, sp vs H Q E → vs.length = ps.length)
    (hbody : ∀ (cdv : Value) (A : Around) (outer : List Env) (s : Shared) (H : Hp) (vs : List V) (Q : VK) (Ex : XK), Room k (A.deeper (envOfC qual (defScope st) s.heap.objs.size f cdv)) → (g = true → (A.deeper (envOfC qual (defScope st) s.heap.objs.size f cdv)).guards = some []) → sp vs H Q Ex →
      ∃ t, PSs (cxOf CX0 P w K mg base N qual (defScope st) f cdv A outer s H Ex).nox (defBody st) t ∧ t { nx := fun _ H' => Q .non H', rt := Q } (L2.start N vs) H) : FnS g P w K mg base (k + 1) f sp := by
  obtain ⟨oc, od, kV, doc, pm, an, cdv, ct, osl, rfl, lk, hcd⟩ := F.ex
  intro A outer s H us vs Q Ex hr hg e0 r hsp
  have hl := len _ _ _ _ hsp
  have KX : K.In s.heap := e0.mod.kin.keeps fun b o e => (e0.bs b o e).1
  have lim : s.heap.NoLimit := e0.mod.nolimit.keeps fun b o e => (e0.bs b o e).1
  have bnd := hb s us KX (by rw [List.append_nil, ← r.length]; exact hl)
  rw [List.append_nil] at bnd
  refine codeAny_call_function hr.depth (KX _ _ lk) rfl S.co S.gen rfl (PySem.W.codeRec_of KX hcd) (bnd _ _ _ _ ?_)
  refine wpAny_newFunctionEnv_cells S.kind (fun ⟨n, v⟩ hy => (S.par n (List.of_mem_zip hy).1).imp id fun q => ⟨q, PySem.W.cellsFrom_some _ _ _ (.inl q)⟩) fun env he s1 y => ?_
  subst he
  refine ⟨lim.keeps y.toInCall.keep, codeAny_func ?_⟩
  obtain ⟨t, ht, hq⟩ := hbody cdv A outer s H vs Q Ex (hr.deeper _) (fun z => hg z) hsp
  have I : Inv (cxOf CX0 P w K mg base N qual (defScope st) f cdv A outer s H Ex) [] (L2.start N vs) H s1 := inv_start S hr.hd e0 hl r y
  refine wpAny_mono (ht.nox.run [] s1 (L2.start N vs) H _ I hq) (fun fl s' hs => ?_) fun e s' hs => hs
  cases fl with
  | ret u =>
    obtain ⟨v, σ', H', J, rv, q⟩ := hs
    exact ⟨v, H', J.os, J.bare, J.base, J.hok, rv, q⟩
  | next =>
    obtain ⟨σ', H', J, q⟩ := hs
    exact ⟨V.non, H', J.os, J.bare, J.base, J.hok, rfl, q⟩
  | brk =>
    obtain ⟨_, _, _, q⟩ := hs
    exact False.elim q
  | cont =>
    obtain ⟨_, _, _, q⟩ := hs
    exact False.elim q
end

section
variable {X : Cx} {x : Str} {pos : Pos}
theorem p_globI {i : Int} (hg : Gl X x) (h : ∃ t, X.mg x = some (.int i t)) (hd : (x == ("__debug__" : Str)) = false := by decide) : PE X (.Name x pos) (tC (.int i)) := by
  obtain ⟨t, h⟩ := h
  exact pe_glob hg h ⟨t, rfl⟩ hd
theorem p_ty {n : String} (hg : Gl X x) (hm : X.mg x = none) (hv : bootBuiltins x = some (.type n)) (hn : x ≠ "__name__" := by decide) (hd : (x == ("__debug__" : Str)) = false := by decide) : PE X (.Name x pos) (tC (.ty n)) := pe_bltn hg hm hv rfl hn hd
theorem p_cls {C : Addr} (hg : Gl X x) (hm : X.mg x = some (.ref C)) (hd : (x == ("__debug__" : Str)) = false := by decide) : PE X (.Name x pos) (tC (.ref C)) := pe_glob hg hm rfl hd
theorem p_lstO {es : List Expr} {t : TA} (h : PA X es t) : PE X (.List es pos) (tLstO t) := pe_lst h
end
/-! ### the law is called -/
/-- the script as it lies in the abstract heap -/
def Scr (K : PySem.W.Frag) (H : Hp) (a : Addr) (ns : List Int) : Prop := SqL K H a (ns.map V.int) ∧ ∀ b, H b = none ∨ ∃ o xs, H b = some (.frz o (.lst xs))
section
variable {P : Program} {w : World} {K : PySem.W.Frag} {mg mb : Str → Option Value} {k : Nat} {fa a : Addr} {sp : Sp} {s₁ : Shared} {vs : List Value} {ns : List Int}
theorem call_core {H : Hp} (KX : K.In s₁.heap) (hns : s₁.heap.Ns mainGlobals mg) (hb : s₁.heap.Ns builtinsNs mb) (hbb : ∀ x : Str, x ≠ "__name__" → mb x = bootBuiltins x) (hlim : s₁.heap.NoLimit) (hg : s₁.gens = #[])
    (ha : s₁.heap.get? a = some { cls := .type "list", data := .seq vs.toArray }) (hr : Room k callerA)
    (F : ∀ base : Heap, K.In base → base.Ns mainGlobals mg → FnS true P w K mg base k fa sp) (hsp : sp [.ref a] H (fun v _ => v = .bl true) E0) (hS : ∀ b, H b = none ∨ ∃ o xs, H b = some (.frz o (.lst xs)))
    (hok : HOk P w H s₁.heap) (hA : ∀ b, H b ≠ none → b = a) (hK : H a ≠ none → K.lookup a = none) :
    codeAny (model P w) callerA (.call (.ref fa) ⟨[.ref a], []⟩) (fun r s' => r = .ok (.ret (.bool true)) ∧ OldK s₁.heap s'.heap ∧ s'.os = s₁.os ∧ AllBare s'.gens) s₁ := by
  have only : ∀ {b : Addr} {u : HO}, H b = some u → b = a := fun {b u} e => hA b (by rw [e]; exact fun z => nomatch z)
  have noD : ∀ {b : Addr} {o : Obj} {es : Array DictEntry} {ep : Nat}, s₁.heap.get? b = some o → o.data = .dict es ep → H b = none := fun {b o es ep} e d => by
    cases q : H b with
    | none => rfl
    | some u =>
      have z := only q
      subst z
      rw [ha] at e
      cases e
      cases (show Data.seq vs.toArray _ = Data.dict es ep from d)
  have nsB : ∀ {b : Addr} {m : Str → Option Value}, s₁.heap.Ns b m → (hidT s₁.heap H).Ns b m := fun {b m} ⟨o, es, ep, e, d, r⟩ => ⟨o, es, ep, hidT_get e (noD e d), d, r⟩
  have KB : K.In (hidT s₁.heap H) := fun b o e => hidT_get (KX b o e) (by
    cases q : H b with
    | none => rfl
    | some u =>
      have z := only q
      subst z
      rw [hK (by rw [q]; exact fun z => nomatch z)] at e
      cases e)
  obtain ⟨mc, c1, c2⟩ := hlim
  have e0 : Env0 P w K mg (hidT s₁.heap H) callerA [] s₁ H := ⟨rfl, ⟨KB, nsB hns, ⟨mb, nsB hb, hbb⟩, ⟨mc, nsB c1, c2⟩⟩, fun b o e => of_hidT e, Nat.le_of_eq (hidT_size _ _), trivial, (fun b z => nomatch z), hok, .of_eq hg⟩
  refine codeAny_mono (F _ KB (nsB hns) callerA [] s₁ H [.ref a] [.ref a] _ E0 hr (fun _ => rfl) e0 (.cons rfl .nil) hsp) fun r s' h => ?_
  cases r with
  | error e => exact False.elim h
  | ok fl =>
    cases fl with
    | next => exact False.elim h
    | brk => exact False.elim h
    | cont => exact False.elim h
    | ret u =>
      obtain ⟨v, H', os, bare, un, hok', r', q⟩ := h
      have q' : v = .bl true := q
      subst q'
      cases (show u = Value.bool true from r')
      refine ⟨rfl, OldK.of_keep fun b o e => ?_, os, bare⟩
      rcases hS b with z | ⟨ob, xs, z⟩
      · exact un.keep b o e z (by intro z; exact absurd (show b ∈ ([] : List Addr) from z) (by simp)) (by simp)
      · obtain ⟨e1, _⟩ := hok b _ z
        obtain ⟨e2, _⟩ := hok' b _ (un.frzs b ob _ z)
        rw [e] at e1
        cases e1
        exact e2
theorem call_law (KX : K.In s₁.heap) (hns : s₁.heap.Ns mainGlobals mg) (hb : s₁.heap.Ns builtinsNs mb) (hbb : ∀ x : Str, x ≠ "__name__" → mb x = bootBuiltins x) (hlim : s₁.heap.NoLimit) (hg : s₁.gens = #[])
    (ha : s₁.heap.get? a = some { cls := .type "list", data := .seq vs.toArray }) (hi : IntsAre vs ns) (hl : ns.length ≤ sizeLine) (hr : Room k callerA)
    (F : ∀ base : Heap, K.In base → base.Ns mainGlobals mg → FnS true P w K mg base k fa sp) (hsp : ∀ H : Hp, Scr K H a ns → sp [.ref a] H (fun v _ => v = .bl true) E0) :
    codeAny (model P w) callerA (.call (.ref fa) ⟨[.ref a], []⟩) (fun r s' => r = .ok (.ret (.bool true)) ∧ OldK s₁.heap s'.heap ∧ s'.os = s₁.os ∧ AllBare s'.gens) s₁ := by
  have rv := vals_ints hi
  have lenV := hi.length
  cases hk : K.lookup a with
  | some o =>
    have e := KX a o hk
    rw [ha] at e
    cases e
    refine call_core (H := fun _ => none) KX hns hb hbb hlim hg ha hr F (hsp _ ⟨.inr ⟨_, vs.toArray, _, hk, rfl, rfl, rfl, by rw [List.size_toArray, lenV]; exact hl, by simpa using rv⟩, fun _ => .inl rfl⟩) (fun _ => .inl rfl) (fun b u z => nomatch z) (fun b z => absurd rfl z) fun z => absurd rfl z
  | none =>
    let ob : Obj := { cls := .type "list", data := .seq vs.toArray }
    let H : Hp := fun b => if b = a then some (.frz ob (.lst (ns.map V.int))) else none
    have h1 : H a = some (.frz ob (.lst (ns.map V.int))) := if_pos rfl
    have h2 : ∀ b, b ≠ a → H b = none := fun b z => if_neg z
    have hF : ∀ b, H b = none ∨ ∃ o xs, H b = some (.frz o (.lst xs)) := fun b => by
      by_cases z : b = a
      · subst z; exact .inr ⟨_, _, h1⟩
      · exact .inl (h2 b z)
    refine call_core (H := H) KX hns hb hbb hlim hg ha hr F (hsp H ⟨.inl (.inr ⟨ob, h1⟩), hF⟩) hF (fun b u z => ?_) (fun b z => ?_) fun _ => hk
    · by_cases q : b = a
      · subst q
        rw [h1] at z
        cases z
        exact ⟨ha, by rw [List.length_map]; exact hl, vs, _, rv, ha⟩
      · rw [h2 b q] at z; cases z
    · by_cases q : b = a
      · exact q
      · exact absurd (h2 b q) z
/-- the end of a law: F gives the written part and the promise over every base -/
theorem walk_end {l : PySem.W.OpenLaw} {n k : Nat} {q : Program} {loose : List Str} {XP : (Str → Option Value) → Heap → Prop} {YP : World → Heap → Prop} {d : DefRec}
    (hn : l.most = some n) (hn2 : n ≤ sizeLine) (hdf : d.params.defaults = []) (hr : Room k callerA)
    (F : ∀ (w : World) (mg : Str → Option Value) (fa : Addr) (h : Heap), YP w h → h.Ns mainGlobals mg → mg d.name = some (.ref fa) → ∃ (K : PySem.W.Frag) (sp : Sp), K.In h ∧
      (∀ (H : Hp) (a : Addr) (ns : List Int), ns.length ≤ n → Scr K H a ns → sp [.ref a] H (fun v _ => v = .bl true) E0) ∧ ∀ base : Heap, K.In base → base.Ns mainGlobals mg → FnS true l.prog w K mg base k fa sp) :
    PySem.W.WalkO q loose XP YP l.row.toRowW d [] (fun f vs => PySem.call f vs) := by
  refine Att.attach_call hn hdf fun w s₀ s₁ mg mb fa o pm cd doc a vs ns G Y ho hd hcd hmg hobj hints hlen hg => ?_
  obtain ⟨K, sp, KX, hsp, hF⟩ := F w mg fa _ Y G.T.g hmg
  exact call_law KX G.T.g G.T.b G.T.builtins G.T.nolimit hg hobj hints (Nat.le_trans hlen hn2) hr hF fun H hS => hsp H a ns hlen hS
end
end DL

set_option maxHeartbeats 4000000
/-! DLr: the laws' own helpers (box, take, pick, alike) and life rows: data, promises. -/
namespace DL
open PySem PySem.Spec PyProof.Rows L2
/-! ### draws -/
def spBox (K : PySem.W.Frag) : Sp := fun vs H Q _ => ∃ (a : Addr) (ns : List Int) (k : Int), vs = [.ref a, .int k] ∧ SqL K H a (ns.map V.int) ∧ 0 ≤ k ∧ k < 1000 ∧
  ∀ p H', H p = none → (∃ o, H' p = some o ∧ isBox o) → (∀ b o, H b = some o → H' b = some o) → Q (.ref p) H'
def spTake (K : PySem.W.Frag) : Sp := spX K (α := Addr × Int) (fun x => some x.1) (fun x => [D.at x.1, .int x.2]) (fun x => 1 ≤ x.2 ∧ x.2 < 1073741824) (fun x d => ∃ n : Int, d = .int n ∧ 0 ≤ n ∧ n < x.2)
def spPick (K : PySem.W.Frag) : Sp := spX K (α := Addr × List D) (fun x => some x.1) (fun x => [D.at x.1, .lst x.2]) (fun x => 0 < x.2.length ∧ x.2.length ≤ 1000) (fun x d => d ∈ x.2)
/-! ### alike -/
mutual
/-- data of lists, tuples, ints, truths and None -/
def plainD : D → Bool
  | .raw .non => true
  | .raw (.bl _) => true
  | .raw (.int _) => true
  | .raw (.str z) => PyData.strOk z
  | .lst xs => plainL xs
  | .tup xs => plainL xs
  | _ => false
def plainL : List D → Bool
  | [] => true
  | x :: xs => plainD x && plainL xs
end
mutual
def sizeD : D → Nat
  | .lst xs => sizeL xs + 1
  | .tup xs => sizeL xs + 1
  | _ => 1
def sizeL : List D → Nat
  | [] => 0
  | x :: xs => sizeD x + sizeL xs
end
mutual
def depD : D → Nat
  | .lst xs => depL xs + 1
  | .tup xs => depL xs + 1
  | _ => 0
def depL : List D → Nat
  | [] => 0
  | x :: xs => max (depD x) (depL xs)
end
def spAlike (K : PySem.W.Frag) : Sp := spX K (α := D) (fun _ => none) (fun x => [x, x]) (fun x => plainD x = true ∧ sizeD x ≤ 1000 ∧ depD x ≤ 50) (fun _ d => d = .bl true)
/-! ### rows of bounds -/
abbrev Row := Option Int × List (Option Int)
def oD : Option Int → D
  | none => .non
  | some i => .int i
def rowD (r : Row) : D := .tup [oD r.1, .tup (r.2.map oD)]
def lrD (C : Addr) (r : Row) : D := .obj C ["key"] [rowD r]
def lesO : Option Int → Option Int → Option Int
  | none, b => b
  | some a, none => some a
  | some a, some b => some (min a b)
def greO : Option Int → Option Int → Option Int
  | none, b => b
  | some a, none => some a
  | some a, some b => some (max a b)
/-- what a row bounds, at given lives -/
def foundF (r : Row) (ls : List Int) : List Int := (List.zipWith (fun (l : Int) (o : Option Int) => o.map fun x => l - x) ls r.2).filterMap id ++ r.1.toList
open Classical in
noncomputable def mn (ns : List Int) : Int := if h : ∃ m, m ∈ ns ∧ ∀ y, y ∈ ns → m ≤ y then Classical.choose h else 0
theorem mn_eq {ns : List Int} {m : Int} (h1 : m ∈ ns) (h2 : ∀ y, y ∈ ns → m ≤ y) : mn ns = m := by
  have h : ∃ m, m ∈ ns ∧ ∀ y, y ∈ ns → m ≤ y := ⟨m, h1, h2⟩
  unfold mn
  rw [dif_pos h]
  have q := Classical.choose_spec h
  have a := q.2 m h1
  have b := h2 _ q.1
  omega
noncomputable def boundF (r : Row) (ls : List Int) : Int := max (-1) (mn (foundF r ls))
def subF (r : Row) (t : Int) : Row := (r.1.map fun l => max (-1) (l - t), r.2.map fun o => o.map fun x => min (x + t) 61)
def andF (a b : Row) : Row := (lesO a.1 b.1, List.zipWith greO a.2 b.2)
/-- one bound that is no lower, in the order that s gives -/
def isLow (s : Int) (x y : Option Int) : Bool := match y with
  | none => true
  | some j => (match x with
    | none => false
    | some i => decide (s * i ≤ s * j))
def belowF (a b : Row) : Bool := isLow 1 a.1 b.1 && (List.zipWith (isLow (-1)) a.2 b.2).all id
def shO : Option Int → Str
  | none => "None"
  | some i => toString i
def shT (os : List (Option Int)) : Str := tupleText (os.map shO)
def reprF (r : Row) : Str := Str.empty ++ "LifeRow(" ++ shO r.1 ++ ", " ++ shT r.2 ++ ")"
/-- what the law draws: n places, small numbers, not all empty -/
structure OkRow (n : Nat) (r : Row) : Prop where
  len : r.2.length = n
  some_ : r.1 ≠ none ∨ ∃ o ∈ r.2, o ≠ none
  le : ∀ i, r.1 = some i → -100 ≤ i ∧ i ≤ 100
  lo : ∀ i, some i ∈ r.2 → -100 ≤ i ∧ i ≤ 100
def spCapped (K : PySem.W.Frag) : Sp := spX K (α := Int) (fun _ => none) (fun x => [.int x]) (fun _ => True) (fun x d => d = .int (min x 61))
def spLesser (K : PySem.W.Frag) : Sp := spX K (α := Option Int × Option Int) (fun _ => none) (fun x => [oD x.1, oD x.2]) (fun _ => True) (fun x d => d = oD (lesO x.1 x.2))
def spGreater (K : PySem.W.Frag) : Sp := spX K (α := Option Int × Option Int) (fun _ => none) (fun x => [oD x.1, oD x.2]) (fun _ => True) (fun x d => d = oD (greO x.1 x.2))
/-- how the losses are given: a tuple, a list, or a list that its maker still changes -/
inductive How where
  | tup | lst | at_ (p : Addr)
def oV : Option Int → V
  | none => .non
  | some i => .int i
def howD (xs : List (Option Int)) : How → D
  | .tup => .tup (xs.map oD)
  | .lst => .lst (xs.map oD)
  | .at_ p => D.at p
/-- __init__'s promise, where a list that its caller owns may be given -/
def spInit (K : PySem.W.Frag) (C : Addr) : Sp := fun vs H Q _ =>
  ∃ (r : Row) (h : How) (F : Hp) (a dx : Addr) (ws : List V), vs = .ref a :: ws ∧ Sub F H ∧ F a = none ∧ H a = some (.ins C dx []) ∧ RpL K F ws [oD r.1, howD r.2 h] ∧ r.2.length ≤ 1000 ∧ (∀ p, h = .at_ p → H p = some (.lst (r.2.map oV))) ∧
    ∀ F' H', Sub F F' → Sub F' H' → (∀ b o, H b = some o → b ≠ a → H' b = some o) → (∀ b, F b = none → H b ≠ none → b ≠ a → F' b = none) → Rp K F' (.ref a) (lrD C r) → Q .non H'
def spCallR (K : PySem.W.Frag) (C : Addr) : Sp := spX K (α := Row × List Int) (fun _ => none) (fun x => [lrD C x.1, .tup (x.2.map D.int)]) (fun x => x.1.2.length = x.2.length ∧ x.2.length ≤ 1000 ∧ 0 < (foundF x.1 x.2).length) (fun x d => d = .int (boundF x.1 x.2))
def spSubR (K : PySem.W.Frag) (C : Addr) : Sp := spX K (α := Row × Int) (fun _ => none) (fun x => [lrD C x.1, .int x.2]) (fun x => x.1.2.length ≤ 1000) (fun x d => d = lrD C (subF x.1 x.2))
def spAndR (K : PySem.W.Frag) (C : Addr) : Sp := spX K (α := Row × Row) (fun _ => none) (fun x => [lrD C x.1, lrD C x.2]) (fun x => x.1.2.length = x.2.2.length ∧ x.1.2.length ≤ 1000) (fun x d => d = lrD C (andF x.1 x.2))
/-- the right of an own ==: a row, or something else -/
def othR (C : Addr) : Row ⊕ D → D
  | .inl r => lrD C r
  | .inr d => d
def spEqR (K : PySem.W.Frag) (C : Addr) : Sp := spX K (α := Row × (Row ⊕ D)) (fun _ => none) (fun x => [lrD C x.1, othR C x.2]) (fun x => ∀ d, x.2 = .inr d → ∃ t, tyD d = some t ∧ t ∈ ["NoneType", "int", "str", "tuple", "list", "bool"])
  (fun x d => d = .bl (match x.2 with | .inl r => decide (x.1 = r) | .inr _ => false))
def spReprR (K : PySem.W.Frag) (C : Addr) : Sp := spX K (α := Nat × Row) (fun _ => none) (fun x => [lrD C x.2]) (fun x => OkRow x.1 x.2 ∧ x.1 ≤ 10) (fun x d => d = .str (reprF x.2))
def spLeftR (K : PySem.W.Frag) (C : Addr) : Sp := spX K (α := Row) (fun _ => none) (fun x => [lrD C x]) (fun _ => True) (fun x d => d = oD x.1)
def spLostR (K : PySem.W.Frag) (C : Addr) : Sp := spX K (α := Row) (fun _ => none) (fun x => [lrD C x]) (fun _ => True) (fun x d => d = .tup (x.2.map oD))
def spBelowR (K : PySem.W.Frag) (C : Addr) : Sp := spX K (α := Row × Row) (fun _ => none) (fun x => [lrD C x.1, lrD C x.2]) (fun x => x.1.2.length = x.2.2.length ∧ x.1.2.length ≤ 1000) (fun x d => d = .bl (belowF x.1 x.2))
/-! ### the laws' own words on rows -/
def spRow (K : PySem.W.Frag) : Sp := spX K (α := Addr × Nat) (fun x => some x.1) (fun x => [D.at x.1, .int x.2]) (fun x => x.2 ≤ 10) (fun x d => ∃ r, OkRow x.2 r ∧ d = rowD r)
def spBound (K : PySem.W.Frag) : Sp := spX K (α := Row × List Int) (fun _ => none) (fun x => [rowD x.1, .tup (x.2.map D.int)]) (fun x => x.1.2.length = x.2.length ∧ x.2.length ≤ 1000 ∧ 0 < (foundF x.1 x.2).length) (fun x d => d = .int (boundF x.1 x.2))
def spParts (K : PySem.W.Frag) (C : Addr) : Sp := spX K (α := Row) (fun _ => none) (fun x => [lrD C x]) (fun _ => True) (fun x d => d = rowD x)
def spLess (K : PySem.W.Frag) : Sp := spX K (α := Row × Int) (fun _ => none) (fun x => [rowD x.1, .int x.2]) (fun x => x.1.2.length ≤ 1000) (fun x d => d = rowD (subF x.1 x.2))
def spWorse (K : PySem.W.Frag) : Sp := spX K (α := Option Int × Option Int × Bool) (fun _ => none) (fun x => [oD x.1, oD x.2.1, .int (if x.2.2 then 1 else -1)]) (fun _ => True) (fun x d => d = oD (if x.2.2 then lesO x.1 x.2.1 else greO x.1 x.2.1))
def spLeast (K : PySem.W.Frag) : Sp := spX K (α := Row × Row) (fun _ => none) (fun x => [rowD x.1, rowD x.2]) (fun x => x.1.2.length = x.2.2.length ∧ x.1.2.length ≤ 1000) (fun x d => d = rowD (andF x.1 x.2))
def spBelow (K : PySem.W.Frag) : Sp := spX K (α := Row × Row) (fun _ => none) (fun x => [rowD x.1, rowD x.2]) (fun x => x.1.2.length = x.2.2.length ∧ x.1.2.length ≤ 1000) (fun x d => d = .bl (belowF x.1 x.2))
def spNear (K : PySem.W.Frag) : Sp := spX K (α := Addr × Nat × Row) (fun x => some x.1) (fun x => [D.at x.1, rowD x.2.2]) (fun x => OkRow x.2.1 x.2.2 ∧ x.2.1 ≤ 10) (fun x d => ∃ r, OkRow x.2.1 r ∧ d = rowD r)
def spPair (K : PySem.W.Frag) : Sp := spX K (α := Addr × Nat × Row × Row) (fun x => some x.1) (fun x => [D.at x.1, rowD x.2.2.1, rowD x.2.2.2]) (fun x => OkRow x.2.1 x.2.2.1 ∧ OkRow x.2.1 x.2.2.2 ∧ x.2.1 ≤ 10) (fun _ d => d = .bl true)
def spLaw (K : PySem.W.Frag) : Sp := fun vs H Q _ => ∃ (a : Addr) (ns : List Int), vs = [.ref a] ∧ Scr K H a ns ∧ ns.length ≤ 1000 ∧ ∀ H', Q (.bl true) H'

section
variable {E : Eb} {G : List (Option D)} {O : List (Addr × List D)} {S S0 : List (V × D)} {F F' H H' : Hp} {σ : L2.St} {v x y : V} {d e : D} {Q : VK} {xs : List (Option Int)}
theorem Rp.oV {K : PySem.W.Frag} (o : Option Int) : Rp K F (oV o) (oD o) := by cases o <;> exact .raw _
theorem RpL.oV {K : PySem.W.Frag} : ∀ xs : List (Option Int), RpL K F (xs.map DL.oV) (xs.map oD)
  | [] => .nil
  | o :: xs => .cons (Rp.oV o) (RpL.oV xs)
theorem RpL.oV_eq {K : PySem.W.Frag} : ∀ {xs : List (Option Int)} {us : List V}, RpL K F us (xs.map oD) → us = xs.map DL.oV
  | [], _, h => h.nil_eq
  | o :: xs, _, h => by
    obtain ⟨v, ws, rfl, r1, r2⟩ := h.cons_of
    have e : v = DL.oV o := by cases o <;> exact r1.raw_eq
    rw [e, RpL.oV_eq r2]; rfl
theorem x_tupleAt {p : Addr} (fo : FO E G O ((x, D.at p) :: S) F σ H) (h : H p = some (.lst (xs.map oV))) (k : ∀ v F' H', FO E G O ((v, .tup (xs.map oD)) :: S) F' σ H' → Q v H') : cTuple E.K [x] H Q := by
  have e := fo.top.raw_eq; subst e
  exact ⟨p, _, rfl, .inl ⟨SqL.of h, fun l hl => k _ _ _ (fo.pop.newT hl (RpL.oV xs))⟩⟩
theorem x_tupleHow {h : How} (fo : FO E G O ((x, howD xs h) :: S) F σ H) (hat : ∀ p, h = .at_ p → H p = some (.lst (xs.map oV))) (k : ∀ v F' H', FO E G O ((v, .tup (xs.map oD)) :: S) F' σ H' → Q v H') : cTuple E.K [x] H Q := by
  cases h with
  | tup => exact x_tupleOf fo (.inl rfl) k
  | lst => exact x_tupleOf fo (.inr (.inl rfl)) k
  | at_ p => exact x_tupleAt fo (hat p rfl) k
/-- .. making: x_kMake's form for this promise -/
theorem x_kInit (r : Row) (h : How) {C : Addr} {vs : List V} {ds : List D} (fo : FO E G O S F σ H) (t : Taken S vs ds S0) (ha : ds = [oD r.1, howD r.2 h]) (hl : r.2.length ≤ 1000) (hat : ∀ p, h = .at_ p → (p, r.2.map oD) ∈ O) (k : ∀ p F' H', FO E G O ((.ref p, lrD C r) :: S0) F' σ H' → Q (.ref p) H') : kMake C (spInit E.K C) Q vs H := by
  have q := x_kMake (α := Unit) (E := E) (arg := fun _ => [oD r.1, howD r.2 h]) (pre := fun _ => True) (ns := ["key"]) (key := fun _ => [rowD r]) (C := C) () fo t ha trivial k
  intro p dx h1 h2 h3
  obtain ⟨_, F1, a, dx', ws, e, s1, fa, hA, rl, _, kk⟩ := q p dx h1 h2 h3
  refine ⟨r, h, F1, a, dx', ws, e, s1, fa, hA, rl, hl, fun z hz => ?_, kk⟩
  obtain ⟨us, hz2, ru, _, _, _⟩ := fo.own _ (hat z hz)
  have eu : us = r.2.map oV := RpL.oV_eq ru
  subst eu
  have hz3 : H z = some (.lst (r.2.map oV)) := hz2
  rw [upd_ne (ne_of_none hz3 h1), upd_ne (ne_of_none hz3 h2)]
  exact hz3
end
end DL

set_option maxHeartbeats 4000000
/-! DLs: comprehensions whose turns are told by a function of the item. -/
namespace DL
open PySem PySem.Spec PyProof.Rows L2
theorem is_Tup {Q : VK} {vs : List V} {H : Hp} (h : kTup Q vs H) : kTup Q vs H := h
theorem is_Lst {Q : VK} {vs : List V} {H : Hp} (h : kLst Q vs H) : kLst Q vs H := h
theorem is_LstO {Q : VK} {vs : List V} {H : Hp} (h : kLstO Q vs H) : kLstO Q vs H := h
theorem range_fm {α β : Type} (f : α → Option β) : ∀ (xs : List α) (n : Nat), n ≤ xs.length → (List.range n).filterMap (fun i => xs[i]?.bind f) = (xs.take n).filterMap f
  | xs, 0, _ => by simp
  | xs, n + 1, h => by
    rw [List.range_succ, List.filterMap_append, range_fm f xs n (by omega)]
    have hn : n < xs.length := by omega
    rw [List.take_succ, List.filterMap_append, List.getElem?_eq_getElem hn]
    simp [List.getElem?_eq_getElem hn, List.filterMap]
section
variable {E : Eb} {G : List (Option D)} {O : List (Addr × List D)} {S S0 Sx : List (V × D)} {F F' H H' : Hp} {σ : L2.St} {v x y : V} {d e : D} {Q : VK} {tt : TT} {te : TE} {ws : List Nat}
/-- how a turn may end: with an item, without one -/
structure TE2 (E : Eb) (G : List (Option D)) (O : List (Addr × List D)) (S : List (V × D)) (p : Addr) (acc : List D) (σ2 : L2.St) (Nx : Hp → Prop) (o : Option D) : Prop where
  item : ∀ y d F H, o = some d → FO E G ((p, acc) :: O) ((y, d) :: S) F σ2 H → kEnd p Nx y H
  skip : ∀ F H, o = none → FO E G ((p, acc) :: O) S F σ2 H → Nx H
theorem wipe_in {σ : L2.St} {ws : List Nat} {j : Nat} {u : Option V} (h : j ∈ ws) : wipe ((wipe σ ws).set j u) ws = wipe σ ws := by rw [wipe_set h, wipe_twice]
theorem wipe_in2 {σ : L2.St} {ws : List Nat} {i j : Nat} {u w : Option V} (h1 : i ∈ ws) (h2 : j ∈ ws) : wipe (((wipe σ ws).set i u).set j w) ws = wipe σ ws := by rw [wipe_set h2, wipe_set h1, wipe_twice]
theorem wipeG_set {u : Option D} {G : List (Option D)} : ∀ {ws : List Nat} {j : Nat}, j ∈ ws → wipeG (G.set j u) ws = wipeG G ws
  | k :: r, j, h => by
    unfold wipeG
    by_cases hr : j ∈ r
    · rw [wipeG_set hr]
    · rcases List.mem_cons.mp h with z | z
      · subst z
        have e : ∀ (r : List Nat) (τ : List (Option D)), j ∉ r → wipeG (τ.set j u) r = (wipeG τ r).set j u := by
          intro r
          induction r with
          | nil => intro τ _; rfl
          | cons m r ih =>
            intro τ hm
            rw [List.mem_cons, not_or] at hm
            unfold wipeG
            rw [ih τ hm.2, List.set_comm _ _ (fun q => hm.1 q)]
        rw [e r G hr, List.set_set]
      · exact absurd z hr
theorem wipeG_twice (ws : List Nat) (G : List (Option D)) : wipeG (wipeG G ws) ws = wipeG G ws := by
  have gen : ∀ (r : List Nat) (τ : List (Option D)), (∀ j ∈ r, j ∈ ws) → wipeG (wipeG τ r) ws = wipeG τ ws := by
    intro r
    induction r with
    | nil => intro τ _; rfl
    | cons m r ih =>
      intro τ h
      show wipeG ((wipeG τ r).set m none) ws = _
      rw [wipeG_set (h m List.mem_cons_self)]
      exact ih τ fun j hj => h j (List.mem_cons_of_mem _ hj)
  exact gen ws G fun _ h => h
/-- [te for x in xs if tt] -/
theorem x_lcS {α : Type} {xs : List α} (A : α → D) (gf : α → Option D) {J : It} {j : Nat} (dw : DW E.K J xs.length (itOf (xs.map A)) Sx) (fo : FO E G O (Sx ++ S) F σ H) (hn : xs.length ≤ 1000) (hj : j ∈ ws)
    (hs : ∀ p acc F' H' σ2 x Nx, x ∈ xs → FO E ((wipeG G ws).set j (some (A x))) ((p, acc) :: O) (Sx ++ S) F' σ2 H' → TE2 E ((wipeG G ws).set j (some (A x))) O (Sx ++ S) p acc σ2 Nx (gf x) → tt σ2 H' fun b H3 => if b = true then te σ2 H3 (kEnd p Nx) else Nx H3)
    (hd : ∀ p F' H', FO E (wipeG G ws) ((p, xs.filterMap gf) :: O) S F' σ H' → Q (.ref p) H') : kLc (gName j) tt te ws σ Q J H := by
  refine x_lcGo (fun i acc => acc = (List.range i).filterMap fun i => xs[i]?.bind gf) dw fo (fun z hz => List.mem_append_left _ hz) (by omega) rfl (fun p i acc F' H' v τ hτ hi hacc hl fo => ?_) (fun p acc F' H' hacc _ fo => hd p F' H' ?_)
  · subst hτ
    have e : xs[i]? = some xs[i] := List.getElem?_eq_getElem hi
    have e2 : itOf (xs.map A) i = A xs[i] := itOf_some (by rw [List.getElem?_map, e]; rfl)
    rw [e2] at fo
    refine x_gnameK fo fun fo => ⟨wipe_in hj, ?_⟩
    refine hs p acc F' H' _ xs[i] _ (List.getElem_mem hi) fo ⟨fun y d F H hd fo => ?_, fun F H hd fo => ?_⟩
    · exact x_kEnd fo hl (by omega) (wipe_in hj) (by rw [wipeG_set hj, wipeG_twice]) (by rw [hacc, List.range_succ, List.filterMap_append]; simp [e, hd, List.filterMap])
    · exact x_kSkip fo hl (wipe_in hj) (by rw [wipeG_set hj, wipeG_twice]) (by rw [hacc, List.range_succ, List.filterMap_append]; simp [e, hd, List.filterMap])
  · rw [hacc, range_fm gf xs _ (Nat.le_refl _), List.take_of_length_le (Nat.le_refl _)] at fo
    exact fo.weakS fun z hz => List.mem_append_right _ hz
theorem pair_at {α β : Type} {as : List α} {bs : List β} (A : α → D) (B : β → D) {i : Nat} (h : i < min as.length bs.length) : ∃ a b, (as.zip bs)[i]? = some (a, b) ∧ pairD (as.map A) (bs.map B) i = .tup [A a, B b] := by
  have h1 : i < as.length := by omega
  have h2 : i < bs.length := by omega
  refine ⟨as[i], bs[i], ?_, ?_⟩
  · rw [List.getElem?_eq_getElem (by rw [List.length_zip]; exact h)]; simp
  · unfold pairD
    rw [itOf_some (d := A as[i]) (by rw [List.getElem?_map, List.getElem?_eq_getElem h1]; rfl), itOf_some (d := B bs[i]) (by rw [List.getElem?_map, List.getElem?_eq_getElem h2]; rfl)]
/-- [te for x, y in zip(as, bs) if tt] -/
theorem x_lcZ {α β : Type} {as : List α} {bs : List β} (A : α → D) (B : β → D) (gf : α × β → Option D) {J : It} {i j : Nat} {K : PySem.W.Frag} (dw : DW E.K J (min (as.map A).length (bs.map B).length) (pairD (as.map A) (bs.map B)) Sx) (fo : FO E G O (Sx ++ S) F σ H)
    (hn : as.length ≤ 1000) (hi : i ∈ ws) (hj : j ∈ ws)
    (hs : ∀ p acc F' H' σ2 a b Nx, (a, b) ∈ as.zip bs → FO E (((wipeG G ws).set i (some (A a))).set j (some (B b))) ((p, acc) :: O) (Sx ++ S) F' σ2 H' → TE2 E (((wipeG G ws).set i (some (A a))).set j (some (B b))) O (Sx ++ S) p acc σ2 Nx (gf (a, b)) → tt σ2 H' fun c H3 => if c = true then te σ2 H3 (kEnd p Nx) else Nx H3)
    (hd : ∀ p F' H', FO E (wipeG G ws) ((p, (as.zip bs).filterMap gf) :: O) S F' σ H' → Q (.ref p) H') : kLc (gTup K 2 (gCons (gName i) (gCons (gName j) gNil))) tt te ws σ Q J H := by
  rw [List.length_map, List.length_map] at dw
  refine x_lcGo (fun i acc => acc = (List.range i).filterMap fun i => (as.zip bs)[i]?.bind gf) dw fo (fun z hz => List.mem_append_left _ hz) (by omega) rfl (fun p m acc F' H' v τ hτ hm hacc hl fo => ?_) (fun p acc F' H' hacc _ fo => hd p F' H' ?_)
  · subst hτ
    obtain ⟨a, b, e, e2⟩ := pair_at A B hm
    rw [e2] at fo
    refine x_gtup2 fo fun v1 v2 fo => x_gcons (x_gnameK fo fun fo => x_gcons (x_gnameK fo fun fo => x_gnil rfl ⟨wipe_in2 hi hj, ?_⟩))
    refine hs p acc F' H' _ a b _ (List.mem_of_getElem? e) fo ⟨fun y d F H hd fo => ?_, fun F H hd fo => ?_⟩
    · exact x_kEnd fo hl (by omega) (wipe_in2 hi hj) (by rw [wipeG_set hj, wipeG_set hi, wipeG_twice]) (by rw [hacc, List.range_succ, List.filterMap_append]; simp [e, hd, List.filterMap])
    · exact x_kSkip fo hl (wipe_in2 hi hj) (by rw [wipeG_set hj, wipeG_set hi, wipeG_twice]) (by rw [hacc, List.range_succ, List.filterMap_append]; simp [e, hd, List.filterMap])
  · have hz : min as.length bs.length = (as.zip bs).length := (List.length_zip).symm
    rw [hacc, hz, range_fm gf _ _ (Nat.le_refl _), List.take_of_length_le (Nat.le_refl _)] at fo
    exact fo.weakS fun z hz => List.mem_append_right _ hz
end
theorem fm_some {α β : Type} (f : α → β) : ∀ xs : List α, xs.filterMap (fun o => some (f o)) = xs.map f
  | [] => rfl
  | x :: xs => by rw [List.filterMap_cons, List.map_cons, fm_some f xs]
theorem found_fm : ∀ (ls : List Int) (os : List (Option Int)), (ls.zip os).filterMap (fun z => z.2.map fun x => D.int (z.1 - x)) = ((List.zipWith (fun (l : Int) (o : Option Int) => o.map fun x => l - x) ls os).filterMap id).map D.int
  | [], _ => by simp
  | _ :: _, [] => by simp
  | l :: ls, o :: os => by
    rw [List.zip_cons_cons, List.zipWith_cons_cons, List.filterMap_cons, List.filterMap_cons, found_fm ls os]
    cases o <;> rfl
theorem zip_gre (f : Option Int → Option Int → Option Int) : ∀ (as bs : List (Option Int)), (as.zip bs).filterMap (fun z => some (oD (f z.1 z.2))) = (List.zipWith f as bs).map oD
  | [], _ => by simp
  | _ :: _, [] => by simp
  | a :: as, b :: bs => by
    rw [List.zip_cons_cons, List.zipWith_cons_cons, List.filterMap_cons, zip_gre f as bs]; rfl
end DL

set_option maxHeartbeats 4000000
/-! DLt: rows as == and repr see them. -/
namespace DL
open PySem PySem.Spec PyProof.Rows L2
def oPy : Option Int → PyData
  | none => .none
  | some i => .int i
def rowP (r : Row) : PyData := .tuple [oPy r.1, .tuple (r.2.map oPy)]
theorem toPy_oD (o : Option Int) : toPy (oD o) = some (oPy o) := by cases o <;> rfl
theorem toPyL_oD : ∀ xs : List (Option Int), toPyL (xs.map oD) = some (xs.map oPy)
  | [] => rfl
  | o :: xs => by rw [List.map_cons, toPyL, toPy_oD, toPyL_oD xs]; rfl
theorem toPy_tup (xs : List (Option Int)) : toPy (.tup (xs.map oD)) = some (.tuple (xs.map oPy)) := by rw [toPy, toPyL_oD]; rfl
theorem toPy_rowD (r : Row) : toPy (rowD r) = some (rowP r) := by
  unfold rowD rowP
  rw [toPy, toPyL, toPyL, toPyL, toPy_oD, toPy_tup]; rfl
theorem lay_oPy (o : Option Int) : (oPy o).canLay0 = true := by cases o <;> rfl
theorem layA_oPy : ∀ xs : List (Option Int), PyData.canLayAll0 (xs.map oPy) = true
  | [] => rfl
  | o :: xs => by rw [List.map_cons, PyData.canLayAll0, lay_oPy, layA_oPy xs]; rfl
theorem dep_oPy (o : Option Int) : (oPy o).depth = 0 := by cases o <;> rfl
theorem depA_oPy : ∀ xs : List (Option Int), PyData.depthAll (xs.map oPy) = 0
  | [] => rfl
  | o :: xs => by rw [List.map_cons, PyData.depthAll, dep_oPy, depA_oPy xs]; rfl
theorem shaped_row (r : Row) : SeqAt.shaped (rowP r) = true := by
  unfold SeqAt.shaped rowP
  simp [PyData.canLay0, PyData.canLayAll0, lay_oPy, layA_oPy, PyData.depth, PyData.depthAll, dep_oPy, depA_oPy]
theorem eqv_oPy (a b : Option Int) : PyData.eqv (oPy a) (oPy b) = decide (a = b) := by
  cases a with
  | none => cases b with
    | none => rfl
    | some j => rfl
  | some i => cases b with
    | none => rfl
    | some j =>
      rw [oPy, oPy, eqv_int]
      by_cases h : i = j
      · subst h; simp
      · simp [h]
theorem eqvA_oPy : ∀ as bs : List (Option Int), PyData.eqvAll (as.map oPy) (bs.map oPy) = decide (as = bs)
  | [], [] => rfl
  | [], _ :: _ => by simp [PyData.eqvAll]
  | _ :: _, [] => by simp [PyData.eqvAll]
  | a :: as, b :: bs => by
    rw [List.map_cons, List.map_cons, PyData.eqvAll, eqv_oPy, eqvA_oPy as bs]
    by_cases h : a = b <;> by_cases q : as = bs <;> simp [h, q]
theorem eqv_row (a b : Row) : PyData.eqv (rowP a) (rowP b) = decide (a = b) := by
  obtain ⟨a1, a2⟩ := a
  obtain ⟨b1, b2⟩ := b
  unfold rowP
  rw [PyData.eqv, PyData.eqvAll, PyData.eqvAll, PyData.eqvAll, eqv_oPy, PyData.eqv, eqvA_oPy]
  by_cases h : a1 = b1 <;> by_cases q : a2 = b2 <;> simp [h, q]
/-! ### repr -/
theorem int_len {i : Int} (h1 : -100 ≤ i) (h2 : i ≤ 100) : ((toString i : String) : Str).length ≤ 4 := by
  have key : ∀ n : Fin 201, ((toString ((n.val : Int) - 100) : String) : Str).length ≤ 4 := by decide +kernel
  have q := key ⟨(i + 100).toNat, by omega⟩
  have e : (((i + 100).toNat : Nat) : Int) - 100 = i := by omega
  simp only [e] at q
  exact q
theorem shO_eq (o : Option Int) : (oPy o).shown = shO o := by cases o <;> rfl
theorem shA_eq : ∀ xs : List (Option Int), PyData.shownAll (xs.map oPy) = xs.map shO
  | [] => rfl
  | o :: xs => by rw [List.map_cons, PyData.shownAll, shO_eq, shA_eq xs]; rfl
theorem shO_len {o : Option Int} (h : ∀ i, o = some i → -100 ≤ i ∧ i ≤ 100) : (shO o).length ≤ 4 := by
  cases o with
  | none => decide +kernel
  | some i => exact int_len (h i rfl).1 (h i rfl).2
theorem piled_shO : ∀ {xs : List (Option Int)}, (∀ i, some i ∈ xs → -100 ≤ i ∧ i ≤ 100) → piled (xs.map shO) ≤ 6 * xs.length
  | [], _ => Nat.zero_le _
  | o :: xs, h => by
    have a := shO_len (o := o) fun i e => h i (by rw [e]; exact List.mem_cons_self)
    have b := piled_shO (xs := xs) fun i hi => h i (List.mem_cons_of_mem _ hi)
    rw [List.map_cons, piled_cons, List.length_cons]
    omega
theorem shT_len {xs : List (Option Int)} (h : ∀ i, some i ∈ xs → -100 ≤ i ∧ i ≤ 100) : (shT xs).length ≤ 6 * xs.length + 2 := by
  have a := fmt_text (xs.map shO)
  have b := piled_shO h
  unfold shT
  omega
theorem shw_oPy {o : Option Int} (h : ∀ i, o = some i → -100 ≤ i ∧ i ≤ 100) : (oPy o).showable = true := by
  cases o with
  | none => rfl
  | some i =>
    have := h i rfl
    show decide (i.natAbs.log2 < 1920) = true
    refine decide_eq_true (Nat.lt_of_le_of_lt ?_ (by decide : 7 < 1920))
    by_cases z : i.natAbs = 0
    · rw [z]; decide
    · have q : i.natAbs ≤ 100 := by omega
      have q2 : i.natAbs < 2 ^ 8 := Nat.lt_of_le_of_lt q (by decide)
      have q3 : i.natAbs.log2 < 8 := (Nat.log2_lt z).mpr q2
      omega
theorem shwA_oPy : ∀ {xs : List (Option Int)}, (∀ i, some i ∈ xs → -100 ≤ i ∧ i ≤ 100) → PyData.showableAll (xs.map oPy) = true
  | [], _ => rfl
  | o :: xs, h => by
    rw [List.map_cons, PyData.showableAll, shw_oPy (o := o) fun i e => h i (by rw [e]; exact List.mem_cons_self), shwA_oPy (xs := xs) fun i hi => h i (List.mem_cons_of_mem _ hi)]; rfl
theorem noDict_oPy (o : Option Int) : (oPy o).hasDict = false := by cases o <;> rfl
theorem noDictA_oPy : ∀ xs : List (Option Int), PyData.hasDictAll (xs.map oPy) = false
  | [] => rfl
  | o :: xs => by rw [List.map_cons, PyData.hasDictAll, noDict_oPy, noDictA_oPy xs]; rfl
theorem shwD_o {o : Option Int} (h : ∀ i, o = some i → -100 ≤ i ∧ i ≤ 100) : ShwD (oD o) (shO o) := by
  refine ⟨oPy o, toPy_oD o, ?_, shw_oPy h, noDict_oPy o, by rw [dep_oPy]; omega, ?_, (shO_eq o).symm⟩
  · cases o with
    | none => exact .inl rfl
    | some i => exact .inr (.inl ⟨i, rfl⟩)
  · rw [shO_eq]; have := shO_len h; omega
theorem shwD_t {xs : List (Option Int)} (h : ∀ i, some i ∈ xs → -100 ≤ i ∧ i ≤ 100) (hl : xs.length ≤ 10) : ShwD (.tup (xs.map oD)) (shT xs) := by
  have e : (PyData.tuple (xs.map oPy)).shown = shT xs := by rw [PyData.shown, shA_eq]; rfl
  refine ⟨.tuple (xs.map oPy), toPy_tup xs, .inr (.inr (.inl ⟨_, rfl⟩)), ?_, ?_, ?_, ?_, e.symm⟩
  · rw [PyData.showable]; exact shwA_oPy h
  · rw [PyData.hasDict]; exact noDictA_oPy xs
  · rw [PyData.depth, depA_oPy]; decide
  · rw [e]; have := shT_len h; omega
end DL

set_option maxHeartbeats 4000000
/-! DLu: the box of draws, the script. -/
namespace DL
open PySem PySem.Spec PyProof.Rows L2
section
variable {E : Eb} {G : List (Option D)} {O : List (Addr × List D)} {S S0 : List (V × D)} {F F' H H' : Hp} {σ : L2.St} {v x y w : V} {d e : D} {Q : VK} {b a : Addr} {ns : List Int}
theorem FO.boxed {o : HO} (fo : FO E G O S F σ H) (hM : E.M = some b) (ho : E.B o) : FO E G O S F σ (upd H b o) := by
  have fb : F b = none := fo.bx b hM
  refine ⟨⟨fo.st.ff, fun a u e => ?_, fun a u e m => ?_, fo.st.new, fun c q => ?_⟩, fo.bx, fo.len, fo.slot, fo.stk, fun p hp => ?_, fo.nd⟩
  · rw [upd_ne (fun z => by rw [z, fb] at e; cases e)]; exact fo.sub a u e
  · rw [upd_ne (fun z => m (by rw [z]; exact hM))]; exact fo.st.keep a u e m
  · rw [hM] at q; cases q; exact ⟨o, upd_same, ho⟩
  · obtain ⟨us, h1, h2, h3, h4, h5⟩ := fo.own p hp
    exact ⟨us, by rw [upd_ne (fun z => h5 (by rw [z]; exact hM))]; exact h1, h2, h3, h4, h5⟩
theorem FO.boxAt (fo : FO E G O S F σ H) (hM : E.M = some b) (hB : E.B = isBox) : ∃ n s c : Int, H b = some (.lst [.int n, .int s, .int c]) := by
  obtain ⟨o, h, q⟩ := fo.box b hM
  rw [hB] at q
  cases o with
  | lst xs => obtain ⟨n, s, c, rfl⟩ := (show ∃ n s c : Int, xs = [.int n, .int s, .int c] from q); exact ⟨n, s, c, h⟩
  | _ => exact False.elim q
theorem x_ixB {i : Int} (fo : FO E G O ((y, .raw (.int i)) :: (x, D.at b) :: S) F σ H) (hM : E.M = some b) (hB : E.B = isBox) (hi : i = 0 ∨ i = 1 ∨ i = 2) (k : ∀ n : Int, FO E G O ((.int n, .raw (.int n)) :: S) F σ H → Q (.int n) H) : rIx E.K x y H Q := by
  obtain ⟨n, s, c, h⟩ := fo.boxAt hM hB
  have e1 := fo.top.raw_eq
  have e2 := fo.snd.raw_eq
  subst e1 e2
  rcases hi with rfl | rfl | rfl
  · exact .inl ⟨b, _, 0, .int n, rfl, rfl, SqL.of h, rfl, k n (fo.pop.pop.push (.raw _))⟩
  · exact .inl ⟨b, _, 1, .int s, rfl, rfl, SqL.of h, rfl, k s (fo.pop.pop.push (.raw _))⟩
  · exact .inl ⟨b, _, 2, .int c, rfl, rfl, SqL.of h, rfl, k c (fo.pop.pop.push (.raw _))⟩
theorem x_setB {i j : Int} {Z : L2.St → Hp → Prop} (fo : FO E G O ((y, .raw (.int i)) :: (x, D.at b) :: (w, .raw (.int j)) :: S) F σ H) (hM : E.M = some b) (hB : E.B = isBox) (hi : i = 0 ∨ i = 1 ∨ i = 2) (k : ∀ H', FO E G O S F σ H' → Z σ H') : rSetL x y w H (fun H3 => Z σ H3) := by
  obtain ⟨n, s, c, h⟩ := fo.boxAt hM hB
  have e1 := fo.top.raw_eq
  have e2 := fo.snd.raw_eq
  have e3 := fo.pop.pop.top.raw_eq
  subst e1 e2 e3
  have f0 := fo.pop.pop.pop
  have q : ∀ xs : List V, (∃ n s c : Int, xs = [.int n, .int s, .int c]) → Z σ (upd H b (.lst xs)) := fun xs hx => k _ (f0.boxed hM (by rw [hB]; exact hx))
  rcases hi with rfl | rfl | rfl
  · exact ⟨b, _, 0, _, rfl, rfl, h, rfl, q _ ⟨j, s, c, rfl⟩⟩
  · exact ⟨b, _, 1, _, rfl, rfl, h, rfl, q _ ⟨n, j, c, rfl⟩⟩
  · exact ⟨b, _, 2, _, rfl, rfl, h, rfl, q _ ⟨n, s, j, rfl⟩⟩
/-! ### the script -/
theorem FO.script (fo : FO E G O S F σ H) (hM : E.M = none) (h : SqL E.K E.H0 a (ns.map V.int)) : SqL E.K H a (ns.map V.int) := by
  have q : ∀ u, E.H0 a = some u → H a = some u := fun u e => fo.st.keep a u e (by rw [hM]; exact fun z => nomatch z)
  rcases h with h | h
  · rcases h with h | ⟨o, h⟩
    · exact .inl (.inl (q _ h))
    · exact .inl (.inr ⟨o, q _ h⟩)
  · exact .inr h
theorem x_lenS (fo : FO E G O ((x, D.at a) :: S) F σ H) (hM : E.M = none) (h : SqL E.K E.H0 a (ns.map V.int)) (k : FO E G O ((.int (ns.length : Int), .raw (.int (ns.length : Int))) :: S) F σ H → Q (.int (ns.length : Int)) H) : cLen E.K [x] H Q := by
  have e := fo.top.raw_eq; subst e
  refine ⟨_, ns.length, rfl, .inl ⟨_, fo.script hM h, by rw [List.length_map]⟩, k (fo.pop.push (.raw _))⟩
theorem x_ixS {i : Int} (fo : FO E G O ((y, .raw (.int i)) :: (x, D.at a) :: S) F σ H) (hM : E.M = none) (h : SqL E.K E.H0 a (ns.map V.int)) (h0 : 0 ≤ i) (h1 : i < ns.length) (k : ∀ n : Int, FO E G O ((.int n, .raw (.int n)) :: S) F σ H → Q (.int n) H) : rIx E.K x y H Q := by
  have e1 := fo.top.raw_eq
  have e2 := fo.snd.raw_eq
  subst e1 e2
  have hj : i.toNat < ns.length := by omega
  refine .inl ⟨a, _, i, .int ns[i.toNat], rfl, rfl, fo.script hM h, ?_, k _ (fo.pop.pop.push (.raw _))⟩
  exact at_of (j := i.toNat) (by omega) (by rw [List.getElem?_map, List.getElem?_eq_getElem hj]; rfl)
theorem atI_nn {α : Type} {xs : List α} {i : Int} {z : α} (h0 : 0 ≤ i) (h : xs[i.toNat]? = some z) : L2.atI xs i = some z := by
  have hj : i.toNat < xs.length := (List.getElem?_eq_some_iff.mp h).1
  unfold L2.atI L2.ixN
  rw [if_pos h0, if_pos (by omega)]
  exact h
theorem is_Len {K : PySem.W.Frag} {vs : List V} (h : cLen K vs H Q) : cLen K vs H Q := h
end
end DL

set_option maxHeartbeats 4000000
/-! DLv: plain data as == sees them, pairs; boxes within a body. -/
namespace DL
open PySem PySem.Spec PyProof.Rows L2
mutual
theorem plain_py : ∀ {d : D}, plainD d = true → ∃ p, toPy d = some p ∧ p.canLay0 = true ∧ p.depth = depD d
  | .raw .non, _ => ⟨.none, rfl, rfl, rfl⟩
  | .raw (.bl b), _ => ⟨.bool b, rfl, rfl, rfl⟩
  | .raw (.int b), _ => ⟨.int b, rfl, rfl, rfl⟩
  | .raw (.str b), h => ⟨.str b, rfl, h, rfl⟩
  | .lst xs, h => by
    rw [plainD] at h
    obtain ⟨ps, e, c, q⟩ := plain_pyL (xs := xs) h
    exact ⟨.list ps, by rw [toPy, e]; rfl, by rw [PyData.canLay0]; exact c, by rw [PyData.depth, depD, q]⟩
  | .tup xs, h => by
    rw [plainD] at h
    obtain ⟨ps, e, c, q⟩ := plain_pyL (xs := xs) h
    exact ⟨.tuple ps, by rw [toPy, e]; rfl, by rw [PyData.canLay0]; exact c, by rw [PyData.depth, depD, q]⟩
theorem plain_pyL : ∀ {xs : List D}, plainL xs = true → ∃ ps, toPyL xs = some ps ∧ PyData.canLayAll0 ps = true ∧ PyData.depthAll ps = depL xs
  | [], _ => ⟨[], rfl, rfl, rfl⟩
  | x :: xs, h => by
    rw [plainL, Bool.and_eq_true_iff] at h
    obtain ⟨p, e, c, q⟩ := plain_py (d := x) h.1
    obtain ⟨ps, es, cs, qs⟩ := plain_pyL (xs := xs) h.2
    exact ⟨p :: ps, by rw [toPyL, e, es], by rw [PyData.canLayAll0, c, cs]; rfl, by rw [PyData.depthAll, depL, q, qs]⟩
end
/-- a pair of one datum with itself -/
def twin (d : D) : D := .tup [d, d]
def sumS : List D → Nat
  | [] => 0
  | x :: xs => sizeD x + sumS xs
theorem sumS_append : ∀ xs ys : List D, sumS (xs ++ ys) = sumS xs + sumS ys
  | [], ys => by simp [sumS]
  | x :: xs, ys => by rw [List.cons_append, sumS, sumS, sumS_append xs ys]; omega
theorem sizeL_sum : ∀ xs : List D, sizeL xs = sumS xs
  | [] => rfl
  | x :: xs => by rw [sizeL, sumS, sizeL_sum xs]
theorem plainL_mem : ∀ {xs : List D}, plainL xs = true → ∀ x ∈ xs, plainD x = true
  | [], _, x, hx => nomatch hx
  | y :: xs, h, x, hx => by
    rw [plainL, Bool.and_eq_true_iff] at h
    rcases List.mem_cons.mp hx with z | z
    · rw [z]; exact h.1
    · exact plainL_mem h.2 x z
theorem depL_mem : ∀ {xs : List D} {x : D}, x ∈ xs → depD x ≤ depL xs
  | [], _, h => nomatch h
  | y :: xs, x, h => by
    rw [depL]
    rcases List.mem_cons.mp h with z | z
    · subst z; omega
    · have := depL_mem z; omega
theorem pair_twin (xs : List D) : (List.range xs.length).map (pairD xs xs) = xs.map twin := by
  refine List.ext_getElem? fun i => ?_
  rw [List.getElem?_map, List.getElem?_map]
  by_cases h : i < xs.length
  · rw [List.getElem?_range h, List.getElem?_eq_getElem h]
    show some (pairD xs xs i) = some (twin _)
    unfold pairD twin
    rw [itOf_some (List.getElem?_eq_getElem h)]
  · rw [List.getElem?_eq_none (by rw [List.length_range]; omega), List.getElem?_eq_none (by omega)]; rfl
theorem twins_py : ∀ {xs : List D}, (∀ x ∈ xs, plainD x = true ∧ depD x ≤ 50) → ∃ ps, toPyL (xs.map twin) = some ps ∧ PyData.canLayAll0 ps = true ∧ PyData.depthAll ps ≤ 51 ∧ ps.isEmpty = xs.isEmpty
  | [], _ => ⟨[], rfl, rfl, Nat.zero_le _, rfl⟩
  | x :: xs, h => by
    obtain ⟨p, e, c, q⟩ := plain_py (h x List.mem_cons_self).1
    have hd := (h x List.mem_cons_self).2
    obtain ⟨ps, es, cs, qs, _⟩ := twins_py (xs := xs) fun y hy => h y (List.mem_cons_of_mem _ hy)
    refine ⟨.tuple [p, p] :: ps, ?_, ?_, ?_, rfl⟩
    · rw [List.map_cons, toPyL, es, twin, toPy, toPyL, toPyL, toPyL, e]; rfl
    · rw [PyData.canLayAll0, PyData.canLay0, PyData.canLayAll0, PyData.canLayAll0, PyData.canLayAll0, c, cs]; rfl
    · rw [PyData.depthAll, PyData.depth, PyData.depthAll, PyData.depthAll, PyData.depthAll, q]; omega
section
variable {E : Eb} {G : List (Option D)} {O : List (Addr × List D)} {S S0 : List (V × D)} {F F' H H' : Hp} {σ : L2.St} {v x y w : V} {d e : D} {Q : VK} {ds : List D}
theorem FO.dpL {ps : List PyData} (fo : FO E G O S F σ H) (r : Rp E.K F v d) (h : IsL O d ds) (hp : toPyL ds = some ps) : Dp E.K H v (.list ps) := by
  obtain ⟨a, ws, rfl, h1, r1⟩ := fo.lstOf r h
  exact .lst (.inl (.inl h1)) (RpL.dp fo.sub r1 hp)
/-- a list at hand against [] -/
theorem x_neNil {ps : List PyData} (fo : FO E G O ((y, .lst []) :: (x, d) :: S) F σ H) (hx : IsL O d ds) (hp : toPyL ds = some ps) (hs : SeqAt.shaped (.list ps) = true) (k : FO E G O ((.bl (!ds.isEmpty), .raw (.bl (!ds.isEmpty))) :: S) F σ H → Q (.bl (!ds.isEmpty)) H) : rNeU E.K x y H Q := by
  refine .inl ⟨.list ps, .list [], fo.dpL fo.snd hx hp, fo.top.dp fo.sub rfl, hs, rfl, ?_⟩
  have e : ps.isEmpty = ds.isEmpty := by
    cases ds with
    | nil => cases hp; rfl
    | cons z zs =>
      rw [toPyL] at hp
      split at hp
      · cases hp; rfl
      · cases hp
  rw [eqv_nil, e]
  exact k (fo.pop.pop.push (.raw _))
theorem x_eqNil {ps : List PyData} (fo : FO E G O ((y, .lst []) :: (x, d) :: S) F σ H) (hx : IsL O d ds) (hp : toPyL ds = some ps) (hs : SeqAt.shaped (.list ps) = true) (k : FO E G O ((.bl ds.isEmpty, .raw (.bl ds.isEmpty)) :: S) F σ H → Q (.bl ds.isEmpty) H) : rEqU E.K x y H Q := by
  refine .inl ⟨.list ps, .list [], fo.dpL fo.snd hx hp, fo.top.dp fo.sub rfl, hs, rfl, ?_⟩
  have e : ps.isEmpty = ds.isEmpty := by
    cases ds with
    | nil => cases hp; rfl
    | cons z zs =>
      rw [toPyL] at hp
      split at hp
      · cases hp; rfl
      · cases hp
  rw [eqv_nil, e]
  exact k (fo.pop.pop.push (.raw _))
theorem x_neB {b c : Bool} (fo : FO E G O ((y, .raw (.bl c)) :: (x, .raw (.bl b)) :: S) F σ H) (k : FO E G O ((.bl (b != c), .raw (.bl (b != c))) :: S) F σ H → Q (.bl (b != c)) H) : rNeU E.K x y H Q := by
  refine x_neD (p := .bool b) (q := .bool c) fo rfl rfl rfl rfl ?_
  have e : (!PyData.eqv (.bool b) (.bool c)) = (b != c) := by cases b <;> cases c <;> rfl
  rw [e]; exact k
/-- != of a plain datum with itself -/
theorem x_neSelf {d' : D} (fo : FO E G O ((y, d) :: (x, d) :: S) F σ H) (hp : plainD d = true) (hd : depD d ≤ 60) (k : FO E G O ((.bl false, .raw (.bl false)) :: S) F σ H → Q (.bl false) H) : rNeU E.K x y H Q := by
  obtain ⟨p, e, c, q⟩ := plain_py hp
  have hs : SeqAt.shaped p = true := by unfold SeqAt.shaped; rw [c, q]; simp; omega
  refine x_neD fo e e hs hs ?_
  rw [SeqAt.eqv_refl p c]; exact k
/-- a new box: from here on it is the one thing that changes -/
theorem FO.inBox {p : Addr} (fo : FO E G [] S F σ H) (hp : H p = none) (hb : BoxOk isBox H' p) (kp : ∀ b o, H b = some o → H' b = some o) : FO ⟨E.K, some p, isBox, F, H'⟩ G [] S F σ H' :=
  ⟨.same (fun a o e => kp a o (fo.sub a o e)) (fun b q => by cases q; exact hb), fun b q => by cases q; exact fo.sub.none hp, fo.len, fo.slot, fo.stk, (fun _ h => nomatch h), List.nodup_nil⟩
theorem FO.outBox {p : Addr} {G2 : List (Option D)} {O2 : List (Addr × List D)} {S2 : List (V × D)} {F2 H2 : Hp} {σ2 : L2.St} (fo : FO E G O S F σ H) (hM : E.M = none) (hp : H p = none) (kp : ∀ b o, H b = some o → H' b = some o) (fo2 : FO ⟨E.K, some p, isBox, F, H'⟩ G2 O2 S2 F2 σ2 H2) : FO E G2 [] S2 F2 σ2 H2 := by
  refine ⟨⟨fo.st.ff.trans fo2.st.ff, fo2.sub, fun a o e m => ?_, fun a e q => ?_, fun b q => ?_⟩, fun b q => ?_, fo2.len, fo2.slot, fo2.stk, (fun _ h => nomatch h), List.nodup_nil⟩
  · have h1 := fo.st.keep a o e m
    exact fo2.st.keep a o (kp a o h1) (fun z => by cases z; rw [hp] at h1; cases h1)
  · have h1 := fo.st.new a e q
    have h2 : H a ≠ none := fo.st.keepN q
    refine fo2.st.new a h1 ?_
    cases z : H a with
    | none => exact absurd z h2
    | some o => show H' a ≠ none; rw [kp a o z]; exact fun z => nomatch z
  · rw [hM] at q; cases q
  · rw [hM] at q; cases q
/-! rows, as alike sees them -/
theorem plain_o (o : Option Int) : plainD (oD o) = true := by cases o <;> rfl
theorem plain_os : ∀ xs : List (Option Int), plainL (xs.map oD) = true
  | [] => rfl
  | o :: xs => by rw [List.map_cons, plainL, plain_o, plain_os xs]; rfl
theorem size_o (o : Option Int) : sizeD (oD o) = 1 := by cases o <;> rfl
theorem size_os : ∀ xs : List (Option Int), sizeL (xs.map oD) = xs.length
  | [] => rfl
  | o :: xs => by rw [List.map_cons, sizeL, size_o, size_os xs, List.length_cons]; omega
theorem dep_o (o : Option Int) : depD (oD o) = 0 := by cases o <;> rfl
theorem dep_os : ∀ xs : List (Option Int), depL (xs.map oD) = 0
  | [] => rfl
  | o :: xs => by rw [List.map_cons, depL, dep_o, dep_os xs]; rfl
theorem plain_row (r : Row) : plainD (rowD r) = true := by
  rw [rowD, plainD, plainL, plainL, plainL, plain_o, plainD, plain_os]; rfl
theorem size_row (r : Row) : sizeD (rowD r) = r.2.length + 3 := by
  rw [rowD, sizeD, sizeL, sizeL, sizeL, size_o, sizeD, size_os]; omega
theorem dep_row (r : Row) : depD (rowD r) = 2 := by
  rw [rowD, depD, depL, depL, depL, dep_o, depD, dep_os]; rfl
theorem like_row {r : Row} (h : r.2.length ≤ 900) : plainD (rowD r) = true ∧ sizeD (rowD r) ≤ 1000 ∧ depD (rowD r) ≤ 50 := ⟨plain_row r, by rw [size_row]; omega, by rw [dep_row]; omega⟩
theorem like_rows {r s : Row} (h : r.2.length ≤ 400) (h2 : s.2.length ≤ 400) : plainD (.lst [rowD r, rowD s]) = true ∧ sizeD (.lst [rowD r, rowD s]) ≤ 1000 ∧ depD (.lst [rowD r, rowD s]) ≤ 50 := by
  refine ⟨?_, ?_, ?_⟩
  · rw [plainD, plainL, plainL, plainL, plain_row, plain_row]; rfl
  · rw [sizeD, sizeL, sizeL, sizeL, size_row, size_row]; omega
  · rw [depD, depL, depL, depL, dep_row, dep_row]; omega
theorem found_pos {n : Nat} {r : Row} {ls : List Int} (h : OkRow n r) (hl : ls.length = n) : 0 < (foundF r ls).length := by
  obtain ⟨l, os⟩ := r
  unfold foundF
  rw [List.length_append]
  rcases h.some_ with q | ⟨o, ho, q⟩
  · cases l with
    | none => exact absurd rfl q
    | some i => show 0 < _ + 1; omega
  · have key : ∀ (ls : List Int) (os : List (Option Int)), ls.length = os.length → (∃ o ∈ os, o ≠ none) → 0 < ((List.zipWith (fun (l : Int) (o : Option Int) => o.map fun x => l - x) ls os).filterMap id).length := by
      intro ls
      induction ls with
      | nil => intro os e ⟨o, ho, _⟩; cases os with | nil => cases ho | cons _ _ => cases e
      | cons z ls ih =>
        intro os e ⟨o, ho, q⟩
        cases os with
        | nil => cases ho
        | cons w os =>
          rw [List.zipWith_cons_cons, List.filterMap_cons]
          cases w with
          | some i => simp
          | none =>
            rcases List.mem_cons.mp ho with z | z
            · exact absurd z q
            · simpa using ih os (by simpa using e) ⟨o, z, q⟩
    have := key ls os (by rw [hl]; exact h.len.symm) ⟨o, ho, q⟩
    exact Nat.lt_of_lt_of_le this (Nat.le_add_right _ _)
end
end DL

set_option maxHeartbeats 4000000
/-! DLw: what stands behind the top, by names and paths. -/
namespace DL
open PySem PySem.Spec PyProof.Rows L2
/-- the object at a is this def -/
def fnP (K : PySem.W.Frag) (a : Addr) : He.FnW := match K.lookup a with
  | some ⟨_, _, .func fd, _⟩ => some (fd.name, fd.qualname, fd.params, fd.body, fd.scope, fd.globals, fd.closure, fd.builtins)
  | _ => none
structure DefP where
  at_ : PySem.W.Frag → Addr
  name : Str
  qual : Str
  st : Stmt
def DefP.val (d : DefP) : He.FnW := some (d.name, d.qual, defArgs d.st, .stmts (defBody d.st), defScope d.st, mainGlobals, [], builtinsNs)
def noneB : Value → Bool
  | .none => true
  | _ => false
theorem noneB_ok {v : Value} (h : noneB v = true) : v = .none := by cases v <;> first | rfl | cases h
def DefP.ok (K : PySem.W.Frag) (d : DefP) : Bool := PySem.W.keepIn K (.ref (d.at_ K)) && (match K.lookup (d.at_ K) with
  | some ⟨_, _, .func fd, _⟩ => PySem.W.codeIn K fd.code d.qual && noneB fd.defaults
  | _ => false)
theorem DefP.fn {K : PySem.W.Frag} {d : DefP} (e : fnP K (d.at_ K) = d.val) (c : d.ok K = true) : ∃ fd, L2.Fun K d.name d.qual d.st (d.at_ K) fd := by
  obtain ⟨kp, c2⟩ := He.ba c
  unfold fnP at e
  cases q : K.lookup (d.at_ K) with
  | none =>
    rw [q] at c2
    cases c2
  | some o =>
    obtain ⟨oc, od, dt, osl⟩ := o
    rw [q] at c2 e
    cases dt with
    | func fd =>
      obtain ⟨n1, n2, n3, n4, n5, n6, n7, n8, n9, n10, n11, n12, n13, n14, n15⟩ := fd
      have e2 : (some (n1, n2, n3, n4, n5, n6, n7, n15) : He.FnW) = some (d.name, d.qual, defArgs d.st, .stmts (defBody d.st), defScope d.st, mainGlobals, [], builtinsNs) := e
      simp only [Option.some.injEq, Prod.mk.injEq] at e2
      obtain ⟨h1, h2, h3, h4, h5, h6, h7, h8⟩ := e2
      have c3 : (PySem.W.codeIn K n13 d.qual && noneB n8) = true := c2
      obtain ⟨k1, k2⟩ := He.ba c3
      have h9 := noneB_ok k2
      subst h1 h2 h3 h4 h5 h6 h7 h8 h9
      exact ⟨_, ⟨oc, od, n9, n10, n11, n12, n13, n14, osl, rfl, q, k1⟩, kp⟩
    | _ => cases c2
/-! ### paths -/
abbrev pGlo (x : Str) : PySem.W.Frag → Addr := fun K => He.ga K x
abbrev pMeth (C m : Str) : PySem.W.Frag → Addr := fun K => He.ma K (He.ga K C) m
/-- a property's getter -/
def pProp (C m : Str) : PySem.W.Frag → Addr := fun K => match PySem.W.recIn K (He.ma K (He.ga K C) m) "property" with
  | some (.ref g :: _) => g
  | _ => 0
def propB (C m : Str) (K : PySem.W.Frag) : Bool := He.eqO (PySem.W.findIn K (.ref (He.ga K C)) m) (some (some (.ref (He.ma K (He.ga K C) m)))) &&
  (He.eqO (PySem.W.specialIn K (.ref (He.ma K (He.ga K C) m)) "__get__") (some (some (.builtin "property.__get__"))) && (decide (PySem.W.takesIn K (.ref (He.ma K (He.ga K C) m)) = some true) &&
  (match PySem.W.recIn K (He.ma K (He.ga K C) m) "property" with
  | some (.ref _ :: _) => true
  | _ => false)))
theorem propB_ok {C m : Str} {K : PySem.W.Frag} (h : propB C m K = true) : PropOf K (He.ga K C) m (He.ma K (He.ga K C) m) (pProp C m K) := by
  obtain ⟨h1, h⟩ := He.ba h
  obtain ⟨h2, h⟩ := He.ba h
  obtain ⟨h3, h4⟩ := He.ba h
  refine ⟨He.eqO_ok h1, He.eqO_ok h2, of_decide_eq_true h3, ?_⟩
  unfold pProp
  cases q : PySem.W.recIn K (He.ma K (He.ga K C) m) "property" with
  | none => rw [q] at h4; cases h4
  | some vs =>
    rw [q] at h4
    cases vs with
    | nil => cases h4
    | cons v r =>
      cases v with
      | ref g => exact ⟨r, rfl⟩
      | _ => cases h4
def ownB (C : Str) (K : PySem.W.Frag) : Bool := (He.Fa.cls C).ok K && (PySem.W.selfFirst K (He.ga K C) && (He.eqO (PySem.W.findIn K (.ref (He.ga K C)) "__ne__") (some (some (.builtin "object.__ne__"))) &&
  (decide (PySem.W.mroIn K (He.ga K C) (.type "object") = some true) && (He.eqO (PySem.W.findIn K (.ref (He.ga K C)) "__class__") (some (some (.builtin "object.__class__"))) &&
  (He.eqO (PySem.W.specialIn K (.builtin "object.__class__") "__get__") (some (some (.builtin "getset_descriptor.__get__"))) && (decide (PySem.W.takesIn K (.builtin "object.__class__") = some true) &&
  (["NoneType", "int", "str", "tuple", "list", "bool"].all fun T => decide (PySem.W.kitOne K (.type T) (.ref (He.ga K C)) = some false))))))))
theorem ownB_ok {C : Str} {K : PySem.W.Frag} (h : ownB C K = true) : OwnC K (He.ga K C) := by
  obtain ⟨h1, h⟩ := He.ba h
  obtain ⟨h2, h⟩ := He.ba h
  obtain ⟨h3, h⟩ := He.ba h
  obtain ⟨h4, h⟩ := He.ba h
  obtain ⟨h5, h⟩ := He.ba h
  obtain ⟨h6, h⟩ := He.ba h
  obtain ⟨h7, h8⟩ := He.ba h
  exact ⟨He.cls_ok h1, h2, He.eqO_ok h3, of_decide_eq_true h4, He.eqO_ok h5, He.eqO_ok h6, of_decide_eq_true h7, fun T hT => of_decide_eq_true (List.all_eq_true.mp h8 T hT)⟩
def callB (C : Str) (K : PySem.W.Frag) : Bool := (He.Fa.meth C "__call__").ok K && PySem.W.fnIn K (He.ma K (He.ga K C) "__call__")
theorem callB_ok {C : Str} {K : PySem.W.Frag} (h : callB C K = true) : StX.CallO K (He.ga K C) (He.ma K (He.ga K C) "__call__") := by
  obtain ⟨h1, h2⟩ := He.ba h
  exact ⟨(He.meth_ok h1).at_, (He.meth_ok h1).fn, h2⟩
/-! ### the hook -/
def obsP (fa : List He.Fa) (fn : List DefP) (ex : List (PySem.W.Frag → Bool)) (K : PySem.W.Frag) : He.AlD := ((fa.all fun f => f.ok K) && ((fn.all fun d => d.ok K) && (ex.all fun e => e K)), fn.map fun d => fnP K (d.at_ K))
def valP (fn : List DefP) : He.AlD := (true, fn.map DefP.val)
def SaysP (fa : List He.Fa) (fn : List DefP) (ex : List (PySem.W.Frag → Bool)) (K : PySem.W.Frag) : Prop := obsP fa fn ex K = valP fn
def obsPG (n : Nat) (fa : List He.Fa) (fn : List DefP) (ex : List (PySem.W.Frag → Bool)) (g : Addr → Option Obj) : He.AlD := obsP fa fn ex (He.frG g (He.asD g n))
def hookP (n : Nat) (fa : List He.Fa) (fn : List DefP) (ex : List (PySem.W.Frag → Bool)) : PySem.W.Hook where
  α := He.AlD
  obs := fun s => obsPG n fa fn ex s.heap.get?
  val := fun _ => valP fn
  says := fun _ h => ∃ K : PySem.W.Frag, K.In h ∧ SaysP fa fn ex K
  of := fun _ _ e => ⟨_, He.frG_in, e⟩
  keeps := fun _ _ _ ⟨K, hK, c⟩ k => ⟨K, PySem.W.Frag.In.keeps hK k, c⟩
theorem obsPG_eq {n : Nat} {fa : List He.Fa} {fn : List DefP} {ex : List (PySem.W.Frag → Bool)} {g : Addr → Option Obj} {s : Shared} (h : ∀ a, g a = s.heap.get? a) : obsPG n fa fn ex g = (hookP n fa fn ex).obs s := by
  have e : g = s.heap.get? := funext h
  rw [e] <;> rfl
section
variable {fa : List He.Fa} {fn : List DefP} {ex : List (PySem.W.Frag → Bool)} {K : PySem.W.Frag}
theorem SaysP.fact (c : SaysP fa fn ex K) (i : Nat) {f : He.Fa} (h : fa[i]? = some f) : f.ok K = true := by
  have c1 := (He.ba (show ((fa.all fun f => f.ok K) && ((fn.all fun d => d.ok K) && (ex.all fun e => e K))) = true from congrArg (fun z : He.AlD => z.1) c)).1
  exact List.all_eq_true.mp c1 f (List.mem_of_getElem? h)
theorem SaysP.extra (c : SaysP fa fn ex K) (i : Nat) {f : PySem.W.Frag → Bool} (h : ex[i]? = some f) : f K = true := by
  have c1 := (He.ba (He.ba (show ((fa.all fun f => f.ok K) && ((fn.all fun d => d.ok K) && (ex.all fun e => e K))) = true from congrArg (fun z : He.AlD => z.1) c)).2).2
  exact List.all_eq_true.mp c1 f (List.mem_of_getElem? h)
theorem SaysP.def_ (c : SaysP fa fn ex K) (i : Nat) {d : DefP} (h : fn[i]? = some d) : ∃ fd, L2.Fun K d.name d.qual d.st (d.at_ K) fd := by
  have c2 := (He.ba (He.ba (show ((fa.all fun f => f.ok K) && ((fn.all fun d => d.ok K) && (ex.all fun e => e K))) = true from congrArg (fun z : He.AlD => z.1) c)).2).1
  have e : fn.map (fun d => fnP K (d.at_ K)) = fn.map DefP.val := congrArg (fun z : He.AlD => z.2) c
  have e2 : (fn.map fun d => fnP K (d.at_ K))[i]? = (fn.map DefP.val)[i]? := by rw [e]
  rw [List.getElem?_map, List.getElem?_map, h] at e2
  exact DefP.fn (Option.some.inj e2) (List.all_eq_true.mp c2 d (List.mem_of_getElem? h))
end
theorem Fun_binds {K : PySem.W.Frag} {x qual : Str} {st : Stmt} {f : Addr} {fd : FuncData} {ps : List Str} (F : L2.Fun K x qual st f fd)
    (h : ∀ (kV doc pm : Value) (an : Option Addr) (cdv ct : Value) (us : List Value), us.length = ps.length → bindArgs (PySem.W.fnOf x qual (defArgs st) (defBody st) (defScope st) .none kV doc pm an cdv ct) ⟨us, []⟩ = pure (ps.zip us)) : Binds K fd ps [] := by
  obtain ⟨oc, od, kV, doc, pm, an, cdv, ct, osl, rfl, lk, hcd⟩ := F.ex
  exact .all (h kV doc pm an cdv ct)
end DL

set_option maxHeartbeats 4000000
/-! DN: data with a memory. What never changes is a tree (D); what changes lies in O, by its address. -/
namespace DN
open PySem PySem.Spec PyProof.Rows L2
open DL (Sub sub_upd sub_upd2)
inductive D where
  | raw (v : V)
  | lst (xs : List D)
  | tup (xs : List D)
  /-- an instance that never changes: its class's number, its fields -/
  | obj (t : Nat) (ds : List D)
  /-- the script -/
  | scr (ns : List Int)
  /-- the very object -/
  | pin (o : HO)
  /-- a dict that never changes -/
  | dic (ks : List L2.Key) (ds : List D)
  /-- an exception that is a value: its class's number, its fields -/
  | exc (t : Nat) (ds : List D)
abbrev D.int (i : Int) : D := .raw (.int i)
abbrev D.bl (b : Bool) : D := .raw (.bl b)
abbrev D.str (s : Str) : D := .raw (.str s)
abbrev D.non : D := .raw .non
abbrev D.at (a : Addr) : D := .raw (.ref a)
/-- what may change -/
inductive Ow where
  | lst (xs : List D)
  /-- an instance: its class's number, its fields so far -/
  | obj (t : Nat) (ns : List Str) (ds : List D)
  | dic (ks : List L2.Key) (ds : List D)
abbrev Ob := Addr → Option Ow
def put (O : Ob) (a : Addr) (o : Ow) : Ob := fun b => if b = a then some o else O b
theorem put_same {O : Ob} {a : Addr} {o : Ow} : put O a o a = some o := by unfold put; rw [if_pos rfl]
theorem put_ne {O : Ob} {a b : Addr} {o : Ow} (h : b ≠ a) : put O a o b = O b := by unfold put; rw [if_neg h]
theorem put_put {O : Ob} {a : Addr} {o u : Ow} : put (put O a o) a u = put O a u := by
  funext b; unfold put; split <;> rfl
/-- the text's classes by number: where they stand, their instances' fields -/
structure Cl where
  K : PySem.W.Frag
  ca : Nat → Addr
  fl : Nat → List Str
mutual
inductive Rp (c : Cl) (F : Hp) : V → D → Prop
  | raw (v : V) : Rp c F v (.raw v)
  | lst {a : Addr} {xs : List V} {ds : List D} : F a = some (.lst xs) → RpL c F xs ds → Rp c F (.ref a) (.lst ds)
  | tup {a : Addr} {xs : List V} {ds : List D} : F a = some (.tup xs) → RpL c F xs ds → Rp c F (.ref a) (.tup ds)
  | obj {a dx : Addr} {t : Nat} {xs : List V} {ds : List D} : F a = some (.ins (c.ca t) dx ((c.fl t).zip xs)) → (c.fl t).length = xs.length → RpL c F xs ds → Rp c F (.ref a) (.obj t ds)
  | scr {a : Addr} {ns : List Int} : SqL c.K F a (ns.map V.int) → Rp c F (.ref a) (.scr ns)
  | pin {a : Addr} {o : HO} : F a = some o → Rp c F (.ref a) (.pin o)
  | dic {a : Addr} {ks : List L2.Key} {xs : List V} {ds : List D} : F a = some (.dK (ks.zip xs)) → ks.length = xs.length → RpL c F xs ds → Rp c F (.ref a) (.dic ks ds)
  | exc {a dx : Addr} {t : Nat} {xs : List V} {ds : List D} : F a = some (exo a (c.ca t) (some dx)) → F dx = some (exd dx ((c.fl t).zip xs)) → (c.fl t).length = xs.length → RpL c F xs ds → Rp c F (.ref a) (.exc t ds)
  | exc0 {a : Addr} {t : Nat} : F a = some (exo a (c.ca t) none) → c.fl t = [] → Rp c F (.ref a) (.exc t [])
inductive RpL (c : Cl) (F : Hp) : List V → List D → Prop
  | nil : RpL c F [] []
  | cons {v : V} {vs : List V} {d : D} {ds : List D} : Rp c F v d → RpL c F vs ds → RpL c F (v :: vs) (d :: ds)
end
section
variable {c : Cl} {F F' H : Hp}
mutual
theorem Rp.mono (s : Sub F F') : ∀ {v : V} {d : D}, Rp c F v d → Rp c F' v d
  | _, _, .raw v => .raw v
  | _, _, .lst h r => .lst (s _ _ h) (RpL.mono s r)
  | _, _, .tup h r => .tup (s _ _ h) (RpL.mono s r)
  | _, _, .obj h n r => .obj (s _ _ h) n (RpL.mono s r)
  | _, _, .scr h => .scr (s.sqL h)
  | _, _, .pin h => .pin (s _ _ h)
  | _, _, .dic h n r => .dic (s _ _ h) n (RpL.mono s r)
  | _, _, .exc h1 h2 n r => .exc (s _ _ h1) (s _ _ h2) n (RpL.mono s r)
  | _, _, .exc0 h n => .exc0 (s _ _ h) n
theorem RpL.mono (s : Sub F F') : ∀ {vs : List V} {ds : List D}, RpL c F vs ds → RpL c F' vs ds
  | _, _, .nil => .nil
  | _, _, .cons h r => .cons (Rp.mono s h) (RpL.mono s r)
end
theorem Rp.raw_eq {v w : V} (h : Rp c F v (.raw w)) : v = w := by cases h; rfl
theorem Rp.lst_at {v : V} {ds : List D} (h : Rp c F v (.lst ds)) : ∃ a xs, v = .ref a ∧ F a = some (.lst xs) ∧ RpL c F xs ds := by
  cases h with | lst h r => exact ⟨_, _, rfl, h, r⟩
theorem Rp.tup_at {v : V} {ds : List D} (h : Rp c F v (.tup ds)) : ∃ a xs, v = .ref a ∧ F a = some (.tup xs) ∧ RpL c F xs ds := by
  cases h with | tup h r => exact ⟨_, _, rfl, h, r⟩
theorem Rp.obj_at {v : V} {t : Nat} {ds : List D} (h : Rp c F v (.obj t ds)) : ∃ a dx xs, v = .ref a ∧ F a = some (.ins (c.ca t) dx ((c.fl t).zip xs)) ∧ (c.fl t).length = xs.length ∧ RpL c F xs ds := by
  cases h with | obj h n r => exact ⟨_, _, _, rfl, h, n, r⟩
theorem Rp.scr_at {v : V} {ns : List Int} (h : Rp c F v (.scr ns)) : ∃ a, v = .ref a ∧ SqL c.K F a (ns.map V.int) := by
  cases h with | scr h => exact ⟨_, rfl, h⟩
theorem Rp.pin_at {v : V} {o : HO} (h : Rp c F v (.pin o)) : ∃ a, v = .ref a ∧ F a = some o := by
  cases h with | pin h => exact ⟨_, rfl, h⟩
theorem Rp.dic_at {v : V} {ks : List L2.Key} {ds : List D} (h : Rp c F v (.dic ks ds)) : ∃ a xs, v = .ref a ∧ F a = some (.dK (ks.zip xs)) ∧ ks.length = xs.length ∧ RpL c F xs ds := by
  cases h with | dic h n r => exact ⟨_, _, rfl, h, n, r⟩
theorem RpL.length : ∀ {vs : List V} {ds : List D}, RpL c F vs ds → vs.length = ds.length
  | _, _, .nil => rfl
  | _, _, .cons _ r => congrArg Nat.succ r.length
theorem RpL.get : ∀ {vs : List V} {ds : List D} {i : Nat} {d : D}, RpL c F vs ds → ds[i]? = some d → ∃ v, vs[i]? = some v ∧ Rp c F v d
  | _, _, _, _, .nil, e => by simp at e
  | _, _, 0, _, .cons h _, e => by simp at e; subst e; exact ⟨_, rfl, h⟩
  | _, _, i + 1, d, .cons _ r, e => by
    obtain ⟨v, h1, h2⟩ := RpL.get (i := i) (d := d) r (by simpa using e)
    exact ⟨v, by simpa using h1, h2⟩
theorem RpL.getV : ∀ {vs : List V} {ds : List D} {i : Nat} {v : V}, RpL c F vs ds → vs[i]? = some v → ∃ d, ds[i]? = some d ∧ Rp c F v d
  | _, _, _, _, .nil, e => by simp at e
  | _, _, 0, _, .cons h _, e => by simp at e; subst e; exact ⟨_, rfl, h⟩
  | _, _, i + 1, v, .cons _ r, e => by
    obtain ⟨d, h1, h2⟩ := RpL.getV (i := i) (v := v) r (by simpa using e)
    exact ⟨d, by simpa using h1, h2⟩
theorem RpL.append : ∀ {vs ws : List V} {ds es : List D}, RpL c F vs ds → RpL c F ws es → RpL c F (vs ++ ws) (ds ++ es)
  | _, _, _, _, .nil, s => s
  | _, _, _, _, .cons h r, s => .cons h (r.append s)
theorem RpL.take : ∀ {vs : List V} {ds : List D} (n : Nat), RpL c F vs ds → RpL c F (vs.take n) (ds.take n)
  | _, _, 0, _ => by simpa using RpL.nil
  | _, _, _ + 1, .nil => by simpa using RpL.nil
  | _, _, n + 1, .cons h r => by simpa using RpL.cons h (r.take n)
theorem RpL.drop : ∀ {vs : List V} {ds : List D} (n : Nat), RpL c F vs ds → RpL c F (vs.drop n) (ds.drop n)
  | _, _, 0, r => r
  | _, _, _ + 1, .nil => by simpa using RpL.nil
  | _, _, n + 1, .cons _ r => by simpa using r.drop n
theorem RpL.set : ∀ {vs : List V} {ds : List D} {v : V} {d : D} (n : Nat), RpL c F vs ds → Rp c F v d → RpL c F (vs.set n v) (ds.set n d)
  | _, _, _, _, _, .nil, _ => .nil
  | _, _, _, _, 0, .cons _ r, q => .cons q r
  | _, _, _, _, n + 1, .cons h r, q => .cons h (RpL.set n r q)
theorem RpL.nil_eq {vs : List V} (h : RpL c F vs []) : vs = [] := by cases h; rfl
theorem RpL.cons_of {vs : List V} {d : D} {ds : List D} (h : RpL c F vs (d :: ds)) : ∃ v ws, vs = v :: ws ∧ Rp c F v d ∧ RpL c F ws ds := by
  cases h with | cons a b => exact ⟨_, _, rfl, a, b⟩
theorem RpL.one {v : V} {d : D} (h : RpL c F [v] [d]) : Rp c F v d := by cases h with | cons a _ => exact a
theorem RpL.ints : ∀ {ns : List Int} {vs : List V}, RpL c F vs (ns.map D.int) → vs = ns.map V.int
  | [], _, h => h.nil_eq
  | n :: ns, _, h => by
    obtain ⟨v, ws, rfl, a, b⟩ := h.cons_of
    rw [Rp.raw_eq a, RpL.ints b]; rfl
theorem RpL.bls : ∀ {ns : List Bool} {vs : List V}, RpL c F vs (ns.map D.bl) → vs = ns.map V.bl
  | [], _, h => h.nil_eq
  | n :: ns, _, h => by
    obtain ⟨v, ws, rfl, a, b⟩ := h.cons_of
    rw [Rp.raw_eq a, RpL.bls b]; rfl
theorem RpL.rep {vs : List V} {ds : List D} (r : RpL c F vs ds) : ∀ n : Nat, RpL c F (List.replicate n vs).flatten (List.replicate n ds).flatten
  | 0 => by simpa using RpL.nil
  | n + 1 => by
    rw [List.replicate_succ, List.replicate_succ, List.flatten_cons, List.flatten_cons]
    exact r.append (RpL.rep r n)
end
/-- what may change, as it stands in the heap -/
inductive OwV (c : Cl) (F : Hp) : Ow → HO → Prop
  | lst {xs : List D} {vs : List V} : RpL c F vs xs → OwV c F (.lst xs) (.lst vs)
  | obj {t : Nat} {ns : List Str} {ds : List D} {vs : List V} {dx : Addr} : ns.length = vs.length → RpL c F vs ds → OwV c F (.obj t ns ds) (.ins (c.ca t) dx (ns.zip vs))
  | dic {ks : List L2.Key} {ds : List D} {vs : List V} : ks.length = vs.length → RpL c F vs ds → OwV c F (.dic ks ds) (.dK (ks.zip vs))
theorem OwV.mono {c : Cl} {F F' : Hp} {o : Ow} {h : HO} (s : Sub F F') (r : OwV c F o h) : OwV c F' o h := by
  cases r with
  | lst r => exact .lst (r.mono s)
  | obj n r => exact .obj n (r.mono s)
  | dic n r => exact .dic n (r.mono s)
/-- the memory: what is known for ever (F), what may change (O), the heap (H) -/
structure Mm (c : Cl) (F : Hp) (O : Ob) (H : Hp) : Prop where
  sub : Sub F H
  all : ∀ p o, O p = some o → ∃ h, H p = some h ∧ OwV c F o h
  off : ∀ p, O p ≠ none → F p = none
theorem Mm.own {c : Cl} {F H : Hp} {O : Ob} (m : Mm c F O H) : ∀ p xs, O p = some (.lst xs) → ∃ vs, H p = some (.lst vs) ∧ RpL c F vs xs := fun p xs e => by
  obtain ⟨h, a, r⟩ := m.all p _ e
  cases r with
  | lst r => exact ⟨_, a, r⟩
/-- from one memory to a later one: what is in neither part stays as it is -/
structure Go (F0 : Hp) (O0 : Ob) (H0 F : Hp) (O : Ob) (H : Hp) : Prop where
  ff : Sub F0 F
  keep : ∀ a o, H0 a = some o → O0 a = none → H a = some o
  new : ∀ a, F0 a = none → O0 a = none → H0 a ≠ none → F a = none ∧ O a = none
section
variable {c : Cl} {F F0 F1 F2 H H0 H1 H2 : Hp} {O O0 O1 O2 : Ob}
theorem Go.rfl : Go F O H F O H := ⟨Sub.rfl, fun _ _ h _ => h, fun _ h1 h2 _ => ⟨h1, h2⟩⟩
theorem Go.trans (m1 : Mm c F1 O1 H1) (a : Go F0 O0 H0 F1 O1 H1) (b : Go F1 O1 H1 F2 O2 H2) : Go F0 O0 H0 F2 O2 H2 := by
  have none1 : ∀ x o, H0 x = some o → O0 x = none → O1 x = none := fun x o h q => by
    cases e : F0 x with
    | none => exact (a.new x e q (by rw [h]; exact fun z => nomatch z)).2
    | some u =>
      cases e2 : O1 x with
      | none => rfl
      | some w =>
        have z := m1.off x (by rw [e2]; exact fun z => nomatch z)
        rw [a.ff x u e] at z; cases z
  refine ⟨a.ff.trans b.ff, fun x o h q => b.keep x o (a.keep x o h q) (none1 x o h q), fun x h1 h2 h3 => ?_⟩
  obtain ⟨n1, n2⟩ := a.new x h1 h2 h3
  refine b.new x n1 n2 ?_
  cases e : H0 x with
  | none => exact absurd e h3
  | some o => rw [a.keep x o e h2]; exact fun z => nomatch z
theorem Mm.free {p : Addr} (m : Mm c F O H) (h : H p = none) : F p = none ∧ O p = none := by
  refine ⟨m.sub.none h, ?_⟩
  cases e : O p with
  | none => rfl
  | some o =>
    obtain ⟨ho, z, _⟩ := m.all p o e
    rw [h] at z; cases z
/-- a new thing, known for ever -/
theorem Mm.alloc {p : Addr} {o : HO} (m : Mm c F O H) (hp : H p = none) : Mm c (upd F p o) O (upd H p o) ∧ Go F O H (upd F p o) O (upd H p o) := by
  obtain ⟨f0, o0⟩ := m.free hp
  have ff : Sub F (upd F p o) := sub_upd f0
  refine ⟨⟨sub_upd2 m.sub, fun q u h => ?_, fun q h => ?_⟩, ⟨ff, fun a u h _ => ?_, fun a h1 h2 h3 => ⟨?_, h2⟩⟩⟩
  · obtain ⟨ho, z, r⟩ := m.all q u h
    exact ⟨ho, by rw [upd_ne (ne_of_none z hp)]; exact z, r.mono ff⟩
  · have ne : q ≠ p := fun z => h (by rw [z]; exact o0)
    rw [upd_ne ne]; exact m.off q h
  · rw [upd_ne (ne_of_none h hp)]; exact h
  · have ne : a ≠ p := fun z => h3 (by rw [z]; exact hp)
    rw [upd_ne ne]; exact h1
/-- a new thing that may change -/
theorem Mm.allocW {p : Addr} {o : Ow} {ho : HO} (m : Mm c F O H) (hp : H p = none) (r : OwV c F o ho) : Mm c F (put O p o) (upd H p ho) ∧ Go F O H F (put O p o) (upd H p ho) := by
  obtain ⟨f0, o0⟩ := m.free hp
  refine ⟨⟨fun a o e => ?_, fun q u h => ?_, fun q h => ?_⟩, ⟨Sub.rfl, fun a u h _ => ?_, fun a h1 h2 h3 => ⟨h1, ?_⟩⟩⟩
  · rw [upd_ne (ne_of_none (m.sub a o e) hp)]; exact m.sub a o e
  · by_cases z : q = p
    · subst z; rw [put_same] at h; cases h; exact ⟨ho, upd_same, r⟩
    · rw [put_ne z] at h; rw [upd_ne z]; exact m.all q u h
  · by_cases z : q = p
    · subst z; exact f0
    · rw [put_ne z] at h; exact m.off q h
  · rw [upd_ne (ne_of_none h hp)]; exact h
  · have ne : a ≠ p := fun z => h3 (by rw [z]; exact hp)
    rw [put_ne ne]; exact h2
theorem Mm.allocO {p : Addr} {vs : List V} {ds : List D} (m : Mm c F O H) (hp : H p = none) (r : RpL c F vs ds) : Mm c F (put O p (.lst ds)) (upd H p (.lst vs)) ∧ Go F O H F (put O p (.lst ds)) (upd H p (.lst vs)) := m.allocW hp (.lst r)
/-- such a thing is changed -/
theorem Mm.mutW {p : Addr} {o o' : Ow} {ho : HO} (m : Mm c F O H) (hp : O p = some o) (r : OwV c F o' ho) : Mm c F (put O p o') (upd H p ho) ∧ Go F O H F (put O p o') (upd H p ho) := by
  have f0 := m.off p (by rw [hp]; exact fun z => nomatch z)
  refine ⟨⟨fun a o e => ?_, fun q u h => ?_, fun q h => ?_⟩, ⟨Sub.rfl, fun a u h h2 => ?_, fun a h1 h2 h3 => ⟨h1, ?_⟩⟩⟩
  · rw [upd_ne (fun z => by rw [z, f0] at e; cases e)]; exact m.sub a o e
  · by_cases z : q = p
    · subst z; rw [put_same] at h; cases h; exact ⟨ho, upd_same, r⟩
    · rw [put_ne z] at h; rw [upd_ne z]; exact m.all q u h
  · by_cases z : q = p
    · subst z; exact f0
    · rw [put_ne z] at h; exact m.off q h
  · rw [upd_ne (fun z => by rw [z, hp] at h2; cases h2)]; exact h
  · rw [put_ne (fun z => by rw [z, hp] at h2; cases h2)]; exact h2
theorem Mm.mut {p : Addr} {vs : List V} {ds es : List D} (m : Mm c F O H) (hp : O p = some (.lst ds)) (r : RpL c F vs es) : Mm c F (put O p (.lst es)) (upd H p (.lst vs)) ∧ Go F O H F (put O p (.lst es)) (upd H p (.lst vs)) := m.mutW hp (.lst r)
end
/-- what is fixed through a def's body -/
structure Em where
  c : Cl
  F0 : Hp
  O0 : Ob
  H0 : Hp
structure FM (E : Em) (G : List (Option D)) (O : Ob) (S : List (V × D)) (F : Hp) (σ : L2.St) (H : Hp) : Prop where
  mm : Mm E.c F O H
  go : Go E.F0 E.O0 E.H0 F O H
  len : σ.length = G.length
  slot : ∀ (i : Nat) (d : D), G[i]? = some (some d) → ∃ v, σ[i]? = some (some v) ∧ Rp E.c F v d
  stk : ∀ p ∈ S, Rp E.c F p.1 p.2
section
variable {E : Em} {G : List (Option D)} {O O' : Ob} {S : List (V × D)} {F F' H H' : Hp} {σ : L2.St} {v x y : V} {d e : D}
theorem FM.push (f : FM E G O S F σ H) (r : Rp E.c F v d) : FM E G O ((v, d) :: S) F σ H :=
  ⟨f.mm, f.go, f.len, f.slot, fun p hp => by
    rcases List.mem_cons.mp hp with z | z
    · rw [z]; exact r
    · exact f.stk p z⟩
theorem FM.top (f : FM E G O ((v, d) :: S) F σ H) : Rp E.c F v d := f.stk _ List.mem_cons_self
theorem FM.pop (f : FM E G O ((v, d) :: S) F σ H) : FM E G O S F σ H := ⟨f.mm, f.go, f.len, f.slot, fun p hp => f.stk p (List.mem_cons_of_mem _ hp)⟩
theorem FM.weakS {S' : List (V × D)} (f : FM E G O S F σ H) (h : ∀ p ∈ S', p ∈ S) : FM E G O S' F σ H := ⟨f.mm, f.go, f.len, f.slot, fun p hp => f.stk p (h p hp)⟩
theorem FM.step (f : FM E G O S F σ H) (m : Mm E.c F' O' H') (g : Go F O H F' O' H') : FM E G O' S F' σ H' :=
  ⟨m, f.go.trans f.mm g, f.len, fun i d q => by
    obtain ⟨v, a, r⟩ := f.slot i d q
    exact ⟨v, a, r.mono g.ff⟩, fun p hp => (f.stk p hp).mono g.ff⟩
theorem FM.sub (f : FM E G O S F σ H) : Sub F H := f.mm.sub
theorem FM.alloc {p : Addr} {o : HO} (f : FM E G O S F σ H) (hp : H p = none) : FM E G O S (upd F p o) σ (upd H p o) := f.step (f.mm.alloc hp).1 (f.mm.alloc hp).2
theorem FM.newL {p : Addr} {vs : List V} {ds : List D} (f : FM E G O S F σ H) (hp : H p = none) (r : RpL E.c F vs ds) : FM E G O S (upd F p (.lst vs)) σ (upd H p (.lst vs)) ∧ Rp E.c (upd F p (.lst vs)) (.ref p) (.lst ds) :=
  ⟨f.alloc hp, .lst upd_same (r.mono (sub_upd (f.sub.none hp)))⟩
theorem FM.newT {p : Addr} {vs : List V} {ds : List D} (f : FM E G O S F σ H) (hp : H p = none) (r : RpL E.c F vs ds) : FM E G O S (upd F p (.tup vs)) σ (upd H p (.tup vs)) ∧ Rp E.c (upd F p (.tup vs)) (.ref p) (.tup ds) :=
  ⟨f.alloc hp, .tup upd_same (r.mono (sub_upd (f.sub.none hp)))⟩
theorem FM.set {i : Nat} (f : FM E G O S F σ H) (r : Rp E.c F v d) : FM E (G.set i (some d)) O S F (σ.set i (some v)) H := by
  refine ⟨f.mm, f.go, by rw [List.length_set, List.length_set]; exact f.len, fun j e q => ?_, f.stk⟩
  by_cases z : j = i
  · subst z
    have hj : j < G.length := by
      obtain ⟨h, _⟩ := List.getElem?_eq_some_iff.mp q
      rwa [List.length_set] at h
    rw [List.getElem?_set_self hj] at q
    cases q
    exact ⟨v, List.getElem?_set_self (by rw [f.len]; exact hj), r⟩
  · rw [List.getElem?_set_ne (fun h => z h.symm)] at q ⊢
    exact f.slot j e q
end
end DN

set_option maxHeartbeats 4000000
/-! DNb: readings over data, and how the readings over the heap follow from them. -/
namespace DN
open PySem PySem.Spec PyProof.Rows L2
open DL (Sub sub_upd sub_upd2)
abbrev GS := List (Option D)
abbrev KE := D → Ob → Prop
abbrev ME := GS → Ob → KE → Prop
abbrev MT := GS → Ob → (Bool → Ob → Prop) → Prop
abbrev MO := D → D → Ob → KE → Prop
abbrev MU := D → Ob → KE → Prop
abbrev MG := D → GS → Ob → (GS → Ob → Prop) → Prop
structure MEnds where
  nx : GS → Ob → Prop
  rt : KE
  bk : GS → Ob → Prop := fun _ _ => False
  ct : GS → Ob → Prop := fun _ _ => False
abbrev MS := MEnds → GS → Ob → Prop
/-- a branch -/
inductive br (b : Bool) (A B : Prop) : Prop
  | y : b = true → A → br b A B
  | n : b = false → B → br b A B
section
variable {b : Bool} {A B : Prop}
theorem br_y (h : b = true) (a : A) : br b A B := .y h a
theorem br_n (h : b = false) (a : B) : br b A B := .n h a
theorem br_i (h1 : b = true → A) (h2 : b = false → B) : br b A B := by
  cases b with
  | true => exact br_y rfl (h1 rfl)
  | false => exact br_n rfl (h2 rfl)
theorem br_e (h : br b A B) : if b = true then A else B := by
  cases h with
  | y e a => rw [if_pos e]; exact a
  | n e a => rw [if_neg (by rw [e]; exact Bool.false_ne_true)]; exact a
end
/-! ### combinators -/
def mVar (i : Nat) : ME := fun G O K => match G[i]? with
  | some (some d) => K d O
  | _ => False
def mC (v : V) : ME := fun _ O K => K (.raw v) O
def mOp (r : MO) (a b : ME) : ME := fun G O K => a G O fun x O1 => b G O1 fun y O2 => r x y O2 K
def mUn (r : MU) (a : ME) : ME := fun G O K => a G O fun x O1 => r x O1 K
def mL : List ME → GS → Ob → (List D → Ob → Prop) → Prop
  | [], _, O, R => R [] O
  | e :: es, G, O, R => e G O fun d O1 => mL es G O1 fun ds O2 => R (d :: ds) O2
def mTup (es : List ME) : ME := fun G O K => mL es G O fun ds O1 => K (.tup ds) O1
def mLst (es : List ME) : ME := fun G O K => mL es G O fun ds O1 => K (.lst ds) O1
def mLstO (es : List ME) : ME := fun G O K => mL es G O fun ds O1 => ∀ p, O1 p = none → K (.at p) (put O1 p (.lst ds))
def mCB (r : List D → Ob → KE → Prop) (es : List ME) : ME := fun G O K => mL es G O fun ds O1 => r ds O1 K
def asB : D → (Bool → Prop) → Prop
  | .raw (.bl b), k => k b
  | _, _ => False
def mTest (e : ME) : MT := fun G O K => e G O fun d O1 => asB d fun b => K b O1
def mAnd (a b : MT) : MT := fun G O K => a G O fun c O1 => br c (b G O1 K) (K false O1)
def mOr (a b : MT) : MT := fun G O K => a G O fun c O1 => br c (K true O1) (b G O1 K)
def mNot (a : MT) : MT := fun G O K => a G O fun c O1 => K (!c) O1
def mYes : MT := fun _ O K => K true O
def mIf (t : MT) (a b : ME) : ME := fun G O K => t G O fun c O1 => br c (a G O1 K) (b G O1 K)
def mAndV (a b : ME) : ME := fun G O K => a G O fun d O1 => asB d fun c => br c (b G O1 K) (K (.bl false) O1)
def mOrV (a b : ME) : ME := fun G O K => a G O fun d O1 => asB d fun c => br c (K (.bl true) O1) (b G O1 K)
def mNotV (a : ME) : ME := fun G O K => a G O fun d O1 => asB d fun c => K (.bl (!c)) O1
def mSeq (a b : MS) : MS := fun B G O => a { B with nx := b B } G O
def mNext : MS := fun B G O => B.nx G O
def mBrk : MS := fun B G O => B.bk G O
def mCont : MS := fun B G O => B.ct G O
def mAsg (e : ME) (g : MG) : MS := fun B G O => e G O fun d O1 => g d G O1 B.nx
def mDrop (e : ME) : MS := fun B G O => e G O fun _ O1 => B.nx G O1
def mRet (e : ME) : MS := fun B G O => e G O B.rt
def mRetN : MS := fun B _ O => B.rt .non O
def mIfS (t : MT) (a b : MS) : MS := fun B G O => t G O fun c O1 => br c (a B G O1) (b B G O1)
def mPar (i j : Nat) (a b : ME) : MS := fun B G O => a G O fun d O1 => b G O1 fun e O2 => B.nx ((G.set i (some d)).set j (some e)) O2
def mgName (i : Nat) : MG := fun d G O Y => Y (G.set i (some d)) O
def mgL : List MG → List D → GS → Ob → (GS → Ob → Prop) → Prop
  | [], [], G, O, Y => Y G O
  | g :: gs, d :: ds, G, O, Y => g d G O fun G1 O1 => mgL gs ds G1 O1 Y
  | _, _, _, _, _ => False
def mgTup (gs : List MG) : MG := fun d G O Y => match d with
  | .tup ds => if ds.length = gs.length then mgL gs ds G O Y else False
  | _ => False
/-- xs[i] = v of a list that may change -/
def mgSub (o i : ME) : MG := fun d G O Y => o G O fun x O1 => i G O1 fun y O2 => match x, y with
  | .raw (.ref p), .raw (.int k) => ∃ xs j, O2 p = some (.lst xs) ∧ ixN xs.length k = some j ∧ Y G (put O2 p (.lst (xs.set j d)))
  | _, _ => False
/-! ### following -/
def SE (c : Cl) (te : TE) (me : ME) : Prop := ∀ F0 O0 H0 G O S F σ H Q K, FM ⟨c, F0, O0, H0⟩ G O S F σ H → (∀ v d O' F' H', K d O' → FM ⟨c, F0, O0, H0⟩ G O' S F' σ H' → Rp c F' v d → Q v H') → me G O K → te σ H Q
def ST (c : Cl) (tt : TT) (mt : MT) : Prop := ∀ F0 O0 H0 G O S F σ H Q K, FM ⟨c, F0, O0, H0⟩ G O S F σ H → (∀ b O' F' H', K b O' → FM ⟨c, F0, O0, H0⟩ G O' S F' σ H' → Q b H') → mt G O K → tt σ H Q
def SA (c : Cl) (ta : TA) (es : List ME) : Prop := ∀ F0 O0 H0 G O S F σ H R K, FM ⟨c, F0, O0, H0⟩ G O S F σ H → (∀ vs ds O' F' H', K ds O' → vs.length = es.length → FM ⟨c, F0, O0, H0⟩ G O' S F' σ H' → RpL c F' vs ds → R vs H') → mL es G O K → ta σ H R
def SO (c : Cl) (r : R2) (mo : MO) : Prop := ∀ F0 O0 H0 G O S F σ H Q K x y d e, FM ⟨c, F0, O0, H0⟩ G O S F σ H → Rp c F x d → Rp c F y e → (∀ v d O' F' H', K d O' → FM ⟨c, F0, O0, H0⟩ G O' S F' σ H' → Rp c F' v d → Q v H') → mo d e O K → r x y H Q
def SU (c : Cl) (r : V → Hp → VK → Prop) (mo : MU) : Prop := ∀ F0 O0 H0 G O S F σ H Q K x d, FM ⟨c, F0, O0, H0⟩ G O S F σ H → Rp c F x d → (∀ v d O' F' H', K d O' → FM ⟨c, F0, O0, H0⟩ G O' S F' σ H' → Rp c F' v d → Q v H') → mo d O K → r x H Q
def SB (c : Cl) (r : List V → Hp → VK → Prop) (mo : List D → Ob → KE → Prop) : Prop := ∀ F0 O0 H0 G O S F σ H Q K vs ds, FM ⟨c, F0, O0, H0⟩ G O S F σ H → RpL c F vs ds → (∀ v d O' F' H', K d O' → FM ⟨c, F0, O0, H0⟩ G O' S F' σ H' → Rp c F' v d → Q v H') → mo ds O K → r vs H Q
def SG (c : Cl) (g : TG) (mg : MG) : Prop := ∀ F0 O0 H0 G O S F σ H Z Y x d, FM ⟨c, F0, O0, H0⟩ G O S F σ H → Rp c F x d → (∀ G' O' F' σ' H', Y G' O' → FM ⟨c, F0, O0, H0⟩ G' O' S F' σ' H' → Z σ' H') → mg d G O Y → g x σ H Z
def SGs (c : Cl) (g : TGs) (gs : List MG) : Prop := ∀ F0 O0 H0 G O S F σ H Z Y xs ds, FM ⟨c, F0, O0, H0⟩ G O S F σ H → RpL c F xs ds → (∀ G' O' F' σ' H', Y G' O' → FM ⟨c, F0, O0, H0⟩ G' O' S F' σ' H' → Z σ' H') → mgL gs ds G O Y → g xs σ H Z
/-- the ends follow -/
structure SD (c : Cl) (F0 : Hp) (O0 : Ob) (H0 : Hp) (S : List (V × D)) (D : Ends) (B : MEnds) : Prop where
  nx : ∀ G O F σ H, B.nx G O → FM ⟨c, F0, O0, H0⟩ G O S F σ H → D.nx σ H
  bk : ∀ G O F σ H, B.bk G O → FM ⟨c, F0, O0, H0⟩ G O S F σ H → D.bk σ H
  ct : ∀ G O F σ H, B.ct G O → FM ⟨c, F0, O0, H0⟩ G O S F σ H → D.ct σ H
  rt : ∀ v d G O S' F σ H, B.rt d O → FM ⟨c, F0, O0, H0⟩ G O S' F σ H → Rp c F v d → D.rt v H
def SS (c : Cl) (ts : TS) (ms : MS) : Prop := ∀ F0 O0 H0 G O S F σ H D B, FM ⟨c, F0, O0, H0⟩ G O S F σ H → SD c F0 O0 H0 S D B → ms B G O → ts D σ H
section
variable {c : Cl} {ta tb te : TE} {ma mb me : ME} {tas : TA} {es : List ME} {t u : TT} {mt mu : MT} {r : R2} {mo : MO} {s1 s2 : TS} {m1 m2 : MS} {g : TG} {mg : MG} {i j : Nat}
theorem se_var : SE c (tVar i) (mVar i) := by
  intro F0 O0 H0 G O S F σ H Q K f k h
  unfold mVar at h
  split at h
  · rename_i d e
    obtain ⟨v, a, r⟩ := f.slot i d e
    exact ⟨v, a, k v d O F H h f r⟩
  · exact h.elim
theorem se_c {v : V} : SE c (tC v) (mC v) := fun F0 O0 H0 G O S F σ H Q K f k h => k v _ O F H h f (.raw v)
theorem se_op (hr : SO c r mo) (ha : SE c ta ma) (hb : SE c tb mb) : SE c (tOp r ta tb) (mOp mo ma mb) := by
  intro F0 O0 H0 G O S F σ H Q K f k h
  refine ha F0 O0 H0 G O S F σ H _ _ f (fun x dx O1 F1 H1 h1 f1 r1 => ?_) h
  refine hb F0 O0 H0 G O1 ((x, dx) :: S) F1 σ H1 _ _ (f1.push r1) (fun y dy O2 F2 H2 h2 f2 r2 => ?_) h1
  exact hr F0 O0 H0 G O2 S F2 σ H2 Q K x y dx dy f2.pop f2.top r2 k h2
theorem se_un {r : V → Hp → VK → Prop} {mo : MU} (hr : SU c r mo) (ha : SE c ta ma) : SE c (tUn r ta) (mUn mo ma) := by
  intro F0 O0 H0 G O S F σ H Q K f k h
  exact ha F0 O0 H0 G O S F σ H _ _ f (fun x dx O1 F1 H1 h1 f1 r1 => hr F0 O0 H0 G O1 S F1 σ H1 Q K x dx f1 r1 k h1) h
theorem sa_nil : SA c tNil [] := fun F0 O0 H0 G O S F σ H R K f k h => k [] [] O F H h rfl f .nil
theorem sa_cons (ha : SE c te me) (hs : SA c tas es) : SA c (tCons te tas) (me :: es) := by
  intro F0 O0 H0 G O S F σ H R K f k h
  refine ha F0 O0 H0 G O S F σ H _ _ f (fun x dx O1 F1 H1 h1 f1 r1 => ?_) h
  refine hs F0 O0 H0 G O1 ((x, dx) :: S) F1 σ H1 _ _ (f1.push r1) (fun vs ds O2 F2 H2 h2 hl f2 r2 => ?_) h1
  exact k (x :: vs) (dx :: ds) O2 F2 H2 h2 (by rw [List.length_cons, List.length_cons, hl]) f2.pop (.cons f2.top r2)
theorem se_tup (ha : SA c tas es) (hl : es.length ≤ 1000) : SE c (tTup tas) (mTup es) := by
  intro F0 O0 H0 G O S F σ H Q K f k h
  refine ha F0 O0 H0 G O S F σ H _ _ f (fun vs ds O1 F1 H1 h1 hn f1 r1 => ⟨Nat.le_trans (by rw [hn]; exact hl) (by decide), fun p hp => ?_⟩) h
  exact k _ _ _ _ _ h1 (f1.newT hp r1).1 (f1.newT hp r1).2
theorem se_lst (ha : SA c tas es) (hl : es.length ≤ 1000) : SE c (tLst tas) (mLst es) := by
  intro F0 O0 H0 G O S F σ H Q K f k h
  refine ha F0 O0 H0 G O S F σ H _ _ f (fun vs ds O1 F1 H1 h1 hn f1 r1 => ⟨Nat.le_trans (by rw [hn]; exact hl) (by decide), fun p hp => ?_⟩) h
  exact k _ _ _ _ _ h1 (f1.newL hp r1).1 (f1.newL hp r1).2
theorem se_lstO (ha : SA c tas es) (hl : es.length ≤ 1000) : SE c (DL.tLstO tas) (mLstO es) := by
  intro F0 O0 H0 G O S F σ H Q K f k h
  refine ha F0 O0 H0 G O S F σ H _ _ f (fun vs ds O1 F1 H1 h1 hn f1 r1 => ⟨Nat.le_trans (by rw [hn]; exact hl) (by decide), fun p hp => ?_⟩) h
  have a := f1.mm.allocO hp r1
  exact k _ _ _ _ _ (h1 p (f1.mm.free hp).2) (f1.step a.1 a.2) (.raw _)
theorem se_cb {r : List V → Hp → VK → Prop} {mo : List D → Ob → KE → Prop} (hr : SB c r mo) (ha : SA c tas es) : SE c (tCB r tas) (mCB mo es) := by
  intro F0 O0 H0 G O S F σ H Q K f k h
  exact ha F0 O0 H0 G O S F σ H _ _ f (fun vs ds O1 F1 H1 h1 hn f1 r1 => hr F0 O0 H0 G O1 S F1 σ H1 Q K vs ds f1 r1 k h1) h
/-! tests -/
theorem asB_of {d : D} {k : Bool → Prop} (h : asB d k) : ∃ b, d = .bl b ∧ k b := by
  unfold asB at h
  split at h
  · exact ⟨_, rfl, h⟩
  · exact h.elim
theorem st_test (ha : SE c te me) : ST c (tTest te) (mTest me) := by
  intro F0 O0 H0 G O S F σ H Q K f k h
  refine ha F0 O0 H0 G O S F σ H _ _ f (fun x dx O1 F1 H1 h1 f1 r1 => ?_) h
  obtain ⟨b, rfl, q⟩ := asB_of h1
  exact ⟨b, r1.raw_eq, k b O1 F1 H1 q f1⟩
theorem st_b (ha : SE c te me) : ST c (tB te) (mTest me) := st_test ha
theorem st_and (ha : ST c t mt) (hb : ST c u mu) : ST c (tAnd t u) (mAnd mt mu) := by
  intro F0 O0 H0 G O S F σ H Q K f k h
  refine ha F0 O0 H0 G O S F σ H _ _ f (fun b O1 F1 H1 h1 f1 => ?_) h
  have h2 := br_e h1
  cases b with
  | true => rw [if_pos rfl] at h2 ⊢; exact hb F0 O0 H0 G O1 S F1 σ H1 Q K f1 k h2
  | false => rw [if_neg Bool.false_ne_true] at h2 ⊢; exact k false O1 F1 H1 h2 f1
theorem st_or (ha : ST c t mt) (hb : ST c u mu) : ST c (tOr t u) (mOr mt mu) := by
  intro F0 O0 H0 G O S F σ H Q K f k h
  refine ha F0 O0 H0 G O S F σ H _ _ f (fun b O1 F1 H1 h1 f1 => ?_) h
  have h2 := br_e h1
  cases b with
  | true => rw [if_pos rfl] at h2 ⊢; exact k true O1 F1 H1 h2 f1
  | false => rw [if_neg Bool.false_ne_true] at h2 ⊢; exact hb F0 O0 H0 G O1 S F1 σ H1 Q K f1 k h2
theorem st_not (ha : ST c t mt) : ST c (tNot t) (mNot mt) := by
  intro F0 O0 H0 G O S F σ H Q K f k h
  exact ha F0 O0 H0 G O S F σ H _ _ f (fun b O1 F1 H1 h1 f1 => k (!b) O1 F1 H1 h1 f1) h
theorem st_yes : ST c tYes mYes := fun F0 O0 H0 G O S F σ H Q K f k h => k true O F H h f
theorem se_if (ht : ST c t mt) (ha : SE c ta ma) (hb : SE c tb mb) : SE c (tIf t ta tb) (mIf mt ma mb) := by
  intro F0 O0 H0 G O S F σ H Q K f k h
  refine ht F0 O0 H0 G O S F σ H _ _ f (fun b O1 F1 H1 h1 f1 => ?_) h
  have h2 := br_e h1
  cases b with
  | true => rw [if_pos rfl] at h2 ⊢; exact ha F0 O0 H0 G O1 S F1 σ H1 Q K f1 k h2
  | false => rw [if_neg Bool.false_ne_true] at h2 ⊢; exact hb F0 O0 H0 G O1 S F1 σ H1 Q K f1 k h2
theorem se_andV (ha : SE c ta ma) (hb : SE c tb mb) : SE c (tAndV ta tb) (mAndV ma mb) := by
  intro F0 O0 H0 G O S F σ H Q K f k h
  refine ha F0 O0 H0 G O S F σ H _ _ f (fun x dx O1 F1 H1 h1 f1 r1 => ?_) h
  obtain ⟨b, rfl, q⟩ := asB_of h1
  refine ⟨b, r1.raw_eq, ?_⟩
  have h2 := br_e q
  cases b with
  | true => rw [if_pos rfl] at h2 ⊢; exact hb F0 O0 H0 G O1 S F1 σ H1 Q K f1 k h2
  | false => rw [if_neg Bool.false_ne_true] at h2 ⊢; exact k _ _ O1 F1 H1 h2 f1 (.raw _)
theorem se_orV (ha : SE c ta ma) (hb : SE c tb mb) : SE c (tOrV ta tb) (mOrV ma mb) := by
  intro F0 O0 H0 G O S F σ H Q K f k h
  refine ha F0 O0 H0 G O S F σ H _ _ f (fun x dx O1 F1 H1 h1 f1 r1 => ?_) h
  obtain ⟨b, rfl, q⟩ := asB_of h1
  refine ⟨b, r1.raw_eq, ?_⟩
  have h2 := br_e q
  cases b with
  | true => rw [if_pos rfl] at h2 ⊢; exact k _ _ O1 F1 H1 h2 f1 (.raw _)
  | false => rw [if_neg Bool.false_ne_true] at h2 ⊢; exact hb F0 O0 H0 G O1 S F1 σ H1 Q K f1 k h2
theorem se_notV (ha : SE c ta ma) : SE c (tNotV ta) (mNotV ma) := by
  intro F0 O0 H0 G O S F σ H Q K f k h
  refine ha F0 O0 H0 G O S F σ H _ _ f (fun x dx O1 F1 H1 h1 f1 r1 => ?_) h
  obtain ⟨b, rfl, q⟩ := asB_of h1
  exact ⟨b, r1.raw_eq, k _ _ O1 F1 H1 q f1 (.raw _)⟩
/-! statements -/
theorem ss_seq (h1 : SS c s1 m1) (h2 : SS c s2 m2) : SS c (tSeq s1 s2) (mSeq m1 m2) := by
  intro F0 O0 H0 G O S F σ H D B f k h
  exact h1 F0 O0 H0 G O S F σ H { D with nx := s2 D } { B with nx := m2 B } f ⟨fun G' O' F' σ' H' q f' => h2 F0 O0 H0 G' O' S F' σ' H' D B f' k q, k.bk, k.ct, k.rt⟩ h
theorem ss_next : SS c tNext mNext := fun F0 O0 H0 G O S F σ H D B f k h => k.nx G O F σ H h f
theorem ss_brk : SS c tBreak mBrk := fun F0 O0 H0 G O S F σ H D B f k h => k.bk G O F σ H h f
theorem ss_cont : SS c tCont mCont := fun F0 O0 H0 G O S F σ H D B f k h => k.ct G O F σ H h f
theorem ss_asg (ha : SE c te me) (hg : SG c g mg) : SS c (tAsg te g) (mAsg me mg) := by
  intro F0 O0 H0 G O S F σ H D B f k h
  exact ha F0 O0 H0 G O S F σ H _ _ f (fun x dx O1 F1 H1 h1 f1 r1 => hg F0 O0 H0 G O1 S F1 σ H1 _ _ x dx f1 r1 (fun G' O' F' σ' H' q f' => k.nx G' O' F' σ' H' q f') h1) h
theorem ss_drop (ha : SE c te me) : SS c (tDrop te) (mDrop me) := by
  intro F0 O0 H0 G O S F σ H D B f k h
  exact ha F0 O0 H0 G O S F σ H _ _ f (fun x dx O1 F1 H1 h1 f1 r1 => k.nx G O1 F1 σ H1 h1 f1) h
theorem ss_ret (ha : SE c te me) : SS c (tRet te) (mRet me) := by
  intro F0 O0 H0 G O S F σ H D B f k h
  exact ha F0 O0 H0 G O S F σ H _ _ f (fun x dx O1 F1 H1 h1 f1 r1 => k.rt x dx G O1 S F1 σ H1 h1 f1 r1) h
theorem ss_retN : SS c tRetN mRetN := fun F0 O0 H0 G O S F σ H D B f k h => k.rt .non .non G O S F σ H h f (.raw _)
theorem ss_if (ht : ST c t mt) (ha : SS c s1 m1) (hb : SS c s2 m2) : SS c (tIfS t s1 s2) (mIfS mt m1 m2) := by
  intro F0 O0 H0 G O S F σ H D B f k h
  refine ht F0 O0 H0 G O S F σ H _ _ f (fun b O1 F1 H1 h1 f1 => ?_) h
  have h2 := br_e h1
  cases b with
  | true => rw [if_pos rfl] at h2 ⊢; exact ha F0 O0 H0 G O1 S F1 σ H1 D B f1 k h2
  | false => rw [if_neg Bool.false_ne_true] at h2 ⊢; exact hb F0 O0 H0 G O1 S F1 σ H1 D B f1 k h2
theorem ss_par (ha : SE c ta ma) (hb : SE c tb mb) : SS c (tPar i j (tCons ta (tCons tb tNil))) (mPar i j ma mb) := by
  intro F0 O0 H0 G O S F σ H D B f k h
  refine ha F0 O0 H0 G O S F σ H _ _ f (fun x dx O1 F1 H1 h1 f1 r1 => ?_) h
  refine hb F0 O0 H0 G O1 ((x, dx) :: S) F1 σ H1 _ _ (f1.push r1) (fun y dy O2 F2 H2 h2 f2 r2 => ?_) h1
  exact ⟨x, y, rfl, k.nx _ O2 F2 _ H2 h2 ((f2.pop.set f2.top).set r2)⟩
/-! targets -/
theorem sg_name : SG c (gName i) (mgName i) := fun F0 O0 H0 G O S F σ H Z Y x d f r k h => k _ O F _ H h (f.set r)
theorem sgs_nil : SGs c gNil [] := by
  intro F0 O0 H0 G O S F σ H Z Y xs ds f r k h
  cases ds with
  | nil => exact ⟨r.nil_eq, k G O F σ H h f⟩
  | cons d ds => exact h.elim
theorem sgs_cons {ts : TGs} {gs : List MG} (hg : SG c g mg) (hs : SGs c ts gs) : SGs c (gCons g ts) (mg :: gs) := by
  intro F0 O0 H0 G O S F σ H Z Y xs ds f r k h
  cases ds with
  | nil => exact h.elim
  | cons d ds =>
    obtain ⟨v, ws, rfl, r1, r2⟩ := r.cons_of
    refine ⟨v, ws, rfl, ?_⟩
    -- the rest of the values is kept at hand
    have pushAll : ∀ (ws : List V) (ds : List D) {S' : List (V × D)} {G' : GS} {O' : Ob} {F' : Hp} {σ' : L2.St} {H' : Hp}, RpL c F' ws ds → FM ⟨c, F0, O0, H0⟩ G' O' S' F' σ' H' → FM ⟨c, F0, O0, H0⟩ G' O' (ws.zip ds ++ S') F' σ' H' := by
      intro ws
      induction ws with
      | nil => intro ds S' G' O' F' σ' H' r f; exact f
      | cons w ws ih =>
        intro ds S' G' O' F' σ' H' r f
        cases ds with
        | nil => cases r
        | cons d ds => cases r with | cons a b => exact (ih ds b f).push a
    have popAll : ∀ (ws : List V) (ds : List D) {S' : List (V × D)} {G' : GS} {O' : Ob} {F' : Hp} {σ' : L2.St} {H' : Hp}, ws.length = ds.length → FM ⟨c, F0, O0, H0⟩ G' O' (ws.zip ds ++ S') F' σ' H' → RpL c F' ws ds ∧ FM ⟨c, F0, O0, H0⟩ G' O' S' F' σ' H' := by
      intro ws
      induction ws with
      | nil => intro ds S' G' O' F' σ' H' hl f; cases ds with | nil => exact ⟨.nil, f⟩ | cons _ _ => cases hl
      | cons w ws ih =>
        intro ds S' G' O' F' σ' H' hl f
        cases ds with
        | nil => cases hl
        | cons d ds =>
          obtain ⟨a, b⟩ := ih ds (by simpa using hl) (FM.pop (v := w) (d := d) f)
          exact ⟨.cons (FM.top (v := w) (d := d) f) a, b⟩
    refine hg F0 O0 H0 G O (ws.zip ds ++ S) F σ H _ _ v d (pushAll ws ds r2 f) r1 (fun G1 O1 F1 σ1 H1 q f1 => ?_) h
    obtain ⟨r3, f2⟩ := popAll ws ds r2.length f1
    exact hs F0 O0 H0 G1 O1 S F1 σ1 H1 Z Y ws ds f2 r3 k q
theorem sg_tup {n : Nat} {ts : TGs} {gs : List MG} (hs : SGs c ts gs) (hn : gs.length = n) : SG c (gTup c.K n ts) (mgTup gs) := by
  intro F0 O0 H0 G O S F σ H Z Y x d f r k h
  cases d with
  | tup ds =>
    obtain ⟨a, xs, rfl, e, rl⟩ := r.tup_at
    have h' : if ds.length = gs.length then mgL gs ds G O Y else False := h
    by_cases hl : ds.length = gs.length
    · rw [if_pos hl] at h'
      exact ⟨a, xs, rfl, .inl (.inl (f.sub _ _ e)), by rw [rl.length, hl]; exact hn, hs F0 O0 H0 G O S F σ H Z Y xs ds f rl k h'⟩
    · rw [if_neg hl] at h'; exact h'.elim
  | _ => exact h.elim
end
end DN

set_option maxHeartbeats 4000000
/-! DNc: operators and built-ins over data. -/
namespace DN
open PySem PySem.Spec PyProof.Rows L2
open DL (Sub sub_upd sub_upd2 rAddU rSubI rMulU rModI rFdivI rPowI rNegI rEqU rNeU rLtI rLeI rGtI rGeI rIsNn rNotNn rSlU cLen cMax2 cMin2 cInt1 cTuple cList cListO cMinL cMaxL cAny cAll cIsi)
/-! ### data that == sees -/
mutual
def toPy : D → Option PyData
  | .raw .non => some .none
  | .raw (.bl b) => some (.bool b)
  | .raw (.int i) => some (.int i)
  | .raw (.str s) => some (.str s)
  | .lst xs => (toPyL xs).map .list
  | .tup xs => (toPyL xs).map .tuple
  | _ => none
def toPyL : List D → Option (List PyData)
  | [] => some []
  | x :: xs => match toPy x, toPyL xs with
    | some p, some ps => some (p :: ps)
    | _, _ => none
end
/-- a list at hand -/
def lsD (O : Ob) : D → Option (List D)
  | .lst xs => some xs
  | .raw (.ref p) => (match O p with
    | some (.lst xs) => some xs
    | _ => none)
  | _ => none
/-- a list or tuple at hand -/
def sqD (O : Ob) : D → Option (List D)
  | .tup xs => some xs
  | .lst xs => some xs
  | .raw (.ref p) => (match O p with
    | some (.lst xs) => some xs
    | _ => none)
  | _ => none
mutual
/-- .. with lists that may change, one deep -/
def toPyR (O : Ob) : D → Option PyData
  | .raw .non => some .none
  | .raw (.bl b) => some (.bool b)
  | .raw (.int i) => some (.int i)
  | .raw (.str s) => some (.str s)
  | .raw (.ref p) => (match O p with
    | some (.lst xs) => (toPyL xs).map .list
    | _ => none)
  | .lst xs => (toPyRL O xs).map .list
  | .tup xs => (toPyRL O xs).map .tuple
  | _ => none
def toPyRL (O : Ob) : List D → Option (List PyData)
  | [] => some []
  | x :: xs => match toPyR O x, toPyRL O xs with
    | some p, some ps => some (p :: ps)
    | _, _ => none
end
mutual
theorem toPyR_of {O : Ob} : ∀ {d : D} {p : PyData}, toPy d = some p → toPyR O d = some p
  | .raw v, p, h => by cases v <;> simp only [toPy] at h <;> first | (simp only [toPyR]; exact h) | cases h
  | .lst xs, p, h => by
    simp only [toPy] at h
    simp only [toPyR]
    cases q : toPyL xs with
    | none => rw [q] at h; cases h
    | some ps => rw [toPyRL_of q]; rw [q] at h; exact h
  | .tup xs, p, h => by
    simp only [toPy] at h
    simp only [toPyR]
    cases q : toPyL xs with
    | none => rw [q] at h; cases h
    | some ps => rw [toPyRL_of q]; rw [q] at h; exact h
  | .obj _ _, p, h => by simp only [toPy] at h; cases h
  | .scr _, p, h => by simp only [toPy] at h; cases h
  | .pin _, p, h => by simp only [toPy] at h; cases h
  | .dic _ _, p, h => by simp only [toPy] at h; cases h
  | .exc _ _, p, h => by simp only [toPy] at h; cases h
theorem toPyRL_of {O : Ob} : ∀ {ds : List D} {ps : List PyData}, toPyL ds = some ps → toPyRL O ds = some ps
  | [], ps, h => by simp only [toPyL] at h; simp only [toPyRL]; exact h
  | d :: ds, ps, h => by
    simp only [toPyL] at h
    simp only [toPyRL]
    cases q : toPy d with
    | none => rw [q] at h; cases h
    | some p =>
      cases q2 : toPyL ds with
      | none => rw [q, q2] at h; cases h
      | some ps2 => rw [toPyR_of q, toPyRL_of q2]; rw [q, q2] at h; exact h
end
def toPyO (O : Ob) (d : D) : Option PyData := match lsD O d with
  | some xs => (toPyRL O xs).map .list
  | none => toPyR O d
theorem toPyO_of {O : Ob} {d : D} {p : PyData} (h : toPy d = some p) : toPyO O d = some p := by
  cases d with
  | raw v => cases v <;> first | (simp only [toPy] at h; exact h) | (simp only [toPy] at h; cases h)
  | lst xs => exact toPyR_of (d := .lst xs) h
  | tup xs => exact toPyR_of (d := .tup xs) h
  | obj _ _ => simp only [toPy] at h; cases h
  | scr _ => simp only [toPy] at h; cases h
  | pin _ => simp only [toPy] at h; cases h
  | dic _ _ => simp only [toPy] at h; cases h
  | exc _ _ => simp only [toPy] at h; cases h
section
variable {c : Cl} {F H : Hp}
mutual
theorem Rp.dp (s : Sub F H) : ∀ {v : V} {d : D} {p : PyData}, Rp c F v d → toPy d = some p → Dp c.K H v p
  | _, _, _, .raw v, e => by
    cases v <;> simp only [toPy] at e <;> (try cases e)
    · exact .non
    · exact .bl _
    · exact .int _
    · exact .str _
  | _, _, _, .lst (ds := ds) h r, e => by
    simp only [toPy] at e
    cases q : toPyL ds with
    | none => rw [q] at e; cases e
    | some ps => rw [q] at e; cases e; exact .lst (.inl (.inl (s _ _ h))) (RpL.dp s r q)
  | _, _, _, .tup (ds := ds) h r, e => by
    simp only [toPy] at e
    cases q : toPyL ds with
    | none => rw [q] at e; cases e
    | some ps => rw [q] at e; cases e; exact .tup (.inl (.inl (s _ _ h))) (RpL.dp s r q)
  | _, _, _, .obj h n r, e => by simp only [toPy] at e; cases e
  | _, _, _, .scr h, e => by simp only [toPy] at e; cases e
  | _, _, _, .pin h, e => by simp only [toPy] at e; cases e
  | _, _, _, .dic h n r, e => by simp only [toPy] at e; cases e
  | _, _, _, .exc h1 h2 n r, e => by simp only [toPy] at e; cases e
  | _, _, _, .exc0 h n, e => by simp only [toPy] at e; cases e
theorem RpL.dp (s : Sub F H) : ∀ {vs : List V} {ds : List D} {ps : List PyData}, RpL c F vs ds → toPyL ds = some ps → DpAll c.K H vs ps
  | _, _, _, .nil, e => by simp only [toPyL] at e; cases e; exact .nil
  | _, _, _, .cons (d := d) (ds := ds) h r, e => by
    simp only [toPyL] at e
    cases q : toPy d with
    | none => rw [q] at e; cases e
    | some p =>
      cases q2 : toPyL ds with
      | none => rw [q, q2] at e; cases e
      | some ps => rw [q, q2] at e; cases e; exact .cons (Rp.dp s h q) (RpL.dp s r q2)
end
end
section
variable {c : Cl} {F H : Hp} {O : Ob}
mutual
theorem Rp.dpR (s : Sub F H) (ho : ∀ p xs, O p = some (.lst xs) → ∃ us, H p = some (.lst us) ∧ RpL c F us xs) : ∀ {v : V} {d : D} {p : PyData}, Rp c F v d → toPyR O d = some p → Dp c.K H v p
  | _, _, _, .raw (.ref a), e => by
    simp only [toPyR] at e
    cases q : O a with
    | none => rw [q] at e; cases e
    | some o =>
      cases o with
      | lst xs =>
        rw [q] at e
        replace e : (toPyL xs).map PyData.list = some _ := e
        obtain ⟨us, h1, r⟩ := ho a xs q
        cases q2 : toPyL xs with
        | none => rw [q2] at e; cases e
        | some ps => rw [q2] at e; cases e; exact .lst (.inl (.inl h1)) (RpL.dp s r q2)
      | obj _ _ _ => rw [q] at e; cases e
      | dic _ _ => rw [q] at e; cases e
  | _, _, _, .raw .non, e => by simp only [toPyR] at e; cases e; exact .non
  | _, _, _, .raw (.bl _), e => by simp only [toPyR] at e; cases e; exact .bl _
  | _, _, _, .raw (.int _), e => by simp only [toPyR] at e; cases e; exact .int _
  | _, _, _, .raw (.str _), e => by simp only [toPyR] at e; cases e; exact .str _
  | _, _, _, .raw (.ty _), e => by simp only [toPyR] at e; cases e
  | _, _, _, .raw (.flt _), e => by simp only [toPyR] at e; cases e
  | _, _, _, .raw (.byt _), e => by simp only [toPyR] at e; cases e
  | _, _, _, .lst (ds := ds) h r, e => by
    simp only [toPyR] at e
    cases q : toPyRL O ds with
    | none => rw [q] at e; cases e
    | some ps => rw [q] at e; cases e; exact .lst (.inl (.inl (s _ _ h))) (RpL.dpR s ho r q)
  | _, _, _, .tup (ds := ds) h r, e => by
    simp only [toPyR] at e
    cases q : toPyRL O ds with
    | none => rw [q] at e; cases e
    | some ps => rw [q] at e; cases e; exact .tup (.inl (.inl (s _ _ h))) (RpL.dpR s ho r q)
  | _, _, _, .obj h n r, e => by simp only [toPyR] at e; cases e
  | _, _, _, .scr h, e => by simp only [toPyR] at e; cases e
  | _, _, _, .pin h, e => by simp only [toPyR] at e; cases e
  | _, _, _, .dic h n r, e => by simp only [toPyR] at e; cases e
  | _, _, _, .exc h1 h2 n r, e => by simp only [toPyR] at e; cases e
  | _, _, _, .exc0 h n, e => by simp only [toPyR] at e; cases e
theorem RpL.dpR (s : Sub F H) (ho : ∀ p xs, O p = some (.lst xs) → ∃ us, H p = some (.lst us) ∧ RpL c F us xs) : ∀ {vs : List V} {ds : List D} {ps : List PyData}, RpL c F vs ds → toPyRL O ds = some ps → DpAll c.K H vs ps
  | _, _, _, .nil, e => by simp only [toPyRL] at e; cases e; exact .nil
  | _, _, _, .cons (d := d) (ds := ds) h r, e => by
    simp only [toPyRL] at e
    cases q : toPyR O d with
    | none => rw [q] at e; cases e
    | some p =>
      cases q2 : toPyRL O ds with
      | none => rw [q, q2] at e; cases e
      | some ps => rw [q, q2] at e; cases e; exact .cons (Rp.dpR s ho h q) (RpL.dpR s ho r q2)
end
end
section
variable {E : Em} {G : GS} {O O' : Ob} {S : List (V × D)} {F F' H H' : Hp} {σ : L2.St} {v x y : V} {d e : D} {xs : List D}
theorem FM.lstOf (f : FM E G O S F σ H) (r : Rp E.c F v d) (h : lsD O d = some xs) : ∃ a ws, v = .ref a ∧ H a = some (.lst ws) ∧ RpL E.c F ws xs := by
  cases r with
  | raw _ =>
    cases v with
    | ref p =>
      simp only [lsD] at h
      cases q : O p with
      | none => rw [q] at h; cases h
      | some o =>
        cases o with
        | lst ys =>
          rw [q] at h; cases h
          obtain ⟨vs, e1, e2⟩ := f.mm.own p _ q
          exact ⟨p, vs, rfl, e1, e2⟩
        | obj _ _ _ => rw [q] at h; cases h
        | dic _ _ => rw [q] at h; cases h
    | _ => simp only [lsD] at h; cases h
  | lst e1 e2 => simp only [lsD] at h; cases h; exact ⟨_, _, rfl, f.sub _ _ e1, e2⟩
  | _ => simp only [lsD] at h; cases h
theorem FM.tupOf (f : FM E G O S F σ H) (r : Rp E.c F v (.tup xs)) : ∃ a ws, v = .ref a ∧ H a = some (.tup ws) ∧ RpL E.c F ws xs := by
  obtain ⟨a, ws, rfl, h, r⟩ := r.tup_at
  exact ⟨a, ws, rfl, f.sub _ _ h, r⟩
theorem sqD_of (h : sqD O d = some xs) : d = .tup xs ∨ lsD O d = some xs := by
  cases d with
  | tup ys => simp only [sqD] at h; cases h; exact .inl rfl
  | lst ys => exact .inr h
  | raw w => cases w <;> exact .inr h
  | _ => cases h
theorem FM.dpO {p : PyData} (f : FM E G O S F σ H) (r : Rp E.c F v d) (h : toPyO O d = some p) : Dp E.c.K H v p := by
  unfold toPyO at h
  cases q : lsD O d with
  | none => rw [q] at h; exact r.dpR f.sub f.mm.own h
  | some ys =>
    rw [q] at h
    replace h : (toPyRL O ys).map PyData.list = some p := h
    obtain ⟨a, ws, rfl, h1, r1⟩ := f.lstOf r q
    cases q2 : toPyRL O ys with
    | none => rw [q2] at h; cases h
    | some ps => rw [q2] at h; cases h; exact .lst (.inl (.inl h1)) (RpL.dpR f.sub f.mm.own r1 q2)
end
/-! ### operators -/
def oAdd : MO := fun a b O K => match a, b with
  | .raw (.int i), .raw (.int j) => K (.int (i + j)) O
  | .raw (.str i), .raw (.str j) => i.length + j.length ≤ 1000000 ∧ K (.str (i ++ j)) O
  | .tup xs, .tup ys => xs.length + ys.length ≤ 100000 ∧ K (.tup (xs ++ ys)) O
  | _, _ => ∃ xs ys, lsD O a = some xs ∧ lsD O b = some ys ∧ xs.length + ys.length ≤ 100000 ∧ K (.lst (xs ++ ys)) O
def oInt (g : Int → Int → D) : MO := fun a b O K => match a, b with
  | .raw (.int i), .raw (.int j) => K (g i j) O
  | _, _ => False
def oIntC (C : Int → Int → Prop) (g : Int → Int → D) : MO := fun a b O K => match a, b with
  | .raw (.int i), .raw (.int j) => C i j ∧ K (g i j) O
  | _, _ => False
def oSub : MO := oInt fun i j => .int (i - j)
def oMod : MO := oIntC (fun _ j => 0 < j) fun i j => .int (i % j)
def oFdiv : MO := oIntC (fun _ j => 0 < j ∧ j < 1073741824) fun i j => .int (i / j)
def oPow : MO := oIntC CPow fun i j => .int (i ^ j.toNat)
def oLt : MO := oInt fun i j => .bl (decide (i < j))
def oLe : MO := oInt fun i j => .bl (decide (i ≤ j))
def oGt : MO := oInt fun i j => .bl (decide (j < i))
def oGe : MO := oInt fun i j => .bl (decide (j ≤ i))
def oMul : MO := fun a b O K => match a, b with
  | .raw (.int i), .raw (.int j) => CMul i j ∧ K (.int (i * j)) O
  | _, .raw (.int j) => ∃ xs, lsD O a = some xs ∧ 0 ≤ j ∧ j ≤ 1000 ∧ xs.length ≤ 1000 ∧ K (.lst (List.replicate j.toNat xs).flatten) O
  | _, _ => False
def oNeg : MU := fun a O K => match a with
  | .raw (.int i) => K (.int (-i)) O
  | _ => False
def isNon : D → Bool
  | .raw .non => true
  | _ => false
def oIsN : MO := fun a _ O K => K (.bl (isNon a)) O
def oNotN : MO := fun a _ O K => K (.bl (!isNon a)) O
def oEq : MO := fun a b O K => match a, b with
  | .raw (.int i), .raw (.int j) => K (.bl (decide (i = j))) O
  | .raw (.str i), .raw (.str j) => K (.bl (decide (i = j))) O
  | .raw (.bl i), .raw (.bl j) => K (.bl (i == j)) O
  | _, _ => ∃ p q, toPyO O a = some p ∧ toPyO O b = some q ∧ SeqAt.shaped p = true ∧ SeqAt.shaped q = true ∧ K (.bl (PyData.eqv p q)) O
def oNe : MO := fun a b O K => match a, b with
  | .raw (.int i), .raw (.int j) => K (.bl (!decide (i = j))) O
  | .raw (.str i), .raw (.str j) => K (.bl (!decide (i = j))) O
  | .raw (.bl i), .raw (.bl j) => K (.bl (i != j)) O
  | _, _ => ∃ p q, toPyO O a = some p ∧ toPyO O b = some q ∧ SeqAt.shaped p = true ∧ SeqAt.shaped q = true ∧ K (.bl (!PyData.eqv p q)) O
def oIx : MO := fun a b O K => match b with
  | .raw (.int i) => (match a with
    | .scr ns => ∃ n, L2.atI ns i = some n ∧ K (.int n) O
    | _ => ∃ xs d, sqD O a = some xs ∧ L2.atI xs i = some d ∧ K d O)
  | _ => False
def cutD (xs : List D) (lo hi : Option Int) : List D := (xs.drop (HT.sIx xs.length 0 lo)).take (HT.sIx xs.length xs.length hi - HT.sIx xs.length 0 lo)
abbrev MP := GS → Ob → (Option Int → Ob → Prop) → Prop
def mPart (e : ME) : MP := fun G O K => e G O fun d O1 => match d with
  | .raw (.int i) => K (some i) O1
  | _ => False
def mNoPart : MP := fun _ O K => K none O
def mSl (a : ME) (lo hi : MP) : ME := fun G O K => a G O fun d O1 => lo G O1 fun l O2 => hi G O2 fun u O3 => match d with
  | .tup xs => K (.tup (cutD xs l u)) O3
  | _ => ∃ xs, lsD O3 d = some xs ∧ K (.lst (cutD xs l u)) O3
section
variable {c : Cl}
theorem so_int {g : Int → Int → V} : SO c (rI0 g) (oInt fun i j => .raw (g i j)) := by
  intro F0 O0 H0 G O S F σ H Q K x y d e f rx ry k h
  unfold oInt at h
  split at h
  · exact ⟨_, _, rx.raw_eq, ry.raw_eq, k _ _ O F H h f (.raw _)⟩
  · exact h.elim
theorem so_intC {C : Int → Int → Prop} {g : Int → Int → V} : SO c (rI C g) (oIntC C fun i j => .raw (g i j)) := by
  intro F0 O0 H0 G O S F σ H Q K x y d e f rx ry k h
  unfold oIntC at h
  split at h
  · exact ⟨_, _, rx.raw_eq, ry.raw_eq, h.1, k _ _ O F H h.2 f (.raw _)⟩
  · exact h.elim
theorem so_sub : SO c rSubI oSub := so_int
theorem so_mod : SO c rModI oMod := so_intC
theorem so_fdiv : SO c rFdivI oFdiv := so_intC
theorem so_pow : SO c rPowI oPow := so_intC
theorem so_lt : SO c rLtI oLt := so_int
theorem so_le : SO c rLeI oLe := so_int
theorem so_gt : SO c rGtI oGt := so_int
theorem so_ge : SO c rGeI oGe := so_int
theorem so_add : SO c (rAddU c.K) oAdd := by
  intro F0 O0 H0 G O S F σ H Q K x y d e f rx ry k h
  unfold oAdd at h
  split at h
  · exact .inl ⟨_, _, rx.raw_eq, ry.raw_eq, k _ _ O F H h f (.raw _)⟩
  · exact .inr (.inl ⟨_, _, rx.raw_eq, ry.raw_eq, Nat.le_trans h.1 (by decide), k _ _ O F H h.2 f (.raw _)⟩)
  · rename_i as bs
    obtain ⟨hl, hk⟩ := h
    obtain ⟨a, ws, rfl, h1, r1⟩ := f.tupOf rx
    obtain ⟨b, us, rfl, h2, r2⟩ := f.tupOf ry
    refine .inr (.inr (.inr ⟨a, b, ws, us, rfl, rfl, .inl (.inl h1), .inl (.inl h2), by rw [r1.length, r2.length]; exact Nat.le_trans hl (by decide), fun h => ?_, fun h h' => ?_, fun _ _ p hp => k _ _ _ _ _ hk (f.newT hp (r1.append r2)).1 (f.newT hp (r1.append r2)).2⟩))
    · have ea : as = [] := by
        have := r1.length; rw [h] at this; exact List.length_eq_zero_iff.mp this.symm
      refine k _ _ _ _ _ hk f ?_
      rw [ea]; exact ry
    · have eb : bs = [] := by
        have := r2.length; rw [h'] at this; exact List.length_eq_zero_iff.mp this.symm
      refine k _ _ _ _ _ hk f ?_
      rw [eb, List.append_nil]; exact rx
  · obtain ⟨as, bs, e1, e2, hl, hk⟩ := h
    obtain ⟨a, ws, rfl, h1, r1⟩ := f.lstOf rx e1
    obtain ⟨b, us, rfl, h2, r2⟩ := f.lstOf ry e2
    exact .inr (.inr (.inl ⟨a, b, ws, us, rfl, rfl, h1, h2, by rw [r1.length, r2.length]; exact Nat.le_trans hl (by decide), fun p hp => k _ _ _ _ _ hk (f.newL hp (r1.append r2)).1 (f.newL hp (r1.append r2)).2⟩))
theorem so_mul : SO c rMulU oMul := by
  intro F0 O0 H0 G O S F σ H Q K x y d e f rx ry k h
  unfold oMul at h
  split at h
  · exact .inl ⟨_, _, rx.raw_eq, ry.raw_eq, h.1, k _ _ O F H h.2 f (.raw _)⟩
  · rename_i j _
    obtain ⟨xs, e1, h0, h1, h2, hk⟩ := h
    obtain ⟨a, ws, rfl, ha, r1⟩ := f.lstOf rx e1
    have hz : ws.length * j.toNat ≤ sizeLine := by
      rw [r1.length]
      have : j.toNat ≤ 1000 := by omega
      exact Nat.le_trans (Nat.mul_le_mul h2 this) (by decide)
    exact .inr ⟨a, j, ws, rfl, ry.raw_eq, ha, by omega, by omega, hz, fun p hp => k _ _ _ _ _ hk (f.newL hp (r1.rep _)).1 (f.newL hp (r1.rep _)).2⟩
  · exact h.elim
theorem su_neg : SU c rNegI oNeg := by
  intro F0 O0 H0 G O S F σ H Q K x d f rx k h
  unfold oNeg at h
  split at h
  · exact ⟨_, rx.raw_eq, k _ _ O F H h f (.raw _)⟩
  · exact h.elim
theorem Rp.isNon {F : Hp} {v : V} {d : D} (r : Rp c F v d) : decide (v = .non) = DN.isNon d := by
  cases r with
  | raw v => cases v <;> simp [DN.isNon]
  | _ => simp [DN.isNon]
theorem se_isN {ta : TE} {ma : ME} (ha : SE c ta ma) : SE c (tOp rIsNn ta (tC .non)) (mOp oIsN ma (mC .non)) := by
  intro F0 O0 H0 G O S F σ H Q K f k h
  exact ha F0 O0 H0 G O S F σ H _ _ f (fun x dx O1 F1 H1 h1 f1 r1 => ⟨rfl, by rw [r1.isNon]; exact k _ _ O1 F1 H1 h1 f1 (.raw _)⟩) h
theorem se_notN {ta : TE} {ma : ME} (ha : SE c ta ma) : SE c (tOp rNotNn ta (tC .non)) (mOp oNotN ma (mC .non)) := by
  intro F0 O0 H0 G O S F σ H Q K f k h
  exact ha F0 O0 H0 G O S F σ H _ _ f (fun x dx O1 F1 H1 h1 f1 r1 => ⟨rfl, by rw [r1.isNon]; exact k _ _ O1 F1 H1 h1 f1 (.raw _)⟩) h
theorem dec_bl (i j : Bool) : decide (V.bl i = V.bl j) = (i == j) := by cases i <;> cases j <;> rfl
theorem so_eq : SO c (rEqU c.K) oEq := by
  intro F0 O0 H0 G O S F σ H Q K x y d e f rx ry k h
  unfold oEq at h
  split at h
  · have e1 := rx.raw_eq; have e2 := ry.raw_eq; subst e1 e2
    exact .inr ⟨rfl, by simp only [V.int.injEq]; exact k _ _ O F H h f (.raw _)⟩
  · have e1 := rx.raw_eq; have e2 := ry.raw_eq; subst e1 e2
    exact .inr ⟨rfl, by simp only [V.str.injEq]; exact k _ _ O F H h f (.raw _)⟩
  · have e1 := rx.raw_eq; have e2 := ry.raw_eq; subst e1 e2
    exact .inr ⟨rfl, by rw [dec_bl]; exact k _ _ O F H h f (.raw _)⟩
  · obtain ⟨p, q, hp, hq, sp, sq, hk⟩ := h
    exact .inl ⟨p, q, f.dpO rx hp, f.dpO ry hq, sp, sq, k _ _ O F H hk f (.raw _)⟩
theorem so_ne : SO c (rNeU c.K) oNe := by
  intro F0 O0 H0 G O S F σ H Q K x y d e f rx ry k h
  unfold oNe at h
  split at h
  · have e1 := rx.raw_eq; have e2 := ry.raw_eq; subst e1 e2
    exact .inr ⟨rfl, by simp only [V.int.injEq]; exact k _ _ O F H h f (.raw _)⟩
  · have e1 := rx.raw_eq; have e2 := ry.raw_eq; subst e1 e2
    exact .inr ⟨rfl, by simp only [V.str.injEq]; exact k _ _ O F H h f (.raw _)⟩
  · have e1 := rx.raw_eq; have e2 := ry.raw_eq; subst e1 e2
    exact .inr ⟨rfl, by rw [dec_bl]; exact k _ _ O F H h f (.raw _)⟩
  · obtain ⟨p, q, hp, hq, sp, sq, hk⟩ := h
    exact .inl ⟨p, q, f.dpO rx hp, f.dpO ry hq, sp, sq, k _ _ O F H hk f (.raw _)⟩
theorem RpL.atI {F : Hp} {vs : List V} {ds : List D} {d : D} {i : Int} (r : RpL c F vs ds) (h : L2.atI ds i = some d) : ∃ v, L2.atI vs i = some v ∧ Rp c F v d := by
  unfold L2.atI at h ⊢
  rw [r.length]
  cases q : ixN ds.length i with
  | none => rw [q] at h; cases h
  | some j =>
    rw [q] at h
    obtain ⟨v, a, b⟩ := r.get (i := j) (d := d) h
    exact ⟨v, a, b⟩
theorem so_ix : SO c (rIx c.K) oIx := by
  intro F0 O0 H0 G O S F σ H Q K x y d e f rx ry k h
  unfold oIx at h
  split at h
  · rename_i i
    split at h
    · rename_i ns
      obtain ⟨n, hn, hk⟩ := h
      obtain ⟨a, rfl, hs⟩ := rx.scr_at
      refine .inl ⟨a, _, i, .int n, rfl, ry.raw_eq, f.sub.sqL hs, ?_, k _ _ O F H hk f (.raw _)⟩
      unfold L2.atI at hn ⊢
      rw [List.length_map]
      cases q : ixN ns.length i with
      | none => rw [q] at hn; cases hn
      | some j =>
        rw [q] at hn
        have hn' : ns[j]? = some n := hn
        show (ns.map V.int)[j]? = some (.int n)
        rw [List.getElem?_map, hn']; rfl
    · obtain ⟨xs, d', hs, hi, hk⟩ := h
      rcases sqD_of hs with rfl | hs
      · obtain ⟨a, ws, rfl, h1, r1⟩ := f.tupOf rx
        obtain ⟨v, h2, r2⟩ := r1.atI hi
        exact .inr (.inl ⟨a, ws, i, v, rfl, ry.raw_eq, .inl (.inl h1), h2, k v _ O F H hk f r2⟩)
      · obtain ⟨a, ws, rfl, h1, r1⟩ := f.lstOf rx hs
        obtain ⟨v, h2, r2⟩ := r1.atI hi
        exact .inl ⟨a, ws, i, v, rfl, ry.raw_eq, .inl (.inl h1), h2, k v _ O F H hk f r2⟩
  · exact h.elim
/-! slices -/
def SP (c : Cl) (tp : TO) (mp : MP) : Prop := ∀ F0 O0 H0 G O S F σ H R K, FM ⟨c, F0, O0, H0⟩ G O S F σ H → (∀ o O' F' H', K o O' → FM ⟨c, F0, O0, H0⟩ G O' S F' σ H' → R o H') → mp G O K → tp σ H R
theorem sp_part {te : TE} {me : ME} (ha : SE c te me) : SP c (tPart te) (mPart me) := by
  intro F0 O0 H0 G O S F σ H R K f k h
  refine ha F0 O0 H0 G O S F σ H _ _ f (fun x dx O1 F1 H1 h1 f1 r1 => ?_) h
  try dsimp only at h1
  split at h1
  · exact ⟨_, r1.raw_eq, k _ O1 F1 H1 h1 f1⟩
  · exact h1.elim
theorem sp_none : SP c tNoPart mNoPart := fun F0 O0 H0 G O S F σ H R K f k h => k none O F H h f
theorem RpL.cut {F : Hp} {vs : List V} {ds : List D} {lo hi : Option Int} (r : RpL c F vs ds) : RpL c F (cutV vs lo hi) (cutD ds lo hi) := by
  unfold cutV cutD
  rw [r.length]
  exact (r.drop _).take _
theorem se_sl {te : TE} {me : ME} {tl th : TO} {ml mh : MP} (ha : SE c te me) (hl : SP c tl ml) (hh : SP c th mh) : SE c (tSl (rSlU c.K) te tl th) (mSl me ml mh) := by
  intro F0 O0 H0 G O S F σ H Q K f k h
  refine ha F0 O0 H0 G O S F σ H _ _ f (fun x dx O1 F1 H1 h1 f1 r1 => ?_) h
  refine hl F0 O0 H0 G O1 ((x, dx) :: S) F1 σ H1 _ _ (f1.push r1) (fun l O2 F2 H2 h2 f2 => ?_) h1
  refine hh F0 O0 H0 G O2 ((x, dx) :: S) F2 σ H2 _ _ f2 (fun u O3 F3 H3 h3 f3 => ?_) h2
  have rx := f3.top
  have f4 := f3.pop
  try dsimp only at h3
  split at h3
  · rename_i xs
    obtain ⟨a, ws, rfl, e1, rl⟩ := f4.tupOf rx
    refine .inr ⟨a, ws, rfl, .inl (.inl e1), fun hw => ?_, fun _ p hp => k _ _ _ _ _ h3 (f4.newT hp rl.cut).1 (f4.newT hp rl.cut).2⟩
    refine k _ _ _ _ _ h3 f4 ?_
    have q1 : HT.sIx xs.length 0 l = 0 := by rw [← rl.length]; exact hw.1
    have q2 : HT.sIx xs.length xs.length u = xs.length := by rw [← rl.length]; exact hw.2
    have : cutD xs l u = xs := by
      unfold cutD
      rw [q1, q2, List.drop_zero, Nat.sub_zero, List.take_length]
    rw [this]; exact rx
  · obtain ⟨xs, e1, hk⟩ := h3
    obtain ⟨a, ws, rfl, h1', rl⟩ := f4.lstOf rx e1
    exact .inl ⟨a, ws, rfl, .inl (.inl h1'), fun p hp => k _ _ _ _ _ hk (f4.newL hp rl.cut).1 (f4.newL hp rl.cut).2⟩
end
/-! ### built-ins -/
def bLen : List D → Ob → KE → Prop := fun ds O K => match ds with
  | [.scr ns] => K (.int (ns.length : Int)) O
  | [d] => ∃ xs, sqD O d = some xs ∧ K (.int (xs.length : Int)) O
  | _ => False
def bMax2 : List D → Ob → KE → Prop := fun ds O K => match ds with
  | [.raw (.int i), .raw (.int j)] => K (.int (max i j)) O
  | _ => False
def bMin2 : List D → Ob → KE → Prop := fun ds O K => match ds with
  | [.raw (.int i), .raw (.int j)] => K (.int (min i j)) O
  | _ => False
def bInt : List D → Ob → KE → Prop := fun ds O K => match ds with
  | [.raw (.int i)] => K (.int i) O
  | [.raw (.bl b)] => K (.int (if b then 1 else 0)) O
  | _ => False
def bTuple : List D → Ob → KE → Prop := fun ds O K => match ds with
  | [d] => ∃ xs, sqD O d = some xs ∧ K (.tup xs) O
  | _ => False
def bList : List D → Ob → KE → Prop := fun ds O K => match ds with
  | [d] => ∃ xs, sqD O d = some xs ∧ K (.lst xs) O
  | _ => False
def bListO : List D → Ob → KE → Prop := fun ds O K => match ds with
  | [d] => ∃ xs, sqD O d = some xs ∧ ∀ p, O p = none → K (.at p) (put O p (.lst xs))
  | _ => False
/-- the least, the greatest of ints -/
def bMinL : List D → Ob → KE → Prop := fun ds O K => match ds with
  | [d] => ∃ ns : List Int, lsD O d = some (ns.map D.int) ∧ 0 < ns.length ∧ ∀ m, m ∈ ns → (∀ y, y ∈ ns → m ≤ y) → K (.int m) O
  | _ => False
def bMaxL : List D → Ob → KE → Prop := fun ds O K => match ds with
  | [d] => ∃ ns : List Int, lsD O d = some (ns.map D.int) ∧ 0 < ns.length ∧ ∀ m, m ∈ ns → (∀ y, y ∈ ns → y ≤ m) → K (.int m) O
  | _ => False
def bAny : List D → Ob → KE → Prop := fun ds O K => match ds with
  | [d] => ∃ ns : List Bool, lsD O d = some (ns.map D.bl) ∧ K (.bl (ns.any id)) O
  | _ => False
def bAll : List D → Ob → KE → Prop := fun ds O K => match ds with
  | [d] => ∃ ns : List Bool, lsD O d = some (ns.map D.bl) ∧ K (.bl (ns.all id)) O
  | _ => False
section
variable {c : Cl}
theorem sb_max2 : SB c cMax2 bMax2 := by
  intro F0 O0 H0 G O S F σ H Q K vs ds f r k h
  unfold bMax2 at h
  split at h
  · obtain ⟨v, ws, rfl, a, r⟩ := r.cons_of
    obtain ⟨w, ws, rfl, b, r⟩ := r.cons_of
    have := r.nil_eq; subst this
    exact ⟨_, _, by rw [a.raw_eq, b.raw_eq], by rw [DL.imax_eq]; exact k _ _ O F H h f (.raw _)⟩
  · exact h.elim
theorem sb_min2 : SB c cMin2 bMin2 := by
  intro F0 O0 H0 G O S F σ H Q K vs ds f r k h
  unfold bMin2 at h
  split at h
  · obtain ⟨v, ws, rfl, a, r⟩ := r.cons_of
    obtain ⟨w, ws, rfl, b, r⟩ := r.cons_of
    have := r.nil_eq; subst this
    exact ⟨_, _, by rw [a.raw_eq, b.raw_eq], by rw [DL.imin_eq]; exact k _ _ O F H h f (.raw _)⟩
  · exact h.elim
theorem RpL.one_at {F : Hp} {vs : List V} {d : D} (r : RpL c F vs [d]) : ∃ v, vs = [v] ∧ Rp c F v d := by
  obtain ⟨v, ws, rfl, a, r⟩ := r.cons_of
  have := r.nil_eq; subst this
  exact ⟨v, rfl, a⟩
theorem sb_int : SB c cInt1 bInt := by
  intro F0 O0 H0 G O S F σ H Q K vs ds f r k h
  unfold bInt at h
  split at h
  · obtain ⟨v, rfl, a⟩ := r.one_at
    exact .inl ⟨_, by rw [a.raw_eq], k _ _ O F H h f (.raw _)⟩
  · obtain ⟨v, rfl, a⟩ := r.one_at
    exact .inr ⟨_, by rw [a.raw_eq], k _ _ O F H h f (.raw _)⟩
  · exact h.elim
theorem sb_tuple : SB c (cTuple c.K) bTuple := by
  intro F0 O0 H0 G O S F σ H Q K vs ds f r k h
  unfold bTuple at h
  split at h
  · obtain ⟨v, rfl, a⟩ := r.one_at
    obtain ⟨xs, e, hk⟩ := h
    rcases sqD_of e with rfl | e
    · obtain ⟨p, ws, rfl, h1, r1⟩ := f.tupOf a
      exact ⟨p, ws, rfl, .inr ⟨.inl (.inl h1), k _ _ O F H hk f a⟩⟩
    · obtain ⟨p, ws, rfl, h1, r1⟩ := f.lstOf a e
      exact ⟨p, ws, rfl, .inl ⟨.inl (.inl h1), fun l hl => k _ _ _ _ _ hk (f.newT hl r1).1 (f.newT hl r1).2⟩⟩
  · exact h.elim
theorem sb_list : SB c (cList c.K) bList := by
  intro F0 O0 H0 G O S F σ H Q K vs ds f r k h
  unfold bList at h
  split at h
  · obtain ⟨v, rfl, a⟩ := r.one_at
    obtain ⟨xs, e, hk⟩ := h
    rcases sqD_of e with rfl | e
    · obtain ⟨p, ws, rfl, h1, r1⟩ := f.tupOf a
      exact ⟨p, ws, rfl, .inr (.inl (.inl h1)), fun l hl => k _ _ _ _ _ hk (f.newL hl r1).1 (f.newL hl r1).2⟩
    · obtain ⟨p, ws, rfl, h1, r1⟩ := f.lstOf a e
      exact ⟨p, ws, rfl, .inl (.inl (.inl h1)), fun l hl => k _ _ _ _ _ hk (f.newL hl r1).1 (f.newL hl r1).2⟩
  · exact h.elim
theorem sb_listO : SB c (cListO c.K) bListO := by
  intro F0 O0 H0 G O S F σ H Q K vs ds f r k h
  unfold bListO at h
  split at h
  · obtain ⟨v, rfl, a⟩ := r.one_at
    obtain ⟨xs, e, hk⟩ := h
    have fin : ∀ (l : Addr) (ws : List V), H l = none → RpL c F ws xs → Q (.ref l) (upd H l (.lst ws)) := fun l ws hl r1 =>
      k _ _ _ _ _ (hk l (f.mm.free hl).2) (f.step (f.mm.allocO hl r1).1 (f.mm.allocO hl r1).2) (.raw _)
    rcases sqD_of e with rfl | e
    · obtain ⟨p, ws, rfl, h1, r1⟩ := f.tupOf a
      exact ⟨p, ws, rfl, .inr (.inl (.inl h1)), fun l hl => fin l ws hl r1⟩
    · obtain ⟨p, ws, rfl, h1, r1⟩ := f.lstOf a e
      exact ⟨p, ws, rfl, .inl (.inl (.inl h1)), fun l hl => fin l ws hl r1⟩
  · exact h.elim
theorem sb_minL : SB c (cMinL c.K) bMinL := by
  intro F0 O0 H0 G O S F σ H Q K vs ds f r k h
  unfold bMinL at h
  split at h
  · obtain ⟨v, rfl, a⟩ := r.one_at
    obtain ⟨ns, e, h0, hk⟩ := h
    obtain ⟨p, ws, rfl, h1, r1⟩ := f.lstOf a e
    have e := r1.ints; subst e
    exact ⟨p, ns, rfl, .inl (.inl h1), h0, fun m q1 q2 => k _ _ O F H (hk m q1 q2) f (.raw _)⟩
  · exact h.elim
theorem sb_maxL : SB c (cMaxL c.K) bMaxL := by
  intro F0 O0 H0 G O S F σ H Q K vs ds f r k h
  unfold bMaxL at h
  split at h
  · obtain ⟨v, rfl, a⟩ := r.one_at
    obtain ⟨ns, e, h0, hk⟩ := h
    obtain ⟨p, ws, rfl, h1, r1⟩ := f.lstOf a e
    have e := r1.ints; subst e
    exact ⟨p, ns, rfl, .inl (.inl h1), h0, fun m q1 q2 => k _ _ O F H (hk m q1 q2) f (.raw _)⟩
  · exact h.elim
theorem sb_any : SB c (cAny c.K) bAny := by
  intro F0 O0 H0 G O S F σ H Q K vs ds f r k h
  unfold bAny at h
  split at h
  · obtain ⟨v, rfl, a⟩ := r.one_at
    obtain ⟨ns, e, hk⟩ := h
    obtain ⟨p, ws, rfl, h1, r1⟩ := f.lstOf a e
    have e := r1.bls; subst e
    exact ⟨p, ns, rfl, .inl (.inl h1), k _ _ O F H hk f (.raw _)⟩
  · exact h.elim
theorem sb_all : SB c (cAll c.K) bAll := by
  intro F0 O0 H0 G O S F σ H Q K vs ds f r k h
  unfold bAll at h
  split at h
  · obtain ⟨v, rfl, a⟩ := r.one_at
    obtain ⟨ns, e, hk⟩ := h
    obtain ⟨p, ws, rfl, h1, r1⟩ := f.lstOf a e
    have e := r1.bls; subst e
    exact ⟨p, ns, rfl, .inl (.inl h1), k _ _ O F H hk f (.raw _)⟩
  · exact h.elim
theorem sb_len : SB c (cLen c.K) bLen := by
  intro F0 O0 H0 G O S F σ H Q K vs ds f r k h
  unfold bLen at h
  split at h
  · rename_i ns
    obtain ⟨v, rfl, a⟩ := r.one_at
    obtain ⟨p, rfl, hs⟩ := a.scr_at
    exact ⟨_, ns.length, rfl, .inl ⟨_, f.sub.sqL hs, by rw [List.length_map]⟩, k _ _ O F H h f (.raw _)⟩
  · obtain ⟨v, rfl, a⟩ := r.one_at
    obtain ⟨xs, e, hk⟩ := h
    rcases sqD_of e with rfl | e
    · obtain ⟨p, ws, rfl, h1, r1⟩ := f.tupOf a
      exact ⟨_, xs.length, rfl, .inr ⟨ws, .inl (.inl h1), r1.length.symm⟩, k _ _ O F H hk f (.raw _)⟩
    · obtain ⟨p, ws, rfl, h1, r1⟩ := f.lstOf a e
      exact ⟨_, xs.length, rfl, .inl ⟨ws, .inl (.inl h1), r1.length.symm⟩, k _ _ O F H hk f (.raw _)⟩
  · exact h.elim
end
end DN

set_option maxHeartbeats 4000000
/-! DNd: loops, comprehensions. -/
namespace DN
open PySem PySem.Spec PyProof.Rows L2
open DL (Sub sub_upd sub_upd2 iSeqU iZipU Src Izu Prd tListZip tLcO)
/-- where the items come from, if that may change -/
abbrev Sr := Option (Addr × List D)
def okS : Sr → Ob → Prop
  | none, _ => True
  | some (p, xs), O => O p = some (.lst xs)
def chk (s : Sr) (O : Ob) (P : Prop) : Prop := match s with
  | none => P
  | some (p, xs) => O p = some (.lst xs) ∧ P
theorem chk_of {s : Sr} {O : Ob} {P : Prop} (h : chk s O P) : okS s O ∧ P := by
  cases s with
  | none => exact ⟨trivial, h⟩
  | some q => exact h
abbrev MI := GS → Ob → (List D → Sr → Ob → Prop) → Prop
def mSeqI (e : ME) : MI := fun G O R => e G O fun d O1 => match d with
  | .raw (.ref p) => ∃ xs, O1 p = some (.lst xs) ∧ R xs (some (p, xs)) O1
  | _ => ∃ xs, sqD O1 d = some xs ∧ R xs none O1
def rngD (lo : Int) (n : Nat) : List D := (List.range n).map fun (i : Nat) => D.int (lo + (i : Int))
def mRng1 (e : ME) : MI := fun G O R => e G O fun d O1 => match d with
  | .raw (.int j) => -1000000 ≤ j ∧ j ≤ 1000000 ∧ R (rngD 0 j.toNat) none O1
  | _ => False
def mRng2 (a b : ME) : MI := fun G O R => a G O fun d O1 => b G O1 fun e O2 => match d, e with
  | .raw (.int i), .raw (.int j) => (-1000000 ≤ i ∧ i ≤ 1000000) ∧ (-1000000 ≤ j ∧ j ≤ 1000000) ∧ R (rngD i (j - i).toNat) none O2
  | _, _ => False
/-- a tuple, or a list that never changes -/
def trD : D → Option (List D)
  | .tup xs => some xs
  | .lst xs => some xs
  | _ => none
def pairs (xs ys : List D) : List D := List.zipWith (fun x y => .tup [x, y]) xs ys
def mZip (sb : Bool) (a b : ME) : MI := fun G O R => a G O fun d O1 => b G O1 fun e O2 => ∃ xs ys, trD d = some xs ∧ trD e = some ys ∧ (sb = true → xs.length = ys.length) ∧ R (pairs xs ys) none O2
def mForL (s : Sr) (g : MG) (b : MS) (B : MEnds) : List D → GS → Ob → Prop
  | [], G, O => chk s O (B.nx G O)
  | x :: xs, G, O => chk s O (g x G O fun G1 O1 => b { B with nx := mForL s g b B xs, ct := mForL s g b B xs, bk := B.nx } G1 O1)
def mFor (i : MI) (g : MG) (b : MS) : MS := fun B G O => i G O fun xs s O1 => mForL s g b B xs G O1
def wipeG (G : GS) : List Nat → GS
  | [] => G
  | i :: r => (wipeG G r).set i none
def mLcL (s : Sr) (g : MG) (t : MT) (e : ME) (G : GS) : List D → Ob → (List D → Ob → Prop) → Prop
  | [], O, R => chk s O (R [] O)
  | x :: xs, O, R => chk s O (g x G O fun G1 O1 => t G1 O1 fun b O2 => br b (e G1 O2 fun d O3 => mLcL s g t e G xs O3 fun r O4 => R (d :: r) O4) (mLcL s g t e G xs O2 R))
def mLc (i : MI) (g : MG) (t : MT) (e : ME) (ws : List Nat) : ME := fun G O K => i G O fun xs s O1 => xs.length ≤ 100000 ∧ mLcL s g t e (wipeG G ws) xs O1 fun r O2 => K (.lst r) O2
def mLcO (i : MI) (g : MG) (t : MT) (e : ME) (ws : List Nat) : ME := fun G O K => i G O fun xs s O1 => xs.length ≤ 100000 ∧ mLcL s g t e (wipeG G ws) xs O1 fun r O2 => ∀ p, O2 p = none → K (.at p) (put O2 p (.lst r))
def mWhN (t : MT) (b : MS) (B : MEnds) : Nat → GS → Ob → Prop
  | 0, _, _ => False
  | n + 1, G, O => t G O fun c O1 => br c (b { B with nx := mWhN t b B n, ct := mWhN t b B n, bk := B.nx } G O1) (B.nx G O1)
def mWhile (t : MT) (b : MS) : MS := fun B G O => ∃ n, mWhN t b B n G O
/-! ### iterators -/
structure DW (c : Cl) (J : It) (xs : List D) (s : Sr) (Sx : List (V × D)) : Prop where
  goes : ∀ i F O H, i < xs.length → (∀ p ∈ Sx, Rp c F p.1 p.2) → Mm c F O H → okS s O → J.go i H
  stops : ∀ F O H, (∀ p ∈ Sx, Rp c F p.1 p.2) → Mm c F O H → okS s O → J.stop xs.length H
  yields : ∀ i d F O H x H', xs[i]? = some d → (∀ p ∈ Sx, Rp c F p.1 p.2) → Mm c F O H → okS s O → J.yld i H x H' → ∃ F', Mm c F' O H' ∧ Go F O H F' O H' ∧ Rp c F' x d
def SI (c : Cl) (wi : TI) (mi : MI) : Prop := ∀ F0 O0 H0 G O S F σ H R K, FM ⟨c, F0, O0, H0⟩ G O S F σ H → (∀ J xs s Sx O' F' H', K xs s O' → DW c J xs s Sx → FM ⟨c, F0, O0, H0⟩ G O' (Sx ++ S) F' σ H' → R J H') → mi G O K → wi σ H R
section
variable {c : Cl}
theorem dw_list {a : Addr} {ds : List D} : DW c (Itl c.K a) ds none [(.ref a, .lst ds)] := by
  have src : ∀ F H, (∀ p ∈ [((.ref a : V), D.lst ds)], Rp c F p.1 p.2) → Sub F H → ∃ ws, SqL c.K H a ws ∧ RpL c F ws ds := fun F H h s => by
    obtain ⟨b, ws, e, h1, r⟩ := (h _ List.mem_cons_self).lst_at
    cases e
    exact ⟨ws, .inl (.inl (s _ _ h1)), r⟩
  refine ⟨fun i F O H hi h m _ => ?_, fun F O H h m _ => ?_, fun i d F O H x H' hi h m _ y => ?_⟩
  · obtain ⟨ws, q, r⟩ := src F H h m.sub
    obtain ⟨v, hv, _⟩ := r.get (i := i) (List.getElem?_eq_getElem hi)
    exact ⟨ws, v, q, hv⟩
  · obtain ⟨ws, q, r⟩ := src F H h m.sub
    exact ⟨ws, q, by rw [r.length]; exact Nat.le_refl _⟩
  · obtain ⟨ws, q, r⟩ := src F H h m.sub
    obtain ⟨d', hd, rd⟩ := r.getV (y.2 ws q)
    rw [hi] at hd; cases hd
    exact ⟨F, by rw [y.1]; exact m, by rw [y.1]; exact .rfl, rd⟩
theorem dw_tup {a : Addr} {ds : List D} : DW c (Itt c.K a) ds none [(.ref a, .tup ds)] := by
  have src : ∀ F H, (∀ p ∈ [((.ref a : V), D.tup ds)], Rp c F p.1 p.2) → Sub F H → ∃ ws, SqT c.K H a ws ∧ RpL c F ws ds := fun F H h s => by
    obtain ⟨b, ws, e, h1, r⟩ := (h _ List.mem_cons_self).tup_at
    cases e
    exact ⟨ws, .inl (.inl (s _ _ h1)), r⟩
  refine ⟨fun i F O H hi h m _ => ?_, fun F O H h m _ => ?_, fun i d F O H x H' hi h m _ y => ?_⟩
  · obtain ⟨ws, q, r⟩ := src F H h m.sub
    obtain ⟨v, hv, _⟩ := r.get (i := i) (List.getElem?_eq_getElem hi)
    exact ⟨ws, v, q, hv⟩
  · obtain ⟨ws, q, r⟩ := src F H h m.sub
    exact ⟨ws, q, by rw [r.length]; exact Nat.le_refl _⟩
  · obtain ⟨ws, q, r⟩ := src F H h m.sub
    obtain ⟨d', hd, rd⟩ := r.getV (y.2 ws q)
    rw [hi] at hd; cases hd
    exact ⟨F, by rw [y.1]; exact m, by rw [y.1]; exact .rfl, rd⟩
theorem dw_own {a : Addr} {ds : List D} : DW c (Itl c.K a) ds (some (a, ds)) [] := by
  have src : ∀ F O H, Mm c F O H → okS (some (a, ds)) O → ∃ ws, SqL c.K H a ws ∧ RpL c F ws ds := fun F O H m o => by
    obtain ⟨ws, h1, r⟩ := m.own a ds o
    exact ⟨ws, .inl (.inl h1), r⟩
  refine ⟨fun i F O H hi _ m o => ?_, fun F O H _ m o => ?_, fun i d F O H x H' hi _ m o y => ?_⟩
  · obtain ⟨ws, q, r⟩ := src F O H m o
    obtain ⟨v, hv, _⟩ := r.get (i := i) (List.getElem?_eq_getElem hi)
    exact ⟨ws, v, q, hv⟩
  · obtain ⟨ws, q, r⟩ := src F O H m o
    exact ⟨ws, q, by rw [r.length]; exact Nat.le_refl _⟩
  · obtain ⟨ws, q, r⟩ := src F O H m o
    obtain ⟨d', hd, rd⟩ := r.getV (y.2 ws q)
    rw [hi] at hd; cases hd
    exact ⟨F, by rw [y.1]; exact m, by rw [y.1]; exact .rfl, rd⟩
theorem rng_len {lo : Int} {n : Nat} : (rngD lo n).length = n := by unfold rngD; rw [List.length_map, List.length_range]
theorem rng_at {lo : Int} {n i : Nat} {d : D} (h : (rngD lo n)[i]? = some d) : d = .int (lo + (i : Int)) := by
  unfold rngD at h
  rw [List.getElem?_map] at h
  by_cases hi : i < n
  · rw [List.getElem?_range hi] at h; cases h; rfl
  · rw [List.getElem?_eq_none (by rw [List.length_range]; omega)] at h; cases h
theorem dw_rng {lo : Int} {n : Nat} : DW c (Itr lo n) (rngD lo n) none [] :=
  ⟨fun i _ _ _ hi _ _ _ => by rw [rng_len] at hi; exact hi, fun _ _ _ _ _ _ => by rw [rng_len]; exact Nat.le_refl _, fun i d F O H x H' hi _ m _ y => ⟨F, by rw [y.1]; exact m, by rw [y.1]; exact .rfl, by rw [y.2, rng_at hi]; exact .raw _⟩⟩
theorem si_seq {te : TE} {me : ME} (ha : SE c te me) : SI c (iSeqU c.K te) (mSeqI me) := by
  intro F0 O0 H0 G O S F σ H R K f k h
  refine ha F0 O0 H0 G O S F σ H _ _ f (fun x dx O1 F1 H1 h1 f1 r1 => ?_) h
  split at h1
  · rename_i p
    obtain ⟨xs, e, hk⟩ := h1
    have e0 := r1.raw_eq; subst e0
    obtain ⟨ws, q, _⟩ := f1.mm.own p xs e
    exact ⟨p, rfl, .inl ⟨⟨ws, .inl (.inl q)⟩, k _ _ _ [] _ _ _ hk dw_own f1⟩⟩
  · rename_i hn
    obtain ⟨xs, e, hk⟩ := h1
    rcases sqD_of e with rfl | e
    · obtain ⟨a, ws, rfl, q, _⟩ := f1.tupOf r1
      exact ⟨a, rfl, .inr ⟨⟨ws, .inl (.inl q)⟩, k _ _ _ [(.ref a, .tup xs)] _ _ _ hk dw_tup (f1.push r1)⟩⟩
    · cases dx with
      | lst ys =>
        simp only [lsD] at e; cases e
        obtain ⟨a, ws, rfl, q, _⟩ := r1.lst_at
        exact ⟨a, rfl, .inl ⟨⟨ws, .inl (.inl (f1.sub _ _ q))⟩, k _ _ _ [(.ref a, .lst xs)] _ _ _ hk dw_list (f1.push r1)⟩⟩
      | raw w =>
        cases w with
        | ref p => exact (hn p rfl).elim
        | _ => cases e
      | _ => cases e
theorem si_rng1 {te : TE} {me : ME} (ha : SE c te me) : SI c (iRng1 (tCons te tNil)) (mRng1 me) := by
  intro F0 O0 H0 G O S F σ H R K f k h
  refine ha F0 O0 H0 G O S F σ H _ _ f (fun x dx O1 F1 H1 h1 f1 r1 => ?_) h
  split at h1
  · rename_i j
    obtain ⟨q1, q2, hk⟩ := h1
    have e := r1.raw_eq; subst e
    exact ⟨j, rfl, by omega, by omega, k _ _ _ [] _ _ _ hk dw_rng f1⟩
  · exact h1.elim
theorem si_rng2 {ta tb : TE} {ma mb : ME} (ha : SE c ta ma) (hb : SE c tb mb) : SI c (iRng2 (tCons ta (tCons tb tNil))) (mRng2 ma mb) := by
  intro F0 O0 H0 G O S F σ H R K f k h
  refine ha F0 O0 H0 G O S F σ H _ _ f (fun x dx O1 F1 H1 h1 f1 r1 => ?_) h
  refine hb F0 O0 H0 G O1 ((x, dx) :: S) F1 σ H1 _ _ (f1.push r1) (fun y dy O2 F2 H2 h2 f2 r2 => ?_) h1
  split at h2
  · rename_i i j
    obtain ⟨q1, q2, hk⟩ := h2
    have e := r2.raw_eq; subst e
    have e := f2.top.raw_eq; subst e
    exact ⟨i, j, rfl, ⟨by omega, by omega, by omega, by omega⟩, k _ _ _ [] _ _ _ hk dw_rng f2.pop⟩
  · exact h2.elim
theorem trD_of {d : D} {xs : List D} (h : trD d = some xs) : d = .tup xs ∨ d = .lst xs := by
  cases d with
  | tup ys => simp only [trD] at h; cases h; exact .inl rfl
  | lst ys => simp only [trD] at h; cases h; exact .inr rfl
  | _ => cases h
/-- a sequence known for ever: which, and how it is told of again -/
theorem tr_src {F H : Hp} {v : V} {d : D} {xs : List D} (r : Rp c F v d) (h : trD d = some xs) (s : Sub F H) : ∃ k a ws o, v = .ref a ∧ Rp c F v (.pin o) ∧ Src k c.K H a ws ∧ RpL c F ws xs ∧ ∀ F' H', Rp c F' v (.pin o) → Rp c F' v d → Sub F' H' → Src k c.K H' a ws ∧ RpL c F' ws xs := by
  rcases trD_of h with rfl | rfl
  · obtain ⟨a, ws, rfl, h, rl⟩ := r.tup_at
    refine ⟨true, a, ws, .tup ws, rfl, .pin h, .inl (.inl (s _ _ h)), rl, fun F' H' p r' s => ?_⟩
    obtain ⟨b, e, hb⟩ := p.pin_at
    cases e
    obtain ⟨b, ws', e, hb', rl'⟩ := r'.tup_at
    cases e
    rw [hb] at hb'
    cases hb'
    exact ⟨.inl (.inl (s _ _ hb)), rl'⟩
  · obtain ⟨a, ws, rfl, h, rl⟩ := r.lst_at
    refine ⟨false, a, ws, .lst ws, rfl, .pin h, .inl (.inl (s _ _ h)), rl, fun F' H' p r' s => ?_⟩
    obtain ⟨b, e, hb⟩ := p.pin_at
    cases e
    obtain ⟨b, ws', e, hb', rl'⟩ := r'.lst_at
    cases e
    rw [hb] at hb'
    cases hb'
    exact ⟨.inl (.inl (s _ _ hb)), rl'⟩
theorem pairs_at {xs ys : List D} {i : Nat} {d : D} (h : (pairs xs ys)[i]? = some d) : ∃ x y, xs[i]? = some x ∧ ys[i]? = some y ∧ d = .tup [x, y] := by
  unfold pairs at h
  rw [List.getElem?_zipWith] at h
  split at h
  · rename_i x y e1 e2; cases h; exact ⟨x, y, e1, e2, rfl⟩
  · cases h
theorem pairs_len (xs ys : List D) : (pairs xs ys).length = min xs.length ys.length := by unfold pairs; rw [List.length_zipWith]
theorem si_zip {ta tb : TE} {ma mb : ME} {sb : Bool} (ha : SE c ta ma) (hb : SE c tb mb) : SI c (iZipU c.K sb (tCons ta (tCons tb tNil))) (mZip sb ma mb) := by
  intro F0 O0 H0 G O S F σ H R K f k h
  refine ha F0 O0 H0 G O S F σ H _ _ f (fun x dx O1 F1 H1 h1 f1 r1 => ?_) h
  refine hb F0 O0 H0 G O1 ((x, dx) :: S) F1 σ H1 _ _ (f1.push r1) (fun y dy O2 F2 H2 h2 f2 r2 => ?_) h1
  obtain ⟨xs, ys, e1, e2, hl, hk⟩ := h2
  obtain ⟨k1, a, ws, o1, rfl, p1, s1, l1, t1⟩ := tr_src f2.top e1 f2.sub
  obtain ⟨k2, b, us, o2, rfl, p2, s2, l2, t2⟩ := tr_src r2 e2 f2.sub
  refine ⟨k1, k2, a, b, ws, us, rfl, s1, s2, k _ _ _ [(.ref a, .pin o1), (.ref b, .pin o2), (.ref b, dy), (.ref a, dx)] _ _ _ hk ?_ (((f2.push r2).push p2).push p1)⟩
  have src : ∀ F H, (∀ p ∈ [((.ref a : V), D.pin o1), ((.ref b : V), D.pin o2), ((.ref b : V), dy), ((.ref a : V), dx)], Rp c F p.1 p.2) → Sub F H → Src k1 c.K H a ws ∧ RpL c F ws xs ∧ Src k2 c.K H b us ∧ RpL c F us ys := fun F H h s => by
    have a1 := t1 F H (h (.ref a, .pin o1) (by simp)) (h (.ref a, dx) (by simp)) s
    have a2 := t2 F H (h (.ref b, .pin o2) (by simp)) (h (.ref b, dy) (by simp)) s
    exact ⟨a1.1, a1.2, a2.1, a2.2⟩
  have n1 := l1.length
  have n2 := l2.length
  refine ⟨fun i F O H hi h m _ => ?_, fun F O H h m _ => ?_, fun i d F O H x H' hi h m _ y => ?_⟩
  · rw [pairs_len] at hi
    obtain ⟨q1, _, q2, _⟩ := src F H h m.sub
    exact ⟨q1, q2, by omega, by omega⟩
  · rw [pairs_len]
    obtain ⟨q1, _, q2, _⟩ := src F H h m.sub
    exact ⟨q1, q2, by omega, by omega, by omega, fun hb => by have := hl hb; omega⟩
  · obtain ⟨_, r1, _, r2⟩ := src F H h m.sub
    obtain ⟨T, x1, y1, rfl, hT, rfl, e1, e2⟩ := y
    obtain ⟨d1, d2, g1', g2', rfl⟩ := pairs_at hi
    obtain ⟨d1', g1, z1⟩ := r1.getV e1
    obtain ⟨d2', g2, z2⟩ := r2.getV e2
    rw [g1'] at g1; cases g1
    rw [g2'] at g2; cases g2
    have al := m.alloc (o := .tup [x1, y1]) hT
    have ff : Sub F (upd F T (.tup [x1, y1])) := sub_upd (m.sub.none hT)
    exact ⟨_, al.1, al.2, .tup upd_same (.cons (z1.mono ff) (.cons (z2.mono ff) .nil))⟩
/-! ### for -/
theorem FM.yield {J : It} {xs : List D} {s : Sr} {Sx S : List (V × D)} {F0 : Hp} {O0 : Ob} {H0 : Hp} {G : GS} {O : Ob} {F : Hp} {σ : L2.St} {H : Hp} {i : Nat} {d : D} {x : V} {H' : Hp} (dw : DW c J xs s Sx) (f : FM ⟨c, F0, O0, H0⟩ G O (Sx ++ S) F σ H) (hi : xs[i]? = some d) (ok : okS s O) (y : J.yld i H x H') : ∃ F', FM ⟨c, F0, O0, H0⟩ G O (Sx ++ S) F' σ H' ∧ Rp c F' x d := by
  obtain ⟨F', m, g, r⟩ := dw.yields i d F O H x H' hi (fun p hp => f.stk p (List.mem_append_left _ hp)) f.mm ok y
  exact ⟨F', f.step m g, r⟩
theorem ss_for {wi : TI} {mi : MI} {g : TG} {mg : MG} {tb : TS} {mb : MS} (hi : SI c wi mi) (hg : SG c g mg) (hb : SS c tb mb) : SS c (tFor wi g tb) (mFor mi mg mb) := by
  intro F0 O0 H0 G O S F σ H D B f k h
  refine hi F0 O0 H0 G O S F σ H _ _ f (fun J xs s Sx O1 F1 H1 h1 dw f1 => ?_) h
  refine ⟨fun i m σ H => m = xs.length - i ∧ i ≤ xs.length ∧ ∃ G O F, FM ⟨c, F0, O0, H0⟩ G O (Sx ++ S) F σ H ∧ mForL s mg mb B (xs.drop i) G O, ⟨xs.length, by simp, Nat.zero_le _, G, O1, F1, f1, h1⟩, ?_⟩
  rintro i m σ' H' ⟨rfl, hil, G', O', F', f', h'⟩
  by_cases hlt : i < xs.length
  · rw [List.drop_eq_getElem_cons hlt, mForL] at h'
    obtain ⟨ok, h2⟩ := chk_of h'
    refine .inr ⟨dw.goes i F' O' H' hlt (fun p hp => f'.stk p (List.mem_append_left _ hp)) f'.mm ok, fun σ2 H2 => i + 1 ≤ xs.length ∧ ∃ G O F, FM ⟨c, F0, O0, H0⟩ G O (Sx ++ S) F σ2 H2 ∧ mForL s mg mb B (xs.drop (i + 1)) G O, fun σ2 H2 q => ⟨xs.length - (i + 1), by omega, rfl, q⟩, fun x H2 y => ?_⟩
    obtain ⟨F2, f2, r2⟩ := f'.yield dw (List.getElem?_eq_getElem hlt) ok y
    refine hg F0 O0 H0 G' O' (Sx ++ S) F2 σ' H2 _ _ x _ f2 r2 (fun G3 O3 F3 σ3 H3 q f3 => ?_) h2
    refine hb F0 O0 H0 G3 O3 (Sx ++ S) F3 σ3 H3 _ { B with nx := mForL s mg mb B (xs.drop (i + 1)), ct := mForL s mg mb B (xs.drop (i + 1)), bk := B.nx } f3 ⟨fun G4 O4 F4 σ4 H4 q f4 => ⟨hlt, G4, O4, F4, f4, q⟩, fun G4 O4 F4 σ4 H4 q f4 => k.nx G4 O4 F4 σ4 H4 q (f4.weakS fun p hp => List.mem_append_right _ hp), fun G4 O4 F4 σ4 H4 q f4 => ⟨hlt, G4, O4, F4, f4, q⟩, k.rt⟩ q
  · have e : i = xs.length := by omega
    subst e
    rw [List.drop_length, mForL] at h'
    obtain ⟨ok, h2⟩ := chk_of h'
    exact .inl ⟨dw.stops F' O' H' (fun p hp => f'.stk p (List.mem_append_left _ hp)) f'.mm ok, k.nx G' O' F' σ' H' h2 (f'.weakS fun p hp => List.mem_append_right _ hp)⟩
theorem ss_while {t : TT} {mt : MT} {tb : TS} {mb : MS} (ht : ST c t mt) (hb : SS c tb mb) : SS c (tWhile t tb) (mWhile mt mb) := by
  intro F0 O0 H0 G O S F σ H D B f k h
  obtain ⟨n, h⟩ := h
  refine ⟨fun m σ H => ∃ G O F, FM ⟨c, F0, O0, H0⟩ G O S F σ H ∧ mWhN mt mb B m G O, ⟨n, G, O, F, f, h⟩, ?_⟩
  rintro m σ' H' ⟨G', O', F', f', h'⟩
  cases m with
  | zero => exact h'.elim
  | succ m =>
    rw [mWhN] at h'
    refine ht F0 O0 H0 G' O' S F' σ' H' _ _ f' (fun b O1 F1 H1 h1 f1 => ?_) h'
    have h2 := br_e h1
    cases b with
    | true =>
      rw [if_pos rfl] at h2 ⊢
      refine ⟨fun σ2 H2 => ∃ G O F, FM ⟨c, F0, O0, H0⟩ G O S F σ2 H2 ∧ mWhN mt mb B m G O, fun σ2 H2 q => ⟨m, Nat.lt_succ_self _, q⟩, ?_⟩
      exact hb F0 O0 H0 G' O1 S F1 σ' H1 _ { B with nx := mWhN mt mb B m, ct := mWhN mt mb B m, bk := B.nx } f1 ⟨fun G4 O4 F4 σ4 H4 q f4 => ⟨G4, O4, F4, f4, q⟩, fun G4 O4 F4 σ4 H4 q f4 => k.nx G4 O4 F4 σ4 H4 q f4, fun G4 O4 F4 σ4 H4 q f4 => ⟨G4, O4, F4, f4, q⟩, k.rt⟩ h2
    | false => rw [if_neg Bool.false_ne_true] at h2 ⊢; exact k.nx G' O1 F1 σ' H1 h2 f1
end
end DN

set_option maxHeartbeats 4000000
/-! DNe: comprehensions. -/
namespace DN
open PySem PySem.Spec PyProof.Rows L2
open DL (Sub sub_upd sub_upd2 iSeqU iZipU Src Izu Prd tListZip tLcO)
/-- a target that stores at these slots alone -/
def GK (ws : List Nat) (g : TG) : Prop := ∀ x σ H Z, g x σ H Z → g x σ H (fun σ2 H2 => wipe σ2 ws = wipe σ ws ∧ Z σ2 H2)
def GKs (ws : List Nat) (g : TGs) : Prop := ∀ xs σ H Z, g xs σ H Z → g xs σ H (fun σ2 H2 => wipe σ2 ws = wipe σ ws ∧ Z σ2 H2)
theorem gk_name {ws : List Nat} {i : Nat} (h : i ∈ ws) : GK ws (gName i) := fun x σ H Z z => ⟨DL.wipe_set h, z⟩
theorem gks_nil {ws : List Nat} : GKs ws gNil := fun xs σ H Z z => ⟨z.1, rfl, z.2⟩
section
variable {c : Cl} {G : GS} {ws : List Nat}
theorem wipeG_length (G : GS) : ∀ ws : List Nat, (wipeG G ws).length = G.length
  | [] => rfl
  | i :: r => by unfold wipeG; rw [List.length_set, wipeG_length G r]
theorem wipe_slot {σ : L2.St} {P : V → D → Prop} (hl : σ.length = G.length) (h : ∀ (i : Nat) (d : D), G[i]? = some (some d) → ∃ v, σ[i]? = some (some v) ∧ P v d) : ∀ ws : List Nat, ∀ (i : Nat) (d : D), (wipeG G ws)[i]? = some (some d) → ∃ v, (wipe σ ws)[i]? = some (some v) ∧ P v d
  | [] => h
  | j :: r => fun i d q => by
    unfold wipeG at q
    unfold wipe
    by_cases z : i = j
    · subst z
      have hj : i < (wipeG G r).length := by
        obtain ⟨k, _⟩ := List.getElem?_eq_some_iff.mp q
        rwa [List.length_set] at k
      rw [List.getElem?_set_self hj] at q
      cases q
    · rw [List.getElem?_set_ne (fun k => z k.symm)] at q ⊢
      exact wipe_slot hl h r i d q
/-- while a list grows -/
structure Lci (c : Cl) (F1 : Hp) (O1 : Ob) (H1 : Hp) (p : Addr) (acc : List V) (ds : List D) (F : Hp) (O : Ob) (H : Hp) : Prop where
  mm : Mm c F O H
  go : Go F1 O1 H1 F O H
  at_ : H p = some (.lst acc)
  fp : F p = none
  op : O p = none
  rl : RpL c F acc ds
section
variable {F1 H1 F H F' H' : Hp} {O1 O O' : Ob} {p : Addr} {acc : List V} {ds : List D}
/-- a part of a turn -/
theorem Lci.step (l : Lci c F1 O1 H1 p acc ds F O H) (m : Mm c F' O' H') (g : Go F O H F' O' H') : Lci c F1 O1 H1 p acc ds F' O' H' := by
  have n := g.new p l.fp l.op (by rw [l.at_]; exact fun z => nomatch z)
  exact ⟨m, l.go.trans l.mm g, g.keep p _ l.at_ l.op, n.1, n.2, l.rl.mono g.ff⟩
/-- the list has grown -/
theorem Lci.grow {v : V} {d : D} (l : Lci c F1 O1 H1 p acc ds F O H) (hp : H1 p = none) (r : Rp c F v d) : Lci c F1 O1 H1 p (acc ++ [v]) (ds ++ [d]) F O (upd H p (.lst (acc ++ [v]))) := by
  refine ⟨⟨fun a o e => ?_, fun q xs e => ?_, l.mm.off⟩, ⟨l.go.ff, fun a o e1 e2 => ?_, l.go.new⟩, upd_same, l.fp, l.op, l.rl.append (.cons r .nil)⟩
  · rw [upd_ne (fun z => by rw [z, l.fp] at e; cases e)]; exact l.mm.sub a o e
  · rw [upd_ne (fun z => by rw [z, l.op] at e; cases e)]; exact l.mm.all q xs e
  · rw [upd_ne (fun z => by rw [z, hp] at e1; cases e1)]; exact l.go.keep a o e1 e2
theorem Lci.fin (l : Lci c F1 O1 H1 p acc ds F O H) (hp : H1 p = none) : Mm c (upd F p (.lst acc)) O H ∧ Go F1 O1 H1 (upd F p (.lst acc)) O H ∧ Rp c (upd F p (.lst acc)) (.ref p) (.lst ds) := by
  have ff : Sub F (upd F p (.lst acc)) := sub_upd l.fp
  refine ⟨⟨fun a o e => ?_, fun q xs e => ?_, fun q e => ?_⟩, ⟨l.go.ff.trans ff, l.go.keep, fun a h1 h2 h3 => ?_⟩, .lst upd_same (l.rl.mono ff)⟩
  · by_cases z : a = p
    · subst z; rw [upd_same] at e; cases e; exact l.at_
    · rw [upd_ne z] at e; exact l.mm.sub a o e
  · obtain ⟨vs, q1, q2⟩ := l.mm.all q xs e
    exact ⟨vs, q1, q2.mono ff⟩
  · rw [upd_ne (fun z => e (by rw [z]; exact l.op))]; exact l.mm.off q e
  · obtain ⟨n1, n2⟩ := l.go.new a h1 h2 h3
    exact ⟨by rw [upd_ne (fun z => h3 (by rw [z]; exact hp))]; exact n1, n2⟩
theorem Lci.finO (l : Lci c F1 O1 H1 p acc ds F O H) (hp : H1 p = none) : Mm c F (put O p (.lst ds)) H ∧ Go F1 O1 H1 F (put O p (.lst ds)) H := by
  refine ⟨⟨l.mm.sub, fun q xs e => ?_, fun q e => ?_⟩, ⟨l.go.ff, l.go.keep, fun a h1 h2 h3 => ?_⟩⟩
  · by_cases z : q = p
    · subst z; rw [put_same] at e; cases e; exact ⟨_, l.at_, .lst l.rl⟩
    · rw [put_ne z] at e; exact l.mm.all q xs e
  · by_cases z : q = p
    · subst z; exact l.fp
    · rw [put_ne z] at e; exact l.mm.off q e
  · obtain ⟨n1, n2⟩ := l.go.new a h1 h2 h3
    exact ⟨n1, by rw [put_ne (fun z => h3 (by rw [z]; exact hp))]; exact n2⟩
end
theorem lc_main {wi : TI} {mi : MI} {g : TG} {mg : MG} {tt : TT} {mt : MT} {te : TE} {me : ME} (hi : SI c wi mi) (hg : SG c g mg) (hk : GK ws g) (ht : ST c tt mt) (he : SE c te me)
    {F0 : Hp} {O0 : Ob} {H0 : Hp} {O : Ob} {S : List (V × D)} {F : Hp} {σ : L2.St} {H : Hp} {Q : VK} {R : List D → Ob → Prop} (f : FM ⟨c, F0, O0, H0⟩ G O S F σ H)
    (fin : ∀ p F1 O1 H1 acc ds F O H, FM ⟨c, F0, O0, H0⟩ G O1 S F1 σ H1 → H1 p = none → R ds O → Lci c F1 O1 H1 p acc ds F O H → Q (.ref p) H)
    (h : mi G O fun xs s O1 => xs.length ≤ 100000 ∧ mLcL s mg mt me (wipeG G ws) xs O1 R) : tLc wi g tt te ws σ H Q := by
  refine hi F0 O0 H0 G O S F σ H _ _ f (fun J xs s Sx O1 F1 H1 h1 dw f1 => ?_) h
  obtain ⟨hlen, h1⟩ := h1
  intro p hp
  obtain ⟨fp, op⟩ := f1.mm.free hp
  have l0 : Lci c F1 O1 H1 p [] [] F1 O1 (upd H1 p (.lst [])) :=
    ⟨⟨fun a o e => by rw [upd_ne (fun z => by rw [z, fp] at e; cases e)]; exact f1.sub a o e, fun q ys e => by rw [upd_ne (fun z => by rw [z, op] at e; cases e)]; exact f1.mm.all q ys e, f1.mm.off⟩,
      ⟨Sub.rfl, fun a o e _ => by rw [upd_ne (ne_of_none e hp)]; exact e, fun a e1 e2 _ => ⟨e1, e2⟩⟩, upd_same, fp, op, .nil⟩
  refine ⟨fun i m H => m = xs.length - i ∧ i ≤ xs.length ∧ ∃ acc ds F O, Lci c F1 O1 H1 p acc ds F O H ∧ acc.length ≤ i ∧ mLcL s mg mt me (wipeG G ws) (xs.drop i) O fun r O2 => R (ds ++ r) O2, ⟨xs.length, by simp, Nat.zero_le _, [], [], F1, O1, l0, Nat.le_refl _, h1⟩, ?_⟩
  rintro i m H' ⟨rfl, hil, acc, ds, F', O', l, hl, h'⟩
  -- a frame for this turn
  have fr : FM ⟨c, F', O', H'⟩ (wipeG G ws) O' (Sx ++ S) F' (wipe σ ws) H' :=
    ⟨l.mm, .rfl, by rw [wipe_length, wipeG_length]; exact f1.len, wipe_slot f1.len (fun j d q => by
      obtain ⟨v, a, r⟩ := f1.slot j d q
      exact ⟨v, a, r.mono l.go.ff⟩) ws, fun q hq => (f1.stk q hq).mono l.go.ff⟩
  by_cases hlt : i < xs.length
  · rw [List.drop_eq_getElem_cons hlt, mLcL] at h'
    obtain ⟨ok, h2⟩ := chk_of h'
    refine .inr ⟨dw.goes i F' O' H' hlt (fun q hq => fr.stk q (List.mem_append_left _ hq)) l.mm ok, fun H2 => i + 1 ≤ xs.length ∧ ∃ acc ds F O, Lci c F1 O1 H1 p acc ds F O H2 ∧ acc.length ≤ i + 1 ∧ mLcL s mg mt me (wipeG G ws) (xs.drop (i + 1)) O fun r O2 => R (ds ++ r) O2, fun H2 q => ⟨xs.length - (i + 1), by omega, rfl, q⟩, fun x H2 y => ?_⟩
    obtain ⟨F2, f2, r2⟩ := fr.yield dw (List.getElem?_eq_getElem hlt) ok y
    refine (fun z => ?_) (hk x (wipe σ ws) H2 _ (hg F' O' H' (wipeG G ws) O' (Sx ++ S) F2 (wipe σ ws) H2 (fun σ3 H3 => tt σ3 H3 fun b H3 => if b = true then te σ3 H3 (fun y H4 => ∃ acc, H4 p = some (.lst acc) ∧ acc.length < sizeLine ∧ (fun H2 => i + 1 ≤ xs.length ∧ ∃ acc ds F O, Lci c F1 O1 H1 p acc ds F O H2 ∧ acc.length ≤ i + 1 ∧ mLcL s mg mt me (wipeG G ws) (xs.drop (i + 1)) O fun r O2 => R (ds ++ r) O2) (upd H4 p (.lst (acc ++ [y])))) else (fun H2 => i + 1 ≤ xs.length ∧ ∃ acc ds F O, Lci c F1 O1 H1 p acc ds F O H2 ∧ acc.length ≤ i + 1 ∧ mLcL s mg mt me (wipeG G ws) (xs.drop (i + 1)) O fun r O2 => R (ds ++ r) O2) H3) _ x _ f2 r2 (fun G3 O3 F3 σ3 H3 q f3 => ?_) h2))
    · rw [DL.wipe_twice] at z; exact z
    · refine ht F' O' H' G3 O3 (Sx ++ S) F3 σ3 H3 _ _ f3 (fun b O4 F4 H4 h4 f4 => ?_) q
      have h5 := br_e h4
      cases b with
      | true =>
        rw [if_pos rfl] at h5 ⊢
        refine he F' O' H' G3 O4 (Sx ++ S) F4 σ3 H4 _ _ f4 (fun v d O5 F5 H5 h6 f5 r5 => ?_) h5
        have l5 := l.step f5.mm f5.go
        refine ⟨acc, l5.at_, Nat.lt_of_le_of_lt (Nat.le_trans hl (Nat.le_of_lt hlt)) (Nat.lt_of_le_of_lt hlen (by decide)), hlt, acc ++ [v], ds ++ [d], F5, O5, l5.grow hp r5, by rw [List.length_append]; simp; omega, ?_⟩
        have e : (fun r O4 => R (ds ++ d :: r) O4) = fun r O2 => R (ds ++ [d] ++ r) O2 := by funext r O4; rw [List.append_assoc]; rfl
        rw [← e]; exact h6
      | false =>
        rw [if_neg Bool.false_ne_true] at h5 ⊢
        exact ⟨hlt, acc, ds, F4, O4, l.step f4.mm f4.go, by omega, h5⟩
  · have e : i = xs.length := by omega
    subst e
    rw [List.drop_length, mLcL] at h'
    obtain ⟨ok, h2⟩ := chk_of h'
    rw [List.append_nil] at h2
    exact .inl ⟨dw.stops F' O' H' (fun q hq => fr.stk q (List.mem_append_left _ hq)) l.mm ok, fin p F1 O1 H1 acc ds F' O' H' (f1.weakS fun q hq => List.mem_append_right _ hq) hp h2 l⟩
variable {wi : TI} {mi : MI} {g : TG} {mg : MG} {tt : TT} {mt : MT} {te : TE} {me : ME}
theorem se_lc (hi : SI c wi mi) (hg : SG c g mg) (hk : GK ws g) (ht : ST c tt mt) (he : SE c te me) : SE c (tLc wi g tt te ws) (mLc mi mg mt me ws) := by
  intro F0 O0 H0 G O S F σ H Q K f k h
  refine lc_main hi hg hk ht he (R := fun r O2 => K (.lst r) O2) f (fun p F1 O1 H1 acc ds F O H f1 hp q l => ?_) h
  obtain ⟨m, g, r⟩ := l.fin hp
  exact k _ _ _ _ _ q (f1.step m g) r
theorem se_lcO (hi : SI c wi mi) (hg : SG c g mg) (hk : GK ws g) (ht : ST c tt mt) (he : SE c te me) : SE c (tLcO wi g tt te ws) (mLcO mi mg mt me ws) := by
  intro F0 O0 H0 G O S F σ H Q K f k h
  refine lc_main hi hg hk ht he (R := fun r O2 => ∀ p, O2 p = none → K (.at p) (put O2 p (.lst r))) f (fun p F1 O1 H1 acc ds F O H f1 hp q l => ?_) h
  obtain ⟨m, g⟩ := l.finO hp
  exact k _ _ _ _ _ (q p l.op) (f1.step m g) (.raw _)
theorem gks_cons {ts : TGs} (h1 : GK ws g) (h2 : GKs ws ts) (m : ∀ x σ H (Z Y : L2.St → Hp → Prop), (∀ σ H, Z σ H → Y σ H) → g x σ H Z → g x σ H Y) : GKs ws (gCons g ts) := by
  intro xs σ H Z z
  obtain ⟨v, us, rfl, z⟩ := z
  refine ⟨v, us, rfl, m _ _ _ _ _ (fun σ2 H2 q => ?_) (h1 v σ H _ z)⟩
  have w := h2 us σ2 H2 _ q.2
  rw [q.1] at w
  exact w
theorem mono_name {i : Nat} (x : V) (σ : L2.St) (H : Hp) (Z Y : L2.St → Hp → Prop) (h : ∀ σ H, Z σ H → Y σ H) (z : gName i x σ H Z) : gName i x σ H Y := h _ _ z
theorem gk_tup {K : PySem.W.Frag} {n : Nat} {ts : TGs} (h : GKs ws ts) : GK ws (gTup K n ts) := by
  intro x σ H Z z
  obtain ⟨a, xs, rfl, q1, q2, z⟩ := z
  exact ⟨a, xs, rfl, q1, q2, h xs σ H Z z⟩
end
end DN

set_option maxHeartbeats 4000000
/-! DNf: methods of lists, isinstance, calls of the text's own things, a def by its body. -/
namespace DN
open PySem PySem.Spec PyProof.Rows L2
open DL (Sub sub_upd sub_upd2 Src Prd tListZip cIsi OwnC InC Oth kNe rOwn rOwnI rOwnEq rOwnNe tCallI)
/-! ### methods of lists -/
def mMet (r : D → List D → Ob → KE → Prop) (e : ME) (es : List ME) : ME := fun G O K => e G O fun x O1 => ∃ xs, lsD O1 x = some xs ∧ mL es G O1 fun ds O2 => r x ds O2 K
def oAppend : D → List D → Ob → KE → Prop := fun x ds O K => match x, ds with
  | .raw (.ref p), [d] => ∃ xs, O p = some (.lst xs) ∧ xs.length < 100000 ∧ K .non (put O p (.lst (xs ++ [d])))
  | _, _ => False
def oExtend : D → List D → Ob → KE → Prop := fun x ds O K => match x, ds with
  | .raw (.ref p), [e] => ∃ xs ys, O p = some (.lst xs) ∧ lsD O e = some ys ∧ xs.length + ys.length ≤ 100000 ∧ K .non (put O p (.lst (xs ++ ys)))
  | _, _ => False
def oPop : D → List D → Ob → KE → Prop := fun x ds O K => match x, ds with
  | .raw (.ref p), [] => ∃ xs d, O p = some (.lst (xs ++ [d])) ∧ K d (put O p (.lst xs))
  | _, _ => False
def SM (c : Cl) (r : V → List V → Hp → VK → Prop) (mo : D → List D → Ob → KE → Prop) : Prop := ∀ F0 O0 H0 G O S F σ H Q K x d vs ds, FM ⟨c, F0, O0, H0⟩ G O S F σ H → Rp c F x d → RpL c F vs ds → (∀ v d O' F' H', K d O' → FM ⟨c, F0, O0, H0⟩ G O' S F' σ H' → Rp c F' v d → Q v H') → mo d ds O K → r x vs H Q
section
variable {c : Cl} {te ta tb : TE} {me ma mb : ME} {tas : TA} {es : List ME}
theorem se_met {r : V → List V → Hp → VK → Prop} {mo : D → List D → Ob → KE → Prop} (hr : SM c r mo) (ha : SE c te me) (hs : SA c tas es) : SE c (tBM c.K "list" r te tas) (mMet mo me es) := by
  intro F0 O0 H0 G O S F σ H Q K f k h
  refine ha F0 O0 H0 G O S F σ H _ _ f (fun x dx O1 F1 H1 h1 f1 r1 => ?_) h
  obtain ⟨xs, e, h1⟩ := h1
  obtain ⟨a, ws, rfl, q, _⟩ := f1.lstOf r1 e
  refine ⟨.inl ⟨rfl, ws, .inl (.inl q)⟩, ?_⟩
  refine hs F0 O0 H0 G O1 ((.ref a, dx) :: S) F1 σ H1 _ _ (f1.push r1) (fun vs ds O2 F2 H2 h2 hn f2 r2 => ?_) h1
  exact hr F0 O0 H0 G O2 S F2 σ H2 Q K _ dx vs ds f2.pop f2.top r2 k h2
theorem se_met0 {r : V → List V → Hp → VK → Prop} {mo : D → List D → Ob → KE → Prop} (hr : SM c r mo) (ha : SE c te me) : SE c (tBM0 c.K "list" r te) (mMet mo me []) := by
  intro F0 O0 H0 G O S F σ H Q K f k h
  refine ha F0 O0 H0 G O S F σ H _ _ f (fun x dx O1 F1 H1 h1 f1 r1 => ?_) h
  obtain ⟨xs, e, h1⟩ := h1
  obtain ⟨a, ws, rfl, q, _⟩ := f1.lstOf r1 e
  exact ⟨.inl ⟨rfl, ws, .inl (.inl q)⟩, hr F0 O0 H0 G O1 S F1 σ H1 Q K _ dx [] [] f1 r1 .nil k h1⟩
theorem sm_append : SM c rAppend oAppend := by
  intro F0 O0 H0 G O S F σ H Q K x d vs ds f r rs k h
  unfold oAppend at h
  split at h
  · rename_i p d
    obtain ⟨xs, e, hl, hk⟩ := h
    obtain ⟨v, rfl, a⟩ := rs.one_at
    obtain ⟨ws, q, rl⟩ := f.mm.own p xs e
    have m := f.mm.mut e (rl.append (.cons a .nil))
    exact ⟨p, ws, v, r.raw_eq, rfl, q, by rw [rl.length]; exact Nat.lt_trans hl (by decide), k _ _ _ _ _ hk (f.step m.1 m.2) (.raw _)⟩
  · exact h.elim
theorem sm_extend : SM c rExtend oExtend := by
  intro F0 O0 H0 G O S F σ H Q K x d vs ds f r rs k h
  unfold oExtend at h
  split at h
  · rename_i p d
    obtain ⟨xs, ys, e, e2, hl, hk⟩ := h
    obtain ⟨v, rfl, a⟩ := rs.one_at
    obtain ⟨ws, q, rl⟩ := f.mm.own p xs e
    obtain ⟨b, us, rfl, q2, rl2⟩ := f.lstOf a e2
    have m := f.mm.mut e (rl.append rl2)
    exact ⟨p, b, ws, us, r.raw_eq, rfl, q, q2, by rw [rl.length, rl2.length]; exact Nat.le_trans hl (by decide), k _ _ _ _ _ hk (f.step m.1 m.2) (.raw _)⟩
  · exact h.elim
theorem sm_pop : SM c rPop oPop := by
  intro F0 O0 H0 G O S F σ H Q K x d vs ds f r rs k h
  unfold oPop at h
  split at h
  · rename_i p
    obtain ⟨xs, z, e, hk⟩ := h
    have e0 := rs.nil_eq; subst e0
    obtain ⟨ws, q, rl⟩ := f.mm.own p _ e
    have hl : ws.length = xs.length + 1 := by rw [rl.length]; simp
    obtain ⟨v, hv, rv⟩ := rl.get (i := xs.length) (d := z) (by simp)
    have rl' : RpL c F ws.dropLast xs := by
      have := rl.take xs.length
      rw [List.dropLast_eq_take, hl]
      simpa using this
    have m := f.mm.mut e rl'
    exact ⟨p, ws, v, r.raw_eq, rfl, q, by rw [hl]; exact hv, k _ _ _ _ _ hk (f.step m.1 m.2) rv⟩
  · exact h.elim
theorem sg_sub (ho : SE c ta ma) (hi : SE c tb mb) : SG c (gSub ta tb rSetL) (mgSub ma mb) := by
  intro F0 O0 H0 G O S F σ H Z Y x d f r k h
  refine ho F0 O0 H0 G O ((x, d) :: S) F σ H _ _ (f.push r) (fun o d1 O1 F1 H1 h1 f1 r1 => ?_) h
  refine hi F0 O0 H0 G O1 ((o, d1) :: (x, d) :: S) F1 σ H1 _ _ (f1.push r1) (fun i d2 O2 F2 H2 h2 f2 r2 => ?_) h1
  split at h2
  · rename_i p kk
    obtain ⟨xs, j, e, hj, hk⟩ := h2
    obtain ⟨ws, q, rl⟩ := f2.mm.own p xs e
    have m := f2.mm.mut e (rl.set j f2.pop.top)
    exact ⟨p, ws, kk, j, f2.top.raw_eq, r2.raw_eq, q, by rw [rl.length]; exact hj, k _ _ _ _ _ hk (f2.pop.pop.step m.1 m.2)⟩
  · exact h2.elim
/-! ### list(zip(a, b)) -/
def mListZip (a b : ME) : ME := fun G O K => a G O fun d O1 => b G O1 fun e O2 => ∃ xs ys, sqD O2 d = some xs ∧ sqD O2 e = some ys ∧ xs.length = ys.length ∧ xs.length ≤ 100000 ∧ K (.lst (pairs xs ys)) O2
theorem FM.srcOf {E : Em} {G : GS} {O : Ob} {S : List (V × D)} {F H : Hp} {σ : L2.St} {v : V} {d : D} {xs : List D} (f : FM E G O S F σ H) (r : Rp E.c F v d) (h : sqD O d = some xs) : ∃ k a ws, v = .ref a ∧ Src k E.c.K H a ws ∧ RpL E.c F ws xs := by
  rcases sqD_of h with rfl | h
  · obtain ⟨a, ws, rfl, h, r⟩ := f.tupOf r
    exact ⟨true, a, ws, rfl, .inl (.inl h), r⟩
  · obtain ⟨a, ws, rfl, h, r⟩ := f.lstOf r h
    exact ⟨false, a, ws, rfl, .inl (.inl h), r⟩
theorem prd_rpl {xs ys : List V} {as bs : List D} {F' H0 H' : Hp} (hf : ∀ T x y, H0 T = none → H' T = some (.tup [x, y]) → F' T = some (.tup [x, y])) (r1 : RpL c F' xs as) (r2 : RpL c F' ys bs) {ps : List V} (hl : xs.length = ys.length) (hp : Prd xs ys H0 H' xs.length ps) : RpL c F' ps (pairs as bs) := by
  have n1 := r1.length
  have n2 := r2.length
  have gen : ∀ (n : Nat), n ≤ xs.length → RpL c F' (ps.take n) ((pairs as bs).take n) := by
    intro n
    induction n with
    | zero => intro _; simpa using RpL.nil
    | succ n ih =>
      intro hn
      have hx : xs[n]? = some xs[n] := List.getElem?_eq_getElem (by omega)
      have hy : ys[n]? = some (ys[n]'(by omega)) := List.getElem?_eq_getElem (by omega)
      obtain ⟨T, e1, e2, e3⟩ := hp.2 n _ _ (by omega) hx hy
      obtain ⟨d1, g1, z1⟩ := r1.getV hx
      obtain ⟨d2, g2, z2⟩ := r2.getV hy
      have e4 : (pairs as bs)[n]? = some (.tup [d1, d2]) := by unfold pairs; rw [List.getElem?_zipWith, g1, g2]
      rw [List.take_succ, List.take_succ, e1, e4]
      exact (ih (by omega)).append (.cons (.tup (hf _ _ _ e3 e2) (.cons z1 (.cons z2 .nil))) .nil)
  have q := gen xs.length (Nat.le_refl _)
  rw [List.take_of_length_le (by rw [hp.1]; exact Nat.le_refl _), List.take_of_length_le (by rw [pairs_len]; omega)] at q
  exact q
theorem se_listZip (ha : SE c ta ma) (hb : SE c tb mb) : SE c (tListZip c.K (tCons ta (tCons tb tNil))) (mListZip ma mb) := by
  intro F0 O0 H0 G O S F σ H Q K f k h
  refine ha F0 O0 H0 G O S F σ H _ _ f (fun x dx O1 F1 H1 h1 f1 r1 => ?_) h
  refine hb F0 O0 H0 G O1 ((x, dx) :: S) F1 σ H1 _ _ (f1.push r1) (fun y dy O2 F2 H2 h2 f2 r2 => ?_) h1
  obtain ⟨xs, ys, e1, e2, hl, hn, hk⟩ := h2
  obtain ⟨k1, a, ws, rfl, s1, l1⟩ := f2.srcOf f2.top e1
  obtain ⟨k2, b, us, rfl, s2, l2⟩ := f2.srcOf r2 e2
  have f3 := f2.pop
  refine ⟨k1, k2, a, b, ws, us, rfl, s1, s2, by rw [l1.length, l2.length]; exact hl, by rw [l1.length]; exact hn, fun p ps H' hp hp' prd kp => ?_⟩
  let F' : Hp := fun z => match F2 z with
    | some o => some o
    | none => match H2 z with
      | some _ => none
      | none => H' z
  have ff : Sub F2 F' := fun z o e => by show (match F2 z with | some o => some o | none => _) = _; rw [e]
  have sb : Sub F' H' := fun z o e => by
    have e' : (match F2 z with | some o => some o | none => match H2 z with | some _ => none | none => H' z) = some o := e
    cases q : F2 z with
    | some u => rw [q] at e'; cases e'; exact kp _ _ (f3.sub _ _ q)
    | none =>
      rw [q] at e'
      cases q2 : H2 z with
      | some u => rw [q2] at e'; cases e'
      | none => rw [q2] at e'; exact e'
  have nw : ∀ z o, H2 z = none → H' z = some o → F' z = some o := fun z o e1 e2 => by
    show (match F2 z with | some o => some o | none => match H2 z with | some _ => none | none => H' z) = some o
    rw [f3.sub.none e1, e1]; exact e2
  have off : ∀ z, F2 z = none → H2 z ≠ none → F' z = none := fun z e1 e2 => by
    show (match F2 z with | some o => some o | none => match H2 z with | some _ => none | none => H' z) = none
    rw [e1]
    cases q : H2 z with
    | none => exact absurd q e2
    | some u => rfl
  have mm : Mm c F' O2 H' := ⟨sb, fun q zs e => by
      obtain ⟨vs, e1, e2⟩ := f3.mm.all q zs e
      exact ⟨vs, kp _ _ e1, e2.mono ff⟩, fun q e => by
      cases z : O2 q with
      | none => exact absurd z e
      | some o =>
          obtain ⟨vs, e1, _⟩ := f3.mm.all q o z
          exact off q (f3.mm.off q e) (by rw [e1]; exact fun z => nomatch z)⟩
  have gg : Go F2 O2 H2 F' O2 H' := ⟨ff, fun z o e _ => kp z o e, fun z e1 e2 e3 => ⟨off z e1 e3, e2⟩⟩
  exact k _ _ _ _ _ hk (f3.step mm gg) (.lst (nw _ _ hp hp') (prd_rpl (fun T x y e1 e2 => nw _ _ e1 e2) (l1.mono ff) (l2.mono ff) (by rw [l1.length, l2.length]; exact hl) prd))
/-! ### isinstance -/
/-- the built-in type of a datum -/
def tyD (O : Ob) : D → Option String
  | .raw .non => some "NoneType"
  | .raw (.bl _) => some "bool"
  | .raw (.int _) => some "int"
  | .raw (.str _) => some "str"
  | .raw (.ref p) => (match O p with
    | some (.lst _) => some "list"
    | some (.dic _ _) => some "dict"
    | _ => none)
  | .lst _ => some "list"
  | .tup _ => some "tuple"
  | .dic _ _ => some "dict"
  | _ => none
theorem FM.tyX {E : Em} {G : GS} {O : Ob} {S : List (V × D)} {F H : Hp} {σ : L2.St} {v : V} {d : D} {t : String} (f : FM E G O S F σ H) (r : Rp E.c F v d) (h : tyD O d = some t) : TyX E.c.K H v (.type t) := by
  cases r with
  | raw _ =>
    cases v with
    | non => simp only [tyD] at h; cases h; exact .base .non
    | bl b => simp only [tyD] at h; cases h; exact .base (.bl _)
    | int b => simp only [tyD] at h; cases h; exact .base (.int _)
    | str b => simp only [tyD] at h; cases h; exact .base (.str _)
    | ref p =>
      simp only [tyD] at h
      cases q : O p with
      | none => rw [q] at h; cases h
      | some o => cases o with
        | lst xs =>
          rw [q] at h; cases h
          obtain ⟨vs, e, _⟩ := f.mm.own p xs q
          exact .base (.lst e)
        | obj _ _ _ => rw [q] at h; cases h
        | dic _ _ =>
          rw [q] at h; cases h
          obtain ⟨ho, e, r⟩ := f.mm.all p _ q
          cases r with
          | dic n r => exact .base (.dK e)
    | _ => simp only [tyD] at h; cases h
  | lst a b => simp only [tyD] at h; cases h; exact .base (.lst (f.sub _ _ a))
  | tup a b => simp only [tyD] at h; cases h; exact .base (.tup (f.sub _ _ a))
  | dic a n b => simp only [tyD] at h; cases h; exact .base (.dK (f.sub _ _ a))
  | _ => simp only [tyD] at h; cases h
def mIsi (n : String) (e : ME) : ME := fun G O K => e G O fun d O1 => ∃ t b, tyD O1 d = some t ∧ kitB t n = some b ∧ K (.bl b) O1
def mIsi2 (n m : String) (e : ME) : ME := fun G O K => e G O fun d O1 => ∃ t a b, tyD O1 d = some t ∧ kitB t n = some a ∧ kitB t m = some b ∧ K (.bl (a || b)) O1
/-- isinstance against the text's own class t -/
def mIsiC (t : Nat) (e : ME) : ME := fun G O K => e G O fun d O1 => match d with
  | .obj u _ => u = t ∧ K (.bl true) O1
  | _ => ∃ s, tyD O1 d = some s ∧ s ∈ ["NoneType", "int", "str", "tuple", "list", "bool"] ∧ K (.bl false) O1
theorem se_isi {n : String} (ha : SE c te me) : SE c (tCB (cIsi c.K) (tCons te (tCons (tC (.ty n)) tNil))) (mIsi n me) := by
  intro F0 O0 H0 G O S F σ H Q K f k h
  refine ha F0 O0 H0 G O S F σ H _ _ f (fun x dx O1 F1 H1 h1 f1 r1 => ?_) h
  obtain ⟨t, b, e1, e2, hk⟩ := h1
  exact .inl ⟨x, _, _, _, b, rfl, .ty n, f1.tyX r1 e1, kit_ty e2, k _ _ _ _ _ hk f1 (.raw _)⟩
theorem se_isi2 {n m : String} (ha : SE c te me) : SE c (tCB (cIsi c.K) (tCons te (tCons (tTup (tCons (tC (.ty n)) (tCons (tC (.ty m)) tNil))) tNil))) (mIsi2 n m me) := by
  intro F0 O0 H0 G O S F σ H Q K f k h
  refine ha F0 O0 H0 G O S F σ H _ _ f (fun x dx O1 F1 H1 h1 f1 r1 => ⟨Nat.le_trans (show 2 ≤ 1000 by decide) (by decide), fun p hp => ?_⟩) h
  obtain ⟨t, a, b, e1, e2, e3, hk⟩ := h1
  have f2 := (f1.push r1).alloc (o := .tup [.ty n, .ty m]) hp
  refine .inr ⟨x, p, _, _, [.type n, .type m], a || b, rfl, upd_same, .cons (.ty n) (.cons (.ty m) .nil), f2.pop.tyX f2.top e1, ?_, k _ _ _ _ _ hk f2.pop (.raw _)⟩
  refine kitAny_cons (kit_ty e2) (fun hb => ?_) (fun hb => by rw [hb]; rfl)
  rw [hb, Bool.false_or]
  refine kitAny_cons (kit_ty e3) (fun hc => ?_) (fun hc => hc)
  rw [hc]; exact kitAny_nil
theorem se_isiC {t : Nat} (oc : OwnC c.K (c.ca t)) (ha : SE c te me) : SE c (tCB (cIsi c.K) (tCons te (tCons (tC (.ref (c.ca t))) tNil))) (mIsiC t me) := by
  intro F0 O0 H0 G O S F σ H Q K f k h
  refine ha F0 O0 H0 G O S F σ H _ _ f (fun x dx O1 F1 H1 h1 f1 r1 => ?_) h
  split at h1
  · obtain ⟨rfl, hk⟩ := h1
    obtain ⟨a, dx, xs, rfl, e, _, _⟩ := r1.obj_at
    exact .inl ⟨_, _, .ref _, .ref _, true, rfl, .own _, .base (.ins (f1.sub _ _ e) oc.cls oc.ca oc.cg oc.ct oc.mo), by unfold PySem.W.kitOne; simp, k _ _ _ _ _ hk f1 (.raw _)⟩
  · obtain ⟨s, e1, e2, hk⟩ := h1
    exact .inl ⟨_, _, .type s, .ref _, false, rfl, .own _, f1.tyX r1 e1, oc.kt s e2, k _ _ _ _ _ hk f1 (.raw _)⟩
/-! ### own defs -/
abbrev W := List D → Ob → KE → Prop
/-- a promise over data -/
def spM (c : Cl) (w : W) : Sp := fun vs H Q _ => ∃ F O ds Kc, Mm c F O H ∧ RpL c F vs ds ∧ w ds O Kc ∧ ∀ v d F' O' H', Kc d O' → Mm c F' O' H' → Go F O H F' O' H' → Rp c F' v d → Q v H'
theorem sb_sp {w : W} {Ex : XK} : SB c (fun vs H Q => spM c w vs H Q Ex) w := by
  intro F0 O0 H0 G O S F σ H Q K vs ds f r k h
  exact ⟨F, O, ds, K, f.mm, r, h, fun v d F' O' H' hk m g rv => k v d O' F' H' hk (f.step m g) rv⟩
theorem se_call {w : W} (ha : SA c tas es) : SE c (tCall (spM c w) [] E0 tas) (mCB w es) := by
  intro F0 O0 H0 G O S F σ H Q K f k h
  refine ha F0 O0 H0 G O S F σ H _ _ f (fun vs ds O1 F1 H1 h1 hn f1 r1 => ?_) h
  show spM c w (vs ++ []) H1 Q E0
  rw [List.append_nil]
  exact sb_sp F0 O0 H0 G O1 S F1 σ H1 Q K vs ds f1 r1 k h1
/-- an instance of the class t -/
def isT (t : Nat) (d : D) (P : Prop) : Prop := match d with
  | .obj u _ => if u = t then P else False
  | _ => False
theorem isT_of {t : Nat} {d : D} {P : Prop} (h : isT t d P) : (∃ ds, d = .obj t ds) ∧ P := by
  unfold isT at h
  split at h
  · rename_i u ds
    by_cases z : u = t
    · rw [if_pos z] at h; exact ⟨⟨ds, by rw [z]⟩, h⟩
    · rw [if_neg z] at h; exact h.elim
  · exact h.elim
def mMeth (t : Nat) (w : W) (e : ME) (es : List ME) : ME := fun G O K => e G O fun d O1 => isT t d (mL es G O1 fun ds O2 => w (d :: ds) O2 K)
def mProp (t : Nat) (w : W) (e : ME) : ME := fun G O K => e G O fun d O1 => isT t d (w [d] O1 K)
theorem se_meth {t : Nat} {m : Str} {w : W} (hm : (c.fl t).contains m = false) (ha : SE c te me) (hs : SA c tas es) : SE c (tMeth (c.ca t) m (spM c w) [] E0 te tas) (mMeth t w me es) := by
  intro F0 O0 H0 G O S F σ H Q K f k h
  refine ha F0 O0 H0 G O S F σ H _ _ f (fun x dx O1 F1 H1 h1 f1 r1 => ?_) h
  obtain ⟨⟨us, rfl⟩, h1⟩ := isT_of h1
  obtain ⟨a, dx, xs, rfl, e, _, _⟩ := r1.obj_at
  refine ⟨a, dx, _, rfl, f1.sub _ _ e, DL.zip_none hm, ?_⟩
  refine hs F0 O0 H0 G O1 ((.ref a, .obj t us) :: S) F1 σ H1 _ _ (f1.push r1) (fun vs ds O2 F2 H2 h2 hn f2 r2 => ?_) h1
  show spM c w (V.ref a :: (vs ++ [])) H2 Q E0
  rw [List.append_nil]
  exact sb_sp F0 O0 H0 G O2 S F2 σ H2 Q K _ _ f2.pop (.cons f2.top r2) k h2
theorem se_prop {t : Nat} {w : W} (ha : SE c te me) : SE c (tProp (c.ca t) (spM c w) [] E0 te) (mProp t w me) := by
  intro F0 O0 H0 G O S F σ H Q K f k h
  refine ha F0 O0 H0 G O S F σ H _ _ f (fun x dx O1 F1 H1 h1 f1 r1 => ?_) h
  obtain ⟨⟨us, rfl⟩, h1⟩ := isT_of h1
  obtain ⟨a, dx, xs, rfl, e, _, _⟩ := r1.obj_at
  exact ⟨a, dx, _, rfl, f1.sub _ _ e, sb_sp F0 O0 H0 G O1 S F1 σ H1 Q K _ _ f1 (.cons r1 .nil) k h1⟩
theorem se_callI {t : Nat} {w : W} (ha : SE c te me) (hs : SA c tas es) : SE c (tCallI (c.ca t) (spM c w) te tas) (mMeth t w me es) := by
  intro F0 O0 H0 G O S F σ H Q K f k h
  refine ha F0 O0 H0 G O S F σ H _ _ f (fun x dx O1 F1 H1 h1 f1 r1 => ?_) h
  obtain ⟨⟨us, rfl⟩, h1⟩ := isT_of h1
  obtain ⟨a, dx, xs, rfl, e, _, _⟩ := r1.obj_at
  refine ⟨a, rfl, ?_⟩
  refine hs F0 O0 H0 G O1 ((.ref a, .obj t us) :: S) F1 σ H1 _ _ (f1.push r1) (fun vs ds O2 F2 H2 h2 hn f2 r2 => ?_) h1
  obtain ⟨b, dx', xs', eb, e', _, _⟩ := f2.top.obj_at
  cases eb
  exact ⟨⟨dx', _, f2.sub _ _ e'⟩, sb_sp F0 O0 H0 G O2 S F2 σ H2 Q K _ _ f2.pop (.cons f2.top r2) k h2⟩
/-- a field: for each class its place -/
def mFld (tb : List (Nat × Nat)) (e : ME) : ME := fun G O K => e G O fun d O1 => match d with
  | .obj t ds => (match tb.lookup t with
    | some i => (match ds[i]? with
      | some x => K x O1
      | none => False)
    | none => False)
  | _ => False
structure FldOk (c : Cl) (f : Str) (t i : Nat) : Prop where
  cls : Cls c.K (c.ca t)
  no : NoAttr c.K (c.ca t) f
  at_ : ∀ xs : List V, (c.fl t).length = xs.length → ((c.fl t).zip xs).lookup f = xs[i]?
theorem se_fld {f : Str} {tb : List (Nat × Nat)} (h : ∀ p ∈ tb, FldOk c f p.1 p.2) (ha : SE c te me) : SE c (tFld c.K te f) (mFld tb me) := by
  intro F0 O0 H0 G O S F σ H Q K fm k hh
  refine ha F0 O0 H0 G O S F σ H _ _ fm (fun x dx O1 F1 H1 h1 f1 r1 => ?_) hh
  split at h1
  · rename_i t ds
    split at h1
    · rename_i i e
      split at h1
      · rename_i d ed
        have mem : (t, i) ∈ tb := by
          clear h hh h1 ha
          induction tb with
          | nil => cases e
          | cons q tb ih =>
            obtain ⟨q1, q2⟩ := q
            rw [List.lookup_cons] at e
            split at e
            · rename_i z; cases e; rw [beq_iff_eq.mp z]; exact List.mem_cons_self
            · exact List.mem_cons_of_mem _ (ih e)
        have ok := h _ mem
        obtain ⟨a, dx, xs, rfl, e1, e2, e3⟩ := r1.obj_at
        obtain ⟨v, ev, rv⟩ := e3.get ed
        exact ⟨a, _, dx, _, v, rfl, f1.sub _ _ e1, ok.cls, ok.no, by rw [ok.at_ xs e2]; exact ev, k _ _ _ _ _ h1 f1 rv⟩
      · exact h1.elim
    · exact h1.elim
  · exact h1.elim
/-! own operators -/
def oOwn (t : Nat) (w : W) : MO := fun a b O K => isT t a (isT t b (w [a, b] O K))
def oOwnI (t : Nat) (w : W) : MO := fun a b O K => isT t a (match b with
  | .raw (.int _) => w [a, b] O K
  | _ => False)
def othD (t : Nat) : D → Bool
  | .obj u _ => u == t
  | .raw .non => true
  | .raw (.int _) => true
  | .raw (.str _) => true
  | .tup _ => true
  | _ => false
def oOwnEq (t : Nat) (w : W) : MO := fun a b O K => isT t a (othD t b = true ∧ w [a, b] O K)
def oOwnNe (t : Nat) (w : W) : MO := fun a b O K => isT t a (othD t b = true ∧ w [a, b] O fun d O' => asB d fun r => K (.bl (!r)) O')
theorem FM.inC {E : Em} {G : GS} {O : Ob} {S : List (V × D)} {F H : Hp} {σ : L2.St} {v : V} {t : Nat} {ds : List D} (f : FM E G O S F σ H) (r : Rp E.c F v (.obj t ds)) : InC (E.c.ca t) H v := by
  obtain ⟨a, dx, xs, rfl, h, _, _⟩ := r.obj_at
  exact ⟨a, dx, _, rfl, f.sub _ _ h⟩
theorem FM.oth {E : Em} {G : GS} {O : Ob} {S : List (V × D)} {F H : Hp} {σ : L2.St} {v : V} {d : D} {t : Nat} (f : FM E G O S F σ H) (r : Rp E.c F v d) (h : othD t d = true) : Oth E.c.K (E.c.ca t) H v := by
  cases r with
  | raw _ =>
    cases v with
    | non => exact .inr (.inl rfl)
    | int i => exact .inr (.inr (.inl ⟨_, rfl⟩))
    | str z => exact .inr (.inr (.inr (.inl ⟨_, rfl⟩)))
    | _ => cases h
  | tup a b => exact .inr (.inr (.inr (.inr ⟨_, _, rfl, .inl (.inl (f.sub _ _ a))⟩)))
  | obj a b c =>
    have e := beq_iff_eq.mp (show (_ == t) = true from h)
    subst e
    exact .inl ⟨_, _, _, rfl, f.sub _ _ a⟩
  | _ => cases h
theorem so_own {t : Nat} {w : W} : SO c (rOwn (c.ca t) (spM c w)) (oOwn t w) := by
  intro F0 O0 H0 G O S F σ H Q K x y d e f rx ry k h
  obtain ⟨⟨us, rfl⟩, h⟩ := isT_of h
  obtain ⟨⟨vs, rfl⟩, h⟩ := isT_of h
  exact ⟨f.inC rx, f.inC ry, sb_sp F0 O0 H0 G O S F σ H Q K _ _ f (.cons rx (.cons ry .nil)) k h⟩
theorem so_ownI {t : Nat} {w : W} : SO c (rOwnI (c.ca t) (spM c w)) (oOwnI t w) := by
  intro F0 O0 H0 G O S F σ H Q K x y d e f rx ry k h
  obtain ⟨⟨us, rfl⟩, h⟩ := isT_of h
  split at h
  · exact ⟨f.inC rx, ⟨_, ry.raw_eq⟩, sb_sp F0 O0 H0 G O S F σ H Q K _ _ f (.cons rx (.cons ry .nil)) k h⟩
  · exact h.elim
theorem so_ownEq {t : Nat} {w : W} : SO c (rOwnEq c.K (c.ca t) (spM c w)) (oOwnEq t w) := by
  intro F0 O0 H0 G O S F σ H Q K x y d e f rx ry k h
  obtain ⟨⟨us, rfl⟩, ho, h⟩ := isT_of h
  exact ⟨f.inC rx, f.oth ry ho, sb_sp F0 O0 H0 G O S F σ H Q K _ _ f (.cons rx (.cons ry .nil)) k h⟩
theorem so_ownNe {t : Nat} {w : W} : SO c (rOwnNe c.K (c.ca t) (spM c w)) (oOwnNe t w) := by
  intro F0 O0 H0 G O S F σ H Q K x y d e f rx ry k h
  obtain ⟨⟨us, rfl⟩, ho, h⟩ := isT_of h
  refine ⟨f.inC rx, f.oth ry ho, sb_sp F0 O0 H0 G O S F σ H (kNe Q) _ _ _ f (.cons rx (.cons ry .nil)) (fun v d O' F' H' hk f' rv => ?_) h⟩
  obtain ⟨b, rfl, q⟩ := asB_of hk
  exact ⟨b, rv.raw_eq, k _ _ O' F' H' q f' (.raw _)⟩
/-! ### making -/
/-- __init__'s promise: w gives the object -/
def spMk (c : Cl) (t : Nat) (w : W) : Sp := fun vs H Q _ => ∃ F O ds Kc a dx ws, vs = .ref a :: ws ∧ Mm c F O H ∧ F a = none ∧ O a = none ∧ H a = some (.ins (c.ca t) dx []) ∧ RpL c F ws ds ∧ w ds O Kc ∧
  ∀ d F' O' H', Kc d O' → Mm c F' O' H' → Sub F F' → (∀ b o, H b = some o → O b = none → b ≠ a → H' b = some o) → (∀ b, F b = none → O b = none → H b ≠ none → b ≠ a → F' b = none ∧ O' b = none) → Rp c F' (.ref a) d → Q .non H'
theorem se_make {t : Nat} {w : W} (ha : SA c tas es) : SE c (tMake (c.ca t) (spMk c t w) [] E0 tas) (mCB w es) := by
  intro F0 O0 H0 G O S F σ H Q K f k h
  refine ha F0 O0 H0 G O S F σ H _ _ f (fun vs ds O1 F1 H1 h1 hn f1 r1 => ?_) h
  intro p dx hp0 hd0 hne
  have up : ∀ b o, H1 b = some o → upd (upd H1 dx (.own p)) p (.ins (c.ca t) dx []) b = some o := fun b o e => by
    rw [upd_ne (ne_of_none e hp0), upd_ne (ne_of_none e hd0)]; exact e
  obtain ⟨fp, op⟩ := f1.mm.free hp0
  refine ⟨F1, O1, ds, K, p, dx, vs, by rw [List.append_nil], ⟨fun b o e => up b o (f1.sub b o e), fun q xs e => ?_, f1.mm.off⟩, fp, op, upd_same, r1, h1, fun d F' O' H' hk m s1 s2 s3 r => ⟨rfl, k _ _ O' F' H' hk (f1.step m ⟨s1, fun b o e q => s2 b o (up b o e) q (ne_of_none e hp0), fun b e1 e2 e3 => s3 b e1 e2 ?_ ?_⟩) r⟩⟩
  · obtain ⟨us, e1, e2⟩ := f1.mm.all q xs e
    exact ⟨us, up _ _ e1, e2⟩
  · cases z : H1 b with
    | none => exact absurd z e3
    | some o => rw [up b o z]; exact fun z => nomatch z
  · intro z; subst z; exact e3 hp0
/-! ### a def by its body -/
/-- n parameters, l names -/
def wOf (n l : Nat) (m : MS) : W := fun ds O K => if ds.length = n then m { nx := fun _ O' => K .non O', rt := K } (ds.map some ++ List.replicate (l - n) none) O else False
theorem def_of {n l : Nat} {ts : TS} {m : MS} {N : List Str} {vs : List V} {H : Hp} {Q : VK} {Ex : XK} (hs : SS c ts m) (hN : N.length = l) (h : spM c (wOf n l m) vs H Q Ex) : ts { nx := fun _ H' => Q .non H', rt := Q } (L2.start N vs) H := by
  obtain ⟨F, O, ds, Kc, mm, r, hw, k⟩ := h
  unfold wOf at hw
  by_cases hn : ds.length = n
  · rw [if_pos hn] at hw
    have hl : vs.length = ds.length := r.length
    have f : FM ⟨c, F, O, H⟩ (ds.map some ++ List.replicate (l - n) none) O [] F (L2.start N vs) H := by
      refine ⟨mm, .rfl, ?_, fun i d q => ?_, fun _ h => nomatch h⟩
      · unfold L2.start
        simp [hl, hN, hn]
      · have hi : i < ds.length := by
          rcases Nat.lt_or_ge i ds.length with h | h
          · exact h
          · rw [List.getElem?_append_right (by simpa using h)] at q
            rw [List.getElem?_replicate] at q
            split at q <;> cases q
        rw [List.getElem?_append_left (by simpa using hi), List.getElem?_map] at q
        cases e : ds[i]? with
        | none => rw [e] at q; cases q
        | some d' =>
          rw [e] at q; cases q
          obtain ⟨v, h1, h2⟩ := r.get e
          refine ⟨v, ?_, h2⟩
          unfold L2.start
          rw [List.getElem?_append_left (by simpa [hl] using hi), List.getElem?_map, h1]; rfl
    exact hs F O H _ O [] F _ H _ { nx := fun _ O' => Kc .non O', rt := Kc } f ⟨fun G' O' F' σ' H' q f' => k _ _ _ _ _ q f'.mm f'.go (.raw _), (fun _ _ _ _ _ q _ => q.elim), (fun _ _ _ _ _ q _ => q.elim), fun v d G' O' S' F' σ' H' q f' r' => k _ _ _ _ _ q f'.mm f'.go r'⟩ hw
  · rw [if_neg hn] at hw; exact hw.elim
theorem len_of {n l : Nat} {m : MS} {vs : List V} {H : Hp} {Q : VK} {Ex : XK} (h : spM c (wOf n l m) vs H Q Ex) : vs.length = n := by
  obtain ⟨F, O, ds, Kc, mm, r, hw, k⟩ := h
  unfold wOf at hw
  by_cases hn : ds.length = n
  · rw [r.length]; exact hn
  · rw [if_neg hn] at hw; exact hw.elim
/-- __init__ with one store, self.f = e -/
def wIn1 (n l t : Nat) (e : ME) : W := fun ds O K => if ds.length = n then e (none :: ds.map some ++ List.replicate (l - n - 1) none) O fun d O' => K (.obj t [d]) O' else False
theorem init1 {n l t : Nat} {f : Str} {N : List Str} {vs : List V} {H : Hp} {Q : VK} {Ex : XK} (he : SE c te me) (hf : c.fl t = [f]) (cl : Cls c.K (c.ca t)) (no : NoAttr c.K (c.ca t) f) (hN : N.length = l) (hl0 : n < l) (h : spMk c t (wIn1 n l t me) vs H Q Ex) : sFld c.K (tVar 0) te f { nx := fun _ H' => Q .non H', rt := Q } (L2.start N vs) H := by
  obtain ⟨F, O, ds, Kc, a, dx, ws, rfl, mm, fa, oa, ha, r, hw, k⟩ := h
  unfold wIn1 at hw
  by_cases hn : ds.length = n
  · rw [if_pos hn] at hw
    have hl : ws.length = ds.length := r.length
    have st : (L2.start N (.ref a :: ws)) = some (.ref a) :: (ws.map some ++ List.replicate (N.length - (ws.length + 1)) none) := by unfold L2.start; simp
    have fm : FM ⟨c, F, O, H⟩ (none :: ds.map some ++ List.replicate (l - n - 1) none) O [] F (L2.start N (.ref a :: ws)) H := by
      refine ⟨mm, .rfl, ?_, fun i d q => ?_, fun _ h => nomatch h⟩
      · rw [st]; simp [hl, hN, hn]; omega
      · cases i with
        | zero => cases q
        | succ i =>
          have q' : (ds.map some ++ List.replicate (l - n - 1) none)[i]? = some (some d) := q
          have hi : i < ds.length := by
            rcases Nat.lt_or_ge i ds.length with h | h
            · exact h
            · rw [List.getElem?_append_right (by simpa using h)] at q'
              rw [List.getElem?_replicate] at q'
              split at q' <;> cases q'
          rw [List.getElem?_append_left (by simpa using hi), List.getElem?_map] at q'
          cases e : ds[i]? with
          | none => rw [e] at q'; cases q'
          | some d' =>
            rw [e] at q'; cases q'
            obtain ⟨v, h1, h2⟩ := r.get e
            refine ⟨v, ?_, h2⟩
            rw [st, List.getElem?_cons_succ, List.getElem?_append_left (by simpa [hl] using hi), List.getElem?_map, h1]; rfl
    refine he F O H _ O [] F _ H _ _ fm (fun v d O' F' H' hk f' rv => ?_) hw
    have nw := f'.go.new a fa oa (by show H a ≠ none; rw [ha]; exact fun z => nomatch z)
    have ha' : H' a = some (.ins (c.ca t) dx []) := f'.go.keep a _ ha oa
    refine ⟨.ref a, by rw [st]; rfl, a, _, dx, [], rfl, ha', cl, no, by decide, ?_⟩
    have ff : Sub F' (upd F' a (.ins (c.ca t) dx [(f, v)])) := sub_upd nw.1
    refine k (.obj t [d]) (upd F' a (.ins (c.ca t) dx [(f, v)])) O' _ hk ⟨sub_upd2 f'.sub, fun q xs e => ?_, fun q e => ?_⟩ (f'.go.ff.trans ff) (fun b o e1 e2 e3 => ?_) (fun b e1 e2 e3 e4 => ?_) ?_
    · obtain ⟨us, z1, z2⟩ := f'.mm.all q xs e
      exact ⟨us, by rw [upd_ne (fun z => by rw [z, nw.2] at e; cases e)]; exact z1, z2.mono ff⟩
    · rw [upd_ne (fun z => e (by rw [z]; exact nw.2))]; exact f'.mm.off q e
    · rw [upd_ne e3]; exact f'.go.keep b o e1 e2
    · obtain ⟨n1, n2⟩ := f'.go.new b e1 e2 e3
      exact ⟨by rw [upd_ne e4]; exact n1, n2⟩
    · refine Rp.obj (dx := dx) (xs := [v]) ?_ (by rw [hf]; rfl) (.cons (rv.mono ff) .nil)
      rw [hf]; exact upd_same
  · rw [if_neg hn] at hw; exact hw.elim
theorem len_in1 {n l t : Nat} {vs : List V} {H : Hp} {Q : VK} {Ex : XK} (h : spMk c t (wIn1 n l t me) vs H Q Ex) : vs.length = n + 1 := by
  obtain ⟨F, O, ds, Kc, a, dx, ws, rfl, mm, fa, oa, ha, r, hw, k⟩ := h
  unfold wIn1 at hw
  by_cases hn : ds.length = n
  · rw [List.length_cons, r.length, hn]
  · rw [if_neg hn] at hw; exact hw.elim
/-! ### the law is called -/
theorem law_sp {w : W} {H : Hp} {a : Addr} {ns : List Int} (hS : DL.Scr c.K H a ns) (h : w [.scr ns] (fun _ => none) fun d _ => d = .bl true) : spM c w [.ref a] H (fun v _ => v = .bl true) E0 :=
  ⟨H, fun _ => none, [.scr ns], fun d _ => d = .bl true, ⟨Sub.rfl, (fun _ _ h => nomatch h), fun _ h => absurd rfl h⟩, .cons (.scr hS.1) .nil, h, fun v d F' O' H' e _ _ r => by subst e; exact r.raw_eq⟩
end
end DN

set_option maxHeartbeats 4000000
/-! DNg: repr, formatted texts. -/
namespace DN
open PySem PySem.Spec PyProof.Rows L2
open DL (Sub Shw tFmtD tJoin cRepr kStr)
theorem fld_cons {c : Cl} {f : Str} {t i : Nat} {tb : List (Nat × Nat)} (h : FldOk c f t i) (hs : ∀ p ∈ tb, FldOk c f p.1 p.2) : ∀ p ∈ (t, i) :: tb, FldOk c f p.1 p.2 := fun p hp => by
  rcases List.mem_cons.mp hp with z | z
  · rw [z]; exact h
  · exact hs p z
theorem fldOk1 {c : Cl} {f : Str} {t : Nat} (hl : c.fl t = [f]) (cl : Cls c.K (c.ca t)) (no : NoAttr c.K (c.ca t) f) : FldOk c f t 0 := ⟨cl, no, fun xs h => by
  rw [hl] at h ⊢
  match xs, h with
  | [x], _ => simp [List.lookup]⟩
/-- repr of plain data -/
def shwD (O : Ob) (d : D) (k : Str → Prop) : Prop := ∃ p, toPyO O d = some p ∧ (p = .none ∨ (∃ i, p = .int i) ∨ (∃ ps, p = .tuple ps) ∨ ∃ ps, p = .list ps) ∧ p.showable = true ∧ p.hasDict = false ∧ p.depth ≤ 20 ∧ p.shown.length ≤ 100000 ∧ k p.shown
theorem FM.shw {E : Em} {G : GS} {O : Ob} {S : List (V × D)} {F H : Hp} {σ : L2.St} {v : V} {d : D} {k : Str → Prop} (f : FM E G O S F σ H) (r : Rp E.c F v d) (h : shwD O d k) : ∃ z, Shw E.c.K H v z ∧ k z := by
  obtain ⟨p, hp, hk, h1, h2, h3, h4, q⟩ := h
  exact ⟨_, ⟨p, f.dpO r hp, hk, h1, h2, h3, h4, rfl⟩, q⟩
def mFmt (e : ME) : ME := fun G O K => e G O fun d O1 => shwD O1 d fun z => K (.str z) O1
def mJs : List ME → Str → GS → Ob → (Str → Ob → Prop) → Prop
  | [], acc, _, O, R => R acc O
  | e :: es, acc, G, O, R => e G O fun d O1 => match d with
    | .raw (.str z) => (acc ++ z).length ≤ 1000000 ∧ mJs es (acc ++ z) G O1 R
    | _ => False
def mJoin (es : List ME) : ME := fun G O K => mJs es Str.empty G O fun z O1 => K (.str z) O1
def bRepr : List D → Ob → KE → Prop := fun ds O K => match ds with
  | [d] => shwD O d fun z => K (.str z) O
  | _ => False
def bReprO (t : Nat) (w : W) : List D → Ob → KE → Prop := fun ds O K => match ds with
  | [d] => isT t d (w [d] O fun r O1 => match r with
    | .raw (.str z) => K (.str z) O1
    | _ => False)
  | _ => False
section
variable {c : Cl} {te : TE} {me : ME}
theorem se_fmt (ha : SE c te me) : SE c (tFmtD c.K te) (mFmt me) := by
  intro F0 O0 H0 G O S F σ H Q K f k h
  refine ha F0 O0 H0 G O S F σ H _ _ f (fun x dx O1 F1 H1 h1 f1 r1 => ?_) h
  obtain ⟨z, hz, hk⟩ := f1.shw r1 h1
  exact ⟨z, hz, k _ _ _ _ _ hk f1 (.raw _)⟩
inductive SJ (c : Cl) : List TE → List ME → Prop
  | nil : SJ c [] []
  | cons {te : TE} {me : ME} {ts : List TE} {ms : List ME} : SE c te me → SJ c ts ms → SJ c (te :: ts) (me :: ms)
theorem js_of {ts : List TE} {ms : List ME} (h : SJ c ts ms) : ∀ (acc : Str) (F0 : Hp) (O0 : Ob) (H0 : Hp) (G : GS) (O : Ob) (S : List (V × D)) (F : Hp) (σ : L2.St) (H : Hp) (R : Str → Hp → Prop) (K : Str → Ob → Prop), FM ⟨c, F0, O0, H0⟩ G O S F σ H → (∀ z O' F' H', K z O' → FM ⟨c, F0, O0, H0⟩ G O' S F' σ H' → R z H') → mJs ms acc G O K → tJs ts acc σ H R := by
  induction h with
  | nil => intro acc F0 O0 H0 G O S F σ H R K f k h; exact k acc O F H h f
  | cons he _ ih =>
    intro acc F0 O0 H0 G O S F σ H R K f k h
    refine he F0 O0 H0 G O S F σ H _ _ f (fun x dx O1 F1 H1 h1 f1 r1 => ?_) h
    split at h1
    · exact ⟨_, r1.raw_eq, Nat.le_trans h1.1 (by decide), ih _ F0 O0 H0 G O1 S F1 σ H1 R K f1 k h1.2⟩
    · exact h1.elim
theorem se_join {ts : List TE} {ms : List ME} (h : SJ c ts ms) : SE c (tJoin ts) (mJoin ms) := by
  intro F0 O0 H0 G O S F σ H Q K f k hh
  exact js_of h _ F0 O0 H0 G O S F σ H _ _ f (fun z O1 F1 H1 q f1 => k _ _ _ _ _ q f1 (.raw _)) hh
theorem sb_repr {C : Addr} {sp : Sp} : SB c (cRepr c.K C sp) bRepr := by
  intro F0 O0 H0 G O S F σ H Q K vs ds f r k h
  unfold bRepr at h
  split at h
  · obtain ⟨v, rfl, a⟩ := r.one_at
    obtain ⟨z, hz, hk⟩ := f.shw a h
    exact .inl ⟨v, z, rfl, hz, k _ _ _ _ _ hk f (.raw _)⟩
  · exact h.elim
theorem sb_reprO {t : Nat} {w : W} : SB c (cRepr c.K (c.ca t) (spM c w)) (bReprO t w) := by
  intro F0 O0 H0 G O S F σ H Q K vs ds f r k h
  unfold bReprO at h
  split at h
  · obtain ⟨v, rfl, a⟩ := r.one_at
    obtain ⟨⟨us, rfl⟩, h⟩ := isT_of h
    refine .inr ⟨v, rfl, f.inC a, sb_sp F0 O0 H0 G O S F σ H (kStr Q) _ _ _ f (.cons a .nil) (fun v d O' F' H' hk f' rv => ?_) h⟩
    split at hk
    · have e := rv.raw_eq; subst e
      exact ⟨⟨_, rfl⟩, k _ _ _ _ _ hk f' (.raw _)⟩
    · exact hk.elim
  · exact h.elim
end
end DN

set_option maxHeartbeats 4000000
/-! DNm: tuple * int. -/
namespace DN
open PySem PySem.Spec PyProof.Rows L2
section
open MeetsSeq MeetsSeq2 MeetsSeq3 SeqRoads2
open AutoSeq1 (wpAny_loadPart')
theorem tup_mul1 (l : Addr) (items : Array Value) (n : Nat) (dd : Option Addr) (sl : Array (Option Value)) (u : Tok) :
    Meets (Builtin.«tuple.__mul__» ⟨[.ref l, .int 1 u], []⟩) (fun _ R s => s.heap.get? l = some { cls := .type "tuple", dict := dd, data := .seq items n, slots := sl } ∧ R (.ok (.ret (Value.ref l))) s) :=
  .of_wp fun prog w A R s h => by
    obtain ⟨hp, g, d, tk, os⟩ := s
    obtain ⟨hl, h⟩ := h
    have f1 := AutoSeq1.idx_int
    wp_walk using wpAny_loadPart' hl
    exact ⟨_, rfl, h⟩
theorem tup_mul0 (l : Addr) (items : Array Value) (n : Nat) (dd : Option Addr) (sl : Array (Option Value)) (u : Tok) (hi : items.isEmpty = false) :
    Meets (Builtin.«tuple.__mul__» ⟨[.ref l, .int 0 u], []⟩) (fun _ R s => s.heap.get? l = some { cls := .type "tuple", dict := dd, data := .seq items n, slots := sl } ∧
      R (.ok (.ret (Value.ref s.heap.objs.size))) { s with heap := s.heap.push { cls := Value.type "tuple", data := Data.seq #[] }, toks := s.toks }) :=
  .of_wp fun prog w A R s h => by
    obtain ⟨hp, g, d, tk, os⟩ := s
    obtain ⟨hl, h⟩ := h
    have f1 := AutoSeq1.idx_int
    wp_walk using wpAny_loadPart' hl
    exact ⟨_, rfl, h⟩
end
def rMul1 (K : PySem.W.Frag) : R2 := fun x y H Q => ∃ l xs, x = .ref l ∧ y = .int 1 ∧ SqT K H l xs ∧ Q (.ref l) H
def rMul0 (K : PySem.W.Frag) : R2 := fun x y H Q => ∃ l xs, x = .ref l ∧ y = .int 0 ∧ SqT K H l xs ∧ xs ≠ [] ∧ ∀ p, H p = none → Q (.ref p) (upd H p (.tup []))
def rMulT (K : PySem.W.Frag) : R2 := fun x y H Q => rRepT K x y H Q ∨ rMul1 K x y H Q ∨ rMul0 K x y H Q
section
variable {X : Cx}
theorem p_mul1 : OpR X (binaryOp .Mult) (rMul1 X.K) := by
  intro pins s σ H x y v u Q I rx ry h
  obtain ⟨l, xs, rfl, rfl, hT, q⟩ := h
  cases rx
  obtain ⟨t, rfl⟩ := ry
  obtain ⟨its, r, ⟨⟨cls, dd, data, sl⟩, ho, hc, n, hd⟩, hs⟩ := I.tuple hT
  simp only at hc hd
  subst hc hd
  refine wpAny_binaryOp_repeat_ref (T := "tuple") (U := "int") (by decide) ⟨_, ho, rfl⟩ (fun s' => typeIs_int s' 1 t) noFill_tuple_mul F.fills_int_mul F.slot_int_rmul repeat_tuple F.slot_int_index.lookup
    (call_meets F.slot_int_rmul (typeIs_int s 1 t) F.entry_int_rmul (F.args_int_rmul_2 _ _) (int_rmul_tuple 1 t l its.toArray n dd sl)
      ⟨ho, rfl, ⟨_, ho, rfl⟩, call_meets F.slot_tuple_mul ⟨_, ho, rfl⟩ F.entry_tuple_mul (F.args_tuple_mul_2 _ _) (tup_mul1 l its.toArray n dd sl t) ⟨ho, ?_⟩⟩)
  exact ⟨.ref l, H, I, rfl, q⟩
theorem p_mul0 : OpR X (binaryOp .Mult) (rMul0 X.K) := by
  intro pins s σ H x y v u Q I rx ry h
  obtain ⟨l, xs, rfl, rfl, hT, hne, q⟩ := h
  cases rx
  obtain ⟨t, rfl⟩ := ry
  obtain ⟨its, r, ⟨⟨cls, dd, data, sl⟩, ho, hc, n, hd⟩, hs⟩ := I.tuple hT
  simp only at hc hd
  subst hc hd
  have hi : its.toArray.isEmpty = false := by
    cases its with
    | nil =>
      have := r.length
      exact absurd (List.eq_nil_of_length_eq_zero this) hne
    | cons a b => rfl
  refine wpAny_binaryOp_repeat_ref (T := "tuple") (U := "int") (by decide) ⟨_, ho, rfl⟩ (fun s' => typeIs_int s' 0 t) noFill_tuple_mul F.fills_int_mul F.slot_int_rmul repeat_tuple F.slot_int_index.lookup
    (call_meets F.slot_int_rmul (typeIs_int s 0 t) F.entry_int_rmul (F.args_int_rmul_2 _ _) (int_rmul_tuple 0 t l its.toArray n dd sl)
      ⟨ho, rfl, ⟨_, ho, rfl⟩, call_meets F.slot_tuple_mul ⟨_, ho, rfl⟩ F.entry_tuple_mul (F.args_tuple_mul_2 _ _) (tup_mul0 l its.toArray n dd sl t hi) ⟨ho, ?_⟩⟩)
  refine ⟨.ref s.heap.objs.size, _, I.laid (t' := s.toks) (o := .tup []) (fun b ob q => Heap.get?_push_of_some _ q) (Nat.le_refl _) ?_, rfl, q _ (I.hok.fresh (Nat.le_refl _))⟩
  exact ⟨Nat.zero_le _, [], .nil, IsTup.new _ _⟩
theorem p_mulT : OpR X (binaryOp .Mult) (rMulT X.K) := op_repT.or (p_mul1.or p_mul0)
end
def oMulT : MO := fun a b O K => match a, b with
  | .tup xs, .raw (.int k) => xs ≠ [] ∧ 0 ≤ k ∧ k ≤ 1000 ∧ xs.length ≤ 1000 ∧ K (.tup (List.replicate k.toNat xs).flatten) O
  | _, _ => False
theorem so_mulT {c : Cl} : SO c (rMulT c.K) oMulT := by
  intro F0 O0 H0 G O S F σ H Q K x y d e f rx ry k h
  unfold oMulT at h
  split at h
  · rename_i xs j
    obtain ⟨hne, h0, h1, h2, hk⟩ := h
    obtain ⟨a, ws, rfl, ha, r1⟩ := f.tupOf rx
    have e := ry.raw_eq; subst e
    have hw : ws ≠ [] := fun z => hne (by rw [z] at r1; have := r1.length; exact List.eq_nil_of_length_eq_zero this.symm)
    have cs : j = 0 ∨ j = 1 ∨ 2 ≤ j := by omega
    rcases cs with rfl | rfl | cs
    · exact .inr (.inr ⟨a, ws, rfl, rfl, .inl (.inl ha), hw, fun p hp => k _ _ _ _ _ hk (f.newT hp .nil).1 (f.newT hp .nil).2⟩)
    · refine .inr (.inl ⟨a, ws, rfl, rfl, .inl (.inl ha), k _ _ _ _ _ hk f ?_⟩)
      simpa using rx
    · exact .inl ⟨a, j, ws, rfl, rfl, .inl (.inl ha), hw, cs, h1, by rw [r1.length]; exact h2, fun p hp => k _ _ _ _ _ hk (f.newT hp (r1.rep _)).1 (f.newT hp (r1.rep _)).2⟩
  · exact h.elim
end DN

set_option maxHeartbeats 4000000
/-! DNn: enumerate of a list or a tuple. -/
namespace DN
open PySem PySem.Spec PyProof.Rows L2
open DL (Sub sub_upd Src SIt src_draws src_begins)
section
open MeetsSeq MeetsSeq2 MeetsSeq3 SeqRoads2
theorem enum_new1 {v : Value} {o : Obj} {H : Heap → Prop} (B : Begins v o H) :
    Meets (Builtin.«enumerate.__new__» ⟨[.type "enumerate", v], []⟩) (fun _ R s => H s.heap ∧
      R (.ok (.ret (.ref (s.heap.push o).objs.size))) { s with heap := (s.heap.push o).push { cls := .type "enumerate", data := .fields #[.none, .bool false, .ref s.heap.objs.size, rawInt 0, .none, .none] } }) :=
  .of_wp fun prog w A R s h => by
    obtain ⟨hp, g, d, tk, os⟩ := s; obtain ⟨h1, h⟩ := h
    have hsub := sub_enumerate
    have it1 : ∀ {A' : Around} {E : Value → Shared → Prop} {Q : Value → Shared → Prop}, Q (.ref hp.objs.size) ⟨hp.push o, g, d, tk, os⟩ → wpAny (model prog w) A' (pyIter v) Q E ⟨hp, g, d, tk, os⟩ := fun q => B.iter prog w _ _ ⟨hp, g, d, tk, os⟩ _ h1 q
    wp_walk using it1
    refine wpAny_stack_any fun st => wpAny_pure ?_
    split
    · rename_i c _ _ _ _ _
      cases (c == Value.type "enumerate") <;> (wp_walk using it1; exact ⟨_, rfl, h⟩)
    · wp_walk using it1
      exact ⟨_, rfl, h⟩
theorem enum_made {prog : Program} {w : World} {A : Around} {E : Value → Shared → Prop} {s : Shared} {v : Value} {o : Obj} {H : Heap → Prop} {Q : Value → Shared → Prop} (B : Begins v o H) (h1 : H s.heap)
    (h : ∀ h', IsEnum h' (s.heap.objs.size + 1) s.heap.objs.size 0 .none → h'.get? s.heap.objs.size = some o → (∀ b o, s.heap.get? b = some o → h'.get? b = some o) → Q (.ref (s.heap.objs.size + 1)) { s with heap := h' }) :
    wpAny (model prog w) A (call (.type "enumerate") [v]) Q E s := by
  refine callType_new F.called_enumerate (by decide) (F.typeCall_enumerate_1 _) (F.newCall_enumerate_1 _) (fun obj => F.args_object_init_2 obj _) F.entry_enumerate_new (enum_new1 B) ⟨h1, ?_⟩
  have hz : (s.heap.push o).objs.size = s.heap.objs.size + 1 := Heap.size_push ..
  show _ ∧ _
  rw [hz]
  have he : IsEnum ((s.heap.push o).push { cls := .type "enumerate", data := .fields #[.none, .bool false, .ref s.heap.objs.size, rawInt 0, .none, .none] }) (s.heap.objs.size + 1) s.heap.objs.size 0 .none := by
    have q := Heap.get?_push_size (s.heap.push o) (o := { cls := .type "enumerate", data := .fields #[.none, .bool false, .ref s.heap.objs.size, rawInt 0, .none, .none] }) rfl
    rw [hz] at q; exact q
  exact ⟨⟨_, he, rfl⟩, h _ he (Heap.get?_push_of_some _ (Heap.get?_push_size _ B.free)) fun b o x => Heap.get?_push_of_some _ (Heap.get?_push_of_some _ x)⟩
end
def Ieu (K : PySem.W.Frag) (k : Bool) (a : Addr) (xs : List V) : It :=
  ⟨fun i H => Src k K H a xs ∧ i < xs.length, fun i H v H' => ∃ T x, v = .ref T ∧ H T = none ∧ H' = upd H T (.tup [.int (i : Nat), x]) ∧ xs[i]? = some x, fun i H => Src k K H a xs ∧ i = xs.length⟩
theorem turn_eu {P : Program} {w : World} {K : PySem.W.Frag} {elts : List Expr} {kk : Nat} {tpos : Pos} {a e it : Addr} {xs : List V} {k : Bool} (hne : e ≠ it) (ha : a ≠ it) (hea : e ≠ a) :
    Turn P w K (.Tuple elts kk tpos) (Ieu K k a xs) [e, it] e (fun i h => (∃ old, IsEnum h e it ((i : Nat) : Int) old) ∧ SIt k h it a i) where
  mem := by simp
  obj := by
    rintro i h ⟨⟨old, he⟩, h1⟩ b hb
    have e' : b = e ∨ b = it := by simpa using hb
    rcases e' with z | z
    · rw [z]; exact ⟨_, he, fun v q => nomatch q⟩
    · rw [z]; exact h1.there
  keep := by
    rintro i h h' ⟨⟨old, he⟩, h1⟩ k
    exact ⟨⟨old, k e (by simp) _ he⟩, h1.at fun o q => k it (by simp) o q⟩
  item := by
    intro X hP hw hK hc i pins s σ H E I hf st hg
    subst hP hw hK
    obtain ⟨⟨old, he⟩, h1⟩ := st
    obtain ⟨q1, l1⟩ := hg
    have hh : X.A.in1.handled = none := I.ok.hd hc
    obtain ⟨its, St, rv, D1, s1, n1⟩ := src_draws hh I q1 ha h1
    obtain ⟨x, hx⟩ : ∃ x, xs[i]? = some x := ⟨xs[i], List.getElem?_eq_getElem l1⟩
    obtain ⟨u, hu, ru⟩ := rv.get hx
    have hel : e < s.heap.objs.size := Heap.lt_size he
    have hil : it < s.heap.objs.size := by obtain ⟨_, q, _⟩ := h1.there; exact Heap.lt_size q
    refine wpAny_pyNext_enum_itemD D1 he s1 (by rw [← rv.length]; exact l1) hne (by simp [hne, hea]) fun x' h' tk hP ho hs' hT hsz hk => ?_
    rw [hu] at hP
    cases hP
    refine ⟨_, rfl, wpAny_letOwnedTupleGo_enum (s := { s with heap := h', toks := tk + 1 }) ho fun h'' he' sb => ?_⟩
    have hT2 : h''.get? s.heap.objs.size = some { cls := .type "tuple", data := .seq #[.int i tk, u] } := (sb.2 _ (Nat.ne_of_gt hel)).trans hT
    have new : ObjOk X.prog X.w (upd H s.heap.objs.size (.tup [.int (i : Nat), x])) h'' s.heap.objs.size (.tup [.int (i : Nat), x]) :=
      ⟨by show 2 ≤ sizeLine; decide, [.int i tk, u], .cons ⟨_, rfl⟩ (.cons ru .nil), ⟨_, hT2, rfl, _, rfl⟩⟩
    have I1 : Inv X pins σ (upd H s.heap.objs.size (.tup [.int (i : Nat), x])) { s with heap := h'', toks := tk + 1 } :=
      I.turnedNew (t' := tk + 1) (ch := [e, it]) (fun b ob hb q => (sb.2 b (fun z => hb (by simp [z]))).trans (hk b ob (fun z => hb (by simp [z])) (fun z => hb (by simp [z])) q)) hf (Nat.le_refl _) new
    refine ⟨.ref s.heap.objs.size, _, I1, rfl, ⟨_, x, rfl, I.hok.fresh (Nat.le_refl _), rfl, hx⟩, ⟨⟨u, ?_⟩, (n1 _ _ hs').at fun o q => (sb.2 it (Ne.symm hne)).trans q⟩, fun b hb => ?_⟩
    · have e1 : ((i + 1 : Nat) : Int) = (i : Int) + 1 := by omega
      rw [e1]; exact he'
    · have hb' : b < s.heap.objs.size := by
        have e' : b = e ∨ b = it := by simpa using hb
        rcases e' with z | z
        · rw [z]; exact hel
        · rw [z]; exact hil
      rw [upd_ne (Nat.ne_of_lt hb')]
      exact (hf b hb).1
  done := by
    intro X hP hw hK hc i pins s σ H E I hf st hg
    subst hP hw hK
    obtain ⟨⟨old, he⟩, h1⟩ := st
    obtain ⟨q1, l1⟩ := hg
    have hh : X.A.in1.handled = none := I.ok.hd hc
    obtain ⟨its, St, rv, D1, s1, n1⟩ := src_draws hh I q1 ha h1
    obtain ⟨f0, f1, f2, f3, f4, f5⟩ := hf it (by simp)
    exact wpAny_pyNext_enum_endD D1 he (by rw [← rv.length, ← l1]; exact s1) fun h' eb => ⟨rfl, I.turned (t' := s.toks) (fun b o hb q => eb b o hb q) f0 f1 f3 f4 f5⟩
  self := fun A i s Q E st h => let ⟨⟨_, he⟩, _⟩ := st; wpAny_pyIter_enum he h
def iEnumU (K : PySem.W.Frag) (ta : TA) : TI := fun σ H R => ta σ H fun vs H1 => (∃ k a xs, vs = [.ref a] ∧ Src k K H1 a xs ∧ R (Ieu K k a xs) H1) ∨ ∃ a xs, vs = [.ref a] ∧ SqL K H1 a xs ∧ R (Ite K a) H1
theorem p_enum {X : Cx} {e : Expr} {ta : TA} {p pos tpos : Pos} {elts : List Expr} {kk : Nat} (hg : Gl X "enumerate") (hm : X.mg "enumerate" = none) (ha : PA X [e] ta) (hs : starEach [e] X.env = [(false, eval e X.env)] := by rfl) :
    PI X (.Tuple elts kk tpos) (.Call (.Name "enumerate" p) [e] [] pos) (iEnumU X.K ta) := by
  refine ⟨fun pins s σ H R I h => ?_⟩
  refine Call_ (ld_blt I hg hm boot_enumerate (PyProof.Rows.callWith_type1 (thn (ha.run pos pins s σ H _ I h) fun us s1 ⟨vs, H1, I1, r1, q1⟩ => ?_) hs rfl))
  have fp : ∀ b ∈ [s1.heap.objs.size + 1, s1.heap.objs.size], FpOk X pins H1 b := fun b hb => by
    have hle : s1.heap.objs.size ≤ b := by
      have e' : b = s1.heap.objs.size + 1 ∨ b = s1.heap.objs.size := by simpa using hb
      rcases e' with z | z
      · rw [z]; exact Nat.le_add_right _ _
      · rw [z]; exact Nat.le_refl _
    exact I1.fpOk hle (I1.hok.fresh hle)
  rcases q1 with ⟨k, a, xs, ex, hq, q⟩ | ⟨a, xs, ex, hq, q⟩
  · subst ex
    cases r1 with
    | cons r rr =>
      cases rr
      cases r
      obtain ⟨la, o1, P1, B1, hP1, f1⟩ := src_begins I1 hq
      refine enum_made B1 hP1 fun h' he hit hk => wpAny_pyIter_enum he ?_
      exact ⟨s1.heap.objs.size + 1, [s1.heap.objs.size + 1, s1.heap.objs.size], _, _, H1, rfl, I1.kept (t' := s1.toks) hk, turn_eu (Nat.succ_ne_self _) (Nat.ne_of_lt la) (Ne.symm (Nat.ne_of_lt (Nat.lt_succ_of_lt la))), ⟨⟨.none, he⟩, f1 _ _ hit⟩, fp, q⟩
  · subst ex
    cases r1 with
    | cons r rr =>
      cases rr
      cases r
      obtain ⟨its, rv, p', hz⟩ := I1.list hq
      refine call_enumerate_list p'.isList fun h' he hit hsz hk => wpAny_pyIter_enum he ?_
      exact ⟨s1.heap.objs.size + 1, [s1.heap.objs.size + 1, s1.heap.objs.size], _, _, H1, rfl, I1.kept (t' := s1.toks) hk, turn_enum a (s1.heap.objs.size + 1) s1.heap.objs.size, ⟨⟨.none, he⟩, hit, Nat.succ_ne_self _⟩, fp, q⟩
/-! over data -/
def enumD (xs : List D) : List D := List.zipWith (fun (i : Nat) x => D.tup [.int (i : Int), x]) (List.range xs.length) xs
def mEnum (e : ME) : MI := fun G O R => e G O fun d O1 => match d with
  | .raw (.ref p) => ∃ xs, O1 p = some (.lst xs) ∧ R (enumD xs) (some (p, xs)) O1
  | _ => ∃ xs, trD d = some xs ∧ R (enumD xs) none O1
theorem enum_len (xs : List D) : (enumD xs).length = xs.length := by unfold enumD; rw [List.length_zipWith, List.length_range]; omega
theorem enum_at {xs : List D} {i : Nat} {d : D} (h : (enumD xs)[i]? = some d) : ∃ x, xs[i]? = some x ∧ d = .tup [.int (i : Int), x] := by
  unfold enumD at h
  rw [List.getElem?_zipWith] at h
  split at h
  · rename_i j x e1 e2
    cases h
    have hi : i < xs.length := (List.getElem?_eq_some_iff.mp e2).1
    rw [List.getElem?_range hi] at e1
    cases e1
    exact ⟨x, e2, rfl⟩
  · cases h
section
variable {c : Cl}
theorem enum_yield {F H : Hp} {O : Ob} {ws : List V} {xs : List D} {k : Bool} {a : Addr} {i : Nat} {d : D} {x : V} {H' : Hp} (m : Mm c F O H) (r : RpL c F ws xs) (hi : (enumD xs)[i]? = some d) (y : (Ieu c.K k a ws).yld i H x H') : ∃ F', Mm c F' O H' ∧ Go F O H F' O H' ∧ Rp c F' x d := by
  obtain ⟨z, e1, rfl⟩ := enum_at hi
  obtain ⟨T, v, rfl, hT, rfl, e2⟩ := y
  obtain ⟨z', e3, rz⟩ := r.getV e2
  rw [e1] at e3; cases e3
  have al := m.alloc (o := .tup [.int (i : Nat), v]) hT
  have ff : Sub F (upd F T (.tup [.int (i : Nat), v])) := sub_upd (m.sub.none hT)
  exact ⟨_, al.1, al.2, .tup upd_same (.cons (.raw _) (.cons (rz.mono ff) .nil))⟩
theorem si_enum {te : TE} {me : ME} (ha : SE c te me) : SI c (iEnumU c.K (tCons te tNil)) (mEnum me) := by
  intro F0 O0 H0 G O S F σ H R K f k h
  refine ha F0 O0 H0 G O S F σ H _ _ f (fun x dx O1 F1 H1 h1 f1 r1 => ?_) h
  split at h1
  · rename_i p
    obtain ⟨xs, e, hk⟩ := h1
    have e0 := r1.raw_eq; subst e0
    obtain ⟨ws, q, rl⟩ := f1.mm.own p xs e
    refine .inr ⟨p, ws, rfl, .inl (.inl q), k _ _ _ [] _ _ _ hk ?_ f1⟩
    have src : ∀ F O H, Mm c F O H → okS (some (p, xs)) O → ∃ ws, SqL c.K H p ws ∧ RpL c F ws xs := fun F O H m o => by
      obtain ⟨us, q1, q2⟩ := m.own p xs o
      exact ⟨us, .inl (.inl q1), q2⟩
    refine ⟨fun i F O H hi _ m o => ?_, fun F O H _ m o => ?_, fun i d F O H x H' hi _ m o y => ?_⟩
    · obtain ⟨us, q1, q2⟩ := src F O H m o
      rw [enum_len] at hi
      obtain ⟨v, hv, _⟩ := q2.get (i := i) (List.getElem?_eq_getElem hi)
      exact ⟨us, v, q1, hv⟩
    · obtain ⟨us, q1, q2⟩ := src F O H m o
      rw [enum_len]
      exact ⟨us, q1, by rw [q2.length]; exact Nat.le_refl _⟩
    · obtain ⟨us, q1, q2⟩ := src F O H m o
      obtain ⟨T, v, e1, e2, e3, e4⟩ := y
      exact enum_yield (k := false) (a := p) m q2 hi ⟨T, v, e1, e2, e3, e4 us q1⟩
  · obtain ⟨xs, e, hk⟩ := h1
    obtain ⟨k1, a, ws, o1, rfl, p1, s1, l1, t1⟩ := tr_src r1 e f1.sub
    refine .inl ⟨k1, a, ws, rfl, s1, k _ _ _ [(.ref a, .pin o1), (.ref a, dx)] _ _ _ hk ?_ ((f1.push r1).push p1)⟩
    have src : ∀ F H, (∀ p ∈ [((.ref a : V), D.pin o1), ((.ref a : V), dx)], Rp c F p.1 p.2) → Sub F H → Src k1 c.K H a ws ∧ RpL c F ws xs := fun F H h s => t1 F H (h (.ref a, .pin o1) (by simp)) (h (.ref a, dx) (by simp)) s
    have n1 := l1.length
    refine ⟨fun i F O H hi h m _ => ?_, fun F O H h m _ => ?_, fun i d F O H x H' hi h m _ y => enum_yield m (src F H h m.sub).2 hi y⟩
    · rw [enum_len] at hi
      exact ⟨(src F H h m.sub).1, by omega⟩
    · rw [enum_len]
      exact ⟨(src F H h m.sub).1, by omega⟩
end
end DN

set_option maxHeartbeats 4000000
/-! DNp: making with keyword-only parameters, static methods. -/
namespace DN
open PySem PySem.Spec PyProof.Rows L2
open DL (Sub FnS run_call)
/-- a class whose __init__ has keyword-only parameters with defaults: n positional values (self too), the others named ks, with the values ms where they lack -/
def Kf (P : Program) (w : World) (K : PySem.W.Frag) (mg : Str → Option Value) (base : Heap) (k : Nat) (C : Addr) (n : Nat) (ks : List Str) (ms : List V) (sp : Sp) : Prop :=
  ∃ f fd ps, Mk K C f ∧ FnOk P w K mg base CX0 k f fd ps sp ∧ (∃ g, KBn K fd ps n ks g (fun vs zs => vs ++ zs)) ∧ ∃ g, KBn K fd ps n [] g (fun vs _ => vs ++ ms)
section
variable {X : Cx} {k n nk : Nat} {C : Addr} {sp : Sp} {x m : Str} {p pos apos : Pos} {e o : Expr} {es : List Expr} {kws : List Keyword} {t tk : TA} {ks : List Str} {ms : List V}
theorem p_makeK (h : Kf X.prog X.w X.K X.mg X.base k C (n + 1) ks ms sp) (hr : Room (k + 1) X.A) (hg : Gl X x) (hm : X.mg x = some (.ref C)) (ha : PA X (e :: es) t) (hkw : PK X kws tk) (hnk : ks.length = nk := by rfl)
    (hall : (backToKw pos (keywordEach kws X.env)).all (·.1.isSome) = true := by rfl) (hks : (backToKw pos (keywordEach kws X.env)).filterMap (·.1) = ks := by rfl) (hdb : (x == ("__debug__" : Str)) = false := by decide)
    (he : starEach (e :: es) X.env = (false, eval e X.env) :: starEach es X.env := by rfl) (hpl : ((backTo pos (starEach (e :: es) X.env)).any (·.1) || (backToKw pos (keywordEach kws X.env)).any (·.1.isNone)) = false := by rfl) :
    PE X (.Call (.Name x p) (e :: es) kws pos) (tMakeK C n nk sp (fun vs zs => vs ++ zs) E0 t tk) := by
  subst hnk
  obtain ⟨f, fd, ps, M, F, ⟨g, b⟩, _⟩ := h
  exact pe_makeK M F hr hg hm b pass0 ha hkw hall hks hdb he hpl
theorem p_makeD (h : Kf X.prog X.w X.K X.mg X.base k C (n + 1) ks ms sp) (hr : Room (k + 1) X.A) (hg : Gl X x) (hm : X.mg x = some (.ref C)) (ha : PA X (e :: es) t) (hdb : (x == ("__debug__" : Str)) = false := by decide)
    (hall : (backToKw pos (keywordEach [] X.env)).all (·.1.isSome) = true := by rfl) (hks : (backToKw pos (keywordEach [] X.env)).filterMap (·.1) = [] := by rfl)
    (he : starEach (e :: es) X.env = (false, eval e X.env) :: starEach es X.env := by rfl) (hpl : ((backTo pos (starEach (e :: es) X.env)).any (·.1) || (backToKw pos (keywordEach [] X.env)).any (·.1.isNone)) = false := by rfl) :
    PE X (.Call (.Name x p) (e :: es) [] pos) (tMakeK C n 0 sp (fun vs _ => vs ++ ms) E0 t tNil) := by
  obtain ⟨f, fd, ps, M, F, _, ⟨g, b⟩⟩ := h
  exact pe_makeK M F hr hg hm b pass0 ha pk_nil hall hks hdb he hpl
/-- C.m is a static method: its record at q, its def at g -/
structure CSta (K : PySem.W.Frag) (C : Addr) (m : Str) (q g : Addr) : Prop where
  rd : PySem.W.readsIn K C (.type "type") = true
  ga : PySem.W.specialIn K (.ref C) "__getattribute__" = some (some (.builtin "type.__getattribute__"))
  at_ : PySem.W.findCls K (.ref C) (.type "type") m = some (.get (.builtin "staticmethod.__get__") (.ref q) .none (.ref C))
  rc : ∃ rest, PySem.W.recIn K q "staticmethod" = some (.ref g :: rest)
  kp : PySem.W.keepIn K (.ref g) = true
def Sf (P : Program) (w : World) (K : PySem.W.Frag) (mg : Str → Option Value) (base : Heap) (k : Nat) (C : Addr) (m : Str) (sp : Sp) : Prop := ∃ q g, CSta K C m q g ∧ FnS false P w K mg base k g sp
theorem p_static {pl : Sem Bool} (h : Sf X.prog X.w X.K X.mg X.base k C m sp) (hr : Room k X.A) (hg : Gl X x) (hm : X.mg x = some (.ref C)) (ha : PA X (e :: es) t) (hdb : (x == ("__debug__" : Str)) = false := by decide)
    (hst : starEach (e :: es) X.env = (false, eval e X.env) :: starEach es X.env := by rfl) (hpl : (backTo pos (starEach es X.env)).any (·.1) = false := by rfl)
    (ht : eval (.Call (.Attribute (.Name x p) m apos) (e :: es) [] pos) X.env = (do
      let ov ← eval (.Name x p) X.env
      standAt apos.atName
      let (f, first) ← holding [ov] (getMethod ov m pl)
      callWith pos f first (backTo pos (starEach (e :: es) X.env)) (backToKw pos (keywordEach [] X.env))) := by rfl) :
    PE X (.Call (.Attribute (.Name x p) m apos) (e :: es) [] pos) (tCall sp [] E0 t) := by
  obtain ⟨q, g, s0, F⟩ := h
  obtain ⟨rest, hrc⟩ := s0.rc
  have hn : PE X (.Name x p) (tC (.ref C)) := DL.p_cls hg hm hdb
  refine ⟨fun pins s σ H Q I h => ?_⟩
  refine PySem.W.methodCall_KW (pl := pl) (thn (hn.run pins s σ H (fun v H1 => v = .ref C ∧ H1 = H) I ⟨rfl, rfl⟩) fun u s1 ⟨y, H1, I1, ry, ey, eh⟩ => ?_) ht
  subst ey eh
  obtain rfl : u = Value.ref C := ry
  refine PySem.W.method_cls I1.kIn s0.ga (PySem.W.cls_bind I1.kIn s0.rd s0.at_ (wpAny_call (PySem.W.sm_get (s := { s1 with toks := s1.toks + 1 }) I1.kIn hrc (PySem.W.handed_on rfl ?_))))
  have I2 := I1.tok (s1.toks + 1)
  refine PySem.W.callWith_K (first := []) (h₀ := X.base) I.ok.mod.kin s0.kp (thn (ha.run pos pins _ σ H1 _ I2 h) fun us s2 ⟨vs, H2, I3, r, q2⟩ => ⟨I3.kIn, ?_⟩) hst hpl
  have q3 : sp (vs ++ []) H2 Q E0 := q2
  rw [List.append_nil] at q3
  exact run_call F hr rfl (fun z => nomatch z) I3 r q3
end
/-! over data -/
section
variable {c : Cl} {te : TE} {me : ME} {tas : TA} {es : List ME}
theorem mL_app (G : GS) : ∀ (as bs : List ME) (O : Ob) (R : List D → Ob → Prop), mL (as ++ bs) G O R ↔ mL as G O fun ds O1 => mL bs G O1 fun es O2 => R (ds ++ es) O2
  | [], bs, O, R => Iff.rfl
  | a :: as, bs, O, R => by
    show (a G O fun d O1 => mL (as ++ bs) G O1 fun ds O2 => R (d :: ds) O2) ↔ (a G O fun d O1 => mL as G O1 fun ds O2 => mL bs G O2 fun es O3 => R (d :: ds ++ es) O3)
    have e : (fun d O1 => mL (as ++ bs) G O1 fun ds O2 => R (d :: ds) O2) = fun d O1 => mL as G O1 fun ds O2 => mL bs G O2 fun es O3 => R (d :: ds ++ es) O3 := by
      funext d O1
      exact propext (mL_app G as bs O1 _)
    rw [e]
theorem make_core {t : Nat} {w : W} {F0 : Hp} {O0 : Ob} {H0 : Hp} {G : GS} {S : List (V × D)} {σ : L2.St} {Q : VK} {K : KE} {vs : List V} {ds : List D} {O1 : Ob} {F1 H1 : Hp} (k : ∀ v d O' F' H', K d O' → FM ⟨c, F0, O0, H0⟩ G O' S F' σ H' → Rp c F' v d → Q v H')
    (h1 : w ds O1 K) (f1 : FM ⟨c, F0, O0, H0⟩ G O1 S F1 σ H1) (r1 : RpL c F1 vs ds) (p dx : Addr) (hp0 : H1 p = none) (hd0 : H1 dx = none) (hne : dx ≠ p) :
    spMk c t w (.ref p :: vs) (upd (upd H1 dx (.own p)) p (.ins (c.ca t) dx [])) (fun v H2 => v = .non ∧ Q (.ref p) H2) E0 := by
  have up : ∀ b o, H1 b = some o → upd (upd H1 dx (.own p)) p (.ins (c.ca t) dx []) b = some o := fun b o e => by
    rw [upd_ne (ne_of_none e hp0), upd_ne (ne_of_none e hd0)]; exact e
  obtain ⟨fp, op⟩ := f1.mm.free hp0
  refine ⟨F1, O1, ds, K, p, dx, vs, rfl, ⟨fun b o e => up b o (f1.sub b o e), fun q xs e => ?_, f1.mm.off⟩, fp, op, upd_same, r1, h1, fun d F' O' H' hk m s1 s2 s3 r => ⟨rfl, k _ _ O' F' H' hk (f1.step m ⟨s1, fun b o e q => s2 b o (up b o e) q (ne_of_none e hp0), fun b e1 e2 e3 => s3 b e1 e2 ?_ ?_⟩) r⟩⟩
  · obtain ⟨us, e1, e2⟩ := f1.mm.all q xs e
    exact ⟨us, up _ _ e1, e2⟩
  · cases z : H1 b with
    | none => exact absurd z e3
    | some o => rw [up b o z]; exact fun z => nomatch z
  · intro z; subst z; exact e3 hp0
theorem RpL.snocs {F : Hp} {vs ws : List V} {ds es : List D} (a : RpL c F vs ds) (b : RpL c F ws es) : RpL c F (vs ++ ws) (ds ++ es) := a.append b
theorem se_makeK {t n : Nat} {w : W} (ha : SA c tas es) (he : SE c te me) (hn : es.length = n) : SE c (tMakeK (c.ca t) n 1 (spMk c t w) (fun vs zs => vs ++ zs) E0 tas (tCons te tNil)) (mCB w (es ++ [me])) := by
  intro F0 O0 H0 G O S F σ H Q K f k h
  have h' := (mL_app G es [me] O _).mp h
  -- the positional ones are kept at hand while the last is reckoned
  refine ha F0 O0 H0 G O S F σ H _ _ f (fun vs ds O1 F1 H1 h1 hl f1 r1 => ?_) h'
  have pushAll : ∀ (ws : List V) (es : List D) {S' : List (V × D)}, RpL c F1 ws es → FM ⟨c, F0, O0, H0⟩ G O1 S' F1 σ H1 → FM ⟨c, F0, O0, H0⟩ G O1 (ws.zip es ++ S') F1 σ H1 := by
    intro ws
    induction ws with
    | nil => intro es S' r f; exact f
    | cons w ws ih =>
      intro es S' r f
      cases es with
      | nil => cases r
      | cons d es => cases r with | cons a b => exact (ih es b f).push a
  have popAll : ∀ (ws : List V) (es : List D) {S' : List (V × D)} {O' : Ob} {F' H' : Hp}, ws.length = es.length → FM ⟨c, F0, O0, H0⟩ G O' (ws.zip es ++ S') F' σ H' → RpL c F' ws es ∧ FM ⟨c, F0, O0, H0⟩ G O' S' F' σ H' := by
    intro ws
    induction ws with
    | nil => intro es S' O' F' H' hl f; cases es with | nil => exact ⟨.nil, f⟩ | cons _ _ => cases hl
    | cons w ws ih =>
      intro es S' O' F' H' hl f
      cases es with
      | nil => cases hl
      | cons d es =>
        obtain ⟨a, b⟩ := ih es (by simpa using hl) (FM.pop (v := w) (d := d) f)
        exact ⟨.cons (FM.top (v := w) (d := d) f) a, b⟩
  refine he F0 O0 H0 G O1 (vs.zip ds ++ S) F1 σ H1 _ _ (pushAll vs ds r1 f1) (fun x dx O2 F2 H2 h2 f2 r2 => ?_) h1
  obtain ⟨r3, f3⟩ := popAll vs ds r1.length f2
  refine ⟨by rw [hl, hn], rfl, fun p dx hp hd hne => ?_⟩
  exact make_core k h2 f3 (r3.append (.cons r2 .nil)) p dx hp hd hne
theorem se_makeD {t n : Nat} {w : W} {z : V} (ha : SA c tas es) (hn : es.length = n) : SE c (tMakeK (c.ca t) n 0 (spMk c t w) (fun vs _ => vs ++ [z]) E0 tas tNil) (mCB w (es ++ [mC z])) := by
  intro F0 O0 H0 G O S F σ H Q K f k h
  have h' := (mL_app G es [mC z] O _).mp h
  refine ha F0 O0 H0 G O S F σ H _ _ f (fun vs ds O1 F1 H1 h1 hl f1 r1 => ⟨by rw [hl, hn], rfl, fun p dx hp hd hne => ?_⟩) h'
  exact make_core k h1 f1 (r1.append (.cons (.raw z) .nil)) p dx hp hd hne
end
end DN

set_option maxHeartbeats 4000000
/-! DNo: == of tuples that hold instances of the text's own classes. -/
namespace DN
open PySem PySem.Spec PyProof.Rows L2
section
open PySem.SeqAt MeetsSeq MeetsSeq2 MeetsSeq3 SeqRoads2
open AutoSeq1 (wpAny_loadPart')
open GQ (FinOf call_here)
variable {prog : Program} {w : World} {A : Around} {R : Result → Shared → Prop}
/-- tuple.__eq__, turn by turn: on while equal, over at the first two that are not -/
theorem tup_eqB (l b : Addr) (items items2 : Array Value) (n n2 : Nat) (dd dd2 : Option Addr) (sl sl2 : Array (Option Value)) (I : Nat → Shared → Prop)
    (turn : ∀ i (h1 : i < items.size) (h2 : i < items2.size) s, I i s → wpAny (model prog w) A.in1 (eqBool items[i] items2[i]) (fun r s' => (r = true ∧ I (i + 1) s') ∨ (r = false ∧ R (.ok (.ret (.bool false))) s')) (fun e s' => R (.error e) s') s)
    (fin : ∀ s, I (min items.size items2.size) s → R (.ok (.ret (.bool (items.size == items2.size)))) s) {s : Shared} (hl1 : s.heap.get? l = some { cls := .type "tuple", dict := dd, data := .seq items n, slots := sl }) (hb1 : s.heap.get? b = some { cls := .type "tuple", dict := dd2, data := .seq items2 n2, slots := sl2 }) (h : I 0 s) :
    wpAny (model prog w) A.in1 (Builtin.«tuple.__eq__» ⟨[.ref l, .ref b], []⟩) (FinOf prog w A R) (fun e s' => R (.error e) s') s := by
  have f2 := AutoSeq1.sub_tuple_tuple
  have hZ : (items.toList.zip items2.toList).length = min items.size items2.size := by simp
  have h0 := h
  obtain ⟨hp, g, d, tk, os⟩ := s
  wp_walk using wpAny_loadPart' hl1, wpAny_loadPart' hb1, wpAny_forIn_list _ (fun rest b s' => b.1 = none ∧ ∃ i, rest = (items.toList.zip items2.toList).drop i ∧ i ≤ min items.size items2.size ∧ I i s') _
  case turn =>
    rintro ⟨y, x⟩ rest b s' ⟨hb', i, hz, hi, hI⟩
    have hlt : i < (items.toList.zip items2.toList).length := by
      rcases Nat.lt_or_ge i (items.toList.zip items2.toList).length with q | q
      · exact q
      · rw [List.drop_of_length_le q] at hz; cases hz
    have hm : i < min items.size items2.size := hZ ▸ hlt
    have h1 : i < items.size := Nat.lt_of_lt_of_le hm (Nat.min_le_left _ _)
    have h2 : i < items2.size := Nat.lt_of_lt_of_le hm (Nat.min_le_right _ _)
    rw [List.drop_eq_getElem_cons hlt] at hz
    injection hz with hyx hrest
    have hy : y = items[i] := by have := congrArg Prod.fst hyx; simpa using this
    have hx : x = items2[i] := by have := congrArg Prod.snd hyx; simpa using this
    subst hy hx
    refine wpAny_bind (wpAny_mono (turn i h1 h2 s' hI) (fun r s2 q2 => ?_) fun _ _ x => x)
    rcases q2 with ⟨hr, q2⟩ | ⟨hr, q2⟩
    · subst hr
      wp_walk
      exact ⟨rfl, i + 1, hrest, hm, q2⟩
    · subst hr
      wp_walk
      exact q2
  case fin =>
    rintro ⟨b1, b2⟩ s' ⟨hb', i, hz, hi, hI⟩
    simp only at hb'
    subst hb'
    have hge : min items.size items2.size ≤ i := by
      rcases Nat.lt_or_ge i (items.toList.zip items2.toList).length with q | q
      · rw [List.drop_eq_getElem_cons q] at hz; cases hz
      · exact hZ ▸ q
    have hi' : i = min items.size items2.size := by omega
    have hR := fin s' (hi' ▸ hI)
    wp_walk
    simpa [Builtin.Tuple.tupleCompareSizes] using hR
  case h =>
    exact ⟨rfl, 0, rfl, Nat.zero_le _, h0⟩
theorem rc_tupB {E : Value → Shared → Prop} {s : Shared} {l b : Addr} {items items2 : Array Value} {Q : Value → Shared → Prop} (hu : A.units < cLine) (I : Nat → Shared → Prop)
    (hl : s.heap.IsTuple l items) (hb : s.heap.IsTuple b items2)
    (turn : ∀ i (h1 : i < items.size) (h2 : i < items2.size) s, I i s → wpAny (model prog w) A.in1 (eqBool items[i] items2[i]) (fun r s' => (r = true ∧ I (i + 1) s') ∨ (r = false ∧ Q (.bool false) s')) E s)
    (fin : ∀ s, I (min items.size items2.size) s → Q (.bool (items.size == items2.size)) s) (h : I 0 s) : wpAny (model prog w) A (richCompare .Eq (.ref l) (.ref b)) Q E s := by
  obtain ⟨⟨cls, dd, data, sl⟩, ho, hc, n, hd⟩ := id hl
  obtain ⟨⟨cls2, dd2, data2, sl2⟩, ho2, hc2, n2, hd2⟩ := id hb
  simp only at hc hd hc2 hd2
  subst hc hd hc2 hd2
  refine wpAny_richCompare_same_room (op := .Eq) ⟨_, ho, rfl⟩ ⟨_, ho2, rfl⟩ F.slot_tuple_eq (call_here F.slot_tuple_eq ⟨_, ho, rfl⟩ F.entry_tuple_eq (F.args_tuple_eq_2 _ _) ?_) hu
  refine tup_eqB (R := wants (fun v s' => v ≠ .notImplemented ∧ Q v s') E) l b items items2 n n2 dd dd2 sl sl2 I (fun i h1 h2 s' q => wpAny_mono (turn i h1 h2 s' q) (fun r s2 z => ?_) fun _ _ x => x) (fun s' q => ⟨(fun x => nomatch x), fin s' q⟩) ho ho2 h
  rcases z with z | ⟨z1, z2⟩
  · exact .inl z
  · exact .inr ⟨z1, (fun x => nomatch x), z2⟩
end
section
open PySem.EqNone
variable {prog : Program} {w : World} {A : Around} {E : Value → Shared → Prop} {s : Shared} {K : PySem.W.Frag} {x C f : Addr} {ox : Obj} {od : Option Obj} {Q : Value → Shared → Prop}
theorem none_ref_eq' {R : Result → Shared → Prop} (b : Addr) (h : R (.ok (.ret .notImplemented)) s) : wpAny (model prog w) A.in1 (Builtin.«NoneType.__eq__» ⟨[.none, .ref b], []⟩) (GQ.FinOf prog w A R) (fun e s' => R (.error e) s') s := by
  obtain ⟨hp, g, d, tk, os⟩ := s
  wp_walk
  exact h
/-- None == x, x of a class with its own == -/
theorem none_own (hu : A.units < cLine) (X : K.In s.heap) (I : PySem.W.InstAt s.heap x ox C od) (hsub : PySem.W.subIn K (.ref C) (.type "NoneType") = some false)
    (hs : PySem.W.findIn K (.ref C) "__eq__" = some (some (.ref f))) (hf : PySem.W.isFn K (.ref f) = true)
    (h : wpAny (model prog w) A (call (.ref f) [.ref x, .none]) (PySem.W.CmpBack Q) E s) : wpAny (model prog w) A (richCompare .Eq .none (.ref x)) Q E s := by
  have one : wpAny (model prog w) A (tryCompare (.ref x) "__eq__" .none) (fun r s' => ∃ v, r = some v ∧ Q v s') E s := by
    unfold tryCompare
    refine wpAny_bind (PySem.W.ifBound_K X I hs hf (wpAny_mono h (fun v s' hv => ?_) fun _ _ e => e))
    cases v <;> first | exact hv.elim | exact wpAny_pure ⟨_, rfl, hv⟩
  unfold richCompare
  have o1 : oneThing? .Eq .none (.ref x) = none := by rfl
  simp only [o1]
  refine wpAny_holding (wpAny_bind (wpAny_cRoomFor hu ?_))
  have tn : PySem.W.Looks (model prog w) s.heap (typeOf .none) (.type "NoneType") := PySem.W.Looks.of_pure rfl
  refine wpAny_bind (tn.here (wpAny_bind (I.type.here ?_)))
  have hne : (Value.type "NoneType" != Value.ref C) = true := by rfl
  simp only [hne, if_true]
  refine wpAny_bind ((PySem.W.looks_subIn X hsub).here ?_)
  simp only [Bool.false_eq_true, if_false, Bool.not_false, if_true]
  have t1 : s.TypeIs .none "NoneType" := rfl
  refine wpAny_bind (m := tryCompare .none _ (.ref x)) (wpAny_tryCompare_declines t1 F.slot_NoneType_eq (GQ.call_here F.slot_NoneType_eq t1 F.entry_NoneType_eq (F.args_NoneType_eq_2 _ _) (none_ref_eq' (R := wants _ E) x ⟨rfl, ?_⟩)))
  refine wpAny_bind (m := tryCompare (.ref x) _ .none) (wpAny_mono one (fun r s' z => ?_) fun _ _ e => e)
  obtain ⟨v, rfl, hq⟩ := z
  exact wpAny_pure hq
end
end DN

set_option maxHeartbeats 4000000
/-! DNq: == of nested data with own objects, over data. -/
namespace DN
open PySem PySem.Spec PyProof.Rows L2
open DL (FnS run_call inC_at ep_cmp InC OwnC)
/-! ### whole trees -/
mutual
def full (nt : Nat) : D → Bool
  | .raw (.ref _) => false
  | .raw _ => true
  | .lst xs => fullL nt xs
  | .tup xs => fullL nt xs
  | .obj t ds => decide (t < nt) && fullL nt ds
  | _ => false
def fullL (nt : Nat) : List D → Bool
  | [] => true
  | x :: xs => full nt x && fullL nt xs
end
def Inj (c : Cl) (nt : Nat) : Prop := ∀ t u, t < nt → u < nt → c.ca t = c.ca u → t = u
section
variable {c : Cl} {F : Hp} {nt : Nat}
mutual
theorem full_inj (hi : Inj c nt) : ∀ {x : V} {d : D}, Rp c F x d → ∀ {e : D}, full nt d = true → full nt e = true → Rp c F x e → d = e
  | _, _, .raw v, _, h1, h2, r2 => by
    cases v with
    | ref p => cases h1
    | _ => cases r2; rfl
  | _, _, .lst a b, _, h1, h2, r2 => by
    cases r2 with
    | raw _ => cases h2
    | lst a' b' => rw [a] at a'; cases a'; rw [fullL_inj hi b h1 h2 b']
    | tup a' _ => rw [a] at a'; cases a'
    | obj a' _ _ => rw [a] at a'; cases a'
    | scr _ => cases h2
    | pin _ => cases h2
    | dic _ _ _ => cases h2
    | exc _ _ _ _ => cases h2
    | exc0 _ _ => cases h2
  | _, _, .tup a b, _, h1, h2, r2 => by
    cases r2 with
    | raw _ => cases h2
    | lst a' b' => rw [a] at a'; cases a'
    | tup a' b' => rw [a] at a'; cases a'; rw [fullL_inj hi b h1 h2 b']
    | obj a' _ _ => rw [a] at a'; cases a'
    | scr _ => cases h2
    | pin _ => cases h2
    | dic _ _ _ => cases h2
    | exc _ _ _ _ => cases h2
    | exc0 _ _ => cases h2
  | _, _, .obj (t := t) (xs := xs) a l b, _, h1, h2, r2 => by
    cases r2 with
    | raw _ => cases h2
    | lst a' b' => rw [a] at a'; cases a'
    | tup a' b' => rw [a] at a'; cases a'
    | obj a' l' b' =>
      rename_i dx' t' xs' ds'
      obtain ⟨q1, q2⟩ := Bool.and_eq_true_iff.mp h1
      obtain ⟨q3, q4⟩ := Bool.and_eq_true_iff.mp h2
      rw [a] at a'
      injection a' with a'
      injection a' with e1 e2 e3
      have et := hi t t' (of_decide_eq_true q1) (of_decide_eq_true q3) e1
      subst et
      have ex : xs = xs' := by
        have z := congrArg (List.map (·.2)) e3
        rw [List.map_snd_zip (by rw [l]; exact Nat.le_refl _), List.map_snd_zip (by rw [l']; exact Nat.le_refl _)] at z
        exact z
      subst ex
      rw [fullL_inj hi b q2 q4 b']
    | scr _ => cases h2
    | pin _ => cases h2
    | dic _ _ _ => cases h2
    | exc _ _ _ _ => cases h2
    | exc0 _ _ => cases h2
  | _, _, .scr a, _, h1, h2, r2 => by cases h1
  | _, _, .pin a, _, h1, h2, r2 => by cases h1
theorem fullL_inj (hi : Inj c nt) : ∀ {xs : List V} {ds : List D}, RpL c F xs ds → ∀ {es : List D}, fullL nt ds = true → fullL nt es = true → RpL c F xs es → ds = es
  | _, _, .nil, _, _, _, r2 => by cases r2; rfl
  | _, _, .cons a b, _, h1, h2, r2 => by
    cases r2 with
    | cons a' b' =>
      obtain ⟨q1, q2⟩ := Bool.and_eq_true_iff.mp h1
      obtain ⟨q3, q4⟩ := Bool.and_eq_true_iff.mp h2
      rw [full_inj hi a q1 q3 a', fullL_inj hi b q2 q4 b']
end
end
/-! ### the relation -/
inductive PrsD (P : D → D → Bool → Prop) : List D → List D → Bool → Prop
  | nil : PrsD P [] [] true
  | nilL {y : D} {ys : List D} : PrsD P [] (y :: ys) false
  | nilR {x : D} {xs : List D} : PrsD P (x :: xs) [] false
  | diff {x y : D} {xs ys : List D} : P x y false → PrsD P (x :: xs) (y :: ys) false
  | same {x y : D} {xs ys : List D} {r : Bool} : P x y true → PrsD P xs ys r → PrsD P (x :: xs) (y :: ys) r
def Deq0 (nt : Nat) (ws : Nat → Option W) (O : Ob) (d e : D) (r : Bool) : Prop :=
  (∃ p q, toPy d = some p ∧ toPy e = some q ∧ SeqAt.shaped p = true ∧ SeqAt.shaped q = true ∧ r = PyData.eqv p q ∧ (d = e → r = true)) ∨
  (∃ t w ds es, d = .obj t ds ∧ e = .obj t es ∧ ws t = some w ∧ full nt d = true ∧ full nt e = true ∧ (d = e → r = true) ∧ w [d, e] O fun z O' => z = .bl r ∧ O' = O) ∨
  (∃ t w ds, d = .obj t ds ∧ e = .non ∧ r = false ∧ ws t = some w ∧ w [d, .non] O fun z O' => z = .bl false ∧ O' = O) ∨
  (∃ t w ds, e = .obj t ds ∧ d = .non ∧ r = false ∧ ws t = some w ∧ w [e, .non] O fun z O' => z = .bl false ∧ O' = O)
def Deq (nt : Nat) (ws : Nat → Option W) (O : Ob) : Nat → D → D → Bool → Prop
  | 0, d, e, r => Deq0 nt ws O d e r
  | m + 1, d, e, r => Deq0 nt ws O d e r ∨ ∃ xs ys, d = .tup xs ∧ e = .tup ys ∧ full nt d = true ∧ full nt e = true ∧ (d = e → r = true) ∧ PrsD (Deq nt ws O m) xs ys r
/-! ### what it comes to -/
/-- the class t's own == -/
def OwnE (X : Cx) (c : Cl) (k t : Nat) (w : W) : Prop := DL.Mf false X.prog X.w X.K X.mg X.base k (c.ca t) "__eq__" (spM c w) ∧ PySem.W.subIn X.K (.ref (c.ca t)) (.type "NoneType") = some false
def EqM (X : Cx) (c : Cl) (n : Nat) (O : Ob) (d e : D) (r : Bool) : Prop :=
  ∀ (A : Around) (pins : List (Addr × Obj)) (s : Shared) (σ : L2.St) (F H : Hp) (x y : V) (u v : Value), L2.Sub X n A → Inv X pins σ H s → RelV x u → RelV y v → Mm c F O H → Rp c F x d → Rp c F y e →
    wpAny (model X.prog X.w) A (eqBool u v) (fun b s' => b = r ∧ ∃ F' H', Inv X pins σ H' s' ∧ Mm c F' O H' ∧ Go F O H F' O H') X.xe s
def RcM (X : Cx) (c : Cl) (n : Nat) (O : Ob) (d e : D) (r : Bool) : Prop :=
  ∀ (A : Around) (pins : List (Addr × Obj)) (s : Shared) (σ : L2.St) (F H : Hp) (x y : V) (u v : Value), L2.Sub X n A → Inv X pins σ H s → RelV x u → RelV y v → Mm c F O H → Rp c F x d → Rp c F y e →
    wpAny (model X.prog X.w) A (richCompare .Eq u v) (fun b s' => b = .bool r ∧ ∃ F' H', Inv X pins σ H' s' ∧ Mm c F' O H' ∧ Go F O H F' O H') X.xe s
section
variable {X : Cx} {c : Cl} {k n nt : Nat} {O : Ob} {d e : D} {r : Bool} {ws : Nat → Option W}
/-- from a rich comparison to == inside a tuple -/
theorem RcM.eq (h : RcM X c n O d e r) (hi : Inj c nt) (fd : full nt d = true) (fe : full nt e = true) (hr : d = e → r = true) (href : (∃ ds, d = .tup ds) ∨ ∃ t ds, d = .obj t ds) (href2 : (∃ ds, e = .tup ds) ∨ ∃ t ds, e = .obj t ds) : EqM X c n O d e r := by
  intro A pins s σ F H x y u v sb I rx ry m rd re
  obtain ⟨a, rfl⟩ : ∃ a, x = .ref a := by
    rcases href with ⟨ds, rfl⟩ | ⟨t, ds, rfl⟩
    · obtain ⟨a, _, e, _⟩ := rd.tup_at; exact ⟨a, e⟩
    · obtain ⟨a, _, _, e, _⟩ := rd.obj_at; exact ⟨a, e⟩
  obtain ⟨b, rfl⟩ : ∃ a, y = .ref a := by
    rcases href2 with ⟨ds, rfl⟩ | ⟨t, ds, rfl⟩
    · obtain ⟨a, _, e, _⟩ := re.tup_at; exact ⟨a, e⟩
    · obtain ⟨a, _, _, e, _⟩ := re.obj_at; exact ⟨a, e⟩
  cases rx
  cases ry
  by_cases hab : a = b
  · subst hab
    rw [hr (full_inj hi rd fd fe re)]
    exact SeqAt.EqAt.same (A := A) (s := s) (.ref a) X.prog X.w X.xe _ ⟨rfl, F, H, I, m, .rfl⟩
  · refine GQ.eqBool_refG hab (wpAny_mono (h A pins s σ F H (.ref a) (.ref b) _ _ sb I rfl rfl m rd re) (fun z s' q => ?_) fun _ _ x => x)
    obtain ⟨hz, q⟩ := q
    exact ⟨r, hz, rfl, q⟩
theorem run_own {w : W} {A : Around} {pins : List (Addr × Obj)} {s : Shared} {σ : L2.St} {F H : Hp} {x y : V} {u v : Value} {f : Addr} (hF : FnS false X.prog X.w X.K X.mg X.base k f (spM c w)) (sb : L2.Sub X k A) (I : Inv X pins σ H s) (rx : RelV x u) (ry : RelV y v) (m : Mm c F O H) (rd : Rp c F x d) (re : Rp c F y e)
    (hw : w [d, e] O fun z O' => z = .bl r ∧ O' = O) : wpAny (model X.prog X.w) A (call (.ref f) [u, v]) (PySem.W.CmpBack fun b s' => b = .bool r ∧ ∃ F' H', Inv X pins σ H' s' ∧ Mm c F' O H' ∧ Go F O H F' O H') X.xe s := by
  have hsp : spM c w [x, y] H (fun z H' => z = .bl r ∧ ∃ F', Mm c F' O H' ∧ Go F O H F' O H') E0 :=
    ⟨F, O, [d, e], _, m, .cons rd (.cons re .nil), hw, fun z d' F' O' H' hk m' g rz => by
      obtain ⟨rfl, rfl⟩ := hk
      exact ⟨rz.raw_eq, F', m', g⟩⟩
  refine wpAny_mono (run_call hF sb.room sb.fr (fun z => nomatch z) I (.cons rx (.cons ry .nil)) hsp) (fun b s' z => ?_) fun _ _ z => z
  obtain ⟨z1, H', I', rz, e1, F', m', g⟩ := z
  subst e1
  cases rz
  exact ⟨rfl, F', H', I', m', g⟩
theorem deq0_eq (hK : X.K = c.K) (hi : Inj c nt) (hw : ∀ t w, ws t = some w → OwnE X c k t w) (h : Deq0 nt ws O d e r) : EqM X c k O d e r := by
  rcases h with ⟨p, q, hp, hq, sp, sq, rfl, _⟩ | ⟨t, w, ds, es, rfl, rfl, hwt, f1, f2, hr, hww⟩ | ⟨t, w, ds, rfl, rfl, rfl, hwt, hww⟩ | ⟨t, w, ds, rfl, rfl, rfl, hwt, hww⟩
  · intro A pins s σ F H x y u v sb I rx ry m rd re
    have d1 : Dp X.K H x p := by rw [hK]; exact rd.dp m.sub hp
    have d2 : Dp X.K H y q := by rw [hK]; exact re.dp m.sub hq
    obtain ⟨as, r1⟩ := Dp.reads I p x u d1 rx
    obtain ⟨bs, r2⟩ := Dp.reads I q y v d2 ry
    exact SeqAt.eqAt_reads p q A s u v as bs r1 r2 (SeqAt.canLay_of_shaped sp) (SeqAt.canLay_of_shaped sq) (SeqAt.room_of_shaped sp sb.room.units) X.prog X.w X.xe _ ⟨rfl, F, H, I, m, .rfl⟩
  · obtain ⟨⟨f, M, hF⟩, _⟩ := hw t w hwt
    refine RcM.eq ?_ hi f1 f2 hr (.inr ⟨t, ds, rfl⟩) (.inr ⟨t, es, rfl⟩)
    intro A pins s σ F H x y u v sb I rx ry m rd re
    obtain ⟨a, dx, xs, rfl, ea, _, _⟩ := rd.obj_at
    obtain ⟨b, dy, ys, rfl, eb, _, _⟩ := re.obj_at
    have hx : InC (c.ca t) H (.ref a) := ⟨a, dx, _, rfl, m.sub _ _ ea⟩
    have hy : InC (c.ca t) H (.ref b) := ⟨b, dy, _, rfl, m.sub _ _ eb⟩
    obtain ⟨a', ox, od, eu, J⟩ := inC_at I hx rx
    obtain ⟨b', oy, od', ev, J'⟩ := inC_at I hy ry
    cases rx
    cases ry
    cases eu
    cases ev
    obtain ⟨mm, hFr⟩ := I.fr
    exact PySem.W.cmp_K (op := .Eq) sb.room.units0 hFr I.ok.mod.kin J J'.type (by simp [PySem.W.notFirst]) M.at_ M.fn (run_own (x := .ref a) (y := .ref b) hF sb I rfl rfl m rd re hww)
  · obtain ⟨⟨f, M, hF⟩, _⟩ := hw t w hwt
    intro A pins s σ F H x y u v sb I rx ry m rd re
    obtain ⟨a, dx, xs, rfl, ea, _, _⟩ := rd.obj_at
    have hx : InC (c.ca t) H (.ref a) := ⟨a, dx, _, rfl, m.sub _ _ ea⟩
    obtain ⟨a', ox, od, eu, J⟩ := inC_at I hx rx
    have ey := re.raw_eq; subst ey
    cases rx
    cases ry
    cases eu
    obtain ⟨mm, hFr⟩ := I.fr
    have rc : wpAny (model X.prog X.w) A (richCompare .Eq (.ref a) .none) (fun b s' => b = .bool false ∧ ∃ F' H', Inv X pins σ H' s' ∧ Mm c F' O H' ∧ Go F O H F' O H') X.xe s :=
      PySem.W.cmp_K (op := .Eq) sb.room.units0 hFr I.ok.mod.kin J (PySem.W.Looks.of_pure rfl) (by unfold PySem.W.notFirst; rw [show PySem.W.subIn X.K (.type "NoneType") (.ref (c.ca t)) = some false from rfl]; simp) M.at_ M.fn (run_own (x := .ref a) (y := .non) hF sb I rfl rfl m rd (.raw _) hww)
    unfold eqBool
    refine wpAny_holding ?_
    refine wpAny_ite_split (fun hab => by cases (eq_of_beq hab)) (fun _ => ?_)
    refine wpAny_bind (wpAny_mono rc (fun z s' hv => ?_) fun _ _ x => x)
    obtain ⟨rfl, q⟩ := hv
    exact wpAny_truthy_bool ⟨rfl, q⟩
  · obtain ⟨⟨f, M, hF⟩, hsub⟩ := hw t w hwt
    intro A pins s σ F H x y u v sb I rx ry m rd re
    obtain ⟨a, dx, xs, rfl, ea, _, _⟩ := re.obj_at
    have hx : InC (c.ca t) H (.ref a) := ⟨a, dx, _, rfl, m.sub _ _ ea⟩
    obtain ⟨a', ox, od, eu, J⟩ := inC_at I hx ry
    have ey := rd.raw_eq; subst ey
    cases rx
    cases ry
    cases eu
    have rc : wpAny (model X.prog X.w) A (richCompare .Eq .none (.ref a)) (fun b s' => b = .bool false ∧ ∃ F' H', Inv X pins σ H' s' ∧ Mm c F' O H' ∧ Go F O H F' O H') X.xe s :=
      none_own sb.room.units0 I.kIn J hsub M.at_ M.fn (run_own (x := .ref a) (y := .non) hF sb I rfl rfl m re (.raw _) hww)
    unfold eqBool
    refine wpAny_holding ?_
    refine wpAny_ite_split (fun hab => by cases (eq_of_beq hab)) (fun _ => ?_)
    refine wpAny_bind (wpAny_mono rc (fun z s' hv => ?_) fun _ _ x => x)
    obtain ⟨rfl, q⟩ := hv
    exact wpAny_truthy_bool ⟨rfl, q⟩
theorem EqM.mono {m : Nat} (h : EqM X c n O d e r) (hn : n ≤ m) : EqM X c m O d e r := fun A pins s σ F H x y u v sb => h A pins s σ F H x y u v (sb.mono hn)
theorem prs_rc {P : D → D → Bool → Prop} {xs ys : List D} (hK : X.K = c.K) (hP : ∀ d e r, P d e r → EqM X c n O d e r) (h : PrsD P xs ys r) : RcM X c (n + 1) O (.tup xs) (.tup ys) r := by
  intro A pins s σ F H x y u v sb I rx ry m rd re
  obtain ⟨a, us, rfl, ea, ra⟩ := rd.tup_at
  obtain ⟨b, vs, rfl, eb, rb⟩ := re.tup_at
  cases rx
  cases ry
  obtain ⟨its, r1, e1, _⟩ := I.tuple (show SqT X.K H a us from .inl (.inl (m.sub _ _ ea)))
  obtain ⟨its2, r2, e2, _⟩ := I.tuple (show SqT X.K H b vs from .inl (.inl (m.sub _ _ eb)))
  have n1 : its.length = xs.length := by rw [← r1.length, ra.length]
  have n2 : its2.length = ys.length := by rw [← r2.length, rb.length]
  refine rc_tupB sb.room.units0 (fun i s' => ∃ F' H', Inv X pins σ H' s' ∧ Mm c F' O H' ∧ Go F O H F' O H' ∧ PrsD P (xs.drop i) (ys.drop i) r) e1 e2 (fun i h1 h2 s' hI => ?_) (fun s' hI => ?_) ⟨F, H, I, m, .rfl, h⟩
  · obtain ⟨F', H', I', m', g', hp⟩ := hI
    have k1 : i < xs.length := by rw [← n1]; simpa using h1
    have k2 : i < ys.length := by rw [← n2]; simpa using h2
    obtain ⟨vx, hvx, rvx⟩ := ra.get (List.getElem?_eq_getElem k1)
    obtain ⟨vy, hvy, rvy⟩ := rb.get (List.getElem?_eq_getElem k2)
    obtain ⟨ux, hux, rux⟩ := r1.get hvx
    obtain ⟨uy, huy, ruy⟩ := r2.get hvy
    have q1 : its.toArray[i] = ux := by
      have h1' : i < its.length := by simpa using h1
      have z : its[i]? = some its.toArray[i] := by rw [List.getElem?_eq_getElem h1'] <;> simp
      rw [z] at hux; exact Option.some.inj hux
    have q2 : its2.toArray[i] = uy := by
      have h2' : i < its2.length := by simpa using h2
      have z : its2[i]? = some its2.toArray[i] := by rw [List.getElem?_eq_getElem h2'] <;> simp
      rw [z] at huy; exact Option.some.inj huy
    rw [q1, q2]
    rw [List.drop_eq_getElem_cons k1, List.drop_eq_getElem_cons k2] at hp
    have go : ∀ r', P xs[i] ys[i] r' → wpAny (model X.prog X.w) A.in1 (eqBool ux uy) (fun b s' => b = r' ∧ ∃ F'' H'', Inv X pins σ H'' s' ∧ Mm c F'' O H'' ∧ Go F' O H' F'' O H'') X.xe s' := fun r' hr' =>
      hP _ _ _ hr' A.in1 pins s' σ F' H' vx vy ux uy sb.in1 I' rux ruy m' (rvx.mono g'.ff) (rvy.mono g'.ff)
    cases hp with
    | diff hd =>
      refine wpAny_mono (go _ hd) (fun b s2 z => ?_) fun _ _ x => x
      obtain ⟨hb, F'', H'', I'', m'', g''⟩ := z
      exact .inr ⟨hb, rfl, F'', H'', I'', m'', g'.trans m' g''⟩
    | same hd hrest =>
      refine wpAny_mono (go _ hd) (fun b s2 z => ?_) fun _ _ x => x
      obtain ⟨hb, F'', H'', I'', m'', g''⟩ := z
      exact .inl ⟨hb, F'', H'', I'', m'', g'.trans m' g'', hrest⟩
  · obtain ⟨F', H', I', m', g', hp⟩ := hI
    have z1 : its.toArray.size = xs.length := by simpa using n1
    have z2 : its2.toArray.size = ys.length := by simpa using n2
    rw [z1, z2] at hp ⊢
    refine ⟨?_, F', H', I', m', g'⟩
    congr 1
    rcases Nat.lt_trichotomy xs.length ys.length with q | q | q
    · rw [Nat.min_eq_left (Nat.le_of_lt q), List.drop_length, List.drop_eq_getElem_cons q] at hp
      cases hp
      exact beq_eq_false_iff_ne.mpr (Nat.ne_of_lt q)
    · rw [q, Nat.min_self, List.drop_length, ← q, List.drop_length] at hp
      cases hp
      exact beq_iff_eq.mpr q
    · rw [Nat.min_eq_right (Nat.le_of_lt q), List.drop_length, List.drop_eq_getElem_cons q] at hp
      cases hp
      exact beq_eq_false_iff_ne.mpr (Nat.ne_of_gt q)
theorem deq_eq (hK : X.K = c.K) (hi : Inj c nt) (hw : ∀ t w, ws t = some w → OwnE X c k t w) : ∀ (m : Nat) (d e : D) (r : Bool), Deq nt ws O m d e r → EqM X c (k + m) O d e r
  | 0, d, e, r, h => deq0_eq hK hi hw h
  | m + 1, d, e, r, h => by
    rcases h with h | ⟨xs, ys, rfl, rfl, f1, f2, hr, hp⟩
    · exact (deq0_eq hK hi hw h).mono (Nat.le_add_right _ _)
    · exact RcM.eq (prs_rc hK (deq_eq hK hi hw m) hp) hi f1 f2 hr (.inl ⟨xs, rfl⟩) (.inl ⟨ys, rfl⟩)
end
/-! ### the operator -/
def rEqN (c : Cl) (nt : Nat) (ws : Nat → Option W) (m : Nat) : R2 := fun x y H Q => ∃ F O xs ys r, Mm c F O H ∧ Rp c F x (.tup xs) ∧ Rp c F y (.tup ys) ∧ PrsD (Deq nt ws O m) xs ys r ∧ ∀ F' H', Mm c F' O H' → Go F O H F' O H' → Q (.bl r) H'
theorem p_eqN {X : Cx} {c : Cl} {k nt m : Nat} {ws : Nat → Option W} (hK : X.K = c.K) (hi : Inj c nt) (hw : ∀ t w, ws t = some w → OwnE X c k t w) (hr : Room (k + m + 1) X.A) : OpR X (compareOp .Eq) (rEqN c nt ws m) := by
  intro pins s σ H x y v u Q I rx ry h
  obtain ⟨F, O, xs, ys, r, mm, rd, re, hp, q⟩ := h
  show wpAny (model X.prog X.w) X.A (richCompare .Eq v u) (EP X pins σ Q) X.xe s
  refine wpAny_mono (prs_rc hK (deq_eq hK hi hw m) hp X.A pins s σ F H x y v u ⟨hr, rfl⟩ I rx ry mm rd re) (fun b s' z => ?_) fun _ _ z => z
  obtain ⟨rfl, F', H', I', m', g⟩ := z
  exact ⟨.bl r, H', I', rfl, q F' H' m' g⟩
def oEqN (nt : Nat) (ws : Nat → Option W) (m : Nat) : MO := fun a b O K => match a, b with
  | .tup xs, .tup ys => ∃ r, PrsD (Deq nt ws O m) xs ys r ∧ K (.bl r) O
  | _, _ => False
theorem so_eqN {c : Cl} {nt m : Nat} {ws : Nat → Option W} : SO c (rEqN c nt ws m) (oEqN nt ws m) := by
  intro F0 O0 H0 G O S F σ H Q K x y d e f rx ry k h
  unfold oEqN at h
  split at h
  · obtain ⟨r, hp, hk⟩ := h
    exact ⟨F, O, _, _, r, f.mm, rx, ry, hp, fun F' H' m g => k _ _ _ _ _ hk (f.step m g) (.raw _)⟩
  · exact h.elim
end DN
namespace DN
open PySem L2
def ws1 (t0 : Nat) (w0 : W) : Nat → Option W := fun t => if t = t0 then some w0 else none
theorem ws1_ok {X : Cx} {c : Cl} {k t0 : Nat} {w0 : W} (h : OwnE X c k t0 w0) : ∀ t w, ws1 t0 w0 t = some w → OwnE X c k t w := fun t w e => by
  unfold ws1 at e
  by_cases z : t = t0
  · rw [if_pos z] at e; cases e; rw [z]; exact h
  · rw [if_neg z] at e; cases e
end DN

set_option maxHeartbeats 4000000
/-! DNv: zip of three. -/
namespace DL
open PySem L2
def Iz3 (K : PySem.W.Frag) (k1 k2 k3 : Bool) (a b c : Addr) (xs ys zs : List V) : It :=
  ⟨fun i H => Src k1 K H a xs ∧ Src k2 K H b ys ∧ Src k3 K H c zs ∧ i < xs.length ∧ i < ys.length ∧ i < zs.length,
    fun i H v H' => ∃ T x y z, v = .ref T ∧ H T = none ∧ H' = upd H T (.tup [x, y, z]) ∧ xs[i]? = some x ∧ ys[i]? = some y ∧ zs[i]? = some z,
    fun i H => Src k1 K H a xs ∧ Src k2 K H b ys ∧ Src k3 K H c zs ∧ i ≤ xs.length ∧ i ≤ ys.length ∧ i ≤ zs.length ∧ (i = xs.length ∨ i = ys.length ∨ i = zs.length)⟩
theorem turn_z3 {P : Program} {w : World} {K : PySem.W.Frag} {elts : List Expr} {kk : Nat} {tpos : Pos} {a b c z TI TO i1 i2 i3 : Addr} {xs ys zs : List V} {k1 k2 k3 : Bool} (S : ZipSep3 z TI TO i1 i2 i3 [i1, a] [i2, b] [i3, c]) (ha : a ≠ i1) (hb : b ≠ i2) (hc0 : c ≠ i3) :
    Turn P w K (.Tuple elts kk tpos) (Iz3 K k1 k2 k3 a b c xs ys zs) [z, TI, TO, i1, i2, i3] z (fun i h => Zs.IsZB h z TI TO false .none ∧ IsTupOf3 h TI (.ref i1) (.ref i2) (.ref i3) ∧ (∃ x y u, IsTupOf3 h TO x y u) ∧ SIt k1 h i1 a i ∧ SIt k2 h i2 b i ∧ SIt k3 h i3 c i) where
  mem := by simp
  obj := by
    rintro i h ⟨hz, hTI, ⟨x, y, u, hTO⟩, h1, h2, h3⟩ c hc
    simp only [List.mem_cons, List.not_mem_nil, or_false] at hc
    rcases hc with q | q | q | q | q | q
    · rw [q]; exact ⟨_, hz, fun v q => nomatch q⟩
    · rw [q]; exact ⟨_, hTI, fun v q => nomatch q⟩
    · rw [q]; exact ⟨_, hTO, fun v q => nomatch q⟩
    · rw [q]; exact h1.there
    · rw [q]; exact h2.there
    · rw [q]; exact h3.there
  keep := by
    rintro i h h' ⟨hz, hTI, ⟨x, y, u, hTO⟩, h1, h2, h3⟩ k
    exact ⟨k z (by simp) _ hz, k TI (by simp) _ hTI, ⟨x, y, u, k TO (by simp) _ hTO⟩, h1.at fun o q => k i1 (by simp) o q, h2.at fun o q => k i2 (by simp) o q, h3.at fun o q => k i3 (by simp) o q⟩
  item := by
    intro X hP hw hK hc i pins s σ H E I hf st hg
    subst hP hw hK
    obtain ⟨hz, hTI, ⟨x0, y0, u0, hTO⟩, h1, h2, h3⟩ := st
    obtain ⟨q1, q2, q3, l1, l2, l3⟩ := hg
    have hh : X.A.in1.handled = none := I.ok.hd hc
    obtain ⟨its, St1, rv1, D1, s1, n1⟩ := src_draws hh I q1 ha h1
    obtain ⟨its2, St2, rv2, D2, s2, n2⟩ := src_draws hh I q2 hb h2
    obtain ⟨its3, St3, rv3, D3, s3, n3⟩ := src_draws hh I q3 hc0 h3
    have hzl : z < s.heap.objs.size := Heap.lt_size hz
    obtain ⟨x, hx⟩ : ∃ x, xs[i]? = some x := ⟨xs[i], List.getElem?_eq_getElem l1⟩
    obtain ⟨y, hy⟩ : ∃ y, ys[i]? = some y := ⟨ys[i], List.getElem?_eq_getElem l2⟩
    obtain ⟨u, hu⟩ : ∃ u, zs[i]? = some u := ⟨zs[i], List.getElem?_eq_getElem l3⟩
    obtain ⟨u1, e1, r1⟩ := rv1.get hx
    obtain ⟨u2, e2, r2⟩ := rv2.get hy
    obtain ⟨u3, e3, r3⟩ := rv3.get hu
    have l1' : i < its.length := by rw [← rv1.length]; exact l1
    have l2' : i < its2.length := by rw [← rv2.length]; exact l2
    have l3' : i < its3.length := by rw [← rv3.length]; exact l3
    refine wpAny_pyNext_zipD3_item S D1 D2 D3 hz hTI hTO s1 s2 s3 l1' l2' l3' fun x1 x2 x3 h' tk g1 g2 g3 z' TO' n1' n2' n3' hT hsz hk => ?_
    rw [e1] at g1
    rw [e2] at g2
    rw [e3] at g3
    cases g1
    cases g2
    cases g3
    refine ⟨_, rfl, Zs.letGo (s := { s with heap := h', toks := tk }) z' fun h'' z'' sb' => ?_⟩
    have hT2 : h''.get? s.heap.objs.size = some { cls := .type "tuple", data := .seq #[u1, u2, u3] } := (sb'.2 _ (Nat.ne_of_gt hzl)).trans hT
    have new : ObjOk X.prog X.w (upd H s.heap.objs.size (.tup [x, y, u])) h'' s.heap.objs.size (.tup [x, y, u]) :=
      ⟨by show 3 ≤ sizeLine; decide, [u1, u2, u3], .cons r1 (.cons r2 (.cons r3 .nil)), ⟨_, hT2, rfl, _, rfl⟩⟩
    have up : ∀ c o, c ∉ [z, TI, TO, i1, i2, i3] → s.heap.get? c = some o → h''.get? c = some o := fun c o hb q => by
      simp only [List.mem_cons, List.not_mem_nil, or_false, not_or] at hb
      exact (sb'.2 c hb.1).trans (hk c o hb.1 hb.2.2.1 hb.2.2.2.1 hb.2.2.2.2.1 hb.2.2.2.2.2 q)
    have I1 : Inv X pins σ (upd H s.heap.objs.size (.tup [x, y, u])) { s with heap := h'', toks := tk } := I.turnedNew (t' := tk) (ch := [z, TI, TO, i1, i2, i3]) up hf (Nat.le_refl _) new
    refine ⟨.ref s.heap.objs.size, _, I1, rfl, ⟨_, x, y, u, rfl, I.hok.fresh (Nat.le_refl _), rfl, hx, hy, hu⟩, ⟨z'', ?_, ⟨u1, u2, u3, ?_⟩, ?_, ?_, ?_⟩, fun c hcm => ?_⟩
    · exact (sb'.2 _ S.TIz).trans (hk _ _ S.TIz S.TITO S.TIi1 S.TIi2 S.TIi3 hTI)
    · exact (sb'.2 _ S.TOz).trans TO'
    · exact (n1 _ _ n1').at fun o q => (sb'.2 _ S.zi1.symm).trans q
    · exact (n2 _ _ n2').at fun o q => (sb'.2 _ S.zi2.symm).trans q
    · exact (n3 _ _ n3').at fun o q => (sb'.2 _ S.zi3.symm).trans q
    · have hlt : c < s.heap.objs.size := by
        simp only [List.mem_cons, List.not_mem_nil, or_false] at hcm
        rcases hcm with q | q | q | q | q | q
        · rw [q]; exact hzl
        · rw [q]; exact Heap.lt_size hTI
        · rw [q]; exact Heap.lt_size hTO
        · rw [q]; obtain ⟨_, e1, _⟩ := h1.there; exact Heap.lt_size e1
        · rw [q]; obtain ⟨_, e2, _⟩ := h2.there; exact Heap.lt_size e2
        · rw [q]; obtain ⟨_, e2, _⟩ := h3.there; exact Heap.lt_size e2
      rw [upd_ne (Nat.ne_of_lt hlt)]
      exact (hf c hcm).1
  done := by
    intro X hP hw hK hc i pins s σ H E I hf st hg
    subst hP hw hK
    obtain ⟨hz, hTI, ⟨x0, y0, u0, hTO⟩, h1, h2, h3⟩ := st
    obtain ⟨q1, q2, q3, l1, l2, l3, le⟩ := hg
    have hh : X.A.handled = none := I.ok.hd hc
    obtain ⟨its, St1, rv1, D1, s1, n1⟩ := src_draws (A := X.A.in1) hh I q1 ha h1
    obtain ⟨its2, St2, rv2, D2, s2, n2⟩ := src_draws (A := X.A.in1) hh I q2 hb h2
    obtain ⟨its3, St3, rv3, D3, s3, n3⟩ := src_draws (A := X.A.in1) hh I q3 hc0 h3
    have m1 := rv1.length
    have m2 := rv2.length
    have m3 := rv3.length
    refine wpAny_pyNext_zipD3_end S D1 D2 D3 hz hTI hTO s1 s2 s3 (by omega) (by omega) (by omega) (by omega) fun h' tk k => ⟨rfl, I.turnedL (t' := tk) (ch := [z, TI, TO, i1, i2, i3]) (fun c o hb q => ?_) hf⟩
    simp only [List.mem_cons, List.not_mem_nil, or_false, not_or] at hb
    exact k c o hb.1 hb.2.2.1 hb.2.2.2.1 hb.2.2.2.2.1 hb.2.2.2.2.2 q
  self := fun A i s Q E st h => Zs.selfIter st.1 h
def iZip3 (K : PySem.W.Frag) (ta : TA) : TI := fun σ H R => ta σ H fun vs H1 => ∃ k1 k2 k3 a b c xs ys zs, vs = [.ref a, .ref b, .ref c] ∧ Src k1 K H1 a xs ∧ Src k2 K H1 b ys ∧ Src k3 K H1 c zs ∧ R (Iz3 K k1 k2 k3 a b c xs ys zs) H1
section
variable {X : Cx} {e e2 e3 : Expr} {ta : TA} {p pos tpos kp kpos : Pos} {elts : List Expr} {kk j : Nat}
theorem zip_fp3 {pins : List (Addr × Obj)} {H : Hp} {σ : L2.St} {s : Shared} (I : Inv X pins σ H s) : ∀ c ∈ [s.heap.objs.size + 5, s.heap.objs.size + 3, s.heap.objs.size + 4, s.heap.objs.size, s.heap.objs.size + 1, s.heap.objs.size + 2], FpOk X pins H c := by
  intro c hc
  have hle : s.heap.objs.size ≤ c := by
    simp only [List.mem_cons, List.not_mem_nil, or_false] at hc
    rcases hc with z | z | z | z | z | z <;> rw [z] <;> first | exact Nat.le_refl _ | exact Nat.le_add_right _ _
  exact I.fpOk hle (I.hok.fresh hle)
theorem zip_sepU3 {N a b c : Nat} (ha : a < N) (hb : b < N) (hc : c < N) : ZipSep3 (N + 5) (N + 3) (N + 4) N (N + 1) (N + 2) [N, a] [N + 1, b] [N + 2, c] :=
  zip_sep3 (fun x hx => by rw [List.mem_singleton] at hx; rw [hx]; exact ha) (fun x hx => by rw [List.mem_singleton] at hx; rw [hx]; exact hb) (fun x hx => by rw [List.mem_singleton] at hx; rw [hx]; exact hc)
theorem vals3 {vs : List V} {us : List Value} {x y z : V} (r : Vals vs us) (h : vs = [x, y, z]) : ∃ u1 u2 u3, us = [u1, u2, u3] ∧ RelV x u1 ∧ RelV y u2 ∧ RelV z u3 := by
  subst h
  cases r with
  | cons a r => cases r with
    | cons b r => cases r with
      | cons c r => cases r; exact ⟨_, _, _, rfl, a, b, c⟩
theorem p_zip3 (hg : Gl X "zip") (hm : X.mg "zip" = none) (ha : PA X [e, e2, e3] ta) (hs : starEach [e, e2, e3] X.env = (false, eval e X.env) :: starEach [e2, e3] X.env := by rfl) (hpl : (backTo pos (starEach [e2, e3] X.env)).any (·.1) = false := by rfl) :
    PI X (.Tuple elts kk tpos) (.Call (.Name "zip" p) [e, e2, e3] [] pos) (iZip3 X.K ta) := by
  constructor
  intro pins s σ H R I h
  refine PyProof.Rows.Call_ (ld_blt I hg hm PyProof.Rows.boot_zip (PyProof.Rows.callWith_type1 (thn (ha.run pos pins s σ H _ I h) ?_) hs hpl))
  rintro us s1 ⟨vs, H1, I1, r1, k1, k2, k3, a, b, c, xs, ys, zs, rfl, q1, q2, q3, q⟩
  obtain ⟨u1, u2, u3, rfl, r1, r2, r3⟩ := vals3 r1 rfl
  cases r1
  cases r2
  cases r3
  obtain ⟨la, o1, P1, B1, hP1, f1⟩ := src_begins I1 q1
  obtain ⟨lb, o2, P2, B2, hP2, f2⟩ := src_begins I1 q2
  obtain ⟨lc, o3, P3, B3, hP3, f3⟩ := src_begins I1 q3
  refine zip_begins3 B1 B2 B3 hP1 hP2 hP3 fun h' hz hTI hTO g1 g2 g3 hsz hk => Zs.selfIter (sb := false) hz ?_
  exact ⟨s1.heap.objs.size + 5, _, _, _, H1, rfl, I1.kept (t' := s1.toks) hk, turn_z3 (zip_sepU3 la lb lc) (Nat.ne_of_lt la) (Nat.ne_of_lt (Nat.lt_succ_of_lt lb)) (Nat.ne_of_lt (Nat.lt_succ_of_lt (Nat.lt_succ_of_lt lc))), ⟨hz, hTI, ⟨_, _, _, hTO⟩, f1 _ _ g1, f2 _ _ g2, f3 _ _ g3⟩, zip_fp3 I1, q⟩
end
end DL
namespace DN
open PySem PySem.Spec PyProof.Rows L2
open DL (Sub sub_upd sub_upd2 iZip3 Src Iz3)
def trips (xs ys zs : List D) : List D := List.zipWith (fun x p => .tup [x, p.1, p.2]) xs (ys.zip zs)
def mZip3 (a b c : ME) : MI := fun G O R => a G O fun d O1 => b G O1 fun e O2 => c G O2 fun f O3 => ∃ xs ys zs, trD d = some xs ∧ trD e = some ys ∧ trD f = some zs ∧ R (trips xs ys zs) none O3
theorem trips_at {xs ys zs : List D} {i : Nat} {d : D} (h : (trips xs ys zs)[i]? = some d) : ∃ x y z, xs[i]? = some x ∧ ys[i]? = some y ∧ zs[i]? = some z ∧ d = .tup [x, y, z] := by
  unfold trips at h
  rw [List.getElem?_zipWith] at h
  split at h
  · rename_i x p e1 e2
    rw [List.getElem?_zip_eq_some] at e2
    cases h
    exact ⟨x, p.1, p.2, e1, e2.1, e2.2, rfl⟩
  · cases h
theorem trips_len (xs ys zs : List D) : (trips xs ys zs).length = min xs.length (min ys.length zs.length) := by unfold trips; rw [List.length_zipWith, List.length_zip]
section
variable {c : Cl}
theorem si_zip3 {ta tb tc : TE} {ma mb mc : ME} (ha : SE c ta ma) (hb : SE c tb mb) (hc : SE c tc mc) : SI c (iZip3 c.K (tCons ta (tCons tb (tCons tc tNil)))) (mZip3 ma mb mc) := by
  intro F0 O0 H0 G O S F σ H R K f k h
  refine ha F0 O0 H0 G O S F σ H _ _ f (fun x dx O1 F1 H1 h1 f1 r1 => ?_) h
  refine hb F0 O0 H0 G O1 ((x, dx) :: S) F1 σ H1 _ _ (f1.push r1) (fun y dy O2 F2 H2 h2 f2 r2 => ?_) h1
  refine hc F0 O0 H0 G O2 ((y, dy) :: (x, dx) :: S) F2 σ H2 _ _ (f2.push r2) (fun z dz O3 F3 H3 h3 f3 r3 => ?_) h2
  obtain ⟨xs, ys, zs, e1, e2, e3, hk⟩ := h3
  obtain ⟨k1, a, ws, o1, rfl, p1, s1, l1, t1⟩ := tr_src f3.pop.top e1 f3.sub
  obtain ⟨k2, b, us, o2, rfl, p2, s2, l2, t2⟩ := tr_src f3.top e2 f3.sub
  obtain ⟨k3, d, vs, o3, rfl, p3, s3, l3, t3⟩ := tr_src r3 e3 f3.sub
  refine ⟨k1, k2, k3, a, b, d, ws, us, vs, rfl, s1, s2, s3, k _ _ _ [(.ref a, .pin o1), (.ref b, .pin o2), (.ref d, .pin o3), (.ref d, dz), (.ref b, dy), (.ref a, dx)] _ _ _ hk ?_ ((((f3.push r3).push p3).push p2).push p1)⟩
  have src : ∀ F H, (∀ p ∈ [((.ref a : V), D.pin o1), ((.ref b : V), D.pin o2), ((.ref d : V), D.pin o3), ((.ref d : V), dz), ((.ref b : V), dy), ((.ref a : V), dx)], Rp c F p.1 p.2) → Sub F H → (Src k1 c.K H a ws ∧ RpL c F ws xs) ∧ (Src k2 c.K H b us ∧ RpL c F us ys) ∧ Src k3 c.K H d vs ∧ RpL c F vs zs := fun F H h s =>
    ⟨t1 F H (h (.ref a, .pin o1) (by simp)) (h (.ref a, dx) (by simp)) s, t2 F H (h (.ref b, .pin o2) (by simp)) (h (.ref b, dy) (by simp)) s, t3 F H (h (.ref d, .pin o3) (by simp)) (h (.ref d, dz) (by simp)) s⟩
  have n1 := l1.length
  have n2 := l2.length
  have n3 := l3.length
  refine ⟨fun i F O H hi h m _ => ?_, fun F O H h m _ => ?_, fun i d F O H x H' hi h m _ y => ?_⟩
  · rw [trips_len] at hi
    obtain ⟨q1, q2, q3⟩ := src F H h m.sub
    exact ⟨q1.1, q2.1, q3.1, by omega, by omega, by omega⟩
  · rw [trips_len]
    obtain ⟨q1, q2, q3⟩ := src F H h m.sub
    exact ⟨q1.1, q2.1, q3.1, by omega, by omega, by omega, by omega⟩
  · obtain ⟨q1, q2, q3⟩ := src F H h m.sub
    obtain ⟨T, x1, y1, z1, rfl, hT, rfl, e1, e2, e3⟩ := y
    obtain ⟨d1, d2, d3, g1', g2', g3', rfl⟩ := trips_at hi
    obtain ⟨d1', g1, w1⟩ := q1.2.getV e1
    obtain ⟨d2', g2, w2⟩ := q2.2.getV e2
    obtain ⟨d3', g3, w3⟩ := q3.2.getV e3
    rw [g1'] at g1; cases g1
    rw [g2'] at g2; cases g2
    rw [g3'] at g3; cases g3
    have al := m.alloc (o := .tup [x1, y1, z1]) hT
    have ff : Sub F (upd F T (.tup [x1, y1, z1])) := sub_upd (m.sub.none hT)
    exact ⟨_, al.1, al.2, .tup upd_same (.cons (w1.mono ff) (.cons (w2.mono ff) (.cons (w3.mono ff) .nil)))⟩
theorem trips_map {α β γ : Type} (f : α → D) (g : β → D) (h : γ → D) (as : List α) (bs : List β) (cs : List γ) : trips (as.map f) (bs.map g) (cs.map h) = (as.zip (bs.zip cs)).map fun q => .tup [f q.1, g q.2.1, h q.2.2] := by
  unfold trips
  rw [List.zip_map]
  generalize bs.zip cs = ps
  induction as generalizing ps with
  | nil => rfl
  | cons a as ih => cases ps with
    | nil => rfl
    | cons p ps => simp only [List.map_cons, List.zipWith_cons_cons, List.zip_cons_cons, ih, Prod.map]
end
end DN

set_option maxHeartbeats 4000000
/-! DNw: sums and multiples of lists that may change. -/
namespace DN
open PySem PySem.Spec PyProof.Rows L2
open DL (Sub sub_upd sub_upd2 rAddU rMulU)
def oMulO : MO := fun a b O K => match b with
  | .raw (.int j) => ∃ xs, lsD O a = some xs ∧ 0 ≤ j ∧ j ≤ 1000 ∧ xs.length ≤ 1000 ∧ ∀ p, O p = none → K (.at p) (put O p (.lst (List.replicate j.toNat xs).flatten))
  | _ => False
def oAddO : MO := fun a b O K => ∃ xs ys, lsD O a = some xs ∧ lsD O b = some ys ∧ xs.length + ys.length ≤ 100000 ∧ ∀ p, O p = none → K (.at p) (put O p (.lst (xs ++ ys)))
section
variable {c : Cl}
theorem so_mulO : SO c rMulU oMulO := by
  intro F0 O0 H0 G O S F σ H Q K x y d e f rx ry k h
  unfold oMulO at h
  split at h
  · rename_i j
    obtain ⟨xs, e1, h0, h1, h2, hk⟩ := h
    obtain ⟨a, ws, rfl, ha, r1⟩ := f.lstOf rx e1
    have hz : ws.length * j.toNat ≤ sizeLine := by
      rw [r1.length]
      have : j.toNat ≤ 1000 := by omega
      exact Nat.le_trans (Nat.mul_le_mul h2 this) (by decide)
    exact .inr ⟨a, j, ws, rfl, ry.raw_eq, ha, by omega, by omega, hz, fun p hp => k _ _ _ _ _ (hk p (f.mm.free hp).2) (f.step (f.mm.allocO hp (r1.rep _)).1 (f.mm.allocO hp (r1.rep _)).2) (.raw _)⟩
  · exact h.elim
theorem so_addO : SO c (rAddU c.K) oAddO := by
  intro F0 O0 H0 G O S F σ H Q K x y d e f rx ry k h
  obtain ⟨as, bs, e1, e2, hl, hk⟩ := h
  obtain ⟨a, ws, rfl, h1, r1⟩ := f.lstOf rx e1
  obtain ⟨b, us, rfl, h2, r2⟩ := f.lstOf ry e2
  exact .inr (.inr (.inl ⟨a, b, ws, us, rfl, rfl, h1, h2, by rw [r1.length, r2.length]; exact Nat.le_trans hl (by decide), fun p hp => k _ _ _ _ _ (hk p (f.mm.free hp).2) (f.step (f.mm.allocO hp (r1.append r2)).1 (f.mm.allocO hp (r1.append r2)).2) (.raw _)⟩))
end
end DN

set_option maxHeartbeats 4000000
/-! DNy: repr of a tuple that holds own objects; an own __repr__ under another's. -/
namespace DL
open PySem PySem.Spec PyProof.Rows L2
section
variable {prog : Program} {w : World} {A : Around} {E : Value → Shared → Prop} {s : Shared} {K : PySem.W.Frag}
/-- repr of an own object within another repr -/
theorem under_own {x C f : Addr} {ox : Obj} {od : Option Obj} {b : Nat} {Q : Str → Shared → Prop} (hu : A.units < cLine) (X : K.In s.heap) (I : PySem.W.InstAt s.heap x ox C od) (hs : PySem.W.findIn K (.ref C) "__repr__" = some (some (.ref f))) (hf : PySem.W.isFn K (.ref f) = true) (hb : b ≤ sizeLine)
    (h : wpAny (model prog w) A (call (.ref f) [.ref x]) (fun v s' => ∃ z u, v = .str z u ∧ Q z s') E s) : wpAny (model prog w) A (pyReprUnder b (.ref x)) Q E s := by
  refine wpAny_pyReprUnder_ref hb ?_
  unfold pyReprObjUnder pyReprObjBy
  refine wpAny_bind (wpAny_cRoomFor hu ?_)
  refine wpAny_bind (wpAny_bind (I.type.here ((PySem.W.looks_findIn X hs).here ?_)))
  show wpAny _ _ (if (some (Value.ref f)).isNone = true then _ else _) _ _ _
  rw [if_neg (by simp)]
  refine wpAny_bind ?_
  simp only [callSpecialIfBoundBy?, bindSpecialIfBound?]
  refine wpAny_holding (wpAny_bind (wpAny_bind (wpAny_bind (I.type.here ((PySem.W.looks_findIn X hs).here ?_)))))
  refine wpAny_bind (wpAny_askSetting (wpAny_ite ?_))
  have fin : ∀ {R : Option Value → Shared → Prop}, (∀ z u s', Q z s' → R (some (.str z u)) s') → wpAny (model prog w) A (call (.ref f) ([.ref x] ++ []) >>= fun v => pure (some v)) R E s := fun hR =>
    wpAny_bind (wpAny_mono h (fun v s' ⟨z, u, e, q⟩ => wpAny_pure (by subst e; exact hR z u s' q)) fun _ _ h' => h')
  have last : ∀ z u s', Q z s' → (fun (r : Option Value) s' => wpAny (model prog w) A (match r with
      | some r => (do if ← isInstance r (.type "str") then pure r else raiseError "TypeError" s!"__repr__ returned non-string (type {← typeNameOf r})")
      | none => unsupported "repr:special-get-raises") (fun v s' => ∃ x u, v = Value.str x u ∧ Q x s') E s') (some (.str z u)) s' := fun z u s' q => by
    exact wpAny_bind (wpAny_isInstance (T := "str") (b := true) rfl isSubtype_str_str (wpAny_pure ⟨z, u, rfl, q⟩))
  split
  · exact wpAny_bind ((PySem.W.bind_fn X _ (beq_iff_eq.mp hf)).here (wpAny_pure (by exact fin last)))
  · exact wpAny_tryCatch (wpAny_bind ((PySem.W.bind_fn X _ (beq_iff_eq.mp hf)).here (wpAny_pure (by exact fin last))))
abbrev tupC (a : Addr) : Code := .builtin "tuple.__repr__" ⟨[.ref a], []⟩
theorem own_tuple {a : Addr} {o : Obj} {items : Array Value} {n : Nat} {R : Result → Shared → Prop} (ha : s.heap.get? a = some o) (hd : o.data = .seq items n) (hg : A.guards = some [])
    (hfold : wpAny (model prog w) (A.under (tupC a)) (forIn items.toList (⟨#[], 0⟩ : (Array Str × Nat)) tupBody) (fun r s' => ∃ ts : List Str, r.1 = ts.toArray ∧ ts.length = items.size ∧ (tupleText ts).length ≤ sizeLine ∧ ∀ u tk, R (.ok (.ret (.str (tupleText ts) u))) { s' with toks := tk }) (fun e s' => R (.error e) s') s) :
    wpOwn (model prog w) A (tupC a) (Builtin.tupleReprAt 0 ⟨[.ref a], []⟩) (fun fin s' => match fin with | .done f => R (.ok f) s' | .again c' => c'.quiet = true ∧ codeAny (model prog w) A c' R s') (fun e s' => R (.error e) s') s := by
  rw [tuple_repr_tree, tupleReprUnderWay_eq]
  refine wpOwn_bind (wpOwn_stackTailAny hg (tupGuardF_off _) (tupGuardF_pos _) ?_)
  show wpOwn _ _ _ (if false = true then _ else _) _ _ _
  rw [if_neg Bool.false_ne_true]
  refine wpOwn_of_wpAny ?_
  show wpAny _ _ (tupleReprRest 0 (.ref a)) _ _ s
  unfold tupleReprRest Builtin.Tuple.tupleItemsOf
  refine wpAny_bind (wpAny_bind (wpAny_seqItems ha hd (wpAny_pure ?_)))
  rw [← Array.forIn_toList]
  refine wpAny_bind (wpAny_mono hfold (fun r s' ⟨ts, e1, e2, hsz, hR⟩ => ?_) fun _ _ x => x)
  refine wpAny_bind (wpAny_mkStr (wpAny_pure ?_) (by rw [e1]; simpa [tupleText, e2] using hsz))
  have h1 := hR s'.toks (s'.toks + 1)
  rw [e1]
  simpa [tupleText, e2] using h1
theorem robj_tuple {a : Addr} {o : Obj} {items : Array Value} {n : Nat} {Q : Value → Shared → Prop} (ha : s.heap.get? a = some o) (hc : o.cls = .type "tuple") (hd : o.data = .seq items n) (hg : A.guards = some []) (hu : A.units < cLine)
    (hfold : wpAny (model prog w) (A.under (tupC a)) (forIn items.toList (⟨#[], 0⟩ : (Array Str × Nat)) tupBody) (fun r s' => ∃ ts : List Str, r.1 = ts.toArray ∧ ts.length = items.size ∧ (tupleText ts).length ≤ sizeLine ∧ ∀ u tk, Q (.str (tupleText ts) u) { s' with toks := tk }) E s) :
    wpAny (model prog w) A (pyReprObj (.ref a)) Q E s := by
  have hTy : s.TypeIs (.ref a) "tuple" := ⟨o, ha, hc⟩
  unfold pyReprObj
  refine wpAny_bind (wpAny_cRoomFor hu ?_)
  refine wpAny_bind (wpAny_specialOf (name := Str.ofString "__repr__") hTy F.slot_tuple_repr.lookup ?_)
  refine wpAny_bind (m := callSpecialIfBound? (.ref a) (Str.ofString "__repr__")) (wpAny_callSpecialIfBound?_slotG (name := Str.ofString "__repr__") hTy F.slot_tuple_repr
    (wpAny_call (codeAny_call_builtin_own (Code.quiet_builtin _ (by decide +kernel)) F.entry_tuple_repr (F.slot_tuple_repr.check _ _ _ _ _ _ _ _ hTy (F.args_tuple_repr_1 _)
      (own_tuple (R := callEnd _ E) ha hd hg (wpAny_mono hfold (fun r s' ⟨ts, e1, e2, hsz, hQ⟩ => ⟨ts, e1, e2, hsz, fun u tk => ?_⟩) fun _ _ x => x))))))
  exact wpAny_bind (wpAny_isInstance (T := "str") (b := true) rfl isSubtype_str_str (wpAny_pure (hQ u tk)))
end
/-! ### flat values -/
def flS : V → Option Str
  | .non => some "None"
  | .int i => if i.natAbs.log2 < 1920 then some (toString i) else none
  | _ => none
theorem flS_is {prog : Program} {w : World} {v : V} {u : Value} {t : Str} (r : RelV v u) (h : flS v = some t) : ReprIs prog w u t := by
  cases v with
  | non => cases r; cases h; exact ReprIs.none
  | int i =>
    obtain ⟨k, rfl⟩ := (show ∃ t, u = Value.int i t from r)
    replace h : (if i.natAbs.log2 < 1920 then some (Str.ofString (toString i)) else none) = some t := h
    by_cases z : i.natAbs.log2 < 1920
    · rw [if_pos z] at h; cases h; exact ReprIs.int k z
    · rw [if_neg z] at h; cases h
  | _ => cases h
inductive FlL : List V → List Str → Prop
  | nil : FlL [] []
  | cons {v : V} {t : Str} {vs : List V} {ts : List Str} : flS v = some t → FlL vs ts → FlL (v :: vs) (t :: ts)
theorem FlL.all {prog : Program} {w : World} {as : List Addr} {h₀ : Heap} {d : Nat} : ∀ {vs : List V} {ts : List Str} {us : List Value}, FlL vs ts → Vals vs us → ReprAllK prog w as h₀ d us ts
  | _, _, _, .nil, .nil => .nil
  | _, _, _, .cons h r, .cons a b => .cons (.of_is (flS_is a h) _ _ _) (FlL.all r b)
/-- {x!r} under guards g: a flat value, or a tuple of such -/
def tFmtG (K : PySem.W.Frag) (g : List Code) (te : TE) : TE := fun σ H Q => te σ H fun x H1 => (∃ t : Str, flS x = some t ∧ t.length ≤ 1000 ∧ Q (.str t) H1) ∨ ∃ b ws ts, x = .ref b ∧ SqT K H1 b ws ∧ FlL ws ts ∧ Clear g b ∧ (tupleText ts).length ≤ 100000 ∧ Q (.str (tupleText ts)) H1
section
variable {X : Cx} {pins : List (Addr × Obj)} {σ : L2.St} {H : Hp} {s : Shared} {k : Nat} {C : Addr} {sp : Sp}
theorem p_fmtG {g : List Code} {e : Expr} {te : TE} {pos : Pos} (hr : Room k X.A) (hg : X.A.guards = some g) (he : PE X e te) : PE X (.FormattedValue e 114 none pos) (tFmtG X.K g te) := by
  refine ⟨fun pins s σ H Q I h => ?_⟩
  refine wpAny_FormattedValue_repr (thn (he.run pins s σ H _ I h) fun v s1 hv => ?_)
  obtain ⟨x, H1, I1, r1, hx⟩ := hv
  have hu := hr.units
  rcases hx with ⟨t, ht, hl, q⟩ | ⟨b, ws, ts, rfl, hT, hf, hc, hl, q⟩
  · have hl' : t.length ≤ sizeLine := Nat.le_trans hl (by decide)
    cases x with
    | non =>
      cases r1; cases ht
      exact pyReprObj_none (wpAny_formatField_str ⟨.str _, H1, I1.tok _, ⟨_, rfl⟩, q⟩ ⟨.str _, H1, I1.tok _, ⟨_, rfl⟩, q⟩ hl')
    | int i =>
      obtain ⟨k, rfl⟩ := (show ∃ t, v = Value.int i t from r1)
      replace ht : (if i.natAbs.log2 < 1920 then some (Str.ofString (toString i)) else none) = some t := ht
      by_cases z : i.natAbs.log2 < 1920
      · rw [if_pos z] at ht; cases ht
        exact pyReprObj_int z (wpAny_formatField_str ⟨.str _, H1, I1.tok _, ⟨_, rfl⟩, q⟩ ⟨.str _, H1, I1.tok _, ⟨_, rfl⟩, q⟩ hl')
      · rw [if_neg z] at ht; cases ht
    | _ => cases ht
  · obtain rfl : v = Value.ref b := r1
    have hl' : (tupleText ts).length ≤ sizeLine := Nat.le_trans hl (by decide)
    obtain ⟨its, rv, ⟨o, ho, hcl, n, hd⟩, _⟩ := I1.tuple hT
    refine wpAny_pyReprObj_tupleK (as := []) (d := 0) (h₀ := s1.heap) ho hcl hd (fun z => nomatch z) (by simpa using hf.all rv) hg (fun b' hb' => by rw [List.mem_singleton] at hb'; rw [hb']; exact hc) (by omega) (fun _ _ e => e) (fun h' u tk hk => ?_) hl'
    exact wpAny_formatField_str ⟨.str _, H1, I1.kept (t' := tk) hk, ⟨_, rfl⟩, q⟩ ⟨.str _, H1, (I1.kept (t' := tk) hk).tok _, ⟨_, rfl⟩, q⟩ hl'
/-! ### a def that is wanted under any guards -/
def FnG (P : Program) (w : World) (K : PySem.W.Frag) (mg : Str → Option Value) (base : Heap) (k : Nat) (f : Addr) (sp : List Code → Sp) : Prop :=
  ∀ (A : Around) (outer : List Env) (s : Shared) (H : Hp) (us : List Value) (vs : List V) (Q : VK) (Ex : XK) (g : List Code), Room k A → A.guards = some g → Env0 P w K mg base A outer s H → Vals vs us → sp g vs H Q Ex →
    codeAny (model P w) A (.call (.ref f) ⟨us, []⟩) (CR CX0 outer P w H s Q Ex) s
def Gr (P : Program) (w : World) (K : PySem.W.Frag) (mg : Str → Option Value) (base : Heap) (k : Nat) (C : Addr) (sp : List Code → Sp) : Prop := ∃ f, Meth K C "__repr__" f ∧ FnG P w K mg base k f sp
theorem run_callG {A : Around} {Q : VK} {us : List Value} {vs : List V} {f : Addr} {g : List Code} {sp : List Code → Sp} (F : FnG X.prog X.w X.K X.mg X.base k f sp) (hr : Room k A) (hA : A.frames = X.A.frames) (hg : A.guards = some g) (I : Inv X pins σ H s) (r : Vals vs us) (h : sp g vs H Q E0) :
    wpAny (model X.prog X.w) A (call (.ref f) us) (EP X pins σ Q) X.xe s := by
  refine wpAny_call ?_
  have e := I.env0
  have e0 : Env0 X.prog X.w X.K X.mg X.base A X.stack s H := ⟨by rw [hA]; exact e.frames, e.mod, e.bs, e.bsz, e.funs, e.frf, e.hok, e.bare⟩
  refine codeAny_mono (F A X.stack s H us vs Q E0 g hr hg e0 r h) fun r s' hq => ?_
  cases r with
  | error z => exact False.elim (pass0 (X := X) pins σ H s z s' I hq |> fun _ => hq)
  | ok fl =>
    cases fl with
    | ret u => exact I.after hq
    | next => exact False.elim hq
    | brk => exact False.elim hq
    | cont => exact False.elim hq
theorem ok_bodyG {P : Program} {w : World} {K : PySem.W.Frag} {mg : Str → Option Value} {base : Heap} {x qual : Str} {st : Stmt} {f : Addr} {fd : FuncData} {N ps : List Str} {k : Nat} {sp : List Code → Sp} (F : L2.Fun K x qual st f fd) (S : FnScope N ps (defScope st)) (hb : Binds K fd ps []) (len : ∀ g vs H Q E, sp g vs H Q E → vs.length = ps.length)
    (hbody : ∀ (cdv : Value) (A : Around) (outer : List Env) (s : Shared) (H : Hp) (vs : List V) (Q : VK) (Ex : XK) (g : List Code), Room k (A.deeper (envOfC qual (defScope st) s.heap.objs.size f cdv)) → (A.deeper (envOfC qual (defScope st) s.heap.objs.size f cdv)).guards = some g → sp g vs H Q Ex →
      ∃ t, PSs (cxOf CX0 P w K mg base N qual (defScope st) f cdv A outer s H Ex).nox (defBody st) t ∧ t { nx := fun _ H' => Q .non H', rt := Q } (L2.start N vs) H) : FnG P w K mg base (k + 1) f sp := by
  obtain ⟨oc, od, kV, doc, pm, an, cdv, ct, osl, rfl, lk, hcd⟩ := F.ex
  intro A outer s H us vs Q Ex g hr hg e0 r hsp
  have hl := len _ _ _ _ _ hsp
  have KX : K.In s.heap := e0.mod.kin.keeps fun b o e => (e0.bs b o e).1
  have lim : s.heap.NoLimit := e0.mod.nolimit.keeps fun b o e => (e0.bs b o e).1
  have bnd := hb s us KX (by rw [List.append_nil, ← r.length]; exact hl)
  rw [List.append_nil] at bnd
  refine codeAny_call_function hr.depth (KX _ _ lk) rfl S.co S.gen rfl (PySem.W.codeRec_of KX hcd) (bnd _ _ _ _ ?_)
  refine wpAny_newFunctionEnv_cells S.kind (fun ⟨n, v⟩ hy => (S.par n (List.of_mem_zip hy).1).imp id fun q => ⟨q, PySem.W.cellsFrom_some _ _ _ (.inl q)⟩) fun env he s1 y => ?_
  subst he
  refine ⟨lim.keeps y.toInCall.keep, codeAny_func ?_⟩
  obtain ⟨t, ht, hq⟩ := hbody cdv A outer s H vs Q Ex g (hr.deeper _) hg hsp
  have I : Inv (cxOf CX0 P w K mg base N qual (defScope st) f cdv A outer s H Ex) [] (L2.start N vs) H s1 := inv_start S hr.hd e0 hl r y
  refine wpAny_mono (ht.nox.run [] s1 (L2.start N vs) H _ I hq) (fun fl s' hs => ?_) fun e s' hs => hs
  cases fl with
  | ret u =>
    obtain ⟨v, σ', H', J, rv, q⟩ := hs
    exact ⟨v, H', J.os, J.bare, J.base, J.hok, rv, q⟩
  | next =>
    obtain ⟨σ', H', J, q⟩ := hs
    exact ⟨V.non, H', J.os, J.bare, J.base, J.hok, rfl, q⟩
  | brk =>
    obtain ⟨_, _, _, q⟩ := hs
    exact False.elim q
  | cont =>
    obtain ⟨_, _, _, q⟩ := hs
    exact False.elim q
/-! ### rows -/
def rowT (tl tt : Str) : Str := ((((Str.empty ++ ("LifeRow(" : Str)) ++ tl) ++ (", " : Str)) ++ tt) ++ (")" : Str)
/-- what the own __repr__ promises -/
def spRwr (K : PySem.W.Frag) (C : Addr) (g : List Code) : Sp := fun vs H Q _ => ∃ o dx kt b l ws tl ts, vs = [.ref o] ∧ H o = some (.ins C dx [("key", .ref kt)]) ∧ SqT K H kt [l, .ref b] ∧ SqT K H b ws ∧ flS l = some tl ∧ tl.length ≤ 1000 ∧ FlL ws ts ∧ Clear g b ∧ (tupleText ts).length ≤ 100000 ∧ Q (.str (rowT tl (tupleText ts))) H
inductive RowV (K : PySem.W.Frag) (C a : Addr) (H : Hp) : V → Str → Prop
  | non : RowV K C a H .non "None"
  | row {o dx kt b : Addr} {l : V} {ws : List V} {tl : Str} {ts : List Str} : H o = some (.ins C dx [("key", .ref kt)]) → SqT K H kt [l, .ref b] → SqT K H b ws → flS l = some tl → tl.length ≤ 1000 → FlL ws ts → a ≠ b → (tupleText ts).length ≤ 100000 → RowV K C a H (.ref o) (rowT tl (tupleText ts))
inductive RowVs (K : PySem.W.Frag) (C a : Addr) (H : Hp) : List V → List Str → Prop
  | nil : RowVs K C a H [] []
  | cons {y : V} {t : Str} {ys : List V} {ts : List Str} : RowV K C a H y t → RowVs K C a H ys ts → RowVs K C a H (y :: ys) (t :: ts)
theorem RowVs.len {K : PySem.W.Frag} {C a : Addr} {H : Hp} : ∀ {ys : List V} {ts : List Str}, RowVs K C a H ys ts → ts.length = ys.length
  | _, _, .nil => rfl
  | _, _, .cons _ r => congrArg Nat.succ r.len
theorem fold_rows {A : Around} {f a : Addr} (F : FnG X.prog X.w X.K X.mg X.base k f (spRwr X.K C)) (M : Meth X.K C "__repr__" f) (hr : Room k A) (hA : A.frames = X.A.frames) (hg : A.guards = some [tupC a]) :
    ∀ (ys : List V) (ts : List Str) (us : List Value) (acc : Array Str) (n : Nat) (s : Shared) (Q : (Array Str × Nat) → Shared → Prop), Inv X pins σ H s → Vals ys us → RowVs X.K C a H ys ts → n + piled ts ≤ sizeLine →
      (∀ s', Inv X pins σ H s' → Q ⟨acc ++ ts.toArray, n + piled ts⟩ s') → wpAny (model X.prog X.w) A (forIn us (⟨acc, n⟩ : (Array Str × Nat)) tupBody) Q X.xe s
  | [], _, _, acc, n, s, Q, I, .nil, .nil, hn, h => by
    simp only [List.forIn_nil]
    have h0 := h s I
    exact wpAny_pure (by simpa [piled] using h0)
  | y :: ys, _, _, acc, n, s, Q, I, .cons ru rs, .cons (t := t) (ts := ts) hy hys, hn, h => by
    rw [piled_cons] at hn
    rw [List.forIn_cons]
    have go : ∀ s', Inv X pins σ H s' → wpAny (model X.prog X.w) A (forIn _ (⟨acc.push t, n + (t.length + 2)⟩ : (Array Str × Nat)) tupBody) Q X.xe s' := fun s' I' => by
      refine fold_rows F M hr hA hg ys ts _ (acc.push t) (n + (t.length + 2)) s' Q I' rs hys (by omega) fun s2 I2 => ?_
      have h1 := h s2 I2
      have e : n + piled (t :: ts) = n + (t.length + 2) + piled ts := by rw [piled_cons]; omega
      rw [e] at h1
      simpa using h1
    refine wpAny_bind (wpAny_bind ?_)
    show wpAny _ _ (pyReprUnder (n + 1) _) _ _ s
    cases hy with
    | non =>
      cases ru
      exact ReprIs.none (n + 1) (by omega) A X.xe s _ fun tk => wpAny_pure (go _ (I.tok tk))
    | row ho hk hb hl ll hw ne hs =>
      rename_i o dx kt b l ws tl tws
      obtain rfl : _ = Value.ref o := ru
      obtain ⟨a', ox, od, e, J⟩ := inC_at (C := C) I ⟨o, dx, _, rfl, ho⟩ (show RelV (.ref o) (Value.ref o) from rfl)
      cases e
      refine under_own (by have := hr.un; omega) I.kIn J M.at_ M.fn (by omega) (wpAny_mono (run_callG (A := A) (vs := [.ref o]) F hr hA hg I (.cons rfl .nil) (Q := fun v H' => v = .str (rowT tl (tupleText tws)) ∧ H' = H) ⟨o, dx, kt, b, l, ws, tl, tws, rfl, ho, hk, hb, hl, ll, hw, (Clear.nil b).cons ne, hs, rfl, rfl⟩) (fun v s' hv => ?_) fun _ _ e => e)
      obtain ⟨yv, H', I', ry, rfl, rfl⟩ := hv
      obtain ⟨tk, rfl⟩ := (show ∃ t, v = Value.str _ t from ry)
      exact ⟨_, tk, rfl, wpAny_pure (go _ I')⟩
/-- {x!r}, x a tuple of rows -/
def tFmtR (K : PySem.W.Frag) (C : Addr) (te : TE) : TE := fun σ H Q => te σ H fun x H1 => ∃ a ys ts, x = .ref a ∧ SqT K H1 a ys ∧ RowVs K C a H1 ys ts ∧ (tupleText ts).length ≤ 1000000 ∧ Q (.str (tupleText ts)) H1
theorem p_fmtR {e : Expr} {te : TE} {pos : Pos} (h : Gr X.prog X.w X.K X.mg X.base k C (spRwr X.K C)) (hr : Room (k + 1) X.A) (hg : X.A.guards = some []) (he : PE X e te) : PE X (.FormattedValue e 114 none pos) (tFmtR X.K C te) := by
  obtain ⟨f, M, F⟩ := h
  refine ⟨fun pins s σ H Q I h => ?_⟩
  refine wpAny_FormattedValue_repr (thn (he.run pins s σ H _ I h) fun v s1 hv => ?_)
  obtain ⟨x, H1, I1, r1, a, ys, ts, rfl, hT, hrs, hsz, q⟩ := hv
  obtain rfl : v = Value.ref a := r1
  have hz : (tupleText ts).length ≤ sizeLine := Nat.le_trans hsz (by decide)
  obtain ⟨its, rv, ⟨o, ho, hcl, n, hd⟩, _⟩ := I1.tuple hT
  have hu := hr.un
  have hr' : Room k (X.A.under (tupC a)) := by
    refine ⟨hr.hd, ?_, ?_⟩
    · have := hr.dp
      have e : (X.A.under (tupC a)).depth = X.A.depth + (tupC a).weight := rfl
      have w1 : (tupC a).weight ≤ 1 := by first | exact Nat.le_of_ble_eq_true rfl | decide +kernel | simp [Code.weight]
      rw [e]; omega
    · rw [units_under_tuple_repr]; omega
  have hp := piled_le_tupleText ts
  refine robj_tuple ho hcl hd hg (by omega) (fold_rows F M hr' rfl (guards_under_guard (isGuard_tuple_repr _) hg) ys ts _ #[] 0 s1 _ I1 (by simpa using rv) hrs (by omega) fun s' I' => ⟨ts, by simp, ?_, hz, fun u tk => ?_⟩)
  · rw [hrs.len, rv.length]; simp
  · exact wpAny_formatField_str ⟨.str _, H1, I'.tok tk, ⟨_, rfl⟩, q⟩ ⟨.str _, H1, (I'.tok tk).tok _, ⟨_, rfl⟩, q⟩ hz
/-- {x!r}, x a bool -/
def blT (b : Bool) : Str := if b then "True" else "False"
def tFmtB (te : TE) : TE := fun σ H Q => te σ H fun x H1 => ∃ b, x = .bl b ∧ Q (.str (blT b)) H1
theorem p_fmtB {e : Expr} {te : TE} {pos : Pos} (he : PE X e te) : PE X (.FormattedValue e 114 none pos) (tFmtB te) := by
  refine ⟨fun pins s σ H Q I h => ?_⟩
  refine wpAny_FormattedValue_repr (thn (he.run pins s σ H _ I h) fun v s1 hv => ?_)
  obtain ⟨x, H1, I1, r1, b, rfl, q⟩ := hv
  cases r1
  have hl : (blT b).length ≤ sizeLine := by cases b <;> exact Nat.le_trans (show _ ≤ 10 by decide) (by decide)
  exact pyReprObj_bool (wpAny_formatField_str ⟨.str (blT b), H1, I1.tok _, ⟨_, rfl⟩, q⟩ ⟨.str (blT b), H1, I1.tok _, ⟨_, rfl⟩, q⟩ hl)
def cReprB (K : PySem.W.Frag) (C : Addr) (sp : Sp) : List V → Hp → VK → Prop := fun xs H Q => cRepr K C sp xs H Q ∨ ∃ b, xs = [.bl b] ∧ Q (.str (blT b)) H
theorem p_reprB (h : Mf true X.prog X.w X.K X.mg X.base k C "__repr__" sp) (hr : Room (k + 1) X.A) (hg : X.A.guards = some []) : CallR X (.builtin "repr") (cReprB X.K C sp) := by
  intro pins s σ H xs us Q I rs q
  rcases q with q | ⟨b, rfl, q⟩
  · exact p_repr h hr hg pins s σ H xs us Q I rs q
  · obtain ⟨u, rfl, r⟩ := vals1 rs
    cases r
    exact PySem.P.repr_of_bool ⟨.str (blT b), H, I.tok _, ⟨_, rfl⟩, q⟩
/-- a text, no or one times -/
def rMulS : R2 := fun x y H Q => ∃ z : Str, x = .str z ∧ ((y = .int 0 ∧ Q (.str Str.empty) H) ∨ (y = .int 1 ∧ Q (.str z) H))
theorem p_mulS : OpR X (binaryOp .Mult) rMulS := by
  intro pins s σ H x y v u Q I rx ry h
  obtain ⟨z, rfl, h⟩ := h
  obtain ⟨t, rfl⟩ := rx
  rcases h with ⟨rfl, q⟩ | ⟨rfl, q⟩
  · obtain ⟨t2, rfl⟩ := ry
    exact PySem.P.mul_str_none (by decide) (by decide) ⟨.str Str.empty, H, I.tok _, ⟨_, rfl⟩, q⟩
  · obtain ⟨t2, rfl⟩ := ry
    refine PySem.P.mul_str (by decide) (fun _ z => nomatch z) (fun _ z => nomatch z) ?_
    exact ⟨.str z, H, I, ⟨_, rfl⟩, q⟩
/-- x is not False -/
def rIsNotB : R2 := fun x y H Q => ∃ a b, x = .bl a ∧ y = .bl b ∧ Q (.bl (!(a == b))) H
theorem p_isNotB : OpR X (compareOp .IsNot) rIsNotB := by
  intro pins s σ H x y v u Q I rx ry h
  obtain ⟨a, b, rfl, rfl, q⟩ := h
  cases rx
  cases ry
  have fin : EP X pins σ Q (.bool (!(a == b))) s := ⟨.bl (!(a == b)), H, I, rfl, q⟩
  cases a <;> cases b <;> exact wpAny_pure fin
end
end DL

set_option maxHeartbeats 4000000
/-! DNya: .. over data. -/
namespace DN
open PySem PySem.Spec PyProof.Rows L2
open DL (Sub flS FlL RowV RowVs rowT tFmtR tFmtB blT cReprB cRepr rMulS rIsNotB kStr)
inductive FlD : List D → List Str → Prop
  | nil : FlD [] []
  | cons {v : V} {t : Str} {ds : List D} {ts : List Str} : flS v = some t → FlD ds ts → FlD (.raw v :: ds) (t :: ts)
/-- a row (of the class t0), shown -/
inductive RowD (t0 : Nat) : D → Str → Prop
  | non : RowD t0 .non "None"
  | row {l : V} {ws : List D} {tl : Str} {ts : List Str} : flS l = some tl → tl.length ≤ 1000 → FlD ws ts → (tupleText ts).length ≤ 100000 → RowD t0 (.obj t0 [.tup [.raw l, .tup ws]]) (rowT tl (tupleText ts))
inductive RowDs (t0 : Nat) : List D → List Str → Prop
  | nil : RowDs t0 [] []
  | cons {d : D} {t : Str} {ds : List D} {ts : List Str} : RowD t0 d t → RowDs t0 ds ts → RowDs t0 (d :: ds) (t :: ts)
def mFmtR (t0 : Nat) (e : ME) : ME := fun G O K => e G O fun d O1 => match d with
  | .tup ds => ∃ ts, RowDs t0 ds ts ∧ (tupleText ts).length ≤ 1000000 ∧ K (.str (tupleText ts)) O1
  | _ => False
def mFmtB (e : ME) : ME := fun G O K => e G O fun d O1 => asB d fun b => K (.str (blT b)) O1
def bReprB : List D → Ob → KE → Prop := fun ds O K => match ds with
  | [.raw (.bl b)] => K (.str (blT b)) O
  | _ => bRepr ds O K
def oMulS : MO := fun a b O K => match a, b with
  | .raw (.str z), .raw (.int k) => (k = 0 ∧ K (.str Str.empty) O) ∨ (k = 1 ∧ K (.str z) O)
  | _, _ => False
def oIsNotB : MO := fun a b O K => match a, b with
  | .raw (.bl i), .raw (.bl j) => K (.bl (!(i == j))) O
  | _, _ => False
def mJoinS (o e : ME) : ME := fun G O K => o G O fun x O1 => match x with
  | .raw (.str a) => e G O1 fun d O2 => ∃ ys : List Str, sqD O2 d = some (ys.map .str) ∧ (ys.map (·.length)).sum + ys.length * a.length ≤ 1000000 ∧ K (.str (Txt.join a ys)) O2
  | _ => False
section
variable {c : Cl} {te ta : TE} {me ma : ME}
theorem FlD.of {F : Hp} : ∀ {ds : List D} {ts : List Str} {vs : List V}, FlD ds ts → RpL c F vs ds → FlL vs ts
  | _, _, _, .nil, r => by rw [r.nil_eq]; exact .nil
  | _, _, _, .cons h hs, r => by
    obtain ⟨v, ws, rfl, a, b⟩ := r.cons_of
    rw [a.raw_eq]
    exact .cons h (hs.of b)
theorem FlL.noref {vs : List V} {ts : List Str} (h : FlL vs ts) {o : Addr} (m : V.ref o ∈ vs) : False := by
  induction h with
  | nil => cases m
  | cons e _ ih =>
    rcases List.mem_cons.mp m with z | z
    · rw [← z] at e; cases e
    · exact ih z
theorem RowDs.of {F H : Hp} {t0 : Nat} {a : Addr} {ys : List V} (hf : c.fl t0 = [("key" : Str)]) (s : Sub F H) (ha : F a = some (.tup ys)) : ∀ {ds : List D} {ts : List Str} {vs : List V}, RowDs t0 ds ts → RpL c F vs ds → (∀ v ∈ vs, v ∈ ys) → RowVs c.K (c.ca t0) a H vs ts
  | _, _, _, .nil, r, _ => by rw [r.nil_eq]; exact .nil
  | _, _, _, .cons h hs, r, m => by
    obtain ⟨v, ws, rfl, q, b⟩ := r.cons_of
    refine .cons ?_ (hs.of hf s ha b fun x hx => m x (List.mem_cons_of_mem _ hx))
    cases h with
    | non => rw [q.raw_eq]; exact .non
    | row hl ll hw hsz =>
      obtain ⟨o, dx, xs, rfl, ho, hn, rk⟩ := q.obj_at
      rw [hf] at ho
      obtain ⟨k, rest, rfl, rk1, rk2⟩ := rk.cons_of
      rw [rk2.nil_eq] at ho
      obtain ⟨kt, kv, rfl, hk, rkv⟩ := rk1.tup_at
      obtain ⟨l, r2, rfl, rl, r3⟩ := rkv.cons_of
      obtain ⟨bv, r4, rfl, rb, r5⟩ := r3.cons_of
      rw [r5.nil_eq] at hk
      obtain ⟨bb, wv, rfl, hb, rw_⟩ := rb.tup_at
      rw [rl.raw_eq] at hk
      have fl := hw.of rw_
      refine .row (s _ _ ho) (.inl (.inl (s _ _ hk))) (.inl (.inl (s _ _ hb))) hl ll fl (fun z => ?_) hsz
      rw [z, hb] at ha
      cases ha
      exact FlL.noref fl (m _ List.mem_cons_self)
theorem se_fmtR {t0 : Nat} (hf : c.fl t0 = [("key" : Str)]) (he : SE c te me) : SE c (tFmtR c.K (c.ca t0) te) (mFmtR t0 me) := by
  intro F0 O0 H0 G O S F σ H Q K f k h
  refine he F0 O0 H0 G O S F σ H _ _ f (fun x dx O1 F1 H1 h1 f1 r1 => ?_) h
  split at h1
  · obtain ⟨ts, hr, hsz, hk⟩ := h1
    obtain ⟨a, ys, rfl, ha, rl⟩ := r1.tup_at
    exact ⟨a, ys, ts, rfl, .inl (.inl (f1.sub _ _ ha)), hr.of hf f1.sub ha rl (fun _ h => h), hsz, k _ _ _ _ _ hk f1 (.raw _)⟩
  · exact h1.elim
theorem se_fmtB (he : SE c te me) : SE c (tFmtB te) (mFmtB me) := by
  intro F0 O0 H0 G O S F σ H Q K f k h
  refine he F0 O0 H0 G O S F σ H _ _ f (fun x dx O1 F1 H1 h1 f1 r1 => ?_) h
  obtain ⟨b, rfl, q⟩ := asB_of h1
  exact ⟨b, r1.raw_eq, k _ _ _ _ _ q f1 (.raw _)⟩
theorem sb_reprB {C : Addr} {sp : Sp} : SB c (cReprB c.K C sp) bReprB := by
  intro F0 O0 H0 G O S F σ H Q K vs ds f r k h
  unfold bReprB at h
  split at h
  · obtain ⟨v, rfl, a⟩ := r.one_at
    exact .inr ⟨_, by rw [a.raw_eq], k _ _ _ _ _ h f (.raw _)⟩
  · exact .inl (sb_repr F0 O0 H0 G O S F σ H Q K vs ds f r k h)
theorem sb_reprOB {t : Nat} {w : W} : SB c (cReprB c.K (c.ca t) (spM c w)) (bReprO t w) := fun F0 O0 H0 G O S F σ H Q K vs ds f r k h => .inl (sb_reprO F0 O0 H0 G O S F σ H Q K vs ds f r k h)
theorem so_mulS : SO c rMulS oMulS := by
  intro F0 O0 H0 G O S F σ H Q K x y d e f rx ry k h
  unfold oMulS at h
  split at h
  · refine ⟨_, rx.raw_eq, ?_⟩
    rcases h with ⟨rfl, h⟩ | ⟨rfl, h⟩
    · exact .inl ⟨ry.raw_eq, k _ _ _ _ _ h f (.raw _)⟩
    · exact .inr ⟨ry.raw_eq, k _ _ _ _ _ h f (.raw _)⟩
  · exact h.elim
theorem so_isNotB : SO c rIsNotB oIsNotB := by
  intro F0 O0 H0 G O S F σ H Q K x y d e f rx ry k h
  unfold oIsNotB at h
  split at h
  · exact ⟨_, _, rx.raw_eq, ry.raw_eq, k _ _ _ _ _ h f (.raw _)⟩
  · exact h.elim
theorem RpL.strs {F : Hp} : ∀ {ys : List Str} {vs : List V}, RpL c F vs (ys.map D.str) → vs = ys.map V.str
  | [], _, h => h.nil_eq
  | n :: ns, _, h => by
    obtain ⟨v, ws, rfl, a, b⟩ := h.cons_of
    rw [Rp.raw_eq a, RpL.strs b]; rfl
def tJoinS (K : PySem.W.Frag) (to te : TE) : TE := tM1 (fun x xs H Q => ∃ a p, ∃ ys : List Str, x = .str a ∧ xs = [.ref p] ∧ (SqL K H p (ys.map V.str) ∨ SqT K H p (ys.map V.str)) ∧ (ys.map (·.length)).sum + ys.length * a.length ≤ 16777216 ∧ Q (.str (Txt.join a ys)) H) to te
theorem se_joinS (ho : SE c ta ma) (he : SE c te me) : SE c (tJoinS c.K ta te) (mJoinS ma me) := by
  intro F0 O0 H0 G O S F σ H Q K f k h
  refine ho F0 O0 H0 G O S F σ H _ _ f (fun x dx O1 F1 H1 h1 f1 r1 => ?_) h
  split at h1
  · rename_i a
    have e := r1.raw_eq
    subst e
    refine ⟨⟨_, rfl⟩, he F0 O0 H0 G O1 S F1 σ H1 _ _ f1 (fun y dy O2 F2 H2 h2 f2 r2 => ?_) h1⟩
    obtain ⟨ys, hs, hz, hk⟩ := h2
    have hz' : (ys.map (·.length)).sum + ys.length * a.length ≤ 16777216 := Nat.le_trans hz (by decide)
    rcases sqD_of hs with rfl | hs
    · obtain ⟨p, ws, rfl, e1, rl⟩ := f2.tupOf r2
      rw [rl.strs] at e1
      exact ⟨a, p, ys, rfl, rfl, .inr (.inl (.inl e1)), hz', k _ _ _ _ _ hk f2 (.raw _)⟩
    · obtain ⟨p, ws, rfl, e1, rl⟩ := f2.lstOf r2 hs
      rw [rl.strs] at e1
      exact ⟨a, p, ys, rfl, rfl, .inl (.inl (.inl e1)), hz', k _ _ _ _ _ hk f2 (.raw _)⟩
  · exact h1.elim
end
end DN

set_option maxHeartbeats 4000000
/-! DNyb: a list that may change, and will change no more. -/
namespace DN
open PySem PySem.Spec PyProof.Rows L2
open DL (Sub sub_upd sub_upd2)
def dl (O : Ob) (a : Addr) : Ob := fun b => if b = a then none else O b
theorem dl_ne {O : Ob} {a b : Addr} (h : b ≠ a) : dl O a b = O b := by unfold dl; rw [if_neg h]
theorem dl_same {O : Ob} {a : Addr} : dl O a a = none := by unfold dl; rw [if_pos rfl]
def mFrz (e : ME) : ME := fun G O K => e G O fun d O1 => match d with
  | .raw (.ref p) => ∃ xs, O1 p = some (.lst xs) ∧ K (.lst xs) (dl O1 p)
  | _ => False
theorem Mm.frz {c : Cl} {F H : Hp} {O : Ob} {p : Addr} {xs : List D} (m : Mm c F O H) (hp : O p = some (.lst xs)) : ∃ vs, Mm c (upd F p (.lst vs)) (dl O p) H ∧ Go F O H (upd F p (.lst vs)) (dl O p) H ∧ Rp c (upd F p (.lst vs)) (.ref p) (.lst xs) := by
  obtain ⟨vs, hv, r⟩ := m.own p xs hp
  have f0 := m.off p (by rw [hp]; exact fun z => nomatch z)
  have ff : Sub F (upd F p (.lst vs)) := sub_upd f0
  refine ⟨vs, ⟨fun a o e => ?_, fun q ys h => ?_, fun q h => ?_⟩, ⟨ff, fun a o h _ => h, fun a h1 h2 h3 => ?_⟩, .lst upd_same (r.mono ff)⟩
  · by_cases z : a = p
    · subst z; rw [upd_same] at e; cases e; exact hv
    · rw [upd_ne z] at e; exact m.sub a o e
  · by_cases z : q = p
    · subst z; rw [dl_same] at h; cases h
    · rw [dl_ne z] at h
      obtain ⟨us, a, b⟩ := m.all q ys h
      exact ⟨us, a, b.mono ff⟩
  · by_cases z : q = p
    · subst z; exact absurd dl_same h
    · rw [dl_ne z] at h; rw [upd_ne z]; exact m.off q h
  · have z : a ≠ p := fun z => by rw [z, hp] at h2; cases h2
    exact ⟨by rw [upd_ne z]; exact h1, by rw [dl_ne z]; exact h2⟩
theorem se_frz {c : Cl} {te : TE} {me : ME} (he : SE c te me) : SE c te (mFrz me) := by
  intro F0 O0 H0 G O S F σ H Q K f k h
  refine he F0 O0 H0 G O S F σ H _ _ f (fun x dx O1 F1 H1 h1 f1 r1 => ?_) h
  split at h1
  · rename_i p
    obtain ⟨xs, hp, hk⟩ := h1
    have e := r1.raw_eq
    subst e
    obtain ⟨vs, m, g, r⟩ := f1.mm.frz hp
    exact k _ _ _ _ _ hk (f1.step m g) r
  · exact h1.elim
end DN

/-! DNlast: what a def's own w (a structure, so that nothing looks through it) hands on. -/
namespace DN
open PySem L2
theorem sp_out {c : Cl} {w w' : W} {vs : List V} {H : Hp} {Q : VK} {Ex : XK} (i : ∀ ds O K, w ds O K → w' ds O K) (h : spM c w vs H Q Ex) : spM c w' vs H Q Ex := by
  obtain ⟨F, O, ds, Kc, mm, r, hw, k⟩ := h
  exact ⟨F, O, ds, Kc, mm, r, i _ _ _ hw, k⟩
theorem spMk_out {c : Cl} {t : Nat} {w w' : W} {vs : List V} {H : Hp} {Q : VK} {Ex : XK} (i : ∀ ds O K, w ds O K → w' ds O K) (h : spMk c t w vs H Q Ex) : spMk c t w' vs H Q Ex := by
  obtain ⟨F, O, ds, Kc, a, dx, ws, e, mm, fa, oa, ha, r, hw, k⟩ := h
  exact ⟨F, O, ds, Kc, a, dx, ws, e, mm, fa, oa, ha, r, i _ _ _ hw, k⟩
end DN

set_option maxHeartbeats 4000000
/-! DNz: what stands behind the top; the end of a proof over data. -/
namespace DN
open PySem PySem.Spec PyProof.Rows L2
open DL (FnS ok_body pGlo pMeth pProp)
/-! ### facts -/
def staB (C m : Str) (K : PySem.W.Frag) : Bool := PySem.W.readsIn K (He.ga K C) (.type "type") && (He.eqO (PySem.W.specialIn K (.ref (He.ga K C)) "__getattribute__") (some (some (.builtin "type.__getattribute__"))) &&
  (He5.wrapB K (He.ga K C) "staticmethod" "staticmethod.__get__" m && PySem.W.keepIn K (.ref (He5.wf K (He.ga K C) "staticmethod" m))))
abbrev pSta (C m : Str) : PySem.W.Frag → Addr := fun K => He5.wf K (He.ga K C) "staticmethod" m
theorem staB_ok {C m : Str} {K : PySem.W.Frag} (h : staB C m K = true) : CSta K (He.ga K C) m (He.ma K (He.ga K C) m) (pSta C m K) := by
  obtain ⟨h1, h⟩ := He.ba h
  obtain ⟨h2, h⟩ := He.ba h
  obtain ⟨h3, h4⟩ := He.ba h
  obtain ⟨a, b⟩ := He5.wrapB_ok h3
  exact ⟨h1, He.eqO_ok h2, a, b, h4⟩
def injB (cs : List Str) (K : PySem.W.Frag) : Bool := decide ((cs.map fun x => He.ga K x).Nodup)
theorem injB_ok {cs : List Str} {K : PySem.W.Frag} {c : Cl} (h : injB cs K = true) (hc : ∀ t, t < cs.length → (cs.map fun x => He.ga K x)[t]? = some (c.ca t)) : Inj c cs.length := by
  intro t u ht hu e
  have nd := of_decide_eq_true h
  have e2 : (cs.map fun x => He.ga K x)[t]? = (cs.map fun x => He.ga K x)[u]? := by rw [hc t ht, hc u hu, e]
  exact (List.getElem?_inj (by rw [List.length_map]; exact ht) nd).mp e2
def nnB (C : Str) (K : PySem.W.Frag) : Bool := decide (PySem.W.subIn K (.ref (He.ga K C)) (.type "NoneType") = some false)
/-! ### the hook -/
def obsZ (fa : List He.Fa) (fn : List He5.DefA) (ex : List (PySem.W.Frag → Bool)) (K : PySem.W.Frag) : He.AlD := ((fa.all fun f => f.ok K) && ((fn.all fun d => d.ok K) && (ex.all fun e => e K)), fn.map fun d => He5.fnA K (d.at_ K))
def valZ (fn : List He5.DefA) : He.AlD := (true, fn.map He5.DefA.val)
def SaysZ (fa : List He.Fa) (fn : List He5.DefA) (ex : List (PySem.W.Frag → Bool)) (K : PySem.W.Frag) : Prop := obsZ fa fn ex K = valZ fn
def obsZG (n : Nat) (fa : List He.Fa) (fn : List He5.DefA) (ex : List (PySem.W.Frag → Bool)) (g : Addr → Option Obj) : He.AlD := obsZ fa fn ex (He.frG g (He5.asA g n))
def hookZ (n : Nat) (fa : List He.Fa) (fn : List He5.DefA) (ex : List (PySem.W.Frag → Bool)) : PySem.W.Hook where
  α := He.AlD
  obs := fun s => obsZG n fa fn ex s.heap.get?
  val := fun _ => valZ fn
  says := fun _ h => ∃ K : PySem.W.Frag, K.In h ∧ SaysZ fa fn ex K
  of := fun _ _ e => ⟨_, He.frG_in, e⟩
  keeps := fun _ _ _ ⟨K, hK, c⟩ k => ⟨K, PySem.W.Frag.In.keeps hK k, c⟩
theorem obsZG_eq {n : Nat} {fa : List He.Fa} {fn : List He5.DefA} {ex : List (PySem.W.Frag → Bool)} {g : Addr → Option Obj} {s : Shared} (h : ∀ a, g a = s.heap.get? a) : obsZG n fa fn ex g = (hookZ n fa fn ex).obs s := by
  have e : g = s.heap.get? := funext h
  rw [e] <;> rfl
section
variable {fa : List He.Fa} {fn : List He5.DefA} {ex : List (PySem.W.Frag → Bool)} {K : PySem.W.Frag}
theorem SaysZ.fact (c : SaysZ fa fn ex K) (i : Nat) {f : He.Fa} (h : fa[i]? = some f) : f.ok K = true := by
  have c1 := (He.ba (show ((fa.all fun f => f.ok K) && ((fn.all fun d => d.ok K) && (ex.all fun e => e K))) = true from congrArg (fun z : He.AlD => z.1) c)).1
  exact List.all_eq_true.mp c1 f (List.mem_of_getElem? h)
theorem SaysZ.extra (c : SaysZ fa fn ex K) (i : Nat) {f : PySem.W.Frag → Bool} (h : ex[i]? = some f) : f K = true := by
  have c1 := (He.ba (He.ba (show ((fa.all fun f => f.ok K) && ((fn.all fun d => d.ok K) && (ex.all fun e => e K))) = true from congrArg (fun z : He.AlD => z.1) c)).2).2
  exact List.all_eq_true.mp c1 f (List.mem_of_getElem? h)
theorem SaysZ.def_ (c : SaysZ fa fn ex K) (i : Nat) {d : He5.DefA} (h : fn[i]? = some d) : ∃ fd, L2.FunD K d.name d.qual d.params d.body d.scope (d.dvs K) (d.kws K) (d.at_ K) fd := by
  have c2 := (He.ba (He.ba (show ((fa.all fun f => f.ok K) && ((fn.all fun d => d.ok K) && (ex.all fun e => e K))) = true from congrArg (fun z : He.AlD => z.1) c)).2).1
  have e : fn.map (fun d => He5.fnA K (d.at_ K)) = fn.map He5.DefA.val := congrArg (fun z : He.AlD => z.2) c
  have e2 : (fn.map fun d => He5.fnA K (d.at_ K))[i]? = (fn.map He5.DefA.val)[i]? := by rw [e]
  rw [List.getElem?_map, List.getElem?_map, h] at e2
  exact He5.DefA.funD (Option.some.inj e2) (List.all_eq_true.mp c2 d (List.mem_of_getElem? h))
end
/-- a def of a given statement -/
abbrev defZ (p : PySem.W.Frag → Addr) (name qual : Str) (st : Stmt) (kwd : List (Str × He.Dv) := []) : He5.DefA := ⟨p, name, qual, defArgs st, defBody st, defScope st, [], kwd⟩
/-! ### a def keeps its promise -/
section
variable {P : Program} {w : World} {K : PySem.W.Frag} {mg : Str → Option Value} {base : Heap}
/-- the same as FnOk (inits, properties) -/
theorem ok_fn {x qual : Str} {params : Arguments} {body : List Stmt} {scope : Scope} {dvs : List V} {kws : List (Str × V)} {f : Addr} {fd : FuncData} {N ps : List Str} {k : Nat} {sp : Sp} (F : FunD K x qual params body scope dvs kws f fd) (S : FnScope N ps scope)
    (len : ∀ vs H Q E, sp vs H Q E → vs.length = ps.length)
    (hbody : ∀ (cdv : Value) (A : Around) (outer : List Env) (s : Shared) (H : Hp) (vs : List V) (Q : VK) (Ex : XK), Room k (A.deeper (envOfC qual scope s.heap.objs.size f cdv)) → sp vs H Q Ex →
      ∃ t, PSs (cxOf CX0 P w K mg base N qual scope f cdv A outer s H Ex).nox body t ∧ t { nx := fun _ H' => Q .non H', rt := Q } (L2.start N vs) H) : FnOk P w K mg base CX0 (k + 1) f fd ps sp :=
  F.ok S len fun cdv A outer s H vs Q Ex hr h => let ⟨t, a, b⟩ := hbody cdv A outer s H vs Q Ex hr h; ⟨t, a.nox, b⟩
end
theorem lk_map {K : PySem.W.Frag} (cs : List Str) (f : Nat → Addr) (h : cs.map (fun x => He.ga K x) = (List.range cs.length).map f) : ∀ t, t < cs.length → (cs.map fun x => He.ga K x)[t]? = some (f t) := by
  intro t ht
  rw [h, List.getElem?_map, List.getElem?_range ht]
  rfl
end DN

set_option maxHeartbeats 4000000
/-! DNr: rules for the pure side: what a loop comes to, what is kept. -/
namespace DN
open PySem L2
/-- O' has all that O has -/
def Ex (O O' : Ob) : Prop := ∀ p, O p ≠ none → O' p = O p
theorem Ex.rfl {O : Ob} : Ex O O := fun _ _ => Eq.refl _
theorem Ex.trans {O1 O2 O3 : Ob} (a : Ex O1 O2) (b : Ex O2 O3) : Ex O1 O3 := fun p h => by
  have h1 := a p h
  rw [← h1]
  exact b p (by rw [h1]; exact h)
theorem Ex.at {O O' : Ob} {p : Addr} {o : Ow} (a : Ex O O') (h : O p = some o) : O' p = some o := by rw [a p (by rw [h]; exact fun z => nomatch z), h]
/-- a new one -/
theorem Ex.new {O : Ob} {p : Addr} {o : Ow} (h : O p = none) : Ex O (put O p o) := fun q hq => put_ne fun e => hq (by rw [e, h])
/-- one that O has not changes -/
theorem Ex.chg {O O' : Ob} {p : Addr} {o : Ow} (h : O p = none) (a : Ex O O') : Ex O (put O' p o) := fun q hq => by
  rw [put_ne fun e => hq (by rw [e, h])]
  exact a q hq
theorem sqD_at {O : Ob} {p : Addr} {xs : List D} (h : O p = some (.lst xs)) : sqD O (.at p) = some xs := by
  show (match O p with | some (.lst xs) => some xs | _ => none) = some xs
  rw [h]
theorem lsD_at {O : Ob} {p : Addr} {xs : List D} (h : O p = some (.lst xs)) : lsD O (.at p) = some xs := by
  show (match O p with | some (.lst xs) => some xs | _ => none) = some xs
  rw [h]
inductive F2 {α β : Type} (P : α → β → Prop) : List α → List β → Prop
  | nil : F2 P [] []
  | cons {a : α} {b : β} {as : List α} {bs : List β} : P a b → F2 P as bs → F2 P (a :: as) (b :: bs)
theorem F2.length {α β : Type} {P : α → β → Prop} {as : List α} {bs : List β} (h : F2 P as bs) : as.length = bs.length := by
  induction h with
  | nil => rfl
  | cons _ _ ih => rw [List.length_cons, List.length_cons, ih]
theorem F2.right {α β : Type} {P : α → β → Prop} {as : List α} {bs : List β} (h : F2 P as bs) : ∀ b ∈ bs, ∃ a ∈ as, P a b := by
  induction h with
  | nil => intro b hb; cases hb
  | cons p _ ih =>
    intro b hb
    rcases List.mem_cons.mp hb with rfl | hb
    · exact ⟨_, List.mem_cons_self, p⟩
    · obtain ⟨a, h1, h2⟩ := ih b hb
      exact ⟨a, List.mem_cons_of_mem _ h1, h2⟩
/-! ### loops -/
theorem chk_mk {s : Sr} {O : Ob} {P : Prop} (h : okS s O) (p : P) : chk s O P := by
  cases s with
  | none => exact p
  | some q => exact ⟨h, p⟩
/-- d is a list or a tuple of these -/
inductive Hd (O : Ob) : D → List D → Prop
  | lst {xs : List D} : Hd O (.lst xs) xs
  | tup {xs : List D} : Hd O (.tup xs) xs
  | own {p : Addr} {xs : List D} : O p = some (.lst xs) → Hd O (.at p) xs
theorem Hd.ex {O O' : Ob} {d : D} {xs : List D} (h : Hd O d xs) (e : Ex O O') : Hd O' d xs := by
  cases h with
  | lst => exact .lst
  | tup => exact .tup
  | own h => exact .own (e.at h)
theorem Hd.sq {O : Ob} {d : D} {xs : List D} (h : Hd O d xs) : sqD O d = some xs := by
  cases h with
  | lst => rfl
  | tup => rfl
  | own h => exact sqD_at h
theorem Hd.seqI {O : Ob} {d : D} {xs : List D} {R : List D → Sr → Ob → Prop} (h : Hd O d xs) (k : ∀ s, (∀ O', Hd O' d xs → okS s O') → R xs s O) :
    (match d with
      | .raw (.ref p) => ∃ xs, O p = some (.lst xs) ∧ R xs (some (p, xs)) O
      | _ => ∃ xs, sqD O d = some xs ∧ R xs none O) := by
  cases h with
  | lst => exact ⟨_, rfl, k none fun _ _ => trivial⟩
  | tup => exact ⟨_, rfl, k none fun _ _ => trivial⟩
  | own h => exact ⟨_, h, k _ fun O' z => by cases z with | own z => exact z⟩
theorem seqI_mk {O : Ob} {G : GS} {d : D} {xs : List D} {i : Nat} {R : List D → Sr → Ob → Prop} (hv : G[i]? = some (some d)) (h : Hd O d xs) (k : ∀ s, (∀ O', Hd O' d xs → okS s O') → R xs s O) : mSeqI (mVar i) G O R := by
  unfold mSeqI mVar
  rw [hv]
  cases h with
  | lst => exact ⟨_, rfl, k none fun _ _ => trivial⟩
  | tup => exact ⟨_, rfl, k none fun _ _ => trivial⟩
  | own h => exact ⟨_, h, k _ fun O' z => by cases z with | own z => exact z⟩
section
variable {α : Type} {s : Sr} {g : MG} {b : MS} {B : MEnds} {t : MT} {e : ME} {G : GS}
/-- for: I tells of what is left -/
theorem for_rule (enc : α → D) (I : List α → GS → Ob → Prop) (hp : ∀ r G O, I r G O → okS s O) (hn : ∀ G O, I [] G O → B.nx G O)
    (hs : ∀ a r G O (nx : GS → Ob → Prop), I (a :: r) G O → (∀ G' O', I r G' O' → nx G' O') → g (enc a) G O fun G1 O1 => b { B with nx := nx, ct := nx, bk := B.nx } G1 O1) :
    ∀ (as : List α) (G : GS) (O : Ob), I as G O → mForL s g b B (as.map enc) G O
  | [], G, O, h => chk_mk (hp _ _ _ h) (hn G O h)
  | a :: as, G, O, h => chk_mk (hp _ _ _ h) (hs a as G O _ h fun G' O' h' => for_rule enc I hp hn hs as G' O' h')
/-- a comprehension: each item gives a list (of none or one) -/
theorem lc_rule (enc : α → D) (I : Ob → Prop) (hi : ∀ O, I O → okS s O) (P : α → List D → Prop)
    (hs : ∀ a O (K : D → Ob → Prop) (N : Ob → Prop), I O → (∀ d O', P a [d] → I O' → K d O') → (∀ O', P a [] → I O' → N O') → g (enc a) G O fun G1 O1 => t G1 O1 fun c O2 => br c (e G1 O2 K) (N O2)) :
    ∀ (as : List α) (O : Ob) (R : List D → Ob → Prop), I O → (∀ rs O', F2 P as rs → I O' → R rs.flatten O') → mLcL s g t e G (as.map enc) O R
  | [], O, R, h, k => chk_mk (hi _ h) (k [] O .nil h)
  | a :: as, O, R, h, k => by
    refine chk_mk (hi _ h) (hs a O _ _ h (fun d O' hd h' => ?_) (fun O' hd h' => ?_))
    · refine lc_rule enc I hi P hs as O' _ h' fun rs O2 hr h2 => ?_
      exact k ([d] :: rs) O2 (.cons hd hr) h2
    · refine lc_rule enc I hi P hs as O' _ h' fun rs O2 hr h2 => ?_
      exact k ([] :: rs) O2 (.cons hd hr) h2
theorem f2_det {f : α → List D} : ∀ {as : List α} {rs : List (List D)}, F2 (fun a r => r = f a) as rs → rs.flatten = as.flatMap f
  | [], _, .nil => rfl
  | a :: as, _, .cons h r => by
    subst h
    rw [List.flatten_cons, List.flatMap_cons, f2_det r]
/-- each item gives what f tells -/
theorem lc_det (enc : α → D) (I : Ob → Prop) (hi : ∀ O, I O → okS s O) (f : α → List D)
    (hs : ∀ a O (K : D → Ob → Prop) (N : Ob → Prop), I O → (∀ d O', f a = [d] → I O' → K d O') → (∀ O', f a = [] → I O' → N O') → g (enc a) G O fun G1 O1 => t G1 O1 fun c O2 => br c (e G1 O2 K) (N O2))
    (as : List α) (O : Ob) (R : List D → Ob → Prop) (h : I O) (k : ∀ O', I O' → R (as.flatMap f) O') : mLcL s g t e G (as.map enc) O R :=
  lc_rule enc I hi (fun a r => r = f a) (fun a O K N h k1 k2 => hs a O K N h (fun d O' e h' => k1 d O' e.symm h') fun O' e h' => k2 O' e.symm h') as O R h fun rs O' hr h' => by
    rw [f2_det hr]; exact k O' h'
/-- the same, of these items -/
theorem lc_ruleM (enc : α → D) (I : Ob → Prop) (hi : ∀ O, I O → okS s O) (P : α → List D → Prop) (as : List α)
    (hs : ∀ a O (K : D → Ob → Prop) (N : Ob → Prop), a ∈ as → I O → (∀ d O', P a [d] → I O' → K d O') → (∀ O', P a [] → I O' → N O') → g (enc a) G O fun G1 O1 => t G1 O1 fun c O2 => br c (e G1 O2 K) (N O2))
    (O : Ob) (R : List D → Ob → Prop) (h : I O) (k : ∀ rs O', F2 P as rs → I O' → R rs.flatten O') : mLcL s g t e G (as.map enc) O R := by
  induction as generalizing O R with
  | nil => exact chk_mk (hi _ h) (k [] O .nil h)
  | cons a as ih =>
    have hs' := fun x O K N hx => hs x O K N (List.mem_cons_of_mem _ hx)
    refine chk_mk (hi _ h) (hs a O _ _ List.mem_cons_self h (fun d O' hd h' => ?_) (fun O' hd h' => ?_))
    · exact ih hs' O' _ h' fun rs O2 hr h2 => k ([d] :: rs) O2 (.cons hd hr) h2
    · exact ih hs' O' _ h' fun rs O2 hr h2 => k ([] :: rs) O2 (.cons hd hr) h2
/-- .. of these items -/
theorem lc_detM (enc : α → D) (I : Ob → Prop) (hi : ∀ O, I O → okS s O) (f : α → List D) (as : List α)
    (hs : ∀ a O (K : D → Ob → Prop) (N : Ob → Prop), a ∈ as → I O → (∀ d O', f a = [d] → I O' → K d O') → (∀ O', f a = [] → I O' → N O') → g (enc a) G O fun G1 O1 => t G1 O1 fun c O2 => br c (e G1 O2 K) (N O2))
    (O : Ob) (R : List D → Ob → Prop) (h : I O) (k : ∀ O', I O' → R (as.flatMap f) O') : mLcL s g t e G (as.map enc) O R := by
  induction as generalizing O R with
  | nil => exact chk_mk (hi _ h) (k O h)
  | cons a as ih =>
    have hs' := fun x O K N hx => hs x O K N (List.mem_cons_of_mem _ hx)
    refine chk_mk (hi _ h) (hs a O _ _ List.mem_cons_self h (fun d O' hd h' => ?_) (fun O' hd h' => ?_))
    · refine ih hs' O' _ h' fun O2 h2 => ?_
      have := k O2 h2
      rw [List.flatMap_cons, hd] at this
      exact this
    · refine ih hs' O' _ h' fun O2 h2 => ?_
      have := k O2 h2
      rw [List.flatMap_cons, hd] at this
      exact this
theorem lc_yes (x : D) (xs : List D) (O : Ob) (R : List D → Ob → Prop) (ho : okS s O) (h : g x G O fun G1 O1 => e G1 O1 fun d O3 => mLcL s g mYes e G xs O3 fun r O4 => R (d :: r) O4) : mLcL s g mYes e G (x :: xs) O R := by
  refine chk_mk ho ?_
  have e2 : (fun (G1 : GS) (O1 : Ob) => mYes G1 O1 fun b O2 => br b (e G1 O2 fun d O3 => mLcL s g mYes e G xs O3 fun r O4 => R (d :: r) O4) (mLcL s g mYes e G xs O2 R)) = fun G1 O1 => e G1 O1 fun d O3 => mLcL s g mYes e G xs O3 fun r O4 => R (d :: r) O4 := by
    funext G1 O1
    exact propext ⟨fun z => by have := br_e (b := true) z; simpa using this, fun z => br_y rfl z⟩
  rw [e2]
  exact h
/-- each item gives one, with no condition -/
theorem lc_one {β : Type} (enc : α → D) (en : β → D) (I : Ob → Prop) (hi : ∀ O, I O → okS s O) (P : α → β → Prop) (as : List α)
    (hs : ∀ a O (K : D → Ob → Prop), a ∈ as → I O → (∀ b O', P a b → I O' → K (en b) O') → g (enc a) G O fun G1 O1 => e G1 O1 K)
    (O : Ob) (R : List D → Ob → Prop) (h : I O) (k : ∀ bs O', F2 P as bs → I O' → R (bs.map en) O') : mLcL s g mYes e G (as.map enc) O R := by
  induction as generalizing O R with
  | nil => exact chk_mk (hi _ h) (k [] O .nil h)
  | cons a as ih => exact lc_yes _ _ O R (hi _ h) (hs a O _ List.mem_cons_self h (fun b O' hb h' => ih (fun x O K hx => hs x O K (List.mem_cons_of_mem _ hx)) O' _ h' fun bs O2 hr h2 => k (b :: bs) O2 (.cons hb hr) h2))
/-- .. and which one is told -/
theorem lc_map (enc : α → D) (f : α → D) (I : Ob → Prop) (hi : ∀ O, I O → okS s O) (as : List α)
    (hs : ∀ a O (K : D → Ob → Prop), a ∈ as → I O → (∀ O', I O' → K (f a) O') → g (enc a) G O fun G1 O1 => e G1 O1 K)
    (O : Ob) (R : List D → Ob → Prop) (h : I O) (k : ∀ O', I O' → R (as.map f) O') : mLcL s g mYes e G (as.map enc) O R := by
  induction as generalizing O R with
  | nil => exact chk_mk (hi _ h) (k O h)
  | cons a as ih => exact lc_yes _ _ O R (hi _ h) (hs a O _ List.mem_cons_self h (fun O' h' => ih (fun x O K hx => hs x O K (List.mem_cons_of_mem _ hx)) O' _ h' fun O2 h2 => k O2 h2))
end
/-! ### lists of ints against [] -/
theorem toPyL_ints : ∀ ns : List Int, toPyL (ns.map D.int) = some (ns.map PyData.int)
  | [] => rfl
  | n :: ns => by
    show (match toPy (D.int n), toPyL (ns.map D.int) with | some p, some ps => some (p :: ps) | _, _ => none) = _
    rw [toPyL_ints ns]; rfl
theorem canLay_ints : ∀ ns : List Int, PyData.canLayAll0 (ns.map PyData.int) = true
  | [] => rfl
  | n :: ns => by
    show (PyData.canLay0 (.int n) && PyData.canLayAll0 (ns.map PyData.int)) = true
    rw [canLay_ints ns]; rfl
theorem shaped_ints (ns : List Int) : SeqAt.shaped (.list (ns.map PyData.int)) = true := by
  unfold SeqAt.shaped
  rw [Bool.and_eq_true]
  refine ⟨canLay_ints ns, decide_eq_true ?_⟩
  have : ∀ ns : List Int, PyData.depthAll (ns.map PyData.int) = 0 := by
    intro ns
    induction ns with
    | nil => rfl
    | cons n ns ih =>
      show max (PyData.depth (.int n)) (PyData.depthAll (ns.map PyData.int)) = 0
      rw [ih]; rfl
  show PyData.depthAll (ns.map PyData.int) + 1 ≤ 64
  rw [this]; decide
theorem eqv_nil (ns : List Int) : PyData.eqv (.list (ns.map PyData.int)) (.list []) = ns.isEmpty := by
  cases ns <;> rfl
theorem ne_nil {O : Ob} {K : KE} (ns : List Int) (h : K (.bl (!ns.isEmpty)) O) : oNe (.lst (ns.map D.int)) (.lst []) O K :=
  ⟨.list (ns.map PyData.int), .list [], toPyO_of (by show (toPyL _).map _ = _; rw [toPyL_ints]; rfl), rfl, shaped_ints ns, by decide, by rw [eqv_nil]; exact h⟩
theorem eq_nil {O : Ob} {K : KE} (ns : List Int) (h : K (.bl ns.isEmpty) O) : oEq (.lst (ns.map D.int)) (.lst []) O K :=
  ⟨.list (ns.map PyData.int), .list [], toPyO_of (by show (toPyL _).map _ = _; rw [toPyL_ints]; rfl), rfl, shaped_ints ns, by decide, by rw [eqv_nil]; exact h⟩
/-! ### lists of data -/
theorem pairs_map {α β : Type} (f : α → D) (g : β → D) (as : List α) (bs : List β) : pairs (as.map f) (bs.map g) = (as.zip bs).map fun q => .tup [f q.1, g q.2] := by
  unfold pairs
  induction as generalizing bs with
  | nil => rfl
  | cons a as ih => cases bs with
    | nil => rfl
    | cons b bs => simp only [List.map_cons, List.zipWith_cons_cons, List.zip_cons_cons, ih]
theorem enumD_map {α : Type} (f : α → D) (as : List α) : enumD (as.map f) = ((List.range as.length).zip as).map fun q => .tup [.int (q.1 : Int), f q.2] := by
  unfold enumD
  rw [List.length_map]
  generalize List.range as.length = ns
  induction as generalizing ns with
  | nil => cases ns <;> rfl
  | cons a as ih => cases ns with
    | nil => rfl
    | cons n ns => simp only [List.map_cons, List.zipWith_cons_cons, List.zip_cons_cons, ih]
/-! ### loops by index -/
section
variable {α : Type} {s : Sr} {g : MG} {b : MS} {B : MEnds}
theorem for_idx (enc : α → D) (as : List α) (I : Nat → GS → Ob → Prop) (hp : ∀ j G O, I j G O → okS s O) (hn : ∀ G O, I as.length G O → B.nx G O)
    (hs : ∀ j a G O (nx : GS → Ob → Prop), as[j]? = some a → I j G O → (∀ G' O', I (j + 1) G' O' → nx G' O') → g (enc a) G O fun G1 O1 => b { B with nx := nx, ct := nx, bk := B.nx } G1 O1) (G : GS) (O : Ob) (h : I 0 G O) : mForL s g b B (as.map enc) G O := by
  refine for_rule enc (fun r G O => ∃ j, j ≤ as.length ∧ r = as.drop j ∧ I j G O) (fun r G O ⟨j, _, _, h⟩ => hp j G O h) (fun G O ⟨j, hj, e, h⟩ => ?_) (fun a r G O nx ⟨j, hj, e, h⟩ k => ?_) as G O ⟨0, Nat.zero_le _, rfl, h⟩
  · have : as.length ≤ j := by
      have e2 := congrArg List.length e
      rw [List.length_drop, List.length_nil] at e2
      omega
    have : j = as.length := Nat.le_antisymm hj this
    subst this
    exact hn G O h
  · have e3 : as[j]? = some a := by
      have e2 : (as.drop j)[0]? = some a := by rw [← e]; rfl
      rw [List.getElem?_drop] at e2
      exact e2
    have e4 : r = as.drop (j + 1) := by
      have e2 : (as.drop j).drop 1 = r := by rw [← e]; rfl
      rw [List.drop_drop] at e2
      exact e2.symm
    have lt : j < as.length := by
      rcases Nat.lt_or_ge j as.length with z | z
      · exact z
      · rw [List.getElem?_eq_none z] at e3; cases e3
    exact hs j a G O nx e3 h fun G' O' h' => k G' O' ⟨j + 1, lt, e4, h'⟩
theorem rngD_map (lo : Int) (n : Nat) : rngD lo n = (List.range n).map fun (i : Nat) => D.int (lo + (i : Int)) := rfl
theorem for_rng (n : Nat) (lo : Int) (I : Nat → GS → Ob → Prop) (hp : ∀ j G O, I j G O → okS s O) (hn : ∀ G O, I n G O → B.nx G O)
    (hs : ∀ j G O (nx : GS → Ob → Prop), j < n → I j G O → (∀ G' O', I (j + 1) G' O' → nx G' O') → g (.int (lo + (j : Int))) G O fun G1 O1 => b { B with nx := nx, ct := nx, bk := B.nx } G1 O1) (G : GS) (O : Ob) (h : I 0 G O) : mForL s g b B (rngD lo n) G O := by
  rw [rngD_map]
  refine for_idx _ (List.range n) I hp (by rw [List.length_range]; exact hn) (fun j a G O nx e h k => ?_) G O h
  have lt : j < n := by
    rcases Nat.lt_or_ge j n with z | z
    · exact z
    · rw [List.getElem?_eq_none (by rw [List.length_range]; exact z)] at e; cases e
  rw [List.getElem?_range lt] at e
  cases e
  exact hs j G O nx lt h k
theorem for_enum (f : α → D) (as : List α) (I : Nat → GS → Ob → Prop) (hp : ∀ j G O, I j G O → okS s O) (hn : ∀ G O, I as.length G O → B.nx G O)
    (hs : ∀ j a G O (nx : GS → Ob → Prop), as[j]? = some a → I j G O → (∀ G' O', I (j + 1) G' O' → nx G' O') → g (.tup [.int (j : Int), f a]) G O fun G1 O1 => b { B with nx := nx, ct := nx, bk := B.nx } G1 O1) (G : GS) (O : Ob) (h : I 0 G O) : mForL s g b B (enumD (as.map f)) G O := by
  rw [enumD_map]
  refine for_idx _ ((List.range as.length).zip as) I hp (by rw [List.length_zip, List.length_range, Nat.min_self]; exact hn) (fun j a G O nx e h k => ?_) G O h
  rw [List.getElem?_zip_eq_some] at e
  obtain ⟨e1, e2⟩ := e
  have lt : j < as.length := by
    rcases Nat.lt_or_ge j as.length with z | z
    · exact z
    · rw [List.getElem?_eq_none z] at e2; cases e2
  rw [List.getElem?_range lt] at e1
  have e3 : a.1 = j := (Option.some.inj e1).symm
  have := hs j a.2 G O nx e2 h k
  rw [← e3] at this
  rw [e3] at this ⊢
  exact this
end
/-! ### indices and slices -/
theorem lt_of_some {α : Type} {xs : List α} {j : Nat} {a : α} (h : xs[j]? = some a) : j < xs.length := by
  rcases Nat.lt_or_ge j xs.length with z | z
  · exact z
  · rw [List.getElem?_eq_none z] at h; cases h
theorem ixN_nat {n j : Nat} (h : j < n) : ixN n (j : Int) = some j := by
  unfold ixN
  rw [if_pos (Int.natCast_nonneg j), if_pos (by omega), Int.toNat_natCast]
theorem atI_nat {α : Type} {xs : List α} {j : Nat} {a : α} (h : xs[j]? = some a) : L2.atI xs (j : Int) = some a := by
  unfold L2.atI
  rw [ixN_nat (lt_of_some h)]
  exact h
theorem atI_map {α : Type} (f : α → D) (xs : List α) (j : Nat) (a : α) (h : xs[j]? = some a) : L2.atI (xs.map f) (j : Int) = some (f a) := atI_nat (by rw [List.getElem?_map, h]; rfl)
theorem cutD_take (xs : List D) (k : Nat) (h : k ≤ xs.length) : cutD xs none (some (k : Int)) = xs.take k := by
  unfold cutD
  rw [HT.sIx_none, HT.sIx_nat, Nat.sub_zero, List.drop_zero, Nat.min_eq_left h]
theorem cutD_drop (xs : List D) (k : Nat) (h : k < xs.length) : cutD xs (some ((k : Int) + 1)) none = xs.drop (k + 1) := by
  unfold cutD
  have e : ((k : Int) + 1) = ((k + 1 : Nat) : Int) := by omega
  rw [e, HT.sIx_none, HT.sIx_nat, Nat.min_eq_left h]
  exact List.take_of_length_le (by rw [List.length_drop]; exact Nat.le_refl _)
theorem set_cut (xs : List D) (k : Nat) (h : k < xs.length) (d : D) : (xs.take k ++ [d]) ++ xs.drop (k + 1) = xs.set k d := by
  rw [List.set_eq_take_append_cons_drop, if_pos h, List.append_assoc]
  rfl
end DN

set_option maxHeartbeats 4000000
/-! DNs: what all laws share: the box of draws. -/
namespace DN
open PySem L2
def M_box : MS :=
  mSeq (mAsg (mOp oAdd (mOp oMul (mC (.int 6841)) (mVar 1)) (mC (.int 37))) (mgName 2))
    (mSeq (mIfS (mTest (mOp oLt (mVar 1) (mCB bLen [mVar 0]))) (mAsg (mOp oIx (mVar 0) (mVar 1)) (mgName 2)) (mIfS (mTest (mOp oGt (mCB bLen [mVar 0]) (mC (.int 0)))) (mAsg (mOp oAdd (mVar 2) (mOp oMul (mOp oMod (mOp oIx (mVar 0) (mOp oMod (mVar 1) (mCB bLen [mVar 0]))) (mC (.int 2147483629))) (mC (.int 69623)))) (mgName 2)) (mNext)))
    (mSeq (mAsg (mOp oAdd (mOp oMod (mOp oAdd (mOp oMul (mOp oMod (mVar 2) (mC (.int 2147483629))) (mC (.int 48271))) (mOp oMul (mC (.int 40692)) (mVar 1))) (mC (.int 2147483629))) (mC (.int 1))) (mgName 3))
    (mRet (mLstO [mOp oIx (mLst [mC (.int 0), mVar 2]) (mCB bInt [mOp oGe (mVar 2) (mOp oPow (mC (.int 10)) (mC (.int 18)))]), mVar 3, mC (.int 0)]))))
def M_take : MS :=
  mSeq (mIfS (mTest (mOp oGt (mOp oIx (mVar 0) (mC (.int 0))) (mC (.int 0)))) (mSeq (mAsg (mOp oMod (mOp oIx (mVar 0) (mC (.int 0))) (mVar 1)) (mgName 2))
    (mSeq (mAsg (mOp oFdiv (mOp oIx (mVar 0) (mC (.int 0))) (mVar 1)) (mgSub (mVar 0) (mC (.int 0))))
    (mRet (mVar 2)))) (mNext))
    (mSeq (mAsg (mOp oAdd (mOp oIx (mVar 0) (mC (.int 2))) (mC (.int 1))) (mgSub (mVar 0) (mC (.int 2))))
    (mSeq (mAsg (mOp oMod (mOp oMul (mOp oAdd (mOp oIx (mVar 0) (mC (.int 1))) (mOp oMul (mC (.int 104729)) (mOp oIx (mVar 0) (mC (.int 2))))) (mC (.int 69623))) (mC (.int 2147483647))) (mgName 3))
    (mSeq (mAsg (mOp oAdd (mOp oMod (mOp oAdd (mOp oMul (mVar 3) (mC (.int 48271))) (mC (.int 30103))) (mC (.int 2147483629))) (mC (.int 1))) (mgSub (mVar 0) (mC (.int 1))))
    (mRet (mOp oMod (mOp oFdiv (mOp oAdd (mOp oMul (mVar 3) (mC (.int 2147483647))) (mOp oIx (mVar 0) (mC (.int 1)))) (mC (.int 8191))) (mVar 1))))))
def M_pick (w : W) : MS := mRet (mOp oIx (mVar 1) (mCB w [mVar 0, mCB bLen [mVar 1]]))
/-- b is a box -/
def Bx (b : Addr) (O : Ob) : Prop := ∃ n s c : Int, O b = some (.lst [.int n, .int s, .int c])
/-- the box was drawn from; all else is kept -/
def Dr (b : Addr) (O O' : Ob) : Prop := Bx b O' ∧ ∀ p, p ≠ b → O p ≠ none → O' p = O p
theorem Dr.rfl {b : Addr} {O : Ob} (h : Bx b O) : Dr b O O := ⟨h, fun _ _ _ => Eq.refl _⟩
theorem Dr.trans {b : Addr} {O1 O2 O3 : Ob} (a : Dr b O1 O2) (c : Dr b O2 O3) : Dr b O1 O3 := ⟨c.1, fun p h1 h2 => by
  have e := a.2 p h1 h2
  rw [c.2 p h1 (by rw [e]; exact h2), e]⟩
theorem Dr.ex {b : Addr} {O1 O2 O3 : Ob} (a : Dr b O1 O2) (x : Ex O2 O3) : Dr b O1 O3 := by
  refine ⟨?_, fun p h1 h2 => ?_⟩
  · obtain ⟨n, s, c, e⟩ := a.1
    exact ⟨n, s, c, x.at e⟩
  · have e := a.2 p h1 h2
    rw [x p (by rw [e]; exact h2), e]
theorem Dr.at {b : Addr} {O O' : Ob} {p : Addr} {o : Ow} (a : Dr b O O') (h : O p = some o) (ne : p ≠ b) : O' p = some o := by rw [a.2 p ne (by rw [h]; exact fun z => nomatch z), h]
theorem Dr.new {b : Addr} {O O' : Ob} {p : Addr} {o : Ow} (a : Dr b O O') (h : O p = none) (ne : p ≠ b) : Dr b O (put O' p o) := by
  refine ⟨?_, fun q h1 h2 => ?_⟩
  · obtain ⟨n, s, c, e⟩ := a.1
    exact ⟨n, s, c, by rw [put_ne (fun z => ne z.symm)]; exact e⟩
  · rw [put_ne (fun z => h2 (by rw [z]; exact h))]
    exact a.2 q h1 h2
theorem Bx.ne {b : Addr} {O : Ob} {p : Addr} (h : Bx b O) (hp : O p = none) : p ≠ b := fun z => by
  obtain ⟨n, s, c, e⟩ := h
  rw [← z, hp] at e
  cases e
theorem take_rule {b : Addr} {m : Int} {O : Ob} {K : KE} (hb : Bx b O) (h1 : 1 ≤ m) (h2 : m < 1073741824) (h : ∀ r O', 0 ≤ r → r < m → Dr b O O' → K (.int r) O') : wOf 2 4 M_take [.at b, .int m] O K := by
  obtain ⟨n, s, c, hb⟩ := hb
  conv => whnf
  refine ⟨_, _, sqD_at hb, rfl, ?_⟩
  conv => whnf
  refine br_i (fun e => ?_) (fun e => ?_)
  · conv => whnf
    refine ⟨_, _, sqD_at hb, rfl, ?_⟩
    conv => whnf
    refine ⟨by omega, ?_⟩
    conv => whnf
    refine ⟨_, _, sqD_at hb, rfl, ?_⟩
    conv => whnf
    refine ⟨⟨by omega, h2⟩, ?_⟩
    conv => whnf
    refine ⟨_, _, hb, rfl, ?_⟩
    exact h _ _ (Int.emod_nonneg _ (by omega)) (Int.emod_lt_of_pos _ (by omega)) ⟨⟨_, _, _, put_same⟩, fun p ne _ => put_ne ne⟩
  · conv => whnf
    refine ⟨_, _, sqD_at hb, rfl, ?_⟩
    conv => whnf
    refine ⟨_, _, hb, rfl, ?_⟩
    conv => whnf
    refine ⟨_, _, sqD_at put_same, rfl, ?_⟩
    conv => whnf
    refine ⟨_, _, sqD_at put_same, rfl, ?_⟩
    conv => whnf
    refine ⟨.inl ⟨by decide, by decide⟩, ?_⟩
    conv => whnf
    refine ⟨.inr ⟨by decide, by decide⟩, ?_⟩
    conv => whnf
    refine ⟨(by show (0 : Int) < _; decide), ?_⟩
    conv => whnf
    refine ⟨.inr ⟨by decide, by decide⟩, ?_⟩
    conv => whnf
    refine ⟨(by show (0 : Int) < _; decide), ?_⟩
    conv => whnf
    refine ⟨_, _, put_same, rfl, ?_⟩
    conv => whnf
    refine ⟨.inr ⟨by decide, by decide⟩, ?_⟩
    conv => whnf
    refine ⟨_, _, sqD_at put_same, rfl, ?_⟩
    conv => whnf
    refine ⟨⟨by decide, by decide⟩, ?_⟩
    conv => whnf
    refine ⟨by omega, ?_⟩
    exact h _ _ (Int.emod_nonneg _ (by omega)) (Int.emod_lt_of_pos _ (by omega)) ⟨⟨_, _, _, put_same⟩, fun p ne _ => by rw [put_ne ne, put_ne ne]⟩
theorem pick_rule {w : W} {b : Addr} {e : D} {xs : List D} {O : Ob} {K : KE} (hw : ∀ m O K, Bx b O → 1 ≤ m → m < 1073741824 → (∀ r O', 0 ≤ r → r < m → Dr b O O' → K (.int r) O') → w [.at b, .int m] O K)
    (hb : Bx b O) (he : Hd O e xs) (hk : ∀ O', Dr b O O' → Hd O' e xs) (h1 : xs ≠ []) (h2 : xs.length < 1073741824) (h : ∀ d O', d ∈ xs → Dr b O O' → K d O') : wOf 2 2 (M_pick w) [.at b, e] O K := by
  have fin : ∀ O1 (r : Int), 0 ≤ r → r < (xs.length : Int) → Dr b O O1 → oIx e (.int r) O1 K := by
    intro O1 r r0 r1 dr
    obtain ⟨j, hj⟩ : ∃ j : Nat, r = (j : Int) := ⟨r.toNat, by omega⟩
    subst hj
    have lt : j < xs.length := by omega
    obtain ⟨d, hd⟩ : ∃ d, xs[j]? = some d := ⟨_, List.getElem?_eq_getElem lt⟩
    have e1 := hk O1 dr
    cases e1 with
    | lst => exact ⟨_, _, rfl, atI_nat hd, h d O1 (List.mem_of_getElem? hd) dr⟩
    | tup => exact ⟨_, _, rfl, atI_nat hd, h d O1 (List.mem_of_getElem? hd) dr⟩
    | own q => exact ⟨_, _, sqD_at q, atI_nat hd, h d O1 (List.mem_of_getElem? hd) dr⟩
  have len : 0 < xs.length := List.length_pos_iff.mpr h1
  have go : w [.at b, .int (xs.length : Int)] O fun y O2 => oIx e y O2 K := hw _ O _ hb (by omega) (by omega) fun r O' r0 r1 dr => fin O' r r0 r1 dr
  cases he with
  | lst => exact ⟨_, rfl, go⟩
  | tup => exact ⟨_, rfl, go⟩
  | own q => exact ⟨_, sqD_at q, go⟩
theorem box_rule {ns : List Int} {k : Int} {O : Ob} {K : KE} (h0 : 0 ≤ k) (h1 : k ≤ 1000000) (h : ∀ p O', O p = none → Ex O O' → Bx p O' → K (.at p) O') : wOf 2 4 M_box [.scr ns, .int k] O K := by
  have fin : ∀ cell : Int, (mSeq (mAsg (mOp oAdd (mOp oMod (mOp oAdd (mOp oMul (mOp oMod (mVar 2) (mC (.int 2147483629))) (mC (.int 48271))) (mOp oMul (mC (.int 40692)) (mVar 1))) (mC (.int 2147483629))) (mC (.int 1))) (mgName 3))
    (mRet (mLstO [mOp oIx (mLst [mC (.int 0), mVar 2]) (mCB bInt [mOp oGe (mVar 2) (mOp oPow (mC (.int 10)) (mC (.int 18)))]), mVar 3, mC (.int 0)]))) { nx := fun _ O' => K .non O', rt := K } [some (.scr ns), some (.int k), some (.int cell), none] O := by
    intro cell
    conv => whnf
    refine ⟨(by show (0 : Int) < _; decide), ?_⟩
    conv => whnf
    refine ⟨.inr ⟨by decide, by decide⟩, ?_⟩
    conv => whnf
    refine ⟨.inl ⟨by decide, by decide⟩, ?_⟩
    conv => whnf
    refine ⟨(by show (0 : Int) < _; decide), ?_⟩
    conv => whnf
    refine ⟨⟨by decide, by decide, by decide⟩, ?_⟩
    conv => whnf
    have last : ∀ (x y : Int), ∀ p, O p = none → K (.at p) (put O p (.lst [.int x, .int y, .int 0])) := fun x y p hp => by
      exact h p _ hp (Ex.new hp) ⟨_, _, _, put_same⟩
    have at_ : ∀ bb : Bool, L2.atI [D.int 0, D.int cell] (if bb = true then 1 else 0) = some (D.int (if bb = true then cell else 0)) := fun bb => by cases bb <;> rfl
    refine ⟨_, _, rfl, at_ _, ?_⟩
    exact last _ _
  conv => whnf
  refine ⟨.inl ⟨by decide, by decide⟩, ?_⟩
  conv => whnf
  refine br_i (fun e => ?_) (fun e => ?_)
  · have e := of_decide_eq_true e
    obtain ⟨j, hj⟩ : ∃ j : Nat, k = (j : Int) := ⟨k.toNat, by omega⟩
    subst hj
    obtain ⟨x, hx⟩ : ∃ x, ns[j]? = some x := ⟨_, List.getElem?_eq_getElem (by omega)⟩
    refine ⟨x, atI_nat hx, ?_⟩
    exact fin x
  · have e := of_decide_eq_false e
    conv => whnf
    refine br_i (fun e2 => ?_) (fun e2 => ?_)
    · have e2 := of_decide_eq_true e2
      conv => whnf
      refine ⟨by show (0 : Int) < _; omega, ?_⟩
      obtain ⟨j, hj⟩ : ∃ j : Nat, k % (ns.length : Int) = (j : Int) := ⟨(k % (ns.length : Int)).toNat, by have := Int.emod_nonneg k (b := (ns.length : Int)) (by omega); omega⟩
      have lt : j < ns.length := by have := Int.emod_lt_of_pos k (b := (ns.length : Int)) (by omega); omega
      obtain ⟨x, hx⟩ : ∃ x, ns[j]? = some x := ⟨_, List.getElem?_eq_getElem lt⟩
      refine ⟨x, by rw [hj]; exact atI_nat hx, ?_⟩
      conv => whnf
      refine ⟨(by show (0 : Int) < _; decide), ?_⟩
      conv => whnf
      refine ⟨.inr ⟨by decide, by decide⟩, ?_⟩
      exact fin _
    · exact fin _
end DN

set_option maxHeartbeats 4000000
/-! DNt: what all laws share: alike, of the same data. -/
namespace DN
open PySem L2
def M_alikeB : MS := mSeq (mAsg (mMet oPop (mVar 2) []) (mgTup [mgName 3, mgName 4]))
    (mIfS (mTest (mIsi2 "tuple" "list" (mVar 4))) (mSeq (mIfS (mOr (mTest (mOp oNe (mIsi "tuple" (mVar 3)) (mIsi "tuple" (mVar 4)))) (mTest (mOp oNe (mIsi "list" (mVar 3)) (mIsi "list" (mVar 4))))) (mRet (mC (.bl false))) (mNext))
    (mSeq (mIfS (mTest (mOp oNe (mCB bLen [mVar 3]) (mCB bLen [mVar 4]))) (mRet (mC (.bl false))) (mNext))
    (mDrop (mMet oExtend (mVar 2) [mListZip (mVar 3) (mVar 4)])))) (mIfS (mOr (mTest (mIsi2 "tuple" "list" (mVar 3))) (mOr (mTest (mOp oNe (mIsi "bool" (mVar 3)) (mIsi "bool" (mVar 4)))) (mTest (mOp oNe (mVar 3) (mVar 4))))) (mRet (mC (.bl false))) (mNext)))
def M_alike : MS :=
  mSeq (mAsg (mLstO [mTup [mVar 0, mVar 1]]) (mgName 2))
    (mSeq (mWhile (mTest (mOp oNe (mVar 2) (mLst []))) M_alikeB)
    (mRet (mC (.bl true))))
mutual
def sz : D → Nat
  | .lst xs => szL xs + 1
  | .tup xs => szL xs + 1
  | _ => 1
def szL : List D → Nat
  | [] => 0
  | x :: xs => sz x + szL xs
end
theorem szL_app : ∀ xs ys : List D, szL (xs ++ ys) = szL xs + szL ys
  | [], ys => by simp [szL]
  | x :: xs, ys => by simp only [List.cons_append, szL]; rw [szL_app xs ys]; omega
theorem sz_pos (d : D) : 1 ≤ sz d := by cases d <;> simp only [sz] <;> omega
theorem len_szL : ∀ xs : List D, xs.length ≤ szL xs
  | [] => Nat.zero_le _
  | x :: xs => by simp only [List.length_cons, szL]; have := len_szL xs; have := sz_pos x; omega
/-- plain data, so deep -/
def Pl (k : Nat) (d : D) : Prop := ∃ p, toPy d = some p ∧ p.canLay0 = true ∧ p.depth ≤ k
theorem toPyL_mem : ∀ {xs : List D} {ps : List PyData}, toPyL xs = some ps → PyData.canLayAll0 ps = true → ∀ k, PyData.depthAll ps ≤ k → ∀ x ∈ xs, Pl k x
  | [], ps, h, c, k, hk, x, hx => by cases hx
  | y :: xs, ps, h, c, k, hk, x, hx => by
    simp only [toPyL] at h
    cases q : toPy y with
    | none => rw [q] at h; cases h
    | some p =>
      cases q2 : toPyL xs with
      | none => rw [q, q2] at h; cases h
      | some ps2 =>
        rw [q, q2] at h
        cases h
        simp only [PyData.canLayAll0, Bool.and_eq_true] at c
        simp only [PyData.depthAll] at hk
        rcases List.mem_cons.mp hx with rfl | hx
        · exact ⟨p, q, c.1, by omega⟩
        · exact toPyL_mem q2 c.2 k (by omega) x hx
theorem Pl.lst {k : Nat} {xs : List D} (h : Pl k (.lst xs)) : ∀ x ∈ xs, Pl k x := by
  obtain ⟨p, e, c, d⟩ := h
  simp only [toPy] at e
  cases q : toPyL xs with
  | none => rw [q] at e; cases e
  | some ps =>
    rw [q] at e; cases e
    simp only [PyData.canLay0] at c
    simp only [PyData.depth] at d
    exact toPyL_mem q c k (by omega)
theorem Pl.tup {k : Nat} {xs : List D} (h : Pl k (.tup xs)) : ∀ x ∈ xs, Pl k x := by
  obtain ⟨p, e, c, d⟩ := h
  simp only [toPy] at e
  cases q : toPyL xs with
  | none => rw [q] at e; cases e
  | some ps =>
    rw [q] at e; cases e
    simp only [PyData.canLay0] at c
    simp only [PyData.depth] at d
    exact toPyL_mem q c k (by omega)
/-- d is the tree t, or a list that may change and holds it -/
def As (O : Ob) (d t : D) : Prop := d = t ∨ ∃ q xs, d = .at q ∧ t = .lst xs ∧ O q = some (.lst xs)
theorem As.ex {O O' : Ob} {d t : D} (h : As O d t) (x : Ex O O') : As O' d t := by
  rcases h with h | ⟨q, xs, h1, h2, h3⟩
  · exact .inl h
  · exact .inr ⟨q, xs, h1, h2, x.at h3⟩
theorem As.sq {O : Ob} {d t : D} {xs : List D} (h : As O d t) (ht : t = .lst xs ∨ t = .tup xs) : sqD O d = some xs := by
  rcases h with rfl | ⟨q, ys, rfl, rfl, h3⟩
  · rcases ht with rfl | rfl <;> rfl
  · rcases ht with e | e
    · cases e; exact sqD_at h3
    · cases e
theorem As.ty {O : Ob} {d t : D} (h : As O d t) {s : String} (ht : tyD O t = some s) : tyD O d = some s := by
  rcases h with rfl | ⟨q, ys, rfl, rfl, h3⟩
  · exact ht
  · simp only [tyD]; rw [h3]; exact ht
theorem As.py {O : Ob} {d t : D} {p : PyData} (h : As O d t) (ht : toPy t = some p) : toPyR O d = some p := by
  rcases h with rfl | ⟨q, ys, rfl, rfl, h3⟩
  · exact toPyR_of ht
  · simp only [toPyR]; rw [h3]; exact ht
def tp (z : D × D × D) : D := .tup [z.1, z.2.1]
def OkZ (O : Ob) (z : D × D × D) : Prop := As O z.1 z.2.2 ∧ As O z.2.1 z.2.2 ∧ Pl 60 z.2.2
theorem stack_py {O : Ob} : ∀ zs : List (D × D × D), (∀ z ∈ zs, OkZ O z) → ∃ ps, toPyRL O (zs.map tp) = some ps ∧ PyData.canLayAll0 ps = true ∧ PyData.depthAll ps ≤ 61 ∧ ps.isEmpty = zs.isEmpty
  | [], _ => ⟨[], rfl, rfl, Nat.zero_le _, rfl⟩
  | z :: zs, h => by
    obtain ⟨ps, e1, e2, e3, _⟩ := stack_py zs fun x hx => h x (List.mem_cons_of_mem _ hx)
    obtain ⟨a1, a2, p, a3, a4, a5⟩ := h z List.mem_cons_self
    refine ⟨.tuple [p, p] :: ps, ?_, ?_, ?_, rfl⟩
    · show (match toPyR O (tp z), toPyRL O (zs.map tp) with | some p, some ps => some (p :: ps) | _, _ => none) = _
      have e : toPyR O (tp z) = some (.tuple [p, p]) := by
        unfold tp
        simp only [toPyR, toPyRL]
        rw [a1.py a3, a2.py a3]
        rfl
      rw [e, e1]
    · show ((PyData.canLay0 p && (PyData.canLay0 p && true)) && PyData.canLayAll0 ps) = true
      rw [a4, e2]; rfl
    · show max (max (PyData.depth p) (max (PyData.depth p) 0) + 1) (PyData.depthAll ps) ≤ 61
      omega
theorem OkZ.ex {O O' : Ob} {z : D × D × D} (h : OkZ O z) (x : Ex O O') : OkZ O' z := ⟨h.1.ex x, h.2.1.ex x, h.2.2⟩
theorem alike_loop {p : Addr} {a b : D} {K : KE} {O0 : Ob} (hp0 : O0 p = none) (h : ∀ O', Ex O0 O' → K (.bl true) O') : ∀ (n : Nat) (zs : List (D × D × D)) (O : Ob) (g3 g4 : Option D), szL (zs.map (·.2.2)) ≤ n → n ≤ 100000 → Ex O0 O → O p = some (.lst (zs.map tp)) → (∀ z ∈ zs, OkZ O0 z) →
    mWhN (mTest (mOp oNe (mVar 2) (mLst []))) M_alikeB { nx := mRet (mC (.bl true)) { nx := fun _ O' => K .non O', rt := K }, rt := K } (n + 1) [some a, some b, some (.at p), g3, g4] O
  | n, zs, O, g3, g4, hn, hm, x0, hp, hz => by
    have test : ∀ (K' : Bool → Ob → Prop), K' (!zs.isEmpty) O → mTest (mOp oNe (mVar 2) (mLst [])) [some a, some b, some (.at p), g3, g4] O K' := by
      intro K' hk
      obtain ⟨ps, e1, e2, e3, e4⟩ := stack_py (O := O) zs fun z hz' => (hz z hz').ex x0
      refine ⟨.list ps, .list [], ?_, rfl, ?_, by decide, ?_⟩
      · show (match lsD O (.at p) with | some xs => (toPyRL O xs).map PyData.list | none => toPyR O (.at p)) = _
        rw [lsD_at hp]
        show (toPyRL O (zs.map tp)).map PyData.list = _
        rw [e1]; rfl
      · unfold SeqAt.shaped
        rw [Bool.and_eq_true]
        exact ⟨e2, decide_eq_true (by show PyData.depthAll ps + 1 ≤ 64; omega)⟩
      · have e5 : PyData.eqv (.list ps) (.list []) = zs.isEmpty := by rw [← e4]; cases ps <;> rfl
        rw [e5]
        exact hk
    refine test _ ?_
    rcases List.eq_nil_or_concat zs with rfl | ⟨ys, z, rfl⟩
    · refine br_n rfl ?_
      exact h O x0
    · refine br_y (by rw [List.concat_eq_append]; simp) ?_
      rw [List.concat_eq_append] at hn hp hz
      obtain ⟨d, e, t⟩ := z
      obtain ⟨ad0, ae0, pl0⟩ : As O0 d t ∧ As O0 e t ∧ Pl 60 t := hz (d, e, t) (List.mem_append_right _ List.mem_cons_self)
      rw [List.map_append, szL_app] at hn
      simp only [List.map_cons, List.map_nil, szL] at hn
      have x1 : Ex O0 (put O p (.lst (ys.map tp))) := Ex.chg hp0 x0
      have ad : As (put O p (.lst (ys.map tp))) d t := ad0.ex x1
      have ae : As (put O p (.lst (ys.map tp))) e t := ae0.ex x1
      have pl : Pl 60 t := pl0
      clear ad0 ae0 pl0
      have tpos := sz_pos t
      obtain ⟨n', rfl⟩ : ∃ n', n = n' + 1 := ⟨n - 1, by omega⟩
      have zy : ∀ z ∈ ys, OkZ O0 z := fun z hz' => hz z (List.mem_append_left _ hz')
      unfold M_alikeB
      have more : ∀ xs : List D, (t = .lst xs ∨ t = .tup xs) → ∀ g3 g4, mWhN (mTest (mOp oNe (mVar 2) (mLst []))) M_alikeB { nx := mRet (mC (.bl true)) { nx := fun _ O' => K .non O', rt := K }, rt := K } (n' + 1) [some a, some b, some (.at p), g3, g4] (put (put O p (.lst (ys.map tp))) p (.lst (ys.map tp ++ pairs xs xs))) := by
        intro xs ht g3 g4
        have szt : sz t = szL xs + 1 := by rcases ht with rfl | rfl <;> rfl
        have plx : ∀ x ∈ xs, Pl 60 x := by rcases ht with rfl | rfl; exact pl.lst; exact pl.tup
        have ps : pairs xs xs = (xs.map fun x => (x, x, x)).map tp := by
          unfold pairs
          rw [List.map_map]
          clear plx szt ht
          induction xs with
          | nil => rfl
          | cons x xs ih => rw [List.zipWith_cons_cons, ih]; rfl
        refine alike_loop hp0 h n' (ys ++ xs.map fun x => (x, x, x)) _ g3 g4 ?_ (by omega) (Ex.chg hp0 x1) (by rw [put_same, ps, List.map_append]) fun z hz' => ?_
        · rw [List.map_append, szL_app, List.map_map]
          have : (xs.map ((fun z : D × D × D => z.2.2) ∘ fun x => (x, x, x))) = xs := by
            show xs.map (fun x => x) = xs
            exact List.map_id' xs
          rw [this]; omega
        · rcases List.mem_append.mp hz' with h1 | h1
          · exact zy z h1
          · obtain ⟨x, hx, rfl⟩ := List.mem_map.mp h1
            exact ⟨.inl rfl, .inl rfl, plx x hx⟩
      have leaf : ∀ g3 g4, mWhN (mTest (mOp oNe (mVar 2) (mLst []))) M_alikeB { nx := mRet (mC (.bl true)) { nx := fun _ O' => K .non O', rt := K }, rt := K } (n' + 1) [some a, some b, some (.at p), g3, g4] (put O p (.lst (ys.map tp))) := fun g3 g4 => alike_loop hp0 h n' ys _ g3 g4 (by omega) (by omega) x1 put_same zy
      have lenb : ∀ xs : List D, (t = .lst xs ∨ t = .tup xs) → xs.length ≤ 100000 ∧ (ys.map tp).length + (pairs xs xs).length ≤ 100000 := by
        intro xs ht
        have szt : sz t = szL xs + 1 := by rcases ht with rfl | rfl <;> rfl
        have l1 := len_szL xs
        have l2 := len_szL (ys.map (·.2.2))
        rw [List.length_map] at l2
        refine ⟨by omega, ?_⟩
        unfold pairs
        rw [List.length_map, List.length_zipWith]
        omega
      conv => whnf
      refine ⟨_, lsD_at hp, ?_⟩
      conv => whnf
      refine ⟨ys.map tp, tp (d, e, t), by rw [hp, List.map_append]; rfl, ?_⟩
      conv => whnf
      obtain ⟨pp, py, pc, pd⟩ := pl
      cases t with
      | obj _ _ => simp only [toPy] at py; cases py
      | scr _ => simp only [toPy] at py; cases py
      | pin _ => simp only [toPy] at py; cases py
      | dic _ _ => simp only [toPy] at py; cases py
      | exc _ _ => simp only [toPy] at py; cases py
      | tup xs =>
        rcases ad with rfl | ⟨_, _, _, z, _⟩
        · rcases ae with rfl | ⟨_, _, _, z, _⟩
          · refine ⟨_, _, _, rfl, rfl, rfl, ?_⟩
            conv => whnf
            refine br_y rfl ?_
            conv => whnf
            refine ⟨_, _, rfl, rfl, ?_⟩
            conv => whnf
            refine ⟨_, _, rfl, rfl, ?_⟩
            conv => whnf
            refine br_n rfl ?_
            conv => whnf
            refine ⟨_, _, rfl, rfl, ?_⟩
            conv => whnf
            refine ⟨_, _, rfl, rfl, ?_⟩
            conv => whnf
            refine br_n rfl ?_
            conv => whnf
            refine ⟨_, rfl, ?_⟩
            conv => whnf
            refine ⟨_, rfl, ?_⟩
            conv => whnf
            refine br_n (by simp) ?_
            conv => whnf
            refine ⟨_, lsD_at put_same, ?_⟩
            conv => whnf
            refine ⟨_, _, rfl, rfl, rfl, (lenb xs (.inr rfl)).1, ?_⟩
            conv => whnf
            refine ⟨_, _, put_same, rfl, (lenb xs (.inr rfl)).2, ?_⟩
            exact more xs (.inr rfl) _ _
          · cases z
        · cases z
      | lst xs =>
        have tyd : tyD (put O p (.lst (ys.map tp))) d = some "list" := ad.ty rfl
        have tye : tyD (put O p (.lst (ys.map tp))) e = some "list" := ae.ty rfl
        have sqd : sqD (put O p (.lst (ys.map tp))) d = some xs := ad.sq (.inl rfl)
        have sqe : sqD (put O p (.lst (ys.map tp))) e = some xs := ae.sq (.inl rfl)
        rcases ad with rfl | ⟨q1, xs1, rfl, z1, hq1⟩ <;> rcases ae with rfl | ⟨q2, xs2, rfl, z2, hq2⟩
        all_goals
          refine ⟨_, _, _, tye, rfl, rfl, ?_⟩
          conv => whnf
          refine br_y rfl ?_
          conv => whnf
          refine ⟨_, _, tyd, rfl, ?_⟩
          conv => whnf
          refine ⟨_, _, tye, rfl, ?_⟩
          conv => whnf
          refine br_n rfl ?_
          conv => whnf
          refine ⟨_, _, tyd, rfl, ?_⟩
          conv => whnf
          refine ⟨_, _, tye, rfl, ?_⟩
          conv => whnf
          refine br_n rfl ?_
          conv => whnf
          refine ⟨_, sqd, ?_⟩
          conv => whnf
          refine ⟨_, sqe, ?_⟩
          conv => whnf
          refine br_n (by simp) ?_
          conv => whnf
          refine ⟨_, lsD_at put_same, ?_⟩
          conv => whnf
          refine ⟨_, _, sqd, sqe, rfl, (lenb xs (.inl rfl)).1, ?_⟩
          conv => whnf
          refine ⟨_, _, put_same, rfl, (lenb xs (.inl rfl)).2, ?_⟩
          exact more xs (.inl rfl) _ _
      | raw v =>
        rcases ad with rfl | ⟨_, _, _, z, _⟩
        · rcases ae with rfl | ⟨_, _, _, z, _⟩
          · cases v with
            | non =>
              refine ⟨_, _, _, rfl, rfl, rfl, ?_⟩
              conv => whnf
              refine br_n rfl ?_
              conv => whnf
              refine ⟨_, _, _, rfl, rfl, rfl, ?_⟩
              conv => whnf
              refine br_n rfl ?_
              conv => whnf
              refine ⟨_, _, rfl, rfl, ?_⟩
              conv => whnf
              refine ⟨_, _, rfl, rfl, ?_⟩
              conv => whnf
              refine br_n rfl ?_
              conv => whnf
              refine ⟨.none, .none, rfl, rfl, by decide, by decide, ?_⟩
              conv => whnf
              refine br_n rfl ?_
              exact leaf _ _
            | bl x =>
              refine ⟨_, _, _, rfl, rfl, rfl, ?_⟩
              conv => whnf
              refine br_n rfl ?_
              conv => whnf
              refine ⟨_, _, _, rfl, rfl, rfl, ?_⟩
              conv => whnf
              refine br_n rfl ?_
              conv => whnf
              refine ⟨_, _, rfl, rfl, ?_⟩
              conv => whnf
              refine ⟨_, _, rfl, rfl, ?_⟩
              conv => whnf
              refine br_n rfl ?_
              conv => whnf
              refine br_n (by cases x <;> rfl) ?_
              exact leaf _ _
            | int x =>
              refine ⟨_, _, _, rfl, rfl, rfl, ?_⟩
              conv => whnf
              refine br_n rfl ?_
              conv => whnf
              refine ⟨_, _, _, rfl, rfl, rfl, ?_⟩
              conv => whnf
              refine br_n rfl ?_
              conv => whnf
              refine ⟨_, _, rfl, rfl, ?_⟩
              conv => whnf
              refine ⟨_, _, rfl, rfl, ?_⟩
              conv => whnf
              refine br_n rfl ?_
              conv => whnf
              refine br_n (by simp) ?_
              exact leaf _ _
            | str x =>
              refine ⟨_, _, _, rfl, rfl, rfl, ?_⟩
              conv => whnf
              refine br_n rfl ?_
              conv => whnf
              refine ⟨_, _, _, rfl, rfl, rfl, ?_⟩
              conv => whnf
              refine br_n rfl ?_
              conv => whnf
              refine ⟨_, _, rfl, rfl, ?_⟩
              conv => whnf
              refine ⟨_, _, rfl, rfl, ?_⟩
              conv => whnf
              refine br_n rfl ?_
              conv => whnf
              refine br_n (by simp) ?_
              exact leaf _ _
            | _ => simp only [toPy] at py; cases py
          · cases z
        · cases z
termination_by n => n
theorem alike_rule {d e t : D} {O : Ob} {K : KE} (ad : As O d t) (ae : As O e t) (pl : Pl 60 t) (hs : sz t ≤ 100000) (h : ∀ O', Ex O O' → K (.bl true) O') : wOf 2 5 M_alike [d, e] O K := by
  intro p hp
  refine ⟨sz t + 1, ?_⟩
  refine alike_loop hp h (sz t) [(d, e, t)] _ none none (by simp [szL]) hs (Ex.new hp) (by rw [put_same]; rfl) fun z hz => ?_
  rw [List.mem_singleton] at hz
  subst hz
  exact ⟨ad, ae, pl⟩
end DN

set_option maxHeartbeats 4000000
/-! DNu: plain data, put together. -/
namespace DN
open PySem L2
theorem pl_all {k : Nat} : ∀ {xs : List D}, (∀ x ∈ xs, Pl k x) → ∃ ps, toPyL xs = some ps ∧ PyData.canLayAll0 ps = true ∧ PyData.depthAll ps ≤ k
  | [], _ => ⟨[], rfl, rfl, Nat.zero_le _⟩
  | x :: xs, h => by
    obtain ⟨p, a1, a2, a3⟩ := h x List.mem_cons_self
    obtain ⟨ps, b1, b2, b3⟩ := pl_all (xs := xs) fun y hy => h y (List.mem_cons_of_mem _ hy)
    refine ⟨p :: ps, ?_, ?_, ?_⟩
    · show (match toPy x, toPyL xs with | some p, some ps => some (p :: ps) | _, _ => none) = _
      rw [a1, b1]
    · show (PyData.canLay0 p && PyData.canLayAll0 ps) = true
      rw [a2, b2]; rfl
    · show max (PyData.depth p) (PyData.depthAll ps) ≤ k
      omega
theorem pl_tup {k : Nat} {xs : List D} (h : ∀ x ∈ xs, Pl k x) : Pl (k + 1) (.tup xs) := by
  obtain ⟨ps, b1, b2, b3⟩ := pl_all h
  refine ⟨.tuple ps, ?_, b2, ?_⟩
  · show (toPyL xs).map PyData.tuple = _
    rw [b1]; rfl
  · show PyData.depthAll ps + 1 ≤ k + 1
    omega
theorem pl_lst {k : Nat} {xs : List D} (h : ∀ x ∈ xs, Pl k x) : Pl (k + 1) (.lst xs) := by
  obtain ⟨ps, b1, b2, b3⟩ := pl_all h
  refine ⟨.list ps, ?_, b2, ?_⟩
  · show (toPyL xs).map PyData.list = _
    rw [b1]; rfl
  · show PyData.depthAll ps + 1 ≤ k + 1
    omega
theorem Pl.le {j k : Nat} {d : D} (h : Pl j d) (e : j ≤ k) : Pl k d := by
  obtain ⟨p, a, b, c⟩ := h
  exact ⟨p, a, b, Nat.le_trans c e⟩
theorem pl_int {k : Nat} (i : Int) : Pl k (.int i) := ⟨.int i, rfl, rfl, Nat.zero_le _⟩
theorem pl_bl {k : Nat} (i : Bool) : Pl k (.bl i) := ⟨.bool i, rfl, rfl, Nat.zero_le _⟩
theorem pl_non {k : Nat} : Pl k .non := ⟨.none, rfl, rfl, Nat.zero_le _⟩
theorem pl_map {α : Type} {k : Nat} {f : α → D} {xs : List α} (h : ∀ x ∈ xs, Pl k (f x)) : ∀ d ∈ xs.map f, Pl k d := fun d hd => by
  obtain ⟨x, hx, rfl⟩ := List.mem_map.mp hd
  exact h x hx
theorem pl_nil {k : Nat} : ∀ d ∈ ([] : List D), Pl k d := fun d hd => nomatch hd
theorem pl_cons {k : Nat} {x : D} {xs : List D} (h : Pl k x) (hs : ∀ d ∈ xs, Pl k d) : ∀ d ∈ x :: xs, Pl k d := fun d hd => by
  rcases List.mem_cons.mp hd with rfl | hd
  · exact h
  · exact hs d hd
theorem szL_le {k : Nat} : ∀ {xs : List D}, (∀ x ∈ xs, sz x ≤ k) → szL xs ≤ xs.length * k
  | [], _ => Nat.zero_le _
  | x :: xs, h => by
    have a := h x List.mem_cons_self
    have b := szL_le (xs := xs) fun y hy => h y (List.mem_cons_of_mem _ hy)
    simp only [szL, List.length_cons, Nat.succ_mul]
    omega
theorem szL_map {α : Type} {k : Nat} {f : α → D} {xs : List α} (h : ∀ x ∈ xs, sz (f x) ≤ k) : szL (xs.map f) ≤ xs.length * k := by
  have := szL_le (k := k) (xs := xs.map f) fun d hd => by
    obtain ⟨x, hx, rfl⟩ := List.mem_map.mp hd
    exact h x hx
  rwa [List.length_map] at this
end DN

set_option maxHeartbeats 4000000
/-! DNxa: making instances of own exception classes over ValueError or KeyError. -/
namespace DNX
open PySem PySem.Spec PySem.W PySem.Calls PyProof.Rows PySem.HandSPX Builtin Builtin.ObjectAttr
abbrev keTail : List Value := [.type "KeyError", .type "LookupError", .type "Exception", .type "BaseException", .type "object"]
def tailOf : Bool → List Value
  | false => veTail
  | true => keTail
/-- own classes, then the mro of ValueError (false) or KeyError (true) -/
def refsB (b : Bool) : List Value → Bool
  | .ref _ :: r => refsB b r
  | l => l == tailOf b
theorem refsB_or {b : Bool} (l : List Value) (e : refsB b l = true) : (∃ c r, l = .ref c :: r ∧ refsB b r = true) ∨ l = tailOf b := by
  unfold refsB at e
  split at e
  · exact .inl ⟨_, _, rfl, e⟩
  · exact .inr (beq_iff_eq.mp e)
theorem tail_pass (b : Bool) (self : Value) : refuseLoop self "__setattr__" (tailOf b) = pure () := by
  cases b with
  | false => exact F.store_ValueError.passes self
  | true => show refuseLoop self "__setattr__" keTail = pure (); kernel_rfl
theorem refsB_pass {b : Bool} (self : Value) : ∀ l : List Value, refsB b l = true → refuseLoop self "__setattr__" l = pure ()
  | [], e => by rcases refsB_or [] e with ⟨_, _, q, _⟩ | q; cases q; rw [q]; exact tail_pass b self
  | a :: r, e => by
    rcases refsB_or (a :: r) e with ⟨c, r', q, h⟩ | q
    · cases q; rw [refuseLoop_ref]; exact refsB_pass self r h
    · rw [q]; exact tail_pass b self
theorem refsB_has {b : Bool} (X : String) : ∀ l : List Value, refsB b l = true → l.contains (.type X) = (tailOf b).contains (.type X)
  | [], e => by rcases refsB_or [] e with ⟨_, _, q, _⟩ | q; cases q; rw [q]
  | a :: r, e => by
    rcases refsB_or (a :: r) e with ⟨c, r', q, h⟩ | q
    · cases q; rw [List.contains_cons, refsB_has X r h]; rfl
    · rw [q]
theorem refsB_ne {b : Bool} {l : List Value} (e : refsB b l = true) : l.isEmpty = false := by
  rcases refsB_or l e with ⟨c, r, q, _⟩ | q
  · rw [q]; rfl
  · rw [q]; cases b <;> rfl
/-- the mro as making looks at it -/
structure MroOk (B : String) (bm : List Value) : Prop where
  hB : bm.contains (.type B) = true
  hA : bm.contains (.type "AttributeError") = false
  hN : bm.contains (.type "NameError") = false
abbrev baseOf : Bool → String
  | false => "ValueError"
  | true => "LookupError"
abbrev newOf : Bool → String
  | false => "ValueError.__new__"
  | true => "LookupError.__new__"
theorem mroOk {b : Bool} {bm : List Value} (h : refsB b bm = true) : MroOk (baseOf b) bm := by
  cases b with
  | false => exact ⟨(refsB_has _ _ h).trans (by decide +kernel), (refsB_has _ _ h).trans (by decide +kernel), (refsB_has _ _ h).trans (by decide +kernel)⟩
  | true => exact ⟨(refsB_has _ _ h).trans (by decide +kernel), (refsB_has _ _ h).trans (by decide +kernel), (refsB_has _ _ h).trans (by decide +kernel)⟩
section
variable {prog : Program} {w : World} {A : Around} {E : Value → Shared → Prop} {R : Result → Shared → Prop} {h : Heap} {g : Array GenState} {d : Drawn} {t : Nat} {os : OsState}
variable {nm q : Str} {C N : Addr} {bs bm bmB : List Value} {hdct : Bool} {sn : List Str} {sub : List Value} {ab : Bool} {col : Option Bool} {dd : Option Addr} {k0 k1 k2 k3 k5 : Option Value} {B newId initId : String} {rest : List Value} {kw : List (Str × Value)}
abbrev ClsAt (h : Heap) (C : Addr) (nm q : Str) (N : Addr) (bs bm : List Value) (hdct : Bool) (sn : List Str) (sub : List Value) (ab : Bool) (col : Option Bool) (dd : Option Addr) (k0 k1 k2 k3 k5 : Option Value) (newId : String) : Prop :=
  h.get? C = some (excClassObj nm q C N bs bm hdct sn sub ab col dd k0 k1 k2 k3 k5 newId)
theorem chk_new {M : Model} (Fb : ExcBaseFacts B newId initId bmB) (mk : MroOk B bm) {Q : Unit → Shared → Prop} (hC : ClsAt h C nm q N bs bm hdct sn sub ab col dd k0 k1 k2 k3 k5 newId) (hq : Q () ⟨h, g, d, t, os⟩) :
    wpAny M A (checkBuiltinCall newId ⟨.ref C :: rest, kw⟩) Q E ⟨h, g, d, t, os⟩ := by
  have c1 : (Value.ref C :: bm).contains (.type B) = true := by rw [List.contains_cons, mk.hB, Bool.or_true]
  have c2 := Fb.noStar
  simp only [checkBuiltinCall, Fb.newKind, Fb.newSplit, Fb.newRow]
  repeat (first | refine wpAny_loadPart_at hC ?_ | (refine wpAny_isSubtype_exc hC ?_; rw [c1]) | refine wpAny_staticBase_exc hC ?_ | refine wpAny_madeBy_exc hC ?_ | simp only [bne_self_eq_false, Bool.false_eq_true, if_false] | wp_step)
  exact hq
theorem run_new (Fb : ExcBaseFacts B newId initId bmB) (mk : MroOk B bm) (hC : ClsAt h C nm q N bs bm hdct sn sub ab col dd k0 k1 k2 k3 k5 newId)
    (hq : R (.ok (.ret (.ref (h.objs.size + 1)))) ⟨(h.push (W.kdv_tup rest)).push (excO C h.objs.size), g, d, t, os⟩) (hl : rest.length ≤ sizeLine) :
    codeAny (model prog w) A (.builtin newId ⟨.ref C :: rest, kw⟩) R ⟨h, g, d, t, os⟩ := by
  have c0 := Fb.ends
  have c1 : (Value.ref C :: bm).contains (.type B) = true := by rw [List.contains_cons, mk.hB, Bool.or_true]
  have c2 : (Value.ref C :: bm).contains (.type "AttributeError") = false := by rw [List.contains_cons, mk.hA]; rfl
  have c3 : (Value.ref C :: bm).contains (.type "NameError") = false := by rw [List.contains_cons, mk.hN]; rfl
  refine codeAny_builtinAt Fb.entry ?_
  unfold Builtin.«BaseException.__new__»
  refine PySem.wpAt_bind ?_
  show PySem.wpAt _ _ _ (stack >>= _) _ _ _
  refine PySem.wpAt_bind (PySem.wpAt_stack fun p below => PySem.wpAt_of_wpAny ?_)
  wp_walk
  refine PySem.wpAt_of_wpAny ?_
  rw [Fb.owner]
  repeat (first | with_reducible refine wpAny_madeHere_exc Fb.canon hC ?_ | with_reducible refine wpAny_loadPart_at hC ?_ | (with_reducible refine wpAny_isSubtype_exc hC ?_; first | rw [c1] | rw [c2] | rw [c3]) | wp_step)
  show R _ _
  rw [Heap.size_push]
  exact hq
/-- C(..): __new__, then what __init__ is -/
theorem type_call (Fb : ExcBaseFacts B newId initId bmB) (mk : MroOk B bm) {iv : Value} {Q : Fin → Shared → Prop} (hC : ClsAt h C nm q N bs bm hdct sn sub ab col dd k0 k1 k2 k3 k5 newId)
    (hi : W.Looks (model prog w) h (typeLookup (.ref C) "__init__") (some iv)) (hb : ∀ self, W.Looks (model prog w) h (bindSpecial iv self) (iv, [self])) (hl : rest.length ≤ sizeLine)
    (hq : codeAny (model prog w) A (.call iv ⟨.ref (h.objs.size + 1) :: rest, kw⟩)
      (fun r s' => match r with | .ok (.ret v) => v = .none ∧ Q (.done (.ret (.ref (h.objs.size + 1)))) s' | .ok _ => False | .error e => E e s') ⟨(h.push (W.kdv_tup rest)).push (excO C h.objs.size), g, d, t, os⟩) :
    wpAny (model prog w) A (Builtin.«type.__call__» ⟨.ref C :: rest, kw⟩) Q E ⟨h, g, d, t, os⟩ := by
  repeat (first | with_reducible refine wpAny_loadPart_at hC ?_ | with_reducible refine wpAny_madeBy_exc hC ?_ | wp_step)
  refine codeAny_call_builtin_code (Code.quiet_builtin _ Fb.quiet) (chk_new Fb mk hC ?_)
  refine run_new Fb mk hC ?_ hl
  show wpAny _ _ _ _ _ _
  have up : ∀ b o, h.get? b = some o → ((h.push (W.kdv_tup rest)).push (excO C h.objs.size)).get? b = some o := fun b o e => Heap.get?_push_of_some _ (Heap.get?_push_of_some _ e)
  have hC1 := up _ _ hC
  have at1 : ((h.push (W.kdv_tup rest)).push (excO C h.objs.size)).get? (h.objs.size + 1) = some (excO C h.objs.size) := by heap_get
  have c1 : (Value.ref C :: bm).contains (.ref C) = true := by simp
  have i1 := hi.keeps up
  have b1 := (hb (.ref (h.objs.size + 1))).keeps up
  unfold isInstance
  repeat (first | with_reducible refine wpAny_loadPart_at at1 ?_ | (with_reducible refine wpAny_isSubtype_exc hC1 ?_; rw [c1]) | wp_step)
  show wpAny _ _ (typeLookup (.ref C) _) _ _ _
  refine i1.at (wpAny_holding (wpAny_bind (b1.at (wpAny_bind (wpAny_call (codeAny_mono hq fun r s' z => ?_))))))
  rcases r with e | (v | _ | _ | _) <;> first | exact z | exact z.elim | skip
  obtain ⟨rfl, z⟩ := z
  first | exact wpAny_pure (wpAny_pure z) | (wp_walk; exact z)
theorem call_cls (Fb : ExcBaseFacts B newId initId bmB) (mk : MroOk B bm) {iv : Value} (hC : ClsAt h C nm q N bs bm hdct sn sub ab col dd k0 k1 k2 k3 k5 newId)
    (hi : W.Looks (model prog w) h (typeLookup (.ref C) "__init__") (some iv)) (hb : ∀ self, W.Looks (model prog w) h (bindSpecial iv self) (iv, [self])) (hl : rest.length ≤ sizeLine)
    (hq : codeAny (model prog w) (A.under (.builtin "type.__call__" ⟨.ref C :: rest, kw⟩)) (.call iv ⟨.ref (h.objs.size + 1) :: rest, kw⟩) (W.InitBack (h.objs.size + 1) R) ⟨(h.push (W.kdv_tup rest)).push (excO C h.objs.size), g, d, t, os⟩) :
    codeAny (model prog w) A (.call (.ref C) ⟨rest, kw⟩) R ⟨h, g, d, t, os⟩ := by
  have f1 := tc_lookup
  have f2 := tc_bind (.ref C)
  have ht : (⟨h, g, d, t, os⟩ : Shared).TypeIs (.ref C) "type" := ⟨_, hC, rfl⟩
  refine codeAny_of_tree ?_
  show wpAny _ _ (callAny (.ref C) _) _ _ _
  repeat (any_goals (first | assumption | with_reducible refine wpAny_loadPart_at hC ?_ | wp_step))
  refine ⟨rfl, codeAny_call_builtin_at (Code.quiet_builtin _ (by decide +kernel)) entry_typeCall (wpAny_check_type_call_sub hC (type_call Fb mk hC hi hb hl (codeAny_mono hq fun r s' z => ?_)))⟩
  rcases r with e | (v | _ | _ | _) <;> exact z
end
end DNX

set_option maxHeartbeats 4000000
/-! DNxb: fields of an exception. -/
namespace DNX
open PySem PySem.Spec PySem.W PySem.Calls PyProof.Rows PySem.HandSPX Builtin Builtin.ObjectAttr
section
variable {prog : Program} {w : World} {A : Around} {E : Value → Shared → Prop} {R : Result → Shared → Prop} {hp : Heap} {g : Array GenState} {d : Drawn} {t : Nat} {os : OsState} {b : Bool}
/-- self.name = v, no dict as yet -/
theorem sa_new {K : W.Frag} {name : Str} {tk : Tok} {v : Value} {x C : Addr} {fv : Array Value} {cd : ClassData} (X : K.In hp) (hx : hp.get? x = some { cls := .ref C, data := .fields fv }) (hcd : W.clsIn K C = some cd) (hm : refsB b cd.mro = true)
    (hh : cd.hasDict = true) (ha : W.findIn K (.ref C) name = some none)
    (hq : ∀ h' tk' dx, (∀ b o, b ≠ x → hp.get? b = some o → h'.get? b = some o) → hp.objs.size ≤ dx → dx ≠ x → h'.get? x = some { cls := .ref C, dict := some dx, data := .fields fv } → h'.Ns1 dx (fun y => if y = name then some v else none) → R (.ok (.ret .none)) ⟨h', g, d, tk', os⟩) :
    codeAny (model prog w) A (.call (.builtin "object.__setattr__") ⟨[.ref x, .str name tk, v], []⟩) R ⟨hp, g, d, t, os⟩ := by
  have I : W.InstAt hp x { cls := .ref C, data := .fields fv } C none := ⟨hx, rfl, rfl, trivial⟩
  have S := F.store_object
  have em := refsB_ne hm
  have hob : cd.mro.contains (.type "object") = true := (refsB_has "object" _ hm).trans (by cases b <;> decide +kernel)
  have xs : x ≠ hp.objs.size := Nat.ne_of_lt (Heap.lt_size hx)
  have sb : W.Looks (model prog w) hp (isInstance (.ref x) (.type "object")) true := I.type.andThen (W.looks_mroIn X (by unfold W.mroIn; rw [hcd, Option.bind_some, if_neg (by rw [em]; decide), hob]))
  refine codeAny_call_builtin S.slot.plain S.entry (@W.check_slot (model prog w) _ _ ⟨hp, g, d, t, os⟩ "object.__setattr__" "object" "__setattr__" (.ref x) [.str name tk, v] [] _ S.kind S.split sb (S.args (.ref x) (.str name tk) v) ?_)
  have l1 : W.Looks (model prog w) hp (mroOf (.ref C)) cd.mro := (W.looks_clsIn X hcd).andThen .now
  have l2 : W.Looks (model prog w) hp (storeTaker? none) none := .now
  have l3 : W.Looks (model prog w) hp (classData C) cd := W.looks_clsIn X hcd
  rw [W.osa_eq, refuse_eq]
  refine wpAny_bind (wpAny_bind (I.type.at (wpAny_bind (l1.at ?_))))
  rw [refsB_pass _ _ hm]
  refine wpAny_pure (wpAny_bind (I.type.at (wpAny_bind ((W.looks_findIn X ha).at (wpAny_bind (l2.at ?_))))))
  show wpAny _ _ (storeInOwnDict (.ref x) (.ref C) (.str name tk) name v false) _ _ _
  obtain ⟨nm, bs, mro, ns, qn, hd, sn, sb, ab, col, del⟩ := cd
  dsimp only at hh; subst hh
  unfold storeInOwnDict ownDictForStores
  repeat (first | with_reducible refine store_in_new ?_ ?_ | with_reducible refine wpAny_loadPart_at hx ?_ | with_reducible refine l3.at ?_ | wp_step)
  · exact ⟨_, #[], _, (Heap.get?_update_ne _ _ _ _ xs.symm).trans (Heap.get?_push_at rfl rfl), rfl, fun e he => absurd he (by simp), fun _ => rfl⟩
  · intro h' tk' hn' hs
    have hx1 : (hp.push { cls := .type "dict", data := .dict #[] }).get? x = some { cls := .ref C, data := .fields fv } := Heap.get?_push_of_some _ hx
    exact hq h' tk' hp.objs.size (fun b o hb ho => (hs.2 b (Nat.ne_of_lt (Heap.lt_size ho))).trans ((Heap.get?_update_ne _ _ _ _ hb).trans (Heap.get?_push_of_some _ ho))) (Nat.le_refl _) xs.symm ((hs.2 x xs).trans (Heap.get?_update_self _ hx1 rfl)) hn'
/-- .. a further one -/
theorem sa_old {K : W.Frag} {name : Str} {tk : Tok} {v : Value} {x C dx : Addr} {fv : Array Value} {cd : ClassData} {m0 : Str → Option Value} {nl : List Str} (X : K.In hp) (hx : hp.get? x = some { cls := .ref C, dict := some dx, data := .fields fv })
    (hns : hp.Ns1 dx m0) (hw : Within m0 nl) (hz : nl.length ≤ 1000) (hcd : W.clsIn K C = some cd) (hm : refsB b cd.mro = true) (hh : cd.hasDict = true) (ha : W.findIn K (.ref C) name = some none)
    (hq : ∀ h' tk', (∀ b o, b ≠ dx → hp.get? b = some o → h'.get? b = some o) → h'.Ns1 dx (fun y => if y = name then some v else m0 y) → R (.ok (.ret .none)) ⟨h', g, d, tk', os⟩) :
    codeAny (model prog w) A (.call (.builtin "object.__setattr__") ⟨[.ref x, .str name tk, v], []⟩) R ⟨hp, g, d, t, os⟩ := by
  obtain ⟨oD, esD, epD, hoD, hdD, _⟩ := hns.count hw
  have I : W.InstAt hp x { cls := .ref C, dict := some dx, data := .fields fv } C (some oD) := ⟨hx, rfl, rfl, hoD⟩
  have S := F.store_object
  have em := refsB_ne hm
  have hob : cd.mro.contains (.type "object") = true := (refsB_has "object" _ hm).trans (by cases b <;> decide +kernel)
  have sb : W.Looks (model prog w) hp (isInstance (.ref x) (.type "object")) true := I.type.andThen (W.looks_mroIn X (by unfold W.mroIn; rw [hcd, Option.bind_some, if_neg (by rw [em]; decide), hob]))
  refine codeAny_call_builtin S.slot.plain S.entry (@W.check_slot (model prog w) _ _ ⟨hp, g, d, t, os⟩ "object.__setattr__" "object" "__setattr__" (.ref x) [.str name tk, v] [] _ S.kind S.split sb (S.args (.ref x) (.str name tk) v) ?_)
  have l1 : W.Looks (model prog w) hp (mroOf (.ref C)) cd.mro := (W.looks_clsIn X hcd).andThen .now
  have l2 : W.Looks (model prog w) hp (storeTaker? none) none := .now
  have l3 : W.Looks (model prog w) hp (classData C) cd := W.looks_clsIn X hcd
  rw [W.osa_eq, refuse_eq]
  refine wpAny_bind (wpAny_bind (I.type.at (wpAny_bind (l1.at ?_))))
  rw [refsB_pass _ _ hm]
  refine wpAny_pure (wpAny_bind (I.type.at (wpAny_bind ((W.looks_findIn X ha).at (wpAny_bind (l2.at ?_))))))
  show wpAny _ _ (storeInOwnDict (.ref x) (.ref C) (.str name tk) name v false) _ _ _
  obtain ⟨nm, bs, mro, ns, qn, hd, sn, sb, ab, col, del⟩ := cd
  dsimp only at hh; subst hh
  unfold storeInOwnDict ownDictForStores
  repeat (first | with_reducible refine OEX.store_in_old hns hw hz ?_ | with_reducible refine wpAny_loadPart_at hx ?_ | with_reducible refine l3.at ?_ | wp_step)
  intro h' tk' hn' hs
  exact hq h' tk' (fun b o hb ho => (hs.2 b hb).trans ho) hn'
end
end DNX
namespace DN
open PySem PySem.Spec PyProof.Rows L2
/-- an own exception class over ValueError (false) or KeyError (true) -/
structure XcC (K : PySem.W.Frag) (C : Addr) (b : Bool) : Prop where
  cls : ∃ nm q N bs bm sn sub ab col dd k0 k1 k2 k3 k5, K.lookup C = some (excClassObj nm q C N bs bm true sn sub ab col dd k0 k1 k2 k3 k5 (DNX.newOf b)) ∧ DNX.refsB b bm = true
  sa : PySem.W.findIn K (.ref C) "__setattr__" = some (some (.builtin "object.__setattr__"))
  exC : PySem.W.subIn K (.ref C) (.type "BaseException") = some true
  tyC : PySem.W.typeIn K (.ref C) = some (.type "type")
  kC : PySem.W.keepIn K (.ref C) = true
section
variable {X : Cx} {pins : List (Addr × Obj)} {σ : L2.St} {H : Hp} {s : Shared} {a C dx : Addr} {f : Str} {y : V} {u : Value} {fs : List (Str × V)} {Q : Unit → Shared → Prop} {E : Value → Shared → Prop} {A : Around} {b : Bool}
theorem xst_new (T : XcC X.K C b) (I : Inv X pins σ H s) (e : H a = some (exo a C none)) (hno : PySem.W.findIn X.K (.ref C) f = some none) (ry : RelV y u)
    (h : ∀ dx s', H dx = none → dx ≠ a → Inv X pins σ (upd (upd H dx (exd dx [(f, y)])) a (exo a C (some dx))) s' → Q () s') : wpAny (model X.prog X.w) A (setAttr (.ref a) f u) Q E s := by
  obtain ⟨nm, q, N, bs, bm, sn, sub, ab, col, dd, k0, k1, k2, k3, k5, hC, hbm⟩ := T.cls
  have hcl : PySem.W.clsIn X.K C = some { name := nm, bases := bs, mro := .ref C :: bm, ns := N, qualname := q, hasDict := true, slotNames := sn, subclasses := sub, abstract := ab, collection := col, hasDel := false } := by
    unfold PySem.W.clsIn; rw [hC] <;> rfl
  obtain ⟨t1, ho⟩ := exo_at I.hok e
  obtain ⟨hp, g, d, t, os⟩ := s
  refine PySem.W.set_plain I.kIn (ox := { cls := .ref C, dict := none, data := .fields #[.ref t1, .none, .none, .none, .bool false, .none] }) (od := none) ⟨ho, rfl, rfl, trivial⟩ T.sa ?_
  refine DNX.sa_new (b := b) I.kIn ho hcl (show DNX.refsB b (.ref C :: bm) = true from hbm) rfl hno (fun h' tk' dx k dn dne hx hn => ?_)
  have hnd : H dx = none := I.hok.fresh dn
  have nd : ∀ {z : Addr} {o : Obj}, hp.get? z = some o → z ≠ dx := fun {z o} q => Nat.ne_of_lt (Nat.lt_of_lt_of_le (Heap.lt_size q) dn)
  have na : ∀ {z : Addr}, H z = none → z ≠ a := fun {z} n e2 => by rw [e2, e] at n; cases n
  have U : Un X.fs [] H (upd (upd H dx (exd dx [(f, y)])) a (exo a C (some dx))) hp h' := {
    keep := fun z o q n _ _ => k z o (na n) q
    slot := fun z o q n _ _ => ⟨o.slots, k z o (na n) q⟩
    free := fun z o q n _ => by rw [upd_ne (na n), upd_ne (nd q)]; exact n
    there := fun z o q _ => by
      by_cases hb : z = a
      · exact ⟨_, by rw [hb]; exact hx⟩
      · exact ⟨o, k z o hb q⟩
    tups := fun z xs q => by rw [upd_ne (at_ne e q exo_tup), upd_ne (ne_of_none q hnd)]; exact q
    frzs := fun z o v q => by rw [upd_ne (at_ne e q exo_frz), upd_ne (ne_of_none q hnd)]; exact q
    tbls := fun z ps q => ⟨#[], by rw [upd_ne (at_ne e q exo_tbl), upd_ne (ne_of_none q hnd), q]; simp⟩ }
  refine h dx _ hnd dne (I.un (t' := tk') U fun z o q => ?_)
  by_cases hb : z = a
  · subst hb; rw [upd_same] at q; cases q; exact exo_ok hx
  · rw [upd_ne hb] at q
    by_cases hd : z = dx
    · subst hd; rw [upd_same] at q; cases q; exact exd_ok hn (relO_put (fs := []) ry fun g => True.intro)
    · rw [upd_ne hd] at q
      refine (I.hok z o q).stay (fun c v hc e2 => k c v ?_ e2) (fun c hc => by rw [upd_ne (at_ne e hc exo_own), upd_ne (ne_of_none hc hnd)]; exact hc) (fun c xs hc => by rw [upd_ne (at_ne e hc exo_tup), upd_ne (ne_of_none hc hnd)]; exact hc)
      rcases hc with hc | hc
      · rw [hc]; exact hb
      · exact at_ne e hc exo_own
theorem xst_old (T : XcC X.K C b) (I : Inv X pins σ H s) (e : H a = some (exo a C (some dx))) (ed : H dx = some (exd dx fs)) (hl : fs.length ≤ 900) (hno : PySem.W.findIn X.K (.ref C) f = some none) (ry : RelV y u)
    (h : ∀ s', Inv X pins σ (upd H dx (exd dx ((f, y) :: fs))) s' → Q () s') : wpAny (model X.prog X.w) A (setAttr (.ref a) f u) Q E s := by
  obtain ⟨nm, q, N, bs, bm, sn, sub, ab, col, dd, k0, k1, k2, k3, k5, hC, hbm⟩ := T.cls
  have hcl : PySem.W.clsIn X.K C = some { name := nm, bases := bs, mro := .ref C :: bm, ns := N, qualname := q, hasDict := true, slotNames := sn, subclasses := sub, abstract := ab, collection := col, hasDel := false } := by
    unfold PySem.W.clsIn; rw [hC] <;> rfl
  obtain ⟨t1, ho⟩ := exo_at I.hok e
  obtain ⟨mA, hns, rel⟩ := exd_at I.hok ed
  have hw := within_of rel
  obtain ⟨hp, g, d, t, os⟩ := s
  obtain ⟨oD, _, _, hoD, _, _⟩ := hns.count hw
  refine PySem.W.set_plain I.kIn (ox := { cls := .ref C, dict := some dx, data := .fields #[.ref t1, .none, .none, .none, .bool false, .none] }) (od := some oD) ⟨ho, rfl, rfl, hoD⟩ T.sa ?_
  refine DNX.sa_old (b := b) I.kIn ho hns hw (by rw [List.length_map]; omega) hcl (show DNX.refsB b (.ref C :: bm) = true from hbm) rfl hno (fun h' tk' k hn => ?_)
  have hd : ∃ o, h'.get? dx = some o := let ⟨o, _, _, e', _⟩ := hn; ⟨o, e'⟩
  exact h _ (I.write (t' := tk') (x := dx) (e := dx) (o := exd dx ((f, y) :: fs)) (by rw [ed]; exact True.intro) (.inl rfl) k hd (exd_ok hn (relO_put ry rel)))
end
/-- self.f = e, self an exception that is being made -/
def tXst (K : PySem.W.Frag) (f : Str) (to te : TE) : TS := fun D σ H => te σ H fun y H1 => to σ H1 fun x H2 => ∃ a C b, x = .ref a ∧ XcC K C b ∧ PySem.W.findIn K (.ref C) f = some none ∧
  ((H2 a = some (exo a C none) ∧ ∀ dx, H2 dx = none → dx ≠ a → D.nx σ (upd (upd H2 dx (exd dx [(f, y)])) a (exo a C (some dx)))) ∨
    ∃ (dx : Addr) (fs : List (Str × V)), H2 a = some (exo a C (some dx)) ∧ H2 dx = some (exd dx fs) ∧ fs.length ≤ 900 ∧ D.nx σ (upd H2 dx (exd dx ((f, y) :: fs))))
theorem ps_xst {X : Cx} {o e : Expr} {to te : TE} {f : Str} {p' pos : Pos} (ho : PE X o to) (he : PE X e te) (hs : swapsWith e (some (.Attribute o f p')) pos.line X.env = pure false := by rfl) : PS X (.Assign [.Attribute o f p'] e pos) (tXst X.K f to te) := by
  refine ⟨fun pins s σ H D I h => ?_⟩
  refine plainObj_wpAny_Assign_Attribute (thn (he.run pins s σ H _ I h) fun v s1 ⟨y, H1, I1, r1, q1⟩ => thn (ho.run pins s1 σ H1 _ I1 q1) fun u s2 ⟨x, H2, I2, r2, a, C, b, ex, T, hno, q⟩ => ?_) hs
  subst ex
  obtain rfl : u = Value.ref a := r2
  rcases q with ⟨ea, q⟩ | ⟨dx, fs, ea, ed, hl, q⟩
  · exact xst_new T I2 ea hno r1 fun dx s' n ne J => ⟨σ, _, J, q dx n ne⟩
  · exact xst_old T I2 ea ed hl hno r1 fun s' J => ⟨σ, _, J, q⟩
end DN

set_option maxHeartbeats 4000000
/-! DNxc: an exception is made: as a value, or to be raised. -/
namespace DN
open PySem PySem.Spec PyProof.Rows L2
def prm {α : Type} (p : List Nat) (zs : List α) : List α := p.filterMap fun i => zs[i]?
theorem vals_get : ∀ {zs : List V} {ws : List Value} (i : Nat), Vals zs ws → (zs[i]? = none ∧ ws[i]? = none) ∨ ∃ z w, zs[i]? = some z ∧ ws[i]? = some w ∧ RelV z w
  | _, _, i, .nil => .inl ⟨by simp, by simp⟩
  | _, _, 0, .cons h _ => .inr ⟨_, _, rfl, rfl, h⟩
  | _, _, i + 1, .cons _ r => by simpa using vals_get i r
theorem vals_prm {zs : List V} {ws : List Value} (r : Vals zs ws) : ∀ p : List Nat, Vals (prm p zs) (prm p ws)
  | [] => .nil
  | i :: p => by
    unfold prm
    rcases vals_get i r with ⟨a, b⟩ | ⟨z, w, a, b, h⟩
    · rw [List.filterMap_cons_none a, List.filterMap_cons_none b]; exact vals_prm r p
    · rw [List.filterMap_cons_some a, List.filterMap_cons_some b]; exact .cons h (vals_prm r p)
theorem base_facts (b : Bool) : ∃ ii bb, ExcBaseFacts (DNX.baseOf b) (DNX.newOf b) ii bb := by
  cases b with
  | false => exact ⟨_, _, F.excBase_ValueError⟩
  | true => exact ⟨_, _, F.excBase_LookupError⟩
/-- an exception class with its own __init__, by values (none of them named), or by names alone, in the orders os -/
structure XkC (P : Program) (w : World) (K : PySem.W.Frag) (mg : Str → Option Value) (base : Heap) (k : Nat) (C : Addr) (b : Bool) (n : Nat) (os : List (List Str × List Nat)) (sp : Sp) : Prop where
  xc : XcC K C b
  ini : ∃ fI fd ps, PySem.W.findIn K (.ref C) "__init__" = some (some (.ref fI)) ∧ PySem.W.typeIn K (.ref fI) = some (.type "function") ∧ FnOk P w K mg base CX0 k fI fd ps sp ∧ Binds K fd ps [] ∧
    ∀ o ∈ os, KBn K fd ps 1 o.1 (fun us ws => us ++ prm o.2 ws) (fun vs zs => vs ++ prm o.2 zs)
section
variable {X : Cx} {pins : List (Addr × Obj)} {σ : L2.St} {H : Hp} {s : Shared} {k n : Nat} {C : Addr} {b : Bool} {os : List (List Str × List Nat)} {sp : Sp} {x : Str} {p pos : Pos} {e : Expr} {es : List Expr} {kws : List Keyword} {t tk : TA}
/-- its class's call, whatever is wanted of the end -/
theorem run_mkx {fI : Addr} {fd : FuncData} {ps : List Str} {us ws all : List Value} {vall : List V} {ks : List Str} {Q' : Addr → VK} {Q : Value → Shared → Prop} (T : XcC X.K C b) (iC : PySem.W.findIn X.K (.ref C) "__init__" = some (some (.ref fI))) (tI : PySem.W.typeIn X.K (.ref fI) = some (.type "function"))
    (F1 : FnOk X.prog X.w X.K X.mg X.base CX0 k fI fd ps sp) (hr : Room (k + 1) X.A) (I : Inv X pins σ H s) (hus : us.length ≤ 1000)
    (hall : ∀ a s', X.K.In s'.heap → BindsTo s' fd ⟨Value.ref a :: us, ks.zip ws⟩ (ps.zip (Value.ref a :: all))) (r : Vals vall all)
    (h : ∀ a, H a = none → sp (.ref a :: vall) (upd H a (exo a C none)) (Q' a) E0)
    (fin : ∀ (hp2 h2 : Heap) (g2 : Array GenState) (d2 : Drawn) (t2 : Nat) (os2 : OsState) (v : V) (u : Value) (H2 : Hp) (a : Addr), s.heap.objs.size ≤ a → H a = none → (∀ z o, s.heap.get? z = some o → hp2.get? z = some o) → Un (frs X.stack) [] (upd H a (exo a C none)) H2 hp2 h2 → HOk X.prog X.w H2 h2 → os2 = s.os → AllBare g2 →
      Inv X pins σ H2 ⟨h2, g2, d2, t2, os2⟩ → RelV v u → Q' a v H2 → u = .none ∧ Q (.ref a) ⟨h2, g2, d2, t2, os2⟩) :
    wpAny (model X.prog X.w) X.A (call (.ref C) us (ks.zip ws)) Q X.xe s := by
  obtain ⟨nm, q, N, bs, bm, sn, sub, ab, col, dd, k0, k1, k2, k3, k5, hC, hbm⟩ := T.cls
  obtain ⟨hp, g, dr, tk, os⟩ := s
  have hsz : hp.objs.size ≤ hp.objs.size + 1 := Nat.le_succ _
  have hn : H (hp.objs.size + 1) = none := I.hok.fresh hsz
  have hq := h (hp.objs.size + 1) hn
  have kk : ∀ z o, hp.get? z = some o → ((hp.push (PySem.W.kdv_tup us)).push (PySem.HandSPX.excO C hp.objs.size)).get? z = some o := fun z o e => Heap.get?_push_of_some _ (Heap.get?_push_of_some _ e)
  have at1 : ((hp.push (PySem.W.kdv_tup us)).push (PySem.HandSPX.excO C hp.objs.size)).get? (hp.objs.size + 1) = some (PySem.HandSPX.excO C hp.objs.size) := by heap_get
  have I2 : Inv X pins σ (upd H (hp.objs.size + 1) (exo (hp.objs.size + 1) C none)) ⟨(hp.push (PySem.W.kdv_tup us)).push (PySem.HandSPX.excO C hp.objs.size), g, dr, tk, os⟩ :=
    I.laid (t' := tk) (a := hp.objs.size + 1) (o := exo (hp.objs.size + 1) C none) (h' := (hp.push (PySem.W.kdv_tup us)).push (PySem.HandSPX.excO C hp.objs.size)) kk hsz (exo_ok at1)
  have r2 : Vals (V.ref (hp.objs.size + 1) :: vall) (Value.ref (hp.objs.size + 1) :: all) := .cons rfl r
  have hl : us.length ≤ sizeLine := Nat.le_trans hus (by decide)
  have go := codeAny_mono (F1.run _ X.stack _ _ ⟨Value.ref (hp.objs.size + 1) :: us, ks.zip ws⟩ (Value.ref (hp.objs.size + 1) :: all) _ _ E0 (hr.make C us (ks.zip ws)) (I2.env0.make C us (ks.zip ws)) (hall _ _ I2.kIn) r2 hq)
    (R' := PySem.W.InitBack (hp.objs.size + 1) (fun r s' => match r with | .ok (.ret u) => Q u s' | .ok _ => False | .error e => X.xe e s')) fun r s' hq' => by
      cases r with
      | error er => exact False.elim (pass0 (X := X) pins σ _ _ er s' I2 hq' |> fun _ => hq')
      | ok fl =>
        cases fl with
        | ret u =>
          have hq0 := hq'
          obtain ⟨v, H2, os2, bare2, un2, hok2, rv, q2⟩ := hq'
          obtain ⟨h2, g2, d2, t2, os'⟩ := s'
          obtain ⟨v', H2', J, rv', _⟩ := I2.after (Q := fun v' H' => v' = v ∧ H' = H2) ⟨v, H2, os2, bare2, un2, hok2, rv, rfl, rfl⟩
          rename_i qq
          obtain ⟨rfl, rfl⟩ := qq
          exact fin _ h2 g2 d2 t2 os' v' u H2' _ hsz hn kk un2 hok2 os2 bare2 J rv q2
        | next => exact False.elim hq'
        | brk => exact False.elim hq'
        | cont => exact False.elim hq'
  obtain ⟨ii, bb, Fb⟩ := base_facts b
  exact wpAny_call (DNX.call_cls (rest := us) (kw := ks.zip ws) Fb (DNX.mroOk hbm) (I.kIn _ _ hC) (PySem.W.looks_findIn I.kIn iC) (fun self => PySem.W.bind_fn I.kIn self tI) hl go)
/-- C(e, ..), C(k = v, ..) as a value -/
def tMkV (C : Addr) (n m : Nat) (sp : Sp) (gV : List V → List V → List V) (t tk : TA) : TE := fun σ H Q => t σ H fun vs H1 => tk σ H1 fun zs H2 => vs.length = n ∧ zs.length = m ∧
  ∀ a, H2 a = none → sp (.ref a :: gV vs zs) (upd H2 a (exo a C none)) (fun v H3 => v = .non ∧ Q (.ref a) H3) E0
theorem p_mkV (h : XkC X.prog X.w X.K X.mg X.base k C b n os sp) (hr : Room (k + 1) X.A) (hg : Gl X x) (hm : X.mg x = some (.ref C)) (ha : PA X (e :: es) t) (hn : n ≤ 1000 := by decide) (hdb : (x == ("__debug__" : Str)) = false := by decide)
    (he : starEach (e :: es) X.env = (false, eval e X.env) :: starEach es X.env := by rfl) (hpl : (backTo pos (starEach es X.env)).any (·.1) = false := by rfl) : PE X (.Call (.Name x p) (e :: es) [] pos) (tMkV C n 0 sp (fun vs _ => vs) t tNil) := by
  obtain ⟨T, fI, fd, ps, iC, tI, F1, hb, _⟩ := h
  refine ⟨fun pins s σ H Q I h => ?_⟩
  refine wpAny_Call_Name_kw (ld_glob I hg hm ?_ hdb)
  refine PySem.W.callWith_K (h₀ := X.base) I.ok.mod.kin T.kC (thn (ha.run pos pins s σ H _ I h) fun us s1 ⟨vs, H1, I1, r1, l1, _, q1⟩ => ⟨I1.kIn, ?_⟩) he hpl
  have hlu : us.length = n := r1.length.symm.trans l1
  refine run_mkx (us := us) (ks := []) (ws := []) (Q' := fun a v H3 => v = .non ∧ Q (.ref a) H3) T iC tI F1 hr I1 (by rw [hlu]; exact hn) (fun a s' kin => ?_) r1 (fun a n0 => q1 a n0) (fun hp2 h2 g2 d2 t2 os2 v u H2 a _ _ _ _ _ _ _ J rv q => ?_)
  · have hl := F1.len _ _ _ _ (q1 s1.heap.objs.size (I1.hok.fresh (Nat.le_refl _)))
    have b0 := hb s' (Value.ref a :: us) kin (by rw [List.append_nil, List.length_cons, ← r1.length, ← hl]; rfl)
    rw [List.append_nil] at b0
    exact b0
  · obtain ⟨rfl, q⟩ := q
    exact ⟨rv, ⟨.ref a, H2, J, rfl, q⟩⟩
theorem p_mkK {ks : List Str} {pm : List Nat} (h : XkC X.prog X.w X.K X.mg X.base k C b n os sp) (hr : Room (k + 1) X.A) (hg : Gl X x) (hm : X.mg x = some (.ref C)) (ho : (ks, pm) ∈ os) (hkw : PK X kws tk) (hnk : ks.length = n := by rfl) (hall : (backToKw pos (keywordEach kws X.env)).all (·.1.isSome) = true := by rfl)
    (hks : (backToKw pos (keywordEach kws X.env)).filterMap (·.1) = ks := by rfl) (hdb : (x == ("__debug__" : Str)) = false := by decide)
    (hpl : ((backTo pos (starEach [] X.env)).any (·.1) || (backToKw pos (keywordEach kws X.env)).any (·.1.isNone)) = false := by rfl) : PE X (.Call (.Name x p) [] kws pos) (tMkV C 0 n sp (fun vs zs => vs ++ prm pm zs) tNil tk) := by
  subst hnk
  obtain ⟨T, fI, fd, ps, iC, tI, F1, _, hb⟩ := h
  refine ⟨fun pins s σ H Q I h => ?_⟩
  refine wpAny_Call_Name_kw (ld_glob I hg hm ?_ hdb)
  refine PySem.W.callWith_KW0 (h₀ := X.base) I.ok.mod.kin T.kC hall ?_ hpl
  refine thn (hkw.run pos pins s σ H _ I h) fun ws s2 ⟨zs, H2, I2, rz, l1, l2, q2⟩ => ⟨I2.kIn, ?_⟩
  rw [hks]
  have lw : ws.length = ks.length := rz.length.symm.trans l2
  refine run_mkx (us := []) (ks := ks) (ws := ws) (all := prm pm ws) (vall := prm pm zs) (Q' := fun a v H3 => v = .non ∧ Q (.ref a) H3) T iC tI F1 hr I2 (by show 0 ≤ 1000; decide) (fun a s' kin => (hb _ ho).to s' [Value.ref a] ws kin rfl lw) (vals_prm rz pm) (fun a n0 => q2 a n0) (fun hp2 h2 g2 d2 t2 os2 v u H2 a _ _ _ _ _ _ _ J rv q => ?_)
  obtain ⟨rfl, q⟩ := q
  exact ⟨rv, ⟨.ref a, H2, J, rfl, q⟩⟩
/-- C(e, ..) that is to be raised -/
def tMkR (C : Addr) (sp : Sp) (t : TA) : L2.St → Hp → XK → Prop := fun σ H Q => t σ H fun vs H1 => vs.length ≤ 1000 ∧ ∀ a, H1 a = none → sp (.ref a :: vs) (upd H1 a (exo a C none))
  (fun v H2 => v = .non ∧ ∃ (d : Addr) (fs : List (Str × V)), H2 a = some (exo a C (some d)) ∧ H2 d = some (exd d fs) ∧ H1 d = none ∧ Q (.ref C) (some d) (upd (del H2 a) d (.xd fs))) E0
theorem pmk_x (h : XkC X.prog X.w X.K X.mg X.base k C b n os sp) (hr : Room (k + 1) X.A) (hg : Gl X x) (hm : X.mg x = some (.ref C)) (ha : PA X (e :: es) t) (hdb : (x == ("__debug__" : Str)) = false := by decide)
    (he : starEach (e :: es) X.env = (false, eval e X.env) :: starEach es X.env := by rfl) (hpl : (backTo pos (starEach es X.env)).any (·.1) = false := by rfl) : PMk X (.Call (.Name x p) (e :: es) [] pos) (tMkR C sp t) := by
  obtain ⟨T, fI, fd, ps, iC, tI, F1, hb, _⟩ := h
  intro pins s σ H Q I h
  refine wpAny_Call_Name_kw (ld_glob I hg hm ?_ hdb)
  refine PySem.W.callWith_K (h₀ := X.base) I.ok.mod.kin T.kC (thn (ha.run pos pins s σ H _ I h) fun us s1 ⟨vs, H1, I1, r1, l1, q1⟩ => ⟨I1.kIn, ?_⟩) he hpl
  refine run_mkx (us := us) (ks := []) (ws := []) (Q := MkP X pins σ Q) (Q' := fun a v H2 => v = .non ∧ ∃ (d : Addr) (fs : List (Str × V)), H2 a = some (exo a C (some d)) ∧ H2 d = some (exd d fs) ∧ H1 d = none ∧ Q (.ref C) (some d) (upd (del H2 a) d (.xd fs))) T iC tI F1 hr I1 (by rw [← r1.length]; exact l1) (fun a s' kin => ?_) r1 (fun a n0 => q1 a n0)
    (fun hp2 h2 g2 d2 t2 os2 v u H2 a hsz _ kk un hok eos bare J rv q => ?_)
  · have hl := F1.len _ _ _ _ (q1 s1.heap.objs.size (I1.hok.fresh (Nat.le_refl _)))
    have b0 := hb s' (Value.ref a :: us) kin (by rw [List.append_nil, List.length_cons, ← r1.length, ← hl]; rfl)
    rw [List.append_nil] at b0
    exact b0
  · obtain ⟨rfl, d, fs, ea, ed, hd1, q⟩ := q
    obtain ⟨hp, g, dr, tk, os0⟩ := s1
    exact ⟨rv, mk_end (raises_own T.exC T.tyC) I1 hsz kk un hok eos bare ea ed hd1 q⟩
end
end DN

set_option maxHeartbeats 4000000
/-! DNxd: classes without __init__; fields and classes of exceptions that are values. -/
namespace DNX
open PySem PySem.Spec PySem.W PySem.Calls PyProof.Rows
section
variable {prog : Program} {w : World} {A : Around} {E : Value → Shared → Prop} {s : Shared} {K : Frag} {x D : Addr} {ox : Obj} {od : Option Obj}
theorem find_class {C : Addr} {name : Str} {a g : Value} (hc : (clsIn K C).isSome = true) (ha : findIn K (.ref C) name = some (some a)) (hg : specialIn K a "__get__" = some (some g)) (ht : takesIn K a = some true) :
    findObj K C od name = some (.bind g a) := by
  obtain ⟨cd, hc⟩ := Option.isSome_iff_exists.mp hc
  unfold findObj; rw [hc, Option.bind_some, ha, Option.bind_some]; simp [hg, ht]
theorem class_val {Q : Option Value → Shared → Prop} (T : L2.ExcC K D) (X : K.In s.heap) (I : InstAt s.heap x ox D od) (h : Q (some (.ref D)) { s with toks := s.toks + 1 }) : wpAny (model prog w) A (getAttr? (.ref x) "__class__") Q E s := by
  have hf : findObj K D od "__class__" = some (.bind (.builtin "getset_descriptor.__get__") (.builtin "object.__class__")) := find_class (by obtain ⟨cd, hc, _⟩ := any_some T.hd; rw [hc]; rfl) T.ha T.hn T.ht
  obtain ⟨hp, g, d, t, os⟩ := s
  have a0 := I.type (M := model prog w)
  have a1 := looks_findIn (M := model prog w) X T.hg
  have a2 := looks_findIn (M := model prog w) X T.hk
  have a3 := looks_find (M := model prog w) X I hf
  have sb : Looks (model prog w) hp (isInstance (.ref x) (.type "BaseException")) true := a0.andThen (looks_subIn X T.hs)
  have b1 : (Value.builtin "BaseException.__getattribute__" == Value.builtin "object.__getattribute__") = false := by decide +kernel
  have b2 : (onTheHeap (Value.ref D) && Value.builtin "BaseException.__getattribute__" == Value.builtin "object.__getattribute__") = false := by rw [b1]; rfl
  unfold getAttr? getAttrBy? getAttrBy
  refine wpAny_bind (wpAny_mkText (wpAny_bind (wpAny_attempt (wpAny_holding (wpAny_bind (a0.at (wpAny_bind (a1.at ?_))))))))
  show wpAny _ _ (if (onTheHeap (Value.ref D) && Value.builtin "BaseException.__getattribute__" == Value.builtin "object.__getattribute__") = true then _ else _) _ _ _
  rw [b2, if_neg Bool.false_ne_true]
  unfold getAttrByItsOwn hookBefore
  refine wpAny_bind ?_
  rw [if_pos (show onTheHeap (Value.ref D) = true from rfl)]
  refine a2.at (wpAny_bind (wpAny_attempt (wpAny_holding ?_)))
  unfold callGetattribute
  rw [show (false && onTheHeap (Value.builtin "BaseException.__getattribute__")) = false from rfl, if_neg Bool.false_ne_true]
  unfold boundAndCalled
  rw [PySem.F.excAttr_ValueError.ga.bind (.ref x)]
  refine wpAny_bind (wpAny_pure ?_)
  show wpAny _ _ (call (.builtin "BaseException.__getattribute__") [.ref x, .str "__class__" t]) _ _ _
  refine wpAny_call (codeAny_call_builtin PySem.F.excAttr_ValueError.ga.plain PySem.F.entry_bexc_ga ?_)
  refine @check_slot (model prog w) _ _ ⟨hp, g, d, t + 1, os⟩ "BaseException.__getattribute__" "BaseException" "__getattribute__" (.ref x) [.str "__class__" t] [] _ (by decide +kernel) (by decide +kernel) sb
    (PySem.F.args_bexc_ga (.ref x) (.str "__class__" t)) ?_
  unfold Builtin.«object.__getattribute__»
  refine wpAny_bind (wpAny_of_eq (a := ((Value.ref x : Value), [Value.str "__class__" t])) (by first | rfl | (simp only [slotArgs]; rfl)) (wpAny_bind (wpAny_pure (wpAny_bind (a0.at (wpAny_bind (a3.at ?_)))))))
  show wpAny _ _ (holding [Value.builtin "object.__class__"] (call (.builtin "getset_descriptor.__get__") [.builtin "object.__class__", .ref x, .ref D]) >>= ret) _ _ _
  refine wpAny_bind (wpAny_holding (wpAny_call (class_get (s := ⟨hp, g, d, t + 1, os⟩) (ox := ox) (od := od) X I T.hm (wpAny_pure ?_))))
  show wpAny _ _ (handedOut (.ref D)) _ _ _
  rw [handedOut_of (v := .ref D) rfl]
  first | exact wpAny_pure (wpAny_pure h) | exact wpAny_pure h | exact wpAny_pure (wpAny_bind (wpAny_pure (wpAny_pure h)))
theorem kitx_val (T : L2.ExcC K D) : KitX K (.ref x) (.ref D) (fun h => InstAt h x ox D od) where
  ty := fun _ _ _ I => I.type
  it := fun _ _ X _ => by
    obtain ⟨cdD, hcD, _⟩ := any_some T.hd
    unfold clsIn at hcD
    split at hcD
    · rename_i ho
      intro A' Q' E' s' k q
      unfold isType loadHead
      exact wpAny_bind (wpAny_loadPart (k _ _ (X _ _ ho)) (wpAny_pure q))
    · cases hcD
  ne := fun h tp dd its n sl X htp => by
    obtain ⟨cdD, hcD, _⟩ := any_some T.hd
    refine Bool.eq_false_iff.mpr fun q => ?_
    have e : D = tp := Value.ref.inj (beq_iff_eq.mp q)
    subst e
    unfold clsIn at hcD
    split at hcD
    · rename_i ho
      have z := (X _ _ ho).symm.trans htp
      cases z
    · cases hcD
  ca := fun X I k => class_val T X I k
end
end DNX
namespace DN
open PySem PySem.Spec PyProof.Rows L2
section
variable {X : Cx} {pins : List (Addr × Obj)} {σ : L2.St} {H : Hp} {s : Shared} {C : Addr} {x : Str} {p pos : Pos} {e : Expr} {te : TE}
/-- a class over ValueError without __init__ -/
structure X0C (K : PySem.W.Frag) (C : Addr) : Prop where
  xc : XcC K C false
  ini : PySem.W.findIn K (.ref C) "__init__" = some (some (.builtin "ValueError.__init__"))
theorem run_mk0 {Q : Value → Shared → Prop} (T : X0C X.K C) (I : Inv X pins σ H s)
    (fin : ∀ h' t1 a, s.heap.objs.size ≤ a → (∀ z o, s.heap.get? z = some o → h'.get? z = some o) → h'.get? a = some (PySem.HandSPX.excO C t1) → Q (.ref a) { s with heap := h' }) : wpAny (model X.prog X.w) X.A (call (.ref C) []) Q X.xe s := by
  obtain ⟨nm, q, N, bs, bm, sn, sub, ab, col, dd, k0, k1, k2, k3, k5, hC, hbm⟩ := T.xc.cls
  obtain ⟨hp, g, dr, tk, os⟩ := s
  have kk : ∀ z o, hp.get? z = some o → ((hp.push (PySem.W.kdv_tup [])).push (PySem.HandSPX.excO C hp.objs.size)).get? z = some o := fun z o e => Heap.get?_push_of_some _ (Heap.get?_push_of_some _ e)
  have at1 : ((hp.push (PySem.W.kdv_tup [])).push (PySem.HandSPX.excO C hp.objs.size)).get? (hp.objs.size + 1) = some (PySem.HandSPX.excO C hp.objs.size) := by heap_get
  have Fb := F.excBase_ValueError
  refine wpAny_call (DNX.call_cls (rest := []) (kw := []) Fb (DNX.mroOk (b := false) hbm) (I.kIn _ _ hC) (PySem.W.looks_findIn I.kIn T.ini) (fun self => .of_pure (Fb.init.bind self)) (by decide) ?_)
  refine PySem.HandSPX.init_base Fb (fun Y => DNX.refsB_has (b := false) Y bm hbm) (kk _ _ (I.kIn _ _ hC)) at1 (by decide) fun h' t1 k hx => ⟨rfl, fin h' t1 (hp.objs.size + 1) (Nat.le_succ _) (fun z o e => k z o ?_ (kk z o e)) hx⟩
  exact Nat.ne_of_lt (Nat.lt_succ_of_lt (Heap.lt_size e))
def tMk0 (C : Addr) : TE := fun σ H Q => ∀ a, H a = none → Q (.ref a) (upd H a (exo a C none))
theorem p_mk0 (T : X0C X.K C) (hg : Gl X x) (hm : X.mg x = some (.ref C)) (hdb : (x == ("__debug__" : Str)) = false := by decide) : PE X (.Call (.Name x p) [] [] pos) (tMk0 C) := by
  refine ⟨fun pins s σ H Q I h => ?_⟩
  refine wpAny_Call_Name_kw (ld_glob I hg hm ?_ hdb)
  refine PySem.W.callWith_K0 (first := []) I.kIn T.xc.kC (run_mk0 T I fun h' t1 a ha k hx => ?_)
  obtain ⟨hp, g, dr, tk, os⟩ := s
  exact ⟨.ref a, _, I.laid (t' := tk) (a := a) (o := exo a C none) (h' := h') k ha (exo_ok hx), rfl, h a (I.hok.fresh ha)⟩
def tMkR0 (C : Addr) : L2.St → Hp → XK → Prop := fun _ H Q => Q (.ref C) none H
theorem pmk_0 (T : X0C X.K C) (hg : Gl X x) (hm : X.mg x = some (.ref C)) (hdb : (x == ("__debug__" : Str)) = false := by decide) : PMk X (.Call (.Name x p) [] [] pos) (tMkR0 C) := by
  intro pins s σ H Q I h
  refine wpAny_Call_Name_kw (ld_glob I hg hm ?_ hdb)
  refine PySem.W.callWith_K0 (first := []) I.kIn T.xc.kC (run_mk0 T I fun h' t1 a ha k hx => ?_)
  exact ⟨a, _, _, s, H, .ref C, none, rfl, I, k, (by cases z : s.heap.get? a with | none => rfl | some o => exact absurd (Heap.lt_size z) (Nat.not_lt.mpr ha)), hx, ⟨rfl, rfl⟩, rfl, rfl, I.hok.fresh ha, rfl, I.bare, raises_own T.xc.exC T.xc.tyC, h⟩
/-- e.f, e an exception that is a value -/
def tXfv (K : PySem.W.Frag) (f : Str) (te : TE) : TE := fun σ H Q => te σ H fun x H1 => ∃ (a C dx : Addr) (fs : List (Str × V)) (v : V), x = .ref a ∧ H1 a = some (exo a C (some dx)) ∧ H1 dx = some (exd dx fs) ∧ XfC K C ∧ PySem.W.findIn K (.ref C) f = some none ∧ fs.lookup f = some v ∧ Q v H1
theorem p_xfv {n : Str} (he : PE X e te) (hb : attributeBase e n X.env (eval e X.env) = eval e X.env) : PE X (.Attribute e n pos) (tXfv X.K n te) := by
  refine ⟨fun pins s σ H Q I h => ?_⟩
  refine attr_of hb (thn (he.run pins s σ H _ I h) fun u s1 hh => ?_)
  obtain ⟨x, H1, I1, rx, a, C, dx, fs, v, ex, ea, ed, T, hno, l, q⟩ := hh
  subst ex
  obtain rfl : u = Value.ref a := rx
  obtain ⟨t1, ho⟩ := exo_at I1.hok ea
  obtain ⟨mA, hns, hr⟩ := exd_at I1.hok ed
  obtain ⟨od, hod, hl⟩ := lookIn_ns hns
  obtain ⟨u, hu, ru⟩ := RelO.some_of (v := v) (o := mA n) (by rw [← l]; exact hr n)
  have J : PySem.W.InstAt s1.heap a { cls := .ref C, dict := some dx, data := .fields #[.ref t1, .none, .none, .none, .bool false, .none] } C (some od) := ⟨ho, rfl, rfl, hod⟩
  exact HandSPX.exc_get I1.kIn J T.ga T.gg T.exC (PySem.W.findObj_own T.hdC hno rfl (by rw [hl, hu])) (handed_of ru) ⟨v, H1, I1.tok _, ru, q⟩
/-- isinstance(e, c), isinstance(e, (c, ..)) of such -/
def rIsV (K : PySem.W.Frag) : List V → Hp → VK → Prop := fun xs H Q => ∃ (a C : Addr) (d : Option Addr) (b : Bool), H a = some (exo a C d) ∧ (d = none ∨ ∃ dx fs, d = some dx ∧ H dx = some (exd dx fs)) ∧ ExcC K C ∧ Q (.bl b) H ∧
  ((∃ (c : V) (u : Value), xs = [.ref a, c] ∧ ClsV c u ∧ PySem.W.kitOne K (.ref C) u = some b) ∨
    ∃ (tp : Addr) (cs : List V) (us : List Value), xs = [.ref a, .ref tp] ∧ H tp = some (.tup cs) ∧ Paired ClsV cs us ∧ PySem.W.kitAny K (.ref C) us = some b)
theorem p_isV : CallR X (.builtin "isinstance") (rIsV X.K) := by
  intro pins s σ H xs us Q I r h
  obtain ⟨a, C, d, b, ea, hd, T, q, h⟩ := h
  obtain ⟨t1, ho⟩ := exo_at I.hok ea
  obtain ⟨od, J⟩ : ∃ od, PySem.W.InstAt s.heap a { cls := .ref C, dict := d, data := .fields #[.ref t1, .none, .none, .none, .bool false, .none] } C od := by
    rcases hd with rfl | ⟨dx, fs, rfl, ed⟩
    · exact ⟨none, ho, rfl, rfl, trivial⟩
    · obtain ⟨mA, hns, hr⟩ := exd_at I.hok ed
      obtain ⟨od, hod, hl⟩ := lookIn_ns hns
      exact ⟨some od, ho, rfl, rfl, hod⟩
  rcases h with ⟨c, u, rfl, k, e⟩ | ⟨tp, cs, ws, rfl, hT, k, e⟩
  · obtain ⟨u1, u2, rfl, r1, r2⟩ := vals2 r
    have e2 := k.eq r2
    subst e2
    cases (show u1 = Value.ref a from r1)
    exact PySem.W.kia_one (DNX.kitx_val T) I.kIn J e (fun z => nomatch z) fun tk => ⟨.bl b, H, I.tok tk, rfl, q⟩
  · obtain ⟨u1, u2, rfl, r1, r2⟩ := vals2 r
    cases (show u2 = Value.ref tp from r2)
    cases (show u1 = Value.ref a from r1)
    obtain ⟨_, its, rv, o, h1, h2, n, h3⟩ := (show ObjOk X.prog X.w H s.heap tp (.tup cs) from I.hok tp _ hT)
    have e3 := ClsV.all k rv
    subst e3
    obtain ⟨oc, od', dt, sl⟩ := o
    simp only at h2 h3
    subst h2 h3
    exact PySem.W.kia_tup (DNX.kitx_val T) I.kIn J h1 e (fun z => nomatch z) fun tk => ⟨.bl b, H, I.tok tk, rfl, q⟩
end
end DN

set_option maxHeartbeats 4000000
/-! DNxe: what raises, over data. -/
namespace DN
open PySem PySem.Spec PyProof.Rows L2
open DL (Sub sub_upd sub_upd2)
/-- what is wanted of an exception: its class's number, its fields -/
abbrev GX := Nat → List D → GS → Ob → Prop
abbrev KX := Nat → List D → Ob → Prop
inductive XdF (c : Cl) (F : Hp) (t : Nat) : Option Addr → List V → Prop
  | non : c.fl t = [] → XdF c F t none []
  | dict {dd : Addr} {vs : List V} : F dd = some (.xd ((c.fl t).zip vs)) → (c.fl t).length = vs.length → XdF c F t (some dd) vs
def SXr (c : Cl) (F0 : Hp) (O0 : Ob) (H0 : Hp) (S : List (V × D)) (W : WX) (X : GX) : Prop := ∀ t fs d vs G O F σ H, X t fs G O → FM ⟨c, F0, O0, H0⟩ G O S F σ H → XdF c F t d vs → RpL c F vs fs → W (.ref (c.ca t)) d σ H
def SSX (c : Cl) (ts : WX → TS) (ms : GX → MS) : Prop := ∀ W X F0 O0 H0 G O S F σ H D B, SXr c F0 O0 H0 S W X → FM ⟨c, F0, O0, H0⟩ G O S F σ H → SD c F0 O0 H0 S D B → ms X B G O → ts W D σ H
def SEX (c : Cl) (te : WX → TE) (me : GX → ME) : Prop := ∀ W X F0 O0 H0 G O S F σ H Q K, SXr c F0 O0 H0 S W X → FM ⟨c, F0, O0, H0⟩ G O S F σ H → (∀ v d O' F' H', K d O' → FM ⟨c, F0, O0, H0⟩ G O' S F' σ H' → Rp c F' v d → Q v H') → me X G O K → te W σ H Q
section
variable {c : Cl} {F0 : Hp} {O0 : Ob} {H0 : Hp} {S : List (V × D)} {W : WX} {X : GX}
theorem SXr.weak {S' : List (V × D)} (h : SXr c F0 O0 H0 S W X) (m : ∀ p ∈ S, p ∈ S') : SXr c F0 O0 H0 S' W X := fun t fs d vs G O F σ H x f => h t fs d vs G O F σ H x (f.weakS m)
theorem RpL.reverse {F : Hp} : ∀ {vs : List V} {ds : List D}, RpL c F vs ds → RpL c F vs.reverse ds.reverse
  | _, _, .nil => .nil
  | _, _, .cons h r => by rw [List.reverse_cons, List.reverse_cons]; exact r.reverse.append (.cons h .nil)
theorem RpL.prm {F : Hp} {vs : List V} {ds : List D} (r : RpL c F vs ds) : ∀ p : List Nat, RpL c F (prm p vs) (DN.prm p ds)
  | [] => .nil
  | i :: p => by
    unfold DN.prm
    cases e : ds[i]? with
    | some d =>
      obtain ⟨v, a, q⟩ := r.get e
      rw [List.filterMap_cons_some a, List.filterMap_cons_some e]; exact .cons q (r.prm p)
    | none =>
      have e2 : vs[i]? = none := by rw [List.getElem?_eq_none_iff] at e ⊢; rw [r.length]; exact e
      rw [List.filterMap_cons_none e2, List.filterMap_cons_none e]; exact r.prm p
/-! ### statements -/
variable {ts t1 t2 : WX → TS} {ms m1 m2 : GX → MS} {te : WX → TE} {me : GX → ME} {t : TS} {m : MS} {tt : TT} {mt : MT} {g : TG} {mg : MG} {tas : TA} {es : List ME}
theorem ssx_of (h : SS c t m) : SSX c (fun _ => t) (fun _ => m) := fun W X F0 O0 H0 G O S F σ H D B _ f k q => h F0 O0 H0 G O S F σ H D B f k q
theorem ssx_seq (h1 : SSX c t1 m1) (h2 : SSX c t2 m2) : SSX c (fun W => tSeq (t1 W) (t2 W)) (fun X => mSeq (m1 X) (m2 X)) := by
  intro W X F0 O0 H0 G O S F σ H D B x f k h
  exact h1 W X F0 O0 H0 G O S F σ H { D with nx := t2 W D } { B with nx := m2 X B } x f ⟨fun G' O' F' σ' H' q f' => h2 W X F0 O0 H0 G' O' S F' σ' H' D B x f' k q, k.bk, k.ct, k.rt⟩ h
theorem ssx_if (ht : ST c tt mt) (ha : SSX c t1 m1) (hb : SSX c t2 m2) : SSX c (fun W => tIfS tt (t1 W) (t2 W)) (fun X => mIfS mt (m1 X) (m2 X)) := by
  intro W X F0 O0 H0 G O S F σ H D B x f k h
  refine ht F0 O0 H0 G O S F σ H _ _ f (fun b O1 F1 H1 h1 f1 => ?_) h
  have h2 := br_e h1
  cases b with
  | true => rw [if_pos rfl] at h2 ⊢; exact ha W X F0 O0 H0 G O1 S F1 σ H1 D B x f1 k h2
  | false => rw [if_neg Bool.false_ne_true] at h2 ⊢; exact hb W X F0 O0 H0 G O1 S F1 σ H1 D B x f1 k h2
theorem ssx_drop (h : SEX c te me) : SSX c (fun W => tDrop (te W)) (fun X => mDrop (me X)) := by
  intro W X F0 O0 H0 G O S F σ H D B x f k q
  exact h W X F0 O0 H0 G O S F σ H _ _ x f (fun v d O1 F1 H1 h1 f1 r1 => k.nx G O1 F1 σ H1 h1 f1) q
theorem ssx_ret (h : SEX c te me) : SSX c (fun W => tRet (te W)) (fun X => mRet (me X)) := by
  intro W X F0 O0 H0 G O S F σ H D B x f k q
  exact h W X F0 O0 H0 G O S F σ H _ _ x f (fun v d O1 F1 H1 h1 f1 r1 => k.rt v d G O1 S F1 σ H1 h1 f1 r1) q
theorem ssx_asg (h : SEX c te me) (hg : SG c g mg) : SSX c (fun W => tAsg (te W) g) (fun X => mAsg (me X) mg) := by
  intro W X F0 O0 H0 G O S F σ H D B x f k q
  exact h W X F0 O0 H0 G O S F σ H _ _ x f (fun v d O1 F1 H1 h1 f1 r1 => hg F0 O0 H0 G O1 S F1 σ H1 _ _ v d f1 r1 (fun G' O' F' σ' H' q f' => k.nx G' O' F' σ' H' q f') h1) q
theorem ssx_for {wi : TI} {mi : MI} (hi : SI c wi mi) (hg : SG c g mg) (hb : SSX c ts ms) : SSX c (fun W => tFor wi g (ts W)) (fun X => mFor mi mg (ms X)) := by
  intro W X F0 O0 H0 G O S F σ H D B x f k h
  refine hi F0 O0 H0 G O S F σ H _ _ f (fun J xs s Sx O1 F1 H1 h1 dw f1 => ?_) h
  have xw : SXr c F0 O0 H0 (Sx ++ S) W X := x.weak fun p hp => List.mem_append_right _ hp
  refine ⟨fun i n σ H => n = xs.length - i ∧ i ≤ xs.length ∧ ∃ G O F, FM ⟨c, F0, O0, H0⟩ G O (Sx ++ S) F σ H ∧ mForL s mg (ms X) B (xs.drop i) G O, ⟨xs.length, by simp, Nat.zero_le _, G, O1, F1, f1, h1⟩, ?_⟩
  rintro i n σ' H' ⟨rfl, hil, G', O', F', f', h'⟩
  by_cases hlt : i < xs.length
  · rw [List.drop_eq_getElem_cons hlt, mForL] at h'
    obtain ⟨ok, h2⟩ := chk_of h'
    refine .inr ⟨dw.goes i F' O' H' hlt (fun p hp => f'.stk p (List.mem_append_left _ hp)) f'.mm ok, fun σ2 H2 => i + 1 ≤ xs.length ∧ ∃ G O F, FM ⟨c, F0, O0, H0⟩ G O (Sx ++ S) F σ2 H2 ∧ mForL s mg (ms X) B (xs.drop (i + 1)) G O, fun σ2 H2 q => ⟨xs.length - (i + 1), by omega, rfl, q⟩, fun y H2 yy => ?_⟩
    obtain ⟨F2, f2, r2⟩ := f'.yield dw (List.getElem?_eq_getElem hlt) ok yy
    refine hg F0 O0 H0 G' O' (Sx ++ S) F2 σ' H2 _ _ y _ f2 r2 (fun G3 O3 F3 σ3 H3 q f3 => ?_) h2
    exact hb W X F0 O0 H0 G3 O3 (Sx ++ S) F3 σ3 H3 _ { B with nx := mForL s mg (ms X) B (xs.drop (i + 1)), ct := mForL s mg (ms X) B (xs.drop (i + 1)), bk := B.nx } xw f3 ⟨fun G4 O4 F4 σ4 H4 q f4 => ⟨hlt, G4, O4, F4, f4, q⟩, fun G4 O4 F4 σ4 H4 q f4 => k.nx G4 O4 F4 σ4 H4 q (f4.weakS fun p hp => List.mem_append_right _ hp), fun G4 O4 F4 σ4 H4 q f4 => ⟨hlt, G4, O4, F4, f4, q⟩, k.rt⟩ q
  · have e : i = xs.length := by omega
    subst e
    rw [List.drop_length, mForL] at h'
    obtain ⟨ok, h2⟩ := chk_of h'
    exact .inl ⟨dw.stops F' O' H' (fun p hp => f'.stk p (List.mem_append_left _ hp)) f'.mm ok, k.nx G' O' F' σ' H' h2 (f'.weakS fun p hp => List.mem_append_right _ hp)⟩
theorem ssx_while (ht : ST c tt mt) (hb : SSX c ts ms) : SSX c (fun W => tWhile tt (ts W)) (fun X => mWhile mt (ms X)) := by
  intro W X F0 O0 H0 G O S F σ H D B x f k h
  obtain ⟨n, h⟩ := h
  refine ⟨fun n σ H => ∃ G O F, FM ⟨c, F0, O0, H0⟩ G O S F σ H ∧ mWhN mt (ms X) B n G O, ⟨n, G, O, F, f, h⟩, ?_⟩
  rintro n σ' H' ⟨G', O', F', f', h'⟩
  cases n with
  | zero => exact h'.elim
  | succ n =>
    rw [mWhN] at h'
    refine ht F0 O0 H0 G' O' S F' σ' H' _ _ f' (fun b O1 F1 H1 h1 f1 => ?_) h'
    have h2 := br_e h1
    cases b with
    | true =>
      rw [if_pos rfl] at h2 ⊢
      refine ⟨fun σ2 H2 => ∃ G O F, FM ⟨c, F0, O0, H0⟩ G O S F σ2 H2 ∧ mWhN mt (ms X) B n G O, fun σ2 H2 q => ⟨n, Nat.lt_succ_self _, q⟩, ?_⟩
      exact hb W X F0 O0 H0 G' O1 S F1 σ' H1 _ { B with nx := mWhN mt (ms X) B n, ct := mWhN mt (ms X) B n, bk := B.nx } x f1 ⟨fun G4 O4 F4 σ4 H4 q f4 => ⟨G4, O4, F4, f4, q⟩, fun G4 O4 F4 σ4 H4 q f4 => k.nx G4 O4 F4 σ4 H4 q f4, fun G4 O4 F4 σ4 H4 q f4 => ⟨G4, O4, F4, f4, q⟩, k.rt⟩ h2
    | false => rw [if_neg Bool.false_ne_true] at h2 ⊢; exact k.nx G' O1 F1 σ' H1 h2 f1
/-! ### an exception's __init__ -/
def spXi (c : Cl) (t : Nat) : Sp := fun vs H Q _ => ∃ a ws, vs = .ref a :: ws ∧ ws.length = (c.fl t).length ∧ H a = some (exo a (c.ca t) none) ∧ ∀ dx, H dx = none → dx ≠ a → Q .non (upd (upd H dx (exd dx ((c.fl t).zip ws.reverse))) a (exo a (c.ca t) (some dx)))
theorem len_xi {t n : Nat} {vs : List V} {H : Hp} {Q : VK} {Ex : XK} (hl : (c.fl t).length = n) (h : spXi c t vs H Q Ex) : vs.length = n + 1 := by
  obtain ⟨a, ws, rfl, e, _⟩ := h
  rw [List.length_cons, e, hl]
theorem upd_x {H : Hp} {a dx : Addr} {e e' o : HO} (h : dx ≠ a) : upd (upd (upd H dx e) a o) dx e' = upd (upd H dx e') a o := by
  funext z
  by_cases h1 : z = dx
  · subst h1; rw [upd_same, upd_ne h, upd_same]
  · rw [upd_ne h1]
    by_cases h2 : z = a
    · subst h2; rw [upd_same, upd_same]
    · rw [upd_ne h2, upd_ne h1, upd_ne h2, upd_ne h1]
theorem upd_a {H : Hp} {a dx : Addr} {e o o' : HO} (h : dx ≠ a) : upd (upd (upd H a o) dx e) a o' = upd (upd H dx e) a o' := by
  funext z
  by_cases h1 : z = a
  · subst h1; rw [upd_same, upd_same]
  · rw [upd_ne h1, upd_ne h1]
    by_cases h2 : z = dx
    · subst h2; rw [upd_same, upd_same]
    · rw [upd_ne h2, upd_ne h1, upd_ne h2]
/-! ### raise -/
def mRaise (X : GX) (t : Nat) (es : List ME) : MS := fun _ G O => mL es G O fun ds O1 => X t ds.reverse G O1
def tRaise (W : WX) (mk : L2.St → Hp → XK → Prop) : TS := fun _ σ H => mk σ H fun cls d H' => W cls d σ H'
theorem ssx_raise {t : Nat} (hl : (c.fl t).length = es.length) (hn : es.length ≤ 1000) (ha : SA c tas es) : SSX c (fun W => tRaise W (tMkR (c.ca t) (spXi c t) tas)) (fun X => mRaise X t es) := by
  intro W X F0 O0 H0 G O S F σ H D B x f k h
  refine ha F0 O0 H0 G O S F σ H _ _ f (fun vs ds O1 F1 H1 h1 hv f1 r1 => ⟨by rw [hv]; exact hn, fun a n0 => ⟨a, vs, rfl, by rw [hv, hl], upd_same, fun dx d0 da => ⟨rfl, dx, _, upd_same, by rw [upd_ne da, upd_same], ?_, ?_⟩⟩⟩) h
  · rw [upd_ne da] at d0; exact d0
  · have d1 : H1 dx = none := by rw [upd_ne da] at d0; exact d0
    have e : upd (del (upd (upd (upd H1 a (exo a (c.ca t) none)) dx (exd dx ((c.fl t).zip vs.reverse))) a (exo a (c.ca t) (some dx))) a) dx (.xd ((c.fl t).zip vs.reverse)) = upd H1 dx (.xd ((c.fl t).zip vs.reverse)) := by
      funext z
      by_cases z1 : z = dx
      · subst z1; rw [upd_same, upd_same]
      · rw [upd_ne z1, upd_ne z1]
        by_cases z2 : z = a
        · subst z2; rw [del_same, n0]
        · rw [del_ne z2, upd_ne z2, upd_ne z1, upd_ne z2]
    rw [e]
    have f2 := f1.alloc (o := .xd ((c.fl t).zip vs.reverse)) d1
    exact x t _ (some dx) _ G O1 _ σ _ h1 f2 (.dict upd_same (by rw [hl, List.length_reverse, hv])) ((r1.mono (sub_upd (f1.sub.none d1))).reverse)
theorem ssx_raise0 {t : Nat} (hl : c.fl t = []) : SSX c (fun W => tRaise W (tMkR0 (c.ca t))) (fun X => mRaise X t []) := by
  intro W X F0 O0 H0 G O S F σ H D B x f k h
  exact x t [] none [] G O F σ H h f (.non hl) .nil
/-! ### try -/
def mMany (X : GX) (B : MEnds) : List ((Nat → Option Bool) × MS) → GX
  | [] => X
  | (f, m) :: r => fun t fs G O => match f t with
    | some true => m B G O
    | some false => mMany X B r t fs G O
    | none => False
def mTryX (X : GX) (mb : GX → MS) (hs : List ((Nat → Option Bool) × MS)) : MS := fun B G O => mb (mMany X B hs) B G O
def mTry (mb : GX → MS) (hs : List ((Nat → Option Bool) × MS)) : MS := mTryX (fun _ _ _ _ => False) mb hs
abbrev WF : WX := fun _ _ _ _ => False
def tTryX (W : WX) (K : PySem.W.Frag) (tb : WX → TS) (l : List (Value × (Addr → Value → Option Addr → TS))) : TS := fun D σ H => tb (wMany K W D l) D σ H
inductive SH (c : Cl) : List (Value × (Addr → Value → Option Addr → TS)) → List ((Nat → Option Bool) × MS) → Prop
  | nil : SH c [] []
  | cons {v : Value} {t : TS} {m : MS} {f : Nat → Option Bool} {l : List (Value × (Addr → Value → Option Addr → TS))} {r : List ((Nat → Option Bool) × MS)} : (∀ t b, f t = some b → PySem.W.exmOne c.K (.ref (c.ca t)) v = some b) → SS c t m → SH c l r → SH c ((v, fun _ _ _ => t) :: l) ((f, m) :: r)
theorem sh_of {F0 : Hp} {O0 : Ob} {H0 : Hp} {S : List (V × D)} {D : Ends} {B : MEnds} (x : SXr c F0 O0 H0 S W X) (k : SD c F0 O0 H0 S D B) {l : List (Value × (Addr → Value → Option Addr → TS))} {hs : List ((Nat → Option Bool) × MS)} (h : SH c l hs) : SXr c F0 O0 H0 S (wMany c.K W D l) (mMany X B hs) := by
  induction h with
  | nil => exact x
  | cons hx hm _ ih =>
    intro t fs d vs G O F σ H q f xd r
    unfold mMany at q
    split at q
    · rename_i e
      exact ⟨true, hx _ _ e, fun _ a _ => hm F0 O0 H0 G O S F σ H D B f k q, fun z => nomatch z⟩
    · rename_i e
      exact ⟨false, hx _ _ e, (fun z => nomatch z), fun _ => ih t fs d vs G O F σ H q f xd r⟩
    · exact q.elim
theorem ssx_try {l : List (Value × (Addr → Value → Option Addr → TS))} {hs : List ((Nat → Option Bool) × MS)} (hb : SSX c ts ms) (h : SH c l hs) : SSX c (fun W => tTryX W c.K ts l) (fun X => mTryX X ms hs) := by
  intro W X F0 O0 H0 G O S F σ H D B x f k q
  exact hb _ _ F0 O0 H0 G O S F σ H D B (sh_of x k h) f k q
theorem ss_try {l : List (Value × (Addr → Value → Option Addr → TS))} {hs : List ((Nat → Option Bool) × MS)} (hb : SSX c ts ms) (h : SH c l hs) : SS c (tTryX WF c.K ts l) (mTry ms hs) := by
  intro F0 O0 H0 G O S F σ H D B f k q
  exact ssx_try hb h WF (fun _ _ _ _ => False) F0 O0 H0 G O S F σ H D B (fun _ _ _ _ _ _ _ _ _ z => z.elim) f k q
/-! ### calls of what raises -/
abbrev WXd := List D → Ob → KE → KX → Prop
def spMX (c : Cl) (w : WXd) : Sp := fun vs H Q Ex => ∃ F O ds Kc Kx, Mm c F O H ∧ RpL c F vs ds ∧ w ds O Kc Kx ∧ (∀ v d F' O' H', Kc d O' → Mm c F' O' H' → Go F O H F' O' H' → Rp c F' v d → Q v H') ∧
  ∀ t fs d ws F' O' H', Kx t fs O' → Mm c F' O' H' → Go F O H F' O' H' → XdF c F' t d ws → RpL c F' ws fs → Ex (.ref (c.ca t)) d H'
def mCallX (w : WXd) (X : GX) (es : List ME) : ME := fun G O K => mL es G O fun ds O1 => w ds O1 K fun t fs O2 => X t fs G O2
theorem sex_call {w : WXd} (ha : SA c tas es) : SEX c (fun W => tCallS (spMX c w) (WE W) tas) (fun X => mCallX w X es) := by
  intro W X F0 O0 H0 G O S F σ H Q K x f k h
  refine ha F0 O0 H0 G O S F σ H _ _ f (fun vs ds O1 F1 H1 h1 hn f1 r1 => ?_) h
  exact ⟨F1, O1, ds, K, _, f1.mm, r1, h1, fun v d F' O' H' hk m g rv => k v d O' F' H' hk (f1.step m g) rv, fun t fs d ws F' O' H' hk m g xd rw => x t fs d ws G O' F' σ H' hk (f1.step m g) xd rw⟩
def wOfX (n l : Nat) (m : GX → MS) : WXd := fun ds O K X => if ds.length = n then m (fun t fs _ O' => X t fs O') { nx := fun _ O' => K .non O', rt := K } (ds.map some ++ List.replicate (l - n) none) O else False
theorem start_fm {n l : Nat} {N : List Str} {vs : List V} {ds : List D} {F H : Hp} {O : Ob} (mm : Mm c F O H) (r : RpL c F vs ds) (hN : N.length = l) (hn : ds.length = n) : FM ⟨c, F, O, H⟩ (ds.map some ++ List.replicate (l - n) none) O [] F (L2.start N vs) H := by
  have hl : vs.length = ds.length := r.length
  refine ⟨mm, .rfl, ?_, fun i d q => ?_, fun _ h => nomatch h⟩
  · unfold L2.start; simp [hl, hN, hn]
  · have hi : i < ds.length := by
      rcases Nat.lt_or_ge i ds.length with h | h
      · exact h
      · rw [List.getElem?_append_right (by simpa using h), List.getElem?_replicate] at q
        split at q <;> cases q
    rw [List.getElem?_append_left (by simpa using hi), List.getElem?_map] at q
    cases e : ds[i]? with
    | none => rw [e] at q; cases q
    | some d' =>
      rw [e] at q; cases q
      obtain ⟨v, h1, h2⟩ := r.get e
      refine ⟨v, ?_, h2⟩
      unfold L2.start
      rw [List.getElem?_append_left (by simpa [hl] using hi), List.getElem?_map, h1]; rfl
theorem def_ofX {n l : Nat} {N : List Str} {vs : List V} {H : Hp} {Q : VK} {Ex : XK} (hs : SSX c ts ms) (hN : N.length = l) (h : spMX c (wOfX n l ms) vs H Q Ex) : ts (fun cls d _ H' => Ex cls d H') { nx := fun _ H' => Q .non H', rt := Q } (L2.start N vs) H := by
  obtain ⟨F, O, ds, Kc, Kx, mm, r, hw, k, kx⟩ := h
  unfold wOfX at hw
  by_cases hn : ds.length = n
  · rw [if_pos hn] at hw
    exact hs _ _ F O H _ O [] F _ H _ { nx := fun _ O' => Kc .non O', rt := Kc } (fun t fs d ws G' O' F' σ' H' q f' xd rw => kx t fs d ws F' O' H' q f'.mm f'.go xd rw) (start_fm mm r hN hn)
      ⟨fun G' O' F' σ' H' q f' => k _ _ _ _ _ q f'.mm f'.go (.raw _), (fun _ _ _ _ _ q _ => q.elim), (fun _ _ _ _ _ q _ => q.elim), fun v d G' O' S' F' σ' H' q f' r' => k _ _ _ _ _ q f'.mm f'.go r'⟩ hw
  · rw [if_neg hn] at hw; exact hw.elim
theorem len_ofX {n l : Nat} {vs : List V} {H : Hp} {Q : VK} {Ex : XK} (h : spMX c (wOfX n l ms) vs H Q Ex) : vs.length = n := by
  obtain ⟨F, O, ds, Kc, Kx, mm, r, hw, k⟩ := h
  unfold wOfX at hw
  by_cases hn : ds.length = n
  · rw [r.length]; exact hn
  · rw [if_neg hn] at hw; exact hw.elim
theorem spX_out {w w' : WXd} {vs : List V} {H : Hp} {Q : VK} {Ex : XK} (i : ∀ ds O K X, w ds O K X → w' ds O K X) (h : spMX c w vs H Q Ex) : spMX c w' vs H Q Ex := by
  obtain ⟨F, O, ds, Kc, Kx, mm, r, hw, k⟩ := h
  exact ⟨F, O, ds, Kc, Kx, mm, r, i _ _ _ _ hw, k⟩
/-! ### exceptions as values -/
def mExcV (t : Nat) (es : List ME) : ME := fun G O K => mL es G O fun ds O1 => K (.exc t ds.reverse) O1
def mExcK (t : Nat) (p : List Nat) (es : List ME) : ME := fun G O K => mL es G O fun ds O1 => K (.exc t (prm p ds).reverse) O1
def mExc0 (t : Nat) : ME := fun _ O K => K (.exc t []) O
theorem FM.newX {E : Em} {G : GS} {O : Ob} {S : List (V × D)} {F H : Hp} {σ : L2.St} {t : Nat} {ws : List V} {ds : List D} {a dx : Addr} (f : FM E G O S F σ H) (ha : H a = none) (hd : H dx = none) (hne : dx ≠ a) (hl : (E.c.fl t).length = ws.length) (r : RpL E.c F ws ds) :
    FM E G O S (upd (upd F dx (exd dx ((E.c.fl t).zip ws))) a (exo a (E.c.ca t) (some dx))) σ (upd (upd H dx (exd dx ((E.c.fl t).zip ws))) a (exo a (E.c.ca t) (some dx))) ∧
      Rp E.c (upd (upd F dx (exd dx ((E.c.fl t).zip ws))) a (exo a (E.c.ca t) (some dx))) (.ref a) (.exc t ds) := by
  have f1 := f.alloc (o := exd dx ((E.c.fl t).zip ws)) hd
  have ha1 : upd H dx (exd dx ((E.c.fl t).zip ws)) a = none := by rw [upd_ne hne.symm]; exact ha
  have f2 := f1.alloc (o := exo a (E.c.ca t) (some dx)) ha1
  refine ⟨f2, .exc upd_same (by rw [upd_ne hne, upd_same]) hl ?_⟩
  exact (r.mono (sub_upd (f.sub.none hd))).mono (sub_upd (f1.sub.none ha1))
theorem se_mkV {t : Nat} (hl : (c.fl t).length = es.length) (ha : SA c tas es) : SE c (tMkV (c.ca t) es.length 0 (spXi c t) (fun vs _ => vs) tas tNil) (mExcV t es) := by
  intro F0 O0 H0 G O S F σ H Q K f k h
  refine ha F0 O0 H0 G O S F σ H _ _ f (fun vs ds O1 F1 H1 h1 hv f1 r1 => ⟨hv, rfl, fun a n0 => ⟨a, vs, rfl, by rw [hv, hl], upd_same, fun dx d0 da => ⟨rfl, ?_⟩⟩⟩) h
  rw [upd_a da]
  have d1 : H1 dx = none := by rw [upd_ne da] at d0; exact d0
  obtain ⟨f2, r2⟩ := f1.newX (t := t) n0 d1 da (by rw [List.length_reverse, hv]; exact hl) r1.reverse
  exact k _ _ _ _ _ h1 f2 r2
theorem se_mkK {t : Nat} {p : List Nat} (hl : (c.fl t).length = es.length) (hp : p.length = es.length) (hb : p.all (fun i => decide (i < es.length)) = true) (ha : SA c tas es) : SE c (tMkV (c.ca t) 0 es.length (spXi c t) (fun vs zs => vs ++ prm p zs) tNil tas) (mExcK t p es) := by
  intro F0 O0 H0 G O S F σ H Q K f k h
  have key : ∀ (vs : List V), vs.length = es.length → ∀ q : List Nat, q.all (fun i => decide (i < es.length)) = true → (prm q vs).length = q.length := by
    intro vs hv q
    induction q with
    | nil => intro _; rfl
    | cons i q ih =>
      intro hq
      rw [List.all_cons, Bool.and_eq_true] at hq
      have hi : i < vs.length := by rw [hv]; exact of_decide_eq_true hq.1
      unfold prm
      rw [List.filterMap_cons_some (List.getElem?_eq_getElem hi), List.length_cons, List.length_cons]
      exact congrArg Nat.succ (ih hq.2)
  refine ha F0 O0 H0 G O S F σ H _ _ f (fun vs ds O1 F1 H1 h1 hv f1 r1 => ⟨rfl, hv, fun a n0 => ⟨a, prm p vs, rfl, by rw [key vs hv p hb, hp, hl], upd_same, fun dx d0 da => ⟨rfl, ?_⟩⟩⟩) h
  rw [upd_a da]
  have d1 : H1 dx = none := by rw [upd_ne da] at d0; exact d0
  obtain ⟨f2, r2⟩ := f1.newX (t := t) n0 d1 da (by rw [List.length_reverse, key vs hv p hb, hp]; exact hl) (r1.prm p).reverse
  exact k _ _ _ _ _ h1 f2 r2
theorem se_mk0 {t : Nat} (hl : c.fl t = []) : SE c (tMk0 (c.ca t)) (mExc0 t) := by
  intro F0 O0 H0 G O S F σ H Q K f k h a n0
  exact k _ _ _ _ _ h (f.alloc (o := exo a (c.ca t) none) n0) (.exc0 upd_same hl)
def mXfld (tb : List (Nat × Nat)) (e : ME) : ME := fun G O K => e G O fun d O1 => match d with
  | .exc t ds => (match tb.lookup t with
    | some i => (match ds[i]? with
      | some x => K x O1
      | none => False)
    | none => False)
  | _ => False
structure XfldOk (c : Cl) (f : Str) (t i : Nat) : Prop where
  xf : XfC c.K (c.ca t)
  no : PySem.W.findIn c.K (.ref (c.ca t)) f = some none
  at_ : ∀ xs : List V, (c.fl t).length = xs.length → ((c.fl t).zip xs).lookup f = xs[i]?
theorem lk_mem {α : Type} : ∀ {tb : List (Nat × α)} {t : Nat} {i : α}, tb.lookup t = some i → (t, i) ∈ tb
  | [], _, _, e => nomatch e
  | (q1, q2) :: tb, t, i, e => by
    rw [List.lookup_cons] at e
    split at e
    · rename_i z; cases e; have z' := beq_iff_eq.mp z; subst z'; exact List.mem_cons_self
    · exact List.mem_cons_of_mem _ (lk_mem e)
theorem se_xfld {f : Str} {tb : List (Nat × Nat)} {te : TE} {me : ME} (h : ∀ p ∈ tb, XfldOk c f p.1 p.2) (ha : SE c te me) : SE c (tXfv c.K f te) (mXfld tb me) := by
  intro F0 O0 H0 G O S F σ H Q K fm k hh
  refine ha F0 O0 H0 G O S F σ H _ _ fm (fun x dx O1 F1 H1 h1 f1 r1 => ?_) hh
  split at h1
  · rename_i t ds
    split at h1
    · rename_i i e
      split at h1
      · rename_i d ed
        have ok := h _ (lk_mem e)
        cases r1 with
        | exc e1 e2 n r =>
          obtain ⟨v, hv, rv⟩ := r.get ed
          exact ⟨_, _, _, _, v, rfl, f1.sub _ _ e1, f1.sub _ _ e2, ok.xf, ok.no, by rw [ok.at_ _ n]; exact hv, k _ _ _ _ _ h1 f1 rv⟩
        | exc0 e1 n => cases ed
      · exact h1.elim
    · exact h1.elim
  · exact h1.elim
/-! isinstance -/
def mIsV (f : Nat → Option Bool) (e : ME) : ME := fun G O K => e G O fun d O1 => match d with
  | .exc t _ => (match f t with
    | some b => K (.bl b) O1
    | none => False)
  | _ => False
def KxOk (c : Cl) (f : Nat → Option Bool) (v : Value) : Prop := ∀ t b, f t = some b → ExcC c.K (c.ca t) ∧ PySem.W.kitOne c.K (.ref (c.ca t)) v = some b
theorem exc_at {F H : Hp} {x : V} {t : Nat} {ds : List D} (s : Sub F H) (r : Rp c F x (.exc t ds)) : ∃ a d, x = .ref a ∧ H a = some (exo a (c.ca t) d) ∧ (d = none ∨ ∃ dx fs, d = some dx ∧ H dx = some (exd dx fs)) := by
  cases r with
  | exc e1 e2 n r => exact ⟨_, _, rfl, s _ _ e1, .inr ⟨_, _, rfl, s _ _ e2⟩⟩
  | exc0 e1 n => exact ⟨_, _, rfl, s _ _ e1, .inl rfl⟩
theorem se_isV {v : V} {u : Value} {f : Nat → Option Bool} {te : TE} {me : ME} (hv : ClsV v u) (h : KxOk c f u) (ha : SE c te me) : SE c (tCB (rIsV c.K) (tCons te (tCons (tC v) tNil))) (mIsV f me) := by
  intro F0 O0 H0 G O S F σ H Q K fm k hh
  refine ha F0 O0 H0 G O S F σ H _ _ fm (fun x dx O1 F1 H1 h1 f1 r1 => ?_) hh
  split at h1
  · rename_i t ds
    split at h1
    · rename_i b e
      obtain ⟨a, d, rfl, e1, e2⟩ := exc_at f1.sub r1
      exact ⟨a, _, d, b, e1, e2, (h t b e).1, k _ _ _ _ _ h1 f1 (.raw _), .inl ⟨v, u, rfl, hv, (h t b e).2⟩⟩
    · exact h1.elim
  · exact h1.elim
def orF (f g : Nat → Option Bool) : Nat → Option Bool := fun t => match f t, g t with
  | some a, some b => some (a || b)
  | _, _ => none
theorem se_isV2 {v1 v2 : V} {u1 u2 : Value} {f g : Nat → Option Bool} {te : TE} {me : ME} (hv1 : ClsV v1 u1) (hv2 : ClsV v2 u2) (h1 : KxOk c f u1) (h2 : KxOk c g u2) (ha : SE c te me) : SE c (tCB (rIsV c.K) (tCons te (tCons (tTup (tCons (tC v1) (tCons (tC v2) tNil))) tNil))) (mIsV (orF f g) me) := by
  intro F0 O0 H0 G O S F σ H Q K fm k hh
  refine ha F0 O0 H0 G O S F σ H _ _ fm (fun x dx O1 F1 H1 q1 f1 r1 => ⟨Nat.le_trans (show 2 ≤ 1000 by decide) (by decide), fun p hp => ?_⟩) hh
  split at q1
  · rename_i t ds
    split at q1
    · rename_i b e
      have f2 := (f1.push r1).alloc (o := .tup [v1, v2]) hp
      obtain ⟨a, d, rfl, e1, e2⟩ := exc_at f2.pop.sub f2.top
      unfold orF at e
      split at e
      · rename_i b1 b2 z1 z2
        cases e
        refine ⟨a, _, d, _, e1, e2, (h1 t b1 z1).1, k _ _ _ _ _ q1 f2.pop (.raw _), .inr ⟨p, _, [u1, u2], rfl, upd_same, .cons hv1 (.cons hv2 .nil), ?_⟩⟩
        refine kitAny_cons (h1 t b1 z1).2 (fun hb => ?_) (fun hb => by rw [hb]; rfl)
        rw [hb, Bool.false_or]
        refine kitAny_cons (h2 t b2 z2).2 (fun hc => ?_) (fun hc => hc)
        rw [hc]; exact kitAny_nil
      · cases e
    · exact q1.elim
  · exact q1.elim
end
end DN

set_option maxHeartbeats 4000000
/-! DNxf: calls of defs that raise; the facts about exception classes. -/
namespace DN
open PySem PySem.Spec PyProof.Rows L2
open DL (FnS ok_body pGlo pMeth pProp)
/-- a def of the module that may raise -/
def GfX (P : Program) (w : World) (K : PySem.W.Frag) (mg : Str → Option Value) (base : Heap) (k : Nat) (x : Str) (sp : Sp) : Prop := ∃ f fd ps, mg x = some (.ref f) ∧ PySem.W.keepIn K (.ref f) = true ∧ Binds K fd ps [] ∧ FnOk P w K mg base (L2.CX P w) k f fd ps sp
section
variable {X : Cx} {k : Nat} {sp : Sp} {x : Str} {p pos : Pos} {e : Expr} {es : List Expr} {t : TA} {W : WX}
theorem p_callX (h : GfX X.prog X.w X.K X.mg X.base k x sp) (hr : Room k X.A) (tk : Takes X W) (hg : Gl X x) (ha : PA X (e :: es) t) (hdb : (x == ("__debug__" : Str)) = false := by decide)
    (he : starEach (e :: es) X.env = (false, eval e X.env) :: starEach es X.env := by rfl) (hpl : (backTo pos (starEach es X.env)).any (·.1) = false := by rfl) : PE X (.Call (.Name x p) (e :: es) [] pos) (tCallS sp (WE W) t) := by
  obtain ⟨f, fd, ps, hm, hk, hb, F⟩ := h
  exact pe_callS F hr hg hm hk hb (fun σ => passAt tk σ) ha hdb he hpl
theorem p_raise {mk : L2.St → Hp → XK → Prop} (hc : X.calm = true) (tk : Takes X W) (he : PMk X e mk) : PS X (.Raise (some e) none pos) (tRaise W mk) := ps_raise hc tk he
theorem p_try {body : List Stmt} {h₀ : ExceptHandler} {hds : List ExceptHandler} {l : List (Value × (Addr → Value → Option Addr → TS))} {tb : WX → TS} (tk : Takes X W)
    (hb : ∀ (W : WX) (pn : List (Addr × Obj)) (xe : Value → Shared → Prop), Takes (X.tr pn xe) W → PassesOwn (model X.prog X.w) X.A X.env xe → PSs (X.tr pn xe) body (tb W)) (hh : HdsOk X (h₀ :: hds) l)
    (hs : X.stack = X.env :: X.outer := by rfl) (hf : X.env.frame = some X.env.locals := by rfl) : PS X (.Try body (h₀ :: hds) [] [] pos) (tTryX W X.K tb l) := ps_try_many hs hf tk hb hh
theorem names_glo {c : Value} (hg : Gl X x) (hm : X.mg x = some c) (hdb : (x == ("__debug__" : Str)) = false := by decide) : Names X x c := ⟨hg, hdb, .inl hm⟩
theorem names_blt {c : Value} (hg : Gl X x) (hm : X.mg x = none) (hv : bootBuiltins x = some c) (hn : x ≠ "__name__" := by decide) (hdb : (x == ("__debug__" : Str)) = false := by decide) : Names X x c := ⟨hg, hdb, .inr ⟨hm, hv, hn⟩⟩
end
/-! ### facts -/
def eqB {α : Type} [DecidableEq α] (a b : α) : Bool := decide (a = b)
def eqV (a : Option Value) (b : Value) : Bool := match a with
  | some v => v == b
  | none => false
theorem eqV_ok {a : Option Value} {b : Value} (h : eqV a b = true) : a = some b := by
  unfold eqV at h
  split at h
  · rw [beq_iff_eq.mp h]
  · cases h
def xcB (b : Bool) (C : Addr) (K : PySem.W.Frag) : Bool := (match K.lookup C with
  | some ⟨.type "type", _, .cls cd, sl⟩ => (match cd.mro, sl.toList with
    | .ref C' :: bm, [_, _, _, _, some (.builtin n), _] => C' == C && n == DNX.newOf b && !cd.hasDel && cd.hasDict && DNX.refsB b bm
    | _, _ => false)
  | _ => false) && (He.eqO (PySem.W.findIn K (.ref C) "__setattr__") (some (some (.builtin "object.__setattr__"))) && (eqB (PySem.W.subIn K (.ref C) (.type "BaseException")) (some true) &&
    (eqV (PySem.W.typeIn K (.ref C)) (.type "type") && PySem.W.keepIn K (.ref C))))
theorem xcB_ok {b : Bool} {C : Addr} {K : PySem.W.Frag} (h : xcB b C K = true) : XcC K C b := by
  obtain ⟨q, h⟩ := He.ba h
  obtain ⟨h1, h⟩ := He.ba h
  obtain ⟨h2, h⟩ := He.ba h
  obtain ⟨h3, h4⟩ := He.ba h
  refine ⟨?_, He.eqO_ok h1, of_decide_eq_true h2, eqV_ok h3, h4⟩
  split at q
  · rename_i dd cd sl ho
    split at q
    · rename_i C' bm k0 k1 k2 k3 n k5 hm hs
      simp only [Bool.and_eq_true, beq_iff_eq, Bool.not_eq_true'] at q
      obtain ⟨⟨⟨⟨rfl, rfl⟩, hdel⟩, hdc⟩, ht⟩ := q
      obtain ⟨nm, bs, mro, ns, qn, hd, sn, sub, ab, col, del⟩ := cd
      dsimp only at hm hdel hdc
      subst hm hdel hdc
      have hsl : sl = #[k0, k1, k2, k3, some (.builtin (DNX.newOf b)), k5] := by
        obtain ⟨l⟩ := sl
        simp only at hs
        rw [hs]
      subst hsl
      exact ⟨nm, qn, ns, bs, bm, sn, sub, ab, col, dd, k0, k1, k2, k3, k5, ho, ht⟩
    · cases q
  · cases q
def excB (C : Addr) (K : PySem.W.Frag) : Bool := He.eqO (PySem.W.findIn K (.ref C) "__getattribute__") (some (some (.builtin "BaseException.__getattribute__"))) && (He.eqO (PySem.W.findIn K (.ref C) "__getattr__") (some none) && (eqB (PySem.W.subIn K (.ref C) (.type "BaseException")) (some true) &&
  (PySem.W.hasDictIn K C && (He.eqO (PySem.W.findIn K (.ref C) "__class__") (some (some (.builtin "object.__class__"))) && (He.eqO (PySem.W.specialIn K (.builtin "object.__class__") "__get__") (some (some (.builtin "getset_descriptor.__get__"))) &&
    (eqB (PySem.W.takesIn K (.builtin "object.__class__")) (some true) && eqB (PySem.W.mroIn K C (.type "object")) (some true)))))))
theorem excB_ok {C : Addr} {K : PySem.W.Frag} (h : excB C K = true) : ExcC K C := by
  obtain ⟨h1, h⟩ := He.ba h
  obtain ⟨h2, h⟩ := He.ba h
  obtain ⟨h3, h⟩ := He.ba h
  obtain ⟨h4, h⟩ := He.ba h
  obtain ⟨h5, h⟩ := He.ba h
  obtain ⟨h6, h⟩ := He.ba h
  obtain ⟨h7, h8⟩ := He.ba h
  exact ⟨He.eqO_ok h1, He.eqO_ok h2, of_decide_eq_true h3, h4, He.eqO_ok h5, He.eqO_ok h6, of_decide_eq_true h7, of_decide_eq_true h8⟩
def x0B (C : Addr) (K : PySem.W.Frag) : Bool := xcB false C K && He.eqO (PySem.W.findIn K (.ref C) "__init__") (some (some (.builtin "ValueError.__init__")))
theorem x0B_ok {C : Addr} {K : PySem.W.Frag} (h : x0B C K = true) : X0C K C := by
  obtain ⟨h1, h2⟩ := He.ba h
  exact ⟨xcB_ok h1, He.eqO_ok h2⟩
/-- the field f of the class at C stands in no class -/
def xfnB (C : Addr) (f : Str) (K : PySem.W.Frag) : Bool := xfB K C && He.eqO (PySem.W.findIn K (.ref C) f) (some none)
theorem xfnB_ok {c : Cl} {f : Str} {t i : Nat} (h : xfnB (c.ca t) f c.K = true) (at_ : ∀ xs : List V, (c.fl t).length = xs.length → ((c.fl t).zip xs).lookup f = xs[i]?) : XfldOk c f t i := by
  obtain ⟨h1, h2⟩ := He.ba h
  exact ⟨xfB_ok h1, He.eqO_ok h2, at_⟩
def lkB (tb : List (Nat × Bool)) : Nat → Option Bool := fun t => tb.lookup t
def kxB (c : Cl) (tb : List (Nat × Bool)) (v : Value) : Bool := tb.all fun p => excB (c.ca p.1) c.K && eqB (PySem.W.kitOne c.K (.ref (c.ca p.1)) v) (some p.2)
theorem kxB_ok {c : Cl} {tb : List (Nat × Bool)} {v : Value} (h : kxB c tb v = true) : KxOk c (lkB tb) v := fun t b e => by
  have z := List.all_eq_true.mp h _ (lk_mem e)
  obtain ⟨h1, h2⟩ := He.ba z
  exact ⟨excB_ok h1, of_decide_eq_true h2⟩
def ExOk (c : Cl) (f : Nat → Option Bool) (v : Value) : Prop := ∀ t b, f t = some b → PySem.W.exmOne c.K (.ref (c.ca t)) v = some b
def exB (c : Cl) (tb : List (Nat × Bool)) (v : Value) : Bool := tb.all fun p => eqB (PySem.W.exmOne c.K (.ref (c.ca p.1)) v) (some p.2)
theorem exB_ok {c : Cl} {tb : List (Nat × Bool)} {v : Value} (h : exB c tb v = true) : ExOk c (lkB tb) v := fun t b e => of_decide_eq_true (List.all_eq_true.mp h _ (lk_mem e))
/-- the class's __init__ -/
def xiB (C : Addr) (f : Addr) (K : PySem.W.Frag) : Bool := He.eqO (PySem.W.findIn K (.ref C) "__init__") (some (some (.ref f))) && eqV (PySem.W.typeIn K (.ref f)) (.type "function")
theorem kb_of {K : PySem.W.Frag} {x qual : Str} {st : Stmt} {f : Addr} {fd : FuncData} {ps ks : List Str} {p : List Nat} (F : L2.Fun K x qual st f fd)
    (h : ∀ (kV doc pm : Value) (an : Option Addr) (cdv ct : Value) (us ws : List Value), us.length = 1 → ws.length = ks.length → bindArgs (PySem.W.fnOf x qual (defArgs st) (defBody st) (defScope st) .none kV doc pm an cdv ct) ⟨us, ks.zip ws⟩ = pure (ps.zip (us ++ prm p ws))) :
    KBn K fd ps 1 ks (fun us ws => us ++ prm p ws) (fun vs zs => vs ++ prm p zs) := by
  obtain ⟨oc, od, kV, doc, pm, an, cdv, ct, osl, rfl, lk, hcd⟩ := F.ex
  exact ⟨fun s us ws X l1 l2 => .of_eq (h kV doc pm an cdv ct us ws l1 l2), fun r1 r2 => r1.append (vals_prm r2 p)⟩
/-! ### a def that raises keeps its promise -/
section
variable {P : Program} {w : World} {K : PySem.W.Frag} {mg : Str → Option Value} {base : Heap}
theorem ok_fnX {x qual : Str} {st : Stmt} {f : Addr} {fd : FuncData} {N ps : List Str} {k : Nat} {sp : Sp} (F : L2.Fun K x qual st f fd) (S : FnScope N ps (defScope st)) (len : ∀ vs H Q E, sp vs H Q E → vs.length = ps.length)
    (hbody : ∀ (cdv : Value) (A : Around) (outer : List Env) (s : Shared) (H : Hp) (vs : List V) (Q : VK) (Ex : XK), Room k (A.deeper (envOfC qual (defScope st) s.heap.objs.size f cdv)) →
      Takes (cxOf (L2.CX P w) P w K mg base N qual (defScope st) f cdv A outer s H Ex) (fun cls d _ H' => Ex cls d H') →
      PassesOwn (model P w) (cxOf (L2.CX P w) P w K mg base N qual (defScope st) f cdv A outer s H Ex).A (cxOf (L2.CX P w) P w K mg base N qual (defScope st) f cdv A outer s H Ex).env (cxOf (L2.CX P w) P w K mg base N qual (defScope st) f cdv A outer s H Ex).xe → sp vs H Q Ex →
      ∃ t, PSs (cxOf (L2.CX P w) P w K mg base N qual (defScope st) f cdv A outer s H Ex) (defBody st) t ∧ t { nx := fun _ H' => Q .non H', rt := Q } (L2.start N vs) H) : FnOk P w K mg base (L2.CX P w) (k + 1) f fd ps sp :=
  F.okX S len fun cdv A outer s H vs Q Ex hr h => hbody cdv A outer s H vs Q Ex hr (takes_of rfl rfl rfl rfl) (passes_of rfl) h
end
end DN

set_option maxHeartbeats 4000000
/-! DNxg: a list is taken apart. -/
namespace DN
open PySem PySem.Spec PyProof.Rows L2
def mgLst (gs : List MG) : MG := fun d G O Y => ∃ ds, lsD O d = some ds ∧ ds.length = gs.length ∧ mgL gs ds G O Y
theorem sg_lst {c : Cl} {n : Nat} {ts : TGs} {gs : List MG} (hs : SGs c ts gs) (hn : gs.length = n) : SG c (gLst c.K n ts) (mgLst gs) := by
  intro F0 O0 H0 G O S F σ H Z Y x d f r k h
  obtain ⟨ds, e, hl, h⟩ := h
  obtain ⟨a, xs, rfl, e, rl⟩ := f.lstOf r e
  exact ⟨a, xs, rfl, .inl (.inl e), by rw [rl.length, hl]; exact hn, hs F0 O0 H0 G O S F σ H Z Y xs ds f rl k h⟩
theorem xfld_cons {c : Cl} {f : Str} {t i : Nat} {tb : List (Nat × Nat)} (h : XfldOk c f t i) (hs : ∀ p ∈ tb, XfldOk c f p.1 p.2) : ∀ p ∈ (t, i) :: tb, XfldOk c f p.1 p.2 := fun p hp => by
  rcases List.mem_cons.mp hp with z | z
  · rw [z]; exact h
  · exact hs p z
theorem kbs_cons {K : PySem.W.Frag} {fd : FuncData} {ps ks : List Str} {p : List Nat} {os : List (List Str × List Nat)} (h : KBn K fd ps 1 ks (fun us ws => us ++ prm p ws) (fun vs zs => vs ++ prm p zs))
    (hs : ∀ o ∈ os, KBn K fd ps 1 o.1 (fun us ws => us ++ prm o.2 ws) (fun vs zs => vs ++ prm o.2 zs)) : ∀ o ∈ (ks, p) :: os, KBn K fd ps 1 o.1 (fun us ws => us ++ prm o.2 ws) (fun vs zs => vs ++ prm o.2 zs) := fun o ho => by
  rcases List.mem_cons.mp ho with z | z
  · rw [z]; exact h
  · exact hs o z
end DN

set_option maxHeartbeats 4000000
namespace K01
open PySem L2 DN
def kt_SourError : Nat → Option Bool := lkB [(0, true), (1, true), (2, true), (3, true), (4, true), (5, true), (6, true), (7, true), (8, true), (9, true), (10, true), (11, false)]
def kt_UnknownName : Nat → Option Bool := lkB [(0, false), (1, false), (2, false), (3, false), (4, false), (5, false), (6, false), (7, false), (8, false), (9, false), (10, false), (11, true)]
def kt_KeyError : Nat → Option Bool := lkB [(0, false), (1, false), (2, false), (3, false), (4, false), (5, false), (6, false), (7, false), (8, false), (9, false), (10, false), (11, true)]
def kt_ValueError : Nat → Option Bool := lkB [(0, true), (1, true), (2, true), (3, true), (4, true), (5, true), (6, true), (7, true), (8, true), (9, true), (10, true), (11, false)]
def kt_InvalidProgram : Nat → Option Bool := lkB [(0, false), (1, true), (2, false), (3, false), (4, false), (5, false), (6, false), (7, false), (8, false), (9, false), (10, false), (11, false)]
def kt_InvalidCode : Nat → Option Bool := lkB [(0, false), (1, false), (2, false), (3, false), (4, false), (5, true), (6, false), (7, false), (8, false), (9, false), (10, false), (11, false)]
def kt_InvalidStart : Nat → Option Bool := lkB [(0, false), (1, false), (2, false), (3, true), (4, false), (5, false), (6, false), (7, false), (8, false), (9, false), (10, false), (11, false)]
def kt_InvalidPart : Nat → Option Bool := lkB [(0, false), (1, false), (2, false), (3, false), (4, false), (5, false), (6, false), (7, true), (8, false), (9, false), (10, false), (11, false)]
def kt_LinkRefused : Nat → Option Bool := lkB [(0, false), (1, false), (2, false), (3, false), (4, false), (5, false), (6, false), (7, false), (8, true), (9, false), (10, false), (11, false)]
def kt_Unfilled : Nat → Option Bool := lkB [(0, false), (1, false), (2, false), (3, false), (4, false), (5, false), (6, false), (7, false), (8, false), (9, false), (10, true), (11, false)]
def kt_NoRoom : Nat → Option Bool := lkB [(0, false), (1, false), (2, false), (3, false), (4, false), (5, false), (6, true), (7, false), (8, false), (9, false), (10, false), (11, false)]
def kt_InvalidText : Nat → Option Bool := lkB [(0, false), (1, false), (2, true), (3, false), (4, false), (5, false), (6, false), (7, false), (8, false), (9, false), (10, false), (11, false)]
def kt_TooLong : Nat → Option Bool := lkB [(0, false), (1, false), (2, false), (3, false), (4, true), (5, false), (6, false), (7, false), (8, false), (9, false), (10, false), (11, false)]
def kt_InvalidCommand : Nat → Option Bool := lkB [(0, false), (1, false), (2, false), (3, false), (4, false), (5, false), (6, false), (7, false), (8, false), (9, true), (10, false), (11, false)]
def m_box : MS :=
  mSeq (mAsg (mOp oAdd (mOp oMul (mC (.int 6841)) (mVar 1)) (mC (.int 37))) (mgName 2))
    (mSeq (mIfS (mTest (mOp oLt (mVar 1) (mCB bLen [mVar 0]))) (mAsg (mOp oIx (mVar 0) (mVar 1)) (mgName 2)) (mIfS (mTest (mOp oGt (mCB bLen [mVar 0]) (mC (.int 0)))) (mAsg (mOp oAdd (mVar 2) (mOp oMul (mOp oMod (mOp oIx (mVar 0) (mOp oMod (mVar 1) (mCB bLen [mVar 0]))) (mC (.int 2147483629))) (mC (.int 69623)))) (mgName 2)) (mNext)))
    (mSeq (mAsg (mOp oAdd (mOp oMod (mOp oAdd (mOp oMul (mOp oMod (mVar 2) (mC (.int 2147483629))) (mC (.int 48271))) (mOp oMul (mC (.int 40692)) (mVar 1))) (mC (.int 2147483629))) (mC (.int 1))) (mgName 3))
    (mRet (mLstO [mOp oIx (mLst [mC (.int 0), mVar 2]) (mCB bInt [mOp oGe (mVar 2) (mOp oPow (mC (.int 10)) (mC (.int 18)))]), mVar 3, mC (.int 0)]))))
structure w_box (ds : List D) (O : Ob) (K : KE) : Prop where
  mk ::
  out : wOf 2 4 m_box ds O K
def m_take : MS :=
  mSeq (mIfS (mTest (mOp oGt (mOp oIx (mVar 0) (mC (.int 0))) (mC (.int 0)))) (mSeq (mAsg (mOp oMod (mOp oIx (mVar 0) (mC (.int 0))) (mVar 1)) (mgName 2))
    (mSeq (mAsg (mOp oFdiv (mOp oIx (mVar 0) (mC (.int 0))) (mVar 1)) (mgSub (mVar 0) (mC (.int 0))))
    (mRet (mVar 2)))) (mNext))
    (mSeq (mAsg (mOp oAdd (mOp oIx (mVar 0) (mC (.int 2))) (mC (.int 1))) (mgSub (mVar 0) (mC (.int 2))))
    (mSeq (mAsg (mOp oMod (mOp oMul (mOp oAdd (mOp oIx (mVar 0) (mC (.int 1))) (mOp oMul (mC (.int 104729)) (mOp oIx (mVar 0) (mC (.int 2))))) (mC (.int 69623))) (mC (.int 2147483647))) (mgName 3))
    (mSeq (mAsg (mOp oAdd (mOp oMod (mOp oAdd (mOp oMul (mVar 3) (mC (.int 48271))) (mC (.int 30103))) (mC (.int 2147483629))) (mC (.int 1))) (mgSub (mVar 0) (mC (.int 1))))
    (mRet (mOp oMod (mOp oFdiv (mOp oAdd (mOp oMul (mVar 3) (mC (.int 2147483647))) (mOp oIx (mVar 0) (mC (.int 1)))) (mC (.int 8191))) (mVar 1))))))
structure w_take (ds : List D) (O : Ob) (K : KE) : Prop where
  mk ::
  out : wOf 2 4 m_take ds O K
def m_some_value (wr : W) : MS :=
  mSeq (mAsg (mCB w_take [mVar 0, mC (.int 10)]) (mgName 2))
    (mSeq (mIfS (mAnd (mTest (mOp oLt (mVar 2) (mC (.int 4)))) (mTest (mOp oGt (mVar 1) (mC (.int 0))))) (mRet (mCB bTuple [mLc (mRng1 (mCB w_take [mVar 0, mC (.int 4)])) (mgName 3) (mYes) (mCB wr [mVar 0, mOp oSub (mVar 1) (mC (.int 1))]) [3]])) (mNext))
    (mSeq (mAsg (mLst [mC (.str ""), mC (.str "a b"), mC (.str "c\n"), mC (.int 0), mUn oNeg (mC (.int 1)), mC (.int 61), mOp oPow (mC (.int 10)) (mC (.int 30)), mC (.bl true), mC (.bl false), mC .non, mTup []]) (mgName 4))
    (mRet (mOp oIx (mVar 4) (mCB w_take [mVar 0, mC (.int 11)])))))
structure r_some_value (wr : W) (ds : List D) (O : Ob) (K : KE) : Prop where
  mk ::
  out : wOf 2 5 (m_some_value wr) ds O K
def w_some_value : Nat → W
  | 0 => fun _ _ _ => False
  | n + 1 => r_some_value (w_some_value n)
def m_made : MS :=
  mSeq (mAsg (mLc (mRng1 (mC (.int 4))) (mgName 5) (mYes) (mCB (w_some_value 4) [mVar 0, mC (.int 3)]) [5]) (mgLst [mgName 1, mgName 2, mgName 3, mgName 4]))
    (mSeq (mAsg (mLst [mTup [mExcV 1 [mVar 1, mVar 2, mVar 3], mLst [mVar 1, mVar 2, mVar 3]], mTup [mExcK 1 [1, 2, 0] [mVar 3, mVar 1, mVar 2], mLst [mVar 1, mVar 2, mVar 3]]]) (mgName 6))
    (mSeq (mAsg (mOp oAdd (mVar 6) (mLst [mTup [mExcV 2 [mVar 1], mLst [mVar 1]], mTup [mExcK 2 [0] [mVar 2], mLst [mVar 2]], mTup [mExcV 3 [mVar 1, mVar 2], mLst [mVar 1, mVar 2]]])) (mgName 6))
    (mSeq (mAsg (mOp oAdd (mVar 6) (mLst [mTup [mExcK 3 [1, 0] [mVar 2, mVar 1], mLst [mVar 1, mVar 2]], mTup [mExcV 4 [mVar 3], mLst [mVar 3]], mTup [mExcK 4 [0] [mVar 4], mLst [mVar 4]]])) (mgName 6))
    (mSeq (mAsg (mOp oAdd (mVar 6) (mLst [mTup [mExcV 5 [mVar 1, mVar 2, mVar 3], mLst [mVar 1, mVar 2, mVar 3]], mTup [mExcK 5 [2, 1, 0] [mVar 3, mVar 2, mVar 1], mLst [mVar 1, mVar 2, mVar 3]]])) (mgName 6))
    (mSeq (mAsg (mOp oAdd (mVar 6) (mLst [mTup [mExcV 6 [mVar 1, mVar 2], mLst [mVar 1, mVar 2]], mTup [mExcK 6 [1, 0] [mVar 2, mVar 1], mLst [mVar 1, mVar 2]], mTup [mExcV 7 [mVar 3, mVar 4], mLst [mVar 3, mVar 4]]])) (mgName 6))
    (mSeq (mAsg (mOp oAdd (mVar 6) (mLst [mTup [mExcK 7 [1, 0] [mVar 4, mVar 3], mLst [mVar 3, mVar 4]], mTup [mExcV 8 [mVar 1, mVar 2, mVar 3], mLst [mVar 1, mVar 2, mVar 3]]])) (mgName 6))
    (mSeq (mAsg (mOp oAdd (mVar 6) (mLst [mTup [mExcK 8 [2, 1, 0] [mVar 3, mVar 2, mVar 1], mLst [mVar 1, mVar 2, mVar 3]], mTup [mExc0 9, mLst []]])) (mgName 6))
    (mSeq (mAsg (mOp oAdd (mVar 6) (mLst [mTup [mExcV 10 [mVar 1, mVar 2, mVar 3, mVar 4], mLst [mVar 1, mVar 2, mVar 3, mVar 4]]])) (mgName 6))
    (mSeq (mAsg (mOp oAdd (mVar 6) (mLst [mTup [mExcK 10 [3, 2, 1, 0] [mVar 4, mVar 3, mVar 2, mVar 1], mLst [mVar 1, mVar 2, mVar 3, mVar 4]]])) (mgName 6))
    (mRet (mOp oAdd (mVar 6) (mLst [mTup [mExcV 11 [mVar 4], mLst [mVar 4]], mTup [mExcK 11 [0] [mVar 1], mLst [mVar 1]]]))))))))))))
structure w_made (ds : List D) (O : Ob) (K : KE) : Prop where
  mk ::
  out : wOf 1 7 m_made ds O K
def m_alike_l0 : MS :=
  mSeq (mAsg (mMet oPop (mVar 2) []) (mgTup [mgName 3, mgName 4]))
    (mIfS (mTest (mIsi2 "tuple" "list" (mVar 4))) (mSeq (mIfS (mOr (mTest (mOp oNe (mIsi "tuple" (mVar 3)) (mIsi "tuple" (mVar 4)))) (mTest (mOp oNe (mIsi "list" (mVar 3)) (mIsi "list" (mVar 4))))) (mRet (mC (.bl false))) (mNext))
    (mSeq (mIfS (mTest (mOp oNe (mCB bLen [mVar 3]) (mCB bLen [mVar 4]))) (mRet (mC (.bl false))) (mNext))
    (mDrop (mMet oExtend (mVar 2) [mListZip (mVar 3) (mVar 4)])))) (mIfS (mOr (mTest (mIsi2 "tuple" "list" (mVar 3))) (mOr (mTest (mOp oNe (mIsi "bool" (mVar 3)) (mIsi "bool" (mVar 4)))) (mTest (mOp oNe (mVar 3) (mVar 4))))) (mRet (mC (.bl false))) (mNext)))
def m_alike : MS :=
  mSeq (mAsg (mLstO [mTup [mVar 0, mVar 1]]) (mgName 2))
    (mSeq (mWhile (mTest (mOp oNe (mVar 2) (mLst []))) (m_alike_l0))
    (mRet (mC (.bl true))))
structure w_alike (ds : List D) (O : Ob) (K : KE) : Prop where
  mk ::
  out : wOf 2 5 m_alike ds O K
def m_kept : MS :=
  mSeq (mIfS (mTest (mIsV kt_InvalidProgram (mVar 0))) (mRet (mLst [mXfld [(1, 2), (3, 1), (5, 2), (7, 1)] (mVar 0), mXfld [(1, 1), (5, 1), (6, 1), (10, 3)] (mVar 0), mXfld [(1, 0), (10, 2)] (mVar 0)])) (mNext))
    (mSeq (mIfS (mTest (mIsV kt_InvalidCode (mVar 0))) (mRet (mLst [mXfld [(1, 2), (3, 1), (5, 2), (7, 1)] (mVar 0), mXfld [(1, 1), (5, 1), (6, 1), (10, 3)] (mVar 0), mXfld [(5, 0)] (mVar 0)])) (mNext))
    (mSeq (mIfS (mTest (mIsV (orF kt_InvalidStart kt_InvalidPart) (mVar 0))) (mRet (mLst [mXfld [(1, 2), (3, 1), (5, 2), (7, 1)] (mVar 0), mXfld [(3, 0), (7, 0)] (mVar 0)])) (mNext))
    (mSeq (mIfS (mTest (mIsV kt_LinkRefused (mVar 0))) (mRet (mLst [mXfld [(8, 2)] (mVar 0), mXfld [(8, 1)] (mVar 0), mXfld [(8, 0)] (mVar 0)])) (mNext))
    (mSeq (mIfS (mTest (mIsV kt_Unfilled (mVar 0))) (mRet (mLst [mXfld [(1, 1), (5, 1), (6, 1), (10, 3)] (mVar 0), mXfld [(1, 0), (10, 2)] (mVar 0), mXfld [(10, 1)] (mVar 0), mXfld [(10, 0)] (mVar 0)])) (mNext))
    (mSeq (mIfS (mTest (mIsV kt_NoRoom (mVar 0))) (mRet (mLst [mXfld [(1, 1), (5, 1), (6, 1), (10, 3)] (mVar 0), mXfld [(6, 0)] (mVar 0)])) (mNext))
    (mSeq (mIfS (mTest (mIsV kt_InvalidText (mVar 0))) (mRet (mLst [mXfld [(2, 0)] (mVar 0)])) (mNext))
    (mSeq (mIfS (mTest (mIsV kt_TooLong (mVar 0))) (mRet (mLst [mXfld [(4, 0)] (mVar 0)])) (mNext))
    (mRet (mIf (mTest (mIsV kt_UnknownName (mVar 0))) (mLst [mXfld [(11, 0)] (mVar 0)]) (mLst []))))))))))
structure w_kept (ds : List D) (O : Ob) (K : KE) : Prop where
  mk ::
  out : wOf 1 1 m_kept ds O K
def m_sorts : MS :=
  mSeq (mAsg (mLst [mIsV kt_InvalidProgram (mVar 0), mIsV kt_InvalidText (mVar 0), mIsV kt_InvalidStart (mVar 0)]) (mgName 1))
    (mSeq (mAsg (mOp oAdd (mVar 1) (mLst [mIsV kt_TooLong (mVar 0), mIsV kt_InvalidCode (mVar 0), mIsV kt_NoRoom (mVar 0)])) (mgName 1))
    (mSeq (mAsg (mOp oAdd (mVar 1) (mLst [mIsV kt_InvalidPart (mVar 0), mIsV kt_LinkRefused (mVar 0), mIsV kt_InvalidCommand (mVar 0)])) (mgName 1))
    (mRet (mOp oAdd (mVar 1) (mLst [mIsV kt_Unfilled (mVar 0), mIsV kt_UnknownName (mVar 0)])))))
structure w_sorts (ds : List D) (O : Ob) (K : KE) : Prop where
  mk ::
  out : wOf 1 2 m_sorts ds O K
def m_thrown (X : GX) : MS :=
  mSeq (mIfS (mTest (mOp oEq (mVar 0) (mC (.int 0)))) (mRaise X 1 [mVar 1, mVar 1, mVar 1]) (mNext))
    (mSeq (mIfS (mTest (mOp oEq (mVar 0) (mC (.int 1)))) (mRaise X 2 [mVar 1]) (mNext))
    (mSeq (mIfS (mTest (mOp oEq (mVar 0) (mC (.int 2)))) (mRaise X 3 [mVar 1, mVar 1]) (mNext))
    (mSeq (mIfS (mTest (mOp oEq (mVar 0) (mC (.int 3)))) (mRaise X 4 [mVar 1]) (mNext))
    (mSeq (mIfS (mTest (mOp oEq (mVar 0) (mC (.int 4)))) (mRaise X 5 [mVar 1, mVar 1, mVar 1]) (mNext))
    (mSeq (mIfS (mTest (mOp oEq (mVar 0) (mC (.int 5)))) (mRaise X 6 [mVar 1, mVar 1]) (mNext))
    (mSeq (mIfS (mTest (mOp oEq (mVar 0) (mC (.int 6)))) (mRaise X 7 [mVar 1, mVar 1]) (mNext))
    (mSeq (mIfS (mTest (mOp oEq (mVar 0) (mC (.int 7)))) (mRaise X 8 [mVar 1, mVar 1, mVar 1]) (mNext))
    (mSeq (mIfS (mTest (mOp oEq (mVar 0) (mC (.int 8)))) (mRaise X 9 []) (mNext))
    (mSeq (mIfS (mTest (mOp oEq (mVar 0) (mC (.int 9)))) (mRaise X 10 [mVar 1, mVar 1, mVar 1, mVar 1]) (mNext))
    (mRaise X 11 [mVar 1]))))))))))
structure w_thrown (ds : List D) (O : Ob) (K : KE) (X : KX) : Prop where
  mk ::
  out : wOfX 2 2 m_thrown ds O K X
def m_caught : MS :=
  mSeq (mAsg (mC (.str "none")) (mgName 2))
    (mSeq (mTry (fun X => mDrop (mCallX w_thrown X [mVar 0, mVar 1])) [(kt_KeyError, mAsg (mC (.str "key")) (mgName 2)), (kt_SourError, mAsg (mC (.str "sour")) (mgName 2))])
    (mRet (mVar 2)))
structure w_caught (ds : List D) (O : Ob) (K : KE) : Prop where
  mk ::
  out : wOf 2 3 m_caught ds O K
def m_law_l0 : MS :=
  mSeq (mAsg (mVar 7) (mgTup [mgName 8, mgName 9]))
    (mSeq (mIfS (mOr (mNot (mTest (mCB w_alike [mCB w_kept [mVar 8], mVar 9]))) (mTest (mOp oNe (mCB w_sorts [mVar 8]) (mLc (mRng1 (mC (.int 11))) (mgName 5) (mYes) (mOp oEq (mVar 5) (mOp oIx (mVar 3) (mVar 6))) [5])))) (mRet (mC (.bl false))) (mNext))
    (mSeq (mIfS (mTest (mOp oNe (mIsV kt_SourError (mVar 8)) (mNotV (mIsV kt_UnknownName (mVar 8))))) (mRet (mC (.bl false))) (mNext))
    (mIfS (mTest (mOp oEq (mIsV kt_KeyError (mVar 8)) (mIsV kt_ValueError (mVar 8)))) (mRet (mC (.bl false))) (mNext))))
def m_law_l1 : MS :=
  mIfS (mTest (mOp oNe (mCB w_caught [mVar 5, mVar 4]) (mOp oIx (mLst [mC (.str "sour"), mC (.str "key")]) (mCB bInt [mOp oEq (mVar 5) (mC (.int 10))])))) (mRet (mC (.bl false))) (mNext)
def m_law_l2 : MS :=
  mSeq (mAsg (mCB w_box [mVar 0, mVar 1]) (mgName 2))
    (mSeq (mAsg (mLst [mC (.int 0), mC (.int 0), mC (.int 1), mC (.int 1), mC (.int 2), mC (.int 2), mC (.int 3), mC (.int 3), mC (.int 4), mC (.int 4), mC (.int 5), mC (.int 5), mC (.int 6), mC (.int 6), mC (.int 7), mC (.int 7), mC (.int 8), mC (.int 9), mC (.int 9), mC (.int 10), mC (.int 10)]) (mgName 3))
    (mSeq (mFor (mEnum (mCB w_made [mVar 2])) (mgTup [mgName 6, mgName 7]) (m_law_l0))
    (mSeq (mAsg (mCB (w_some_value 4) [mVar 2, mC (.int 2)]) (mgName 4))
    (mFor (mRng1 (mC (.int 11))) (mgName 5) (m_law_l1)))))
def m_law : MS :=
  mSeq (mFor (mRng1 (mCB bMax2 [mC (.int 1), mCB bMin2 [mC (.int 4), mCB bLen [mVar 0]]])) (mgName 1) (m_law_l2))
    (mRet (mC (.bl true)))
structure w_law (ds : List D) (O : Ob) (K : KE) : Prop where
  mk ::
  out : wOf 1 10 m_law ds O K
end K01

set_option maxHeartbeats 4000000
namespace K01
open PySem PySem.Spec PyProof.Rows L2 DL DN
def top (i : Nat) : Stmt := PySem.Challenge.pw_sourwright_k01_errors.main.body.getD i (.Pass ⟨0, 0, 0, 0⟩)
structure Tx (mg : Str → Option Value) (c : Cl) : Prop where
  z_range : mg "range" = none
  z_max : mg "max" = none
  z_min : mg "min" = none
  z_len : mg "len" = none
  z_enumerate : mg "enumerate" = none
  z_isinstance : mg "isinstance" = none
  m_SourError : mg "SourError" = some (.ref (c.ca 0))
  kx_SourError : KxOk c kt_SourError (.ref (c.ca 0))
  m_UnknownName : mg "UnknownName" = some (.ref (c.ca 11))
  kx_UnknownName : KxOk c kt_UnknownName (.ref (c.ca 11))
  z_KeyError : mg "KeyError" = none
  kx_KeyError : KxOk c kt_KeyError (.type "KeyError")
  z_ValueError : mg "ValueError" = none
  kx_ValueError : KxOk c kt_ValueError (.type "ValueError")
  z_int : mg "int" = none
  m_InvalidProgram : mg "InvalidProgram" = some (.ref (c.ca 1))
  l_InvalidProgram : c.fl 1 = (["place", "procedure", "word"] : List Str)
  m_InvalidText : mg "InvalidText" = some (.ref (c.ca 2))
  l_InvalidText : c.fl 2 = (["line"] : List Str)
  m_InvalidStart : mg "InvalidStart" = some (.ref (c.ca 3))
  l_InvalidStart : c.fl 3 = (["index", "word"] : List Str)
  m_TooLong : mg "TooLong" = some (.ref (c.ca 4))
  l_TooLong : c.fl 4 = (["steps"] : List Str)
  m_InvalidCode : mg "InvalidCode" = some (.ref (c.ca 5))
  l_InvalidCode : c.fl 5 = (["row", "procedure", "word"] : List Str)
  m_NoRoom : mg "NoRoom" = some (.ref (c.ca 6))
  l_NoRoom : c.fl 6 = (["number", "procedure"] : List Str)
  m_InvalidPart : mg "InvalidPart" = some (.ref (c.ca 7))
  l_InvalidPart : c.fl 7 = (["index", "word"] : List Str)
  m_LinkRefused : mg "LinkRefused" = some (.ref (c.ca 8))
  l_LinkRefused : c.fl 8 = (["caller", "used", "part"] : List Str)
  m_InvalidCommand : mg "InvalidCommand" = some (.ref (c.ca 9))
  l_InvalidCommand : c.fl 9 = ([] : List Str)
  x0_InvalidCommand : X0C c.K (c.ca 9)
  m_Unfilled : mg "Unfilled" = some (.ref (c.ca 10))
  l_Unfilled : c.fl 10 = (["answers", "carrier", "place", "procedure"] : List Str)
  l_UnknownName : c.fl 11 = (["name"] : List Str)
  z_tuple : mg "tuple" = none
  z_list : mg "list" = none
  z_zip : mg "zip" = none
  z_bool : mg "bool" = none
  kx_InvalidProgram : KxOk c kt_InvalidProgram (.ref (c.ca 1))
  xf_InvalidPart_word : XfldOk c "word" 7 1
  xf_InvalidCode_word : XfldOk c "word" 5 2
  xf_InvalidStart_word : XfldOk c "word" 3 1
  xf_InvalidProgram_word : XfldOk c "word" 1 2
  xf_Unfilled_procedure : XfldOk c "procedure" 10 3
  xf_NoRoom_procedure : XfldOk c "procedure" 6 1
  xf_InvalidCode_procedure : XfldOk c "procedure" 5 1
  xf_InvalidProgram_procedure : XfldOk c "procedure" 1 1
  xf_Unfilled_place : XfldOk c "place" 10 2
  xf_InvalidProgram_place : XfldOk c "place" 1 0
  kx_InvalidCode : KxOk c kt_InvalidCode (.ref (c.ca 5))
  xf_InvalidCode_row : XfldOk c "row" 5 0
  kx_InvalidStart : KxOk c kt_InvalidStart (.ref (c.ca 3))
  kx_InvalidPart : KxOk c kt_InvalidPart (.ref (c.ca 7))
  xf_InvalidPart_index : XfldOk c "index" 7 0
  xf_InvalidStart_index : XfldOk c "index" 3 0
  kx_LinkRefused : KxOk c kt_LinkRefused (.ref (c.ca 8))
  xf_LinkRefused_part : XfldOk c "part" 8 2
  xf_LinkRefused_used : XfldOk c "used" 8 1
  xf_LinkRefused_caller : XfldOk c "caller" 8 0
  kx_Unfilled : KxOk c kt_Unfilled (.ref (c.ca 10))
  xf_Unfilled_carrier : XfldOk c "carrier" 10 1
  xf_Unfilled_answers : XfldOk c "answers" 10 0
  kx_NoRoom : KxOk c kt_NoRoom (.ref (c.ca 6))
  xf_NoRoom_number : XfldOk c "number" 6 0
  kx_InvalidText : KxOk c kt_InvalidText (.ref (c.ca 2))
  xf_InvalidText_line : XfldOk c "line" 2 0
  kx_TooLong : KxOk c kt_TooLong (.ref (c.ca 4))
  xf_TooLong_steps : XfldOk c "steps" 4 0
  xf_UnknownName_name : XfldOk c "name" 11 0
  kx_InvalidCommand : KxOk c kt_InvalidCommand (.ref (c.ca 9))
  ex_KeyError : ExOk c kt_KeyError (.type "KeyError")
  ex_SourError : ExOk c kt_SourError (.ref (c.ca 0))
  l_SourError : c.fl 0 = ([] : List Str)
  xc_InvalidProgram : XcC c.K (c.ca 1) false
  xc_InvalidText : XcC c.K (c.ca 2) false
  xc_InvalidStart : XcC c.K (c.ca 3) false
  xc_TooLong : XcC c.K (c.ca 4) false
  xc_InvalidCode : XcC c.K (c.ca 5) false
  xc_NoRoom : XcC c.K (c.ca 6) false
  xc_InvalidPart : XcC c.K (c.ca 7) false
  xc_LinkRefused : XcC c.K (c.ca 8) false
  xc_Unfilled : XcC c.K (c.ca 10) false
  xc_UnknownName : XcC c.K (c.ca 11) true
abbrev H_box (P : Program) (w : World) (mg : Str → Option Value) (base : Heap) (c : Cl) : Prop := Gf false P w c.K mg base 2 "_law_box" (spM c w_box)
abbrev H_take (P : Program) (w : World) (mg : Str → Option Value) (base : Heap) (c : Cl) : Prop := Gf false P w c.K mg base 2 "_law_take" (spM c w_take)
abbrev H_some_value (P : Program) (w : World) (mg : Str → Option Value) (base : Heap) (c : Cl) (n : Nat) : Prop := Gf false P w c.K mg base (3 + 2 * n + 1) "_law_some_value" (spM c (w_some_value n))
abbrev H_InvalidProgram_init (P : Program) (w : World) (mg : Str → Option Value) (base : Heap) (c : Cl) : Prop := XkC P w c.K mg base 2 (c.ca 1) false 3 [(["place", "word", "procedure"], [1, 2, 0])] (spXi c 1)
abbrev H_InvalidText_init (P : Program) (w : World) (mg : Str → Option Value) (base : Heap) (c : Cl) : Prop := XkC P w c.K mg base 2 (c.ca 2) false 1 [(["line"], [0])] (spXi c 2)
abbrev H_InvalidStart_init (P : Program) (w : World) (mg : Str → Option Value) (base : Heap) (c : Cl) : Prop := XkC P w c.K mg base 2 (c.ca 3) false 2 [(["index", "word"], [1, 0])] (spXi c 3)
abbrev H_TooLong_init (P : Program) (w : World) (mg : Str → Option Value) (base : Heap) (c : Cl) : Prop := XkC P w c.K mg base 2 (c.ca 4) false 1 [(["steps"], [0])] (spXi c 4)
abbrev H_InvalidCode_init (P : Program) (w : World) (mg : Str → Option Value) (base : Heap) (c : Cl) : Prop := XkC P w c.K mg base 2 (c.ca 5) false 3 [(["row", "procedure", "word"], [2, 1, 0])] (spXi c 5)
abbrev H_NoRoom_init (P : Program) (w : World) (mg : Str → Option Value) (base : Heap) (c : Cl) : Prop := XkC P w c.K mg base 2 (c.ca 6) false 2 [(["number", "procedure"], [1, 0])] (spXi c 6)
abbrev H_InvalidPart_init (P : Program) (w : World) (mg : Str → Option Value) (base : Heap) (c : Cl) : Prop := XkC P w c.K mg base 2 (c.ca 7) false 2 [(["index", "word"], [1, 0])] (spXi c 7)
abbrev H_LinkRefused_init (P : Program) (w : World) (mg : Str → Option Value) (base : Heap) (c : Cl) : Prop := XkC P w c.K mg base 2 (c.ca 8) false 3 [(["caller", "used", "part"], [2, 1, 0])] (spXi c 8)
abbrev H_Unfilled_init (P : Program) (w : World) (mg : Str → Option Value) (base : Heap) (c : Cl) : Prop := XkC P w c.K mg base 2 (c.ca 10) false 4 [(["answers", "carrier", "place", "procedure"], [3, 2, 1, 0])] (spXi c 10)
abbrev H_UnknownName_init (P : Program) (w : World) (mg : Str → Option Value) (base : Heap) (c : Cl) : Prop := XkC P w c.K mg base 2 (c.ca 11) true 1 [(["name"], [0])] (spXi c 11)
abbrev H_made (P : Program) (w : World) (mg : Str → Option Value) (base : Heap) (c : Cl) : Prop := Gf false P w c.K mg base 14 "_law_made" (spM c w_made)
abbrev H_alike (P : Program) (w : World) (mg : Str → Option Value) (base : Heap) (c : Cl) : Prop := Gf false P w c.K mg base 2 "_law_alike" (spM c w_alike)
abbrev H_kept (P : Program) (w : World) (mg : Str → Option Value) (base : Heap) (c : Cl) : Prop := Gf false P w c.K mg base 2 "_law_kept" (spM c w_kept)
abbrev H_sorts (P : Program) (w : World) (mg : Str → Option Value) (base : Heap) (c : Cl) : Prop := Gf false P w c.K mg base 2 "_law_sorts" (spM c w_sorts)
abbrev H_thrown (P : Program) (w : World) (mg : Str → Option Value) (base : Heap) (c : Cl) : Prop := GfX P w c.K mg base 4 "_law_thrown" (spMX c w_thrown)
abbrev H_caught (P : Program) (w : World) (mg : Str → Option Value) (base : Heap) (c : Cl) : Prop := Gf false P w c.K mg base 6 "_law_caught" (spM c w_caught)
abbrev H_law (P : Program) (w : World) (mg : Str → Option Value) (base : Heap) (c : Cl) : Prop := Gf false P w c.K mg base 16 "law" (spM c w_law)
abbrev s_box : Stmt := top 14
abbrev N_box : List Str := ["_law_script", "_law_k", "_law_cell", "_law_seed"]
theorem sc_box : FnScope N_box ["_law_script", "_law_k"] (defScope s_box) := ⟨rfl, rfl, rfl, by decide +kernel, rfl, by decide +kernel, by decide +kernel⟩
abbrev s_take : Stmt := top 15
abbrev N_take : List Str := ["_law_box_here", "_law_many", "_law_digit", "_law_one"]
theorem sc_take : FnScope N_take ["_law_box_here", "_law_many"] (defScope s_take) := ⟨rfl, rfl, rfl, by decide +kernel, rfl, by decide +kernel, by decide +kernel⟩
abbrev s_some_value : Stmt := top 17
abbrev N_some_value : List Str := ["_law_box_here", "_law_deep", "_law_form", "_law_turn", "_law_some"]
theorem sc_some_value : FnScope N_some_value ["_law_box_here", "_law_deep"] (defScope s_some_value) := ⟨rfl, rfl, rfl, by decide +kernel, rfl, by decide +kernel, by decide +kernel⟩
abbrev s_InvalidProgram_init : Stmt := inClass (top 2) 0
abbrev N_InvalidProgram_init : List Str := ["self", "word", "procedure", "place"]
theorem sc_InvalidProgram_init : FnScope N_InvalidProgram_init ["self", "word", "procedure", "place"] (defScope s_InvalidProgram_init) := ⟨rfl, rfl, rfl, by decide +kernel, rfl, by decide +kernel, by decide +kernel⟩
abbrev s_InvalidText_init : Stmt := inClass (top 3) 0
abbrev N_InvalidText_init : List Str := ["self", "line"]
theorem sc_InvalidText_init : FnScope N_InvalidText_init ["self", "line"] (defScope s_InvalidText_init) := ⟨rfl, rfl, rfl, by decide +kernel, rfl, by decide +kernel, by decide +kernel⟩
abbrev s_InvalidStart_init : Stmt := inClass (top 4) 0
abbrev N_InvalidStart_init : List Str := ["self", "word", "index"]
theorem sc_InvalidStart_init : FnScope N_InvalidStart_init ["self", "word", "index"] (defScope s_InvalidStart_init) := ⟨rfl, rfl, rfl, by decide +kernel, rfl, by decide +kernel, by decide +kernel⟩
abbrev s_TooLong_init : Stmt := inClass (top 5) 0
abbrev N_TooLong_init : List Str := ["self", "steps"]
theorem sc_TooLong_init : FnScope N_TooLong_init ["self", "steps"] (defScope s_TooLong_init) := ⟨rfl, rfl, rfl, by decide +kernel, rfl, by decide +kernel, by decide +kernel⟩
abbrev s_InvalidCode_init : Stmt := inClass (top 6) 0
abbrev N_InvalidCode_init : List Str := ["self", "word", "procedure", "row"]
theorem sc_InvalidCode_init : FnScope N_InvalidCode_init ["self", "word", "procedure", "row"] (defScope s_InvalidCode_init) := ⟨rfl, rfl, rfl, by decide +kernel, rfl, by decide +kernel, by decide +kernel⟩
abbrev s_NoRoom_init : Stmt := inClass (top 7) 0
abbrev N_NoRoom_init : List Str := ["self", "procedure", "number"]
theorem sc_NoRoom_init : FnScope N_NoRoom_init ["self", "procedure", "number"] (defScope s_NoRoom_init) := ⟨rfl, rfl, rfl, by decide +kernel, rfl, by decide +kernel, by decide +kernel⟩
abbrev s_InvalidPart_init : Stmt := inClass (top 8) 0
abbrev N_InvalidPart_init : List Str := ["self", "word", "index"]
theorem sc_InvalidPart_init : FnScope N_InvalidPart_init ["self", "word", "index"] (defScope s_InvalidPart_init) := ⟨rfl, rfl, rfl, by decide +kernel, rfl, by decide +kernel, by decide +kernel⟩
abbrev s_LinkRefused_init : Stmt := inClass (top 9) 0
abbrev N_LinkRefused_init : List Str := ["self", "part", "used", "caller"]
theorem sc_LinkRefused_init : FnScope N_LinkRefused_init ["self", "part", "used", "caller"] (defScope s_LinkRefused_init) := ⟨rfl, rfl, rfl, by decide +kernel, rfl, by decide +kernel, by decide +kernel⟩
abbrev s_Unfilled_init : Stmt := inClass (top 11) 0
abbrev N_Unfilled_init : List Str := ["self", "procedure", "place", "carrier", "answers"]
theorem sc_Unfilled_init : FnScope N_Unfilled_init ["self", "procedure", "place", "carrier", "answers"] (defScope s_Unfilled_init) := ⟨rfl, rfl, rfl, by decide +kernel, rfl, by decide +kernel, by decide +kernel⟩
abbrev s_UnknownName_init : Stmt := inClass (top 12) 0
abbrev N_UnknownName_init : List Str := ["self", "name"]
theorem sc_UnknownName_init : FnScope N_UnknownName_init ["self", "name"] (defScope s_UnknownName_init) := ⟨rfl, rfl, rfl, by decide +kernel, rfl, by decide +kernel, by decide +kernel⟩
abbrev s_made : Stmt := top 18
abbrev N_made : List Str := ["_law_box_here", "_law_a", "_law_b", "_law_c", "_law_d", "_law_turn", "_law_found"]
theorem sc_made : FnScope N_made ["_law_box_here"] (defScope s_made) := ⟨rfl, rfl, rfl, by decide +kernel, rfl, by decide +kernel, by decide +kernel⟩
abbrev s_alike : Stmt := top 16
abbrev N_alike : List Str := ["_law_found", "_law_due", "_law_left", "_law_one", "_law_other"]
theorem sc_alike : FnScope N_alike ["_law_found", "_law_due"] (defScope s_alike) := ⟨rfl, rfl, rfl, by decide +kernel, rfl, by decide +kernel, by decide +kernel⟩
abbrev s_kept : Stmt := top 19
abbrev N_kept : List Str := ["_law_e"]
theorem sc_kept : FnScope N_kept ["_law_e"] (defScope s_kept) := ⟨rfl, rfl, rfl, by decide +kernel, rfl, by decide +kernel, by decide +kernel⟩
abbrev s_sorts : Stmt := top 20
abbrev N_sorts : List Str := ["_law_one", "_law_found"]
theorem sc_sorts : FnScope N_sorts ["_law_one"] (defScope s_sorts) := ⟨rfl, rfl, rfl, by decide +kernel, rfl, by decide +kernel, by decide +kernel⟩
abbrev s_thrown : Stmt := top 21
abbrev N_thrown : List Str := ["_law_form", "_law_a"]
theorem sc_thrown : FnScope N_thrown ["_law_form", "_law_a"] (defScope s_thrown) := ⟨rfl, rfl, rfl, by decide +kernel, rfl, by decide +kernel, by decide +kernel⟩
abbrev s_caught : Stmt := top 22
abbrev N_caught : List Str := ["_law_form", "_law_a", "_law_found"]
theorem sc_caught : FnScope N_caught ["_law_form", "_law_a"] (defScope s_caught) := ⟨rfl, rfl, rfl, by decide +kernel, rfl, by decide +kernel, by decide +kernel⟩
abbrev s_law : Stmt := top 23
abbrev N_law : List Str := ["_law_script", "_law_k", "_law_box_here", "_law_order", "_law_value", "_law_form", "_law_at", "_law_pair", "_law_one", "_law_due"]
theorem sc_law : FnScope N_law ["_law_script"] (defScope s_law) := ⟨rfl, rfl, rfl, by decide +kernel, rfl, by decide +kernel, by decide +kernel⟩
def t_box (c : Cl) : TS :=
  tSeq (tAsg (tOp (rAddU c.K) (tOp (rMulU) (tC (.int 6841)) (tVar 1)) (tC (.int 37))) (gName 2))
    (tSeq (tIfS (tTest (tOp (rLtI) (tVar 1) (tCB (cLen c.K) (tCons (tVar 0) (tNil))))) (tAsg (tOp (rIx c.K) (tVar 0) (tVar 1)) (gName 2)) (tIfS (tTest (tOp (rGtI) (tCB (cLen c.K) (tCons (tVar 0) (tNil))) (tC (.int 0)))) (tAsg (tOp (rAddU c.K) (tVar 2) (tOp (rMulU) (tOp (rModI) (tOp (rIx c.K) (tVar 0) (tOp (rModI) (tVar 1) (tCB (cLen c.K) (tCons (tVar 0) (tNil))))) (tC (.int 2147483629))) (tC (.int 69623)))) (gName 2)) (tNext)))
    (tSeq (tAsg (tOp (rAddU c.K) (tOp (rModI) (tOp (rAddU c.K) (tOp (rMulU) (tOp (rModI) (tVar 2) (tC (.int 2147483629))) (tC (.int 48271))) (tOp (rMulU) (tC (.int 40692)) (tVar 1))) (tC (.int 2147483629))) (tC (.int 1))) (gName 3))
    (tRet (tLstO (tCons (tOp (rIx c.K) (tLst (tCons (tC (.int 0)) (tCons (tVar 2) (tNil)))) (tCB (cInt1) (tCons (tOp (rGeI) (tVar 2) (tOp (rPowI) (tC (.int 10)) (tC (.int 18)))) (tNil)))) (tCons (tVar 3) (tCons (tC (.int 0)) (tNil))))))))
def t_take (c : Cl) : TS :=
  tSeq (tIfS (tTest (tOp (rGtI) (tOp (rIx c.K) (tVar 0) (tC (.int 0))) (tC (.int 0)))) (tSeq (tAsg (tOp (rModI) (tOp (rIx c.K) (tVar 0) (tC (.int 0))) (tVar 1)) (gName 2))
    (tSeq (tAsg (tOp (rFdivI) (tOp (rIx c.K) (tVar 0) (tC (.int 0))) (tVar 1)) (gSub (tVar 0) (tC (.int 0)) rSetL))
    (tRet (tVar 2)))) (tNext))
    (tSeq (tAsg (tOp (rAddU c.K) (tOp (rIx c.K) (tVar 0) (tC (.int 2))) (tC (.int 1))) (gSub (tVar 0) (tC (.int 2)) rSetL))
    (tSeq (tAsg (tOp (rModI) (tOp (rMulU) (tOp (rAddU c.K) (tOp (rIx c.K) (tVar 0) (tC (.int 1))) (tOp (rMulU) (tC (.int 104729)) (tOp (rIx c.K) (tVar 0) (tC (.int 2))))) (tC (.int 69623))) (tC (.int 2147483647))) (gName 3))
    (tSeq (tAsg (tOp (rAddU c.K) (tOp (rModI) (tOp (rAddU c.K) (tOp (rMulU) (tVar 3) (tC (.int 48271))) (tC (.int 30103))) (tC (.int 2147483629))) (tC (.int 1))) (gSub (tVar 0) (tC (.int 1)) rSetL))
    (tRet (tOp (rModI) (tOp (rFdivI) (tOp (rAddU c.K) (tOp (rMulU) (tVar 3) (tC (.int 2147483647))) (tOp (rIx c.K) (tVar 0) (tC (.int 1)))) (tC (.int 8191))) (tVar 1))))))
def t_some_value (c : Cl) (wr : W) : TS :=
  tSeq (tAsg (tCall (spM c w_take) [] E0 (tCons (tVar 0) (tCons (tC (.int 10)) (tNil)))) (gName 2))
    (tSeq (tIfS (tAnd (tTest (tOp (rLtI) (tVar 2) (tC (.int 4)))) (tTest (tOp (rGtI) (tVar 1) (tC (.int 0))))) (tRet (tCB (cTuple c.K) (tCons (tLc (iRng1 (tCons (tCall (spM c w_take) [] E0 (tCons (tVar 0) (tCons (tC (.int 4)) (tNil)))) (tNil))) (gName 3) (tYes) (tCall (spM c wr) [] E0 (tCons (tVar 0) (tCons (tOp (rSubI) (tVar 1) (tC (.int 1))) (tNil)))) [3]) (tNil)))) (tNext))
    (tSeq (tAsg (tLst (tCons (tC (.str "")) (tCons (tC (.str "a b")) (tCons (tC (.str "c\n")) (tCons (tC (.int 0)) (tCons (tUn rNegI (tC (.int 1))) (tCons (tC (.int 61)) (tCons (tOp (rPowI) (tC (.int 10)) (tC (.int 30))) (tCons (tC (.bl true)) (tCons (tC (.bl false)) (tCons (tC .non) (tCons (tTup (tNil)) (tNil))))))))))))) (gName 4))
    (tRet (tOp (rIx c.K) (tVar 4) (tCall (spM c w_take) [] E0 (tCons (tVar 0) (tCons (tC (.int 11)) (tNil))))))))
def t_InvalidProgram_init (c : Cl) : TS :=
  tSeq (tXst c.K "word" (tVar 0) (tVar 1))
    (tSeq (tXst c.K "procedure" (tVar 0) (tVar 2))
    (tXst c.K "place" (tVar 0) (tVar 3)))
def t_InvalidText_init (c : Cl) : TS :=
  tXst c.K "line" (tVar 0) (tVar 1)
def t_InvalidStart_init (c : Cl) : TS :=
  tSeq (tXst c.K "word" (tVar 0) (tVar 1))
    (tXst c.K "index" (tVar 0) (tVar 2))
def t_TooLong_init (c : Cl) : TS :=
  tXst c.K "steps" (tVar 0) (tVar 1)
def t_InvalidCode_init (c : Cl) : TS :=
  tSeq (tXst c.K "word" (tVar 0) (tVar 1))
    (tSeq (tXst c.K "procedure" (tVar 0) (tVar 2))
    (tXst c.K "row" (tVar 0) (tVar 3)))
def t_NoRoom_init (c : Cl) : TS :=
  tSeq (tXst c.K "procedure" (tVar 0) (tVar 1))
    (tXst c.K "number" (tVar 0) (tVar 2))
def t_InvalidPart_init (c : Cl) : TS :=
  tSeq (tXst c.K "word" (tVar 0) (tVar 1))
    (tXst c.K "index" (tVar 0) (tVar 2))
def t_LinkRefused_init (c : Cl) : TS :=
  tSeq (tXst c.K "part" (tVar 0) (tVar 1))
    (tSeq (tXst c.K "used" (tVar 0) (tVar 2))
    (tXst c.K "caller" (tVar 0) (tVar 3)))
def t_Unfilled_init (c : Cl) : TS :=
  tSeq (tXst c.K "procedure" (tVar 0) (tVar 1))
    (tSeq (tXst c.K "place" (tVar 0) (tVar 2))
    (tSeq (tXst c.K "carrier" (tVar 0) (tVar 3))
    (tXst c.K "answers" (tVar 0) (tVar 4))))
def t_UnknownName_init (c : Cl) : TS :=
  tXst c.K "name" (tVar 0) (tVar 1)
def t_made (c : Cl) : TS :=
  tSeq (tAsg (tLc (iRng1 (tCons (tC (.int 4)) (tNil))) (gName 5) (tYes) (tCall (spM c (w_some_value 4)) [] E0 (tCons (tVar 0) (tCons (tC (.int 3)) (tNil)))) [5]) (gLst c.K 4 (gCons (gName 1) (gCons (gName 2) (gCons (gName 3) (gCons (gName 4) (gNil)))))))
    (tSeq (tAsg (tLst (tCons (tTup (tCons (tMkV (c.ca 1) 3 0 (spXi c 1) (fun vs _ => vs) (tCons (tVar 1) (tCons (tVar 2) (tCons (tVar 3) (tNil)))) tNil) (tCons (tLst (tCons (tVar 1) (tCons (tVar 2) (tCons (tVar 3) (tNil))))) (tNil)))) (tCons (tTup (tCons (tMkV (c.ca 1) 0 3 (spXi c 1) (fun vs zs => vs ++ prm [1, 2, 0] zs) tNil (tCons (tVar 3) (tCons (tVar 1) (tCons (tVar 2) (tNil))))) (tCons (tLst (tCons (tVar 1) (tCons (tVar 2) (tCons (tVar 3) (tNil))))) (tNil)))) (tNil)))) (gName 6))
    (tSeq (tAsg (tOp (rAddU c.K) (tVar 6) (tLst (tCons (tTup (tCons (tMkV (c.ca 2) 1 0 (spXi c 2) (fun vs _ => vs) (tCons (tVar 1) (tNil)) tNil) (tCons (tLst (tCons (tVar 1) (tNil))) (tNil)))) (tCons (tTup (tCons (tMkV (c.ca 2) 0 1 (spXi c 2) (fun vs zs => vs ++ prm [0] zs) tNil (tCons (tVar 2) (tNil))) (tCons (tLst (tCons (tVar 2) (tNil))) (tNil)))) (tCons (tTup (tCons (tMkV (c.ca 3) 2 0 (spXi c 3) (fun vs _ => vs) (tCons (tVar 1) (tCons (tVar 2) (tNil))) tNil) (tCons (tLst (tCons (tVar 1) (tCons (tVar 2) (tNil)))) (tNil)))) (tNil)))))) (gName 6))
    (tSeq (tAsg (tOp (rAddU c.K) (tVar 6) (tLst (tCons (tTup (tCons (tMkV (c.ca 3) 0 2 (spXi c 3) (fun vs zs => vs ++ prm [1, 0] zs) tNil (tCons (tVar 2) (tCons (tVar 1) (tNil)))) (tCons (tLst (tCons (tVar 1) (tCons (tVar 2) (tNil)))) (tNil)))) (tCons (tTup (tCons (tMkV (c.ca 4) 1 0 (spXi c 4) (fun vs _ => vs) (tCons (tVar 3) (tNil)) tNil) (tCons (tLst (tCons (tVar 3) (tNil))) (tNil)))) (tCons (tTup (tCons (tMkV (c.ca 4) 0 1 (spXi c 4) (fun vs zs => vs ++ prm [0] zs) tNil (tCons (tVar 4) (tNil))) (tCons (tLst (tCons (tVar 4) (tNil))) (tNil)))) (tNil)))))) (gName 6))
    (tSeq (tAsg (tOp (rAddU c.K) (tVar 6) (tLst (tCons (tTup (tCons (tMkV (c.ca 5) 3 0 (spXi c 5) (fun vs _ => vs) (tCons (tVar 1) (tCons (tVar 2) (tCons (tVar 3) (tNil)))) tNil) (tCons (tLst (tCons (tVar 1) (tCons (tVar 2) (tCons (tVar 3) (tNil))))) (tNil)))) (tCons (tTup (tCons (tMkV (c.ca 5) 0 3 (spXi c 5) (fun vs zs => vs ++ prm [2, 1, 0] zs) tNil (tCons (tVar 3) (tCons (tVar 2) (tCons (tVar 1) (tNil))))) (tCons (tLst (tCons (tVar 1) (tCons (tVar 2) (tCons (tVar 3) (tNil))))) (tNil)))) (tNil))))) (gName 6))
    (tSeq (tAsg (tOp (rAddU c.K) (tVar 6) (tLst (tCons (tTup (tCons (tMkV (c.ca 6) 2 0 (spXi c 6) (fun vs _ => vs) (tCons (tVar 1) (tCons (tVar 2) (tNil))) tNil) (tCons (tLst (tCons (tVar 1) (tCons (tVar 2) (tNil)))) (tNil)))) (tCons (tTup (tCons (tMkV (c.ca 6) 0 2 (spXi c 6) (fun vs zs => vs ++ prm [1, 0] zs) tNil (tCons (tVar 2) (tCons (tVar 1) (tNil)))) (tCons (tLst (tCons (tVar 1) (tCons (tVar 2) (tNil)))) (tNil)))) (tCons (tTup (tCons (tMkV (c.ca 7) 2 0 (spXi c 7) (fun vs _ => vs) (tCons (tVar 3) (tCons (tVar 4) (tNil))) tNil) (tCons (tLst (tCons (tVar 3) (tCons (tVar 4) (tNil)))) (tNil)))) (tNil)))))) (gName 6))
    (tSeq (tAsg (tOp (rAddU c.K) (tVar 6) (tLst (tCons (tTup (tCons (tMkV (c.ca 7) 0 2 (spXi c 7) (fun vs zs => vs ++ prm [1, 0] zs) tNil (tCons (tVar 4) (tCons (tVar 3) (tNil)))) (tCons (tLst (tCons (tVar 3) (tCons (tVar 4) (tNil)))) (tNil)))) (tCons (tTup (tCons (tMkV (c.ca 8) 3 0 (spXi c 8) (fun vs _ => vs) (tCons (tVar 1) (tCons (tVar 2) (tCons (tVar 3) (tNil)))) tNil) (tCons (tLst (tCons (tVar 1) (tCons (tVar 2) (tCons (tVar 3) (tNil))))) (tNil)))) (tNil))))) (gName 6))
    (tSeq (tAsg (tOp (rAddU c.K) (tVar 6) (tLst (tCons (tTup (tCons (tMkV (c.ca 8) 0 3 (spXi c 8) (fun vs zs => vs ++ prm [2, 1, 0] zs) tNil (tCons (tVar 3) (tCons (tVar 2) (tCons (tVar 1) (tNil))))) (tCons (tLst (tCons (tVar 1) (tCons (tVar 2) (tCons (tVar 3) (tNil))))) (tNil)))) (tCons (tTup (tCons (tMk0 (c.ca 9)) (tCons (tLst (tNil)) (tNil)))) (tNil))))) (gName 6))
    (tSeq (tAsg (tOp (rAddU c.K) (tVar 6) (tLst (tCons (tTup (tCons (tMkV (c.ca 10) 4 0 (spXi c 10) (fun vs _ => vs) (tCons (tVar 1) (tCons (tVar 2) (tCons (tVar 3) (tCons (tVar 4) (tNil))))) tNil) (tCons (tLst (tCons (tVar 1) (tCons (tVar 2) (tCons (tVar 3) (tCons (tVar 4) (tNil)))))) (tNil)))) (tNil)))) (gName 6))
    (tSeq (tAsg (tOp (rAddU c.K) (tVar 6) (tLst (tCons (tTup (tCons (tMkV (c.ca 10) 0 4 (spXi c 10) (fun vs zs => vs ++ prm [3, 2, 1, 0] zs) tNil (tCons (tVar 4) (tCons (tVar 3) (tCons (tVar 2) (tCons (tVar 1) (tNil)))))) (tCons (tLst (tCons (tVar 1) (tCons (tVar 2) (tCons (tVar 3) (tCons (tVar 4) (tNil)))))) (tNil)))) (tNil)))) (gName 6))
    (tRet (tOp (rAddU c.K) (tVar 6) (tLst (tCons (tTup (tCons (tMkV (c.ca 11) 1 0 (spXi c 11) (fun vs _ => vs) (tCons (tVar 4) (tNil)) tNil) (tCons (tLst (tCons (tVar 4) (tNil))) (tNil)))) (tCons (tTup (tCons (tMkV (c.ca 11) 0 1 (spXi c 11) (fun vs zs => vs ++ prm [0] zs) tNil (tCons (tVar 1) (tNil))) (tCons (tLst (tCons (tVar 1) (tNil))) (tNil)))) (tNil)))))))))))))))
def t_alike (c : Cl) : TS :=
  tSeq (tAsg (tLstO (tCons (tTup (tCons (tVar 0) (tCons (tVar 1) (tNil)))) (tNil))) (gName 2))
    (tSeq (tWhile (tTest (tOp (rNeU c.K) (tVar 2) (tLst (tNil)))) (tSeq (tAsg (tBM0 c.K "list" rPop (tVar 2)) (gTup c.K 2 (gCons (gName 3) (gCons (gName 4) (gNil)))))
    (tIfS (tB (tCB (cIsi c.K) (tCons (tVar 4) (tCons (tTup (tCons (tC (.ty "tuple")) (tCons (tC (.ty "list")) (tNil)))) (tNil))))) (tSeq (tIfS (tOr (tTest (tOp (rNeU c.K) (tCB (cIsi c.K) (tCons (tVar 3) (tCons (tC (.ty "tuple")) (tNil)))) (tCB (cIsi c.K) (tCons (tVar 4) (tCons (tC (.ty "tuple")) (tNil)))))) (tTest (tOp (rNeU c.K) (tCB (cIsi c.K) (tCons (tVar 3) (tCons (tC (.ty "list")) (tNil)))) (tCB (cIsi c.K) (tCons (tVar 4) (tCons (tC (.ty "list")) (tNil))))))) (tRet (tC (.bl false))) (tNext))
    (tSeq (tIfS (tTest (tOp (rNeU c.K) (tCB (cLen c.K) (tCons (tVar 3) (tNil))) (tCB (cLen c.K) (tCons (tVar 4) (tNil))))) (tRet (tC (.bl false))) (tNext))
    (tDrop (tBM c.K "list" rExtend (tVar 2) (tCons (tListZip c.K (tCons (tVar 3) (tCons (tVar 4) (tNil)))) (tNil)))))) (tIfS (tOr (tB (tCB (cIsi c.K) (tCons (tVar 3) (tCons (tTup (tCons (tC (.ty "tuple")) (tCons (tC (.ty "list")) (tNil)))) (tNil))))) (tOr (tTest (tOp (rNeU c.K) (tCB (cIsi c.K) (tCons (tVar 3) (tCons (tC (.ty "bool")) (tNil)))) (tCB (cIsi c.K) (tCons (tVar 4) (tCons (tC (.ty "bool")) (tNil)))))) (tTest (tOp (rNeU c.K) (tVar 3) (tVar 4))))) (tRet (tC (.bl false))) (tNext)))))
    (tRet (tC (.bl true))))
def t_kept (c : Cl) : TS :=
  tSeq (tIfS (tB (tCB (rIsV c.K) (tCons (tVar 0) (tCons (tC (.ref (c.ca 1))) (tNil))))) (tRet (tLst (tCons (tXfv c.K "word" (tVar 0)) (tCons (tXfv c.K "procedure" (tVar 0)) (tCons (tXfv c.K "place" (tVar 0)) (tNil)))))) (tNext))
    (tSeq (tIfS (tB (tCB (rIsV c.K) (tCons (tVar 0) (tCons (tC (.ref (c.ca 5))) (tNil))))) (tRet (tLst (tCons (tXfv c.K "word" (tVar 0)) (tCons (tXfv c.K "procedure" (tVar 0)) (tCons (tXfv c.K "row" (tVar 0)) (tNil)))))) (tNext))
    (tSeq (tIfS (tB (tCB (rIsV c.K) (tCons (tVar 0) (tCons (tTup (tCons (tC (.ref (c.ca 3))) (tCons (tC (.ref (c.ca 7))) (tNil)))) (tNil))))) (tRet (tLst (tCons (tXfv c.K "word" (tVar 0)) (tCons (tXfv c.K "index" (tVar 0)) (tNil))))) (tNext))
    (tSeq (tIfS (tB (tCB (rIsV c.K) (tCons (tVar 0) (tCons (tC (.ref (c.ca 8))) (tNil))))) (tRet (tLst (tCons (tXfv c.K "part" (tVar 0)) (tCons (tXfv c.K "used" (tVar 0)) (tCons (tXfv c.K "caller" (tVar 0)) (tNil)))))) (tNext))
    (tSeq (tIfS (tB (tCB (rIsV c.K) (tCons (tVar 0) (tCons (tC (.ref (c.ca 10))) (tNil))))) (tRet (tLst (tCons (tXfv c.K "procedure" (tVar 0)) (tCons (tXfv c.K "place" (tVar 0)) (tCons (tXfv c.K "carrier" (tVar 0)) (tCons (tXfv c.K "answers" (tVar 0)) (tNil))))))) (tNext))
    (tSeq (tIfS (tB (tCB (rIsV c.K) (tCons (tVar 0) (tCons (tC (.ref (c.ca 6))) (tNil))))) (tRet (tLst (tCons (tXfv c.K "procedure" (tVar 0)) (tCons (tXfv c.K "number" (tVar 0)) (tNil))))) (tNext))
    (tSeq (tIfS (tB (tCB (rIsV c.K) (tCons (tVar 0) (tCons (tC (.ref (c.ca 2))) (tNil))))) (tRet (tLst (tCons (tXfv c.K "line" (tVar 0)) (tNil)))) (tNext))
    (tSeq (tIfS (tB (tCB (rIsV c.K) (tCons (tVar 0) (tCons (tC (.ref (c.ca 4))) (tNil))))) (tRet (tLst (tCons (tXfv c.K "steps" (tVar 0)) (tNil)))) (tNext))
    (tRet (tIf (tB (tCB (rIsV c.K) (tCons (tVar 0) (tCons (tC (.ref (c.ca 11))) (tNil))))) (tLst (tCons (tXfv c.K "name" (tVar 0)) (tNil))) (tLst (tNil)))))))))))
def t_sorts (c : Cl) : TS :=
  tSeq (tAsg (tLst (tCons (tCB (rIsV c.K) (tCons (tVar 0) (tCons (tC (.ref (c.ca 1))) (tNil)))) (tCons (tCB (rIsV c.K) (tCons (tVar 0) (tCons (tC (.ref (c.ca 2))) (tNil)))) (tCons (tCB (rIsV c.K) (tCons (tVar 0) (tCons (tC (.ref (c.ca 3))) (tNil)))) (tNil))))) (gName 1))
    (tSeq (tAsg (tOp (rAddU c.K) (tVar 1) (tLst (tCons (tCB (rIsV c.K) (tCons (tVar 0) (tCons (tC (.ref (c.ca 4))) (tNil)))) (tCons (tCB (rIsV c.K) (tCons (tVar 0) (tCons (tC (.ref (c.ca 5))) (tNil)))) (tCons (tCB (rIsV c.K) (tCons (tVar 0) (tCons (tC (.ref (c.ca 6))) (tNil)))) (tNil)))))) (gName 1))
    (tSeq (tAsg (tOp (rAddU c.K) (tVar 1) (tLst (tCons (tCB (rIsV c.K) (tCons (tVar 0) (tCons (tC (.ref (c.ca 7))) (tNil)))) (tCons (tCB (rIsV c.K) (tCons (tVar 0) (tCons (tC (.ref (c.ca 8))) (tNil)))) (tCons (tCB (rIsV c.K) (tCons (tVar 0) (tCons (tC (.ref (c.ca 9))) (tNil)))) (tNil)))))) (gName 1))
    (tRet (tOp (rAddU c.K) (tVar 1) (tLst (tCons (tCB (rIsV c.K) (tCons (tVar 0) (tCons (tC (.ref (c.ca 10))) (tNil)))) (tCons (tCB (rIsV c.K) (tCons (tVar 0) (tCons (tC (.ref (c.ca 11))) (tNil)))) (tNil))))))))
def t_thrown (c : Cl) (W : WX) : TS :=
  tSeq (tIfS (tTest (tOp (rEqU c.K) (tVar 0) (tC (.int 0)))) (tRaise W (tMkR (c.ca 1) (spXi c 1) (tCons (tVar 1) (tCons (tVar 1) (tCons (tVar 1) (tNil)))))) (tNext))
    (tSeq (tIfS (tTest (tOp (rEqU c.K) (tVar 0) (tC (.int 1)))) (tRaise W (tMkR (c.ca 2) (spXi c 2) (tCons (tVar 1) (tNil)))) (tNext))
    (tSeq (tIfS (tTest (tOp (rEqU c.K) (tVar 0) (tC (.int 2)))) (tRaise W (tMkR (c.ca 3) (spXi c 3) (tCons (tVar 1) (tCons (tVar 1) (tNil))))) (tNext))
    (tSeq (tIfS (tTest (tOp (rEqU c.K) (tVar 0) (tC (.int 3)))) (tRaise W (tMkR (c.ca 4) (spXi c 4) (tCons (tVar 1) (tNil)))) (tNext))
    (tSeq (tIfS (tTest (tOp (rEqU c.K) (tVar 0) (tC (.int 4)))) (tRaise W (tMkR (c.ca 5) (spXi c 5) (tCons (tVar 1) (tCons (tVar 1) (tCons (tVar 1) (tNil)))))) (tNext))
    (tSeq (tIfS (tTest (tOp (rEqU c.K) (tVar 0) (tC (.int 5)))) (tRaise W (tMkR (c.ca 6) (spXi c 6) (tCons (tVar 1) (tCons (tVar 1) (tNil))))) (tNext))
    (tSeq (tIfS (tTest (tOp (rEqU c.K) (tVar 0) (tC (.int 6)))) (tRaise W (tMkR (c.ca 7) (spXi c 7) (tCons (tVar 1) (tCons (tVar 1) (tNil))))) (tNext))
    (tSeq (tIfS (tTest (tOp (rEqU c.K) (tVar 0) (tC (.int 7)))) (tRaise W (tMkR (c.ca 8) (spXi c 8) (tCons (tVar 1) (tCons (tVar 1) (tCons (tVar 1) (tNil)))))) (tNext))
    (tSeq (tIfS (tTest (tOp (rEqU c.K) (tVar 0) (tC (.int 8)))) (tRaise W (tMkR0 (c.ca 9))) (tNext))
    (tSeq (tIfS (tTest (tOp (rEqU c.K) (tVar 0) (tC (.int 9)))) (tRaise W (tMkR (c.ca 10) (spXi c 10) (tCons (tVar 1) (tCons (tVar 1) (tCons (tVar 1) (tCons (tVar 1) (tNil))))))) (tNext))
    (tRaise W (tMkR (c.ca 11) (spXi c 11) (tCons (tVar 1) (tNil)))))))))))))
def t_caught (c : Cl) : TS :=
  tSeq (tAsg (tC (.str "none")) (gName 2))
    (tSeq (tTryX WF c.K (fun W => tDrop (tCallS (spMX c w_thrown) (WE W) (tCons (tVar 0) (tCons (tVar 1) (tNil))))) [((.type "KeyError"), fun _ _ _ => tAsg (tC (.str "key")) (gName 2)), ((.ref (c.ca 0)), fun _ _ _ => tAsg (tC (.str "sour")) (gName 2))])
    (tRet (tVar 2)))
def t_law (c : Cl) : TS :=
  tSeq (tFor (iRng1 (tCons (tCB (cMax2) (tCons (tC (.int 1)) (tCons (tCB (cMin2) (tCons (tC (.int 4)) (tCons (tCB (cLen c.K) (tCons (tVar 0) (tNil))) (tNil)))) (tNil)))) (tNil))) (gName 1) (tSeq (tAsg (tCall (spM c w_box) [] E0 (tCons (tVar 0) (tCons (tVar 1) (tNil)))) (gName 2))
    (tSeq (tAsg (tLst (tCons (tC (.int 0)) (tCons (tC (.int 0)) (tCons (tC (.int 1)) (tCons (tC (.int 1)) (tCons (tC (.int 2)) (tCons (tC (.int 2)) (tCons (tC (.int 3)) (tCons (tC (.int 3)) (tCons (tC (.int 4)) (tCons (tC (.int 4)) (tCons (tC (.int 5)) (tCons (tC (.int 5)) (tCons (tC (.int 6)) (tCons (tC (.int 6)) (tCons (tC (.int 7)) (tCons (tC (.int 7)) (tCons (tC (.int 8)) (tCons (tC (.int 9)) (tCons (tC (.int 9)) (tCons (tC (.int 10)) (tCons (tC (.int 10)) (tNil))))))))))))))))))))))) (gName 3))
    (tSeq (tFor (iEnumU c.K (tCons (tCall (spM c w_made) [] E0 (tCons (tVar 2) (tNil))) tNil)) (gTup c.K 2 (gCons (gName 6) (gCons (gName 7) (gNil)))) (tSeq (tAsg (tVar 7) (gTup c.K 2 (gCons (gName 8) (gCons (gName 9) (gNil)))))
    (tSeq (tIfS (tOr (tNot (tB (tCall (spM c w_alike) [] E0 (tCons (tCall (spM c w_kept) [] E0 (tCons (tVar 8) (tNil))) (tCons (tVar 9) (tNil)))))) (tTest (tOp (rNeU c.K) (tCall (spM c w_sorts) [] E0 (tCons (tVar 8) (tNil))) (tLc (iRng1 (tCons (tC (.int 11)) (tNil))) (gName 5) (tYes) (tOp (rEqU c.K) (tVar 5) (tOp (rIx c.K) (tVar 3) (tVar 6))) [5])))) (tRet (tC (.bl false))) (tNext))
    (tSeq (tIfS (tTest (tOp (rNeU c.K) (tCB (rIsV c.K) (tCons (tVar 8) (tCons (tC (.ref (c.ca 0))) (tNil)))) (tNotV (tCB (rIsV c.K) (tCons (tVar 8) (tCons (tC (.ref (c.ca 11))) (tNil))))))) (tRet (tC (.bl false))) (tNext))
    (tIfS (tTest (tOp (rEqU c.K) (tCB (rIsV c.K) (tCons (tVar 8) (tCons (tC (.ty "KeyError")) (tNil)))) (tCB (rIsV c.K) (tCons (tVar 8) (tCons (tC (.ty "ValueError")) (tNil)))))) (tRet (tC (.bl false))) (tNext))))))
    (tSeq (tAsg (tCall (spM c (w_some_value 4)) [] E0 (tCons (tVar 2) (tCons (tC (.int 2)) (tNil)))) (gName 4))
    (tFor (iRng1 (tCons (tC (.int 11)) (tNil))) (gName 5) (tIfS (tTest (tOp (rNeU c.K) (tCall (spM c w_caught) [] E0 (tCons (tVar 5) (tCons (tVar 4) (tNil)))) (tOp (rIx c.K) (tLst (tCons (tC (.str "sour")) (tCons (tC (.str "key")) (tNil)))) (tCB (cInt1) (tCons (tOp (rEqU c.K) (tVar 5) (tC (.int 10))) (tNil)))))) (tRet (tC (.bl false))) (tNext))))))))
    (tRet (tC (.bl true)))
theorem der_box {P : Program} {w : World} {c : Cl} {mg : Str → Option Value} {base : Heap} {f : Addr} {cdv : Value} {A : Around} {outer : List Env} {s : Shared} {H : Hp} {Ex : XK} (T : Tx mg c)
    (hr : Room 1 (A.deeper (envOfC "_law_box" (defScope s_box) s.heap.objs.size f cdv))) :
    PSs (cxOf CX0 P w c.K mg base N_box "_law_box" (defScope s_box) f cdv A outer s H Ex).nox (defBody s_box) (t_box c) :=
  (pss_cons (ps_set (i := 2) sc_box.nd rfl (by first | exact Or.inl rfl | exact Or.inr rfl) (pe_op p_add (pe_op p_mul pe_int (pv 1)) pe_int))
    (pss_cons (ps_if (pt_cmpR p_lt (pv 1) (pe_callB p_len rfl T.z_len (by decide +kernel) (pa_cons (pv 0) pa_nil)) (nomark _)) (pss_one (ps_set (i := 2) sc_box.nd rfl (by first | exact Or.inl rfl | exact Or.inr rfl) (pe_ix ix_seq (pv 0) (pv 1) (fun _ _ => rfl)))) (pss_one (ps_if (pt_cmpR p_gt (pe_callB p_len rfl T.z_len (by decide +kernel) (pa_cons (pv 0) pa_nil)) pe_int (nomark _)) (pss_one (ps_set (i := 2) sc_box.nd rfl (by first | exact Or.inl rfl | exact Or.inr rfl) (pe_op p_add (pv 2) (pe_op p_mul (pe_op p_mod (pe_ix ix_seq (pv 0) (pe_op p_mod (pv 1) (pe_callB p_len rfl T.z_len (by decide +kernel) (pa_cons (pv 0) pa_nil))) (fun _ _ => rfl)) pe_int) pe_int)))) pss_nil)))
    (pss_cons (ps_set (i := 3) sc_box.nd rfl (by first | exact Or.inl rfl | exact Or.inr rfl) (pe_op p_add (pe_op p_mod (pe_op p_add (pe_op p_mul (pe_op p_mod (pv 2) pe_int) pe_int) (pe_op p_mul pe_int (pv 1))) pe_int) pe_int))
    (pss_one (ps_ret (p_lstO (pa_cons (pe_ix ix_seq (pe_lst (pa_cons pe_int (pa_cons (pv 2) pa_nil))) (pe_callTy p_int1 rfl T.z_int (by decide +kernel) (pa_cons (pe_cmpR p_ge (pv 2) (pe_op p_pow pe_int pe_int) (nomark _)) pa_nil)) (fun _ _ => rfl)) (pa_cons (pv 3) (pa_cons pe_int pa_nil)))))))))
theorem der_take {P : Program} {w : World} {c : Cl} {mg : Str → Option Value} {base : Heap} {f : Addr} {cdv : Value} {A : Around} {outer : List Env} {s : Shared} {H : Hp} {Ex : XK} (T : Tx mg c)
    (hr : Room 1 (A.deeper (envOfC "_law_take" (defScope s_take) s.heap.objs.size f cdv))) :
    PSs (cxOf CX0 P w c.K mg base N_take "_law_take" (defScope s_take) f cdv A outer s H Ex).nox (defBody s_take) (t_take c) :=
  (pss_cons (ps_if (pt_cmpR p_gt (pe_ix ix_seq (pv 0) pe_int (fun _ _ => rfl)) pe_int (nomark _)) (pss_cons (ps_set (i := 2) sc_take.nd rfl (by first | exact Or.inl rfl | exact Or.inr rfl) (pe_op p_mod (pe_ix ix_seq (pv 0) pe_int (fun _ _ => rfl)) (pv 1)))
    (pss_cons (ps_asg (pe_op p_fdiv (pe_ix ix_seq (pv 0) pe_int (fun _ _ => rfl)) (pv 1)) (pg_sub (pv 0) pe_int set_list))
    (pss_one (ps_ret (pv 2))))) pss_nil)
    (pss_cons (ps_asg (pe_op p_add (pe_ix ix_seq (pv 0) pe_int (fun _ _ => rfl)) pe_int) (pg_sub (pv 0) pe_int set_list))
    (pss_cons (ps_set (i := 3) sc_take.nd rfl (by first | exact Or.inl rfl | exact Or.inr rfl) (pe_op p_mod (pe_op p_mul (pe_op p_add (pe_ix ix_seq (pv 0) pe_int (fun _ _ => rfl)) (pe_op p_mul pe_int (pe_ix ix_seq (pv 0) pe_int (fun _ _ => rfl)))) pe_int) pe_int))
    (pss_cons (ps_asg (pe_op p_add (pe_op p_mod (pe_op p_add (pe_op p_mul (pv 3) pe_int) pe_int) pe_int) pe_int) (pg_sub (pv 0) pe_int set_list))
    (pss_one (ps_ret (pe_op p_mod (pe_op p_fdiv (pe_op p_add (pe_op p_mul (pv 3) pe_int) (pe_ix ix_seq (pv 0) pe_int (fun _ _ => rfl))) pe_int) (pv 1))))))))
theorem der_some_value {P : Program} {w : World} {c : Cl} {mg : Str → Option Value} {base : Heap} {f : Addr} {cdv : Value} {A : Around} {outer : List Env} {s : Shared} {H : Hp} {Ex : XK} {n : Nat} {wr : W} (T : Tx mg c) (h_take : H_take P w mg base c) (h_rec : Gf false P w c.K mg base (3 + 2 * n + 1) "_law_some_value" (spM c wr))
    (hr : Room (3 + 2 * n + 2) (A.deeper (envOfC "_law_some_value" (defScope s_some_value) s.heap.objs.size f cdv))) :
    PSs (cxOf CX0 P w c.K mg base N_some_value "_law_some_value" (defScope s_some_value) f cdv A outer s H Ex).nox (defBody s_some_value) (t_some_value c wr) :=
  (pss_cons (ps_set (i := 2) sc_some_value.nd rfl (by first | exact Or.inl rfl | exact Or.inr rfl) (p_call h_take (hr.mono (by omega)) (fun z => nomatch z) rfl (pa_cons (pv 0) (pa_cons pe_int pa_nil))))
    (pss_cons (ps_if (PW.pt (pw_and (pt_cmpR p_lt (pv 2) pe_int (nomark _)) (pw_and1 (pt_cmpR p_gt (pv 1) pe_int (nomark _))))) (pss_one (ps_ret (pe_callTy p_tuple rfl T.z_tuple (by decide +kernel) (pa_cons (pe_lc (own := [("_law_turn", 3)]) rfl sc_some_value.nd (pi_range1 rfl T.z_range (pa_cons (p_call h_take (hr.mono (by omega)) (fun z => nomatch z) rfl (pa_cons (pv 0) (pa_cons pe_int pa_nil))) pa_nil)) (blkOk_by (own := [("_law_turn", 3)]) (N := N_some_value) (sc := defScope s_some_value) (by decide +kernel)) (fun _ _ _ _ _ => (pg_name (i := 3) sc_some_value.nd rfl (by first | exact Or.inl rfl | exact Or.inr rfl))) (fun _ _ _ _ _ => pts_nil) (fun _ _ _ _ _ => (p_call h_rec (hr.mono (by omega)) (fun z => nomatch z) rfl (pa_cons (pv 0) (pa_cons (pe_op p_sub (pv 1) pe_int) pa_nil))))) pa_nil)))) pss_nil)
    (pss_cons (ps_set (i := 4) sc_some_value.nd rfl (by first | exact Or.inl rfl | exact Or.inr rfl) (pe_lst (pa_cons pe_str (pa_cons pe_str (pa_cons pe_str (pa_cons pe_int (pa_cons (pe_un p_neg pe_int) (pa_cons pe_int (pa_cons (pe_op p_pow pe_int pe_int) (pa_cons pe_bl (pa_cons pe_bl (pa_cons pe_non (pa_cons (pe_tup pa_nil) pa_nil)))))))))))))
    (pss_one (ps_ret (pe_ix ix_seq (pv 4) (p_call h_take (hr.mono (by omega)) (fun z => nomatch z) rfl (pa_cons (pv 0) (pa_cons pe_int pa_nil))) (fun _ _ => rfl)))))))
theorem der_InvalidProgram_init {P : Program} {w : World} {c : Cl} {mg : Str → Option Value} {base : Heap} {f : Addr} {cdv : Value} {A : Around} {outer : List Env} {s : Shared} {H : Hp} {Ex : XK} (T : Tx mg c)
    (hr : Room 1 (A.deeper (envOfC "InvalidProgram.__init__" (defScope s_InvalidProgram_init) s.heap.objs.size f cdv))) :
    PSs (cxOf CX0 P w c.K mg base N_InvalidProgram_init "InvalidProgram.__init__" (defScope s_InvalidProgram_init) f cdv A outer s H Ex).nox (defBody s_InvalidProgram_init) (t_InvalidProgram_init c) :=
  (pss_cons (ps_xst (pv 0) (pv 1))
    (pss_cons (ps_xst (pv 0) (pv 2))
    (pss_one (ps_xst (pv 0) (pv 3)))))
theorem der_InvalidText_init {P : Program} {w : World} {c : Cl} {mg : Str → Option Value} {base : Heap} {f : Addr} {cdv : Value} {A : Around} {outer : List Env} {s : Shared} {H : Hp} {Ex : XK} (T : Tx mg c)
    (hr : Room 1 (A.deeper (envOfC "InvalidText.__init__" (defScope s_InvalidText_init) s.heap.objs.size f cdv))) :
    PSs (cxOf CX0 P w c.K mg base N_InvalidText_init "InvalidText.__init__" (defScope s_InvalidText_init) f cdv A outer s H Ex).nox (defBody s_InvalidText_init) (t_InvalidText_init c) :=
  (pss_one (ps_xst (pv 0) (pv 1)))
theorem der_InvalidStart_init {P : Program} {w : World} {c : Cl} {mg : Str → Option Value} {base : Heap} {f : Addr} {cdv : Value} {A : Around} {outer : List Env} {s : Shared} {H : Hp} {Ex : XK} (T : Tx mg c)
    (hr : Room 1 (A.deeper (envOfC "InvalidStart.__init__" (defScope s_InvalidStart_init) s.heap.objs.size f cdv))) :
    PSs (cxOf CX0 P w c.K mg base N_InvalidStart_init "InvalidStart.__init__" (defScope s_InvalidStart_init) f cdv A outer s H Ex).nox (defBody s_InvalidStart_init) (t_InvalidStart_init c) :=
  (pss_cons (ps_xst (pv 0) (pv 1))
    (pss_one (ps_xst (pv 0) (pv 2))))
theorem der_TooLong_init {P : Program} {w : World} {c : Cl} {mg : Str → Option Value} {base : Heap} {f : Addr} {cdv : Value} {A : Around} {outer : List Env} {s : Shared} {H : Hp} {Ex : XK} (T : Tx mg c)
    (hr : Room 1 (A.deeper (envOfC "TooLong.__init__" (defScope s_TooLong_init) s.heap.objs.size f cdv))) :
    PSs (cxOf CX0 P w c.K mg base N_TooLong_init "TooLong.__init__" (defScope s_TooLong_init) f cdv A outer s H Ex).nox (defBody s_TooLong_init) (t_TooLong_init c) :=
  (pss_one (ps_xst (pv 0) (pv 1)))
theorem der_InvalidCode_init {P : Program} {w : World} {c : Cl} {mg : Str → Option Value} {base : Heap} {f : Addr} {cdv : Value} {A : Around} {outer : List Env} {s : Shared} {H : Hp} {Ex : XK} (T : Tx mg c)
    (hr : Room 1 (A.deeper (envOfC "InvalidCode.__init__" (defScope s_InvalidCode_init) s.heap.objs.size f cdv))) :
    PSs (cxOf CX0 P w c.K mg base N_InvalidCode_init "InvalidCode.__init__" (defScope s_InvalidCode_init) f cdv A outer s H Ex).nox (defBody s_InvalidCode_init) (t_InvalidCode_init c) :=
  (pss_cons (ps_xst (pv 0) (pv 1))
    (pss_cons (ps_xst (pv 0) (pv 2))
    (pss_one (ps_xst (pv 0) (pv 3)))))
theorem der_NoRoom_init {P : Program} {w : World} {c : Cl} {mg : Str → Option Value} {base : Heap} {f : Addr} {cdv : Value} {A : Around} {outer : List Env} {s : Shared} {H : Hp} {Ex : XK} (T : Tx mg c)
    (hr : Room 1 (A.deeper (envOfC "NoRoom.__init__" (defScope s_NoRoom_init) s.heap.objs.size f cdv))) :
    PSs (cxOf CX0 P w c.K mg base N_NoRoom_init "NoRoom.__init__" (defScope s_NoRoom_init) f cdv A outer s H Ex).nox (defBody s_NoRoom_init) (t_NoRoom_init c) :=
  (pss_cons (ps_xst (pv 0) (pv 1))
    (pss_one (ps_xst (pv 0) (pv 2))))
theorem der_InvalidPart_init {P : Program} {w : World} {c : Cl} {mg : Str → Option Value} {base : Heap} {f : Addr} {cdv : Value} {A : Around} {outer : List Env} {s : Shared} {H : Hp} {Ex : XK} (T : Tx mg c)
    (hr : Room 1 (A.deeper (envOfC "InvalidPart.__init__" (defScope s_InvalidPart_init) s.heap.objs.size f cdv))) :
    PSs (cxOf CX0 P w c.K mg base N_InvalidPart_init "InvalidPart.__init__" (defScope s_InvalidPart_init) f cdv A outer s H Ex).nox (defBody s_InvalidPart_init) (t_InvalidPart_init c) :=
  (pss_cons (ps_xst (pv 0) (pv 1))
    (pss_one (ps_xst (pv 0) (pv 2))))
theorem der_LinkRefused_init {P : Program} {w : World} {c : Cl} {mg : Str → Option Value} {base : Heap} {f : Addr} {cdv : Value} {A : Around} {outer : List Env} {s : Shared} {H : Hp} {Ex : XK} (T : Tx mg c)
    (hr : Room 1 (A.deeper (envOfC "LinkRefused.__init__" (defScope s_LinkRefused_init) s.heap.objs.size f cdv))) :
    PSs (cxOf CX0 P w c.K mg base N_LinkRefused_init "LinkRefused.__init__" (defScope s_LinkRefused_init) f cdv A outer s H Ex).nox (defBody s_LinkRefused_init) (t_LinkRefused_init c) :=
  (pss_cons (ps_xst (pv 0) (pv 1))
    (pss_cons (ps_xst (pv 0) (pv 2))
    (pss_one (ps_xst (pv 0) (pv 3)))))
theorem der_Unfilled_init {P : Program} {w : World} {c : Cl} {mg : Str → Option Value} {base : Heap} {f : Addr} {cdv : Value} {A : Around} {outer : List Env} {s : Shared} {H : Hp} {Ex : XK} (T : Tx mg c)
    (hr : Room 1 (A.deeper (envOfC "Unfilled.__init__" (defScope s_Unfilled_init) s.heap.objs.size f cdv))) :
    PSs (cxOf CX0 P w c.K mg base N_Unfilled_init "Unfilled.__init__" (defScope s_Unfilled_init) f cdv A outer s H Ex).nox (defBody s_Unfilled_init) (t_Unfilled_init c) :=
  (pss_cons (ps_xst (pv 0) (pv 1))
    (pss_cons (ps_xst (pv 0) (pv 2))
    (pss_cons (ps_xst (pv 0) (pv 3))
    (pss_one (ps_xst (pv 0) (pv 4))))))
theorem der_UnknownName_init {P : Program} {w : World} {c : Cl} {mg : Str → Option Value} {base : Heap} {f : Addr} {cdv : Value} {A : Around} {outer : List Env} {s : Shared} {H : Hp} {Ex : XK} (T : Tx mg c)
    (hr : Room 1 (A.deeper (envOfC "UnknownName.__init__" (defScope s_UnknownName_init) s.heap.objs.size f cdv))) :
    PSs (cxOf CX0 P w c.K mg base N_UnknownName_init "UnknownName.__init__" (defScope s_UnknownName_init) f cdv A outer s H Ex).nox (defBody s_UnknownName_init) (t_UnknownName_init c) :=
  (pss_one (ps_xst (pv 0) (pv 1)))
theorem der_made {P : Program} {w : World} {c : Cl} {mg : Str → Option Value} {base : Heap} {f : Addr} {cdv : Value} {A : Around} {outer : List Env} {s : Shared} {H : Hp} {Ex : XK} (T : Tx mg c) (h_some_value : H_some_value P w mg base c 4) (h_InvalidProgram_init : H_InvalidProgram_init P w mg base c) (h_InvalidText_init : H_InvalidText_init P w mg base c) (h_InvalidStart_init : H_InvalidStart_init P w mg base c) (h_TooLong_init : H_TooLong_init P w mg base c) (h_InvalidCode_init : H_InvalidCode_init P w mg base c) (h_NoRoom_init : H_NoRoom_init P w mg base c) (h_InvalidPart_init : H_InvalidPart_init P w mg base c) (h_LinkRefused_init : H_LinkRefused_init P w mg base c) (h_Unfilled_init : H_Unfilled_init P w mg base c) (h_UnknownName_init : H_UnknownName_init P w mg base c)
    (hr : Room 13 (A.deeper (envOfC "_law_made" (defScope s_made) s.heap.objs.size f cdv))) :
    PSs (cxOf CX0 P w c.K mg base N_made "_law_made" (defScope s_made) f cdv A outer s H Ex).nox (defBody s_made) (t_made c) :=
  (pss_cons (ps_asg (pe_lc (own := [("_law_turn", 5)]) rfl sc_made.nd (pi_range1 rfl T.z_range (pa_cons pe_int pa_nil)) (blkOk_by (own := [("_law_turn", 5)]) (N := N_made) (sc := defScope s_made) (by decide +kernel)) (fun _ _ _ _ _ => (pg_name (i := 5) sc_made.nd rfl (by first | exact Or.inl rfl | exact Or.inr rfl))) (fun _ _ _ _ _ => pts_nil) (fun _ _ _ _ _ => (p_call h_some_value (hr.mono (by decide)) (fun z => nomatch z) rfl (pa_cons (pv 0) (pa_cons pe_int pa_nil))))) (pg_lst rfl (pgs_cons (pg_name (i := 1) sc_made.nd rfl (by first | exact Or.inl rfl | exact Or.inr rfl)) (pgs_cons (pg_name (i := 2) sc_made.nd rfl (by first | exact Or.inl rfl | exact Or.inr rfl)) (pgs_cons (pg_name (i := 3) sc_made.nd rfl (by first | exact Or.inl rfl | exact Or.inr rfl)) (pgs_cons (pg_name (i := 4) sc_made.nd rfl (by first | exact Or.inl rfl | exact Or.inr rfl)) pgs_nil))))))
    (pss_cons (ps_set (i := 6) sc_made.nd rfl (by first | exact Or.inl rfl | exact Or.inr rfl) (pe_lst (pa_cons (pe_tup (pa_cons (p_mkV h_InvalidProgram_init (hr.mono (by decide)) rfl T.m_InvalidProgram (pa_cons (pv 1) (pa_cons (pv 2) (pa_cons (pv 3) pa_nil)))) (pa_cons (pe_lst (pa_cons (pv 1) (pa_cons (pv 2) (pa_cons (pv 3) pa_nil)))) pa_nil))) (pa_cons (pe_tup (pa_cons (p_mkK (ks := ["place", "word", "procedure"]) (pm := [1, 2, 0]) h_InvalidProgram_init (hr.mono (by decide)) rfl T.m_InvalidProgram (.head _) (pk_cons (pv 3) (pk_cons (pv 1) (pk_cons (pv 2) pk_nil)))) (pa_cons (pe_lst (pa_cons (pv 1) (pa_cons (pv 2) (pa_cons (pv 3) pa_nil)))) pa_nil))) pa_nil))))
    (pss_cons (ps_set (i := 6) sc_made.nd rfl (by first | exact Or.inl rfl | exact Or.inr rfl) (pe_op p_add (pv 6) (pe_lst (pa_cons (pe_tup (pa_cons (p_mkV h_InvalidText_init (hr.mono (by decide)) rfl T.m_InvalidText (pa_cons (pv 1) pa_nil)) (pa_cons (pe_lst (pa_cons (pv 1) pa_nil)) pa_nil))) (pa_cons (pe_tup (pa_cons (p_mkK (ks := ["line"]) (pm := [0]) h_InvalidText_init (hr.mono (by decide)) rfl T.m_InvalidText (.head _) (pk_cons (pv 2) pk_nil)) (pa_cons (pe_lst (pa_cons (pv 2) pa_nil)) pa_nil))) (pa_cons (pe_tup (pa_cons (p_mkV h_InvalidStart_init (hr.mono (by decide)) rfl T.m_InvalidStart (pa_cons (pv 1) (pa_cons (pv 2) pa_nil))) (pa_cons (pe_lst (pa_cons (pv 1) (pa_cons (pv 2) pa_nil))) pa_nil))) pa_nil))))))
    (pss_cons (ps_set (i := 6) sc_made.nd rfl (by first | exact Or.inl rfl | exact Or.inr rfl) (pe_op p_add (pv 6) (pe_lst (pa_cons (pe_tup (pa_cons (p_mkK (ks := ["index", "word"]) (pm := [1, 0]) h_InvalidStart_init (hr.mono (by decide)) rfl T.m_InvalidStart (.head _) (pk_cons (pv 2) (pk_cons (pv 1) pk_nil))) (pa_cons (pe_lst (pa_cons (pv 1) (pa_cons (pv 2) pa_nil))) pa_nil))) (pa_cons (pe_tup (pa_cons (p_mkV h_TooLong_init (hr.mono (by decide)) rfl T.m_TooLong (pa_cons (pv 3) pa_nil)) (pa_cons (pe_lst (pa_cons (pv 3) pa_nil)) pa_nil))) (pa_cons (pe_tup (pa_cons (p_mkK (ks := ["steps"]) (pm := [0]) h_TooLong_init (hr.mono (by decide)) rfl T.m_TooLong (.head _) (pk_cons (pv 4) pk_nil)) (pa_cons (pe_lst (pa_cons (pv 4) pa_nil)) pa_nil))) pa_nil))))))
    (pss_cons (ps_set (i := 6) sc_made.nd rfl (by first | exact Or.inl rfl | exact Or.inr rfl) (pe_op p_add (pv 6) (pe_lst (pa_cons (pe_tup (pa_cons (p_mkV h_InvalidCode_init (hr.mono (by decide)) rfl T.m_InvalidCode (pa_cons (pv 1) (pa_cons (pv 2) (pa_cons (pv 3) pa_nil)))) (pa_cons (pe_lst (pa_cons (pv 1) (pa_cons (pv 2) (pa_cons (pv 3) pa_nil)))) pa_nil))) (pa_cons (pe_tup (pa_cons (p_mkK (ks := ["row", "procedure", "word"]) (pm := [2, 1, 0]) h_InvalidCode_init (hr.mono (by decide)) rfl T.m_InvalidCode (.head _) (pk_cons (pv 3) (pk_cons (pv 2) (pk_cons (pv 1) pk_nil)))) (pa_cons (pe_lst (pa_cons (pv 1) (pa_cons (pv 2) (pa_cons (pv 3) pa_nil)))) pa_nil))) pa_nil)))))
    (pss_cons (ps_set (i := 6) sc_made.nd rfl (by first | exact Or.inl rfl | exact Or.inr rfl) (pe_op p_add (pv 6) (pe_lst (pa_cons (pe_tup (pa_cons (p_mkV h_NoRoom_init (hr.mono (by decide)) rfl T.m_NoRoom (pa_cons (pv 1) (pa_cons (pv 2) pa_nil))) (pa_cons (pe_lst (pa_cons (pv 1) (pa_cons (pv 2) pa_nil))) pa_nil))) (pa_cons (pe_tup (pa_cons (p_mkK (ks := ["number", "procedure"]) (pm := [1, 0]) h_NoRoom_init (hr.mono (by decide)) rfl T.m_NoRoom (.head _) (pk_cons (pv 2) (pk_cons (pv 1) pk_nil))) (pa_cons (pe_lst (pa_cons (pv 1) (pa_cons (pv 2) pa_nil))) pa_nil))) (pa_cons (pe_tup (pa_cons (p_mkV h_InvalidPart_init (hr.mono (by decide)) rfl T.m_InvalidPart (pa_cons (pv 3) (pa_cons (pv 4) pa_nil))) (pa_cons (pe_lst (pa_cons (pv 3) (pa_cons (pv 4) pa_nil))) pa_nil))) pa_nil))))))
    (pss_cons (ps_set (i := 6) sc_made.nd rfl (by first | exact Or.inl rfl | exact Or.inr rfl) (pe_op p_add (pv 6) (pe_lst (pa_cons (pe_tup (pa_cons (p_mkK (ks := ["index", "word"]) (pm := [1, 0]) h_InvalidPart_init (hr.mono (by decide)) rfl T.m_InvalidPart (.head _) (pk_cons (pv 4) (pk_cons (pv 3) pk_nil))) (pa_cons (pe_lst (pa_cons (pv 3) (pa_cons (pv 4) pa_nil))) pa_nil))) (pa_cons (pe_tup (pa_cons (p_mkV h_LinkRefused_init (hr.mono (by decide)) rfl T.m_LinkRefused (pa_cons (pv 1) (pa_cons (pv 2) (pa_cons (pv 3) pa_nil)))) (pa_cons (pe_lst (pa_cons (pv 1) (pa_cons (pv 2) (pa_cons (pv 3) pa_nil)))) pa_nil))) pa_nil)))))
    (pss_cons (ps_set (i := 6) sc_made.nd rfl (by first | exact Or.inl rfl | exact Or.inr rfl) (pe_op p_add (pv 6) (pe_lst (pa_cons (pe_tup (pa_cons (p_mkK (ks := ["caller", "used", "part"]) (pm := [2, 1, 0]) h_LinkRefused_init (hr.mono (by decide)) rfl T.m_LinkRefused (.head _) (pk_cons (pv 3) (pk_cons (pv 2) (pk_cons (pv 1) pk_nil)))) (pa_cons (pe_lst (pa_cons (pv 1) (pa_cons (pv 2) (pa_cons (pv 3) pa_nil)))) pa_nil))) (pa_cons (pe_tup (pa_cons (p_mk0 T.x0_InvalidCommand rfl T.m_InvalidCommand) (pa_cons (pe_lst pa_nil) pa_nil))) pa_nil)))))
    (pss_cons (ps_set (i := 6) sc_made.nd rfl (by first | exact Or.inl rfl | exact Or.inr rfl) (pe_op p_add (pv 6) (pe_lst (pa_cons (pe_tup (pa_cons (p_mkV h_Unfilled_init (hr.mono (by decide)) rfl T.m_Unfilled (pa_cons (pv 1) (pa_cons (pv 2) (pa_cons (pv 3) (pa_cons (pv 4) pa_nil))))) (pa_cons (pe_lst (pa_cons (pv 1) (pa_cons (pv 2) (pa_cons (pv 3) (pa_cons (pv 4) pa_nil))))) pa_nil))) pa_nil))))
    (pss_cons (ps_set (i := 6) sc_made.nd rfl (by first | exact Or.inl rfl | exact Or.inr rfl) (pe_op p_add (pv 6) (pe_lst (pa_cons (pe_tup (pa_cons (p_mkK (ks := ["answers", "carrier", "place", "procedure"]) (pm := [3, 2, 1, 0]) h_Unfilled_init (hr.mono (by decide)) rfl T.m_Unfilled (.head _) (pk_cons (pv 4) (pk_cons (pv 3) (pk_cons (pv 2) (pk_cons (pv 1) pk_nil))))) (pa_cons (pe_lst (pa_cons (pv 1) (pa_cons (pv 2) (pa_cons (pv 3) (pa_cons (pv 4) pa_nil))))) pa_nil))) pa_nil))))
    (pss_one (ps_ret (pe_op p_add (pv 6) (pe_lst (pa_cons (pe_tup (pa_cons (p_mkV h_UnknownName_init (hr.mono (by decide)) rfl T.m_UnknownName (pa_cons (pv 4) pa_nil)) (pa_cons (pe_lst (pa_cons (pv 4) pa_nil)) pa_nil))) (pa_cons (pe_tup (pa_cons (p_mkK (ks := ["name"]) (pm := [0]) h_UnknownName_init (hr.mono (by decide)) rfl T.m_UnknownName (.head _) (pk_cons (pv 1) pk_nil)) (pa_cons (pe_lst (pa_cons (pv 1) pa_nil)) pa_nil))) pa_nil))))))))))))))))
theorem der_alike {P : Program} {w : World} {c : Cl} {mg : Str → Option Value} {base : Heap} {f : Addr} {cdv : Value} {A : Around} {outer : List Env} {s : Shared} {H : Hp} {Ex : XK} (T : Tx mg c)
    (hr : Room 1 (A.deeper (envOfC "_law_alike" (defScope s_alike) s.heap.objs.size f cdv))) :
    PSs (cxOf CX0 P w c.K mg base N_alike "_law_alike" (defScope s_alike) f cdv A outer s H Ex).nox (defBody s_alike) (t_alike c) :=
  (pss_cons (ps_set (i := 2) sc_alike.nd rfl (by first | exact Or.inl rfl | exact Or.inr rfl) (p_lstO (pa_cons (pe_tup (pa_cons (pv 0) (pa_cons (pv 1) pa_nil))) pa_nil)))
    (pss_cons (ps_while PassesOwn.never (pt_cmpR (p_ne hr) (pv 2) (pe_lst pa_nil) (nomark _)) (pss_cons (ps_asg (pe_bm0 PySem.F.plainAttrs_list PySem.F.slot_list_pop PySem.F.type_list_pop mt_pop (pv 2)) (pg_tup rfl (pgs_cons (pg_name (i := 3) sc_alike.nd rfl (by first | exact Or.inl rfl | exact Or.inr rfl)) (pgs_cons (pg_name (i := 4) sc_alike.nd rfl (by first | exact Or.inl rfl | exact Or.inr rfl)) pgs_nil))))
    (pss_one (ps_if (pt_val (pe_callB p_isi rfl T.z_isinstance (by decide +kernel) (pa_cons (pv 4) (pa_cons (pe_tup (pa_cons (p_ty rfl T.z_tuple (by decide +kernel)) (pa_cons (p_ty rfl T.z_list (by decide +kernel)) pa_nil))) pa_nil)))) (pss_cons (ps_if (PW.pt (pw_or (pt_cmpR (p_ne hr) (pe_callB p_isi rfl T.z_isinstance (by decide +kernel) (pa_cons (pv 3) (pa_cons (p_ty rfl T.z_tuple (by decide +kernel)) pa_nil))) (pe_callB p_isi rfl T.z_isinstance (by decide +kernel) (pa_cons (pv 4) (pa_cons (p_ty rfl T.z_tuple (by decide +kernel)) pa_nil))) (nomark _)) (pw_or1 (pt_cmpR (p_ne hr) (pe_callB p_isi rfl T.z_isinstance (by decide +kernel) (pa_cons (pv 3) (pa_cons (p_ty rfl T.z_list (by decide +kernel)) pa_nil))) (pe_callB p_isi rfl T.z_isinstance (by decide +kernel) (pa_cons (pv 4) (pa_cons (p_ty rfl T.z_list (by decide +kernel)) pa_nil))) (nomark _))))) (pss_one (ps_ret pe_bl)) pss_nil)
    (pss_cons (ps_if (pt_cmpR (p_ne hr) (pe_callB p_len rfl T.z_len (by decide +kernel) (pa_cons (pv 3) pa_nil)) (pe_callB p_len rfl T.z_len (by decide +kernel) (pa_cons (pv 4) pa_nil)) (nomark _)) (pss_one (ps_ret pe_bl)) pss_nil)
    (pss_one (ps_expr (pe_bm PySem.F.plainAttrs_list PySem.F.slot_list_extend PySem.F.type_list_extend mt_extend (pv 2) (pa_cons (p_listZip rfl rfl T.z_list rfl T.z_zip (pa_cons (pv 3) (pa_cons (pv 4) pa_nil))) pa_nil)))))) (pss_one (ps_if (PW.pt (pw_or (pt_val (pe_callB p_isi rfl T.z_isinstance (by decide +kernel) (pa_cons (pv 3) (pa_cons (pe_tup (pa_cons (p_ty rfl T.z_tuple (by decide +kernel)) (pa_cons (p_ty rfl T.z_list (by decide +kernel)) pa_nil))) pa_nil)))) (pw_or (pt_cmpR (p_ne hr) (pe_callB p_isi rfl T.z_isinstance (by decide +kernel) (pa_cons (pv 3) (pa_cons (p_ty rfl T.z_bool (by decide +kernel)) pa_nil))) (pe_callB p_isi rfl T.z_isinstance (by decide +kernel) (pa_cons (pv 4) (pa_cons (p_ty rfl T.z_bool (by decide +kernel)) pa_nil))) (nomark _)) (pw_or1 (pt_cmpR (p_ne hr) (pv 3) (pv 4) (nomark _)))))) (pss_one (ps_ret pe_bl)) pss_nil))))))
    (pss_one (ps_ret pe_bl))))
theorem der_kept {P : Program} {w : World} {c : Cl} {mg : Str → Option Value} {base : Heap} {f : Addr} {cdv : Value} {A : Around} {outer : List Env} {s : Shared} {H : Hp} {Ex : XK} (T : Tx mg c)
    (hr : Room 1 (A.deeper (envOfC "_law_kept" (defScope s_kept) s.heap.objs.size f cdv))) :
    PSs (cxOf CX0 P w c.K mg base N_kept "_law_kept" (defScope s_kept) f cdv A outer s H Ex).nox (defBody s_kept) (t_kept c) :=
  (pss_cons (ps_if (pt_val (pe_callB p_isV rfl T.z_isinstance (by decide +kernel) (pa_cons (pv 0) (pa_cons (p_cls rfl T.m_InvalidProgram) pa_nil)))) (pss_one (ps_ret (pe_lst (pa_cons (p_xfv (pv 0) rfl) (pa_cons (p_xfv (pv 0) rfl) (pa_cons (p_xfv (pv 0) rfl) pa_nil)))))) pss_nil)
    (pss_cons (ps_if (pt_val (pe_callB p_isV rfl T.z_isinstance (by decide +kernel) (pa_cons (pv 0) (pa_cons (p_cls rfl T.m_InvalidCode) pa_nil)))) (pss_one (ps_ret (pe_lst (pa_cons (p_xfv (pv 0) rfl) (pa_cons (p_xfv (pv 0) rfl) (pa_cons (p_xfv (pv 0) rfl) pa_nil)))))) pss_nil)
    (pss_cons (ps_if (pt_val (pe_callB p_isV rfl T.z_isinstance (by decide +kernel) (pa_cons (pv 0) (pa_cons (pe_tup (pa_cons (p_cls rfl T.m_InvalidStart) (pa_cons (p_cls rfl T.m_InvalidPart) pa_nil))) pa_nil)))) (pss_one (ps_ret (pe_lst (pa_cons (p_xfv (pv 0) rfl) (pa_cons (p_xfv (pv 0) rfl) pa_nil))))) pss_nil)
    (pss_cons (ps_if (pt_val (pe_callB p_isV rfl T.z_isinstance (by decide +kernel) (pa_cons (pv 0) (pa_cons (p_cls rfl T.m_LinkRefused) pa_nil)))) (pss_one (ps_ret (pe_lst (pa_cons (p_xfv (pv 0) rfl) (pa_cons (p_xfv (pv 0) rfl) (pa_cons (p_xfv (pv 0) rfl) pa_nil)))))) pss_nil)
    (pss_cons (ps_if (pt_val (pe_callB p_isV rfl T.z_isinstance (by decide +kernel) (pa_cons (pv 0) (pa_cons (p_cls rfl T.m_Unfilled) pa_nil)))) (pss_one (ps_ret (pe_lst (pa_cons (p_xfv (pv 0) rfl) (pa_cons (p_xfv (pv 0) rfl) (pa_cons (p_xfv (pv 0) rfl) (pa_cons (p_xfv (pv 0) rfl) pa_nil))))))) pss_nil)
    (pss_cons (ps_if (pt_val (pe_callB p_isV rfl T.z_isinstance (by decide +kernel) (pa_cons (pv 0) (pa_cons (p_cls rfl T.m_NoRoom) pa_nil)))) (pss_one (ps_ret (pe_lst (pa_cons (p_xfv (pv 0) rfl) (pa_cons (p_xfv (pv 0) rfl) pa_nil))))) pss_nil)
    (pss_cons (ps_if (pt_val (pe_callB p_isV rfl T.z_isinstance (by decide +kernel) (pa_cons (pv 0) (pa_cons (p_cls rfl T.m_InvalidText) pa_nil)))) (pss_one (ps_ret (pe_lst (pa_cons (p_xfv (pv 0) rfl) pa_nil)))) pss_nil)
    (pss_cons (ps_if (pt_val (pe_callB p_isV rfl T.z_isinstance (by decide +kernel) (pa_cons (pv 0) (pa_cons (p_cls rfl T.m_TooLong) pa_nil)))) (pss_one (ps_ret (pe_lst (pa_cons (p_xfv (pv 0) rfl) pa_nil)))) pss_nil)
    (pss_one (ps_ret (pe_ifExp (pt_val (pe_callB p_isV rfl T.z_isinstance (by decide +kernel) (pa_cons (pv 0) (pa_cons (p_cls rfl T.m_UnknownName) pa_nil)))) (pe_lst (pa_cons (p_xfv (pv 0) rfl) pa_nil)) (pe_lst pa_nil))))))))))))
theorem der_sorts {P : Program} {w : World} {c : Cl} {mg : Str → Option Value} {base : Heap} {f : Addr} {cdv : Value} {A : Around} {outer : List Env} {s : Shared} {H : Hp} {Ex : XK} (T : Tx mg c)
    (hr : Room 1 (A.deeper (envOfC "_law_sorts" (defScope s_sorts) s.heap.objs.size f cdv))) :
    PSs (cxOf CX0 P w c.K mg base N_sorts "_law_sorts" (defScope s_sorts) f cdv A outer s H Ex).nox (defBody s_sorts) (t_sorts c) :=
  (pss_cons (ps_set (i := 1) sc_sorts.nd rfl (by first | exact Or.inl rfl | exact Or.inr rfl) (pe_lst (pa_cons (pe_callB p_isV rfl T.z_isinstance (by decide +kernel) (pa_cons (pv 0) (pa_cons (p_cls rfl T.m_InvalidProgram) pa_nil))) (pa_cons (pe_callB p_isV rfl T.z_isinstance (by decide +kernel) (pa_cons (pv 0) (pa_cons (p_cls rfl T.m_InvalidText) pa_nil))) (pa_cons (pe_callB p_isV rfl T.z_isinstance (by decide +kernel) (pa_cons (pv 0) (pa_cons (p_cls rfl T.m_InvalidStart) pa_nil))) pa_nil)))))
    (pss_cons (ps_set (i := 1) sc_sorts.nd rfl (by first | exact Or.inl rfl | exact Or.inr rfl) (pe_op p_add (pv 1) (pe_lst (pa_cons (pe_callB p_isV rfl T.z_isinstance (by decide +kernel) (pa_cons (pv 0) (pa_cons (p_cls rfl T.m_TooLong) pa_nil))) (pa_cons (pe_callB p_isV rfl T.z_isinstance (by decide +kernel) (pa_cons (pv 0) (pa_cons (p_cls rfl T.m_InvalidCode) pa_nil))) (pa_cons (pe_callB p_isV rfl T.z_isinstance (by decide +kernel) (pa_cons (pv 0) (pa_cons (p_cls rfl T.m_NoRoom) pa_nil))) pa_nil))))))
    (pss_cons (ps_set (i := 1) sc_sorts.nd rfl (by first | exact Or.inl rfl | exact Or.inr rfl) (pe_op p_add (pv 1) (pe_lst (pa_cons (pe_callB p_isV rfl T.z_isinstance (by decide +kernel) (pa_cons (pv 0) (pa_cons (p_cls rfl T.m_InvalidPart) pa_nil))) (pa_cons (pe_callB p_isV rfl T.z_isinstance (by decide +kernel) (pa_cons (pv 0) (pa_cons (p_cls rfl T.m_LinkRefused) pa_nil))) (pa_cons (pe_callB p_isV rfl T.z_isinstance (by decide +kernel) (pa_cons (pv 0) (pa_cons (p_cls rfl T.m_InvalidCommand) pa_nil))) pa_nil))))))
    (pss_one (ps_ret (pe_op p_add (pv 1) (pe_lst (pa_cons (pe_callB p_isV rfl T.z_isinstance (by decide +kernel) (pa_cons (pv 0) (pa_cons (p_cls rfl T.m_Unfilled) pa_nil))) (pa_cons (pe_callB p_isV rfl T.z_isinstance (by decide +kernel) (pa_cons (pv 0) (pa_cons (p_cls rfl T.m_UnknownName) pa_nil))) pa_nil)))))))))
theorem der_thrown {P : Program} {w : World} {c : Cl} {mg : Str → Option Value} {base : Heap} {f : Addr} {cdv : Value} {A : Around} {outer : List Env} {s : Shared} {H : Hp} {Ex : XK} {W : WX} (T : Tx mg c) (h_InvalidProgram_init : H_InvalidProgram_init P w mg base c) (h_InvalidText_init : H_InvalidText_init P w mg base c) (h_InvalidStart_init : H_InvalidStart_init P w mg base c) (h_TooLong_init : H_TooLong_init P w mg base c) (h_InvalidCode_init : H_InvalidCode_init P w mg base c) (h_NoRoom_init : H_NoRoom_init P w mg base c) (h_InvalidPart_init : H_InvalidPart_init P w mg base c) (h_LinkRefused_init : H_LinkRefused_init P w mg base c) (h_Unfilled_init : H_Unfilled_init P w mg base c) (h_UnknownName_init : H_UnknownName_init P w mg base c)
    (hr : Room 3 (A.deeper (envOfC "_law_thrown" (defScope s_thrown) s.heap.objs.size f cdv))) (tk : Takes (cxOf (L2.CX P w) P w c.K mg base N_thrown "_law_thrown" (defScope s_thrown) f cdv A outer s H Ex) W) (po : PassesOwn (model P w) (cxOf (L2.CX P w) P w c.K mg base N_thrown "_law_thrown" (defScope s_thrown) f cdv A outer s H Ex).A (cxOf (L2.CX P w) P w c.K mg base N_thrown "_law_thrown" (defScope s_thrown) f cdv A outer s H Ex).env (cxOf (L2.CX P w) P w c.K mg base N_thrown "_law_thrown" (defScope s_thrown) f cdv A outer s H Ex).xe) :
    PSs (cxOf (L2.CX P w) P w c.K mg base N_thrown "_law_thrown" (defScope s_thrown) f cdv A outer s H Ex) (defBody s_thrown) (t_thrown c W) :=
  (pss_cons (ps_if (pt_cmpR (p_eq hr) (pv 0) pe_int (nomark _)) (pss_one (p_raise rfl tk (pmk_x h_InvalidProgram_init (hr.mono (by decide)) rfl T.m_InvalidProgram (pa_cons (pv 1) (pa_cons (pv 1) (pa_cons (pv 1) pa_nil)))))) pss_nil)
    (pss_cons (ps_if (pt_cmpR (p_eq hr) (pv 0) pe_int (nomark _)) (pss_one (p_raise rfl tk (pmk_x h_InvalidText_init (hr.mono (by decide)) rfl T.m_InvalidText (pa_cons (pv 1) pa_nil)))) pss_nil)
    (pss_cons (ps_if (pt_cmpR (p_eq hr) (pv 0) pe_int (nomark _)) (pss_one (p_raise rfl tk (pmk_x h_InvalidStart_init (hr.mono (by decide)) rfl T.m_InvalidStart (pa_cons (pv 1) (pa_cons (pv 1) pa_nil))))) pss_nil)
    (pss_cons (ps_if (pt_cmpR (p_eq hr) (pv 0) pe_int (nomark _)) (pss_one (p_raise rfl tk (pmk_x h_TooLong_init (hr.mono (by decide)) rfl T.m_TooLong (pa_cons (pv 1) pa_nil)))) pss_nil)
    (pss_cons (ps_if (pt_cmpR (p_eq hr) (pv 0) pe_int (nomark _)) (pss_one (p_raise rfl tk (pmk_x h_InvalidCode_init (hr.mono (by decide)) rfl T.m_InvalidCode (pa_cons (pv 1) (pa_cons (pv 1) (pa_cons (pv 1) pa_nil)))))) pss_nil)
    (pss_cons (ps_if (pt_cmpR (p_eq hr) (pv 0) pe_int (nomark _)) (pss_one (p_raise rfl tk (pmk_x h_NoRoom_init (hr.mono (by decide)) rfl T.m_NoRoom (pa_cons (pv 1) (pa_cons (pv 1) pa_nil))))) pss_nil)
    (pss_cons (ps_if (pt_cmpR (p_eq hr) (pv 0) pe_int (nomark _)) (pss_one (p_raise rfl tk (pmk_x h_InvalidPart_init (hr.mono (by decide)) rfl T.m_InvalidPart (pa_cons (pv 1) (pa_cons (pv 1) pa_nil))))) pss_nil)
    (pss_cons (ps_if (pt_cmpR (p_eq hr) (pv 0) pe_int (nomark _)) (pss_one (p_raise rfl tk (pmk_x h_LinkRefused_init (hr.mono (by decide)) rfl T.m_LinkRefused (pa_cons (pv 1) (pa_cons (pv 1) (pa_cons (pv 1) pa_nil)))))) pss_nil)
    (pss_cons (ps_if (pt_cmpR (p_eq hr) (pv 0) pe_int (nomark _)) (pss_one (p_raise rfl tk (pmk_0 T.x0_InvalidCommand rfl T.m_InvalidCommand))) pss_nil)
    (pss_cons (ps_if (pt_cmpR (p_eq hr) (pv 0) pe_int (nomark _)) (pss_one (p_raise rfl tk (pmk_x h_Unfilled_init (hr.mono (by decide)) rfl T.m_Unfilled (pa_cons (pv 1) (pa_cons (pv 1) (pa_cons (pv 1) (pa_cons (pv 1) pa_nil))))))) pss_nil)
    (pss_one (p_raise rfl tk (pmk_x h_UnknownName_init (hr.mono (by decide)) rfl T.m_UnknownName (pa_cons (pv 1) pa_nil))))))))))))))
theorem der_caught {P : Program} {w : World} {c : Cl} {mg : Str → Option Value} {base : Heap} {f : Addr} {cdv : Value} {A : Around} {outer : List Env} {s : Shared} {H : Hp} {Ex : XK} (T : Tx mg c) (h_thrown : H_thrown P w mg base c)
    (hr : Room 5 (A.deeper (envOfC "_law_caught" (defScope s_caught) s.heap.objs.size f cdv))) :
    PSs (cxOf CX0 P w c.K mg base N_caught "_law_caught" (defScope s_caught) f cdv A outer s H Ex).nox (defBody s_caught) (t_caught c) :=
  (pss_cons (ps_set (i := 2) sc_caught.nd rfl (by first | exact Or.inl rfl | exact Or.inr rfl) pe_str)
    (pss_cons (p_try takes0 (fun W pn xe tk po => (pss_one (ps_expr (p_callX h_thrown (hr.mono (by decide)) tk rfl (pa_cons (pv 0) (pa_cons (pv 1) pa_nil)))))) (.cons (names_blt rfl T.z_KeyError (by decide +kernel)) (fun _ _ _ _ _ _ _ => (pss_one (ps_set (i := 2) sc_caught.nd rfl (by first | exact Or.inl rfl | exact Or.inr rfl) pe_str))) (.cons (names_glo rfl T.m_SourError) (fun _ _ _ _ _ _ _ => (pss_one (ps_set (i := 2) sc_caught.nd rfl (by first | exact Or.inl rfl | exact Or.inr rfl) pe_str))) .nil)))
    (pss_one (ps_ret (pv 2)))))
theorem der_law {P : Program} {w : World} {c : Cl} {mg : Str → Option Value} {base : Heap} {f : Addr} {cdv : Value} {A : Around} {outer : List Env} {s : Shared} {H : Hp} {Ex : XK} (T : Tx mg c) (h_box : H_box P w mg base c) (h_made : H_made P w mg base c) (h_alike : H_alike P w mg base c) (h_kept : H_kept P w mg base c) (h_sorts : H_sorts P w mg base c) (h_some_value : H_some_value P w mg base c 4) (h_caught : H_caught P w mg base c)
    (hr : Room 15 (A.deeper (envOfC "law" (defScope s_law) s.heap.objs.size f cdv))) :
    PSs (cxOf CX0 P w c.K mg base N_law "law" (defScope s_law) f cdv A outer s H Ex).nox (defBody s_law) (t_law c) :=
  (pss_cons (ps_for PassesOwn.never rfl (pi_range1 rfl T.z_range (pa_cons (pe_callB (p_max2 rfl) rfl T.z_max (by decide +kernel) (pa_cons pe_int (pa_cons (pe_callB (p_min2 rfl) rfl T.z_min (by decide +kernel) (pa_cons pe_int (pa_cons (pe_callB p_len rfl T.z_len (by decide +kernel) (pa_cons (pv 0) pa_nil)) pa_nil))) pa_nil))) pa_nil)) (pg_name (i := 1) sc_law.nd rfl (by first | exact Or.inl rfl | exact Or.inr rfl)) (pss_cons (ps_set (i := 2) sc_law.nd rfl (by first | exact Or.inl rfl | exact Or.inr rfl) (p_call h_box (hr.mono (by decide)) (fun z => nomatch z) rfl (pa_cons (pv 0) (pa_cons (pv 1) pa_nil))))
    (pss_cons (ps_set (i := 3) sc_law.nd rfl (by first | exact Or.inl rfl | exact Or.inr rfl) (pe_lst (pa_cons pe_int (pa_cons pe_int (pa_cons pe_int (pa_cons pe_int (pa_cons pe_int (pa_cons pe_int (pa_cons pe_int (pa_cons pe_int (pa_cons pe_int (pa_cons pe_int (pa_cons pe_int (pa_cons pe_int (pa_cons pe_int (pa_cons pe_int (pa_cons pe_int (pa_cons pe_int (pa_cons pe_int (pa_cons pe_int (pa_cons pe_int (pa_cons pe_int (pa_cons pe_int pa_nil)))))))))))))))))))))))
    (pss_cons (ps_for PassesOwn.never rfl (p_enum rfl T.z_enumerate (pa_cons (p_call h_made (hr.mono (by decide)) (fun z => nomatch z) rfl (pa_cons (pv 2) pa_nil)) pa_nil)) (pg_tup rfl (pgs_cons (pg_name (i := 6) sc_law.nd rfl (by first | exact Or.inl rfl | exact Or.inr rfl)) (pgs_cons (pg_name (i := 7) sc_law.nd rfl (by first | exact Or.inl rfl | exact Or.inr rfl)) pgs_nil))) (pss_cons (ps_asg (pv 7) (pg_tup rfl (pgs_cons (pg_name (i := 8) sc_law.nd rfl (by first | exact Or.inl rfl | exact Or.inr rfl)) (pgs_cons (pg_name (i := 9) sc_law.nd rfl (by first | exact Or.inl rfl | exact Or.inr rfl)) pgs_nil))))
    (pss_cons (ps_if (PW.pt (pw_or (pt_not (pt_val (p_call h_alike (hr.mono (by decide)) (fun z => nomatch z) rfl (pa_cons (p_call h_kept (hr.mono (by decide)) (fun z => nomatch z) rfl (pa_cons (pv 8) pa_nil)) (pa_cons (pv 9) pa_nil))))) (pw_or1 (pt_cmpR (p_ne hr) (p_call h_sorts (hr.mono (by decide)) (fun z => nomatch z) rfl (pa_cons (pv 8) pa_nil)) (pe_lc (own := [("_law_form", 5)]) rfl sc_law.nd (pi_range1 rfl T.z_range (pa_cons pe_int pa_nil)) (blkOk_by (own := [("_law_form", 5)]) (N := N_law) (sc := defScope s_law) (by decide +kernel)) (fun _ _ _ _ _ => (pg_name (i := 5) sc_law.nd rfl (by first | exact Or.inl rfl | exact Or.inr rfl))) (fun _ _ _ _ _ => pts_nil) (fun _ _ _ _ _ => (pe_cmpR (p_eq hr) (pv 5) (pe_ix ix_seq (pv 3) (pv 6) (fun _ _ => rfl)) (nomark _)))) (nomark _))))) (pss_one (ps_ret pe_bl)) pss_nil)
    (pss_cons (ps_if (pt_cmpR (p_ne hr) (pe_callB p_isV rfl T.z_isinstance (by decide +kernel) (pa_cons (pv 8) (pa_cons (p_cls rfl T.m_SourError) pa_nil))) (pe_not (pe_callB p_isV rfl T.z_isinstance (by decide +kernel) (pa_cons (pv 8) (pa_cons (p_cls rfl T.m_UnknownName) pa_nil)))) (nomark _)) (pss_one (ps_ret pe_bl)) pss_nil)
    (pss_one (ps_if (pt_cmpR (p_eq hr) (pe_callB p_isV rfl T.z_isinstance (by decide +kernel) (pa_cons (pv 8) (pa_cons (p_ty rfl T.z_KeyError (by decide +kernel)) pa_nil))) (pe_callB p_isV rfl T.z_isinstance (by decide +kernel) (pa_cons (pv 8) (pa_cons (p_ty rfl T.z_ValueError (by decide +kernel)) pa_nil))) (nomark _)) (pss_one (ps_ret pe_bl)) pss_nil))))))
    (pss_cons (ps_set (i := 4) sc_law.nd rfl (by first | exact Or.inl rfl | exact Or.inr rfl) (p_call h_some_value (hr.mono (by decide)) (fun z => nomatch z) rfl (pa_cons (pv 2) (pa_cons pe_int pa_nil))))
    (pss_one (ps_for PassesOwn.never rfl (pi_range1 rfl T.z_range (pa_cons pe_int pa_nil)) (pg_name (i := 5) sc_law.nd rfl (by first | exact Or.inl rfl | exact Or.inr rfl)) (pss_one (ps_if (pt_cmpR (p_ne hr) (p_call h_caught (hr.mono (by decide)) (fun z => nomatch z) rfl (pa_cons (pv 5) (pa_cons (pv 4) pa_nil))) (pe_ix ix_seq (pe_lst (pa_cons pe_str (pa_cons pe_str pa_nil))) (pe_callTy p_int1 rfl T.z_int (by decide +kernel) (pa_cons (pe_cmpR (p_eq hr) (pv 5) pe_int (nomark _)) pa_nil)) (fun _ _ => rfl)) (nomark _)) (pss_one (ps_ret pe_bl)) pss_nil)))))))))
    (pss_one (ps_ret pe_bl)))
end K01

set_option maxHeartbeats 4000000
namespace K01
open PySem PySem.Spec PyProof.Rows L2 DL DN
theorem si_box {c : Cl} {mg : Str → Option Value} (T : Tx mg c) : SS c (t_box c) m_box :=
  (ss_seq (ss_asg (se_op so_add (se_op so_mul se_c se_var) se_c) sg_name)
    (ss_seq (ss_if (st_test (se_op so_lt se_var (se_cb sb_len (sa_cons se_var sa_nil)))) (ss_asg (se_op so_ix se_var se_var) sg_name) (ss_if (st_test (se_op so_gt (se_cb sb_len (sa_cons se_var sa_nil)) se_c)) (ss_asg (se_op so_add se_var (se_op so_mul (se_op so_mod (se_op so_ix se_var (se_op so_mod se_var (se_cb sb_len (sa_cons se_var sa_nil)))) se_c) se_c)) sg_name) ss_next))
    (ss_seq (ss_asg (se_op so_add (se_op so_mod (se_op so_add (se_op so_mul (se_op so_mod se_var se_c) se_c) (se_op so_mul se_c se_var)) se_c) se_c) sg_name)
    (ss_ret (se_lstO (sa_cons (se_op so_ix (se_lst (sa_cons se_c (sa_cons se_var sa_nil)) (Nat.le_of_ble_eq_true rfl)) (se_cb sb_int (sa_cons (se_op so_ge se_var (se_op so_pow se_c se_c)) sa_nil))) (sa_cons se_var (sa_cons se_c sa_nil))) (Nat.le_of_ble_eq_true rfl))))))
theorem pu_box {c : Cl} {mg : Str → Option Value} {vs : List V} {H : Hp} {Q : VK} {Ex : XK} (T : Tx mg c) (h : spM c w_box vs H Q Ex) : t_box c { nx := fun _ H' => Q .non H', rt := Q } (L2.start N_box vs) H := by
  exact def_of (si_box T) rfl (sp_out (fun _ _ _ z => z.out) h)
theorem si_take {c : Cl} {mg : Str → Option Value} (T : Tx mg c) : SS c (t_take c) m_take :=
  (ss_seq (ss_if (st_test (se_op so_gt (se_op so_ix se_var se_c) se_c)) (ss_seq (ss_asg (se_op so_mod (se_op so_ix se_var se_c) se_var) sg_name)
    (ss_seq (ss_asg (se_op so_fdiv (se_op so_ix se_var se_c) se_var) (sg_sub se_var se_c))
    (ss_ret se_var))) ss_next)
    (ss_seq (ss_asg (se_op so_add (se_op so_ix se_var se_c) se_c) (sg_sub se_var se_c))
    (ss_seq (ss_asg (se_op so_mod (se_op so_mul (se_op so_add (se_op so_ix se_var se_c) (se_op so_mul se_c (se_op so_ix se_var se_c))) se_c) se_c) sg_name)
    (ss_seq (ss_asg (se_op so_add (se_op so_mod (se_op so_add (se_op so_mul se_var se_c) se_c) se_c) se_c) (sg_sub se_var se_c))
    (ss_ret (se_op so_mod (se_op so_fdiv (se_op so_add (se_op so_mul se_var se_c) (se_op so_ix se_var se_c)) se_c) se_var))))))
theorem pu_take {c : Cl} {mg : Str → Option Value} {vs : List V} {H : Hp} {Q : VK} {Ex : XK} (T : Tx mg c) (h : spM c w_take vs H Q Ex) : t_take c { nx := fun _ H' => Q .non H', rt := Q } (L2.start N_take vs) H := by
  exact def_of (si_take T) rfl (sp_out (fun _ _ _ z => z.out) h)
theorem si_some_value {c : Cl} {mg : Str → Option Value} {wr : W} (T : Tx mg c) : SS c (t_some_value c wr) (m_some_value wr) :=
  (ss_seq (ss_asg (se_call (sa_cons se_var (sa_cons se_c sa_nil))) sg_name)
    (ss_seq (ss_if (st_and (st_test (se_op so_lt se_var se_c)) (st_test (se_op so_gt se_var se_c))) (ss_ret (se_cb sb_tuple (sa_cons (se_lc (si_rng1 (se_call (sa_cons se_var (sa_cons se_c sa_nil)))) sg_name (gk_name (by decide)) st_yes (se_call (sa_cons se_var (sa_cons (se_op so_sub se_var se_c) sa_nil)))) sa_nil))) ss_next)
    (ss_seq (ss_asg (se_lst (sa_cons se_c (sa_cons se_c (sa_cons se_c (sa_cons se_c (sa_cons (se_un su_neg se_c) (sa_cons se_c (sa_cons (se_op so_pow se_c se_c) (sa_cons se_c (sa_cons se_c (sa_cons se_c (sa_cons (se_tup sa_nil (Nat.le_of_ble_eq_true rfl)) sa_nil))))))))))) (Nat.le_of_ble_eq_true rfl)) sg_name)
    (ss_ret (se_op so_ix se_var (se_call (sa_cons se_var (sa_cons se_c sa_nil))))))))
theorem pu_some_value {c : Cl} {mg : Str → Option Value} {n : Nat} {vs : List V} {H : Hp} {Q : VK} {Ex : XK} (T : Tx mg c) (h : spM c (w_some_value (n + 1)) vs H Q Ex) : t_some_value c (w_some_value n) { nx := fun _ H' => Q .non H', rt := Q } (L2.start N_some_value vs) H := by
  exact def_of (si_some_value T) rfl (sp_out (w' := wOf 2 5 (m_some_value (w_some_value n))) (fun _ _ _ z => r_some_value.out z) h)
theorem pu_InvalidProgram_init {c : Cl} {mg : Str → Option Value} {vs : List V} {H : Hp} {Q : VK} {Ex : XK} (T : Tx mg c) (h : spXi c 1 vs H Q Ex) : t_InvalidProgram_init c { nx := fun _ H' => Q .non H', rt := Q } (L2.start N_InvalidProgram_init vs) H := by
  obtain ⟨a, ws, rfl, hl, ha, k⟩ := h
  have hl' : ws.length = 3 := by rw [hl, T.l_InvalidProgram]; rfl
  rw [T.l_InvalidProgram] at k
  match ws, hl', k with
  | [x0, x1, x2], _, k =>
    refine ⟨x0, rfl, .ref a, rfl, a, c.ca 1, false, rfl, T.xc_InvalidProgram, T.xf_InvalidProgram_word.no, .inl ⟨ha, fun dx h1 h2 => ?_⟩⟩
    refine ⟨x1, rfl, .ref a, rfl, a, c.ca 1, false, rfl, T.xc_InvalidProgram, T.xf_InvalidProgram_procedure.no, .inr ⟨dx, _, upd_same, by rw [upd_ne h2, upd_same], Nat.le_of_ble_eq_true rfl, ?_⟩⟩
    rw [upd_x h2]
    refine ⟨x2, rfl, .ref a, rfl, a, c.ca 1, false, rfl, T.xc_InvalidProgram, T.xf_InvalidProgram_place.no, .inr ⟨dx, _, upd_same, by rw [upd_ne h2, upd_same], Nat.le_of_ble_eq_true rfl, ?_⟩⟩
    rw [upd_x h2]
    exact k dx h1 h2
theorem pu_InvalidText_init {c : Cl} {mg : Str → Option Value} {vs : List V} {H : Hp} {Q : VK} {Ex : XK} (T : Tx mg c) (h : spXi c 2 vs H Q Ex) : t_InvalidText_init c { nx := fun _ H' => Q .non H', rt := Q } (L2.start N_InvalidText_init vs) H := by
  obtain ⟨a, ws, rfl, hl, ha, k⟩ := h
  have hl' : ws.length = 1 := by rw [hl, T.l_InvalidText]; rfl
  rw [T.l_InvalidText] at k
  match ws, hl', k with
  | [x0], _, k =>
    refine ⟨x0, rfl, .ref a, rfl, a, c.ca 2, false, rfl, T.xc_InvalidText, T.xf_InvalidText_line.no, .inl ⟨ha, fun dx h1 h2 => ?_⟩⟩
    exact k dx h1 h2
theorem pu_InvalidStart_init {c : Cl} {mg : Str → Option Value} {vs : List V} {H : Hp} {Q : VK} {Ex : XK} (T : Tx mg c) (h : spXi c 3 vs H Q Ex) : t_InvalidStart_init c { nx := fun _ H' => Q .non H', rt := Q } (L2.start N_InvalidStart_init vs) H := by
  obtain ⟨a, ws, rfl, hl, ha, k⟩ := h
  have hl' : ws.length = 2 := by rw [hl, T.l_InvalidStart]; rfl
  rw [T.l_InvalidStart] at k
  match ws, hl', k with
  | [x0, x1], _, k =>
    refine ⟨x0, rfl, .ref a, rfl, a, c.ca 3, false, rfl, T.xc_InvalidStart, T.xf_InvalidStart_word.no, .inl ⟨ha, fun dx h1 h2 => ?_⟩⟩
    refine ⟨x1, rfl, .ref a, rfl, a, c.ca 3, false, rfl, T.xc_InvalidStart, T.xf_InvalidStart_index.no, .inr ⟨dx, _, upd_same, by rw [upd_ne h2, upd_same], Nat.le_of_ble_eq_true rfl, ?_⟩⟩
    rw [upd_x h2]
    exact k dx h1 h2
theorem pu_TooLong_init {c : Cl} {mg : Str → Option Value} {vs : List V} {H : Hp} {Q : VK} {Ex : XK} (T : Tx mg c) (h : spXi c 4 vs H Q Ex) : t_TooLong_init c { nx := fun _ H' => Q .non H', rt := Q } (L2.start N_TooLong_init vs) H := by
  obtain ⟨a, ws, rfl, hl, ha, k⟩ := h
  have hl' : ws.length = 1 := by rw [hl, T.l_TooLong]; rfl
  rw [T.l_TooLong] at k
  match ws, hl', k with
  | [x0], _, k =>
    refine ⟨x0, rfl, .ref a, rfl, a, c.ca 4, false, rfl, T.xc_TooLong, T.xf_TooLong_steps.no, .inl ⟨ha, fun dx h1 h2 => ?_⟩⟩
    exact k dx h1 h2
theorem pu_InvalidCode_init {c : Cl} {mg : Str → Option Value} {vs : List V} {H : Hp} {Q : VK} {Ex : XK} (T : Tx mg c) (h : spXi c 5 vs H Q Ex) : t_InvalidCode_init c { nx := fun _ H' => Q .non H', rt := Q } (L2.start N_InvalidCode_init vs) H := by
  obtain ⟨a, ws, rfl, hl, ha, k⟩ := h
  have hl' : ws.length = 3 := by rw [hl, T.l_InvalidCode]; rfl
  rw [T.l_InvalidCode] at k
  match ws, hl', k with
  | [x0, x1, x2], _, k =>
    refine ⟨x0, rfl, .ref a, rfl, a, c.ca 5, false, rfl, T.xc_InvalidCode, T.xf_InvalidCode_word.no, .inl ⟨ha, fun dx h1 h2 => ?_⟩⟩
    refine ⟨x1, rfl, .ref a, rfl, a, c.ca 5, false, rfl, T.xc_InvalidCode, T.xf_InvalidCode_procedure.no, .inr ⟨dx, _, upd_same, by rw [upd_ne h2, upd_same], Nat.le_of_ble_eq_true rfl, ?_⟩⟩
    rw [upd_x h2]
    refine ⟨x2, rfl, .ref a, rfl, a, c.ca 5, false, rfl, T.xc_InvalidCode, T.xf_InvalidCode_row.no, .inr ⟨dx, _, upd_same, by rw [upd_ne h2, upd_same], Nat.le_of_ble_eq_true rfl, ?_⟩⟩
    rw [upd_x h2]
    exact k dx h1 h2
theorem pu_NoRoom_init {c : Cl} {mg : Str → Option Value} {vs : List V} {H : Hp} {Q : VK} {Ex : XK} (T : Tx mg c) (h : spXi c 6 vs H Q Ex) : t_NoRoom_init c { nx := fun _ H' => Q .non H', rt := Q } (L2.start N_NoRoom_init vs) H := by
  obtain ⟨a, ws, rfl, hl, ha, k⟩ := h
  have hl' : ws.length = 2 := by rw [hl, T.l_NoRoom]; rfl
  rw [T.l_NoRoom] at k
  match ws, hl', k with
  | [x0, x1], _, k =>
    refine ⟨x0, rfl, .ref a, rfl, a, c.ca 6, false, rfl, T.xc_NoRoom, T.xf_NoRoom_procedure.no, .inl ⟨ha, fun dx h1 h2 => ?_⟩⟩
    refine ⟨x1, rfl, .ref a, rfl, a, c.ca 6, false, rfl, T.xc_NoRoom, T.xf_NoRoom_number.no, .inr ⟨dx, _, upd_same, by rw [upd_ne h2, upd_same], Nat.le_of_ble_eq_true rfl, ?_⟩⟩
    rw [upd_x h2]
    exact k dx h1 h2
theorem pu_InvalidPart_init {c : Cl} {mg : Str → Option Value} {vs : List V} {H : Hp} {Q : VK} {Ex : XK} (T : Tx mg c) (h : spXi c 7 vs H Q Ex) : t_InvalidPart_init c { nx := fun _ H' => Q .non H', rt := Q } (L2.start N_InvalidPart_init vs) H := by
  obtain ⟨a, ws, rfl, hl, ha, k⟩ := h
  have hl' : ws.length = 2 := by rw [hl, T.l_InvalidPart]; rfl
  rw [T.l_InvalidPart] at k
  match ws, hl', k with
  | [x0, x1], _, k =>
    refine ⟨x0, rfl, .ref a, rfl, a, c.ca 7, false, rfl, T.xc_InvalidPart, T.xf_InvalidPart_word.no, .inl ⟨ha, fun dx h1 h2 => ?_⟩⟩
    refine ⟨x1, rfl, .ref a, rfl, a, c.ca 7, false, rfl, T.xc_InvalidPart, T.xf_InvalidPart_index.no, .inr ⟨dx, _, upd_same, by rw [upd_ne h2, upd_same], Nat.le_of_ble_eq_true rfl, ?_⟩⟩
    rw [upd_x h2]
    exact k dx h1 h2
theorem pu_LinkRefused_init {c : Cl} {mg : Str → Option Value} {vs : List V} {H : Hp} {Q : VK} {Ex : XK} (T : Tx mg c) (h : spXi c 8 vs H Q Ex) : t_LinkRefused_init c { nx := fun _ H' => Q .non H', rt := Q } (L2.start N_LinkRefused_init vs) H := by
  obtain ⟨a, ws, rfl, hl, ha, k⟩ := h
  have hl' : ws.length = 3 := by rw [hl, T.l_LinkRefused]; rfl
  rw [T.l_LinkRefused] at k
  match ws, hl', k with
  | [x0, x1, x2], _, k =>
    refine ⟨x0, rfl, .ref a, rfl, a, c.ca 8, false, rfl, T.xc_LinkRefused, T.xf_LinkRefused_part.no, .inl ⟨ha, fun dx h1 h2 => ?_⟩⟩
    refine ⟨x1, rfl, .ref a, rfl, a, c.ca 8, false, rfl, T.xc_LinkRefused, T.xf_LinkRefused_used.no, .inr ⟨dx, _, upd_same, by rw [upd_ne h2, upd_same], Nat.le_of_ble_eq_true rfl, ?_⟩⟩
    rw [upd_x h2]
    refine ⟨x2, rfl, .ref a, rfl, a, c.ca 8, false, rfl, T.xc_LinkRefused, T.xf_LinkRefused_caller.no, .inr ⟨dx, _, upd_same, by rw [upd_ne h2, upd_same], Nat.le_of_ble_eq_true rfl, ?_⟩⟩
    rw [upd_x h2]
    exact k dx h1 h2
theorem pu_Unfilled_init {c : Cl} {mg : Str → Option Value} {vs : List V} {H : Hp} {Q : VK} {Ex : XK} (T : Tx mg c) (h : spXi c 10 vs H Q Ex) : t_Unfilled_init c { nx := fun _ H' => Q .non H', rt := Q } (L2.start N_Unfilled_init vs) H := by
  obtain ⟨a, ws, rfl, hl, ha, k⟩ := h
  have hl' : ws.length = 4 := by rw [hl, T.l_Unfilled]; rfl
  rw [T.l_Unfilled] at k
  match ws, hl', k with
  | [x0, x1, x2, x3], _, k =>
    refine ⟨x0, rfl, .ref a, rfl, a, c.ca 10, false, rfl, T.xc_Unfilled, T.xf_Unfilled_procedure.no, .inl ⟨ha, fun dx h1 h2 => ?_⟩⟩
    refine ⟨x1, rfl, .ref a, rfl, a, c.ca 10, false, rfl, T.xc_Unfilled, T.xf_Unfilled_place.no, .inr ⟨dx, _, upd_same, by rw [upd_ne h2, upd_same], Nat.le_of_ble_eq_true rfl, ?_⟩⟩
    rw [upd_x h2]
    refine ⟨x2, rfl, .ref a, rfl, a, c.ca 10, false, rfl, T.xc_Unfilled, T.xf_Unfilled_carrier.no, .inr ⟨dx, _, upd_same, by rw [upd_ne h2, upd_same], Nat.le_of_ble_eq_true rfl, ?_⟩⟩
    rw [upd_x h2]
    refine ⟨x3, rfl, .ref a, rfl, a, c.ca 10, false, rfl, T.xc_Unfilled, T.xf_Unfilled_answers.no, .inr ⟨dx, _, upd_same, by rw [upd_ne h2, upd_same], Nat.le_of_ble_eq_true rfl, ?_⟩⟩
    rw [upd_x h2]
    exact k dx h1 h2
theorem pu_UnknownName_init {c : Cl} {mg : Str → Option Value} {vs : List V} {H : Hp} {Q : VK} {Ex : XK} (T : Tx mg c) (h : spXi c 11 vs H Q Ex) : t_UnknownName_init c { nx := fun _ H' => Q .non H', rt := Q } (L2.start N_UnknownName_init vs) H := by
  obtain ⟨a, ws, rfl, hl, ha, k⟩ := h
  have hl' : ws.length = 1 := by rw [hl, T.l_UnknownName]; rfl
  rw [T.l_UnknownName] at k
  match ws, hl', k with
  | [x0], _, k =>
    refine ⟨x0, rfl, .ref a, rfl, a, c.ca 11, true, rfl, T.xc_UnknownName, T.xf_UnknownName_name.no, .inl ⟨ha, fun dx h1 h2 => ?_⟩⟩
    exact k dx h1 h2
theorem si_made {c : Cl} {mg : Str → Option Value} (T : Tx mg c) : SS c (t_made c) m_made :=
  (ss_seq (ss_asg (se_lc (si_rng1 se_c) sg_name (gk_name (by decide)) st_yes (se_call (sa_cons se_var (sa_cons se_c sa_nil)))) (sg_lst (sgs_cons sg_name (sgs_cons sg_name (sgs_cons sg_name (sgs_cons sg_name sgs_nil)))) rfl))
    (ss_seq (ss_asg (se_lst (sa_cons (se_tup (sa_cons (se_mkV (by rw [T.l_InvalidProgram]; rfl) (sa_cons se_var (sa_cons se_var (sa_cons se_var sa_nil)))) (sa_cons (se_lst (sa_cons se_var (sa_cons se_var (sa_cons se_var sa_nil))) (Nat.le_of_ble_eq_true rfl)) sa_nil)) (Nat.le_of_ble_eq_true rfl)) (sa_cons (se_tup (sa_cons (se_mkK (by rw [T.l_InvalidProgram]; rfl) rfl (by decide) (sa_cons se_var (sa_cons se_var (sa_cons se_var sa_nil)))) (sa_cons (se_lst (sa_cons se_var (sa_cons se_var (sa_cons se_var sa_nil))) (Nat.le_of_ble_eq_true rfl)) sa_nil)) (Nat.le_of_ble_eq_true rfl)) sa_nil)) (Nat.le_of_ble_eq_true rfl)) sg_name)
    (ss_seq (ss_asg (se_op so_add se_var (se_lst (sa_cons (se_tup (sa_cons (se_mkV (by rw [T.l_InvalidText]; rfl) (sa_cons se_var sa_nil)) (sa_cons (se_lst (sa_cons se_var sa_nil) (Nat.le_of_ble_eq_true rfl)) sa_nil)) (Nat.le_of_ble_eq_true rfl)) (sa_cons (se_tup (sa_cons (se_mkK (by rw [T.l_InvalidText]; rfl) rfl (by decide) (sa_cons se_var sa_nil)) (sa_cons (se_lst (sa_cons se_var sa_nil) (Nat.le_of_ble_eq_true rfl)) sa_nil)) (Nat.le_of_ble_eq_true rfl)) (sa_cons (se_tup (sa_cons (se_mkV (by rw [T.l_InvalidStart]; rfl) (sa_cons se_var (sa_cons se_var sa_nil))) (sa_cons (se_lst (sa_cons se_var (sa_cons se_var sa_nil)) (Nat.le_of_ble_eq_true rfl)) sa_nil)) (Nat.le_of_ble_eq_true rfl)) sa_nil))) (Nat.le_of_ble_eq_true rfl))) sg_name)
    (ss_seq (ss_asg (se_op so_add se_var (se_lst (sa_cons (se_tup (sa_cons (se_mkK (by rw [T.l_InvalidStart]; rfl) rfl (by decide) (sa_cons se_var (sa_cons se_var sa_nil))) (sa_cons (se_lst (sa_cons se_var (sa_cons se_var sa_nil)) (Nat.le_of_ble_eq_true rfl)) sa_nil)) (Nat.le_of_ble_eq_true rfl)) (sa_cons (se_tup (sa_cons (se_mkV (by rw [T.l_TooLong]; rfl) (sa_cons se_var sa_nil)) (sa_cons (se_lst (sa_cons se_var sa_nil) (Nat.le_of_ble_eq_true rfl)) sa_nil)) (Nat.le_of_ble_eq_true rfl)) (sa_cons (se_tup (sa_cons (se_mkK (by rw [T.l_TooLong]; rfl) rfl (by decide) (sa_cons se_var sa_nil)) (sa_cons (se_lst (sa_cons se_var sa_nil) (Nat.le_of_ble_eq_true rfl)) sa_nil)) (Nat.le_of_ble_eq_true rfl)) sa_nil))) (Nat.le_of_ble_eq_true rfl))) sg_name)
    (ss_seq (ss_asg (se_op so_add se_var (se_lst (sa_cons (se_tup (sa_cons (se_mkV (by rw [T.l_InvalidCode]; rfl) (sa_cons se_var (sa_cons se_var (sa_cons se_var sa_nil)))) (sa_cons (se_lst (sa_cons se_var (sa_cons se_var (sa_cons se_var sa_nil))) (Nat.le_of_ble_eq_true rfl)) sa_nil)) (Nat.le_of_ble_eq_true rfl)) (sa_cons (se_tup (sa_cons (se_mkK (by rw [T.l_InvalidCode]; rfl) rfl (by decide) (sa_cons se_var (sa_cons se_var (sa_cons se_var sa_nil)))) (sa_cons (se_lst (sa_cons se_var (sa_cons se_var (sa_cons se_var sa_nil))) (Nat.le_of_ble_eq_true rfl)) sa_nil)) (Nat.le_of_ble_eq_true rfl)) sa_nil)) (Nat.le_of_ble_eq_true rfl))) sg_name)
    (ss_seq (ss_asg (se_op so_add se_var (se_lst (sa_cons (se_tup (sa_cons (se_mkV (by rw [T.l_NoRoom]; rfl) (sa_cons se_var (sa_cons se_var sa_nil))) (sa_cons (se_lst (sa_cons se_var (sa_cons se_var sa_nil)) (Nat.le_of_ble_eq_true rfl)) sa_nil)) (Nat.le_of_ble_eq_true rfl)) (sa_cons (se_tup (sa_cons (se_mkK (by rw [T.l_NoRoom]; rfl) rfl (by decide) (sa_cons se_var (sa_cons se_var sa_nil))) (sa_cons (se_lst (sa_cons se_var (sa_cons se_var sa_nil)) (Nat.le_of_ble_eq_true rfl)) sa_nil)) (Nat.le_of_ble_eq_true rfl)) (sa_cons (se_tup (sa_cons (se_mkV (by rw [T.l_InvalidPart]; rfl) (sa_cons se_var (sa_cons se_var sa_nil))) (sa_cons (se_lst (sa_cons se_var (sa_cons se_var sa_nil)) (Nat.le_of_ble_eq_true rfl)) sa_nil)) (Nat.le_of_ble_eq_true rfl)) sa_nil))) (Nat.le_of_ble_eq_true rfl))) sg_name)
    (ss_seq (ss_asg (se_op so_add se_var (se_lst (sa_cons (se_tup (sa_cons (se_mkK (by rw [T.l_InvalidPart]; rfl) rfl (by decide) (sa_cons se_var (sa_cons se_var sa_nil))) (sa_cons (se_lst (sa_cons se_var (sa_cons se_var sa_nil)) (Nat.le_of_ble_eq_true rfl)) sa_nil)) (Nat.le_of_ble_eq_true rfl)) (sa_cons (se_tup (sa_cons (se_mkV (by rw [T.l_LinkRefused]; rfl) (sa_cons se_var (sa_cons se_var (sa_cons se_var sa_nil)))) (sa_cons (se_lst (sa_cons se_var (sa_cons se_var (sa_cons se_var sa_nil))) (Nat.le_of_ble_eq_true rfl)) sa_nil)) (Nat.le_of_ble_eq_true rfl)) sa_nil)) (Nat.le_of_ble_eq_true rfl))) sg_name)
    (ss_seq (ss_asg (se_op so_add se_var (se_lst (sa_cons (se_tup (sa_cons (se_mkK (by rw [T.l_LinkRefused]; rfl) rfl (by decide) (sa_cons se_var (sa_cons se_var (sa_cons se_var sa_nil)))) (sa_cons (se_lst (sa_cons se_var (sa_cons se_var (sa_cons se_var sa_nil))) (Nat.le_of_ble_eq_true rfl)) sa_nil)) (Nat.le_of_ble_eq_true rfl)) (sa_cons (se_tup (sa_cons (se_mk0 T.l_InvalidCommand) (sa_cons (se_lst sa_nil (Nat.le_of_ble_eq_true rfl)) sa_nil)) (Nat.le_of_ble_eq_true rfl)) sa_nil)) (Nat.le_of_ble_eq_true rfl))) sg_name)
    (ss_seq (ss_asg (se_op so_add se_var (se_lst (sa_cons (se_tup (sa_cons (se_mkV (by rw [T.l_Unfilled]; rfl) (sa_cons se_var (sa_cons se_var (sa_cons se_var (sa_cons se_var sa_nil))))) (sa_cons (se_lst (sa_cons se_var (sa_cons se_var (sa_cons se_var (sa_cons se_var sa_nil)))) (Nat.le_of_ble_eq_true rfl)) sa_nil)) (Nat.le_of_ble_eq_true rfl)) sa_nil) (Nat.le_of_ble_eq_true rfl))) sg_name)
    (ss_seq (ss_asg (se_op so_add se_var (se_lst (sa_cons (se_tup (sa_cons (se_mkK (by rw [T.l_Unfilled]; rfl) rfl (by decide) (sa_cons se_var (sa_cons se_var (sa_cons se_var (sa_cons se_var sa_nil))))) (sa_cons (se_lst (sa_cons se_var (sa_cons se_var (sa_cons se_var (sa_cons se_var sa_nil)))) (Nat.le_of_ble_eq_true rfl)) sa_nil)) (Nat.le_of_ble_eq_true rfl)) sa_nil) (Nat.le_of_ble_eq_true rfl))) sg_name)
    (ss_ret (se_op so_add se_var (se_lst (sa_cons (se_tup (sa_cons (se_mkV (by rw [T.l_UnknownName]; rfl) (sa_cons se_var sa_nil)) (sa_cons (se_lst (sa_cons se_var sa_nil) (Nat.le_of_ble_eq_true rfl)) sa_nil)) (Nat.le_of_ble_eq_true rfl)) (sa_cons (se_tup (sa_cons (se_mkK (by rw [T.l_UnknownName]; rfl) rfl (by decide) (sa_cons se_var sa_nil)) (sa_cons (se_lst (sa_cons se_var sa_nil) (Nat.le_of_ble_eq_true rfl)) sa_nil)) (Nat.le_of_ble_eq_true rfl)) sa_nil)) (Nat.le_of_ble_eq_true rfl))))))))))))))
theorem pu_made {c : Cl} {mg : Str → Option Value} {vs : List V} {H : Hp} {Q : VK} {Ex : XK} (T : Tx mg c) (h : spM c w_made vs H Q Ex) : t_made c { nx := fun _ H' => Q .non H', rt := Q } (L2.start N_made vs) H := by
  exact def_of (si_made T) rfl (sp_out (fun _ _ _ z => z.out) h)
theorem si_alike {c : Cl} {mg : Str → Option Value} (T : Tx mg c) : SS c (t_alike c) m_alike :=
  (ss_seq (ss_asg (se_lstO (sa_cons (se_tup (sa_cons se_var (sa_cons se_var sa_nil)) (Nat.le_of_ble_eq_true rfl)) sa_nil) (Nat.le_of_ble_eq_true rfl)) sg_name)
    (ss_seq (ss_while (st_test (se_op so_ne se_var (se_lst sa_nil (Nat.le_of_ble_eq_true rfl)))) (ss_seq (ss_asg (se_met0 sm_pop se_var) (sg_tup (sgs_cons sg_name (sgs_cons sg_name sgs_nil)) rfl))
    (ss_if (st_b (se_isi2 se_var)) (ss_seq (ss_if (st_or (st_test (se_op so_ne (se_isi se_var) (se_isi se_var))) (st_test (se_op so_ne (se_isi se_var) (se_isi se_var)))) (ss_ret se_c) ss_next)
    (ss_seq (ss_if (st_test (se_op so_ne (se_cb sb_len (sa_cons se_var sa_nil)) (se_cb sb_len (sa_cons se_var sa_nil)))) (ss_ret se_c) ss_next)
    (ss_drop (se_met sm_extend se_var (sa_cons (se_listZip se_var se_var) sa_nil))))) (ss_if (st_or (st_b (se_isi2 se_var)) (st_or (st_test (se_op so_ne (se_isi se_var) (se_isi se_var))) (st_test (se_op so_ne se_var se_var)))) (ss_ret se_c) ss_next))))
    (ss_ret se_c)))
theorem pu_alike {c : Cl} {mg : Str → Option Value} {vs : List V} {H : Hp} {Q : VK} {Ex : XK} (T : Tx mg c) (h : spM c w_alike vs H Q Ex) : t_alike c { nx := fun _ H' => Q .non H', rt := Q } (L2.start N_alike vs) H := by
  exact def_of (si_alike T) rfl (sp_out (fun _ _ _ z => z.out) h)
theorem si_kept {c : Cl} {mg : Str → Option Value} (T : Tx mg c) : SS c (t_kept c) m_kept :=
  (ss_seq (ss_if (st_b (se_isV (.own _) T.kx_InvalidProgram se_var)) (ss_ret (se_lst (sa_cons (se_xfld (xfld_cons T.xf_InvalidProgram_word (xfld_cons T.xf_InvalidStart_word (xfld_cons T.xf_InvalidCode_word (xfld_cons T.xf_InvalidPart_word (fun p hp => nomatch hp))))) se_var) (sa_cons (se_xfld (xfld_cons T.xf_InvalidProgram_procedure (xfld_cons T.xf_InvalidCode_procedure (xfld_cons T.xf_NoRoom_procedure (xfld_cons T.xf_Unfilled_procedure (fun p hp => nomatch hp))))) se_var) (sa_cons (se_xfld (xfld_cons T.xf_InvalidProgram_place (xfld_cons T.xf_Unfilled_place (fun p hp => nomatch hp))) se_var) sa_nil))) (Nat.le_of_ble_eq_true rfl))) ss_next)
    (ss_seq (ss_if (st_b (se_isV (.own _) T.kx_InvalidCode se_var)) (ss_ret (se_lst (sa_cons (se_xfld (xfld_cons T.xf_InvalidProgram_word (xfld_cons T.xf_InvalidStart_word (xfld_cons T.xf_InvalidCode_word (xfld_cons T.xf_InvalidPart_word (fun p hp => nomatch hp))))) se_var) (sa_cons (se_xfld (xfld_cons T.xf_InvalidProgram_procedure (xfld_cons T.xf_InvalidCode_procedure (xfld_cons T.xf_NoRoom_procedure (xfld_cons T.xf_Unfilled_procedure (fun p hp => nomatch hp))))) se_var) (sa_cons (se_xfld (xfld_cons T.xf_InvalidCode_row (fun p hp => nomatch hp)) se_var) sa_nil))) (Nat.le_of_ble_eq_true rfl))) ss_next)
    (ss_seq (ss_if (st_b (se_isV2 (.own _) (.own _) T.kx_InvalidStart T.kx_InvalidPart se_var)) (ss_ret (se_lst (sa_cons (se_xfld (xfld_cons T.xf_InvalidProgram_word (xfld_cons T.xf_InvalidStart_word (xfld_cons T.xf_InvalidCode_word (xfld_cons T.xf_InvalidPart_word (fun p hp => nomatch hp))))) se_var) (sa_cons (se_xfld (xfld_cons T.xf_InvalidStart_index (xfld_cons T.xf_InvalidPart_index (fun p hp => nomatch hp))) se_var) sa_nil)) (Nat.le_of_ble_eq_true rfl))) ss_next)
    (ss_seq (ss_if (st_b (se_isV (.own _) T.kx_LinkRefused se_var)) (ss_ret (se_lst (sa_cons (se_xfld (xfld_cons T.xf_LinkRefused_part (fun p hp => nomatch hp)) se_var) (sa_cons (se_xfld (xfld_cons T.xf_LinkRefused_used (fun p hp => nomatch hp)) se_var) (sa_cons (se_xfld (xfld_cons T.xf_LinkRefused_caller (fun p hp => nomatch hp)) se_var) sa_nil))) (Nat.le_of_ble_eq_true rfl))) ss_next)
    (ss_seq (ss_if (st_b (se_isV (.own _) T.kx_Unfilled se_var)) (ss_ret (se_lst (sa_cons (se_xfld (xfld_cons T.xf_InvalidProgram_procedure (xfld_cons T.xf_InvalidCode_procedure (xfld_cons T.xf_NoRoom_procedure (xfld_cons T.xf_Unfilled_procedure (fun p hp => nomatch hp))))) se_var) (sa_cons (se_xfld (xfld_cons T.xf_InvalidProgram_place (xfld_cons T.xf_Unfilled_place (fun p hp => nomatch hp))) se_var) (sa_cons (se_xfld (xfld_cons T.xf_Unfilled_carrier (fun p hp => nomatch hp)) se_var) (sa_cons (se_xfld (xfld_cons T.xf_Unfilled_answers (fun p hp => nomatch hp)) se_var) sa_nil)))) (Nat.le_of_ble_eq_true rfl))) ss_next)
    (ss_seq (ss_if (st_b (se_isV (.own _) T.kx_NoRoom se_var)) (ss_ret (se_lst (sa_cons (se_xfld (xfld_cons T.xf_InvalidProgram_procedure (xfld_cons T.xf_InvalidCode_procedure (xfld_cons T.xf_NoRoom_procedure (xfld_cons T.xf_Unfilled_procedure (fun p hp => nomatch hp))))) se_var) (sa_cons (se_xfld (xfld_cons T.xf_NoRoom_number (fun p hp => nomatch hp)) se_var) sa_nil)) (Nat.le_of_ble_eq_true rfl))) ss_next)
    (ss_seq (ss_if (st_b (se_isV (.own _) T.kx_InvalidText se_var)) (ss_ret (se_lst (sa_cons (se_xfld (xfld_cons T.xf_InvalidText_line (fun p hp => nomatch hp)) se_var) sa_nil) (Nat.le_of_ble_eq_true rfl))) ss_next)
    (ss_seq (ss_if (st_b (se_isV (.own _) T.kx_TooLong se_var)) (ss_ret (se_lst (sa_cons (se_xfld (xfld_cons T.xf_TooLong_steps (fun p hp => nomatch hp)) se_var) sa_nil) (Nat.le_of_ble_eq_true rfl))) ss_next)
    (ss_ret (se_if (st_b (se_isV (.own _) T.kx_UnknownName se_var)) (se_lst (sa_cons (se_xfld (xfld_cons T.xf_UnknownName_name (fun p hp => nomatch hp)) se_var) sa_nil) (Nat.le_of_ble_eq_true rfl)) (se_lst sa_nil (Nat.le_of_ble_eq_true rfl))))))))))))
theorem pu_kept {c : Cl} {mg : Str → Option Value} {vs : List V} {H : Hp} {Q : VK} {Ex : XK} (T : Tx mg c) (h : spM c w_kept vs H Q Ex) : t_kept c { nx := fun _ H' => Q .non H', rt := Q } (L2.start N_kept vs) H := by
  exact def_of (si_kept T) rfl (sp_out (fun _ _ _ z => z.out) h)
theorem si_sorts {c : Cl} {mg : Str → Option Value} (T : Tx mg c) : SS c (t_sorts c) m_sorts :=
  (ss_seq (ss_asg (se_lst (sa_cons (se_isV (.own _) T.kx_InvalidProgram se_var) (sa_cons (se_isV (.own _) T.kx_InvalidText se_var) (sa_cons (se_isV (.own _) T.kx_InvalidStart se_var) sa_nil))) (Nat.le_of_ble_eq_true rfl)) sg_name)
    (ss_seq (ss_asg (se_op so_add se_var (se_lst (sa_cons (se_isV (.own _) T.kx_TooLong se_var) (sa_cons (se_isV (.own _) T.kx_InvalidCode se_var) (sa_cons (se_isV (.own _) T.kx_NoRoom se_var) sa_nil))) (Nat.le_of_ble_eq_true rfl))) sg_name)
    (ss_seq (ss_asg (se_op so_add se_var (se_lst (sa_cons (se_isV (.own _) T.kx_InvalidPart se_var) (sa_cons (se_isV (.own _) T.kx_LinkRefused se_var) (sa_cons (se_isV (.own _) T.kx_InvalidCommand se_var) sa_nil))) (Nat.le_of_ble_eq_true rfl))) sg_name)
    (ss_ret (se_op so_add se_var (se_lst (sa_cons (se_isV (.own _) T.kx_Unfilled se_var) (sa_cons (se_isV (.own _) T.kx_UnknownName se_var) sa_nil)) (Nat.le_of_ble_eq_true rfl)))))))
theorem pu_sorts {c : Cl} {mg : Str → Option Value} {vs : List V} {H : Hp} {Q : VK} {Ex : XK} (T : Tx mg c) (h : spM c w_sorts vs H Q Ex) : t_sorts c { nx := fun _ H' => Q .non H', rt := Q } (L2.start N_sorts vs) H := by
  exact def_of (si_sorts T) rfl (sp_out (fun _ _ _ z => z.out) h)
theorem si_thrown {c : Cl} {mg : Str → Option Value} (T : Tx mg c) : SSX c (t_thrown c) m_thrown :=
  (ssx_seq (ssx_if (st_test (se_op so_eq se_var se_c)) (ssx_raise (by rw [T.l_InvalidProgram]; rfl) (Nat.le_of_ble_eq_true rfl) (sa_cons se_var (sa_cons se_var (sa_cons se_var sa_nil)))) (ssx_of ss_next))
    (ssx_seq (ssx_if (st_test (se_op so_eq se_var se_c)) (ssx_raise (by rw [T.l_InvalidText]; rfl) (Nat.le_of_ble_eq_true rfl) (sa_cons se_var sa_nil)) (ssx_of ss_next))
    (ssx_seq (ssx_if (st_test (se_op so_eq se_var se_c)) (ssx_raise (by rw [T.l_InvalidStart]; rfl) (Nat.le_of_ble_eq_true rfl) (sa_cons se_var (sa_cons se_var sa_nil))) (ssx_of ss_next))
    (ssx_seq (ssx_if (st_test (se_op so_eq se_var se_c)) (ssx_raise (by rw [T.l_TooLong]; rfl) (Nat.le_of_ble_eq_true rfl) (sa_cons se_var sa_nil)) (ssx_of ss_next))
    (ssx_seq (ssx_if (st_test (se_op so_eq se_var se_c)) (ssx_raise (by rw [T.l_InvalidCode]; rfl) (Nat.le_of_ble_eq_true rfl) (sa_cons se_var (sa_cons se_var (sa_cons se_var sa_nil)))) (ssx_of ss_next))
    (ssx_seq (ssx_if (st_test (se_op so_eq se_var se_c)) (ssx_raise (by rw [T.l_NoRoom]; rfl) (Nat.le_of_ble_eq_true rfl) (sa_cons se_var (sa_cons se_var sa_nil))) (ssx_of ss_next))
    (ssx_seq (ssx_if (st_test (se_op so_eq se_var se_c)) (ssx_raise (by rw [T.l_InvalidPart]; rfl) (Nat.le_of_ble_eq_true rfl) (sa_cons se_var (sa_cons se_var sa_nil))) (ssx_of ss_next))
    (ssx_seq (ssx_if (st_test (se_op so_eq se_var se_c)) (ssx_raise (by rw [T.l_LinkRefused]; rfl) (Nat.le_of_ble_eq_true rfl) (sa_cons se_var (sa_cons se_var (sa_cons se_var sa_nil)))) (ssx_of ss_next))
    (ssx_seq (ssx_if (st_test (se_op so_eq se_var se_c)) (ssx_raise0 T.l_InvalidCommand) (ssx_of ss_next))
    (ssx_seq (ssx_if (st_test (se_op so_eq se_var se_c)) (ssx_raise (by rw [T.l_Unfilled]; rfl) (Nat.le_of_ble_eq_true rfl) (sa_cons se_var (sa_cons se_var (sa_cons se_var (sa_cons se_var sa_nil))))) (ssx_of ss_next))
    (ssx_raise (by rw [T.l_UnknownName]; rfl) (Nat.le_of_ble_eq_true rfl) (sa_cons se_var sa_nil))))))))))))
theorem pu_thrown {c : Cl} {mg : Str → Option Value} {vs : List V} {H : Hp} {Q : VK} {Ex : XK} (T : Tx mg c) (h : spMX c w_thrown vs H Q Ex) : t_thrown c (fun cls d _ H' => Ex cls d H') { nx := fun _ H' => Q .non H', rt := Q } (L2.start N_thrown vs) H := by
  exact def_ofX (si_thrown T) rfl (spX_out (fun _ _ _ _ z => z.out) h)
theorem si_caught {c : Cl} {mg : Str → Option Value} (T : Tx mg c) : SS c (t_caught c) m_caught :=
  (ss_seq (ss_asg se_c sg_name)
    (ss_seq (ss_try (ssx_drop (sex_call (sa_cons se_var (sa_cons se_var sa_nil)))) (.cons T.ex_KeyError (ss_asg se_c sg_name) (.cons T.ex_SourError (ss_asg se_c sg_name) .nil)))
    (ss_ret se_var)))
theorem pu_caught {c : Cl} {mg : Str → Option Value} {vs : List V} {H : Hp} {Q : VK} {Ex : XK} (T : Tx mg c) (h : spM c w_caught vs H Q Ex) : t_caught c { nx := fun _ H' => Q .non H', rt := Q } (L2.start N_caught vs) H := by
  exact def_of (si_caught T) rfl (sp_out (fun _ _ _ z => z.out) h)
theorem si_law {c : Cl} {mg : Str → Option Value} (T : Tx mg c) : SS c (t_law c) m_law :=
  (ss_seq (ss_for (si_rng1 (se_cb sb_max2 (sa_cons se_c (sa_cons (se_cb sb_min2 (sa_cons se_c (sa_cons (se_cb sb_len (sa_cons se_var sa_nil)) sa_nil))) sa_nil)))) sg_name (ss_seq (ss_asg (se_call (sa_cons se_var (sa_cons se_var sa_nil))) sg_name)
    (ss_seq (ss_asg (se_lst (sa_cons se_c (sa_cons se_c (sa_cons se_c (sa_cons se_c (sa_cons se_c (sa_cons se_c (sa_cons se_c (sa_cons se_c (sa_cons se_c (sa_cons se_c (sa_cons se_c (sa_cons se_c (sa_cons se_c (sa_cons se_c (sa_cons se_c (sa_cons se_c (sa_cons se_c (sa_cons se_c (sa_cons se_c (sa_cons se_c (sa_cons se_c sa_nil))))))))))))))))))))) (Nat.le_of_ble_eq_true rfl)) sg_name)
    (ss_seq (ss_for (si_enum (se_call (sa_cons se_var sa_nil))) (sg_tup (sgs_cons sg_name (sgs_cons sg_name sgs_nil)) rfl) (ss_seq (ss_asg se_var (sg_tup (sgs_cons sg_name (sgs_cons sg_name sgs_nil)) rfl))
    (ss_seq (ss_if (st_or (st_not (st_b (se_call (sa_cons (se_call (sa_cons se_var sa_nil)) (sa_cons se_var sa_nil))))) (st_test (se_op so_ne (se_call (sa_cons se_var sa_nil)) (se_lc (si_rng1 se_c) sg_name (gk_name (by decide)) st_yes (se_op so_eq se_var (se_op so_ix se_var se_var)))))) (ss_ret se_c) ss_next)
    (ss_seq (ss_if (st_test (se_op so_ne (se_isV (.own _) T.kx_SourError se_var) (se_notV (se_isV (.own _) T.kx_UnknownName se_var)))) (ss_ret se_c) ss_next)
    (ss_if (st_test (se_op so_eq (se_isV (.ty _) T.kx_KeyError se_var) (se_isV (.ty _) T.kx_ValueError se_var))) (ss_ret se_c) ss_next)))))
    (ss_seq (ss_asg (se_call (sa_cons se_var (sa_cons se_c sa_nil))) sg_name)
    (ss_for (si_rng1 se_c) sg_name (ss_if (st_test (se_op so_ne (se_call (sa_cons se_var (sa_cons se_var sa_nil))) (se_op so_ix (se_lst (sa_cons se_c (sa_cons se_c sa_nil)) (Nat.le_of_ble_eq_true rfl)) (se_cb sb_int (sa_cons (se_op so_eq se_var se_c) sa_nil))))) (ss_ret se_c) ss_next)))))))
    (ss_ret se_c))
theorem pu_law {c : Cl} {mg : Str → Option Value} {vs : List V} {H : Hp} {Q : VK} {Ex : XK} (T : Tx mg c) (h : spM c w_law vs H Q Ex) : t_law c { nx := fun _ H' => Q .non H', rt := Q } (L2.start N_law vs) H := by
  exact def_of (si_law T) rfl (sp_out (fun _ _ _ z => z.out) h)
end K01

set_option maxHeartbeats 4000000
namespace K01
open PySem L2 DN
section
variable {O : Ob} {K : KE}
theorem d_take {b : Addr} {m : Int} (hb : Bx b O) (h1 : 1 ≤ m) (h2 : m < 1073741824) (h : ∀ r O', 0 ≤ r → r < m → Dr b O O' → K (.int r) O') : w_take [.at b, .int m] O K := ⟨take_rule hb h1 h2 h⟩
theorem d_box {ns : List Int} {k : Int} (h0 : 0 ≤ k) (h1 : k ≤ 1000000) (h : ∀ p O', O p = none → Ex O O' → Bx p O' → K (.at p) O') : w_box [.scr ns, .int k] O K := ⟨box_rule h0 h1 h⟩
theorem d_alike {d e t : D} (ad : As O d t) (ae : As O e t) (pl : Pl 60 t) (hs : sz t ≤ 100000) (h : ∀ O', Ex O O' → K (.bl true) O') : w_alike [d, e] O K := ⟨alike_rule ad ae pl hs h⟩
end
/-- a value that may be drawn, so deep -/
def Good (k : Nat) (d : D) : Prop := Pl (k + 1) d ∧ sz d ≤ 4 ^ k
theorem good_leaf {k : Nat} {d : D} (h : Pl 1 d) (s : sz d = 1) : Good k d := ⟨h.le (by omega), by rw [s]; exact Nat.one_le_pow _ _ (by decide)⟩
theorem good_tup {k : Nat} {xs : List D} (h : ∀ x ∈ xs, Good k x) (hl : xs.length ≤ 3) : Good (k + 1) (.tup xs) := by
  refine ⟨pl_tup fun x hx => (h x hx).1, ?_⟩
  have a := szL_le (k := 4 ^ k) (xs := xs) fun x hx => (h x hx).2
  have b : xs.length * 4 ^ k ≤ 3 * 4 ^ k := Nat.mul_le_mul_right _ hl
  have c : 1 ≤ 4 ^ k := Nat.one_le_pow _ _ (by decide)
  show szL xs + 1 ≤ 4 ^ (k + 1)
  rw [Nat.pow_succ]
  omega
theorem Good.up {k : Nat} {d : D} (h : Good k d) : Good (k + 1) d := ⟨h.1.le (by omega), by have := h.2; rw [Nat.pow_succ]; omega⟩
def leaves : List D := [.str "", .str "a b", .str "c\n", .int 0, .int (-1), .int 61, .int (10 ^ 30), .bl true, .bl false, .non, .tup []]
theorem leaf_good {k : Nat} : ∀ d ∈ leaves, Good k d := by
  intro d hd
  unfold leaves at hd
  simp only [List.mem_cons, List.not_mem_nil, or_false] at hd
  rcases hd with rfl | rfl | rfl | rfl | rfl | rfl | rfl | rfl | rfl | rfl | rfl
  · exact good_leaf ⟨_, rfl, by decide +kernel, by decide +kernel⟩ rfl
  · exact good_leaf ⟨_, rfl, by decide +kernel, by decide +kernel⟩ rfl
  · exact good_leaf ⟨_, rfl, by decide +kernel, by decide +kernel⟩ rfl
  · exact good_leaf (pl_int _) rfl
  · exact good_leaf (pl_int _) rfl
  · exact good_leaf (pl_int _) rfl
  · exact good_leaf (pl_int _) rfl
  · exact good_leaf (pl_bl _) rfl
  · exact good_leaf (pl_bl _) rfl
  · exact good_leaf pl_non rfl
  · exact good_leaf (pl_tup (k := 0) pl_nil) rfl
theorem d_some {b : Addr} : ∀ (n k : Nat) (O : Ob) (K : KE), k < n → Bx b O → (∀ d O', Good k d → Dr b O O' → K d O') → w_some_value n [.at b, .int (k : Int)] O K
  | 0, k, O, K, hk, _, _ => absurd hk (Nat.not_lt_zero k)
  | n + 1, k, O, K, hk, hb, h => by
    refine r_some_value.mk ?_
    conv => whnf
    refine d_take hb (by decide) (by decide) fun r O1 r0 r1 dr => ?_
    have leaf : ∀ (g3 : Option D), (mSeq (mAsg (mLst [mC (.str ""), mC (.str "a b"), mC (.str "c\n"), mC (.int 0), mUn oNeg (mC (.int 1)), mC (.int 61), mOp oPow (mC (.int 10)) (mC (.int 30)), mC (.bl true), mC (.bl false), mC .non, mTup []]) (mgName 4))
        (mRet (mOp oIx (mVar 4) (mCB w_take [mVar 0, mC (.int 11)])))) { nx := fun _ O' => K .non O', rt := K } [some (.at b), some (.int (k : Int)), some (.int r), g3, none] O1 := by
      intro g3
      conv => whnf
      refine ⟨⟨by decide, by decide, by decide⟩, ?_⟩
      conv => whnf
      refine d_take dr.1 (by decide) (by decide) fun r2 O2 r20 r21 dr2 => ?_
      obtain ⟨j, rfl⟩ : ∃ j : Nat, r2 = (j : Int) := ⟨r2.toNat, by omega⟩
      have lt : j < leaves.length := by show j < 11; omega
      refine ⟨leaves, _, rfl, DN.atI_nat (List.getElem?_eq_getElem lt), ?_⟩
      exact h _ _ (leaf_good _ (List.getElem_mem lt)) (dr.trans dr2)
    conv => whnf
    refine br_i (fun e => ?_) (fun e => ?_)
    · conv => whnf
      refine br_i (fun e2 => ?_) (fun e2 => ?_)
      · conv => whnf
        refine d_take dr.1 (by decide) (by decide) fun r2 O2 r20 r21 dr2 => ?_
        have e2 := of_decide_eq_true e2
        obtain ⟨k', rfl⟩ : ∃ k', k = k' + 1 := ⟨k - 1, by omega⟩
        obtain ⟨m, rfl⟩ : ∃ m : Nat, r2 = (m : Int) := ⟨r2.toNat, by omega⟩
        have d2 := dr.trans dr2
        conv => whnf
        refine ⟨by omega, by omega, ?_⟩
        refine ⟨by show (rngD 0 _).length ≤ 100000; rw [rngD_map, List.length_map, List.length_range]; omega, ?_⟩
        show mLcL none (mgName 3) mYes _ _ (rngD 0 ((m : Int)).toNat) O2 _
        rw [rngD_map]
        refine lc_one (s := none) (en := id) _ (fun O' => Dr b O O') (fun _ _ => trivial) (fun _ d => Good k' d) _ (fun a O3 K3 _ d3 k3 => ?_) O2 _ d2 (fun bs O4 f2 d4 => ?_)
        · conv => whnf
          have e : ((k' + 1 : Nat) : Int) - 1 = (k' : Int) := by omega
          show w_some_value n [.at b, .int (((k' + 1 : Nat) : Int) - 1)] O3 K3
          rw [e]
          exact d_some n k' O3 K3 (by omega) d3.1 fun d O' g dd => k3 d O' g (d3.trans dd)
        · conv => whnf
          refine ⟨_, rfl, ?_⟩
          rw [List.map_id]
          refine h _ _ (good_tup (fun x hx => ?_) ?_) d4
          · obtain ⟨a, _, g⟩ := f2.right x hx
            exact g
          · rw [← f2.length, List.length_range]; omega
      · exact leaf _
    · conv => whnf
      exact br_n rfl (leaf _)
end K01

set_option maxHeartbeats 4000000
namespace K01
open PySem L2 DN
/-- the errors that are made -/
inductive Frm : Nat → List D → Prop
  | f1 (a b c : D) : Frm 1 [a, b, c]
  | f2 (a : D) : Frm 2 [a]
  | f3 (a b : D) : Frm 3 [a, b]
  | f4 (a : D) : Frm 4 [a]
  | f5 (a b c : D) : Frm 5 [a, b, c]
  | f6 (a b : D) : Frm 6 [a, b]
  | f7 (a b : D) : Frm 7 [a, b]
  | f8 (a b c : D) : Frm 8 [a, b, c]
  | f9 : Frm 9 []
  | f10 (a b c d : D) : Frm 10 [a, b, c, d]
  | f11 (a : D) : Frm 11 [a]
section
variable {O : Ob} {K : KE} {t : Nat} {as : List D}
theorem d_kept (f : Frm t as) (h : K (.lst as) O) : w_kept [.exc t as.reverse] O K := by
  refine ⟨?_⟩
  cases f <;> (conv => whnf) <;> repeat (first | exact h | (refine br_y rfl ?_; conv => whnf) | (refine br_n rfl ?_; conv => whnf))
def srt (t : Nat) : List D := (List.range 11).map fun i => .bl (decide (i + 1 = t))
theorem d_sorts (f : Frm t as) (h : K (.lst (srt t)) O) : w_sorts [.exc t as.reverse] O K := by
  refine ⟨?_⟩
  cases f <;> (conv => whnf) <;> (refine ⟨_, _, rfl, rfl, Nat.le_of_ble_eq_true rfl, ?_⟩; conv => whnf) <;> (refine ⟨_, _, rfl, rfl, Nat.le_of_ble_eq_true rfl, ?_⟩; conv => whnf) <;> (refine ⟨_, _, rfl, rfl, Nat.le_of_ble_eq_true rfl, ?_⟩; exact h)
theorem d_caught {v : D} (j : Nat) (hj : j < 11) (h : K (.str (if j = 10 then "key" else "sour")) O) : w_caught [.int (j : Int), v] O K := by
  refine ⟨?_⟩
  match j, hj, h with
  | 0, _, h =>
    conv => whnf
    refine ⟨?_⟩
    conv => whnf
    repeat (first | exact h | refine br_y rfl ?_ | (refine br_n rfl ?_; conv => whnf))
  | 1, _, h =>
    conv => whnf
    refine ⟨?_⟩
    conv => whnf
    repeat (first | exact h | refine br_y rfl ?_ | (refine br_n rfl ?_; conv => whnf))
  | 2, _, h =>
    conv => whnf
    refine ⟨?_⟩
    conv => whnf
    repeat (first | exact h | refine br_y rfl ?_ | (refine br_n rfl ?_; conv => whnf))
  | 3, _, h =>
    conv => whnf
    refine ⟨?_⟩
    conv => whnf
    repeat (first | exact h | refine br_y rfl ?_ | (refine br_n rfl ?_; conv => whnf))
  | 4, _, h =>
    conv => whnf
    refine ⟨?_⟩
    conv => whnf
    repeat (first | exact h | refine br_y rfl ?_ | (refine br_n rfl ?_; conv => whnf))
  | 5, _, h =>
    conv => whnf
    refine ⟨?_⟩
    conv => whnf
    repeat (first | exact h | refine br_y rfl ?_ | (refine br_n rfl ?_; conv => whnf))
  | 6, _, h =>
    conv => whnf
    refine ⟨?_⟩
    conv => whnf
    repeat (first | exact h | refine br_y rfl ?_ | (refine br_n rfl ?_; conv => whnf))
  | 7, _, h =>
    conv => whnf
    refine ⟨?_⟩
    conv => whnf
    repeat (first | exact h | refine br_y rfl ?_ | (refine br_n rfl ?_; conv => whnf))
  | 8, _, h =>
    conv => whnf
    refine ⟨?_⟩
    conv => whnf
    repeat (first | exact h | refine br_y rfl ?_ | (refine br_n rfl ?_; conv => whnf))
  | 9, _, h =>
    conv => whnf
    refine ⟨?_⟩
    conv => whnf
    repeat (first | exact h | refine br_y rfl ?_ | (refine br_n rfl ?_; conv => whnf))
  | 10, _, h =>
    conv => whnf
    refine ⟨?_⟩
    conv => whnf
    repeat (first | exact h | refine br_y rfl ?_ | (refine br_n rfl ?_; conv => whnf))
end
end K01

set_option maxHeartbeats 4000000
namespace K01
open PySem L2 DN
def enc (p : Nat × List D) : D := .tup [.exc p.1 p.2.reverse, .lst p.2]
def its (a b c d : D) : List (Nat × List D) := [(1, [a, b, c]), (1, [a, b, c]), (2, [a]), (2, [b]), (3, [a, b]), (3, [a, b]), (4, [c]), (4, [d]), (5, [a, b, c]), (5, [a, b, c]), (6, [a, b]), (6, [a, b]), (7, [c, d]), (7, [c, d]), (8, [a, b, c]), (8, [a, b, c]), (9, []), (10, [a, b, c, d]), (10, [a, b, c, d]), (11, [d]), (11, [a])]
section
variable {O : Ob} {K : KE}
theorem d_made {b : Addr} (hb : Bx b O) (h : ∀ a1 a2 a3 a4 O', Good 3 a1 → Good 3 a2 → Good 3 a3 → Good 3 a4 → Dr b O O' → K (.lst ((its a1 a2 a3 a4).map enc)) O') : w_made [.at b] O K := by
  refine ⟨?_⟩
  conv => whnf
  refine ⟨by decide, by decide, Nat.le_of_ble_eq_true rfl, ?_⟩
  show mLcL none (mgName 5) mYes _ _ (rngD 0 4) O _
  rw [rngD_map]
  refine lc_one (s := none) (en := id) _ (fun O' => Dr b O O') (fun _ _ => trivial) (fun _ d => Good 3 d) _ (fun a O3 K3 _ d3 k3 => ?_) O _ (Dr.rfl hb) (fun bs O4 f2 d4 => ?_)
  · conv => whnf
    exact d_some 4 3 O3 K3 (by decide) d3.1 fun d O' g dd => k3 d O' g (d3.trans dd)
  · have hl := f2.length
    rw [List.length_range] at hl
    have gd : ∀ x ∈ bs, Good 3 x := fun x hx => by
      obtain ⟨a, _, g⟩ := f2.right x hx
      exact g
    match bs, hl, gd with
    | [x1, x2, x3, x4], _, gd =>
      refine ⟨_, rfl, rfl, ?_⟩
      conv => whnf
      refine ⟨_, _, rfl, rfl, Nat.le_of_ble_eq_true rfl, ?_⟩
      conv => whnf
      refine ⟨_, _, rfl, rfl, Nat.le_of_ble_eq_true rfl, ?_⟩
      conv => whnf
      refine ⟨_, _, rfl, rfl, Nat.le_of_ble_eq_true rfl, ?_⟩
      conv => whnf
      refine ⟨_, _, rfl, rfl, Nat.le_of_ble_eq_true rfl, ?_⟩
      conv => whnf
      refine ⟨_, _, rfl, rfl, Nat.le_of_ble_eq_true rfl, ?_⟩
      conv => whnf
      refine ⟨_, _, rfl, rfl, Nat.le_of_ble_eq_true rfl, ?_⟩
      conv => whnf
      refine ⟨_, _, rfl, rfl, Nat.le_of_ble_eq_true rfl, ?_⟩
      conv => whnf
      refine ⟨_, _, rfl, rfl, Nat.le_of_ble_eq_true rfl, ?_⟩
      conv => whnf
      refine ⟨_, _, rfl, rfl, Nat.le_of_ble_eq_true rfl, ?_⟩
      exact h x1 x2 x3 x4 _ (gd _ (by simp)) (gd _ (by simp)) (gd _ (by simp)) (gd _ (by simp)) d4
theorem its_frm {a b c d : D} {j t : Nat} {as : List D} (h : (its a b c d)[j]? = some (t, as)) : Frm t as ∧ (t : Int) - 1 = ([0, 0, 1, 1, 2, 2, 3, 3, 4, 4, 5, 5, 6, 6, 7, 7, 8, 9, 9, 10, 10] : List Int).getD j 0 ∧ ∀ x ∈ as, x = a ∨ x = b ∨ x = c ∨ x = d := by
  have hj : j < 21 := (List.getElem?_eq_some_iff.mp h).1
  have key : ∀ j, j < 21 → ∀ t as, (its a b c d)[j]? = some (t, as) → Frm t as ∧ (t : Int) - 1 = ([0, 0, 1, 1, 2, 2, 3, 3, 4, 4, 5, 5, 6, 6, 7, 7, 8, 9, 9, 10, 10] : List Int).getD j 0 ∧ ∀ x ∈ as, x = a ∨ x = b ∨ x = c ∨ x = d := by
    intro j hj t as h
    match j, hj, h with
    | 0, _, h => cases h; exact ⟨.f1 _ _ _, rfl, by simp⟩
    | 1, _, h => cases h; exact ⟨.f1 _ _ _, rfl, by simp⟩
    | 2, _, h => cases h; exact ⟨.f2 _, rfl, by simp⟩
    | 3, _, h => cases h; exact ⟨.f2 _, rfl, by simp⟩
    | 4, _, h => cases h; exact ⟨.f3 _ _, rfl, by simp⟩
    | 5, _, h => cases h; exact ⟨.f3 _ _, rfl, by simp⟩
    | 6, _, h => cases h; exact ⟨.f4 _, rfl, by simp⟩
    | 7, _, h => cases h; exact ⟨.f4 _, rfl, by simp⟩
    | 8, _, h => cases h; exact ⟨.f5 _ _ _, rfl, by simp⟩
    | 9, _, h => cases h; exact ⟨.f5 _ _ _, rfl, by simp⟩
    | 10, _, h => cases h; exact ⟨.f6 _ _, rfl, by simp⟩
    | 11, _, h => cases h; exact ⟨.f6 _ _, rfl, by simp⟩
    | 12, _, h => cases h; exact ⟨.f7 _ _, rfl, by simp⟩
    | 13, _, h => cases h; exact ⟨.f7 _ _, rfl, by simp⟩
    | 14, _, h => cases h; exact ⟨.f8 _ _ _, rfl, by simp⟩
    | 15, _, h => cases h; exact ⟨.f8 _ _ _, rfl, by simp⟩
    | 16, _, h => cases h; exact ⟨.f9, rfl, by simp⟩
    | 17, _, h => cases h; exact ⟨.f10 _ _ _ _, rfl, by simp⟩
    | 18, _, h => cases h; exact ⟨.f10 _ _ _ _, rfl, by simp⟩
    | 19, _, h => cases h; exact ⟨.f11 _, rfl, by simp⟩
    | 20, _, h => cases h; exact ⟨.f11 _, rfl, by simp⟩
  exact key j hj t as h
end
end K01

set_option maxHeartbeats 4000000
namespace K01
open PySem L2 DN
def ordL : List Int := [0, 0, 1, 1, 2, 2, 3, 3, 4, 4, 5, 5, 6, 6, 7, 7, 8, 9, 9, 10, 10]
section
variable {O : Ob} {K : KE}
theorem ne_srt {t : Nat} {as : List D} (f : Frm t as) (h : K (.bl false) O) : oNe (.lst (srt t)) (.lst (srt t)) O K := by
  have e : ∀ p : PyData, PyData.eqv p p = true → K (.bl (!PyData.eqv p p)) O := fun p e => by rw [e]; exact h
  cases f <;> exact ⟨_, _, rfl, rfl, by decide +kernel, by decide +kernel, e _ (by decide +kernel)⟩
theorem l0_step {ns : List Int} {b : Addr} {g1 g4 g5 g8 g9 : Option D} {j t : Nat} {as : List D} {B : MEnds} (g : ∀ x ∈ as, Good 3 x) (f : Frm t as) (hj : j < 21) (ht : (t : Int) - 1 = ordL.getD j 0)
    (h : ∀ O', Ex O O' → ∀ G', (∃ g1 g4 g5 g6 g7 g8 g9, G' = [some (.scr ns), g1, some (.at b), some (.lst (ordL.map D.int)), g4, g5, g6, g7, g8, g9]) → B.nx G' O') :
    m_law_l0 B [some (.scr ns), g1, some (.at b), some (.lst (ordL.map D.int)), g4, g5, some (.int (j : Int)), some (enc (t, as)), g8, g9] O := by
  conv => whnf
  refine d_kept f ?_
  conv => whnf
  have ln : as.length ≤ 4 := by cases f <;> exact Nat.le_of_ble_eq_true rfl
  have pl : Pl 60 (.lst as) := (pl_lst (k := 4) fun x hx => (g x hx).1).le (by decide)
  have ss : sz (.lst as) ≤ 100000 := by
    have a := szL_le (k := 4 ^ 3) (xs := as) fun x hx => (g x hx).2
    have e : (4 : Nat) ^ 3 = 64 := rfl
    rw [e] at a
    show szL as + 1 ≤ 100000
    omega
  refine d_alike (t := .lst as) (.inl rfl) (.inl rfl) pl ss fun O1 x1 => ?_
  conv => whnf
  refine br_n rfl ?_
  conv => whnf
  refine d_sorts f ?_
  conv => whnf
  refine ⟨by decide, by decide, Nat.le_of_ble_eq_true rfl, ?_⟩
  show mLcL none (mgName 5) mYes _ _ (rngD 0 11) O1 _
  rw [rngD_map]
  refine lc_map (s := none) _ (fun (i : Nat) => D.bl (decide (i + 1 = t))) (fun O' => O' = O1) (fun _ _ => trivial) _ (fun a O3 K3 _ d3 k3 => ?_) O1 _ rfl (fun O4 d4 => ?_)
  · conv => whnf
    have at_ : L2.atI (ordL.map D.int) (j : Int) = some (.int (ordL.getD j 0)) := atI_map D.int ordL j _ (by
      have : j < ordL.length := hj
      rw [List.getD_eq_getElem?_getD, List.getElem?_eq_getElem this]; rfl)
    refine ⟨_, _, rfl, at_, ?_⟩
    have e : decide ((0 : Int) + (a : Int) = ordL.getD j 0) = decide (a + 1 = t) := decide_eq_decide.mpr ⟨fun z => by omega, fun z => by omega⟩
    show K3 (.bl (decide ((0 : Int) + (a : Int) = ordL.getD j 0))) O3
    rw [e]
    exact k3 _ d3
  · rw [d4]
    show oNe (.lst (srt t)) (.lst (srt t)) O1 _
    refine ne_srt f ?_
    conv => whnf
    refine br_n rfl ?_
    cases f <;> ((conv => whnf); refine br_n rfl ?_; (conv => whnf); refine br_n rfl ?_; exact h O1 x1 _ ⟨_, _, _, _, _, _, _, rfl⟩)
end
end K01

set_option maxHeartbeats 4000000
namespace K01
open PySem L2 DN
theorem l1_step {O : Ob} {g0 g1 g2 g3 g6 g7 g8 g9 : Option D} {v : D} {B : MEnds} (j : Nat) (hj : j < 11) (h : B.nx [g0, g1, g2, g3, some v, some (.int (j : Int)), g6, g7, g8, g9] O) : m_law_l1 B [g0, g1, g2, g3, some v, some (.int (j : Int)), g6, g7, g8, g9] O := by
  conv => whnf
  refine d_caught j hj ?_
  match j, hj, h with
  | 0, _, h => exact ⟨_, _, rfl, rfl, br_n rfl h⟩
  | 1, _, h => exact ⟨_, _, rfl, rfl, br_n rfl h⟩
  | 2, _, h => exact ⟨_, _, rfl, rfl, br_n rfl h⟩
  | 3, _, h => exact ⟨_, _, rfl, rfl, br_n rfl h⟩
  | 4, _, h => exact ⟨_, _, rfl, rfl, br_n rfl h⟩
  | 5, _, h => exact ⟨_, _, rfl, rfl, br_n rfl h⟩
  | 6, _, h => exact ⟨_, _, rfl, rfl, br_n rfl h⟩
  | 7, _, h => exact ⟨_, _, rfl, rfl, br_n rfl h⟩
  | 8, _, h => exact ⟨_, _, rfl, rfl, br_n rfl h⟩
  | 9, _, h => exact ⟨_, _, rfl, rfl, br_n rfl h⟩
  | 10, _, h => exact ⟨_, _, rfl, rfl, br_n rfl h⟩
theorem l2_step {ns : List Int} {O : Ob} {k : Nat} {g2 g3 g4 g5 g6 g7 g8 g9 : Option D} {B : MEnds} (hk : k < 4) (h : ∀ O' G', (∃ g1 g2 g3 g4 g5 g6 g7 g8 g9, G' = [some (.scr ns), g1, g2, g3, g4, g5, g6, g7, g8, g9]) → B.nx G' O') :
    m_law_l2 B [some (.scr ns), some (.int (k : Int)), g2, g3, g4, g5, g6, g7, g8, g9] O := by
  conv => whnf
  refine d_box (by omega) (by omega) fun b O1 _ x1 b1 => ?_
  conv => whnf
  refine d_made b1 fun a1 a2 a3 a4 O2 h1 h2 h3 h4 dr2 => ?_
  refine ⟨_, rfl, ?_⟩
  refine for_enum (s := none) enc (its a1 a2 a3 a4) (fun j G O => Bx b O ∧ ∃ g1 g4 g5 g6 g7 g8 g9, G = [some (.scr ns), g1, some (.at b), some (.lst (ordL.map D.int)), g4, g5, g6, g7, g8, g9]) (fun _ _ _ _ => trivial) (fun G O ⟨bx, g1, g4, g5, g6, g7, g8, g9, e⟩ => ?nx) (fun j a G O nx ha ⟨bx, g1, g4, g5, g6, g7, g8, g9, e⟩ k2 => ?st) _ _ ⟨dr2.1, _, _, _, _, _, _, _, rfl⟩
  case st =>
    subst e
    obtain ⟨t, as⟩ := a
    obtain ⟨f, e1, e2⟩ := its_frm ha
    have hj : j < 21 := (List.getElem?_eq_some_iff.mp ha).1
    have g : ∀ x ∈ as, Good 3 x := fun x hx => by rcases e2 x hx with rfl | rfl | rfl | rfl <;> assumption
    refine l0_step g f hj e1 fun O' x' G' eg => k2 G' O' ⟨?_, eg⟩
    obtain ⟨n, s, c, eb⟩ := bx
    exact ⟨n, s, c, x'.at eb⟩
  case nx =>
    subst e
    conv => whnf
    refine d_some 4 2 O _ (by decide) bx fun d O3 _ dr3 => ?_
    conv => whnf
    refine ⟨by decide, by decide, ?_⟩
    refine for_rng (s := none) 11 0 (fun j G O => ∃ g1 g2 g3 g5 g6 g7 g8 g9, G = [some (.scr ns), g1, g2, g3, some d, g5, g6, g7, g8, g9]) (fun _ _ _ _ => trivial) (fun G O ⟨g1, g2, g3, g5, g6, g7, g8, g9, e⟩ => ?nx2) (fun j G O nx hj ⟨g1, g2, g3, g5, g6, g7, g8, g9, e⟩ k3 => ?st2) _ _ ⟨_, _, _, _, _, _, _, _, rfl⟩
    case st2 =>
      subst e
      have e0 : (0 : Int) + (j : Int) = (j : Int) := by omega
      rw [e0]
      exact l1_step j hj (k3 _ _ ⟨_, _, _, _, _, _, _, _, rfl⟩)
    case nx2 =>
      subst e
      exact h _ _ ⟨_, _, _, _, _, _, _, _, _, rfl⟩
theorem law_true (ns : List Int) (h : ns.length ≤ 63) : w_law [.scr ns] (fun _ => none) (fun d _ => d = .bl true) := by
  refine ⟨?_⟩
  conv => whnf
  refine ⟨by omega, by omega, ?_⟩
  refine for_rng (s := none) _ 0 (fun j G O => ∃ g1 g2 g3 g4 g5 g6 g7 g8 g9, G = [some (.scr ns), g1, g2, g3, g4, g5, g6, g7, g8, g9]) (fun _ _ _ _ => trivial) (fun G O ⟨g1, g2, g3, g4, g5, g6, g7, g8, g9, e⟩ => ?nx) (fun j G O nx hj ⟨g1, g2, g3, g4, g5, g6, g7, g8, g9, e⟩ k => ?st) _ _ ⟨_, _, _, _, _, _, _, _, _, rfl⟩
  case st =>
    subst e
    have e0 : (0 : Int) + (j : Int) = (j : Int) := by omega
    rw [e0]
    exact l2_step (by omega) fun O' G' eg => k G' O' eg
  case nx =>
    subst e
    rfl
end K01

set_option maxHeartbeats 0
namespace K01
open PySem PySem.Spec PyProof.Rows L2 DL DN
section
variable {P : Program} {w : World} {c : Cl} {mg : Str → Option Value} {base : Heap} {f : Addr} {fd : FuncData}
theorem ok_box (T : Tx mg c) (F0 : L2.FunD c.K "_law_box" "_law_box" (defArgs s_box) (defBody s_box) (defScope s_box) [] [] f fd) : FnS false P w c.K mg base 2 f (spM c w_box) :=
  have F := He5.fun_of F0
  ok_body F sc_box (DL.Fun_binds (ps := ["_law_script", "_law_k"]) F fun _ _ _ _ _ _ us hl => match us, hl with | [_, _], _ => rfl) (fun vs H Q E h => len_of (sp_out (fun _ _ _ z => z.out) h)) (fun cdv A outer s H vs Q Ex hr hg h => ⟨t_box c, der_box T hr, pu_box T h⟩)
theorem ok_take (T : Tx mg c) (F0 : L2.FunD c.K "_law_take" "_law_take" (defArgs s_take) (defBody s_take) (defScope s_take) [] [] f fd) : FnS false P w c.K mg base 2 f (spM c w_take) :=
  have F := He5.fun_of F0
  ok_body F sc_take (DL.Fun_binds (ps := ["_law_box_here", "_law_many"]) F fun _ _ _ _ _ _ us hl => match us, hl with | [_, _], _ => rfl) (fun vs H Q E h => len_of (sp_out (fun _ _ _ z => z.out) h)) (fun cdv A outer s H vs Q Ex hr hg h => ⟨t_take c, der_take T hr, pu_take T h⟩)
theorem ok_some_value (T : Tx mg c) (h_take : H_take P w mg base c) (F0 : L2.FunD c.K "_law_some_value" "_law_some_value" (defArgs s_some_value) (defBody s_some_value) (defScope s_some_value) [] [] f fd) (e1 : mg "_law_some_value" = some (.ref f)) (e2 : PySem.W.keepIn c.K (.ref f) = true) : ∀ n, H_some_value P w mg base c n := by
  have F := He5.fun_of F0
  intro n
  induction n with
  | zero => exact ⟨f, e1, e2, fun A outer s H us vs Q Ex hr hg e0 r h => by obtain ⟨_, _, _, _, _, _, z, _⟩ := h; exact z.elim⟩
  | succ n h_rec =>
    exact ⟨f, e1, e2, ok_body F sc_some_value (DL.Fun_binds (ps := ["_law_box_here", "_law_deep"]) F fun _ _ _ _ _ _ us hl => match us, hl with | [_, _], _ => rfl) (fun vs H Q E h => len_of (sp_out (w' := wOf 2 5 (m_some_value (w_some_value n))) (fun _ _ _ z => r_some_value.out z) h)) (fun cdv A outer s H vs Q Ex hr hg h => ⟨t_some_value c (w_some_value n), der_some_value T h_take h_rec hr, pu_some_value T h⟩)⟩
theorem ok_InvalidProgram_init (T : Tx mg c) (F0 : L2.FunD c.K "__init__" "InvalidProgram.__init__" (defArgs s_InvalidProgram_init) (defBody s_InvalidProgram_init) (defScope s_InvalidProgram_init) [] [] f fd) (iC : xiB (c.ca 1) f c.K = true) : H_InvalidProgram_init P w mg base c :=
  have F := He5.fun_of F0
  ⟨T.xc_InvalidProgram, f, fd, ["self", "word", "procedure", "place"], He.eqO_ok (He.ba iC).1, eqV_ok (He.ba iC).2, ok_fn F0 sc_InvalidProgram_init (fun vs H Q E h => len_xi (n := 3) (by rw [T.l_InvalidProgram]; rfl) h) (fun cdv A outer s H vs Q Ex hr h => ⟨t_InvalidProgram_init c, der_InvalidProgram_init T hr, pu_InvalidProgram_init T h⟩), (DL.Fun_binds (ps := ["self", "word", "procedure", "place"]) F fun _ _ _ _ _ _ us hl => match us, hl with | [_, _, _, _], _ => rfl), (kbs_cons (kb_of F fun _ _ _ _ _ _ us ws h1 h2 => match us, ws, h1, h2 with | [_], [_, _, _], _, _ => rfl) (fun o ho => nomatch ho))⟩
theorem ok_InvalidText_init (T : Tx mg c) (F0 : L2.FunD c.K "__init__" "InvalidText.__init__" (defArgs s_InvalidText_init) (defBody s_InvalidText_init) (defScope s_InvalidText_init) [] [] f fd) (iC : xiB (c.ca 2) f c.K = true) : H_InvalidText_init P w mg base c :=
  have F := He5.fun_of F0
  ⟨T.xc_InvalidText, f, fd, ["self", "line"], He.eqO_ok (He.ba iC).1, eqV_ok (He.ba iC).2, ok_fn F0 sc_InvalidText_init (fun vs H Q E h => len_xi (n := 1) (by rw [T.l_InvalidText]; rfl) h) (fun cdv A outer s H vs Q Ex hr h => ⟨t_InvalidText_init c, der_InvalidText_init T hr, pu_InvalidText_init T h⟩), (DL.Fun_binds (ps := ["self", "line"]) F fun _ _ _ _ _ _ us hl => match us, hl with | [_, _], _ => rfl), (kbs_cons (kb_of F fun _ _ _ _ _ _ us ws h1 h2 => match us, ws, h1, h2 with | [_], [_], _, _ => rfl) (fun o ho => nomatch ho))⟩
theorem ok_InvalidStart_init (T : Tx mg c) (F0 : L2.FunD c.K "__init__" "InvalidStart.__init__" (defArgs s_InvalidStart_init) (defBody s_InvalidStart_init) (defScope s_InvalidStart_init) [] [] f fd) (iC : xiB (c.ca 3) f c.K = true) : H_InvalidStart_init P w mg base c :=
  have F := He5.fun_of F0
  ⟨T.xc_InvalidStart, f, fd, ["self", "word", "index"], He.eqO_ok (He.ba iC).1, eqV_ok (He.ba iC).2, ok_fn F0 sc_InvalidStart_init (fun vs H Q E h => len_xi (n := 2) (by rw [T.l_InvalidStart]; rfl) h) (fun cdv A outer s H vs Q Ex hr h => ⟨t_InvalidStart_init c, der_InvalidStart_init T hr, pu_InvalidStart_init T h⟩), (DL.Fun_binds (ps := ["self", "word", "index"]) F fun _ _ _ _ _ _ us hl => match us, hl with | [_, _, _], _ => rfl), (kbs_cons (kb_of F fun _ _ _ _ _ _ us ws h1 h2 => match us, ws, h1, h2 with | [_], [_, _], _, _ => rfl) (fun o ho => nomatch ho))⟩
theorem ok_TooLong_init (T : Tx mg c) (F0 : L2.FunD c.K "__init__" "TooLong.__init__" (defArgs s_TooLong_init) (defBody s_TooLong_init) (defScope s_TooLong_init) [] [] f fd) (iC : xiB (c.ca 4) f c.K = true) : H_TooLong_init P w mg base c :=
  have F := He5.fun_of F0
  ⟨T.xc_TooLong, f, fd, ["self", "steps"], He.eqO_ok (He.ba iC).1, eqV_ok (He.ba iC).2, ok_fn F0 sc_TooLong_init (fun vs H Q E h => len_xi (n := 1) (by rw [T.l_TooLong]; rfl) h) (fun cdv A outer s H vs Q Ex hr h => ⟨t_TooLong_init c, der_TooLong_init T hr, pu_TooLong_init T h⟩), (DL.Fun_binds (ps := ["self", "steps"]) F fun _ _ _ _ _ _ us hl => match us, hl with | [_, _], _ => rfl), (kbs_cons (kb_of F fun _ _ _ _ _ _ us ws h1 h2 => match us, ws, h1, h2 with | [_], [_], _, _ => rfl) (fun o ho => nomatch ho))⟩
theorem ok_InvalidCode_init (T : Tx mg c) (F0 : L2.FunD c.K "__init__" "InvalidCode.__init__" (defArgs s_InvalidCode_init) (defBody s_InvalidCode_init) (defScope s_InvalidCode_init) [] [] f fd) (iC : xiB (c.ca 5) f c.K = true) : H_InvalidCode_init P w mg base c :=
  have F := He5.fun_of F0
  ⟨T.xc_InvalidCode, f, fd, ["self", "word", "procedure", "row"], He.eqO_ok (He.ba iC).1, eqV_ok (He.ba iC).2, ok_fn F0 sc_InvalidCode_init (fun vs H Q E h => len_xi (n := 3) (by rw [T.l_InvalidCode]; rfl) h) (fun cdv A outer s H vs Q Ex hr h => ⟨t_InvalidCode_init c, der_InvalidCode_init T hr, pu_InvalidCode_init T h⟩), (DL.Fun_binds (ps := ["self", "word", "procedure", "row"]) F fun _ _ _ _ _ _ us hl => match us, hl with | [_, _, _, _], _ => rfl), (kbs_cons (kb_of F fun _ _ _ _ _ _ us ws h1 h2 => match us, ws, h1, h2 with | [_], [_, _, _], _, _ => rfl) (fun o ho => nomatch ho))⟩
theorem ok_NoRoom_init (T : Tx mg c) (F0 : L2.FunD c.K "__init__" "NoRoom.__init__" (defArgs s_NoRoom_init) (defBody s_NoRoom_init) (defScope s_NoRoom_init) [] [] f fd) (iC : xiB (c.ca 6) f c.K = true) : H_NoRoom_init P w mg base c :=
  have F := He5.fun_of F0
  ⟨T.xc_NoRoom, f, fd, ["self", "procedure", "number"], He.eqO_ok (He.ba iC).1, eqV_ok (He.ba iC).2, ok_fn F0 sc_NoRoom_init (fun vs H Q E h => len_xi (n := 2) (by rw [T.l_NoRoom]; rfl) h) (fun cdv A outer s H vs Q Ex hr h => ⟨t_NoRoom_init c, der_NoRoom_init T hr, pu_NoRoom_init T h⟩), (DL.Fun_binds (ps := ["self", "procedure", "number"]) F fun _ _ _ _ _ _ us hl => match us, hl with | [_, _, _], _ => rfl), (kbs_cons (kb_of F fun _ _ _ _ _ _ us ws h1 h2 => match us, ws, h1, h2 with | [_], [_, _], _, _ => rfl) (fun o ho => nomatch ho))⟩
theorem ok_InvalidPart_init (T : Tx mg c) (F0 : L2.FunD c.K "__init__" "InvalidPart.__init__" (defArgs s_InvalidPart_init) (defBody s_InvalidPart_init) (defScope s_InvalidPart_init) [] [] f fd) (iC : xiB (c.ca 7) f c.K = true) : H_InvalidPart_init P w mg base c :=
  have F := He5.fun_of F0
  ⟨T.xc_InvalidPart, f, fd, ["self", "word", "index"], He.eqO_ok (He.ba iC).1, eqV_ok (He.ba iC).2, ok_fn F0 sc_InvalidPart_init (fun vs H Q E h => len_xi (n := 2) (by rw [T.l_InvalidPart]; rfl) h) (fun cdv A outer s H vs Q Ex hr h => ⟨t_InvalidPart_init c, der_InvalidPart_init T hr, pu_InvalidPart_init T h⟩), (DL.Fun_binds (ps := ["self", "word", "index"]) F fun _ _ _ _ _ _ us hl => match us, hl with | [_, _, _], _ => rfl), (kbs_cons (kb_of F fun _ _ _ _ _ _ us ws h1 h2 => match us, ws, h1, h2 with | [_], [_, _], _, _ => rfl) (fun o ho => nomatch ho))⟩
theorem ok_LinkRefused_init (T : Tx mg c) (F0 : L2.FunD c.K "__init__" "LinkRefused.__init__" (defArgs s_LinkRefused_init) (defBody s_LinkRefused_init) (defScope s_LinkRefused_init) [] [] f fd) (iC : xiB (c.ca 8) f c.K = true) : H_LinkRefused_init P w mg base c :=
  have F := He5.fun_of F0
  ⟨T.xc_LinkRefused, f, fd, ["self", "part", "used", "caller"], He.eqO_ok (He.ba iC).1, eqV_ok (He.ba iC).2, ok_fn F0 sc_LinkRefused_init (fun vs H Q E h => len_xi (n := 3) (by rw [T.l_LinkRefused]; rfl) h) (fun cdv A outer s H vs Q Ex hr h => ⟨t_LinkRefused_init c, der_LinkRefused_init T hr, pu_LinkRefused_init T h⟩), (DL.Fun_binds (ps := ["self", "part", "used", "caller"]) F fun _ _ _ _ _ _ us hl => match us, hl with | [_, _, _, _], _ => rfl), (kbs_cons (kb_of F fun _ _ _ _ _ _ us ws h1 h2 => match us, ws, h1, h2 with | [_], [_, _, _], _, _ => rfl) (fun o ho => nomatch ho))⟩
theorem ok_Unfilled_init (T : Tx mg c) (F0 : L2.FunD c.K "__init__" "Unfilled.__init__" (defArgs s_Unfilled_init) (defBody s_Unfilled_init) (defScope s_Unfilled_init) [] [] f fd) (iC : xiB (c.ca 10) f c.K = true) : H_Unfilled_init P w mg base c :=
  have F := He5.fun_of F0
  ⟨T.xc_Unfilled, f, fd, ["self", "procedure", "place", "carrier", "answers"], He.eqO_ok (He.ba iC).1, eqV_ok (He.ba iC).2, ok_fn F0 sc_Unfilled_init (fun vs H Q E h => len_xi (n := 4) (by rw [T.l_Unfilled]; rfl) h) (fun cdv A outer s H vs Q Ex hr h => ⟨t_Unfilled_init c, der_Unfilled_init T hr, pu_Unfilled_init T h⟩), (DL.Fun_binds (ps := ["self", "procedure", "place", "carrier", "answers"]) F fun _ _ _ _ _ _ us hl => match us, hl with | [_, _, _, _, _], _ => rfl), (kbs_cons (kb_of F fun _ _ _ _ _ _ us ws h1 h2 => match us, ws, h1, h2 with | [_], [_, _, _, _], _, _ => rfl) (fun o ho => nomatch ho))⟩
theorem ok_UnknownName_init (T : Tx mg c) (F0 : L2.FunD c.K "__init__" "UnknownName.__init__" (defArgs s_UnknownName_init) (defBody s_UnknownName_init) (defScope s_UnknownName_init) [] [] f fd) (iC : xiB (c.ca 11) f c.K = true) : H_UnknownName_init P w mg base c :=
  have F := He5.fun_of F0
  ⟨T.xc_UnknownName, f, fd, ["self", "name"], He.eqO_ok (He.ba iC).1, eqV_ok (He.ba iC).2, ok_fn F0 sc_UnknownName_init (fun vs H Q E h => len_xi (n := 1) (by rw [T.l_UnknownName]; rfl) h) (fun cdv A outer s H vs Q Ex hr h => ⟨t_UnknownName_init c, der_UnknownName_init T hr, pu_UnknownName_init T h⟩), (DL.Fun_binds (ps := ["self", "name"]) F fun _ _ _ _ _ _ us hl => match us, hl with | [_, _], _ => rfl), (kbs_cons (kb_of F fun _ _ _ _ _ _ us ws h1 h2 => match us, ws, h1, h2 with | [_], [_], _, _ => rfl) (fun o ho => nomatch ho))⟩
theorem ok_made (T : Tx mg c) (h_some_value : H_some_value P w mg base c 4) (h_InvalidProgram_init : H_InvalidProgram_init P w mg base c) (h_InvalidText_init : H_InvalidText_init P w mg base c) (h_InvalidStart_init : H_InvalidStart_init P w mg base c) (h_TooLong_init : H_TooLong_init P w mg base c) (h_InvalidCode_init : H_InvalidCode_init P w mg base c) (h_NoRoom_init : H_NoRoom_init P w mg base c) (h_InvalidPart_init : H_InvalidPart_init P w mg base c) (h_LinkRefused_init : H_LinkRefused_init P w mg base c) (h_Unfilled_init : H_Unfilled_init P w mg base c) (h_UnknownName_init : H_UnknownName_init P w mg base c) (F0 : L2.FunD c.K "_law_made" "_law_made" (defArgs s_made) (defBody s_made) (defScope s_made) [] [] f fd) : FnS false P w c.K mg base 14 f (spM c w_made) :=
  have F := He5.fun_of F0
  ok_body F sc_made (DL.Fun_binds (ps := ["_law_box_here"]) F fun _ _ _ _ _ _ us hl => match us, hl with | [_], _ => rfl) (fun vs H Q E h => len_of (sp_out (fun _ _ _ z => z.out) h)) (fun cdv A outer s H vs Q Ex hr hg h => ⟨t_made c, der_made T h_some_value h_InvalidProgram_init h_InvalidText_init h_InvalidStart_init h_TooLong_init h_InvalidCode_init h_NoRoom_init h_InvalidPart_init h_LinkRefused_init h_Unfilled_init h_UnknownName_init hr, pu_made T h⟩)
theorem ok_alike (T : Tx mg c) (F0 : L2.FunD c.K "_law_alike" "_law_alike" (defArgs s_alike) (defBody s_alike) (defScope s_alike) [] [] f fd) : FnS false P w c.K mg base 2 f (spM c w_alike) :=
  have F := He5.fun_of F0
  ok_body F sc_alike (DL.Fun_binds (ps := ["_law_found", "_law_due"]) F fun _ _ _ _ _ _ us hl => match us, hl with | [_, _], _ => rfl) (fun vs H Q E h => len_of (sp_out (fun _ _ _ z => z.out) h)) (fun cdv A outer s H vs Q Ex hr hg h => ⟨t_alike c, der_alike T hr, pu_alike T h⟩)
theorem ok_kept (T : Tx mg c) (F0 : L2.FunD c.K "_law_kept" "_law_kept" (defArgs s_kept) (defBody s_kept) (defScope s_kept) [] [] f fd) : FnS false P w c.K mg base 2 f (spM c w_kept) :=
  have F := He5.fun_of F0
  ok_body F sc_kept (DL.Fun_binds (ps := ["_law_e"]) F fun _ _ _ _ _ _ us hl => match us, hl with | [_], _ => rfl) (fun vs H Q E h => len_of (sp_out (fun _ _ _ z => z.out) h)) (fun cdv A outer s H vs Q Ex hr hg h => ⟨t_kept c, der_kept T hr, pu_kept T h⟩)
theorem ok_sorts (T : Tx mg c) (F0 : L2.FunD c.K "_law_sorts" "_law_sorts" (defArgs s_sorts) (defBody s_sorts) (defScope s_sorts) [] [] f fd) : FnS false P w c.K mg base 2 f (spM c w_sorts) :=
  have F := He5.fun_of F0
  ok_body F sc_sorts (DL.Fun_binds (ps := ["_law_one"]) F fun _ _ _ _ _ _ us hl => match us, hl with | [_], _ => rfl) (fun vs H Q E h => len_of (sp_out (fun _ _ _ z => z.out) h)) (fun cdv A outer s H vs Q Ex hr hg h => ⟨t_sorts c, der_sorts T hr, pu_sorts T h⟩)
theorem ok_thrown (T : Tx mg c) (h_InvalidProgram_init : H_InvalidProgram_init P w mg base c) (h_InvalidText_init : H_InvalidText_init P w mg base c) (h_InvalidStart_init : H_InvalidStart_init P w mg base c) (h_TooLong_init : H_TooLong_init P w mg base c) (h_InvalidCode_init : H_InvalidCode_init P w mg base c) (h_NoRoom_init : H_NoRoom_init P w mg base c) (h_InvalidPart_init : H_InvalidPart_init P w mg base c) (h_LinkRefused_init : H_LinkRefused_init P w mg base c) (h_Unfilled_init : H_Unfilled_init P w mg base c) (h_UnknownName_init : H_UnknownName_init P w mg base c) (F0 : L2.FunD c.K "_law_thrown" "_law_thrown" (defArgs s_thrown) (defBody s_thrown) (defScope s_thrown) [] [] f fd) : Binds c.K fd ["_law_form", "_law_a"] [] ∧ FnOk P w c.K mg base (L2.CX P w) 4 f fd ["_law_form", "_law_a"] (spMX c w_thrown) :=
  have F := He5.fun_of F0
  ⟨(DL.Fun_binds (ps := ["_law_form", "_law_a"]) F fun _ _ _ _ _ _ us hl => match us, hl with | [_, _], _ => rfl), ok_fnX F sc_thrown (fun vs H Q E h => len_ofX (spX_out (fun _ _ _ _ z => z.out) h)) (fun cdv A outer s H vs Q Ex hr tk po h => ⟨t_thrown c _, der_thrown T h_InvalidProgram_init h_InvalidText_init h_InvalidStart_init h_TooLong_init h_InvalidCode_init h_NoRoom_init h_InvalidPart_init h_LinkRefused_init h_Unfilled_init h_UnknownName_init hr tk po, pu_thrown T h⟩)⟩
theorem ok_caught (T : Tx mg c) (h_thrown : H_thrown P w mg base c) (F0 : L2.FunD c.K "_law_caught" "_law_caught" (defArgs s_caught) (defBody s_caught) (defScope s_caught) [] [] f fd) : FnS false P w c.K mg base 6 f (spM c w_caught) :=
  have F := He5.fun_of F0
  ok_body F sc_caught (DL.Fun_binds (ps := ["_law_form", "_law_a"]) F fun _ _ _ _ _ _ us hl => match us, hl with | [_, _], _ => rfl) (fun vs H Q E h => len_of (sp_out (fun _ _ _ z => z.out) h)) (fun cdv A outer s H vs Q Ex hr hg h => ⟨t_caught c, der_caught T h_thrown hr, pu_caught T h⟩)
theorem ok_law (T : Tx mg c) (h_box : H_box P w mg base c) (h_made : H_made P w mg base c) (h_alike : H_alike P w mg base c) (h_kept : H_kept P w mg base c) (h_sorts : H_sorts P w mg base c) (h_some_value : H_some_value P w mg base c 4) (h_caught : H_caught P w mg base c) (F0 : L2.FunD c.K "law" "law" (defArgs s_law) (defBody s_law) (defScope s_law) [] [] f fd) : FnS false P w c.K mg base 16 f (spM c w_law) :=
  have F := He5.fun_of F0
  ok_body F sc_law (DL.Fun_binds (ps := ["_law_script"]) F fun _ _ _ _ _ _ us hl => match us, hl with | [_], _ => rfl) (fun vs H Q E h => len_of (sp_out (fun _ _ _ z => z.out) h)) (fun cdv A outer s H vs Q Ex hr hg h => ⟨t_law c, der_law T h_box h_made h_alike h_kept h_sorts h_some_value h_caught hr, pu_law T h⟩)
end
/-! ### behind the top -/
abbrev R : PySem.W.OpenRow := PySem.W.OpenLaw.row PySem.Challenge.rw_sourwright_k01_errors
def cs : List Str := ["SourError", "InvalidProgram", "InvalidText", "InvalidStart", "TooLong", "InvalidCode", "NoRoom", "InvalidPart", "LinkRefused", "InvalidCommand", "Unfilled", "UnknownName"]
def cl (K : PySem.W.Frag) : Cl := ⟨K, fun t => match t with | 0 => He.ga K "SourError" | 1 => He.ga K "InvalidProgram" | 2 => He.ga K "InvalidText" | 3 => He.ga K "InvalidStart" | 4 => He.ga K "TooLong" | 5 => He.ga K "InvalidCode" | 6 => He.ga K "NoRoom" | 7 => He.ga K "InvalidPart" | 8 => He.ga K "LinkRefused" | 9 => He.ga K "InvalidCommand" | 10 => He.ga K "Unfilled" | 11 => He.ga K "UnknownName" | _ => 0, fun t => match t with | 0 => [] | 1 => ["place", "procedure", "word"] | 2 => ["line"] | 3 => ["index", "word"] | 4 => ["steps"] | 5 => ["row", "procedure", "word"] | 6 => ["number", "procedure"] | 7 => ["index", "word"] | 8 => ["caller", "used", "part"] | 9 => [] | 10 => ["answers", "carrier", "place", "procedure"] | 11 => ["name"] | _ => []⟩
def fn : List He5.DefA := [defZ (DL.pGlo "_law_box") "_law_box" "_law_box" s_box, defZ (DL.pGlo "_law_take") "_law_take" "_law_take" s_take, defZ (DL.pGlo "_law_some_value") "_law_some_value" "_law_some_value" s_some_value, defZ (DL.pMeth "InvalidProgram" "__init__") "__init__" "InvalidProgram.__init__" s_InvalidProgram_init, defZ (DL.pMeth "InvalidText" "__init__") "__init__" "InvalidText.__init__" s_InvalidText_init, defZ (DL.pMeth "InvalidStart" "__init__") "__init__" "InvalidStart.__init__" s_InvalidStart_init, defZ (DL.pMeth "TooLong" "__init__") "__init__" "TooLong.__init__" s_TooLong_init, defZ (DL.pMeth "InvalidCode" "__init__") "__init__" "InvalidCode.__init__" s_InvalidCode_init, defZ (DL.pMeth "NoRoom" "__init__") "__init__" "NoRoom.__init__" s_NoRoom_init, defZ (DL.pMeth "InvalidPart" "__init__") "__init__" "InvalidPart.__init__" s_InvalidPart_init, defZ (DL.pMeth "LinkRefused" "__init__") "__init__" "LinkRefused.__init__" s_LinkRefused_init, defZ (DL.pMeth "Unfilled" "__init__") "__init__" "Unfilled.__init__" s_Unfilled_init, defZ (DL.pMeth "UnknownName" "__init__") "__init__" "UnknownName.__init__" s_UnknownName_init, defZ (DL.pGlo "_law_made") "_law_made" "_law_made" s_made, defZ (DL.pGlo "_law_alike") "_law_alike" "_law_alike" s_alike, defZ (DL.pGlo "_law_kept") "_law_kept" "_law_kept" s_kept, defZ (DL.pGlo "_law_sorts") "_law_sorts" "_law_sorts" s_sorts, defZ (DL.pGlo "_law_thrown") "_law_thrown" "_law_thrown" s_thrown, defZ (DL.pGlo "_law_caught") "_law_caught" "_law_caught" s_caught, defZ (DL.pGlo "law") "law" "law" s_law]
def fa0 : List He.Fa := [.free "range", .free "max", .free "min", .free "len", .free "enumerate", .free "isinstance", .glo "SourError", .glo "UnknownName", .free "KeyError", .free "ValueError", .free "int", .glo "InvalidProgram", .glo "InvalidText", .glo "InvalidStart", .glo "TooLong", .glo "InvalidCode", .glo "NoRoom", .glo "InvalidPart", .glo "LinkRefused", .glo "InvalidCommand", .glo "Unfilled", .free "tuple", .free "list", .free "zip", .free "bool", .glo "_law_box", .glo "_law_take", .glo "_law_some_value", .glo "_law_made", .glo "_law_alike"]
def fa1 : List He.Fa := [.glo "_law_kept", .glo "_law_sorts", .glo "_law_thrown", .glo "_law_caught", .glo "law"]
def fa : List He.Fa := fa0 ++ fa1
def ex0 : List (PySem.W.Frag → Bool) := [fun K => kxB (cl K) [(0, true), (1, true), (2, true), (3, true), (4, true), (5, true), (6, true), (7, true), (8, true), (9, true), (10, true), (11, false)] (.ref (He.ga K "SourError")), fun K => kxB (cl K) [(0, false), (1, false), (2, false), (3, false), (4, false), (5, false), (6, false), (7, false), (8, false), (9, false), (10, false), (11, true)] (.ref (He.ga K "UnknownName")), fun K => kxB (cl K) [(0, false), (1, false), (2, false), (3, false), (4, false), (5, false), (6, false), (7, false), (8, false), (9, false), (10, false), (11, true)] (.type "KeyError"), fun K => kxB (cl K) [(0, true), (1, true), (2, true), (3, true), (4, true), (5, true), (6, true), (7, true), (8, true), (9, true), (10, true), (11, false)] (.type "ValueError"), fun K => x0B (He.ga K "InvalidCommand") K, fun K => kxB (cl K) [(0, false), (1, true), (2, false), (3, false), (4, false), (5, false), (6, false), (7, false), (8, false), (9, false), (10, false), (11, false)] (.ref (He.ga K "InvalidProgram")), fun K => xfnB (He.ga K "InvalidPart") "word" K, fun K => xfnB (He.ga K "InvalidCode") "word" K, fun K => xfnB (He.ga K "InvalidStart") "word" K, fun K => xfnB (He.ga K "InvalidProgram") "word" K, fun K => xfnB (He.ga K "Unfilled") "procedure" K, fun K => xfnB (He.ga K "NoRoom") "procedure" K, fun K => xfnB (He.ga K "InvalidCode") "procedure" K, fun K => xfnB (He.ga K "InvalidProgram") "procedure" K, fun K => xfnB (He.ga K "Unfilled") "place" K, fun K => xfnB (He.ga K "InvalidProgram") "place" K, fun K => kxB (cl K) [(0, false), (1, false), (2, false), (3, false), (4, false), (5, true), (6, false), (7, false), (8, false), (9, false), (10, false), (11, false)] (.ref (He.ga K "InvalidCode")), fun K => xfnB (He.ga K "InvalidCode") "row" K, fun K => kxB (cl K) [(0, false), (1, false), (2, false), (3, true), (4, false), (5, false), (6, false), (7, false), (8, false), (9, false), (10, false), (11, false)] (.ref (He.ga K "InvalidStart")), fun K => kxB (cl K) [(0, false), (1, false), (2, false), (3, false), (4, false), (5, false), (6, false), (7, true), (8, false), (9, false), (10, false), (11, false)] (.ref (He.ga K "InvalidPart")), fun K => xfnB (He.ga K "InvalidPart") "index" K, fun K => xfnB (He.ga K "InvalidStart") "index" K, fun K => kxB (cl K) [(0, false), (1, false), (2, false), (3, false), (4, false), (5, false), (6, false), (7, false), (8, true), (9, false), (10, false), (11, false)] (.ref (He.ga K "LinkRefused")), fun K => xfnB (He.ga K "LinkRefused") "part" K, fun K => xfnB (He.ga K "LinkRefused") "used" K, fun K => xfnB (He.ga K "LinkRefused") "caller" K, fun K => kxB (cl K) [(0, false), (1, false), (2, false), (3, false), (4, false), (5, false), (6, false), (7, false), (8, false), (9, false), (10, true), (11, false)] (.ref (He.ga K "Unfilled")), fun K => xfnB (He.ga K "Unfilled") "carrier" K, fun K => xfnB (He.ga K "Unfilled") "answers" K, fun K => kxB (cl K) [(0, false), (1, false), (2, false), (3, false), (4, false), (5, false), (6, true), (7, false), (8, false), (9, false), (10, false), (11, false)] (.ref (He.ga K "NoRoom"))]
def ex1 : List (PySem.W.Frag → Bool) := [fun K => xfnB (He.ga K "NoRoom") "number" K, fun K => kxB (cl K) [(0, false), (1, false), (2, true), (3, false), (4, false), (5, false), (6, false), (7, false), (8, false), (9, false), (10, false), (11, false)] (.ref (He.ga K "InvalidText")), fun K => xfnB (He.ga K "InvalidText") "line" K, fun K => kxB (cl K) [(0, false), (1, false), (2, false), (3, false), (4, true), (5, false), (6, false), (7, false), (8, false), (9, false), (10, false), (11, false)] (.ref (He.ga K "TooLong")), fun K => xfnB (He.ga K "TooLong") "steps" K, fun K => xfnB (He.ga K "UnknownName") "name" K, fun K => kxB (cl K) [(0, false), (1, false), (2, false), (3, false), (4, false), (5, false), (6, false), (7, false), (8, false), (9, true), (10, false), (11, false)] (.ref (He.ga K "InvalidCommand")), fun K => exB (cl K) [(0, false), (1, false), (2, false), (3, false), (4, false), (5, false), (6, false), (7, false), (8, false), (9, false), (10, false), (11, true)] (.type "KeyError"), fun K => exB (cl K) [(0, true), (1, true), (2, true), (3, true), (4, true), (5, true), (6, true), (7, true), (8, true), (9, true), (10, true), (11, false)] (.ref (He.ga K "SourError")), fun K => xcB false (He.ga K "InvalidProgram") K, fun K => xcB false (He.ga K "InvalidText") K, fun K => xcB false (He.ga K "InvalidStart") K, fun K => xcB false (He.ga K "TooLong") K, fun K => xcB false (He.ga K "InvalidCode") K, fun K => xcB false (He.ga K "NoRoom") K, fun K => xcB false (He.ga K "InvalidPart") K, fun K => xcB false (He.ga K "LinkRefused") K, fun K => xcB false (He.ga K "Unfilled") K, fun K => xcB true (He.ga K "UnknownName") K, fun K => xiB (He.ga K "InvalidProgram") (DL.pMeth "InvalidProgram" "__init__" K) K, fun K => xiB (He.ga K "InvalidText") (DL.pMeth "InvalidText" "__init__" K) K, fun K => xiB (He.ga K "InvalidStart") (DL.pMeth "InvalidStart" "__init__" K) K, fun K => xiB (He.ga K "TooLong") (DL.pMeth "TooLong" "__init__" K) K, fun K => xiB (He.ga K "InvalidCode") (DL.pMeth "InvalidCode" "__init__" K) K, fun K => xiB (He.ga K "NoRoom") (DL.pMeth "NoRoom" "__init__" K) K, fun K => xiB (He.ga K "InvalidPart") (DL.pMeth "InvalidPart" "__init__" K) K, fun K => xiB (He.ga K "LinkRefused") (DL.pMeth "LinkRefused" "__init__" K) K, fun K => xiB (He.ga K "Unfilled") (DL.pMeth "Unfilled" "__init__" K) K, fun K => xiB (He.ga K "UnknownName") (DL.pMeth "UnknownName" "__init__" K) K]
def ex : List (PySem.W.Frag → Bool) := ex0 ++ ex1
def names : List Str := ["SourError", "InvalidProgram", "InvalidText", "InvalidStart", "TooLong", "InvalidCode", "NoRoom", "InvalidPart", "LinkRefused", "InvalidCommand", "Unfilled", "UnknownName", "_law_box", "_law_take", "_law_alike", "_law_some_value", "_law_made", "_law_kept", "_law_sorts", "_law_thrown", "_law_caught"]
abbrev hk : PySem.W.Hook := hookZ 6 fa fn ex
def ob (s : PySem.W.SharedT) : He.AlD := obsZG 6 fa fn ex (HandSHeadRun.getT s)
theorem ob_eq (s : PySem.W.SharedT) : ob s = hk.obs s.abs := obsZG_eq (HandSHeadRun.getT_eq s)
theorem run (w : World) : HandSHeadRun.RunEq R (PySem.W.view R.prog [23]) hk ob 20000 names w := by
  intro os
  kernel_rfl
theorem facts {P : Program} {w : World} {K : PySem.W.Frag} {h : Heap} {mg : Str → Option Value} {base : Heap} (X : K.In h) (G : h.Ns mainGlobals mg) (c : SaysZ fa fn ex K) : H_law P w mg base (cl K) := by
  have T : Tx mg (cl K) := ⟨He.free_ok X G (c.fact 0 (f := .free "range") rfl),
    He.free_ok X G (c.fact 1 (f := .free "max") rfl),
    He.free_ok X G (c.fact 2 (f := .free "min") rfl),
    He.free_ok X G (c.fact 3 (f := .free "len") rfl),
    He.free_ok X G (c.fact 4 (f := .free "enumerate") rfl),
    He.free_ok X G (c.fact 5 (f := .free "isinstance") rfl),
    He.glo_ok X G (c.fact 6 (f := .glo "SourError") rfl),
    kxB_ok (c.extra 0 (f := fun K => kxB (cl K) [(0, true), (1, true), (2, true), (3, true), (4, true), (5, true), (6, true), (7, true), (8, true), (9, true), (10, true), (11, false)] (.ref (He.ga K "SourError"))) rfl),
    He.glo_ok X G (c.fact 7 (f := .glo "UnknownName") rfl),
    kxB_ok (c.extra 1 (f := fun K => kxB (cl K) [(0, false), (1, false), (2, false), (3, false), (4, false), (5, false), (6, false), (7, false), (8, false), (9, false), (10, false), (11, true)] (.ref (He.ga K "UnknownName"))) rfl),
    He.free_ok X G (c.fact 8 (f := .free "KeyError") rfl),
    kxB_ok (c.extra 2 (f := fun K => kxB (cl K) [(0, false), (1, false), (2, false), (3, false), (4, false), (5, false), (6, false), (7, false), (8, false), (9, false), (10, false), (11, true)] (.type "KeyError")) rfl),
    He.free_ok X G (c.fact 9 (f := .free "ValueError") rfl),
    kxB_ok (c.extra 3 (f := fun K => kxB (cl K) [(0, true), (1, true), (2, true), (3, true), (4, true), (5, true), (6, true), (7, true), (8, true), (9, true), (10, true), (11, false)] (.type "ValueError")) rfl),
    He.free_ok X G (c.fact 10 (f := .free "int") rfl),
    He.glo_ok X G (c.fact 11 (f := .glo "InvalidProgram") rfl),
    rfl,
    He.glo_ok X G (c.fact 12 (f := .glo "InvalidText") rfl),
    rfl,
    He.glo_ok X G (c.fact 13 (f := .glo "InvalidStart") rfl),
    rfl,
    He.glo_ok X G (c.fact 14 (f := .glo "TooLong") rfl),
    rfl,
    He.glo_ok X G (c.fact 15 (f := .glo "InvalidCode") rfl),
    rfl,
    He.glo_ok X G (c.fact 16 (f := .glo "NoRoom") rfl),
    rfl,
    He.glo_ok X G (c.fact 17 (f := .glo "InvalidPart") rfl),
    rfl,
    He.glo_ok X G (c.fact 18 (f := .glo "LinkRefused") rfl),
    rfl,
    He.glo_ok X G (c.fact 19 (f := .glo "InvalidCommand") rfl),
    rfl,
    x0B_ok (c.extra 4 (f := fun K => x0B (He.ga K "InvalidCommand") K) rfl),
    He.glo_ok X G (c.fact 20 (f := .glo "Unfilled") rfl),
    rfl,
    rfl,
    He.free_ok X G (c.fact 21 (f := .free "tuple") rfl),
    He.free_ok X G (c.fact 22 (f := .free "list") rfl),
    He.free_ok X G (c.fact 23 (f := .free "zip") rfl),
    He.free_ok X G (c.fact 24 (f := .free "bool") rfl),
    kxB_ok (c.extra 5 (f := fun K => kxB (cl K) [(0, false), (1, true), (2, false), (3, false), (4, false), (5, false), (6, false), (7, false), (8, false), (9, false), (10, false), (11, false)] (.ref (He.ga K "InvalidProgram"))) rfl),
    xfnB_ok (c.extra 6 (f := fun K => xfnB (He.ga K "InvalidPart") "word" K) rfl) (fun xs h => match xs, h with | [x0, x1], _ => rfl),
    xfnB_ok (c.extra 7 (f := fun K => xfnB (He.ga K "InvalidCode") "word" K) rfl) (fun xs h => match xs, h with | [x0, x1, x2], _ => rfl),
    xfnB_ok (c.extra 8 (f := fun K => xfnB (He.ga K "InvalidStart") "word" K) rfl) (fun xs h => match xs, h with | [x0, x1], _ => rfl),
    xfnB_ok (c.extra 9 (f := fun K => xfnB (He.ga K "InvalidProgram") "word" K) rfl) (fun xs h => match xs, h with | [x0, x1, x2], _ => rfl),
    xfnB_ok (c.extra 10 (f := fun K => xfnB (He.ga K "Unfilled") "procedure" K) rfl) (fun xs h => match xs, h with | [x0, x1, x2, x3], _ => rfl),
    xfnB_ok (c.extra 11 (f := fun K => xfnB (He.ga K "NoRoom") "procedure" K) rfl) (fun xs h => match xs, h with | [x0, x1], _ => rfl),
    xfnB_ok (c.extra 12 (f := fun K => xfnB (He.ga K "InvalidCode") "procedure" K) rfl) (fun xs h => match xs, h with | [x0, x1, x2], _ => rfl),
    xfnB_ok (c.extra 13 (f := fun K => xfnB (He.ga K "InvalidProgram") "procedure" K) rfl) (fun xs h => match xs, h with | [x0, x1, x2], _ => rfl),
    xfnB_ok (c.extra 14 (f := fun K => xfnB (He.ga K "Unfilled") "place" K) rfl) (fun xs h => match xs, h with | [x0, x1, x2, x3], _ => rfl),
    xfnB_ok (c.extra 15 (f := fun K => xfnB (He.ga K "InvalidProgram") "place" K) rfl) (fun xs h => match xs, h with | [x0, x1, x2], _ => rfl),
    kxB_ok (c.extra 16 (f := fun K => kxB (cl K) [(0, false), (1, false), (2, false), (3, false), (4, false), (5, true), (6, false), (7, false), (8, false), (9, false), (10, false), (11, false)] (.ref (He.ga K "InvalidCode"))) rfl),
    xfnB_ok (c.extra 17 (f := fun K => xfnB (He.ga K "InvalidCode") "row" K) rfl) (fun xs h => match xs, h with | [x0, x1, x2], _ => rfl),
    kxB_ok (c.extra 18 (f := fun K => kxB (cl K) [(0, false), (1, false), (2, false), (3, true), (4, false), (5, false), (6, false), (7, false), (8, false), (9, false), (10, false), (11, false)] (.ref (He.ga K "InvalidStart"))) rfl),
    kxB_ok (c.extra 19 (f := fun K => kxB (cl K) [(0, false), (1, false), (2, false), (3, false), (4, false), (5, false), (6, false), (7, true), (8, false), (9, false), (10, false), (11, false)] (.ref (He.ga K "InvalidPart"))) rfl),
    xfnB_ok (c.extra 20 (f := fun K => xfnB (He.ga K "InvalidPart") "index" K) rfl) (fun xs h => match xs, h with | [x0, x1], _ => rfl),
    xfnB_ok (c.extra 21 (f := fun K => xfnB (He.ga K "InvalidStart") "index" K) rfl) (fun xs h => match xs, h with | [x0, x1], _ => rfl),
    kxB_ok (c.extra 22 (f := fun K => kxB (cl K) [(0, false), (1, false), (2, false), (3, false), (4, false), (5, false), (6, false), (7, false), (8, true), (9, false), (10, false), (11, false)] (.ref (He.ga K "LinkRefused"))) rfl),
    xfnB_ok (c.extra 23 (f := fun K => xfnB (He.ga K "LinkRefused") "part" K) rfl) (fun xs h => match xs, h with | [x0, x1, x2], _ => rfl),
    xfnB_ok (c.extra 24 (f := fun K => xfnB (He.ga K "LinkRefused") "used" K) rfl) (fun xs h => match xs, h with | [x0, x1, x2], _ => rfl),
    xfnB_ok (c.extra 25 (f := fun K => xfnB (He.ga K "LinkRefused") "caller" K) rfl) (fun xs h => match xs, h with | [x0, x1, x2], _ => rfl),
    kxB_ok (c.extra 26 (f := fun K => kxB (cl K) [(0, false), (1, false), (2, false), (3, false), (4, false), (5, false), (6, false), (7, false), (8, false), (9, false), (10, true), (11, false)] (.ref (He.ga K "Unfilled"))) rfl),
    xfnB_ok (c.extra 27 (f := fun K => xfnB (He.ga K "Unfilled") "carrier" K) rfl) (fun xs h => match xs, h with | [x0, x1, x2, x3], _ => rfl),
    xfnB_ok (c.extra 28 (f := fun K => xfnB (He.ga K "Unfilled") "answers" K) rfl) (fun xs h => match xs, h with | [x0, x1, x2, x3], _ => rfl),
    kxB_ok (c.extra 29 (f := fun K => kxB (cl K) [(0, false), (1, false), (2, false), (3, false), (4, false), (5, false), (6, true), (7, false), (8, false), (9, false), (10, false), (11, false)] (.ref (He.ga K "NoRoom"))) rfl),
    xfnB_ok (c.extra 30 (f := fun K => xfnB (He.ga K "NoRoom") "number" K) rfl) (fun xs h => match xs, h with | [x0, x1], _ => rfl),
    kxB_ok (c.extra 31 (f := fun K => kxB (cl K) [(0, false), (1, false), (2, true), (3, false), (4, false), (5, false), (6, false), (7, false), (8, false), (9, false), (10, false), (11, false)] (.ref (He.ga K "InvalidText"))) rfl),
    xfnB_ok (c.extra 32 (f := fun K => xfnB (He.ga K "InvalidText") "line" K) rfl) (fun xs h => match xs, h with | [x0], _ => rfl),
    kxB_ok (c.extra 33 (f := fun K => kxB (cl K) [(0, false), (1, false), (2, false), (3, false), (4, true), (5, false), (6, false), (7, false), (8, false), (9, false), (10, false), (11, false)] (.ref (He.ga K "TooLong"))) rfl),
    xfnB_ok (c.extra 34 (f := fun K => xfnB (He.ga K "TooLong") "steps" K) rfl) (fun xs h => match xs, h with | [x0], _ => rfl),
    xfnB_ok (c.extra 35 (f := fun K => xfnB (He.ga K "UnknownName") "name" K) rfl) (fun xs h => match xs, h with | [x0], _ => rfl),
    kxB_ok (c.extra 36 (f := fun K => kxB (cl K) [(0, false), (1, false), (2, false), (3, false), (4, false), (5, false), (6, false), (7, false), (8, false), (9, true), (10, false), (11, false)] (.ref (He.ga K "InvalidCommand"))) rfl),
    exB_ok (c.extra 37 (f := fun K => exB (cl K) [(0, false), (1, false), (2, false), (3, false), (4, false), (5, false), (6, false), (7, false), (8, false), (9, false), (10, false), (11, true)] (.type "KeyError")) rfl),
    exB_ok (c.extra 38 (f := fun K => exB (cl K) [(0, true), (1, true), (2, true), (3, true), (4, true), (5, true), (6, true), (7, true), (8, true), (9, true), (10, true), (11, false)] (.ref (He.ga K "SourError"))) rfl),
    rfl,
    xcB_ok (c.extra 39 (f := fun K => xcB false (He.ga K "InvalidProgram") K) rfl),
    xcB_ok (c.extra 40 (f := fun K => xcB false (He.ga K "InvalidText") K) rfl),
    xcB_ok (c.extra 41 (f := fun K => xcB false (He.ga K "InvalidStart") K) rfl),
    xcB_ok (c.extra 42 (f := fun K => xcB false (He.ga K "TooLong") K) rfl),
    xcB_ok (c.extra 43 (f := fun K => xcB false (He.ga K "InvalidCode") K) rfl),
    xcB_ok (c.extra 44 (f := fun K => xcB false (He.ga K "NoRoom") K) rfl),
    xcB_ok (c.extra 45 (f := fun K => xcB false (He.ga K "InvalidPart") K) rfl),
    xcB_ok (c.extra 46 (f := fun K => xcB false (He.ga K "LinkRefused") K) rfl),
    xcB_ok (c.extra 47 (f := fun K => xcB false (He.ga K "Unfilled") K) rfl),
    xcB_ok (c.extra 48 (f := fun K => xcB true (He.ga K "UnknownName") K) rfl)⟩
  obtain ⟨fd, F⟩ := c.def_ 0 (d := defZ (DL.pGlo "_law_box") "_law_box" "_law_box" s_box) rfl
  have h_box : H_box P w mg base (cl K) := ⟨_, He.glo_ok X G (c.fact 25 (f := .glo "_law_box") rfl), F.kp, ok_box (P := P) (w := w) (base := base) T F⟩
  clear F fd
  obtain ⟨fd, F⟩ := c.def_ 1 (d := defZ (DL.pGlo "_law_take") "_law_take" "_law_take" s_take) rfl
  have h_take : H_take P w mg base (cl K) := ⟨_, He.glo_ok X G (c.fact 26 (f := .glo "_law_take") rfl), F.kp, ok_take (P := P) (w := w) (base := base) T F⟩
  clear F fd
  obtain ⟨fd, F⟩ := c.def_ 2 (d := defZ (DL.pGlo "_law_some_value") "_law_some_value" "_law_some_value" s_some_value) rfl
  have h_some_value : ∀ n, H_some_value P w mg base (cl K) n := ok_some_value (P := P) (w := w) (base := base) T h_take F (He.glo_ok X G (c.fact 27 (f := .glo "_law_some_value") rfl)) F.kp
  clear F fd
  obtain ⟨fd, F⟩ := c.def_ 3 (d := defZ (DL.pMeth "InvalidProgram" "__init__") "__init__" "InvalidProgram.__init__" s_InvalidProgram_init) rfl
  have h_InvalidProgram_init : H_InvalidProgram_init P w mg base (cl K) := ok_InvalidProgram_init (P := P) (w := w) (base := base) T F (c.extra 49 (f := fun K => xiB (He.ga K "InvalidProgram") (DL.pMeth "InvalidProgram" "__init__" K) K) rfl)
  clear F fd
  obtain ⟨fd, F⟩ := c.def_ 4 (d := defZ (DL.pMeth "InvalidText" "__init__") "__init__" "InvalidText.__init__" s_InvalidText_init) rfl
  have h_InvalidText_init : H_InvalidText_init P w mg base (cl K) := ok_InvalidText_init (P := P) (w := w) (base := base) T F (c.extra 50 (f := fun K => xiB (He.ga K "InvalidText") (DL.pMeth "InvalidText" "__init__" K) K) rfl)
  clear F fd
  obtain ⟨fd, F⟩ := c.def_ 5 (d := defZ (DL.pMeth "InvalidStart" "__init__") "__init__" "InvalidStart.__init__" s_InvalidStart_init) rfl
  have h_InvalidStart_init : H_InvalidStart_init P w mg base (cl K) := ok_InvalidStart_init (P := P) (w := w) (base := base) T F (c.extra 51 (f := fun K => xiB (He.ga K "InvalidStart") (DL.pMeth "InvalidStart" "__init__" K) K) rfl)
  clear F fd
  obtain ⟨fd, F⟩ := c.def_ 6 (d := defZ (DL.pMeth "TooLong" "__init__") "__init__" "TooLong.__init__" s_TooLong_init) rfl
  have h_TooLong_init : H_TooLong_init P w mg base (cl K) := ok_TooLong_init (P := P) (w := w) (base := base) T F (c.extra 52 (f := fun K => xiB (He.ga K "TooLong") (DL.pMeth "TooLong" "__init__" K) K) rfl)
  clear F fd
  obtain ⟨fd, F⟩ := c.def_ 7 (d := defZ (DL.pMeth "InvalidCode" "__init__") "__init__" "InvalidCode.__init__" s_InvalidCode_init) rfl
  have h_InvalidCode_init : H_InvalidCode_init P w mg base (cl K) := ok_InvalidCode_init (P := P) (w := w) (base := base) T F (c.extra 53 (f := fun K => xiB (He.ga K "InvalidCode") (DL.pMeth "InvalidCode" "__init__" K) K) rfl)
  clear F fd
  obtain ⟨fd, F⟩ := c.def_ 8 (d := defZ (DL.pMeth "NoRoom" "__init__") "__init__" "NoRoom.__init__" s_NoRoom_init) rfl
  have h_NoRoom_init : H_NoRoom_init P w mg base (cl K) := ok_NoRoom_init (P := P) (w := w) (base := base) T F (c.extra 54 (f := fun K => xiB (He.ga K "NoRoom") (DL.pMeth "NoRoom" "__init__" K) K) rfl)
  clear F fd
  obtain ⟨fd, F⟩ := c.def_ 9 (d := defZ (DL.pMeth "InvalidPart" "__init__") "__init__" "InvalidPart.__init__" s_InvalidPart_init) rfl
  have h_InvalidPart_init : H_InvalidPart_init P w mg base (cl K) := ok_InvalidPart_init (P := P) (w := w) (base := base) T F (c.extra 55 (f := fun K => xiB (He.ga K "InvalidPart") (DL.pMeth "InvalidPart" "__init__" K) K) rfl)
  clear F fd
  obtain ⟨fd, F⟩ := c.def_ 10 (d := defZ (DL.pMeth "LinkRefused" "__init__") "__init__" "LinkRefused.__init__" s_LinkRefused_init) rfl
  have h_LinkRefused_init : H_LinkRefused_init P w mg base (cl K) := ok_LinkRefused_init (P := P) (w := w) (base := base) T F (c.extra 56 (f := fun K => xiB (He.ga K "LinkRefused") (DL.pMeth "LinkRefused" "__init__" K) K) rfl)
  clear F fd
  obtain ⟨fd, F⟩ := c.def_ 11 (d := defZ (DL.pMeth "Unfilled" "__init__") "__init__" "Unfilled.__init__" s_Unfilled_init) rfl
  have h_Unfilled_init : H_Unfilled_init P w mg base (cl K) := ok_Unfilled_init (P := P) (w := w) (base := base) T F (c.extra 57 (f := fun K => xiB (He.ga K "Unfilled") (DL.pMeth "Unfilled" "__init__" K) K) rfl)
  clear F fd
  obtain ⟨fd, F⟩ := c.def_ 12 (d := defZ (DL.pMeth "UnknownName" "__init__") "__init__" "UnknownName.__init__" s_UnknownName_init) rfl
  have h_UnknownName_init : H_UnknownName_init P w mg base (cl K) := ok_UnknownName_init (P := P) (w := w) (base := base) T F (c.extra 58 (f := fun K => xiB (He.ga K "UnknownName") (DL.pMeth "UnknownName" "__init__" K) K) rfl)
  clear F fd
  obtain ⟨fd, F⟩ := c.def_ 13 (d := defZ (DL.pGlo "_law_made") "_law_made" "_law_made" s_made) rfl
  have h_made : H_made P w mg base (cl K) := ⟨_, He.glo_ok X G (c.fact 28 (f := .glo "_law_made") rfl), F.kp, ok_made (P := P) (w := w) (base := base) T (h_some_value 4) h_InvalidProgram_init h_InvalidText_init h_InvalidStart_init h_TooLong_init h_InvalidCode_init h_NoRoom_init h_InvalidPart_init h_LinkRefused_init h_Unfilled_init h_UnknownName_init F⟩
  clear F fd
  obtain ⟨fd, F⟩ := c.def_ 14 (d := defZ (DL.pGlo "_law_alike") "_law_alike" "_law_alike" s_alike) rfl
  have h_alike : H_alike P w mg base (cl K) := ⟨_, He.glo_ok X G (c.fact 29 (f := .glo "_law_alike") rfl), F.kp, ok_alike (P := P) (w := w) (base := base) T F⟩
  clear F fd
  obtain ⟨fd, F⟩ := c.def_ 15 (d := defZ (DL.pGlo "_law_kept") "_law_kept" "_law_kept" s_kept) rfl
  have h_kept : H_kept P w mg base (cl K) := ⟨_, He.glo_ok X G (c.fact 30 (f := .glo "_law_kept") rfl), F.kp, ok_kept (P := P) (w := w) (base := base) T F⟩
  clear F fd
  obtain ⟨fd, F⟩ := c.def_ 16 (d := defZ (DL.pGlo "_law_sorts") "_law_sorts" "_law_sorts" s_sorts) rfl
  have h_sorts : H_sorts P w mg base (cl K) := ⟨_, He.glo_ok X G (c.fact 31 (f := .glo "_law_sorts") rfl), F.kp, ok_sorts (P := P) (w := w) (base := base) T F⟩
  clear F fd
  obtain ⟨fd, F⟩ := c.def_ 17 (d := defZ (DL.pGlo "_law_thrown") "_law_thrown" "_law_thrown" s_thrown) rfl
  have h_thrown : H_thrown P w mg base (cl K) := ⟨_, _, _, He.glo_ok X G (c.fact 32 (f := .glo "_law_thrown") rfl), F.kp, (ok_thrown (P := P) (w := w) (base := base) T h_InvalidProgram_init h_InvalidText_init h_InvalidStart_init h_TooLong_init h_InvalidCode_init h_NoRoom_init h_InvalidPart_init h_LinkRefused_init h_Unfilled_init h_UnknownName_init F).1, (ok_thrown (P := P) (w := w) (base := base) T h_InvalidProgram_init h_InvalidText_init h_InvalidStart_init h_TooLong_init h_InvalidCode_init h_NoRoom_init h_InvalidPart_init h_LinkRefused_init h_Unfilled_init h_UnknownName_init F).2⟩
  clear F fd
  obtain ⟨fd, F⟩ := c.def_ 18 (d := defZ (DL.pGlo "_law_caught") "_law_caught" "_law_caught" s_caught) rfl
  have h_caught : H_caught P w mg base (cl K) := ⟨_, He.glo_ok X G (c.fact 33 (f := .glo "_law_caught") rfl), F.kp, ok_caught (P := P) (w := w) (base := base) T h_thrown F⟩
  clear F fd
  obtain ⟨fd, F⟩ := c.def_ 19 (d := defZ (DL.pGlo "law") "law" "law" s_law) rfl
  have h_law : H_law P w mg base (cl K) := ⟨_, He.glo_ok X G (c.fact 34 (f := .glo "law") rfl), F.kp, ok_law (P := P) (w := w) (base := base) T h_box h_made h_alike h_kept h_sorts (h_some_value 4) h_caught F⟩
  clear F fd
  exact h_law
end K01
open PySem PySem.W PySem.Calls PyProof.Rows
theorem PySem.Challenge.cw_sourwright_k01_errors_holds : PySem.Challenge.rw_sourwright_k01_errors.Holds := by
  w_on; o_law
  refine HandSHeadRun.head_any (r := OpenLaw.row PySem.Challenge.rw_sourwright_k01_errors) (q := view (OpenLaw.row PySem.Challenge.rw_sourwright_k01_errors).prog [23]) (H := K01.hk) (ob := K01.ob) (M := 20000) (loose := K01.names) (d := HandSHeadRun.topDef (OpenLaw.row PySem.Challenge.rw_sourwright_k01_errors).prog 23) (kwd := []) K01.ob_eq
    (by kernel_rfl) (fun s => by kernel_rfl) K01.run (by kernel_rfl) (by kernel_rfl) (by kernel_rfl) (by rfl) (by first | assumption | decide +kernel) (by decide +kernel) ⟨rfl, rfl, rfl, rfl, rfl, by decide +kernel⟩ ?hw ?hc
  case hw => w_witness2
  case hc =>
    refine DL.walk_end (l := PySem.Challenge.rw_sourwright_k01_errors) (n := 63) (k := 16) rfl (by decide) (by kernel_rfl) ⟨rfl, by decide, by decide⟩ ?F
    intro w mg fa h Y G hmg0
    obtain ⟨K, KX, c⟩ := Y
    have hmg : mg ("law" : PySem.Str) = some (.ref fa) := by
      have e : (HandSHeadRun.topDef (OpenLaw.row PySem.Challenge.rw_sourwright_k01_errors).prog 23).name = ("law" : PySem.Str) := by kernel_rfl
      rw [← e]
      exact hmg0
    refine ⟨K, DN.spM (K01.cl K) K01.w_law, KX, fun H a ns hl hS => DN.law_sp hS (K01.law_true ns (by omega)), fun base _ _ => ?_⟩
    obtain ⟨f, e1, _, F⟩ := K01.facts (P := (PySem.Challenge.rw_sourwright_k01_errors).prog) (w := w) (base := base) KX G c
    have e2 := hmg.symm.trans e1
    cases e2
    exact fun A outer s H us vs Q Ex hr hgu => F A outer s H us vs Q Ex hr (fun z => nomatch z)

