import PyProof.Rows.All
import Wide.All
import OpenK.AllK
import Wide.FinOn
import HandS.ForMost
import HandS.ForExc
import HandS.Walk
import HandS.TupAny
import HandS.IsInst
import HandS.Defaults
import KE.GoesEnum
import KE.GoesEnumKw
import KE.KDictZip
import HandS.Property
import HandS.OwnEq
import HandS.Star
import KE.KOpsOwn
import PyProof.ReprRoads
import PyProof.CallFns
import PyProof.FString
import PyProof.FString4
import HandS.FStr
import HandS.Ends
import HandS.FStrTup
import KE.KStateDown
import Lean
import HandS.Words
import HandS.Head0
import HandS.Head1
import HandS.Head2
import HandS.HeadEnd
import HandS.HeadHook1
import HandS.HeadHook2
import PySem.Challenge.RW_sourwright_k26_bounds_of_lives
set_option Elab.async false
set_option linter.all false
set_option maxRecDepth 100000
set_option maxHeartbeats 4000000
/-! DL: data over the readings. A value is told by a datum D; F is the part of the abstract heap that never changes any more. -/
namespace DL
open PySem L2

inductive D where
  | raw (v : V)
  | lst (xs : List D)
  | tup (xs : List D)
  | obj (C : Addr) (ns : List Str) (ds : List D)
  /-- the very object -/
  | pin (o : HO)
abbrev D.int (i : Int) : D := .raw (.int i)
abbrev D.bl (b : Bool) : D := .raw (.bl b)
abbrev D.str (s : Str) : D := .raw (.str s)
abbrev D.non : D := .raw .non
abbrev D.at (a : Addr) : D := .raw (.ref a)

def Sub (F H : Hp) : Prop := ∀ a o, F a = some o → H a = some o
theorem Sub.rfl {F : Hp} : Sub F F := fun _ _ h => h
theorem Sub.trans {F G H : Hp} (a : Sub F G) (b : Sub G H) : Sub F H := fun x o h => b x o (a x o h)
theorem Sub.rd {F H : Hp} (s : Sub F H) {a : Addr} {u : HO} (h : Rd F a u) : Rd H a u := by
  cases h with
  | inl h => exact .inl (s a _ h)
  | inr h => obtain ⟨o, h⟩ := h; exact .inr ⟨o, s a _ h⟩
theorem Sub.sqT {F H : Hp} (s : Sub F H) {K : PySem.W.Frag} {a : Addr} {xs : List V} (h : SqT K F a xs) : SqT K H a xs := by
  cases h with
  | inl h => exact .inl (s.rd h)
  | inr h => exact .inr h
theorem Sub.sqL {F H : Hp} (s : Sub F H) {K : PySem.W.Frag} {a : Addr} {xs : List V} (h : SqL K F a xs) : SqL K H a xs := by
  cases h with
  | inl h => exact .inl (s.rd h)
  | inr h => exact .inr h
theorem Sub.none {F H : Hp} (s : Sub F H) {p : Addr} (h : H p = none) : F p = none := by
  cases e : F p with
  | none => rfl
  | some o => rw [s p o e] at h; cases h
theorem sub_upd {F : Hp} {p : Addr} {o : HO} (h : F p = none) : Sub F (upd F p o) := fun a u e => by rw [upd_ne (ne_of_none e h)]; exact e
theorem sub_upd2 {F H : Hp} {p : Addr} {o : HO} (s : Sub F H) : Sub (upd F p o) (upd H p o) := fun a u e => by
  by_cases h : a = p
  · subst h; rw [upd_same] at e ⊢; exact e
  · rw [upd_ne h] at e ⊢; exact s a u e

mutual
inductive Rp (K : PySem.W.Frag) (F : Hp) : V → D → Prop
  | raw (v : V) : Rp K F v (.raw v)
  | lst {a : Addr} {xs : List V} {ds : List D} : F a = some (.lst xs) → RpL K F xs ds → Rp K F (.ref a) (.lst ds)
  | tup {a : Addr} {xs : List V} {ds : List D} : F a = some (.tup xs) → RpL K F xs ds → Rp K F (.ref a) (.tup ds)
  | obj {a C dx : Addr} {ns : List Str} {xs : List V} {ds : List D} : F a = some (.ins C dx (ns.zip xs)) → ns.length = xs.length → RpL K F xs ds → Rp K F (.ref a) (.obj C ns ds)
  | pin {a : Addr} {o : HO} : F a = some o → Rp K F (.ref a) (.pin o)
inductive RpL (K : PySem.W.Frag) (F : Hp) : List V → List D → Prop
  | nil : RpL K F [] []
  | cons {v : V} {vs : List V} {d : D} {ds : List D} : Rp K F v d → RpL K F vs ds → RpL K F (v :: vs) (d :: ds)
end
section
variable {K : PySem.W.Frag} {F F' H : Hp}
mutual
theorem Rp.mono (s : Sub F F') : ∀ {v : V} {d : D}, Rp K F v d → Rp K F' v d
  | _, _, .raw v => .raw v
  | _, _, .lst h r => .lst (s _ _ h) (RpL.mono s r)
  | _, _, .tup h r => .tup (s _ _ h) (RpL.mono s r)
  | _, _, .obj h n r => .obj (s _ _ h) n (RpL.mono s r)
  | _, _, .pin h => .pin (s _ _ h)
theorem RpL.mono (s : Sub F F') : ∀ {vs : List V} {ds : List D}, RpL K F vs ds → RpL K F' vs ds
  | _, _, .nil => .nil
  | _, _, .cons h r => .cons (Rp.mono s h) (RpL.mono s r)
end
theorem Rp.raw_eq {v w : V} (h : Rp K F v (.raw w)) : v = w := by cases h; rfl
theorem Rp.lst_at {v : V} {ds : List D} (h : Rp K F v (.lst ds)) : ∃ a xs, v = .ref a ∧ F a = some (.lst xs) ∧ RpL K F xs ds := by
  cases h with | lst h r => exact ⟨_, _, rfl, h, r⟩
theorem Rp.tup_at {v : V} {ds : List D} (h : Rp K F v (.tup ds)) : ∃ a xs, v = .ref a ∧ F a = some (.tup xs) ∧ RpL K F xs ds := by
  cases h with | tup h r => exact ⟨_, _, rfl, h, r⟩
theorem Rp.obj_at {v : V} {C : Addr} {ns : List Str} {ds : List D} (h : Rp K F v (.obj C ns ds)) : ∃ a dx xs, v = .ref a ∧ F a = some (.ins C dx (ns.zip xs)) ∧ ns.length = xs.length ∧ RpL K F xs ds := by
  cases h with | obj h n r => exact ⟨_, _, _, rfl, h, n, r⟩
theorem Rp.pin_at {v : V} {o : HO} (h : Rp K F v (.pin o)) : ∃ a, v = .ref a ∧ F a = some o := by
  cases h with | pin h => exact ⟨_, rfl, h⟩
theorem RpL.length : ∀ {vs : List V} {ds : List D}, RpL K F vs ds → vs.length = ds.length
  | _, _, .nil => rfl
  | _, _, .cons _ r => congrArg Nat.succ r.length
theorem RpL.get : ∀ {vs : List V} {ds : List D} {i : Nat} {d : D}, RpL K F vs ds → ds[i]? = some d → ∃ v, vs[i]? = some v ∧ Rp K F v d
  | _, _, _, _, .nil, e => by simp at e
  | _, _, 0, _, .cons h _, e => by simp at e; subst e; exact ⟨_, rfl, h⟩
  | _, _, i + 1, d, .cons _ r, e => by
    obtain ⟨v, h1, h2⟩ := RpL.get (i := i) (d := d) r (by simpa using e)
    exact ⟨v, by simpa using h1, h2⟩
theorem RpL.getV : ∀ {vs : List V} {ds : List D} {i : Nat} {v : V}, RpL K F vs ds → vs[i]? = some v → ∃ d, ds[i]? = some d ∧ Rp K F v d
  | _, _, _, _, .nil, e => by simp at e
  | _, _, 0, _, .cons h _, e => by simp at e; subst e; exact ⟨_, rfl, h⟩
  | _, _, i + 1, v, .cons _ r, e => by
    obtain ⟨d, h1, h2⟩ := RpL.getV (i := i) (v := v) r (by simpa using e)
    exact ⟨d, by simpa using h1, h2⟩
theorem RpL.append : ∀ {vs ws : List V} {ds es : List D}, RpL K F vs ds → RpL K F ws es → RpL K F (vs ++ ws) (ds ++ es)
  | _, _, _, _, .nil, s => s
  | _, _, _, _, .cons h r, s => .cons h (r.append s)
theorem RpL.take : ∀ {vs : List V} {ds : List D} (n : Nat), RpL K F vs ds → RpL K F (vs.take n) (ds.take n)
  | _, _, 0, _ => by simpa using RpL.nil
  | _, _, _ + 1, .nil => by simpa using RpL.nil
  | _, _, n + 1, .cons h r => by simpa using RpL.cons h (r.take n)
theorem RpL.drop : ∀ {vs : List V} {ds : List D} (n : Nat), RpL K F vs ds → RpL K F (vs.drop n) (ds.drop n)
  | _, _, 0, r => r
  | _, _, _ + 1, .nil => by simpa using RpL.nil
  | _, _, n + 1, .cons _ r => by simpa using r.drop n
theorem RpL.set : ∀ {vs : List V} {ds : List D} {v : V} {d : D} (n : Nat), RpL K F vs ds → Rp K F v d → RpL K F (vs.set n v) (ds.set n d)
  | _, _, _, _, _, .nil, _ => .nil
  | _, _, _, _, 0, .cons _ r, q => .cons q r
  | _, _, _, _, n + 1, .cons h r, q => .cons h (RpL.set n r q)
theorem RpL.nil_eq {vs : List V} (h : RpL K F vs []) : vs = [] := by cases h; rfl
theorem RpL.cons_of {vs : List V} {d : D} {ds : List D} (h : RpL K F vs (d :: ds)) : ∃ v ws, vs = v :: ws ∧ Rp K F v d ∧ RpL K F ws ds := by
  cases h with | cons a b => exact ⟨_, _, rfl, a, b⟩
theorem RpL.raws : ∀ {vs ws : List V}, RpL K F vs (ws.map D.raw) → vs = ws
  | _, [], h => by cases h; rfl
  | _, w :: ws, h => by
    cases h with
    | cons a b => rw [Rp.raw_eq a, RpL.raws b]
theorem RpL.ofRaws : ∀ (ws : List V), RpL K F ws (ws.map D.raw)
  | [] => .nil
  | w :: ws => .cons (.raw w) (RpL.ofRaws ws)
end

/-- one object that may change: the source of draws (a list of three ints), or one under construction -/
def isBox : HO → Prop
  | .lst xs => ∃ n s c : Int, xs = [.int n, .int s, .int c]
  | _ => False
def BoxOk (B : HO → Prop) (H : Hp) (b : Addr) : Prop := ∃ o, H b = some o ∧ B o

/-- from (F, H) to (F', H'): what stood stands (but the box), what is known for ever grows by new things alone -/
structure Step (M : Option Addr) (B : HO → Prop) (F H F' H' : Hp) : Prop where
  ff : Sub F F'
  sub : Sub F' H'
  keep : ∀ a o, H a = some o → M ≠ some a → H' a = some o
  new : ∀ a, F a = none → H a ≠ none → F' a = none
  box : ∀ b, M = some b → BoxOk B H' b
section
variable {M : Option Addr} {B : HO → Prop} {F H F1 H1 F2 H2 : Hp}
theorem Step.keepN (s : Step M B F H F1 H1) {a : Addr} (h : H a ≠ none) : H1 a ≠ none := by
  cases e : H a with
  | none => exact absurd e h
  | some o =>
    by_cases q : M = some a
    · obtain ⟨_, z, _⟩ := s.box a q; rw [z]; exact fun x => nomatch x
    · rw [s.keep a o e q]; exact fun x => nomatch x
theorem Step.trans (s : Step M B F H F1 H1) (t : Step M B F1 H1 F2 H2) : Step M B F H F2 H2 :=
  ⟨s.ff.trans t.ff, t.sub, fun a o h m => t.keep a o (s.keep a o h m) m, fun a f h => t.new a (s.new a f h) (s.keepN h), t.box⟩
theorem Step.same (h : Sub F H) (b : ∀ b, M = some b → BoxOk B H b) : Step M B F H F H := ⟨Sub.rfl, h, fun _ _ e _ => e, fun _ e _ => e, b⟩
/-- a pure call's step is one beside any box -/
theorem Step.any {B' : HO → Prop} (s : Step none B' F H F1 H1) (b : ∀ b, M = some b → BoxOk B H b) : Step M B F H F1 H1 :=
  ⟨s.ff, s.sub, fun a o h _ => s.keep a o h (fun q => nomatch q), s.new, fun x q => by
    obtain ⟨o, e, t⟩ := b x q
    exact ⟨o, s.keep x _ e (fun q => nomatch q), t⟩⟩
theorem Step.alloc {p : Addr} {o : HO} (h : Sub F H) (b : ∀ b, M = some b → BoxOk B H b) (hp : H p = none) : Step M B F H (upd F p o) (upd H p o) :=
  ⟨sub_upd (h.none hp), sub_upd2 h, fun a u e _ => by rw [upd_ne (ne_of_none e hp)]; exact e, fun a f q => by
    have ne : a ≠ p := fun z => q (by rw [z]; exact hp)
    rw [upd_ne ne]; exact f, fun x q => by
    obtain ⟨o, e, t⟩ := b x q
    exact ⟨o, by rw [upd_ne (ne_of_none e hp)]; exact e, t⟩⟩
end

/-- what is fixed through a def's body -/
structure Eb where
  K : PySem.W.Frag
  M : Option Addr
  B : HO → Prop
  F0 : Hp
  H0 : Hp

/-- the state: G the slots' data, O the lists that the body owns (with their items), S the values at hand -/
structure FO (E : Eb) (G : List (Option D)) (O : List (Addr × List D)) (S : List (V × D)) (F : Hp) (σ : L2.St) (H : Hp) : Prop where
  st : Step E.M E.B E.F0 E.H0 F H
  bx : ∀ b, E.M = some b → F b = none
  len : σ.length = G.length
  slot : ∀ (i : Nat) (d : D), G[i]? = some (some d) → ∃ v, σ[i]? = some (some v) ∧ Rp E.K F v d
  stk : ∀ p ∈ S, Rp E.K F p.1 p.2
  own : ∀ p ∈ O, ∃ vs, H p.1 = some (.lst vs) ∧ RpL E.K F vs p.2 ∧ F p.1 = none ∧ E.H0 p.1 = none ∧ E.M ≠ some p.1
  nd : (O.map (·.1)).Nodup
section
variable {E : Eb} {G : List (Option D)} {O : List (Addr × List D)} {S : List (V × D)} {F F' H H' : Hp} {σ : L2.St} {v x y : V} {d e : D} {Q : VK}
theorem FO.sub (fo : FO E G O S F σ H) : Sub F H := fo.st.sub
theorem FO.box (fo : FO E G O S F σ H) : ∀ b, E.M = some b → BoxOk E.B H b := fo.st.box
theorem FO.push (fo : FO E G O S F σ H) (r : Rp E.K F v d) : FO E G O ((v, d) :: S) F σ H :=
  ⟨fo.st, fo.bx, fo.len, fo.slot, fun p hp => by
    rcases List.mem_cons.mp hp with z | z
    · rw [z]; exact r
    · exact fo.stk p z, fo.own, fo.nd⟩
theorem FO.top (fo : FO E G O ((v, d) :: S) F σ H) : Rp E.K F v d := fo.stk _ List.mem_cons_self
theorem FO.pop (fo : FO E G O ((v, d) :: S) F σ H) : FO E G O S F σ H := ⟨fo.st, fo.bx, fo.len, fo.slot, fun p hp => fo.stk p (List.mem_cons_of_mem _ hp), fo.own, fo.nd⟩
theorem FO.weakS {S' : List (V × D)} (fo : FO E G O S F σ H) (h : ∀ p ∈ S', p ∈ S) : FO E G O S' F σ H := ⟨fo.st, fo.bx, fo.len, fo.slot, fun p hp => fo.stk p (h p hp), fo.own, fo.nd⟩
theorem FO.weakO {O' : List (Addr × List D)} (fo : FO E G O S F σ H) (h : ∀ p ∈ O', p ∈ O) (n : (O'.map (·.1)).Nodup) : FO E G O' S F σ H := ⟨fo.st, fo.bx, fo.len, fo.slot, fo.stk, fun p hp => fo.own p (h p hp), n⟩
theorem FO.dropO (fo : FO E G O S F σ H) : FO E G [] S F σ H := fo.weakO (fun _ h => nomatch h) List.nodup_nil
theorem FO.weakG {G' : List (Option D)} (fo : FO E G O S F σ H) (hl : G'.length = G.length) (h : ∀ (i : Nat) d, G'[i]? = some (some d) → G[i]? = some (some d)) : FO E G' O S F σ H :=
  ⟨fo.st, fo.bx, by rw [hl]; exact fo.len, fun i d q => fo.slot i d (h i d q), fo.stk, fo.own, fo.nd⟩
/-- the heap goes on by a step that leaves the owned lists -/
theorem FO.step (fo : FO E G O S F σ H) (s : Step E.M E.B F H F' H') : FO E G O S F' σ H' :=
  ⟨fo.st.trans s, fun b q => by
      obtain ⟨_, z, _⟩ := fo.box b q
      exact s.new b (fo.bx b q) (by rw [z]; exact fun x => nomatch x),
    fo.len, fun i d q => by
      obtain ⟨v, a, r⟩ := fo.slot i d q
      exact ⟨v, a, r.mono s.ff⟩,
    fun p hp => (fo.stk p hp).mono s.ff,
    fun p hp => by
      obtain ⟨vs, a, r, f, h0, m⟩ := fo.own p hp
      exact ⟨vs, s.keep _ _ a m, r.mono s.ff, s.new _ f (by rw [a]; exact fun x => nomatch x), h0, m⟩,
    fo.nd⟩
/-- a new object, known for ever -/
theorem FO.alloc {p : Addr} {o : HO} (fo : FO E G O S F σ H) (hp : H p = none) : FO E G O S (upd F p o) σ (upd H p o) := fo.step (.alloc fo.sub fo.box hp)
theorem FO.old {a : Addr} {o : HO} (fo : FO E G O S F σ H) (h : E.H0 a = some o) (m : E.M ≠ some a) : H a = some o := fo.st.keep a o h m
theorem FO.none0 {p : Addr} (fo : FO E G O S F σ H) (hp : H p = none) : E.H0 p = none := by
  cases e : E.H0 p with
  | none => rfl
  | some o => exact absurd hp (fo.st.keepN (by rw [e]; exact fun x => nomatch x))
theorem FO.notBox {p : Addr} (fo : FO E G O S F σ H) (hp : H p = none) : E.M ≠ some p := fun q => by
  obtain ⟨_, z, _⟩ := fo.box p q
  rw [z] at hp; cases hp
/-- a new list that the body owns -/
theorem FO.allocO {p : Addr} {vs : List V} {ds : List D} (fo : FO E G O S F σ H) (hp : H p = none) (r : RpL E.K F vs ds) : FO E G ((p, ds) :: O) S F σ (upd H p (.lst vs)) := by
  have st : Step E.M E.B F H F (upd H p (.lst vs)) := ⟨Sub.rfl, fun a o e => by rw [upd_ne (ne_of_none (fo.sub a o e) hp)]; exact fo.sub a o e, fun a o e _ => by rw [upd_ne (ne_of_none e hp)]; exact e, fun _ e _ => e, fun b q => by
    obtain ⟨o, e, t⟩ := fo.box b q
    exact ⟨o, by rw [upd_ne (ne_of_none e hp)]; exact e, t⟩⟩
  have fo' := fo.step st
  refine ⟨fo'.st, fo'.bx, fo'.len, fo'.slot, fo'.stk, fun q hq => ?_, ?_⟩
  · rcases List.mem_cons.mp hq with z | z
    · subst z
      exact ⟨vs, upd_same, r, fo.sub.none hp, fo.none0 hp, fo.notBox hp⟩
    · exact fo'.own q z
  · rw [List.map_cons, List.nodup_cons]
    refine ⟨fun hm => ?_, fo.nd⟩
    obtain ⟨q, hq, e⟩ := List.mem_map.mp hm
    obtain ⟨ws, a, _⟩ := fo.own q hq
    rw [e, hp] at a; cases a
/-- an owned list is changed -/
theorem FO.mut {p : Addr} {vs : List V} {ds es : List D} (fo : FO E G ((p, ds) :: O) S F σ H) (r : RpL E.K F vs es) : FO E G ((p, es) :: O) S F σ (upd H p (.lst vs)) := by
  obtain ⟨ws, hp, _, fp, h0, mp⟩ := fo.own (p, ds) List.mem_cons_self
  have hn : p ∉ O.map (·.1) := by
    have z := fo.nd
    rw [List.map_cons, List.nodup_cons] at z
    exact z.1
  refine ⟨⟨fo.st.ff, fun a o e => ?_, fun a o e m => ?_, fo.st.new, fun b q => ?_⟩, fo.bx, fo.len, fo.slot, fo.stk, fun q hq => ?_, ?_⟩
  · rw [upd_ne (fun z => by rw [z, fp] at e; cases e)]; exact fo.sub a o e
  · rw [upd_ne (fun z => by rw [z, h0] at e; cases e)]; exact fo.st.keep a o e m
  · obtain ⟨o, e, t⟩ := fo.box b q
    exact ⟨o, by rw [upd_ne (fun z => mp (by rw [← z]; exact q))]; exact e, t⟩
  · rcases List.mem_cons.mp hq with z | z
    · subst z
      exact ⟨vs, upd_same, r, fp, h0, mp⟩
    · obtain ⟨us, a, b, c, e1, f1⟩ := fo.own q (List.mem_cons_of_mem _ z)
      refine ⟨us, ?_, b, c, e1, f1⟩
      rw [upd_ne (fun w => hn (List.mem_map.mpr ⟨q, z, w⟩))]; exact a
  · exact fo.nd
/-- an owned list is known for ever from now on -/
theorem FO.freeze {p : Addr} {ds : List D} (fo : FO E G ((p, ds) :: O) S F σ H) : ∃ F', FO E G O ((.ref p, .lst ds) :: S) F' σ H ∧ Sub F F' := by
  obtain ⟨ws, hp, rw_, fp, h0, mp⟩ := fo.own (p, ds) List.mem_cons_self
  have hn : p ∉ O.map (·.1) := by
    have z := fo.nd
    rw [List.map_cons, List.nodup_cons] at z
    exact z.1
  have ff : Sub F (upd F p (.lst ws)) := sub_upd fp
  refine ⟨upd F p (.lst ws), FO.push ⟨⟨fo.st.ff.trans ff, fun a o e => ?_, fo.st.keep, fun a e q => ?_, fo.box⟩, fun b q => ?_, fo.len, fun i d q => ?_, fun q hq => (fo.stk q hq).mono ff, fun q hq => ?_, ?_⟩ (.lst upd_same (rw_.mono ff)), ff⟩
  · by_cases z : a = p
    · subst z; rw [upd_same] at e; cases e; exact hp
    · rw [upd_ne z] at e; exact fo.sub a o e
  · rw [upd_ne (fun z => q (by rw [z]; exact h0))]; exact fo.st.new a e q
  · rw [upd_ne (fun z => mp (by rw [← z]; exact q))]; exact fo.bx b q
  · obtain ⟨v, a, r⟩ := fo.slot i d q
    exact ⟨v, a, r.mono ff⟩
  · obtain ⟨us, a, b, c, e1, f1⟩ := fo.own q (List.mem_cons_of_mem _ hq)
    refine ⟨us, a, b.mono ff, ?_, e1, f1⟩
    rw [upd_ne (fun w => hn (List.mem_map.mpr ⟨q, hq, w⟩))]; exact c
  · have z := fo.nd
    rw [List.map_cons, List.nodup_cons] at z
    exact z.2
theorem FO.set {i : Nat} (fo : FO E G O ((v, d) :: S) F σ H) : FO E (G.set i (some d)) O S F (σ.set i (some v)) H := by
  refine ⟨fo.st, fo.bx, by rw [List.length_set, List.length_set]; exact fo.len, fun j e q => ?_, fo.pop.stk, fo.own, fo.nd⟩
  by_cases z : j = i
  · subst z
    have hj : j < G.length := by
      have := List.getElem?_eq_some_iff.mp q
      obtain ⟨h, _⟩ := this
      rwa [List.length_set] at h
    rw [List.getElem?_set_self hj] at q
    cases q
    exact ⟨v, List.getElem?_set_self (by rw [fo.len]; exact hj), fo.top⟩
  · rw [List.getElem?_set_ne (fun h => z h.symm)] at q ⊢
    exact fo.slot j e q
/-- a slot whose address is that of a value at hand, by that value's datum -/
theorem FO.know {i : Nat} (fo : FO E G O ((v, d) :: S) F σ H) (h : G[i]? = some (some (.raw v))) : FO E (G.set i (some d)) O ((v, d) :: S) F σ H := by
  refine ⟨fo.st, fo.bx, by rw [List.length_set]; exact fo.len, fun j e q => ?_, fo.stk, fo.own, fo.nd⟩
  by_cases z : j = i
  · subst z
    obtain ⟨u, a, r⟩ := fo.slot j _ h
    have hj : j < G.length := (List.getElem?_eq_some_iff.mp h).1
    rw [List.getElem?_set_self hj] at q
    cases q
    rw [Rp.raw_eq r] at a
    exact ⟨v, a, fo.top⟩
  · rw [List.getElem?_set_ne (fun h => z h.symm)] at q
    exact fo.slot j e q
end
end DL

set_option maxHeartbeats 4000000
namespace DL
open PySem L2
/-! ### continuations by name -/
def kTup (Q : VK) (xs : List V) (H : Hp) : Prop := xs.length ≤ sizeLine ∧ ∀ p, H p = none → Q (.ref p) (upd H p (.tup xs))
def kLst (Q : VK) (xs : List V) (H : Hp) : Prop := xs.length ≤ sizeLine ∧ ∀ p, H p = none → Q (.ref p) (upd H p (.lst xs))
def kLstO (Q : VK) (xs : List V) (H : Hp) : Prop := kLst Q xs H
def kCall (sp : Sp) (dvs : List V) (Ex : XK) (Q : VK) (vs : List V) (H : Hp) : Prop := sp (vs ++ dvs) H Q Ex
def kTest (Q : Bool → Hp → Prop) (x : V) (H : Hp) : Prop := ∃ k, x = .bl k ∧ Q k H
def kTru (K : PySem.W.Frag) (Q : Bool → Hp → Prop) (x : V) (H : Hp) : Prop := ∃ k, TruV K x H k ∧ Q k H
/-- a display of a list that the body owns -/
def tLstO (t : TA) : TE := tLst t
def tTruth (K : PySem.W.Frag) (te : TE) : TT := fun σ H Q => te σ H fun x H' => ∃ k, TruV K x H' k ∧ Q k H'

/-- vs are the last values at hand, with data ds; S0 is left -/
inductive Taken (S : List (V × D)) : List V → List D → List (V × D) → Prop
  | nil : Taken S [] [] S
  | cons {v : V} {vs : List V} {d : D} {ds : List D} {S0 : List (V × D)} : Taken S vs ds ((v, d) :: S0) → Taken S (v :: vs) (d :: ds) S0
theorem Taken.sub {S S0 : List (V × D)} {vs : List V} {ds : List D} (t : Taken S vs ds S0) : ∀ p ∈ S0, p ∈ S := by
  induction t with
  | nil => exact fun _ h => h
  | cons _ ih => exact fun p h => ih p (List.mem_cons_of_mem _ h)
theorem Taken.rpl {K : PySem.W.Frag} {F : Hp} {S S0 : List (V × D)} {vs : List V} {ds : List D} (t : Taken S vs ds S0) (h : ∀ p ∈ S, Rp K F p.1 p.2) : RpL K F vs ds := by
  induction t with
  | nil => exact .nil
  | cons t ih => exact .cons (h _ (t.sub _ List.mem_cons_self)) ih

section
variable {E : Eb} {G : List (Option D)} {O : List (Addr × List D)} {S S0 : List (V × D)} {F F' H H' : Hp} {σ : L2.St} {v x y : V} {d e : D} {Q : VK} {ta tb te : TE} {tas : TA} {vs : List V} {ds : List D}
theorem FO.taken (fo : FO E G O S F σ H) (t : Taken S vs ds S0) : FO E G O S0 F σ H := fo.weakS t.sub
theorem FO.rpl (fo : FO E G O S F σ H) (t : Taken S vs ds S0) : RpL E.K F vs ds := t.rpl fo.stk
/-! ### names, constants, operators -/
theorem x_var {i : Nat} (fo : FO E G O S F σ H) (h : G[i]? = some (some d)) (k : ∀ v, FO E G O ((v, d) :: S) F σ H → Q v H) : tVar i σ H Q := by
  obtain ⟨v, a, r⟩ := fo.slot i d h
  exact ⟨v, a, k v (fo.push r)⟩
/-- a name whose value is known as such -/
theorem x_varR {i : Nat} (fo : FO E G O S F σ H) (h : G[i]? = some (some (.raw v))) (k : FO E G O ((v, .raw v) :: S) F σ H → Q v H) : tVar i σ H Q := by
  obtain ⟨u, a, r⟩ := fo.slot i _ h
  have := r.raw_eq
  subst this
  exact ⟨u, a, k (fo.push r)⟩
theorem x_c (fo : FO E G O S F σ H) (k : FO E G O ((v, .raw v) :: S) F σ H → Q v H) : tC v σ H Q := k (fo.push (.raw v))
theorem x_op {r : R2} (h : ta σ H fun x H1 => tb σ H1 fun y H2 => r x y H2 Q) : tOp r ta tb σ H Q := h
theorem x_un {r : V → Hp → VK → Prop} (h : ta σ H fun x H1 => r x H1 Q) : tUn r ta σ H Q := h
theorem x_nil {R : List V → Hp → Prop} (h : R [] H) : tNil σ H R := h
theorem x_cons {R : List V → Hp → Prop} (h : te σ H fun x H1 => tas σ H1 fun xs H2 => R (x :: xs) H2) : tCons te tas σ H R := h
theorem x_tup (h : tas σ H (kTup Q)) : tTup tas σ H Q := h
theorem x_lst (h : tas σ H (kLst Q)) : tLst tas σ H Q := h
theorem x_lstO (h : tas σ H (kLstO Q)) : tLstO tas σ H Q := h
theorem x_cb {r : List V → Hp → VK → Prop} (h : tas σ H fun vs H1 => r vs H1 Q) : tCB r tas σ H Q := h
theorem x_call {sp : Sp} {dvs : List V} {Ex : XK} (h : tas σ H (kCall sp dvs Ex Q)) : tCall sp dvs Ex tas σ H Q := h
theorem x_test {R : Bool → Hp → Prop} (h : te σ H (kTest R)) : tTest te σ H R := h
theorem x_tB {R : Bool → Hp → Prop} (h : te σ H (kTest R)) : tB te σ H R := h
theorem x_truth {K : PySem.W.Frag} {R : Bool → Hp → Prop} (h : te σ H (kTru K R)) : tTruth K te σ H R := h
theorem x_bool {R : Bool → Hp → Prop} {b : Bool} (fo : FO E G O ((x, .raw (.bl b)) :: S) F σ H) (k : FO E G O S F σ H → R b H) : kTest R x H := ⟨b, fo.top.raw_eq, k fo.pop⟩
theorem x_mkTup (fo : FO E G O S F σ H) (t : Taken S vs ds S0) (hl : vs.length ≤ 1000) (k : ∀ p F' H', FO E G O ((.ref p, .tup ds) :: S0) F' σ H' → Q (.ref p) H') : kTup Q vs H :=
  ⟨Nat.le_trans hl (by decide), fun p hp => k p _ _ (((fo.taken t).alloc hp).push (.tup upd_same ((fo.rpl t).mono (sub_upd (fo.sub.none hp)))))⟩
theorem x_mkLst (fo : FO E G O S F σ H) (t : Taken S vs ds S0) (hl : vs.length ≤ 1000) (k : ∀ p F' H', FO E G O ((.ref p, .lst ds) :: S0) F' σ H' → Q (.ref p) H') : kLst Q vs H :=
  ⟨Nat.le_trans hl (by decide), fun p hp => k p _ _ (((fo.taken t).alloc hp).push (.lst upd_same ((fo.rpl t).mono (sub_upd (fo.sub.none hp)))))⟩
theorem x_mkLstO (fo : FO E G O S F σ H) (t : Taken S vs ds S0) (hl : vs.length ≤ 1000) (k : ∀ p H', FO E G ((p, ds) :: O) ((.ref p, .raw (.ref p)) :: S0) F σ H' → Q (.ref p) H') : kLstO Q vs H :=
  ⟨Nat.le_trans hl (by decide), fun p hp => k p _ (((fo.taken t).allocO hp (fo.rpl t)).push (.raw _))⟩
/-! ### tests -/
variable {t u : TT} {R : Bool → Hp → Prop}
theorem x_and (h : t σ H fun c H1 => if c = true then u σ H1 R else R false H1) : tAnd t u σ H R := h
theorem x_or (h : t σ H fun c H1 => if c = true then R true H1 else u σ H1 R) : tOr t u σ H R := h
theorem x_not (h : t σ H fun c H1 => R (!c) H1) : tNot t σ H R := h
theorem x_if (h : t σ H fun c H1 => if c = true then ta σ H1 Q else tb σ H1 Q) : tIf t ta tb σ H Q := h
theorem x_yes (h : R true H) : tYes σ H R := h
def kAndV (tb : TE) (σ : L2.St) (Q : VK) (x : V) (H : Hp) : Prop := ∃ c, x = .bl c ∧ if c = true then tb σ H Q else Q (.bl false) H
def kOrV (tb : TE) (σ : L2.St) (Q : VK) (x : V) (H : Hp) : Prop := ∃ c, x = .bl c ∧ if c = true then Q (.bl true) H else tb σ H Q
def kNotV (Q : VK) (x : V) (H : Hp) : Prop := ∃ c, x = .bl c ∧ Q (.bl (!c)) H
theorem x_andV (h : ta σ H (kAndV tb σ Q)) : tAndV ta tb σ H Q := h
theorem x_orV (h : ta σ H (kOrV tb σ Q)) : tOrV ta tb σ H Q := h
theorem x_notV (h : ta σ H (kNotV Q)) : tNotV ta σ H Q := h
theorem x_kAndV {b : Bool} (fo : FO E G O ((x, .raw (.bl b)) :: S) F σ H) (k1 : b = true → FO E G O S F σ H → tb σ H Q) (k2 : b = false → FO E G O ((.bl false, .raw (.bl false)) :: S) F σ H → Q (.bl false) H) : kAndV tb σ Q x H := by
  refine ⟨b, fo.top.raw_eq, ?_⟩
  cases b with
  | true => exact k1 rfl fo.pop
  | false => exact k2 rfl (fo.pop.push (.raw _))
theorem x_kOrV {b : Bool} (fo : FO E G O ((x, .raw (.bl b)) :: S) F σ H) (k1 : b = true → FO E G O ((.bl true, .raw (.bl true)) :: S) F σ H → Q (.bl true) H) (k2 : b = false → FO E G O S F σ H → tb σ H Q) : kOrV tb σ Q x H := by
  refine ⟨b, fo.top.raw_eq, ?_⟩
  cases b with
  | true => exact k1 rfl (fo.pop.push (.raw _))
  | false => exact k2 rfl fo.pop
theorem x_kNotV {b : Bool} (fo : FO E G O ((x, .raw (.bl b)) :: S) F σ H) (k : FO E G O ((.bl (!b), .raw (.bl (!b))) :: S) F σ H → Q (.bl (!b)) H) : kNotV Q x H := ⟨b, fo.top.raw_eq, k (fo.pop.push (.raw _))⟩
/-! ### statements -/
variable {D : Ends} {s1 s2 : TS} {g : TG}
theorem x_seq (h : s1 { D with nx := s2 D } σ H) : tSeq s1 s2 D σ H := h
theorem x_next (h : D.nx σ H) : tNext D σ H := h
theorem x_brk (h : D.bk σ H) : tBreak D σ H := h
theorem x_cont (h : D.ct σ H) : tCont D σ H := h
theorem x_asg (h : te σ H fun x H1 => g x σ H1 D.nx) : tAsg te g D σ H := h
theorem x_drop (h : te σ H fun _ H1 => D.nx σ H1) : tDrop te D σ H := h
theorem x_ret (h : te σ H D.rt) : tRet te D σ H := h
theorem x_retN (h : D.rt .non H) : tRetN D σ H := h
theorem x_ifS (h : t σ H fun b H1 => if b = true then s1 D σ H1 else s2 D σ H1) : tIfS t s1 s2 D σ H := h
variable {Z : L2.St → Hp → Prop}
theorem x_gname {i : Nat} (fo : FO E G O ((x, d) :: S) F σ H) (k : ∀ σ', FO E (G.set i (some d)) O S F σ' H → Z σ' H) : gName i x σ H Z := k _ fo.set
theorem x_gnil {ws : List V} (h : ws = []) (k : Z σ H) : gNil ws σ H Z := ⟨h, k⟩
theorem x_gcons {ts : TGs} {w : V} {ws : List V} (k : g w σ H fun σ' H' => ts ws σ' H' Z) : gCons g ts (w :: ws) σ H Z := ⟨w, ws, rfl, k⟩
theorem x_gtup2 {K : PySem.W.Frag} {ts : TGs} {d1 d2 : DL.D} (fo : FO E G O ((x, .tup [d1, d2]) :: S) F σ H) (k : ∀ v1 v2, FO E G O ((v1, d1) :: (v2, d2) :: S) F σ H → ts [v1, v2] σ H Z) : gTup K 2 ts x σ H Z := by
  obtain ⟨a, xs, rfl, h, r⟩ := fo.top.tup_at
  obtain ⟨v1, ws, rfl, r1, r⟩ := r.cons_of
  obtain ⟨v2, ws, rfl, r2, r⟩ := r.cons_of
  have := r.nil_eq; subst this
  exact ⟨a, _, rfl, .inl (.inl (fo.sub _ _ h)), rfl, k _ _ ((fo.pop.push r2).push r1)⟩
theorem x_gtup3 {K : PySem.W.Frag} {ts : TGs} {d1 d2 d3 : DL.D} (fo : FO E G O ((x, .tup [d1, d2, d3]) :: S) F σ H) (k : ∀ v1 v2 v3, FO E G O ((v1, d1) :: (v2, d2) :: (v3, d3) :: S) F σ H → ts [v1, v2, v3] σ H Z) : gTup K 3 ts x σ H Z := by
  obtain ⟨a, xs, rfl, h, r⟩ := fo.top.tup_at
  obtain ⟨v1, ws, rfl, r1, r⟩ := r.cons_of
  obtain ⟨v2, ws, rfl, r2, r⟩ := r.cons_of
  obtain ⟨v3, ws, rfl, r3, r⟩ := r.cons_of
  have := r.nil_eq; subst this
  exact ⟨a, _, rfl, .inl (.inl (fo.sub _ _ h)), rfl, k _ _ _ (((fo.pop.push r3).push r2).push r1)⟩
theorem x_gtup5 {K : PySem.W.Frag} {ts : TGs} {d1 d2 d3 d4 d5 : DL.D} (fo : FO E G O ((x, .tup [d1, d2, d3, d4, d5]) :: S) F σ H) (k : ∀ v1 v2 v3 v4 v5, FO E G O ((v1, d1) :: (v2, d2) :: (v3, d3) :: (v4, d4) :: (v5, d5) :: S) F σ H → ts [v1, v2, v3, v4, v5] σ H Z) : gTup K 5 ts x σ H Z := by
  obtain ⟨a, xs, rfl, h, r⟩ := fo.top.tup_at
  obtain ⟨v1, ws, rfl, r1, r⟩ := r.cons_of
  obtain ⟨v2, ws, rfl, r2, r⟩ := r.cons_of
  obtain ⟨v3, ws, rfl, r3, r⟩ := r.cons_of
  obtain ⟨v4, ws, rfl, r4, r⟩ := r.cons_of
  obtain ⟨v5, ws, rfl, r5, r⟩ := r.cons_of
  have := r.nil_eq; subst this
  exact ⟨a, _, rfl, .inl (.inl (fo.sub _ _ h)), rfl, k _ _ _ _ _ (((((fo.pop.push r5).push r4).push r3).push r2).push r1)⟩
/-- two targets, two values written -/
theorem x_par {i j : Nat} (h : tas σ H fun vs H1 => ∃ v w, vs = [v, w] ∧ D.nx ((σ.set i (some v)).set j (some w)) H1) : tPar i j tas D σ H := h
theorem x_par2 {i j : Nat} (fo : FO E G O ((y, e) :: (x, d) :: S) F σ H) (k : ∀ σ', FO E ((G.set i (some d)).set j (some e)) O S F σ' H → Z σ' H) : ∃ v w, [x, y] = [v, w] ∧ Z ((σ.set i (some v)).set j (some w)) H := by
  refine ⟨x, y, rfl, k _ ?_⟩
  have f1 : FO E G O ((x, d) :: (y, e) :: S) F σ H := fo.weakS (by intro p hp; simp at hp ⊢; rcases hp with h | h | h <;> simp [h])
  exact f1.set.set
/-! ### what a branch decides -/
theorem ite_y {b : Bool} {A B : Prop} (hb : b = true) (h : A) : if b = true then A else B := by rw [if_pos hb]; exact h
theorem ite_n {b : Bool} {A B : Prop} (hb : b = false) (h : B) : if b = true then A else B := by rw [hb, if_neg Bool.false_ne_true]; exact h
theorem ite_b {b : Bool} {A B : Prop} (h1 : b = true → A) (h2 : b = false → B) : if b = true then A else B := by
  cases b with
  | true => rw [if_pos rfl]; exact h1 rfl
  | false => rw [if_neg Bool.false_ne_true]; exact h2 rfl
end

/-! ### promises -/
def spX (K : PySem.W.Frag) {α : Type} (M : α → Option Addr) (arg : α → List D) (pre : α → Prop) (post : α → D → Prop) : Sp := fun vs H Q _ =>
  ∃ x F, Sub F H ∧ (∀ b, M x = some b → F b = none ∧ BoxOk isBox H b) ∧ RpL K F vs (arg x) ∧ pre x ∧ ∀ v d F' H', Step (M x) isBox F H F' H' → Rp K F' v d → post x d → Q v H'
section
variable {E : Eb} {G : List (Option D)} {O : List (Addr × List D)} {S S0 : List (V × D)} {F F' H H' : Hp} {σ : L2.St} {v : V} {d : D} {Q : VK} {vs : List V} {ds : List D} {Ex : XK}
variable {α : Type} {M : α → Option Addr} {arg : α → List D} {pre : α → Prop} {post : α → D → Prop}
/-- a call by its promise -/
theorem x_fn (x : α) (fo : FO E G O S F σ H) (t : Taken S vs ds S0) (ha : ds = arg x) (hM : M x = none ∨ (M x = E.M ∧ E.B = isBox)) (hp : pre x)
    (k : ∀ r e F' H', post x e → FO E G O ((r, e) :: S0) F' σ H' → Q r H') : kCall (spX E.K M arg pre post) [] Ex Q vs H := by
  have rl := fo.rpl t
  rw [ha] at rl
  refine ⟨x, F, fo.sub, fun b q => ?_, ?_, hp, fun v d F' H' s r p => k v d F' H' p (((fo.taken t).step ?_).push r)⟩
  · rcases hM with h | h
    · rw [h] at q; cases q
    · rw [h.1] at q
      have z := fo.box b q
      rw [h.2] at z
      exact ⟨fo.bx b q, z⟩
  · rw [List.append_nil]; exact rl
  · rcases hM with h | h
    · rw [h] at s; exact s.any fo.box
    · rw [h.1, ← h.2] at s; exact s
/-- the body begins -/
theorem fo_start {n : Nat} {N : List Str} (h : spX E.K M arg pre post vs H Q Ex) : ∃ (x : α) (F : Hp), pre x ∧ vs.length = (arg x).length ∧
    FO ⟨E.K, M x, isBox, F, H⟩ ((arg x).map some ++ List.replicate (N.length - (arg x).length) none) [] [] F (L2.start N vs) H ∧
    ∀ v d F' H', Step (M x) isBox F H F' H' → Rp E.K F' v d → post x d → Q v H' := by
  obtain ⟨x, F, s, b, r, p, k⟩ := h
  have hl : vs.length = (arg x).length := r.length
  refine ⟨x, F, p, hl, ⟨.same s (fun c q => (b c q).2), fun c q => (b c q).1, ?_, fun i d q => ?_, (fun _ h => nomatch h), (fun _ h => nomatch h), List.nodup_nil⟩, k⟩
  · unfold L2.start
    simp [hl]
  · have hi : i < (arg x).length := by
      rcases Nat.lt_or_ge i (arg x).length with h | h
      · exact h
      · rw [List.getElem?_append_right (by simpa using h)] at q
        rw [List.getElem?_replicate] at q
        split at q <;> cases q
    rw [List.getElem?_append_left (by simpa using hi), List.getElem?_map] at q
    cases e : (arg x)[i]? with
    | none => rw [e] at q; cases q
    | some d' =>
      rw [e] at q; cases q
      obtain ⟨v, h1, h2⟩ := r.get e
      refine ⟨v, ?_, h2⟩
      unfold L2.start
      rw [List.getElem?_append_left (by simpa [hl] using hi), List.getElem?_map, h1]; rfl
/-- the body ends -/
theorem x_done {P : D → Prop} (k : ∀ v d F' H', Step E.M E.B E.F0 E.H0 F' H' → Rp E.K F' v d → P d → Q v H') (fo : FO E G O ((v, d) :: S) F σ H) (p : P d) : Q v H := k v d F H fo.st fo.top p
theorem x_doneN {P : D → Prop} (k : ∀ v d F' H', Step E.M E.B E.F0 E.H0 F' H' → Rp E.K F' v d → P d → Q v H') (fo : FO E G O S F σ H) (p : P .non) : Q .non H := k .non _ F H fo.st (.raw _) p
/-- .. with a list that the body owned -/
theorem x_doneO {P : D → Prop} {p : Addr} (k : ∀ v d F' H', Step E.M E.B E.F0 E.H0 F' H' → Rp E.K F' v d → P d → Q v H') (fo : FO E G ((p, ds) :: O) S F σ H) (h : P (.lst ds)) : Q (.ref p) H := by
  obtain ⟨F', f, _⟩ := fo.freeze
  exact k _ _ F' H f.st f.top h
end
end DL

set_option maxHeartbeats 4000000
namespace DL
open PySem L2
/-! ### data that == sees -/
mutual
def toPy : D → Option PyData
  | .raw .non => some .none
  | .raw (.bl b) => some (.bool b)
  | .raw (.int i) => some (.int i)
  | .raw (.str s) => some (.str s)
  | .lst xs => (toPyL xs).map .list
  | .tup xs => (toPyL xs).map .tuple
  | _ => none
def toPyL : List D → Option (List PyData)
  | [] => some []
  | x :: xs => match toPy x, toPyL xs with
    | some p, some ps => some (p :: ps)
    | _, _ => none
end
section
variable {K : PySem.W.Frag} {F H : Hp}
mutual
theorem Rp.dp (s : Sub F H) : ∀ {v : V} {d : D} {p : PyData}, Rp K F v d → toPy d = some p → Dp K H v p
  | _, _, _, .raw v, e => by
    cases v <;> simp only [toPy] at e <;> (try cases e)
    · exact .non
    · exact .bl _
    · exact .int _
    · exact .str _
  | _, _, _, .lst (ds := ds) h r, e => by
    simp only [toPy] at e
    cases q : toPyL ds with
    | none => rw [q] at e; cases e
    | some ps => rw [q] at e; cases e; exact .lst (.inl (.inl (s _ _ h))) (RpL.dp s r q)
  | _, _, _, .tup (ds := ds) h r, e => by
    simp only [toPy] at e
    cases q : toPyL ds with
    | none => rw [q] at e; cases e
    | some ps => rw [q] at e; cases e; exact .tup (.inl (.inl (s _ _ h))) (RpL.dp s r q)
  | _, _, _, .obj h n r, e => by simp only [toPy] at e; cases e
  | _, _, _, .pin h, e => by simp only [toPy] at e; cases e
theorem RpL.dp (s : Sub F H) : ∀ {vs : List V} {ds : List D} {ps : List PyData}, RpL K F vs ds → toPyL ds = some ps → DpAll K H vs ps
  | _, _, _, .nil, e => by simp only [toPyL] at e; cases e; exact .nil
  | _, _, _, .cons (d := d) (ds := ds) h r, e => by
    simp only [toPyL] at e
    cases q : toPy d with
    | none => rw [q] at e; cases e
    | some p =>
      cases q2 : toPyL ds with
      | none => rw [q, q2] at e; cases e
      | some ps => rw [q, q2] at e; cases e; exact .cons (Rp.dp s h q) (RpL.dp s r q2)
end
end

/-- a list at hand: known for ever, or one that the body owns -/
def IsL (O : List (Addr × List D)) (d : D) (xs : List D) : Prop := d = .lst xs ∨ ∃ p, d = .raw (.ref p) ∧ (p, xs) ∈ O
section
variable {E : Eb} {G : List (Option D)} {O : List (Addr × List D)} {S S0 : List (V × D)} {F F' H H' : Hp} {σ : L2.St} {v x y : V} {d e : D} {Q : VK} {vs : List V} {ds as bs : List D}
theorem FO.lstOf (fo : FO E G O S F σ H) (r : Rp E.K F v d) (h : IsL O d ds) : ∃ a ws, v = .ref a ∧ H a = some (.lst ws) ∧ RpL E.K F ws ds := by
  rcases h with rfl | ⟨p, rfl, hm⟩
  · obtain ⟨a, ws, rfl, h, r⟩ := r.lst_at
    exact ⟨a, ws, rfl, fo.sub _ _ h, r⟩
  · obtain ⟨ws, h, r2, _⟩ := fo.own _ hm
    exact ⟨p, ws, r.raw_eq, h, r2⟩
theorem FO.tupOf (fo : FO E G O S F σ H) (r : Rp E.K F v (.tup ds)) : ∃ a ws, v = .ref a ∧ H a = some (.tup ws) ∧ RpL E.K F ws ds := by
  obtain ⟨a, ws, rfl, h, r⟩ := r.tup_at
  exact ⟨a, ws, rfl, fo.sub _ _ h, r⟩
theorem FO.snd (fo : FO E G O ((y, e) :: (x, d) :: S) F σ H) : Rp E.K F x d := fo.pop.top
/-- a new list, tuple of known items -/
theorem FO.newL {p : Addr} (fo : FO E G O S F σ H) (hp : H p = none) (r : RpL E.K F vs ds) : FO E G O ((.ref p, .lst ds) :: S) (upd F p (.lst vs)) σ (upd H p (.lst vs)) :=
  (fo.alloc hp).push (.lst upd_same (r.mono (sub_upd (fo.sub.none hp))))
theorem FO.newT {p : Addr} (fo : FO E G O S F σ H) (hp : H p = none) (r : RpL E.K F vs ds) : FO E G O ((.ref p, .tup ds) :: S) (upd F p (.tup vs)) σ (upd H p (.tup vs)) :=
  (fo.alloc hp).push (.tup upd_same (r.mono (sub_upd (fo.sub.none hp))))

/-! ### operators -/
def rAddU (K : PySem.W.Frag) : R2 := fun x y H Q => (∃ i j, x = .int i ∧ y = .int j ∧ Q (.int (i + j)) H) ∨ (∃ i j, x = .str i ∧ y = .str j ∧ i.length + j.length ≤ sizeLine ∧ Q (.str (i ++ j)) H) ∨ rCat x y H Q ∨ rCatA K x y H Q
theorem p_add {X : Cx} : OpR X (binaryOp .Add) (rAddU X.K) := op_add.or (op_add_str.or (op_cat.or op_catA))
theorem x_addI {K : PySem.W.Frag} {i j : Int} (fo : FO E G O ((y, .raw (.int j)) :: (x, .raw (.int i)) :: S) F σ H) (k : FO E G O ((.int (i + j), .raw (.int (i + j))) :: S) F σ H → Q (.int (i + j)) H) : rAddU K x y H Q :=
  .inl ⟨i, j, fo.snd.raw_eq, fo.top.raw_eq, k (fo.pop.pop.push (.raw _))⟩
theorem x_addS {K : PySem.W.Frag} {i j : Str} (fo : FO E G O ((y, .raw (.str j)) :: (x, .raw (.str i)) :: S) F σ H) (hl : i.length + j.length ≤ sizeLine) (k : FO E G O ((.str (i ++ j), .raw (.str (i ++ j))) :: S) F σ H → Q (.str (i ++ j)) H) : rAddU K x y H Q :=
  .inr (.inl ⟨i, j, fo.snd.raw_eq, fo.top.raw_eq, hl, k (fo.pop.pop.push (.raw _))⟩)
theorem x_addL {K : PySem.W.Frag} (fo : FO E G O ((y, e) :: (x, d) :: S) F σ H) (hx : IsL O d as) (hy : IsL O e bs) (hl : as.length + bs.length ≤ 100000) (k : ∀ p F' H', FO E G O ((.ref p, .lst (as ++ bs)) :: S) F' σ H' → Q (.ref p) H') : rAddU K x y H Q := by
  obtain ⟨a, ws, rfl, h1, r1⟩ := fo.lstOf fo.snd hx
  obtain ⟨b, us, rfl, h2, r2⟩ := fo.lstOf fo.top hy
  exact .inr (.inr (.inl ⟨a, b, ws, us, rfl, rfl, h1, h2, by rw [r1.length, r2.length]; exact Nat.le_trans hl (by decide), fun p hp => k p _ _ (fo.pop.pop.newL hp (r1.append r2))⟩))
theorem x_addT {K : PySem.W.Frag} (fo : FO E G O ((y, .tup bs) :: (x, .tup as) :: S) F σ H) (hl : as.length + bs.length ≤ 100000) (k : ∀ v F' H', FO E G O ((v, .tup (as ++ bs)) :: S) F' σ H' → Q v H') : rAddU K x y H Q := by
  obtain ⟨a, ws, rfl, h1, r1⟩ := fo.tupOf fo.snd
  obtain ⟨b, us, rfl, h2, r2⟩ := fo.tupOf fo.top
  refine .inr (.inr (.inr ⟨a, b, ws, us, rfl, rfl, .inl (.inl h1), .inl (.inl h2), by rw [r1.length, r2.length]; exact Nat.le_trans hl (by decide), fun h => ?_, fun h h' => ?_, fun _ _ p hp => k _ _ _ (fo.pop.pop.newT hp (r1.append r2))⟩))
  · have ea : as = [] := by
      have := r1.length; rw [h] at this; exact List.length_eq_zero_iff.mp this.symm
    refine k _ _ _ (fo.pop.pop.push ?_)
    rw [ea]; exact fo.top
  · have eb : bs = [] := by
      have := r2.length; rw [h'] at this; exact List.length_eq_zero_iff.mp this.symm
    refine k _ _ _ (fo.pop.pop.push ?_)
    rw [eb, List.append_nil]; exact fo.snd
def rSubI : R2 := rI0 fun i j => .int (i - j)
theorem p_sub {X : Cx} : OpR X (binaryOp .Sub) rSubI := op_sub
theorem x_subI {i j : Int} (fo : FO E G O ((y, .raw (.int j)) :: (x, .raw (.int i)) :: S) F σ H) (k : FO E G O ((.int (i - j), .raw (.int (i - j))) :: S) F σ H → Q (.int (i - j)) H) : rSubI x y H Q :=
  ⟨i, j, fo.snd.raw_eq, fo.top.raw_eq, k (fo.pop.pop.push (.raw _))⟩
def rMulU : R2 := fun x y H Q => rI CMul (fun i j => .int (i * j)) x y H Q ∨ rRep x y H Q
theorem p_mul {X : Cx} : OpR X (binaryOp .Mult) rMulU := op_mul.or op_rep
theorem x_mulI {i j : Int} (fo : FO E G O ((y, .raw (.int j)) :: (x, .raw (.int i)) :: S) F σ H) (hc : CMul i j) (k : FO E G O ((.int (i * j), .raw (.int (i * j))) :: S) F σ H → Q (.int (i * j)) H) : rMulU x y H Q :=
  .inl ⟨i, j, fo.snd.raw_eq, fo.top.raw_eq, hc, k (fo.pop.pop.push (.raw _))⟩
theorem RpL.rep {K : PySem.W.Frag} (r : RpL K F vs ds) : ∀ n : Nat, RpL K F (List.replicate n vs).flatten (List.replicate n ds).flatten
  | 0 => by simpa using RpL.nil
  | n + 1 => by
    rw [List.replicate_succ, List.replicate_succ, List.flatten_cons, List.flatten_cons]
    exact r.append (RpL.rep r n)
theorem x_mulL {j : Int} (fo : FO E G O ((y, .raw (.int j)) :: (x, d) :: S) F σ H) (hx : IsL O d as) (h0 : 0 ≤ j) (h1 : j ≤ 1000) (h2 : as.length ≤ 1000) (k : ∀ p F' H', FO E G O ((.ref p, .lst (List.replicate j.toNat as).flatten) :: S) F' σ H' → Q (.ref p) H') : rMulU x y H Q := by
  obtain ⟨a, ws, rfl, ha, r1⟩ := fo.lstOf fo.snd hx
  have hz : ws.length * j.toNat ≤ sizeLine := by
    rw [r1.length]
    have : j.toNat ≤ 1000 := by omega
    exact Nat.le_trans (Nat.mul_le_mul h2 this) (by decide)
  exact .inr ⟨a, j, ws, rfl, fo.top.raw_eq, ha, by omega, by omega, hz, fun p hp => k p _ _ (fo.pop.pop.newL hp (r1.rep _))⟩
def rModI : R2 := rI (fun _ j => 0 < j) fun i j => .int (i % j)
def rFdivI : R2 := rI CDiv fun i j => .int (i / j)
def rPowI : R2 := rI CPow fun i j => .int (i ^ j.toNat)
theorem p_mod {X : Cx} : OpR X (binaryOp .Mod) rModI := op_mod
theorem p_fdiv {X : Cx} : OpR X (binaryOp .FloorDiv) rFdivI := op_fdiv
theorem p_pow {X : Cx} : OpR X (binaryOp .Pow) rPowI := op_pow
theorem x_modI {i j : Int} (fo : FO E G O ((y, .raw (.int j)) :: (x, .raw (.int i)) :: S) F σ H) (hc : 0 < j) (k : FO E G O ((.int (i % j), .raw (.int (i % j))) :: S) F σ H → Q (.int (i % j)) H) : rModI x y H Q :=
  ⟨i, j, fo.snd.raw_eq, fo.top.raw_eq, hc, k (fo.pop.pop.push (.raw _))⟩
theorem x_fdivI {i j : Int} (fo : FO E G O ((y, .raw (.int j)) :: (x, .raw (.int i)) :: S) F σ H) (hc : 0 < j ∧ j < 1073741824) (k : FO E G O ((.int (i / j), .raw (.int (i / j))) :: S) F σ H → Q (.int (i / j)) H) : rFdivI x y H Q :=
  ⟨i, j, fo.snd.raw_eq, fo.top.raw_eq, hc, k (fo.pop.pop.push (.raw _))⟩
theorem x_powI {i j : Int} (fo : FO E G O ((y, .raw (.int j)) :: (x, .raw (.int i)) :: S) F σ H) (hc : CPow i j) (k : FO E G O ((.int (i ^ j.toNat), .raw (.int (i ^ j.toNat))) :: S) F σ H → Q (.int (i ^ j.toNat)) H) : rPowI x y H Q :=
  ⟨i, j, fo.snd.raw_eq, fo.top.raw_eq, hc, k (fo.pop.pop.push (.raw _))⟩
def rNegI : V → Hp → VK → Prop := rU fun i => .int (-i)
theorem p_neg {X : Cx} : UnR X (unaryOp .USub) rNegI := un_neg
theorem x_negI {i : Int} (fo : FO E G O ((x, .raw (.int i)) :: S) F σ H) (k : FO E G O ((.int (-i), .raw (.int (-i))) :: S) F σ H → Q (.int (-i)) H) : rNegI x H Q :=
  ⟨i, fo.top.raw_eq, k (fo.pop.push (.raw _))⟩
/-! ### comparisons -/
def rEqU (K : PySem.W.Frag) : R2 := fun x y H Q => rEqD K x y H Q ∨ rEq x y H Q
def rNeU (K : PySem.W.Frag) : R2 := fun x y H Q => rNeD K x y H Q ∨ rNe x y H Q
theorem p_eq {X : Cx} {k : Nat} (hr : Room k X.A) : OpR X (compareOp .Eq) (rEqU X.K) := (op_eqD hr.units).or op_eq
theorem p_ne {X : Cx} {k : Nat} (hr : Room k X.A) : OpR X (compareOp .NotEq) (rNeU X.K) := (op_neD hr.units).or op_ne
theorem shaped_int (i : Int) : SeqAt.shaped (.int i) = true := by rfl
theorem eqv_int (i j : Int) : PyData.eqv (.int i) (.int j) = decide (i = j) := by
  show (i == j) = _
  by_cases h : i = j
  · subst h; simp
  · simp [h]
theorem x_eqI {i j : Int} (fo : FO E G O ((y, .raw (.int j)) :: (x, .raw (.int i)) :: S) F σ H) (k : FO E G O ((.bl (decide (i = j)), .raw (.bl (decide (i = j)))) :: S) F σ H → Q (.bl (decide (i = j))) H) : rEqU E.K x y H Q := by
  refine .inl ⟨.int i, .int j, ?_, ?_, rfl, rfl, ?_⟩
  · rw [fo.snd.raw_eq]; exact .int i
  · rw [fo.top.raw_eq]; exact .int j
  · rw [eqv_int]; exact k (fo.pop.pop.push (.raw _))
theorem x_neI {i j : Int} (fo : FO E G O ((y, .raw (.int j)) :: (x, .raw (.int i)) :: S) F σ H) (k : FO E G O ((.bl (!decide (i = j)), .raw (.bl (!decide (i = j)))) :: S) F σ H → Q (.bl (!decide (i = j))) H) : rNeU E.K x y H Q := by
  refine .inl ⟨.int i, .int j, ?_, ?_, rfl, rfl, ?_⟩
  · rw [fo.snd.raw_eq]; exact .int i
  · rw [fo.top.raw_eq]; exact .int j
  · rw [eqv_int]; exact k (fo.pop.pop.push (.raw _))
theorem x_eqD {p q : PyData} (fo : FO E G O ((y, e) :: (x, d) :: S) F σ H) (hp : toPy d = some p) (hq : toPy e = some q) (sp : SeqAt.shaped p = true) (sq : SeqAt.shaped q = true)
    (k : FO E G O ((.bl (PyData.eqv p q), .raw (.bl (PyData.eqv p q))) :: S) F σ H → Q (.bl (PyData.eqv p q)) H) : rEqU E.K x y H Q :=
  .inl ⟨p, q, fo.snd.dp fo.sub hp, fo.top.dp fo.sub hq, sp, sq, k (fo.pop.pop.push (.raw _))⟩
theorem x_neD {p q : PyData} (fo : FO E G O ((y, e) :: (x, d) :: S) F σ H) (hp : toPy d = some p) (hq : toPy e = some q) (sp : SeqAt.shaped p = true) (sq : SeqAt.shaped q = true)
    (k : FO E G O ((.bl (!PyData.eqv p q), .raw (.bl (!PyData.eqv p q))) :: S) F σ H → Q (.bl (!PyData.eqv p q)) H) : rNeU E.K x y H Q :=
  .inl ⟨p, q, fo.snd.dp fo.sub hp, fo.top.dp fo.sub hq, sp, sq, k (fo.pop.pop.push (.raw _))⟩
theorem x_eqS {i j : Str} (fo : FO E G O ((y, .raw (.str j)) :: (x, .raw (.str i)) :: S) F σ H) (k : FO E G O ((.bl (decide (i = j)), .raw (.bl (decide (i = j)))) :: S) F σ H → Q (.bl (decide (i = j))) H) : rEqU E.K x y H Q := by
  have e1 := fo.top.raw_eq
  have e2 := fo.snd.raw_eq
  subst e1 e2
  have e : decide (V.str i = V.str j) = decide (i = j) := by simp
  refine .inr ⟨rfl, ?_⟩
  rw [e]; exact k (fo.pop.pop.push (.raw _))
theorem x_neS {i j : Str} (fo : FO E G O ((y, .raw (.str j)) :: (x, .raw (.str i)) :: S) F σ H) (k : FO E G O ((.bl (!decide (i = j)), .raw (.bl (!decide (i = j)))) :: S) F σ H → Q (.bl (!decide (i = j))) H) : rNeU E.K x y H Q := by
  have e1 := fo.top.raw_eq
  have e2 := fo.snd.raw_eq
  subst e1 e2
  have e : decide (V.str i = V.str j) = decide (i = j) := by simp
  refine .inr ⟨rfl, ?_⟩
  rw [e]; exact k (fo.pop.pop.push (.raw _))
/-- a list of the body's against [] -/
theorem eqv_nil (ps : List PyData) : PyData.eqv (.list ps) (.list []) = ps.isEmpty := by cases ps <;> simp [PyData.eqv, PyData.eqvAll]
def rLtI : R2 := rI0 fun i j => .bl (decide (i < j))
def rLeI : R2 := rI0 fun i j => .bl (decide (i ≤ j))
def rGtI : R2 := rI0 fun i j => .bl (decide (j < i))
def rGeI : R2 := rI0 fun i j => .bl (decide (j ≤ i))
theorem p_lt {X : Cx} : OpR X (compareOp .Lt) rLtI := op_lt
theorem p_le {X : Cx} : OpR X (compareOp .LtE) rLeI := op_le
theorem p_gt {X : Cx} : OpR X (compareOp .Gt) rGtI := op_gt
theorem p_ge {X : Cx} : OpR X (compareOp .GtE) rGeI := op_ge
theorem x_ltI {i j : Int} (fo : FO E G O ((y, .raw (.int j)) :: (x, .raw (.int i)) :: S) F σ H) (k : FO E G O ((.bl (decide (i < j)), .raw (.bl (decide (i < j)))) :: S) F σ H → Q (.bl (decide (i < j))) H) : rLtI x y H Q :=
  ⟨i, j, fo.snd.raw_eq, fo.top.raw_eq, k (fo.pop.pop.push (.raw _))⟩
theorem x_leI {i j : Int} (fo : FO E G O ((y, .raw (.int j)) :: (x, .raw (.int i)) :: S) F σ H) (k : FO E G O ((.bl (decide (i ≤ j)), .raw (.bl (decide (i ≤ j)))) :: S) F σ H → Q (.bl (decide (i ≤ j))) H) : rLeI x y H Q :=
  ⟨i, j, fo.snd.raw_eq, fo.top.raw_eq, k (fo.pop.pop.push (.raw _))⟩
theorem x_gtI {i j : Int} (fo : FO E G O ((y, .raw (.int j)) :: (x, .raw (.int i)) :: S) F σ H) (k : FO E G O ((.bl (decide (j < i)), .raw (.bl (decide (j < i)))) :: S) F σ H → Q (.bl (decide (j < i))) H) : rGtI x y H Q :=
  ⟨i, j, fo.snd.raw_eq, fo.top.raw_eq, k (fo.pop.pop.push (.raw _))⟩
theorem x_geI {i j : Int} (fo : FO E G O ((y, .raw (.int j)) :: (x, .raw (.int i)) :: S) F σ H) (k : FO E G O ((.bl (decide (j ≤ i)), .raw (.bl (decide (j ≤ i)))) :: S) F σ H → Q (.bl (decide (j ≤ i))) H) : rGeI x y H Q :=
  ⟨i, j, fo.snd.raw_eq, fo.top.raw_eq, k (fo.pop.pop.push (.raw _))⟩
/-- is None: what the datum says -/
def isNon : D → Bool
  | .raw .non => true
  | _ => false
theorem Rp.isNon {K : PySem.W.Frag} (r : Rp K F v d) : decide (v = .non) = DL.isNon d := by
  cases r with
  | raw v => cases v <;> simp [DL.isNon]
  | lst _ _ => simp [DL.isNon]
  | tup _ _ => simp [DL.isNon]
  | obj _ _ _ => simp [DL.isNon]
  | pin _ => simp [DL.isNon]
def rIsNn : R2 := fun x y H Q => y = .non ∧ Q (.bl (decide (x = .non))) H
def rNotNn : R2 := fun x y H Q => y = .non ∧ Q (.bl (!decide (x = .non))) H
theorem p_isN {X : Cx} : OpR X (compareOp .Is) rIsNn := op_isN
theorem p_notN {X : Cx} : OpR X (compareOp .IsNot) rNotNn := op_notN
theorem x_isN (fo : FO E G O ((y, .raw .non) :: (x, d) :: S) F σ H) (k : FO E G O ((.bl (isNon d), .raw (.bl (isNon d))) :: S) F σ H → Q (.bl (isNon d)) H) : rIsNn x y H Q :=
  ⟨fo.top.raw_eq, by rw [fo.snd.isNon]; exact k (fo.pop.pop.push (.raw _))⟩
theorem x_notN (fo : FO E G O ((y, .raw .non) :: (x, d) :: S) F σ H) (k : FO E G O ((.bl (!isNon d), .raw (.bl (!isNon d))) :: S) F σ H → Q (.bl (!isNon d)) H) : rNotNn x y H Q :=
  ⟨fo.top.raw_eq, by rw [fo.snd.isNon]; exact k (fo.pop.pop.push (.raw _))⟩
/-! ### items, slices -/
theorem RpL.atI {K : PySem.W.Frag} {i : Int} (r : RpL K F vs ds) (h : L2.atI ds i = some d) : ∃ v, L2.atI vs i = some v ∧ Rp K F v d := by
  unfold L2.atI at h ⊢
  rw [r.length]
  cases q : ixN ds.length i with
  | none => rw [q] at h; cases h
  | some j =>
    rw [q] at h
    obtain ⟨v, a, b⟩ := r.get (i := j) (d := d) h
    exact ⟨v, a, b⟩
theorem x_ixL {i : Int} (fo : FO E G O ((y, .raw (.int i)) :: (x, d) :: S) F σ H) (hx : IsL O d ds) (hi : L2.atI ds i = some e) (k : ∀ v, FO E G O ((v, e) :: S) F σ H → Q v H) : rIx E.K x y H Q := by
  obtain ⟨a, ws, rfl, h1, r1⟩ := fo.lstOf fo.snd hx
  obtain ⟨v, h2, r2⟩ := r1.atI hi
  exact .inl ⟨a, ws, i, v, rfl, fo.top.raw_eq, .inl (.inl h1), h2, k v (fo.pop.pop.push r2)⟩
theorem x_ixT {i : Int} (fo : FO E G O ((y, .raw (.int i)) :: (x, .tup ds) :: S) F σ H) (hi : L2.atI ds i = some e) (k : ∀ v, FO E G O ((v, e) :: S) F σ H → Q v H) : rIx E.K x y H Q := by
  obtain ⟨a, ws, rfl, h1, r1⟩ := fo.tupOf fo.snd
  obtain ⟨v, h2, r2⟩ := r1.atI hi
  exact .inr (.inl ⟨a, ws, i, v, rfl, fo.top.raw_eq, .inl (.inl h1), h2, k v (fo.pop.pop.push r2)⟩)
/-- a raw item of a raw list: the value itself -/
def cutD (xs : List D) (lo hi : Option Int) : List D := (xs.drop (HT.sIx xs.length 0 lo)).take (HT.sIx xs.length xs.length hi - HT.sIx xs.length 0 lo)
theorem RpL.cut {K : PySem.W.Frag} {lo hi : Option Int} (r : RpL K F vs ds) : RpL K F (cutV vs lo hi) (cutD ds lo hi) := by
  unfold cutV cutD
  rw [r.length]
  exact (r.drop _).take _
def rSlU (K : PySem.W.Frag) : V → Option Int → Option Int → Hp → VK → Prop := fun x lo hi H Q => rSlL K x lo hi H Q ∨ rSlA K x lo hi H Q
theorem p_sl {X : Cx} : SlR X (rSlU X.K) := by
  intro pins s σ H x v vl vu lo hi sl Q I rx hs pl pu h
  rcases h with h | h
  · exact sl_list pins s σ H x v vl vu lo hi sl Q I rx hs pl pu h
  · exact sl_tupA pins s σ H x v vl vu lo hi sl Q I rx hs pl pu h
theorem x_slT {lo hi : Option Int} (fo : FO E G O ((x, .tup ds) :: S) F σ H) (k : ∀ v F' H', FO E G O ((v, .tup (cutD ds lo hi)) :: S) F' σ H' → Q v H') : rSlU E.K x lo hi H Q := by
  obtain ⟨a, ws, rfl, h1, r1⟩ := fo.tupOf fo.top
  refine .inr ⟨a, ws, rfl, .inl (.inl h1), fun h => ?_, fun _ p hp => k _ _ _ (fo.pop.newT hp r1.cut)⟩
  refine k _ _ _ (fo.pop.push ?_)
  have e1 : HT.sIx ds.length 0 lo = 0 := by rw [← r1.length]; exact h.1
  have e2 : HT.sIx ds.length ds.length hi = ds.length := by rw [← r1.length]; exact h.2
  have : cutD ds lo hi = ds := by
    unfold cutD
    rw [e1, e2, List.drop_zero, Nat.sub_zero, List.take_length]
  rw [this]; exact fo.top
theorem x_slL {lo hi : Option Int} (fo : FO E G O ((x, d) :: S) F σ H) (hx : IsL O d ds) (k : ∀ p F' H', FO E G O ((.ref p, .lst (cutD ds lo hi)) :: S) F' σ H' → Q (.ref p) H') : rSlU E.K x lo hi H Q := by
  obtain ⟨a, ws, rfl, h1, r1⟩ := fo.lstOf fo.top hx
  exact .inl ⟨a, ws, rfl, .inl (.inl h1), fun p hp => k _ _ _ (fo.pop.newL hp r1.cut)⟩
variable {te : TE} {tl th : TO} {RO : Option Int → Hp → Prop}
theorem x_sl {r : V → Option Int → Option Int → Hp → VK → Prop} (h : te σ H fun x H1 => tl σ H1 fun l H2 => th σ H2 fun u H3 => r x l u H3 Q) : tSl r te tl th σ H Q := h
def kPart (R : Option Int → Hp → Prop) (x : V) (H : Hp) : Prop := ∃ i, x = .int i ∧ R (some i) H
theorem x_part (h : te σ H (kPart RO)) : tPart te σ H RO := h
theorem x_kPart {i : Int} (fo : FO E G O ((x, .raw (.int i)) :: S) F σ H) (k : FO E G O S F σ H → RO (some i) H) : kPart RO x H := ⟨i, fo.top.raw_eq, k fo.pop⟩
theorem x_nopart (k : RO none H) : tNoPart σ H RO := k
/-! ### built-ins by name -/
def cLen (K : PySem.W.Frag) : List V → Hp → VK → Prop := fun xs H Q => ∃ x n, xs = [x] ∧ LenV K x H n ∧ Q (.int n) H
theorem p_len {X : Cx} : CallR X (.builtin "len") (cLen X.K) := call_len
theorem x_lenL (fo : FO E G O ((x, d) :: S) F σ H) (hx : IsL O d ds) (k : FO E G O ((.int (ds.length : Int), .raw (.int (ds.length : Int))) :: S) F σ H → Q (.int (ds.length : Int)) H) : cLen E.K [x] H Q := by
  obtain ⟨a, ws, rfl, h1, r1⟩ := fo.lstOf fo.top hx
  exact ⟨_, ds.length, rfl, .inl ⟨ws, .inl (.inl h1), r1.length.symm⟩, k (fo.pop.push (.raw _))⟩
theorem x_lenT (fo : FO E G O ((x, .tup ds) :: S) F σ H) (k : FO E G O ((.int (ds.length : Int), .raw (.int (ds.length : Int))) :: S) F σ H → Q (.int (ds.length : Int)) H) : cLen E.K [x] H Q := by
  obtain ⟨a, ws, rfl, h1, r1⟩ := fo.tupOf fo.top
  exact ⟨_, ds.length, rfl, .inr ⟨ws, .inl (.inl h1), r1.length.symm⟩, k (fo.pop.push (.raw _))⟩
def cMax2 : List V → Hp → VK → Prop := fun xs H Q => ∃ i j, xs = [.int i, .int j] ∧ Q (.int (if j > i then j else i)) H
def cMin2 : List V → Hp → VK → Prop := fun xs H Q => ∃ i j, xs = [.int i, .int j] ∧ Q (.int (if j < i then j else i)) H
theorem p_max2 {X : Cx} (hc : X.calm = true) : CallR X (.builtin "max") cMax2 := call_max2 hc
theorem p_min2 {X : Cx} (hc : X.calm = true) : CallR X (.builtin "min") cMin2 := call_min2 hc
theorem imax_eq (i j : Int) : (if j > i then j else i) = max i j := by rw [Int.max_def]; split <;> split <;> omega
theorem imin_eq (i j : Int) : (if j < i then j else i) = min i j := by rw [Int.min_def]; split <;> split <;> omega
theorem x_max2 {i j : Int} (fo : FO E G O ((y, .raw (.int j)) :: (x, .raw (.int i)) :: S) F σ H) (k : FO E G O ((.int (max i j), .raw (.int (max i j))) :: S) F σ H → Q (.int (max i j)) H) : cMax2 [x, y] H Q :=
  ⟨i, j, by rw [fo.snd.raw_eq, fo.top.raw_eq], by rw [imax_eq]; exact k (fo.pop.pop.push (.raw _))⟩
theorem x_min2 {i j : Int} (fo : FO E G O ((y, .raw (.int j)) :: (x, .raw (.int i)) :: S) F σ H) (k : FO E G O ((.int (min i j), .raw (.int (min i j))) :: S) F σ H → Q (.int (min i j)) H) : cMin2 [x, y] H Q :=
  ⟨i, j, by rw [fo.snd.raw_eq, fo.top.raw_eq], by rw [imin_eq]; exact k (fo.pop.pop.push (.raw _))⟩
def cInt1 : List V → Hp → VK → Prop := fun xs H Q => (∃ i, xs = [.int i] ∧ Q (.int i) H) ∨ ∃ k, xs = [.bl k] ∧ Q (.int (if k then 1 else 0)) H
theorem p_int1 {X : Cx} : CallR X (.type "int") cInt1 := call_int1
theorem x_intB {b : Bool} (fo : FO E G O ((x, .raw (.bl b)) :: S) F σ H) (k : FO E G O ((.int (if b then 1 else 0), .raw (.int (if b then 1 else 0))) :: S) F σ H → Q (.int (if b then 1 else 0)) H) : cInt1 [x] H Q :=
  .inr ⟨b, by rw [fo.top.raw_eq], k (fo.pop.push (.raw _))⟩
theorem x_intI {i : Int} (fo : FO E G O ((x, .raw (.int i)) :: S) F σ H) (k : FO E G O ((.int i, .raw (.int i)) :: S) F σ H → Q (.int i) H) : cInt1 [x] H Q :=
  .inl ⟨i, by rw [fo.top.raw_eq], k (fo.pop.push (.raw _))⟩
end
end DL

set_option maxHeartbeats 4000000
namespace DL
open PySem L2
/-! ### what is walked: a list or a tuple, seen when it has come -/
def iSeqU (K : PySem.W.Frag) (tl : TE) : TI := fun σ H R => tl σ H fun x H1 => ∃ a, x = .ref a ∧ (((∃ xs, SqL K H1 a xs) ∧ R (Itl K a) H1) ∨ ((∃ xs, SqT K H1 a xs) ∧ R (Itt K a) H1))
section
variable {X : Cx} {tg l : Expr} {tl : TE}
theorem newIt {pins : List (Addr × Obj)} {σ : L2.St} {H : Hp} {s : Shared} {o : Obj} (I : Inv X pins σ H s) : Inv X pins σ H { s with heap := s.heap.push o } ∧ ∀ b ∈ [s.heap.objs.size], FpOk X pins H b := by
  constructor
  · exact I.kept (t' := s.toks) fun b o e => Heap.get?_push_of_some _ e
  · intro b hb
    rw [List.mem_singleton] at hb
    rw [hb]
    exact I.fpOk (Nat.le_refl _) (I.hok.fresh (Nat.le_refl _))
theorem p_seq (hl : PE X l tl) : PI X tg l (iSeqU X.K tl) := by
  constructor
  intro pins s σ H R I h
  refine thn (hl.run pins s σ H _ I h) ?_
  rintro v s1 ⟨x, H1, I1, r1, a, rfl, q⟩
  cases r1
  rcases q with ⟨⟨xs, hq⟩, q⟩ | ⟨⟨xs, hq⟩, q⟩
  · obtain ⟨its, rv, p, hz⟩ := I1.list hq
    have n := fun o => newIt (o := o) I1
    exact wpAny_pyIter_list p.isList ⟨_, _, _, _, H1, rfl, (n _).1, turn_list a _, ⟨_, Heap.get?_push_size _ rfl, rfl, rfl⟩, (n { cls := .none, data := .plain }).2, q⟩
  · obtain ⟨its, rv, p, hz⟩ := I1.tuple hq
    have n := fun o => newIt (o := o) I1
    exact wpAny_pyIter_tuple (show s1.heap.IsTuple a its.toArray from p) ⟨_, _, _, _, H1, rfl, (n _).1, turn_tuple a _, ⟨_, Heap.get?_push_size _ rfl, rfl, rfl⟩, (n { cls := .none, data := .plain }).2, q⟩
end

/-- n turns whose items have the data it i, as long as the sources Sx stand -/
structure DW (K : PySem.W.Frag) (J : It) (n : Nat) (it : Nat → D) (Sx : List (V × D)) : Prop where
  goes : ∀ i F H, i < n → (∀ p ∈ Sx, Rp K F p.1 p.2) → Sub F H → J.go i H
  stops : ∀ F H, (∀ p ∈ Sx, Rp K F p.1 p.2) → Sub F H → J.stop n H
  yields : ∀ i F H x H', i < n → (∀ p ∈ Sx, Rp K F p.1 p.2) → Sub F H → J.yld i H x H' → (H' = H ∧ Rp K F x (it i)) ∨ ∃ T o, H T = none ∧ H' = upd H T o ∧ Rp K (upd F T o) x (it i)
def itOf (ds : List D) (i : Nat) : D := ds[i]?.getD .non
theorem itOf_some {ds : List D} {i : Nat} {d : D} (h : ds[i]? = some d) : itOf ds i = d := by unfold itOf; rw [h]; rfl
section
variable {K : PySem.W.Frag} {a : Addr} {ds : List D}
theorem dw_list {xs : List V} {H0 : Hp} : DW K (Itl K a) ds.length (itOf ds) [(.ref a, .lst ds)] := by
  have src : ∀ F H, (∀ p ∈ [((.ref a : V), D.lst ds)], Rp K F p.1 p.2) → Sub F H → ∃ ws, SqL K H a ws ∧ RpL K F ws ds := fun F H h s => by
    obtain ⟨b, ws, e, h1, r⟩ := (h _ List.mem_cons_self).lst_at
    cases e
    exact ⟨ws, .inl (.inl (s _ _ h1)), r⟩
  refine ⟨fun i F H hi h s => ?_, fun F H h s => ?_, fun i F H x H' hi h s y => ?_⟩
  · obtain ⟨ws, q, r⟩ := src F H h s
    obtain ⟨v, hv, _⟩ := r.get (i := i) (List.getElem?_eq_getElem hi)
    exact ⟨ws, v, q, hv⟩
  · obtain ⟨ws, q, r⟩ := src F H h s
    exact ⟨ws, q, by rw [r.length]; exact Nat.le_refl _⟩
  · obtain ⟨ws, q, r⟩ := src F H h s
    obtain ⟨d, hd, rd⟩ := r.getV (y.2 ws q)
    exact .inl ⟨y.1, by rw [itOf_some hd]; exact rd⟩
theorem dw_tup {H0 : Hp} : DW K (Itt K a) ds.length (itOf ds) [(.ref a, .tup ds)] := by
  have src : ∀ F H, (∀ p ∈ [((.ref a : V), D.tup ds)], Rp K F p.1 p.2) → Sub F H → ∃ ws, SqT K H a ws ∧ RpL K F ws ds := fun F H h s => by
    obtain ⟨b, ws, e, h1, r⟩ := (h _ List.mem_cons_self).tup_at
    cases e
    exact ⟨ws, .inl (.inl (s _ _ h1)), r⟩
  refine ⟨fun i F H hi h s => ?_, fun F H h s => ?_, fun i F H x H' hi h s y => ?_⟩
  · obtain ⟨ws, q, r⟩ := src F H h s
    obtain ⟨v, hv, _⟩ := r.get (i := i) (List.getElem?_eq_getElem hi)
    exact ⟨ws, v, q, hv⟩
  · obtain ⟨ws, q, r⟩ := src F H h s
    exact ⟨ws, q, by rw [r.length]; exact Nat.le_refl _⟩
  · obtain ⟨ws, q, r⟩ := src F H h s
    obtain ⟨d, hd, rd⟩ := r.getV (y.2 ws q)
    exact .inl ⟨y.1, by rw [itOf_some hd]; exact rd⟩
theorem dw_rng {lo : Int} {n : Nat} : DW K (Itr lo n) n (fun i => .int (lo + i)) [] :=
  ⟨fun _ _ _ hi _ _ => hi, fun _ _ _ _ => Nat.le_refl _, fun i F H x H' _ _ _ y => .inl ⟨y.1, by rw [y.2]; exact .raw _⟩⟩
end

/-- between two turns -/
def LI (E : Eb) (S : List (V × D)) (Iv : Nat → List (Option D) → List (Addr × List D) → Prop) (i : Nat) : L2.St → Hp → Prop := fun σ H => ∃ G O F, Iv i G O ∧ FO E G O S F σ H
/-- what a for asks of its iterator -/
def kFor (g : TG) (tb : TS) (D : Ends) (σ : L2.St) (J : It) (H1 : Hp) : Prop := ∃ W : Nat → Nat → L2.St → Hp → Prop, (∃ m, W 0 m σ H1) ∧ ∀ i m σ H, W i m σ H →
  (J.stop i H ∧ D.nx σ H) ∨ (J.go i H ∧ ∃ N : L2.St → Hp → Prop, (∀ σ' H', N σ' H' → ∃ m', m' < m ∧ W (i + 1) m' σ' H') ∧ ∀ x H', J.yld i H x H' → g x σ H' fun σ2 H2 => tb { D with nx := N, ct := N, bk := D.nx } σ2 H2)
section
variable {E : Eb} {G : List (Option D)} {O : List (Addr × List D)} {S S0 Sx : List (V × D)} {F F' H H' : Hp} {σ : L2.St} {v x y : V} {d e : D} {Q : VK} {vs : List V} {ds as bs : List D} {g : TG} {tb : TS} {B : Ends} {wi : TI} {tl : TE} {tas : TA}
theorem x_forS (h : wi σ H (kFor g tb B σ)) : tFor wi g tb B σ H := h
theorem FO.yield {J : It} {n i : Nat} {it : Nat → D} (dw : DW E.K J n it Sx) (fo : FO E G O S F σ H) (hS : ∀ p ∈ Sx, p ∈ S) (hi : i < n) (y : J.yld i H x H') : ∃ F', FO E G O ((x, it i) :: S) F' σ H' := by
  rcases dw.yields i F H x H' hi (fun p hp => fo.stk p (hS p hp)) fo.sub y with ⟨rfl, r⟩ | ⟨T, o, hT, rfl, r⟩
  · exact ⟨F, fo.push r⟩
  · exact ⟨_, (fo.alloc hT).push r⟩
/-- a for loop, by what holds between its turns -/
theorem x_for {J : It} {n : Nat} {it : Nat → D} (Iv : Nat → List (Option D) → List (Addr × List D) → Prop) (dw : DW E.K J n it Sx) (fo : FO E G O S F σ H) (hS : ∀ p ∈ Sx, p ∈ S) (h0 : Iv 0 G O)
    (hs : ∀ i G' O' F' σ' H' v, i < n → Iv i G' O' → FO E G' O' ((v, it i) :: S) F' σ' H' → g v σ' H' fun σ2 H2 => tb { B with nx := LI E S Iv (i + 1), ct := LI E S Iv (i + 1), bk := B.nx } σ2 H2)
    (hd : ∀ G' O' F' σ' H', Iv n G' O' → FO E G' O' S F' σ' H' → B.nx σ' H') : kFor g tb B σ J H := by
  refine ⟨fun i m σ H => m = n - i ∧ i ≤ n ∧ LI E S Iv i σ H, ⟨n, by simp, Nat.zero_le _, G, O, F, h0, fo⟩, ?_⟩
  rintro i m σ' H' ⟨rfl, hi, G', O', F', iv, fo'⟩
  have src : ∀ p ∈ Sx, Rp E.K F' p.1 p.2 := fun p hp => fo'.stk p (hS p hp)
  by_cases hlt : i < n
  · refine .inr ⟨dw.goes i F' H' hlt src fo'.sub, LI E S Iv (i + 1), fun σ2 H2 p2 => ⟨n - (i + 1), by omega, rfl, hlt, p2⟩, fun x H2 y => ?_⟩
    obtain ⟨F2, f2⟩ := fo'.yield dw hS hlt y
    exact hs i G' O' F2 σ' H2 x hlt iv f2
  · have e : i = n := by omega
    subst e
    exact .inl ⟨dw.stops F' H' src fo'.sub, hd G' O' F' σ' H' iv fo'⟩
theorem x_li {Iv : Nat → List (Option D) → List (Addr × List D) → Prop} {i : Nat} (fo : FO E G O S F σ H) (h : Iv i G O) : LI E S Iv i σ H := ⟨G, O, F, h, fo⟩
/-- with what is left at hand -/
theorem x_liS {Iv : Nat → List (Option D) → List (Addr × List D) → Prop} {i : Nat} {S' : List (V × D)} (fo : FO E G O S' F σ H) (hS : ∀ p ∈ S, p ∈ S') (h : Iv i G O) : LI E S Iv i σ H := ⟨G, O, F, h, fo.weakS hS⟩
/-! the iterators -/
def kSeq (K : PySem.W.Frag) (R : It → Hp → Prop) (x : V) (H : Hp) : Prop := ∃ a, x = .ref a ∧ (((∃ xs, SqL K H a xs) ∧ R (Itl K a) H) ∨ ((∃ xs, SqT K H a xs) ∧ R (Itt K a) H))
theorem x_seqI {R : It → Hp → Prop} {K : PySem.W.Frag} (h : tl σ H (kSeq K R)) : iSeqU K tl σ H R := h
theorem x_seqL {R : It → Hp → Prop} (fo : FO E G O ((x, .lst ds) :: S) F σ H) (k : ∀ J, DW E.K J ds.length (itOf ds) [(x, .lst ds)] → R J H) : kSeq E.K R x H := by
  obtain ⟨a, ws, rfl, h, r⟩ := fo.top.lst_at
  exact ⟨a, rfl, .inl ⟨⟨ws, .inl (.inl (fo.sub _ _ h))⟩, k _ (dw_list (xs := ws) (H0 := H))⟩⟩
theorem x_seqT {R : It → Hp → Prop} (fo : FO E G O ((x, .tup ds) :: S) F σ H) (k : ∀ J, DW E.K J ds.length (itOf ds) [(x, .tup ds)] → R J H) : kSeq E.K R x H := by
  obtain ⟨a, ws, rfl, h, r⟩ := fo.top.tup_at
  exact ⟨a, rfl, .inr ⟨⟨ws, .inl (.inl (fo.sub _ _ h))⟩, k _ (dw_tup (H0 := H))⟩⟩
def kRng1 (R : It → Hp → Prop) (vs : List V) (H : Hp) : Prop := ∃ j : Int, vs = [.int j] ∧ -(2 ^ 62) ≤ j ∧ j < 2 ^ 62 ∧ R (Itr 0 j.toNat) H
def kRng2 (R : It → Hp → Prop) (vs : List V) (H : Hp) : Prop := ∃ i j : Int, vs = [.int i, .int j] ∧ (-(2 ^ 62) ≤ i ∧ i < 2 ^ 62 ∧ -(2 ^ 62) ≤ j ∧ j < 2 ^ 62) ∧ R (Itr i (j - i).toNat) H
theorem x_rng1 {R : It → Hp → Prop} (h : tas σ H (kRng1 R)) : iRng1 tas σ H R := h
theorem x_rng2 {R : It → Hp → Prop} (h : tas σ H (kRng2 R)) : iRng2 tas σ H R := h
theorem x_kRng1 {R : It → Hp → Prop} {j : Int} (fo : FO E G O ((x, .raw (.int j)) :: S) F σ H) (h1 : -1000000 ≤ j) (h2 : j ≤ 1000000) (k : ∀ J, DW E.K J j.toNat (fun i => .int i) [] → FO E G O S F σ H → R J H) : kRng1 R [x] H := by
  refine ⟨j, by rw [fo.top.raw_eq], by omega, by omega, k _ ?_ fo.pop⟩
  have := dw_rng (K := E.K) (lo := 0) (n := j.toNat)
  simpa using this
theorem x_kRng2 {R : It → Hp → Prop} {i j : Int} (fo : FO E G O ((y, .raw (.int j)) :: (x, .raw (.int i)) :: S) F σ H) (h1 : -1000000 ≤ i ∧ i ≤ 1000000) (h2 : -1000000 ≤ j ∧ j ≤ 1000000) (k : ∀ J, DW E.K J (j - i).toNat (fun m => .int (i + m)) [] → FO E G O S F σ H → R J H) : kRng2 R [x, y] H :=
  ⟨i, j, by rw [fo.snd.raw_eq, fo.top.raw_eq], ⟨by omega, by omega, by omega, by omega⟩, k _ dw_rng fo.pop.pop⟩
/-! ### while -/
theorem x_while {c : TT} (Iv : Nat → List (Option D) → List (Addr × List D) → Prop) (m : Nat) (fo : FO E G O S F σ H) (h0 : Iv m G O)
    (hs : ∀ m G' O' F' σ' H', Iv m G' O' → FO E G' O' S F' σ' H' → c σ' H' fun b H1 => if b = true then tb { B with nx := fun σ2 H2 => ∃ m2, m2 < m ∧ LI E S Iv m2 σ2 H2, ct := fun σ2 H2 => ∃ m2, m2 < m ∧ LI E S Iv m2 σ2 H2, bk := B.nx } σ' H1 else B.nx σ' H1)
    (mono : ∀ σ H Q Q', (∀ b H1, Q b H1 → Q' b H1) → c σ H Q → c σ H Q') : tWhile c tb B σ H := by
  refine ⟨fun m σ H => LI E S Iv m σ H, ⟨m, G, O, F, h0, fo⟩, ?_⟩
  rintro m σ' H' ⟨G', O', F', iv, fo'⟩
  refine mono σ' H' _ _ (fun b H1 q => ?_) (hs m G' O' F' σ' H' iv fo')
  cases b with
  | true => exact ⟨_, fun _ _ z => z, q⟩
  | false => exact q
/-! ### comprehensions: the new list is the body's while it grows -/
def kLc (g : TG) (tt : TT) (te : TE) (ws : List Nat) (σ : L2.St) (Q : VK) (J : It) (H1 : Hp) : Prop := ∀ D, H1 D = none → ∃ W : Nat → Nat → Hp → Prop, (∃ m, W 0 m (upd H1 D (.lst []))) ∧ ∀ i m H, W i m H →
  (J.stop i H ∧ Q (.ref D) H) ∨ (J.go i H ∧ ∃ Nx : Hp → Prop, (∀ H', Nx H' → ∃ m', m' < m ∧ W (i + 1) m' H') ∧ ∀ x H', J.yld i H x H' → g x (wipe σ ws) H' fun σ2 H2 => wipe σ2 ws = wipe σ ws ∧ tt σ2 H2 fun b H3 =>
    if b = true then te σ2 H3 fun y H4 => ∃ acc, H4 D = some (.lst acc) ∧ acc.length < sizeLine ∧ Nx (upd H4 D (.lst (acc ++ [y]))) else Nx H3)
variable {tt : TT} {te : TE} {ws : List Nat}
theorem x_lc (h : wi σ H (kLc g tt te ws σ Q)) : tLc wi g tt te ws σ H Q := h
def tLcO (wi : TI) (g : TG) (tt : TT) (te : TE) (ws : List Nat) : TE := tLc wi g tt te ws
def kLcO (g : TG) (tt : TT) (te : TE) (ws : List Nat) (σ : L2.St) (Q : VK) (J : It) (H1 : Hp) : Prop := kLc g tt te ws σ Q J H1
theorem x_lcO (h : wi σ H (kLcO g tt te ws σ Q)) : tLcO wi g tt te ws σ H Q := h
/-- the slots of the block's own names forgotten, as data -/
def wipeG (G : List (Option D)) : List Nat → List (Option D)
  | [] => G
  | i :: r => (wipeG G r).set i none
theorem wipeG_length (G : List (Option D)) : ∀ ws : List Nat, (wipeG G ws).length = G.length
  | [] => rfl
  | i :: r => by unfold wipeG; rw [List.length_set, wipeG_length G r]
theorem wipe_slot {G : List (Option D)} {σ : L2.St} {P : V → D → Prop} (hl : σ.length = G.length) (h : ∀ (i : Nat) (d : D), G[i]? = some (some d) → ∃ v, σ[i]? = some (some v) ∧ P v d) : ∀ ws : List Nat, ∀ (i : Nat) (d : D), (wipeG G ws)[i]? = some (some d) → ∃ v, (wipe σ ws)[i]? = some (some v) ∧ P v d
  | [] => h
  | j :: r => fun i d q => by
    unfold wipeG at q
    unfold wipe
    by_cases z : i = j
    · subst z
      have hj : i < (wipeG G r).length := by
        obtain ⟨k, _⟩ := List.getElem?_eq_some_iff.mp q
        rwa [List.length_set] at k
      rw [List.getElem?_set_self hj] at q
      cases q
    · rw [List.getElem?_set_ne (fun k => z k.symm)] at q ⊢
      exact wipe_slot hl h r i d q
theorem FO.wiped (fo : FO E G O S F σ H) (ws : List Nat) : FO E (wipeG G ws) O S F (wipe σ ws) H :=
  ⟨fo.st, fo.bx, by rw [wipe_length, wipeG_length]; exact fo.len, wipe_slot fo.len fo.slot ws, fo.stk, fo.own, fo.nd⟩
theorem wipe_keep {σ : L2.St} {G : List (Option D)} : ∀ (ws : List Nat) (i : Nat) (d : D), (wipeG G ws)[i]? = some (some d) → (wipe σ ws)[i]? = σ[i]?
  | [], _, _, _ => rfl
  | j :: r, i, d, q => by
    unfold wipeG at q
    unfold wipe
    by_cases z : i = j
    · subst z
      have hj : i < (wipeG G r).length := by
        obtain ⟨k, _⟩ := List.getElem?_eq_some_iff.mp q
        rwa [List.length_set] at k
      rw [List.getElem?_set_self hj] at q
      cases q
    · rw [List.getElem?_set_ne (fun k => z k.symm)] at q ⊢
      exact wipe_keep r i d q
theorem FO.unwipe (fo : FO E (wipeG G ws) O S F (wipe σ ws) H) : FO E (wipeG G ws) O S F σ H :=
  ⟨fo.st, fo.bx, by rw [← fo.len, wipe_length], fun i d q => by
    obtain ⟨v, a, r⟩ := fo.slot i d q
    exact ⟨v, by rw [← wipe_keep ws i d q]; exact a, r⟩, fo.stk, fo.own, fo.nd⟩
/-- the end of a turn that keeps its item -/
def kEnd (p : Addr) (Nx : Hp → Prop) (y : V) (H4 : Hp) : Prop := ∃ acc, H4 p = some (.lst acc) ∧ acc.length < sizeLine ∧ Nx (upd H4 p (.lst (acc ++ [y])))
/-- between two turns of a comprehension -/
def LC (E : Eb) (G : List (Option D)) (O : List (Addr × List D)) (S : List (V × D)) (σ : L2.St) (p : Addr) (Iv : Nat → List D → Prop) (i : Nat) (H : Hp) : Prop := ∃ F acc, Iv i acc ∧ acc.length ≤ i ∧ FO E G ((p, acc) :: O) S F σ H
theorem x_lcGo {J : It} {n : Nat} {it : Nat → D} (Iv : Nat → List D → Prop) (dw : DW E.K J n it Sx) (fo : FO E G O S F σ H) (hS : ∀ p ∈ Sx, p ∈ S) (hn : n ≤ 100000) (h0 : Iv 0 [])
    (hs : ∀ p i acc F' H' v τ, τ = wipe σ ws → i < n → Iv i acc → acc.length ≤ i → FO E (wipeG G ws) ((p, acc) :: O) ((v, it i) :: S) F' τ H' → g v τ H' fun σ2 H2 => wipe σ2 ws = τ ∧ tt σ2 H2 fun b H3 =>
      if b = true then te σ2 H3 (kEnd p (LC E (wipeG G ws) O S τ p Iv (i + 1))) else LC E (wipeG G ws) O S τ p Iv (i + 1) H3)
    (hd : ∀ p acc F' H', Iv n acc → acc.length ≤ n → FO E (wipeG G ws) ((p, acc) :: O) S F' σ H' → Q (.ref p) H') : kLc g tt te ws σ Q J H := by
  intro p hp
  have f0 : FO E (wipeG G ws) ((p, []) :: O) S F (wipe σ ws) (upd H p (.lst [])) := (fo.allocO hp .nil).wiped ws
  refine ⟨fun i m H => m = n - i ∧ i ≤ n ∧ LC E (wipeG G ws) O S (wipe σ ws) p Iv i H, ⟨n, by simp, Nat.zero_le _, F, [], h0, Nat.le_refl _, f0⟩, ?_⟩
  rintro i m H' ⟨rfl, hi, F', acc, iv, hl, fo'⟩
  have src : ∀ q ∈ Sx, Rp E.K F' q.1 q.2 := fun q hq => fo'.stk q (hS q hq)
  by_cases hlt : i < n
  · refine .inr ⟨dw.goes i F' H' hlt src fo'.sub, LC E (wipeG G ws) O S (wipe σ ws) p Iv (i + 1), fun H2 p2 => ⟨n - (i + 1), by omega, rfl, hlt, p2⟩, fun x H2 y => ?_⟩
    obtain ⟨F2, f2⟩ := fo'.yield dw hS hlt y
    exact hs p i acc F2 H2 x _ rfl hlt iv hl f2
  · have e : i = n := by omega
    subst e
    exact .inl ⟨dw.stops F' H' src fo'.sub, hd p acc F' H' iv hl fo'.unwipe⟩
theorem x_gnameK {i : Nat} {Z : L2.St → Hp → Prop} (fo : FO E G O ((x, d) :: S) F σ H) (k : FO E (G.set i (some d)) O S F (σ.set i (some x)) H → Z (σ.set i (some x)) H) : gName i x σ H Z := k fo.set
theorem wipe_set {σ : L2.St} {u : Option V} : ∀ {ws : List Nat} {j : Nat}, j ∈ ws → wipe (σ.set j u) ws = wipe σ ws
  | k :: r, j, h => by
    unfold wipe
    by_cases hr : j ∈ r
    · rw [wipe_set hr]
    · rcases List.mem_cons.mp h with z | z
      · subst z
        have e : ∀ (r : List Nat) (τ : L2.St), j ∉ r → wipe (τ.set j u) r = (wipe τ r).set j u := by
          intro r
          induction r with
          | nil => intro τ _; rfl
          | cons m r ih =>
            intro τ hm
            rw [List.mem_cons, not_or] at hm
            unfold wipe
            rw [ih τ hm.2, List.set_comm _ _ (fun q => hm.1 q)]
        rw [e r σ hr, List.set_set]
      · exact absurd z hr
theorem wipe_twice (σ : L2.St) (ws : List Nat) : wipe (wipe σ ws) ws = wipe σ ws := by
  have gen : ∀ (r : List Nat) (τ : L2.St), (∀ j ∈ r, j ∈ ws) → wipe (wipe τ r) ws = wipe τ ws := by
    intro r
    induction r with
    | nil => intro τ _; rfl
    | cons m r ih =>
      intro τ h
      show wipe ((wipe τ r).set m none) ws = _
      rw [wipe_set (h m List.mem_cons_self)]
      exact ih τ fun j hj => h j (List.mem_cons_of_mem _ hj)
  exact gen ws σ fun _ h => h
/-- a turn's end -/
theorem x_kEnd {p : Addr} {acc : List D} {i : Nat} {Iv : Nat → List D → Prop} {σ2 τ : L2.St} {G2 : List (Option D)} (fo : FO E G2 ((p, acc) :: O) ((y, d) :: S) F σ2 H) (hl : acc.length ≤ i) (hi : i < 100000) (e1 : wipe σ2 ws = τ) (e2 : wipeG G2 ws = G) (h : Iv (i + 1) (acc ++ [d])) : kEnd p (LC E G O S τ p Iv (i + 1)) y H := by
  obtain ⟨us, h1, r1, _⟩ := fo.own _ List.mem_cons_self
  subst e1 e2
  refine ⟨us, h1, ?_, F, acc ++ [d], h, by simp; omega, (fo.pop.mut (r1.append (.cons fo.top .nil))).wiped ws⟩
  rw [r1.length]
  exact Nat.lt_of_le_of_lt hl (Nat.lt_trans hi (by decide))
/-- a turn that drops its item -/
theorem x_kSkip {p : Addr} {acc : List D} {i : Nat} {Iv : Nat → List D → Prop} {σ2 τ : L2.St} {G2 : List (Option D)} (fo : FO E G2 ((p, acc) :: O) S F σ2 H) (hl : acc.length ≤ i) (e1 : wipe σ2 ws = τ) (e2 : wipeG G2 ws = G) (h : Iv (i + 1) acc) : LC E G O S τ p Iv (i + 1) H := by
  subst e1 e2
  exact ⟨F, acc, h, Nat.le_succ_of_le hl, fo.wiped ws⟩
/-- a list just made by the body, known for ever from now on -/
theorem x_frozen {p : Addr} (fo : FO E G ((p, ds) :: O) S F σ H) (k : ∀ F', FO E G O ((.ref p, .lst ds) :: S) F' σ H → Q (.ref p) H) : Q (.ref p) H := by
  obtain ⟨F', f, _⟩ := fo.freeze
  exact k F' f
/-- a list that the body owns, known for ever from now on: its slot -/
theorem x_freezeSlot {p : Addr} {i : Nat} {A : Prop} (fo : FO E G ((p, ds) :: O) S F σ H) (h : G[i]? = some (some (.raw (.ref p)))) (k : ∀ F', FO E (G.set i (some (.lst ds))) O S F' σ H → A) : A := by
  obtain ⟨F', f, _⟩ := fo.freeze
  exact k F' (f.know h).pop
end
end DL

set_option maxHeartbeats 4000000
namespace DL.Zs
open PySem PySem.Builtin.SmallTypes
/-! zip(v1, v2, strict=True) over two iterators of any kind -/
section
variable {prog : Program} {w : World} {A : Around} {E : Value → Shared → Prop} {s : Shared} {it : Addr} {fp : List Addr} {n i : Nat} {P : Nat → Value → Prop} {St : Nat → Heap → Prop}
theorem orEnd_item {Q : Option Value → Shared → Prop} (D : Draws prog w A it fp n P St) (hi : i < n) (st : St i s.heap)
    (hQ : ∀ x h' tk, P i x → St (i + 1) h' → Heap.SameBut it s.heap h' → Q (some x) { s with heap := h', toks := tk }) : wpAny (model prog w) A (nextOrEnd (.ref it)) Q E s := by
  unfold nextOrEnd
  exact wpAny_bind (wpAny_attempt (D.item i s _ _ hi st fun x h' tk p st' sb => wpAny_pure (hQ x h' tk p st' sb)))
theorem orEnd_done {Q : Option Value → Shared → Prop} (D : Draws prog w A it fp n P St) (st : St n s.heap)
    (hQ : ∀ h', Heap.ExtBut it s.heap h' → Q none { s with heap := h' }) : wpAny (model prog w) A (nextOrEnd (.ref it)) Q E s := by
  unfold nextOrEnd
  refine wpAny_bind (wpAny_attempt (D.done s _ _ st ?_))
  rintro h' e ex ⟨o, ho, hc⟩
  exact wpAny_bind (wpAny_isInstance (T := "StopIteration") (b := true) ⟨o, ho, hc⟩ isSubtype_stop (wpAny_pure (hQ h' ex)))
end
/-- a strict zip at z -/
abbrev IsZ (h : Heap) (z TI TO : Addr) (f0 : Value) : Prop :=
  h.get? z = some { cls := .type "zip", dict := none, data := .fields #[f0, .bool false, .bool true, .ref TI, .ref TO], slots := #[] }
section
variable {prog : Program} {w : World} {A : Around} {E : Value → Shared → Prop} {s : Shared} {z TI TO i1 i2 : Addr} {fp1 fp2 : List Addr} {n1 n2 i : Nat} {P1 P2 : Nat → Value → Prop} {St1 St2 : Nat → Heap → Prop} {a1 a2 : Value}
theorem next_item {Q : Value → Shared → Prop} (S : ZipSep2 z TI TO i1 i2 fp1 fp2) (D1 : Draws prog w A i1 fp1 n1 P1 St1) (D2 : Draws prog w A i2 fp2 n2 P2 St2)
    (hz : IsZ s.heap z TI TO .none) (hTI : IsTupOf2 s.heap TI (.ref i1) (.ref i2)) (hTO : IsTupOf2 s.heap TO a1 a2) (st1 : St1 i s.heap) (st2 : St2 i s.heap) (l1 : i < n1) (l2 : i < n2)
    (hQ : ∀ x1 x2 h' tk, P1 i x1 → P2 i x2 → IsZ h' z TI TO (rawInt s.heap.objs.size) → IsTupOf2 h' TO x1 x2 → St1 (i + 1) h' → St2 (i + 1) h' → IsTupOf2 h' s.heap.objs.size x1 x2 →
      (∀ c o, c ≠ z → c ≠ TO → c ≠ i1 → c ≠ i2 → s.heap.get? c = some o → h'.get? c = some o) → Q (.ref s.heap.objs.size) { s with heap := h', toks := tk }) :
    wpAny (model prog w) A (Builtin.«zip.__next__» ⟨[.ref z], []⟩) (fun fin s' => ∃ v, fin = .done (.ret v) ∧ Q v s') E s := by
  obtain ⟨hp, g, d, tk0, os⟩ := s
  show wpAny _ _ (field (.ref z) 2 >>= _) _ _ _
  refine wpAny_bind (wpAny_field hz rfl (x := .bool true) rfl ?_)
  show wpAny _ _ (field (.ref z) 3 >>= _) _ _ _
  refine wpAny_bind (wpAny_field hz rfl (x := .ref TI) rfl (wpAny_bind (wpAny_seqItems hTI rfl ?_)))
  show wpAny _ _ (ownedTupleIsFree (.ref z) >>= _) _ _ _
  refine wpAny_bind ?_
  unfold ownedTupleIsFree
  refine wpAny_bind (wpAny_field hz rfl (x := .none) rfl (wpAny_pure ?_))
  simp only [if_true]
  refine wpAny_bind (wpAny_rule (wpAny_bind (wpAny_field hz rfl (x := .ref TO) rfl ?_)))
  refine wpAny_bind (wpAny_setField_rec hz (by simp) fun g0 z0 b0 => ?_)
  change IsZ g0 z TI TO .ellipsis at z0
  change Heap.SameBut z hp g0 at b0
  refine wpAny_bind ?_
  simp only [List.zipIdx_cons, List.zipIdx_nil, List.forIn_cons, List.forIn_nil]
  refine wpAny_bind (wpAny_bind (wpAny_onRaise ?_))
  show wpAny _ _ (nextOrEnd (.ref i1)) _ _ ⟨g0, g, d, tk0, os⟩
  refine orEnd_item D1 l1 (D1.over st1 b0 S.zf1) fun x1 p1 tk1 hx1 sn1 c1 => ?_
  change Heap.SameBut i1 g0 p1 at c1
  have u1 : IsTupOf2 p1 TO a1 a2 := c1.extBut _ _ S.Ti1 (b0.extBut _ _ S.TOz hTO)
  refine wpAny_bind (wpAny_seqItems (s := ⟨p1, g, d, tk1, os⟩) u1 rfl (wpAny_bind (updateSeq_IsTupOf2 (s := ⟨p1, g, d, tk1, os⟩) u1 fun g1 t1 b1 => ?_)))
  change IsTupOf2 g1 TO x1 a2 at t1
  change Heap.SameBut TO p1 g1 at b1
  refine wpAny_bind (wpAny_letGo (wpAny_pure (wpAny_bind (wpAny_bind (wpAny_onRaise ?_)))))
  show wpAny _ _ (nextOrEnd (.ref i2)) _ _ ⟨g1, g, d, tk1, os⟩
  refine orEnd_item D2 l2 (D2.over (D2.over (D2.over st2 b0 S.zf2) c1 S.sep1_2) b1 S.Tf2) fun x2 p2 tk2 hx2 sn2 c2 => ?_
  change Heap.SameBut i2 g1 p2 at c2
  have u2 : IsTupOf2 p2 TO x1 a2 := c2.extBut _ _ S.Ti2 t1
  refine wpAny_bind (wpAny_seqItems (s := ⟨p2, g, d, tk2, os⟩) u2 rfl (wpAny_bind (updateSeq_IsTupOf2 (s := ⟨p2, g, d, tk2, os⟩) u2 fun g2 t2 b2 => ?_)))
  change IsTupOf2 g2 TO x1 x2 at t2
  change Heap.SameBut TO p2 g2 at b2
  refine wpAny_bind (wpAny_letGo (wpAny_pure (wpAny_pure (wpAny_bind (wpAny_seqItems (s := ⟨g2, g, d, tk2, os⟩) t2 rfl (wpAny_bind (wpAny_newTuple ?_)))))))
  have sz : g2.objs.size = hp.objs.size := by rw [b2.1, c2.1, b1.1, c1.1, b0.1]
  have zz : IsZ g2 z TI TO .ellipsis := b2.extBut _ _ S.TOz.symm (c2.extBut _ _ S.zi2 (b1.extBut _ _ S.TOz.symm (c1.extBut _ _ S.zi1 z0)))
  have kk : ∀ c o, c ≠ z → c ≠ TO → c ≠ i1 → c ≠ i2 → hp.get? c = some o → g2.get? c = some o := fun c o q1 q2 q3 q4 e =>
    b2.extBut _ _ q2 (c2.extBut _ _ q4 (b1.extBut _ _ q2 (c1.extBut _ _ q3 (b0.extBut _ _ q1 e))))
  have j1 : St1 (i + 1) g2 := D1.over (D1.over (D1.over sn1 b1 S.Tf1) c2 S.sep2_1) b2 S.Tf1
  have j2 : St2 (i + 1) g2 := D2.over sn2 b2 S.Tf2
  have zlt : z < g2.objs.size := Heap.lt_size zz
  show wpAny _ _ (ownedTupleHandOut (.ref z) (.ref g2.objs.size) >>= _) _ _ ⟨g2.push { cls := .type "tuple", data := .seq #[x1, x2] }, g, d, tk2, os⟩
  refine wpAny_bind ?_
  unfold ownedTupleHandOut
  have z6 : IsZ (g2.push { cls := .type "tuple", data := .seq #[x1, x2] }) z TI TO .ellipsis := Heap.get?_push_of_some _ zz
  refine wpAny_bind (wpAny_setField_rec z6 (by simp) fun h7 z7 b7 => ?_)
  change IsZ h7 z TI TO (rawInt g2.objs.size) at z7
  refine wpAny_setField_rec z7 (by simp) fun h8 z8 b8 => ?_
  change IsZ h8 z TI TO (rawInt g2.objs.size) at z8
  change Heap.SameBut z (g2.push { cls := .type "tuple", data := .seq #[x1, x2] }) h7 at b7
  change Heap.SameBut z h7 h8 at b8
  have up : ∀ c o, c ≠ z → g2.get? c = some o → h8.get? c = some o := fun c o q e => b8.extBut _ _ q (b7.extBut _ _ q (Heap.get?_push_of_some _ e))
  have t8 : IsTupOf2 h8 g2.objs.size x1 x2 := b8.extBut _ _ (Nat.ne_of_gt zlt) (b7.extBut _ _ (Nat.ne_of_gt zlt) (Heap.get?_push_size _ rfl))
  refine wpAny_pure ⟨_, rfl, ?_⟩
  rw [sz] at z8 t8
  show Q (.ref g2.objs.size) ⟨h8, g, d, tk2, os⟩
  rw [sz]
  exact hQ x1 x2 h8 tk2 hx1 hx2 z8 (up _ _ S.TOz t2) (D1.frame _ _ _ j1 fun b hb o e => up b o (fun q => S.zf1 (q ▸ hb)) e) (D2.frame _ _ _ j2 fun b hb o e => up b o (fun q => S.zf2 (q ▸ hb)) e) t8 fun c o q1 q2 q3 q4 e => up c o q1 (kk c o q1 q2 q3 q4 e)
theorem next_end {Q : Fin → Shared → Prop} (hh : A.handled = none) (S : ZipSep2 z TI TO i1 i2 fp1 fp2) (D1 : Draws prog w A i1 fp1 i P1 St1) (D2 : Draws prog w A i2 fp2 i P2 St2)
    (hz : IsZ s.heap z TI TO .none) (hTI : IsTupOf2 s.heap TI (.ref i1) (.ref i2)) (hTO : IsTupOf2 s.heap TO a1 a2) (st1 : St1 i s.heap) (st2 : St2 i s.heap)
    (hE : ∀ h' e, (∀ c o, c ≠ z → c ≠ i1 → c ≠ i2 → s.heap.get? c = some o → h'.get? c = some o) → (∃ o, h'.get? e = some o ∧ o.cls = .type "StopIteration") → E (.ref e) { s with heap := h' }) :
    wpAny (model prog w) A (Builtin.«zip.__next__» ⟨[.ref z], []⟩) Q E s := by
  obtain ⟨hp, g, d, tk0, os⟩ := s
  show wpAny _ _ (field (.ref z) 2 >>= _) _ _ _
  refine wpAny_bind (wpAny_field hz rfl (x := .bool true) rfl ?_)
  show wpAny _ _ (field (.ref z) 3 >>= _) _ _ _
  refine wpAny_bind (wpAny_field hz rfl (x := .ref TI) rfl (wpAny_bind (wpAny_seqItems hTI rfl ?_)))
  show wpAny _ _ (ownedTupleIsFree (.ref z) >>= _) _ _ _
  refine wpAny_bind ?_
  unfold ownedTupleIsFree
  refine wpAny_bind (wpAny_field hz rfl (x := .none) rfl (wpAny_pure ?_))
  simp only [if_true]
  refine wpAny_bind (wpAny_rule (wpAny_bind (wpAny_field hz rfl (x := .ref TO) rfl ?_)))
  refine wpAny_bind (wpAny_setField_rec hz (by simp) fun g0 z0 b0 => ?_)
  change IsZ g0 z TI TO .ellipsis at z0
  change Heap.SameBut z hp g0 at b0
  refine wpAny_bind ?_
  simp only [List.zipIdx_cons, List.zipIdx_nil, List.forIn_cons, List.forIn_nil]
  refine wpAny_bind (wpAny_bind (wpAny_onRaise ?_))
  show wpAny _ _ (nextOrEnd (.ref i1)) _ _ ⟨g0, g, d, tk0, os⟩
  refine orEnd_done D1 (D1.over st1 b0 S.zf1) fun q c1 => ?_
  change Heap.ExtBut i1 g0 q at c1
  have zq : IsZ q z TI TO .ellipsis := c1 _ _ S.zi1 z0
  refine wpAny_bind (wpAny_setField_rec (s := ⟨q, g, d, tk0, os⟩) zq (by simp) fun q' z' b' => ?_)
  change Heap.SameBut z q q' at b'
  have s2 : St2 i q' := by
    refine D2.frame i g0 q' (D2.over st2 b0 S.zf2) fun b hb o e => b'.extBut _ _ (fun k => S.zf2 (k ▸ hb)) (c1 _ _ (fun k => S.sep1_2 (k ▸ hb)) e)
  refine wpAny_bind ?_
  wp_delta
  rw [if_neg (Nat.lt_irrefl 0)]
  refine wpAny_bind ?_
  show wpAny _ _ (forIn [(Value.ref i2, 1)] _ _) _ _ _
  simp only [List.forIn_cons, List.forIn_nil]
  refine wpAny_bind (wpAny_bind (orEnd_done D2 s2 fun q2 c2 => ?_))
  change Heap.ExtBut i2 q' q2 at c2
  refine wpAny_pure (wpAny_pure (wpAny_bind (wpAny_rule ?_)))
  show wpAny _ _ (newExc (.type "StopIteration") [] >>= _) _ _ _
  refine wpAny_bind ?_
  simp only [newExc, newTuple]
  refine wpAny_bind (wpAny_newObj_type (wpAny_bind (m := firstArgMember _ _) (wpAny_of_eq (a := Value.none) (by first | rfl | (simp only [firstArgMember]; rfl)) (wpAny_newObj_type ?_ (by size_fits)))) (by size_fits))
  simp only [raiseNew]
  refine wpAny_bind (wpAny_handled ?_)
  rw [hh]
  refine wpAny_bind (wpAny_pure (wpAny_throw ?_))
  refine hE _ _ (fun c o q1 q2 q3 e => ?_) ⟨_, Heap.get?_push_size _ rfl, rfl⟩
  exact Heap.get?_push_of_some _ (Heap.get?_push_of_some _ (c2 _ _ q3 (b'.extBut _ _ q1 (c1 _ _ q2 (b0.extBut _ _ q1 e)))))
theorem py_item {Q : Option Value → Shared → Prop} (S : ZipSep2 z TI TO i1 i2 fp1 fp2) (D1 : Draws prog w A.in1 i1 fp1 n1 P1 St1) (D2 : Draws prog w A.in1 i2 fp2 n2 P2 St2)
    (hz : IsZ s.heap z TI TO .none) (hTI : IsTupOf2 s.heap TI (.ref i1) (.ref i2)) (hTO : IsTupOf2 s.heap TO a1 a2) (st1 : St1 i s.heap) (st2 : St2 i s.heap) (l1 : i < n1) (l2 : i < n2)
    (hQ : ∀ x1 x2 h' tk, P1 i x1 → P2 i x2 → IsZ h' z TI TO (rawInt s.heap.objs.size) → IsTupOf2 h' TO x1 x2 → St1 (i + 1) h' → St2 (i + 1) h' → IsTupOf2 h' s.heap.objs.size x1 x2 →
      (∀ c o, c ≠ z → c ≠ TO → c ≠ i1 → c ≠ i2 → s.heap.get? c = some o → h'.get? c = some o) → Q (some (.ref s.heap.objs.size)) { s with heap := h', toks := tk }) : wpAny (model prog w) A (pyNext (.ref z)) Q E s := by
  have hT : s.TypeIs (.ref z) "zip" := ⟨_, hz, rfl⟩
  unfold pyNext
  refine wpAny_bind (wpAny_attempt (wpAny_callSpecial?_slot (name := Str.ofString "__next__") hT F.slot_zip_next (wpAny_call_entry F.slot_zip_next hT F.entry_zip_next ?_ (F.args_zip_next_1 _))))
  exact next_item S D1 D2 hz hTI hTO st1 st2 l1 l2 fun x1 x2 h' tk p1 p2 q1 q2 q3 q4 q5 q6 => wpAny_pure (hQ x1 x2 h' tk p1 p2 q1 q2 q3 q4 q5 q6)
theorem py_end {Q : Option Value → Shared → Prop} (hh : A.handled = none) (S : ZipSep2 z TI TO i1 i2 fp1 fp2) (D1 : Draws prog w A.in1 i1 fp1 i P1 St1) (D2 : Draws prog w A.in1 i2 fp2 i P2 St2)
    (hz : IsZ s.heap z TI TO .none) (hTI : IsTupOf2 s.heap TI (.ref i1) (.ref i2)) (hTO : IsTupOf2 s.heap TO a1 a2) (st1 : St1 i s.heap) (st2 : St2 i s.heap)
    (hQ : ∀ h', (∀ c o, c ≠ z → c ≠ i1 → c ≠ i2 → s.heap.get? c = some o → h'.get? c = some o) → Q none { s with heap := h' }) : wpAny (model prog w) A (pyNext (.ref z)) Q E s := by
  have hT : s.TypeIs (.ref z) "zip" := ⟨_, hz, rfl⟩
  unfold pyNext
  refine wpAny_bind (wpAny_attempt (wpAny_callSpecial?_slot (name := Str.ofString "__next__") hT F.slot_zip_next (wpAny_call_entry F.slot_zip_next hT F.entry_zip_next ?_ (F.args_zip_next_1 _))))
  refine next_end (A := A.in1) hh S D1 D2 hz hTI hTO st1 st2 ?_
  rintro h' e k ⟨o, ho, hc⟩
  exact wpAny_bind (wpAny_isInstance (T := "StopIteration") (b := true) ⟨o, ho, hc⟩ isSubtype_stop (wpAny_pure (hQ _ k)))
end
/-! the making -/
theorem tc_strict (a b c : Value) : checkTypeCall "zip" ⟨[a, b], [(Str.ofString "strict", c)]⟩ = pure () := by kernel_rfl
theorem nc_strict (a b c : Value) : checkBuiltinCall "zip.__new__" ⟨[.type "zip", a, b], [(Str.ofString "strict", c)]⟩ = pure () := by kernel_rfl
theorem ia_strict (o a b c : Value) : argsOk "object.__init__" ⟨[o, a, b], [(Str.ofString "strict", c)]⟩ := by unfold argsOk; kernel_rfl
theorem meets_new {v1 v2 : Value} {o1 o2 : Obj} {H1 H2 : Heap → Prop} (B1 : Begins v1 o1 H1) (B2 : Begins v2 o2 H2) :
    Meets (Builtin.«zip.__new__» ⟨[.type "zip", v1, v2], [(Str.ofString "strict", .bool true)]⟩) (fun _ R s => H1 s.heap ∧ H2 s.heap ∧
      R (.ok (.ret (.ref (s.heap.objs.size + 4)))) { s with heap := ((((s.heap.push o1).push o2).push { cls := .type "tuple", data := .seq #[.ref s.heap.objs.size, .ref (s.heap.objs.size + 1)] }).push { cls := .type "tuple", data := .seq #[.none, .none] }).push { cls := .type "zip", data := .fields #[.none, .bool false, .bool true, .ref (s.heap.objs.size + 2), .ref (s.heap.objs.size + 3)] } }) :=
  .of_wp fun prog w A R s h => by
    obtain ⟨hp, g, d, tk, os⟩ := s
    obtain ⟨h1, h2, h⟩ := h
    have hsub := sub_zip
    have h2' : H2 (hp.push o1) := B2.keeps _ _ h2 fun b o e => Heap.get?_push_of_some _ e
    have q1 : ∀ {A' : Around} {E : Value → Shared → Prop} {Q : Value → Shared → Prop}, Q (.ref hp.objs.size) ⟨hp.push o1, g, d, tk, os⟩ → wpAny (model prog w) A' (pyIter v1) Q E ⟨hp, g, d, tk, os⟩ :=
      fun q => B1.iter prog w _ _ ⟨hp, g, d, tk, os⟩ _ h1 q
    have q2 : ∀ {A' : Around} {E : Value → Shared → Prop} {Q : Value → Shared → Prop}, Q (.ref (hp.push o1).objs.size) ⟨(hp.push o1).push o2, g, d, tk, os⟩ → wpAny (model prog w) A' (pyIter v2) Q E ⟨hp.push o1, g, d, tk, os⟩ :=
      fun q => B2.iter prog w _ _ ⟨hp.push o1, g, d, tk, os⟩ _ h2' q
    have e1 : (Str.ofString "strict" != ("strict" : Str)) = false := by decide +kernel
    wp_walk using q1, q2
    refine ⟨_, rfl, ?_⟩
    simpa [Heap.size_push, ownedTupleFields] using h
/-- a zip, strict or not -/
abbrev IsZB (h : Heap) (z TI TO : Addr) (sb : Bool) (f0 : Value) : Prop :=
  h.get? z = some { cls := .type "zip", dict := none, data := .fields #[f0, .bool false, .bool sb, .ref TI, .ref TO], slots := #[] }
section
variable {prog : Program} {w : World} {A : Around} {E : Value → Shared → Prop} {s : Shared}
theorem made {v1 v2 : Value} {o1 o2 : Obj} {H1 H2 : Heap → Prop} {Q : Value → Shared → Prop} (B1 : Begins v1 o1 H1) (B2 : Begins v2 o2 H2) (h1 : H1 s.heap) (h2 : H2 s.heap)
    (h : ∀ h', IsZ h' (s.heap.objs.size + 4) (s.heap.objs.size + 2) (s.heap.objs.size + 3) .none → IsTupOf2 h' (s.heap.objs.size + 2) (.ref s.heap.objs.size) (.ref (s.heap.objs.size + 1)) → IsTupOf2 h' (s.heap.objs.size + 3) .none .none →
      h'.get? s.heap.objs.size = some o1 → h'.get? (s.heap.objs.size + 1) = some o2 → (∀ b o, s.heap.get? b = some o → h'.get? b = some o) → Q (.ref (s.heap.objs.size + 4)) { s with heap := h' }) :
    wpAny (model prog w) A (call (.type "zip") [v1, v2] [(Str.ofString "strict", .bool true)]) Q E s := by
  refine callType_newKw F.called_zip (by decide) (tc_strict _ _ _) (nc_strict _ _ _) (fun obj => ia_strict obj _ _ _) F.entry_zip_new (meets_new B1 B2) ⟨h1, h2, ?_⟩
  have f1 := B1.free
  have f2 := B2.free
  obtain ⟨hp, g, d, tk, os⟩ := s
  have g1 := Heap.get?_push_size hp (o := o1) f1
  have g2 := Heap.get?_push_size (hp.push o1) (o := o2) f2
  have g3 := Heap.get?_push_size ((hp.push o1).push o2) (o := { cls := .type "tuple", data := .seq #[.ref hp.objs.size, .ref (hp.objs.size + 1)] }) rfl
  have g4 := Heap.get?_push_size (((hp.push o1).push o2).push { cls := .type "tuple", data := .seq #[.ref hp.objs.size, .ref (hp.objs.size + 1)] }) (o := { cls := .type "tuple", data := .seq #[.none, .none] }) rfl
  have g5 := Heap.get?_push_size ((((hp.push o1).push o2).push { cls := .type "tuple", data := .seq #[.ref hp.objs.size, .ref (hp.objs.size + 1)] }).push { cls := .type "tuple", data := .seq #[.none, .none] }) (o := { cls := .type "zip", data := .fields #[.none, .bool false, .bool true, .ref (hp.objs.size + 2), .ref (hp.objs.size + 3)] }) rfl
  simp only [Heap.size_push] at g2 g3 g4 g5
  have up : ∀ {q : Heap} {b : Addr} {o : Obj} (p : Obj), q.get? b = some o → (q.push p).get? b = some o := fun p e => Heap.get?_push_of_some _ e
  exact ⟨⟨_, g5, rfl⟩, h _ g5 (up _ (up _ g3)) (up _ g4) (up _ (up _ (up _ (up _ g1)))) (up _ (up _ (up _ g2))) fun b o e => up _ (up _ (up _ (up _ (up _ e))))⟩
theorem letGo {elts : List Expr} {x1 : Nat} {pos : Pos} {z TI TO T : Addr} {sb : Bool} {Q : Unit → Shared → Prop} (hz : IsZB s.heap z TI TO sb (rawInt T))
    (hQ : ∀ h', IsZB h' z TI TO sb .none → Heap.SameBut z s.heap h' → Q () { s with heap := h' }) : wpAny (model prog w) A (letOwnedTupleGo (.Tuple elts x1 pos) (.ref z) (.ref T)) Q E s := by
  unfold letOwnedTupleGo
  refine wpAny_bind (wpAny_load hz ?_)
  show wpAny _ _ (if (_ && (#[rawInt T, .bool false, .bool sb, .ref TI, .ref TO] : Array Value)[0]? == some (rawInt T)) = true then _ else _) Q E s
  rw [if_pos (by simp)]
  exact wpAny_bind (wpAny_rule (wpAny_setField_rec hz (by simp) fun h' z' b' => hQ h' z' b'))
theorem selfIter {z TI TO : Addr} {sb : Bool} {f0 : Value} {Q : Value → Shared → Prop} (hz : IsZB s.heap z TI TO sb f0) (h : Q (.ref z) s) : wpAny (model prog w) A (pyIter (.ref z)) Q E s := by
  have hT : s.TypeIs (.ref z) "zip" := ⟨_, hz, rfl⟩
  refine wpAny_pyIter_slot hT F.slot_zip_iter (wpAny_call_entry F.slot_zip_iter hT F.entry_zip_iter ?_ (F.args_zip_iter_1 _))
  show wpAny _ _ (ret (.ref z)) _ _ s
  exact wpAny_pure ⟨_, rfl, "zip", _, hT, F.slot_zip_next.lookup, h⟩
end
end DL.Zs
namespace DL
open PySem L2
/-- a sequence that is walked: a tuple or a list -/
def Src (k : Bool) (K : PySem.W.Frag) (H : Hp) (a : Addr) (xs : List V) : Prop := if k = true then SqT K H a xs else SqL K H a xs
def SIt (k : Bool) (h : Heap) (it a : Addr) (i : Nat) : Prop := if k = true then h.IsTupleIter it a i else h.IsListIter it a i
theorem SIt.there {k : Bool} {h : Heap} {it a : Addr} {i : Nat} (x : SIt k h it a i) : ∃ o, h.get? it = some o ∧ ∀ v, o.data ≠ .cell v := by
  cases k
  · obtain ⟨o, e, _, d⟩ := (show h.IsListIter it a i from x)
    exact ⟨o, e, fun v q => by rw [d] at q; cases q⟩
  · obtain ⟨o, e, _, d⟩ := (show h.IsTupleIter it a i from x)
    exact ⟨o, e, fun v q => by rw [d] at q; cases q⟩
theorem SIt.at {k : Bool} {h h' : Heap} {it a : Addr} {i : Nat} (x : SIt k h it a i) (u : ∀ o, h.get? it = some o → h'.get? it = some o) : SIt k h' it a i := by
  cases k
  · exact (show h.IsListIter it a i from x).at u
  · exact (show h.IsTupleIter it a i from x).at u
section
variable {X : Cx} {pins : List (Addr × Obj)} {σ : L2.St} {H : Hp} {s : Shared} {a it : Addr} {xs : List V} {k : Bool} {i : Nat}
theorem src_draws {A : Around} (hh : A.handled = none) (I : Inv X pins σ H s) (q : Src k X.K H a xs) (hne : a ≠ it) (st : SIt k s.heap it a i) :
    ∃ (its : List Value) (St : Nat → Heap → Prop), Vals xs its ∧ Draws X.prog X.w A it [it, a] its.length (fun i v => its[i]? = some v) St ∧ St i s.heap ∧ ∀ j h, St j h → SIt k h it a j := by
  cases k
  · obtain ⟨its, rv, p, _⟩ := I.list (show SqL X.K H a xs from q)
    have D := Draws.list (prog := X.prog) (w := X.w) hh it a hne its.toArray
    exact ⟨its, fun i h => h.IsListIter it a i ∧ h.IsList a its.toArray, rv, by simpa using D, ⟨st, p.isList⟩, fun j h z => z.1⟩
  · obtain ⟨its, rv, p, _⟩ := I.tuple (show SqT X.K H a xs from q)
    have D := Draws.tuple (prog := X.prog) (w := X.w) hh it a hne its.toArray
    exact ⟨its, fun i h => h.IsTupleIter it a i ∧ h.IsTuple a its.toArray, rv, by simpa using D, ⟨st, p⟩, fun j h z => z.1⟩
theorem src_begins (I : Inv X pins σ H s) (q : Src k X.K H a xs) : a < s.heap.objs.size ∧ ∃ (o : Obj) (P : Heap → Prop), Begins (.ref a) o P ∧ P s.heap ∧ ∀ (h : Heap) (it : Addr), h.get? it = some o → SIt k h it a 0 := by
  cases k
  · obtain ⟨its, rv, p, _⟩ := I.list (show SqL X.K H a xs from q)
    exact ⟨p.lt, _, _, begins_list a its.toArray, p.isList, fun h it e => ⟨_, e, rfl, rfl⟩⟩
  · obtain ⟨its, rv, p, _⟩ := I.tuple (show SqT X.K H a xs from q)
    exact ⟨(show PyProof.Rows.IsTup s.heap a its.toArray from p).lt, _, _, begins_tuple a its.toArray, p, fun h it e => ⟨_, e, rfl, rfl⟩⟩
end
/-- zip of two of them -/
def Izu (K : PySem.W.Frag) (k1 k2 sb : Bool) (a b : Addr) (xs ys : List V) : It :=
  ⟨fun i H => Src k1 K H a xs ∧ Src k2 K H b ys ∧ i < xs.length ∧ i < ys.length,
    fun i H v H' => ∃ T x y, v = .ref T ∧ H T = none ∧ H' = upd H T (.tup [x, y]) ∧ xs[i]? = some x ∧ ys[i]? = some y,
    fun i H => Src k1 K H a xs ∧ Src k2 K H b ys ∧ i ≤ xs.length ∧ i ≤ ys.length ∧ (i = xs.length ∨ i = ys.length) ∧ (sb = true → i = xs.length ∧ i = ys.length)⟩
theorem turn_zu {P : Program} {w : World} {K : PySem.W.Frag} {elts : List Expr} {kk : Nat} {tpos : Pos} {a b z TI TO i1 i2 : Addr} {xs ys : List V} {k1 k2 sb : Bool} (S : ZipSep2 z TI TO i1 i2 [i1, a] [i2, b]) (ha : a ≠ i1) (hb : b ≠ i2) :
    Turn P w K (.Tuple elts kk tpos) (Izu K k1 k2 sb a b xs ys) [z, TI, TO, i1, i2] z (fun i h => Zs.IsZB h z TI TO sb .none ∧ IsTupOf2 h TI (.ref i1) (.ref i2) ∧ (∃ x y, IsTupOf2 h TO x y) ∧ SIt k1 h i1 a i ∧ SIt k2 h i2 b i) where
  mem := by simp
  obj := by
    rintro i h ⟨hz, hTI, ⟨x, y, hTO⟩, h1, h2⟩ c hc
    simp only [List.mem_cons, List.not_mem_nil, or_false] at hc
    rcases hc with q | q | q | q | q
    · rw [q]; exact ⟨_, hz, fun v q => nomatch q⟩
    · rw [q]; exact ⟨_, hTI, fun v q => nomatch q⟩
    · rw [q]; exact ⟨_, hTO, fun v q => nomatch q⟩
    · rw [q]; exact h1.there
    · rw [q]; exact h2.there
  keep := by
    rintro i h h' ⟨hz, hTI, ⟨x, y, hTO⟩, h1, h2⟩ k
    exact ⟨k z (by simp) _ hz, k TI (by simp) _ hTI, ⟨x, y, k TO (by simp) _ hTO⟩, h1.at fun o q => k i1 (by simp) o q, h2.at fun o q => k i2 (by simp) o q⟩
  item := by
    intro X hP hw hK hc i pins s σ H E I hf st hg
    subst hP hw hK
    obtain ⟨hz, hTI, ⟨x0, y0, hTO⟩, h1, h2⟩ := st
    obtain ⟨q1, q2, l1, l2⟩ := hg
    have hh : X.A.in1.handled = none := I.ok.hd hc
    obtain ⟨its, St1, rv1, D1, s1, n1⟩ := src_draws hh I q1 ha h1
    obtain ⟨its2, St2, rv2, D2, s2, n2⟩ := src_draws hh I q2 hb h2
    have hzl : z < s.heap.objs.size := Heap.lt_size hz
    obtain ⟨x, hx⟩ : ∃ x, xs[i]? = some x := ⟨xs[i], List.getElem?_eq_getElem l1⟩
    obtain ⟨y, hy⟩ : ∃ y, ys[i]? = some y := ⟨ys[i], List.getElem?_eq_getElem l2⟩
    obtain ⟨u1, e1, r1⟩ := rv1.get hx
    obtain ⟨u2, e2, r2⟩ := rv2.get hy
    have go : ∀ x1 x2 h' tk, its[i]? = some x1 → its2[i]? = some x2 → Zs.IsZB h' z TI TO sb (rawInt s.heap.objs.size) → IsTupOf2 h' TO x1 x2 → St1 (i + 1) h' → St2 (i + 1) h' → IsTupOf2 h' s.heap.objs.size x1 x2 →
        (∀ c o, c ≠ z → c ≠ TO → c ≠ i1 → c ≠ i2 → s.heap.get? c = some o → h'.get? c = some o) →
        ∃ u, some (Value.ref s.heap.objs.size) = some u ∧ wpAny (model X.prog X.w) X.A (letOwnedTupleGo (.Tuple elts kk tpos) (.ref z) u) (fun _ s2 => ∃ x H', Inv X pins σ H' s2 ∧ RelV x u ∧ (Izu X.K k1 k2 sb a b xs ys).yld i H x H' ∧
          (Zs.IsZB s2.heap z TI TO sb .none ∧ IsTupOf2 s2.heap TI (.ref i1) (.ref i2) ∧ (∃ x y, IsTupOf2 s2.heap TO x y) ∧ SIt k1 s2.heap i1 a (i + 1) ∧ SIt k2 s2.heap i2 b (i + 1)) ∧ ∀ b ∈ [z, TI, TO, i1, i2], H' b = none) E { s with heap := h', toks := tk } := by
      intro x1 x2 h' tk g1 g2 z' TO' n1' n2' hT hk
      rw [e1] at g1
      rw [e2] at g2
      cases g1
      cases g2
      refine ⟨_, rfl, Zs.letGo (s := { s with heap := h', toks := tk }) z' fun h'' z'' sb' => ?_⟩
      have hT2 : h''.get? s.heap.objs.size = some { cls := .type "tuple", data := .seq #[u1, u2] } := (sb'.2 _ (Nat.ne_of_gt hzl)).trans hT
      have new : ObjOk X.prog X.w (upd H s.heap.objs.size (.tup [x, y])) h'' s.heap.objs.size (.tup [x, y]) :=
        ⟨by show 2 ≤ sizeLine; decide, [u1, u2], .cons r1 (.cons r2 .nil), ⟨_, hT2, rfl, _, rfl⟩⟩
      have up : ∀ c o, c ∉ [z, TI, TO, i1, i2] → s.heap.get? c = some o → h''.get? c = some o := fun c o hb q => by
        simp only [List.mem_cons, List.not_mem_nil, or_false, not_or] at hb
        exact (sb'.2 c hb.1).trans (hk c o hb.1 hb.2.2.1 hb.2.2.2.1 hb.2.2.2.2 q)
      have I1 : Inv X pins σ (upd H s.heap.objs.size (.tup [x, y])) { s with heap := h'', toks := tk } := I.turnedNew (t' := tk) (ch := [z, TI, TO, i1, i2]) up hf (Nat.le_refl _) new
      refine ⟨.ref s.heap.objs.size, _, I1, rfl, ⟨_, x, y, rfl, I.hok.fresh (Nat.le_refl _), rfl, hx, hy⟩, ⟨z'', ?_, ⟨u1, u2, ?_⟩, ?_, ?_⟩, fun c hcm => ?_⟩
      · exact (sb'.2 _ S.TIz).trans (hk _ _ S.TIz S.TITO S.TIi1 S.TIi2 hTI)
      · exact (sb'.2 _ S.TOz).trans TO'
      · exact (n1 _ _ n1').at fun o q => (sb'.2 _ S.zi1.symm).trans q
      · exact (n2 _ _ n2').at fun o q => (sb'.2 _ S.zi2.symm).trans q
      · have hlt : c < s.heap.objs.size := by
          simp only [List.mem_cons, List.not_mem_nil, or_false] at hcm
          rcases hcm with q | q | q | q | q
          · rw [q]; exact hzl
          · rw [q]; exact Heap.lt_size hTI
          · rw [q]; exact Heap.lt_size hTO
          · rw [q]; obtain ⟨_, e1, _⟩ := h1.there; exact Heap.lt_size e1
          · rw [q]; obtain ⟨_, e2, _⟩ := h2.there; exact Heap.lt_size e2
        rw [upd_ne (Nat.ne_of_lt hlt)]
        exact (hf c hcm).1
    have l1' : i < its.length := by rw [← rv1.length]; exact l1
    have l2' : i < its2.length := by rw [← rv2.length]; exact l2
    cases sb
    · exact wpAny_pyNext_zipD2_item S D1 D2 hz hTI hTO s1 s2 l1' l2' fun x1 x2 h' tk y1 y2 b1 b2 d1 d2 b5 b6 b7 => go x1 x2 h' tk y1 y2 b1 b2 d1 d2 b5 b7
    · exact Zs.py_item S D1 D2 hz hTI hTO s1 s2 l1' l2' go
  done := by
    intro X hP hw hK hc i pins s σ H E I hf st hg
    subst hP hw hK
    obtain ⟨hz, hTI, ⟨x0, y0, hTO⟩, h1, h2⟩ := st
    obtain ⟨q1, q2, l1, l2, le, ls⟩ := hg
    have hh : X.A.handled = none := I.ok.hd hc
    obtain ⟨its, St1, rv1, D1, s1, n1⟩ := src_draws (A := X.A.in1) hh I q1 ha h1
    obtain ⟨its2, St2, rv2, D2, s2, n2⟩ := src_draws (A := X.A.in1) hh I q2 hb h2
    have m1 := rv1.length
    have m2 := rv2.length
    cases sb
    · refine wpAny_pyNext_zipD2_end S D1 D2 hz hTI hTO s1 s2 (by omega) (by omega) (by omega) fun h' tk k => ⟨rfl, I.turnedL (t' := tk) (ch := [z, TI, TO, i1, i2]) (fun c o hb q => ?_) hf⟩
      simp only [List.mem_cons, List.not_mem_nil, or_false, not_or] at hb
      exact k c o hb.1 hb.2.2.1 hb.2.2.2.1 hb.2.2.2.2 q
    · obtain ⟨e1, e2⟩ := ls rfl
      have D1' : Draws X.prog X.w X.A.in1 i1 [i1, a] i (fun i v => its[i]? = some v) St1 := by rw [e1, m1]; exact D1
      have D2' : Draws X.prog X.w X.A.in1 i2 [i2, b] i (fun i v => its2[i]? = some v) St2 := by rw [e2, m2]; exact D2
      refine Zs.py_end hh S D1' D2' hz hTI hTO s1 s2 fun h' k => ⟨rfl, I.turnedL (t' := s.toks) (ch := [z, TI, TO, i1, i2]) (fun c o hb q => ?_) hf⟩
      simp only [List.mem_cons, List.not_mem_nil, or_false, not_or] at hb
      exact k c o hb.1 hb.2.2.2.1 hb.2.2.2.2 q
  self := fun A i s Q E st h => Zs.selfIter st.1 h
/-! the rules -/
def iZipU (K : PySem.W.Frag) (sb : Bool) (ta : TA) : TI := fun σ H R => ta σ H fun vs H1 => ∃ k1 k2 a b xs ys, vs = [.ref a, .ref b] ∧ Src k1 K H1 a xs ∧ Src k2 K H1 b ys ∧ R (Izu K k1 k2 sb a b xs ys) H1
section
variable {X : Cx} {e e2 : Expr} {ta : TA} {p pos tpos kp kpos : Pos} {elts : List Expr} {kk j : Nat}
theorem zip_fp {pins : List (Addr × Obj)} {H : Hp} {σ : L2.St} {s : Shared} (I : Inv X pins σ H s) : ∀ c ∈ [s.heap.objs.size + 4, s.heap.objs.size + 2, s.heap.objs.size + 3, s.heap.objs.size, s.heap.objs.size + 1], FpOk X pins H c := by
  intro c hc
  have hle : s.heap.objs.size ≤ c := by
    simp only [List.mem_cons, List.not_mem_nil, or_false] at hc
    rcases hc with z | z | z | z | z <;> rw [z]
    · exact Nat.le_add_right _ _
    · exact Nat.le_add_right _ _
    · exact Nat.le_add_right _ _
    · exact Nat.le_refl _
    · exact Nat.le_add_right _ _
  exact I.fpOk hle (I.hok.fresh hle)
theorem zip_sepU {N a b : Nat} (ha : a < N) (hb : b < N) : ZipSep2 (N + 4) (N + 2) (N + 3) N (N + 1) [N, a] [N + 1, b] :=
  zip_sep2 (fun x hx => by rw [List.mem_singleton] at hx; rw [hx]; exact ha) (fun x hx => by rw [List.mem_singleton] at hx; rw [hx]; exact hb)
theorem p_zip (hg : Gl X "zip") (hm : X.mg "zip" = none) (ha : PA X [e, e2] ta) (hs : starEach [e, e2] X.env = (false, eval e X.env) :: starEach [e2] X.env := by rfl) (hpl : (backTo pos (starEach [e2] X.env)).any (·.1) = false := by rfl) :
    PI X (.Tuple elts kk tpos) (.Call (.Name "zip" p) [e, e2] [] pos) (iZipU X.K false ta) := by
  constructor
  intro pins s σ H R I h
  refine PyProof.Rows.Call_ (ld_blt I hg hm PyProof.Rows.boot_zip (PyProof.Rows.callWith_type1 (thn (ha.run pos pins s σ H _ I h) ?_) hs hpl))
  rintro us s1 ⟨vs, H1, I1, r1, k1, k2, a, b, xs, ys, rfl, q1, q2, q⟩
  obtain ⟨u1, u2, rfl, r1, r2⟩ := vals2 r1
  cases r1
  cases r2
  obtain ⟨la, o1, P1, B1, hP1, f1⟩ := src_begins I1 q1
  obtain ⟨lb, o2, P2, B2, hP2, f2⟩ := src_begins I1 q2
  refine zip_begins2 B1 B2 hP1 hP2 fun h' hz hTI hTO g1 g2 hsz hk => Zs.selfIter (sb := false) hz ?_
  exact ⟨s1.heap.objs.size + 4, _, _, _, H1, rfl, I1.kept (t' := s1.toks) hk, turn_zu (zip_sepU la lb) (Nat.ne_of_lt la) (Nat.ne_of_lt (Nat.lt_succ_of_lt lb)), ⟨hz, hTI, ⟨_, _, hTO⟩, f1 _ _ g1, f2 _ _ g2⟩, zip_fp I1, q⟩
theorem callTyKw {M : Model} {A : Around} {E : Value → Shared → Prop} {s : Shared} {T : String} {first : List Value} {args : List (Bool × Sem Value)} {kws : List (Option Str × Sem Value)} {Q : Value → Shared → Prop} (hplain : (args.any (·.1) || kws.any (·.1.isNone)) = false)
    (h : wpAny M A (evalArgs (.type T) true args kws) (fun a s₁ => wpAny M A (call (.type T) (first ++ a.pos) a.kw) Q E s₁) E s) : wpAny M A (callWith pos (.type T) first args kws) Q E s := by
  unfold callWith
  refine wpAny_bind (wpAny_holding (wpAny_mono h (fun a s1 h1 => wpAny_bind (wpAny_standAt ?_)) fun _ _ z => z))
  simp only [hplain]
  exact wpAny_bind (wpAny_pure (wpAny_bind (wpAny_mono h1 (fun r s2 hr => wpAny_bind (wpAny_holding (wpAny_point (wpAny_pure hr)))) fun _ _ z => z)))
theorem p_zipS (hg : Gl X "zip") (hm : X.mg "zip" = none) (ha : PA X [e, e2] ta) (hs : starEach (e :: [e2]) X.env = (false, eval e X.env) :: starEach [e2] X.env := by rfl)
    (hpl : ((backTo pos (starEach (e :: [e2]) X.env)).any (·.1) || (backToKw pos (keywordEach [⟨some "strict", .Constant (.bool true) j kp, kpos⟩] X.env)).any (·.1.isNone)) = false := by rfl) :
    PI X (.Tuple elts kk tpos) (.Call (.Name "zip" p) [e, e2] [⟨some "strict", .Constant (.bool true) j kp, kpos⟩] pos) (iZipU X.K true ta) := by
  constructor
  intro pins s σ H R I h
  refine wpAny_Call_Name_kw (ld_blt I hg hm PyProof.Rows.boot_zip ?_)
  refine callTyKw hpl (PyProof.Rows.evalArgs_kw2 rfl (thn (ha.run pos pins s σ H _ I h) ?_) hs)
  rintro us s1 ⟨vs, H1, I1, r1, k1, k2, a, b, xs, ys, rfl, q1, q2, q⟩
  obtain ⟨u1, u2, rfl, r1, r2⟩ := vals2 r1
  cases r1
  cases r2
  have hk : PK X [⟨some "strict", .Constant (.bool true) j kp, kpos⟩] (tCons (tC (.bl true)) tNil) := pk_cons pe_bl pk_nil
  refine thn (hk.run pos pins s1 σ H1 (fun zs H2 => zs = [.bl true] ∧ H2 = H1) I1 ⟨rfl, rfl⟩) ?_
  rintro ws s2 ⟨zs, H2, I2, rz, rfl, rfl⟩
  obtain ⟨w1, rfl, rw1⟩ := vals1 rz
  cases rw1
  obtain ⟨la, o1, P1, B1, hP1, f1⟩ := src_begins I2 q1
  obtain ⟨lb, o2, P2, B2, hP2, f2⟩ := src_begins I2 q2
  refine Zs.made B1 B2 hP1 hP2 fun h' hz hTI hTO g1 g2 hk => Zs.selfIter (sb := true) hz ?_
  exact ⟨s2.heap.objs.size + 4, _, _, _, H2, rfl, I2.kept (t' := s2.toks) hk, turn_zu (zip_sepU la lb) (Nat.ne_of_lt la) (Nat.ne_of_lt (Nat.lt_succ_of_lt lb)), ⟨hz, hTI, ⟨_, _, hTO⟩, f1 _ _ g1, f2 _ _ g2⟩, zip_fp I2, q⟩
end
end DL

set_option maxHeartbeats 4000000
namespace DL.Zl
open PySem PySem.Builtin.SmallTypes
/-! list(zip(v1, v2)): the pairs are kept, so that zip makes each one anew -/
section
variable {prog : Program} {w : World} {A : Around} {E : Value → Shared → Prop} {s : Shared} {z TI TO i1 i2 : Addr} {fp1 fp2 : List Addr} {n1 n2 i : Nat} {P1 P2 : Nat → Value → Prop} {St1 St2 : Nat → Heap → Prop} {T0 : Addr} {f : Bool} {oT : Obj}
theorem held_item {Q : Value → Shared → Prop} (S : ZipSep2 z TI TO i1 i2 fp1 fp2) (D1 : Draws prog w A i1 fp1 n1 P1 St1) (D2 : Draws prog w A i2 fp2 n2 P2 St2)
    (hz : IsZipHeld s.heap z TI TO T0 f) (hT0 : s.heap.get? T0 = some oT) (hTI : IsTupOf2 s.heap TI (.ref i1) (.ref i2)) (st1 : St1 i s.heap) (st2 : St2 i s.heap) (l1 : i < n1) (l2 : i < n2)
    (hQ : ∀ x1 x2 h' tk, P1 i x1 → P2 i x2 → IsZipHeld h' z TI TO T0 true → St1 (i + 1) h' → St2 (i + 1) h' → IsTupOf2 h' s.heap.objs.size x1 x2 →
      (∀ c o, c ≠ z → c ≠ i1 → c ≠ i2 → s.heap.get? c = some o → h'.get? c = some o) → Q (.ref s.heap.objs.size) { s with heap := h', toks := tk }) :
    wpAny (model prog w) A (Builtin.«zip.__next__» ⟨[.ref z], []⟩) (fun fin s' => ∃ v, fin = .done (.ret v) ∧ Q v s') E s := by
  obtain ⟨hp, g, d, tk0, os⟩ := s
  show wpAny _ _ (field (.ref z) 2 >>= _) _ _ _
  refine wpAny_bind (wpAny_field hz rfl (x := .bool false) rfl ?_)
  show wpAny _ _ (field (.ref z) 3 >>= _) _ _ _
  refine wpAny_bind (wpAny_field hz rfl (x := .ref TI) rfl (wpAny_bind (wpAny_seqItems hTI rfl ?_)))
  show wpAny _ _ (ownedTupleIsFree (.ref z) >>= _) _ _ _
  refine wpAny_bind (wpAny_tupleHeld_zip hz hT0 fun g0 z0 b0 => ?_)
  change Heap.SameBut z hp g0 at b0
  simp only [Bool.false_eq_true, if_false]
  refine wpAny_bind ?_
  show wpAny _ _ (forIn (#[Value.ref i1, Value.ref i2] : Array Value) _ _) _ _ _
  rw [← Array.forIn_toList]
  simp only [List.forIn_cons, List.forIn_nil]
  refine wpAny_bind (wpAny_bind (wpAny_holding ?_))
  show wpAny _ _ (nextOf (.ref i1) >>= _) _ _ ⟨g0, g, d, tk0, os⟩
  refine wpAny_bind (D1.item i _ _ _ l1 (D1.over st1 b0 S.zf1) fun x1 p1 tk1 hx1 sn1 c1 => wpAny_pure ?_)
  change Heap.SameBut i1 g0 p1 at c1
  refine wpAny_pure (wpAny_bind (wpAny_bind (wpAny_holding ?_)))
  show wpAny _ _ (nextOf (.ref i2) >>= _) _ _ ⟨p1, g, d, tk1, os⟩
  refine wpAny_bind (D2.item i _ _ _ l2 (D2.over (D2.over st2 b0 S.zf2) c1 S.sep1_2) fun x2 p2 tk2 hx2 sn2 c2 => wpAny_pure ?_)
  change Heap.SameBut i2 p1 p2 at c2
  refine wpAny_pure (wpAny_pure (wpAny_bind (wpAny_newTuple (hsz := by show 2 ≤ sizeLine; decide) ?_)))
  have sz : p2.objs.size = hp.objs.size := by rw [c2.1, c1.1, b0.1]
  refine wpAny_pure ⟨_, rfl, ?_⟩
  show Q (.ref p2.objs.size) ⟨p2.push { cls := .type "tuple", data := .seq #[x1, x2] }, g, d, tk2, os⟩
  have up0 : ∀ c o, c ≠ i1 → c ≠ i2 → g0.get? c = some o → (p2.push { cls := .type "tuple", data := .seq #[x1, x2] }).get? c = some o := fun c o q1 q2 e => Heap.get?_push_of_some _ (c2.extBut _ _ q2 (c1.extBut _ _ q1 e))
  have up : ∀ c o, c ≠ z → c ≠ i1 → c ≠ i2 → hp.get? c = some o → (p2.push { cls := .type "tuple", data := .seq #[x1, x2] }).get? c = some o := fun c o q0 q1 q2 e => up0 c o q1 q2 (b0.extBut _ _ q0 e)
  have t8 : IsTupOf2 (p2.push { cls := .type "tuple", data := .seq #[x1, x2] }) p2.objs.size x1 x2 := Heap.get?_push_size _ rfl
  rw [sz] at t8 ⊢
  exact hQ x1 x2 _ tk2 hx1 hx2 (up0 _ _ S.zi1 S.zi2 z0) (D1.frame _ _ _ (D1.over sn1 c2 S.sep2_1) fun b _ o e => Heap.get?_push_of_some _ e) (D2.frame _ _ _ sn2 fun b _ o e => Heap.get?_push_of_some _ e) t8 up
theorem held_end {Q : Fin → Shared → Prop} (S : ZipSep2 z TI TO i1 i2 fp1 fp2) (D1 : Draws prog w A i1 fp1 n1 P1 St1) (D2 : Draws prog w A i2 fp2 n2 P2 St2)
    (hz : IsZipHeld s.heap z TI TO T0 f) (hT0 : s.heap.get? T0 = some oT) (hTI : IsTupOf2 s.heap TI (.ref i1) (.ref i2)) (st1 : St1 n1 s.heap)
    (hE : ∀ h' e, (∀ c o, c ≠ z → c ≠ i1 → s.heap.get? c = some o → h'.get? c = some o) → (∃ o, h'.get? e = some o ∧ o.cls = .type "StopIteration") → E (.ref e) { s with heap := h' }) :
    wpAny (model prog w) A (Builtin.«zip.__next__» ⟨[.ref z], []⟩) Q E s := by
  obtain ⟨hp, g, d, tk0, os⟩ := s
  show wpAny _ _ (field (.ref z) 2 >>= _) _ _ _
  refine wpAny_bind (wpAny_field hz rfl (x := .bool false) rfl ?_)
  show wpAny _ _ (field (.ref z) 3 >>= _) _ _ _
  refine wpAny_bind (wpAny_field hz rfl (x := .ref TI) rfl (wpAny_bind (wpAny_seqItems hTI rfl ?_)))
  show wpAny _ _ (ownedTupleIsFree (.ref z) >>= _) _ _ _
  refine wpAny_bind (wpAny_tupleHeld_zip hz hT0 fun g0 z0 b0 => ?_)
  change Heap.SameBut z hp g0 at b0
  simp only [Bool.false_eq_true, if_false]
  refine wpAny_bind ?_
  show wpAny _ _ (forIn (#[Value.ref i1, Value.ref i2] : Array Value) _ _) _ _ _
  rw [← Array.forIn_toList]
  simp only [List.forIn_cons, List.forIn_nil]
  refine wpAny_bind (wpAny_bind (wpAny_holding ?_))
  show wpAny _ _ (nextOf (.ref i1) >>= _) _ _ ⟨g0, g, d, tk0, os⟩
  exact wpAny_bind (D1.done _ _ _ (D1.over st1 b0 S.zf1) fun h' e x y => hE h' e (fun c o q0 q e => x c o q (b0.extBut _ _ q0 e)) y)
theorem py_held {Q : Option Value → Shared → Prop} (S : ZipSep2 z TI TO i1 i2 fp1 fp2) (D1 : Draws prog w A.in1 i1 fp1 n1 P1 St1) (D2 : Draws prog w A.in1 i2 fp2 n2 P2 St2)
    (hz : IsZipHeld s.heap z TI TO T0 f) (hT0 : s.heap.get? T0 = some oT) (hTI : IsTupOf2 s.heap TI (.ref i1) (.ref i2)) (st1 : St1 i s.heap) (st2 : St2 i s.heap) (l1 : i < n1) (l2 : i < n2)
    (hQ : ∀ x1 x2 h' tk, P1 i x1 → P2 i x2 → IsZipHeld h' z TI TO T0 true → St1 (i + 1) h' → St2 (i + 1) h' → IsTupOf2 h' s.heap.objs.size x1 x2 →
      (∀ c o, c ≠ z → c ≠ i1 → c ≠ i2 → s.heap.get? c = some o → h'.get? c = some o) → Q (some (.ref s.heap.objs.size)) { s with heap := h', toks := tk }) : wpAny (model prog w) A (pyNext (.ref z)) Q E s := by
  have hT : s.TypeIs (.ref z) "zip" := ⟨_, hz, rfl⟩
  unfold pyNext
  refine wpAny_bind (wpAny_attempt (wpAny_callSpecial?_slot (name := Str.ofString "__next__") hT F.slot_zip_next (wpAny_call_entry F.slot_zip_next hT F.entry_zip_next ?_ (F.args_zip_next_1 _))))
  exact held_item S D1 D2 hz hT0 hTI st1 st2 l1 l2 fun x1 x2 h' tk p1 p2 q1 q2 q3 q4 q5 => wpAny_pure (hQ x1 x2 h' tk p1 p2 q1 q2 q3 q4 q5)
theorem py_heldEnd {Q : Option Value → Shared → Prop} (S : ZipSep2 z TI TO i1 i2 fp1 fp2) (D1 : Draws prog w A.in1 i1 fp1 n1 P1 St1) (D2 : Draws prog w A.in1 i2 fp2 n2 P2 St2)
    (hz : IsZipHeld s.heap z TI TO T0 f) (hT0 : s.heap.get? T0 = some oT) (hTI : IsTupOf2 s.heap TI (.ref i1) (.ref i2)) (st1 : St1 n1 s.heap)
    (hQ : ∀ h', (∀ c o, c ≠ z → c ≠ i1 → s.heap.get? c = some o → h'.get? c = some o) → Q none { s with heap := h' }) : wpAny (model prog w) A (pyNext (.ref z)) Q E s := by
  have hT : s.TypeIs (.ref z) "zip" := ⟨_, hz, rfl⟩
  unfold pyNext
  refine wpAny_bind (wpAny_attempt (wpAny_callSpecial?_slot (name := Str.ofString "__next__") hT F.slot_zip_next (wpAny_call_entry F.slot_zip_next hT F.entry_zip_next ?_ (F.args_zip_next_1 _))))
  refine held_end (A := A.in1) S D1 D2 hz hT0 hTI st1 ?_
  rintro h' e k ⟨o, ho, hc⟩
  exact wpAny_bind (wpAny_isInstance (T := "StopIteration") (b := true) ⟨o, ho, hc⟩ isSubtype_stop (wpAny_pure (hQ _ k)))
end
end DL.Zl
namespace DL
open PySem L2
section
variable {X : Cx} {pins : List (Addr × Obj)} {σ : L2.St} {a b z TI TO i1 i2 S : Addr} {xs ys : List V} {k1 k2 : Bool} {n : Nat}
/-- how the zip stands while its pairs are kept -/
def ZKept (h : Heap) (z TI TO i1 i2 : Addr) : Prop := (IsZip h z TI TO .none ∨ ∃ T f oT, IsZipHeld h z TI TO T f ∧ h.get? T = some oT ∧ T ∉ [z, TI, TO, i1, i2]) ∧ (∃ x y, IsTupOf2 h TO x y) ∧ IsTupOf2 h TI (.ref i1) (.ref i2)
/-- where the loop of list(zip(..)) stands behind i pairs -/
structure LzAt (X : Cx) (pins : List (Addr × Obj)) (σ : L2.St) (k1 k2 : Bool) (a b z TI TO i1 i2 : Addr) (xs ys : List V) (i : Nat) (H : Hp) (s : Shared) : Prop where
  inv : Inv X pins σ H s
  fp : ∀ c ∈ [z, TI, TO, i1, i2], FpOk X pins H c
  zip : ZKept s.heap z TI TO i1 i2
  it1 : SIt k1 s.heap i1 a i
  it2 : SIt k2 s.heap i2 b i
  q1 : Src k1 X.K H a xs
  q2 : Src k2 X.K H b ys
theorem FpOk.laid {H : Hp} {c T : Addr} {o : HO} (f : FpOk X pins H c) (ne : c ≠ T) : FpOk X pins (upd H T o) c := ⟨by rw [upd_ne ne]; exact f.1, f.2⟩
theorem LzAt.low {H : Hp} {s : Shared} {i : Nat} (st : LzAt X pins σ k1 k2 a b z TI TO i1 i2 xs ys i H s) : ∀ c ∈ [z, TI, TO, i1, i2], c < s.heap.objs.size := by
  intro c hcm
  simp only [List.mem_cons, List.not_mem_nil, or_false] at hcm
  obtain ⟨hz, ⟨_, _, hTO⟩, hTI⟩ := st.zip
  rcases hcm with q | q | q | q | q
  · rw [q]
    rcases hz with e | ⟨_, _, _, e, _⟩
    · exact Heap.lt_size e
    · exact Heap.lt_size e
  · rw [q]; exact Heap.lt_size hTI
  · rw [q]; exact Heap.lt_size hTO
  · rw [q]; obtain ⟨_, e1, _⟩ := st.it1.there; exact Heap.lt_size e1
  · rw [q]; obtain ⟨_, e2, _⟩ := st.it2.there; exact Heap.lt_size e2
theorem Src.mono {k : Bool} {K : PySem.W.Frag} {H H' : Hp} {a : Addr} {xs : List V} (s : Sub H H') (h : Src k K H a xs) : Src k K H' a xs := by
  cases k
  · exact s.sqL (show SqL K H a xs from h)
  · exact s.sqT (show SqT K H a xs from h)
/-- one pair more -/
theorem lz_next {H : Hp} {s : Shared} {i : Nat} {Q : Option Value → Shared → Prop} {E : Value → Shared → Prop} {B : Around} (hc : B.handled = none) (Sp : ZipSep2 z TI TO i1 i2 [i1, a] [i2, b]) (ha : a ≠ i1) (hb : b ≠ i2)
    (st : LzAt X pins σ k1 k2 a b z TI TO i1 i2 xs ys i H s) (l1 : i < xs.length) (l2 : i < ys.length)
    (hQ : ∀ T s' x y, xs[i]? = some x → ys[i]? = some y → H T = none → LzAt X pins σ k1 k2 a b z TI TO i1 i2 xs ys (i + 1) (upd H T (.tup [x, y])) s' → Q (some (.ref T)) s') : wpAny (model X.prog X.w) B (pyNext (.ref z)) Q E s := by
  have I := st.inv
  have hh : B.in1.handled = none := hc
  obtain ⟨its, St1, rv1, D1, s1, n1⟩ := src_draws hh I st.q1 ha st.it1
  obtain ⟨its2, St2, rv2, D2, s2, n2⟩ := src_draws hh I st.q2 hb st.it2
  obtain ⟨x, hx⟩ : ∃ x, xs[i]? = some x := ⟨xs[i], List.getElem?_eq_getElem l1⟩
  obtain ⟨y, hy⟩ : ∃ y, ys[i]? = some y := ⟨ys[i], List.getElem?_eq_getElem l2⟩
  obtain ⟨u1, e1, r1⟩ := rv1.get hx
  obtain ⟨u2, e2, r2⟩ := rv2.get hy
  have l1' : i < its.length := by rw [← rv1.length]; exact l1
  have l2' : i < its2.length := by rw [← rv2.length]; exact l2
  have low := st.low
  have fresh : H s.heap.objs.size = none := I.hok.fresh (Nat.le_refl _)
  have go : ∀ v1 v2 h' tk, its[i]? = some v1 → its2[i]? = some v2 → St1 (i + 1) h' → St2 (i + 1) h' → IsTupOf2 h' s.heap.objs.size v1 v2 → ZKept h' z TI TO i1 i2 → (∀ c o, c ∉ [z, TI, TO, i1, i2] → s.heap.get? c = some o → h'.get? c = some o) →
      Q (some (.ref s.heap.objs.size)) { s with heap := h', toks := tk } := by
    intro v1 v2 h' tk g1 g2 t1 t2 hT zk up
    rw [e1] at g1
    rw [e2] at g2
    cases g1
    cases g2
    have new : ObjOk X.prog X.w (upd H s.heap.objs.size (.tup [x, y])) h' s.heap.objs.size (.tup [x, y]) := ⟨by show 2 ≤ sizeLine; decide, [u1, u2], .cons r1 (.cons r2 .nil), ⟨_, hT, rfl, _, rfl⟩⟩
    have I1 : Inv X pins σ (upd H s.heap.objs.size (.tup [x, y])) { s with heap := h', toks := tk } := I.turnedNew (t' := tk) (ch := [z, TI, TO, i1, i2]) up st.fp (Nat.le_refl _) new
    exact hQ _ _ x y hx hy fresh ⟨I1, fun c hcm => FpOk.laid (st.fp c hcm) (Nat.ne_of_lt (low c hcm)), zk, n1 _ _ t1, n2 _ _ t2, st.q1.mono (sub_upd fresh), st.q2.mono (sub_upd fresh)⟩
  obtain ⟨hz, ⟨a1, a2, hTO⟩, hTI⟩ := st.zip
  have nin : s.heap.objs.size ∉ [z, TI, TO, i1, i2] := fun q => Nat.lt_irrefl _ (low _ q)
  rcases hz with hz | ⟨T0, f, oT, hz, hT0, hnT⟩
  · refine wpAny_pyNext_zipD2_item Sp D1 D2 hz hTI hTO s1 s2 l1' l2' fun v1 v2 h' tk p1 p2 z' TO' t1 t2 hT _ up => ?_
    refine go v1 v2 h' tk p1 p2 t1 t2 hT ⟨.inr ⟨_, false, _, z', hT, nin⟩, ⟨_, _, TO'⟩, up _ _ Sp.TIz Sp.TITO Sp.TIi1 Sp.TIi2 hTI⟩ fun c o hn e => ?_
    simp only [List.mem_cons, List.not_mem_nil, or_false, not_or] at hn
    exact up c o hn.1 hn.2.2.1 hn.2.2.2.1 hn.2.2.2.2 e
  · refine Zl.py_held Sp D1 D2 hz hT0 hTI s1 s2 l1' l2' fun v1 v2 h' tk p1 p2 z' t1 t2 hT up => ?_
    have hn0 := hnT
    simp only [List.mem_cons, List.not_mem_nil, or_false, not_or] at hn0
    refine go v1 v2 h' tk p1 p2 t1 t2 hT ⟨.inr ⟨T0, true, oT, z', up _ _ hn0.1 hn0.2.2.2.1 hn0.2.2.2.2 hT0, hnT⟩, ⟨_, _, up _ _ Sp.TOz Sp.Ti1 Sp.Ti2 hTO⟩, up _ _ Sp.TIz Sp.TIi1 Sp.TIi2 hTI⟩ fun c o hn e => ?_
    simp only [List.mem_cons, List.not_mem_nil, or_false, not_or] at hn
    exact up c o hn.1 hn.2.2.2.1 hn.2.2.2.2 e
theorem lz_end {H : Hp} {s : Shared} {Q : Option Value → Shared → Prop} {E : Value → Shared → Prop} {B : Around} (hc : B.handled = none) (Sp : ZipSep2 z TI TO i1 i2 [i1, a] [i2, b]) (ha : a ≠ i1) (hb : b ≠ i2)
    (st : LzAt X pins σ k1 k2 a b z TI TO i1 i2 xs ys xs.length H s) (hl : xs.length = ys.length) (hQ : ∀ s', Inv X pins σ H s' → Q none s') : wpAny (model X.prog X.w) B (pyNext (.ref z)) Q E s := by
  have I := st.inv
  have hh : B.in1.handled = none := hc
  obtain ⟨its, St1, rv1, D1, s1, n1⟩ := src_draws hh I st.q1 ha st.it1
  obtain ⟨its2, St2, rv2, D2, s2, n2⟩ := src_draws hh I st.q2 hb st.it2
  have m1 := rv1.length
  have m2 := rv2.length
  obtain ⟨hz, ⟨a1, a2, hTO⟩, hTI⟩ := st.zip
  rcases hz with hz | ⟨T0, f, oT, hz, hT0, hnT⟩
  · refine wpAny_pyNext_zipD2_end Sp D1 D2 hz hTI hTO s1 s2 (by omega) (by omega) (by omega) fun h' tk k => hQ _ (I.turnedL (t' := tk) (ch := [z, TI, TO, i1, i2]) (fun c o hn q => ?_) st.fp)
    simp only [List.mem_cons, List.not_mem_nil, or_false, not_or] at hn
    exact k c o hn.1 hn.2.2.1 hn.2.2.2.1 hn.2.2.2.2 q
  · refine Zl.py_heldEnd Sp D1 D2 hz hT0 hTI (by rw [← m1]; exact s1) fun h' k => hQ _ (I.turnedL (t' := s.toks) (ch := [z, TI, TO, i1, i2]) (fun c o hn q => ?_) st.fp)
    simp only [List.mem_cons, List.not_mem_nil, or_false, not_or] at hn
    exact k c o hn.1 hn.2.2.2.1 q
theorem Src.but {k : Bool} {K : PySem.W.Frag} {H : Hp} {a S : Addr} {o : HO} {xs : List V} (h : Src k K H a xs) (ne : a ≠ S) : Src k K (upd H S o) a xs := by
  have rd : ∀ u, Rd H a u → Rd (upd H S o) a u := fun u q => by
    rcases q with q | ⟨p, q⟩
    · exact .inl (by rw [upd_ne ne]; exact q)
    · exact .inr ⟨p, by rw [upd_ne ne]; exact q⟩
  cases k
  · rcases (show SqL K H a xs from h) with q | q
    · exact .inl (rd _ q)
    · exact .inr q
  · rcases (show SqT K H a xs from h) with q | q
    · exact .inl (rd _ q)
    · exact .inr q
/-- the list under way is written -/
theorem LzAt.wrote {H : Hp} {s : Shared} {i : Nat} {ps qs : List V} {h' : Heap} {tk : Nat} {us : List Value} {c : Nat} (st : LzAt X pins σ k1 k2 a b z TI TO i1 i2 xs ys i H s) (hS : H S = some (.lst ps)) (naS : a ≠ S) (nbS : b ≠ S)
    (up : ∀ b o, b ≠ S → s.heap.get? b = some o → h'.get? b = some o) (hz : qs.length ≤ sizeLine) (rv : Vals qs us) (hg : h'.get? S = some { cls := .type "list", data := .seq us.toArray c }) :
    LzAt X pins σ k1 k2 a b z TI TO i1 i2 xs ys i (upd H S (.lst qs)) { s with heap := h', toks := tk } := by
  have ne : ∀ c ∈ [z, TI, TO, i1, i2], c ≠ S := fun c hc q => by
    have := (st.fp c hc).1
    rw [q, hS] at this; cases this
  have z0 := ne z (by simp)
  have z1 := ne TI (by simp)
  have z2 := ne TO (by simp)
  have z3 := ne i1 (by simp)
  have z4 := ne i2 (by simp)
  have I2 : Inv X pins σ (upd H S (.lst qs)) { s with heap := h', toks := tk } := st.inv.write (e := S) (by rw [hS]; trivial) (.inl rfl) up ⟨_, hg⟩ ⟨hz, us, c, rv, hg⟩
  obtain ⟨hzp, ⟨a1, a2, hTO⟩, hTI⟩ := st.zip
  refine ⟨I2, fun c hc => FpOk.laid (st.fp c hc) (ne c hc), ⟨?_, ⟨a1, a2, up _ _ z2 hTO⟩, up _ _ z1 hTI⟩, st.it1.at fun o q => up _ _ z3 q, st.it2.at fun o q => up _ _ z4 q, st.q1.but naS, st.q2.but nbS⟩
  rcases hzp with e | ⟨T0, f, oT, e, hT0, hn⟩
  · exact .inl (up _ _ z0 e)
  · by_cases q : T0 = S
    · exact .inr ⟨T0, f, _, up _ _ z0 e, by rw [q]; exact hg, hn⟩
    · exact .inr ⟨T0, f, oT, up _ _ z0 e, up _ _ q hT0, hn⟩
/-- the pairs so far -/
def Prd (xs ys : List V) (H0 H : Hp) (i : Nat) (ps : List V) : Prop := ps.length = i ∧ ∀ (j : Nat) x y, j < i → xs[j]? = some x → ys[j]? = some y → ∃ T, ps[j]? = some (.ref T) ∧ H T = some (.tup [x, y]) ∧ H0 T = none
/-- the loop -/
theorem lz_loop {B : Around} (hc : B.handled = none) (Sp : ZipSep2 z TI TO i1 i2 [i1, a] [i2, b]) (ha : a ≠ i1) (hb : b ≠ i2) (naS : a ≠ S) (nbS : b ≠ S) (hl : xs.length = ys.length) (hn : xs.length ≤ 100000) (res : Value) (H0 : Hp) {R : Result → Shared → Prop}
    (hR : ∀ ps H s, Inv X pins σ H s → H S = some (.lst ps) → Prd xs ys H0 H xs.length ps → (∀ c o, H0 c = some o → c ≠ S → H c = some o) → R (.ok (.ret res)) s) :
    ∀ (k i : Nat) (s : Shared) (ps : List V) (H : Hp), xs.length - i = k → i ≤ xs.length → LzAt X pins σ k1 k2 a b z TI TO i1 i2 xs ys i H s → H S = some (.lst ps) → Prd xs ys H0 H i ps → (∀ c o, H0 c = some o → c ≠ S → H c = some o) →
      codeAny (model X.prog X.w) B (.builtin "list.extend.loop" ⟨[.ref S, .ref z, res], []⟩) R s := by
  intro k
  induction k with
  | zero =>
    intro i s ps H hk hi st hS hp h0
    have e : i = xs.length := by omega
    subst e
    refine codeAny_builtin F.entry_extend_loop ?_
    rw [Around.under_plainId F.plain_extend_loop _]
    show wpAny _ B.in1 (pyNext (.ref z) >>= _) _ _ s
    exact wpAny_bind (lz_end (B := B.in1) hc Sp ha hb st hl fun s' I' => wpAny_pure (hR ps H s' I' hS hp h0))
  | succ k ih =>
    intro i s ps H hk hi st hS hp h0
    refine codeAny_builtin F.entry_extend_loop ?_
    rw [Around.under_plainId F.plain_extend_loop _]
    show wpAny _ B.in1 (pyNext (.ref z) >>= _) _ _ s
    refine wpAny_bind (lz_next (B := B.in1) hc Sp ha hb st (by omega) (by omega) fun T s1 x y hx hy hT st1 => ?_)
    have neT : S ≠ T := ne_of_none hS hT
    have I1 := st1.inv
    have hS1 : upd H T (.tup [x, y]) S = some (.lst ps) := by rw [upd_ne neT]; exact hS
    obtain ⟨hz, its, c, rv, hget⟩ := I1.hok S _ hS1
    show wpAny _ B.in1 (updateSeq S (·.push (.ref T)) >>= _) _ _ _
    have hlen : its.length = i := by rw [← rv.length]; exact hp.1
    have big : i + 1 ≤ sizeLine := Nat.le_trans (show i + 1 ≤ 100000 by omega) (by decide)
    refine wpAny_bind (wpAny_updateSeq hget rfl (wpAny_pure ⟨plainId_quiet F.plain_extend_loop _, ?_⟩) (by rw [List.size_toArray, hlen]; omega) (by rw [Array.size_push, List.size_toArray, hlen]; omega))
    have hg2 := Heap.get?_update_self (Obj.mapSeq (·.push (Value.ref T))) hget rfl
    obtain ⟨c3, hg3⟩ : ∃ c3, (s1.heap.update S (Obj.mapSeq (·.push (Value.ref T)))).get? S = some { cls := .type "list", data := .seq (its ++ [Value.ref T]).toArray c3 } := ⟨_, by rw [hg2]; simp [Obj.mapSeq]; rfl⟩
    have st2 := st1.wrote (tk := s1.toks) hS1 naS nbS (fun b o hb e => (Heap.get?_update_other _ _ (Ne.symm hb)).trans e) (qs := ps ++ [.ref T]) (by rw [List.length_append, hp.1]; exact big) (us := its ++ [Value.ref T]) (rv.append (.cons (show RelV (.ref T) (Value.ref T) from rfl) .nil)) hg3
    refine ih (i + 1) _ (ps ++ [.ref T]) _ (by omega) (by omega) st2 upd_same ⟨by rw [List.length_append, hp.1]; rfl, fun j x' y' hj hx' hy' => ?_⟩ fun c' o hc' hne => ?_
    · by_cases hji : j = i
      · subst hji
        rw [hx] at hx'
        rw [hy] at hy'
        cases hx'
        cases hy'
        exact ⟨T, by rw [List.getElem?_append_right (by rw [hp.1]; exact Nat.le_refl _), hp.1, Nat.sub_self]; rfl, by rw [upd_ne neT.symm, upd_same], by
          cases q : H0 T with
          | none => rfl
          | some o => rw [h0 T o q neT.symm] at hT; cases hT⟩
      · obtain ⟨T', e1, e2, e3⟩ := hp.2 j x' y' (by omega) hx' hy'
        refine ⟨T', by rw [List.getElem?_append_left (by rw [hp.1]; omega)]; exact e1, ?_, e3⟩
        rw [upd_ne (fun q => by rw [q, hS] at e2; cases e2), upd_ne (ne_of_none e2 hT)]; exact e2
    · rw [upd_ne hne, upd_ne (ne_of_none (h0 c' o hc' hne) hT)]; exact h0 c' o hc' hne
/-- list(it) for a zip it that has just been made -/
theorem lz_list {H : Hp} {s : Shared} {Q : Value → Shared → Prop} {E : Value → Shared → Prop} (hc : X.calm = true) (Sp : ZipSep2 z TI TO i1 i2 [i1, a] [i2, b]) (ha : a ≠ i1) (hb : b ≠ i2) (hl : xs.length = ys.length) (hn : xs.length ≤ 100000)
    (st : LzAt X pins σ k1 k2 a b z TI TO i1 i2 xs ys 0 H s) (la : a < s.heap.objs.size) (lb : b < s.heap.objs.size)
    (hQ : ∀ S ps H' s', Inv X pins σ H' s' → H S = none → H' S = some (.lst ps) → Prd xs ys H H' xs.length ps → (∀ c o, H c = some o → H' c = some o) → Q (.ref S) s') :
    wpAny (model X.prog X.w) X.A (call (.type "list") [.ref z]) Q E s := by
  have fr : H s.heap.objs.size = none := st.inv.hok.fresh (Nat.le_refl _)
  have nS : ∀ c ∈ [z, TI, TO, i1, i2], c ≠ s.heap.objs.size := fun c hc => Nat.ne_of_lt (st.low c hc)
  refine callType_codes (Q₁ := fun obj s₁ => obj = .ref s.heap.objs.size ∧ s₁ = { s with heap := s.heap.push { cls := .type "list", data := .seq #[] } }) F.called_list (F.typeCall_list_1 _) F.entry_list_init (code_list_new _ ⟨rfl, rfl⟩) fun obj s₁ h₁ => ?_
  obtain ⟨rfl, rfl⟩ := h₁
  have hS : (s.heap.push { cls := .type "list", data := .seq #[] }).get? s.heap.objs.size = some { cls := .type "list", data := .seq #[] } := Heap.get?_push_size _ rfl
  -- the new list is tracked
  have I1 : Inv X pins σ (upd H s.heap.objs.size (.lst [])) { s with heap := s.heap.push { cls := .type "list", data := .seq #[] } } :=
    st.inv.laid (t' := s.toks) (fun b o e => Heap.get?_push_of_some _ e) (Nat.le_refl _) ⟨Nat.zero_le _, [], 0, .nil, hS⟩
  have st1 : LzAt X pins σ k1 k2 a b z TI TO i1 i2 xs ys 0 (upd H s.heap.objs.size (.lst [])) { s with heap := s.heap.push { cls := .type "list", data := .seq #[] } } := by
    obtain ⟨hzp, ⟨a1, a2, hTO⟩, hTI⟩ := st.zip
    refine ⟨I1, fun c hc => FpOk.laid (st.fp c hc) (nS c hc), ⟨?_, ⟨a1, a2, Heap.get?_push_of_some _ hTO⟩, Heap.get?_push_of_some _ hTI⟩, st.it1.at fun o q => Heap.get?_push_of_some _ q, st.it2.at fun o q => Heap.get?_push_of_some _ q, st.q1.mono (sub_upd fr), st.q2.mono (sub_upd fr)⟩
    rcases hzp with e | ⟨T0, f, oT, e, hT0, hn⟩
    · exact .inl (Heap.get?_push_of_some _ e)
    · exact .inr ⟨T0, f, oT, Heap.get?_push_of_some _ e, Heap.get?_push_of_some _ hT0, hn⟩
  refine ⟨⟨_, hS, rfl⟩, F.args_list_init_2 _ _, ?_⟩
  generalize e0 : s.heap.push { cls := .type "list", data := .seq #[] } = h0 at hS I1 st1 ⊢
  show wpAny _ _ (do let old ← Builtin.List.listItems (.ref s.heap.objs.size); Builtin.List.listUpdate (.ref s.heap.objs.size) (fun _ => #[]); letGo old.toList.reverse; Builtin.List.listExtendWith (.ref s.heap.objs.size) (.ref z) .none) _ _ _
  refine wpAny_bind ?_
  unfold Builtin.List.listItems
  refine wpAny_bind (wpAny_seqItems hS rfl (wpAny_pure ?_))
  show wpAny _ _ (updateSeq s.heap.objs.size (fun _ => #[]) >>= fun _ => letGo (#[] : Array Value).toList.reverse >>= fun _ => Builtin.List.listExtendWith (.ref s.heap.objs.size) (.ref z) .none) _ _ _
  refine wpAny_bind (wpAny_updateSeq hS rfl (wpAny_bind (wpAny_letGo ?_)))
  have a2 := Heap.get?_update_self (Obj.mapSeq (fun _ => (#[] : Array Value))) hS rfl
  have o2 : ∀ b o, b ≠ s.heap.objs.size → h0.get? b = some o → (h0.update s.heap.objs.size (Obj.mapSeq (fun _ => (#[] : Array Value)))).get? b = some o := fun b o hb e => (Heap.get?_update_other _ _ (Ne.symm hb)).trans e
  generalize e2 : h0.update s.heap.objs.size (Obj.mapSeq (fun _ => (#[] : Array Value))) = h2 at a2 o2 ⊢
  have a2' : h2.get? s.heap.objs.size = some { cls := .type "list", data := .seq #[] 0 } := a2
  have zt : (⟨h2, s.gens, s.drawn, s.toks, s.os⟩ : Shared).TypeIs (.ref z) "zip" := by
    obtain ⟨hzp, _⟩ := st1.zip
    have nz : z ≠ s.heap.objs.size := nS z (by simp)
    rcases hzp with e | ⟨T0, f, oT, e, _⟩
    · exact ⟨_, o2 _ _ nz e, rfl⟩
    · exact ⟨_, o2 _ _ nz e, rfl⟩
  unfold Builtin.List.listExtendWith
  refine wpAny_bind (wpAny_typeOf (T := "zip") zt ?_)
  have h1 : Builtin.List.listSameRef (.ref s.heap.objs.size) (.ref z) = false := by
    have nz : s.heap.objs.size ≠ z := (nS z (by simp)).symm
    simp [Builtin.List.listSameRef, nz]
  have hb2 : (Value.type "zip" == Value.type "list") = false := by decide
  have hb3 : (Value.type "zip" == Value.type "tuple") = false := by decide
  simp only [h1, hb2, hb3, Bool.or_false, Bool.false_eq_true, if_false]
  have selfI : ∀ (h : Heap), (∀ b o, b ≠ s.heap.objs.size → h0.get? b = some o → h.get? b = some o) → ∀ (Q : Value → Shared → Prop) (E : Value → Shared → Prop), Q (.ref z) ⟨h, s.gens, s.drawn, s.toks, s.os⟩ → wpAny (model X.prog X.w) X.A.in1.in1 (pyIter (.ref z)) Q E ⟨h, s.gens, s.drawn, s.toks, s.os⟩ := by
    intro h up Q E q
    have hT : (⟨h, s.gens, s.drawn, s.toks, s.os⟩ : Shared).TypeIs (.ref z) "zip" := by
      obtain ⟨hzp, _⟩ := st1.zip
      have nz : z ≠ s.heap.objs.size := nS z (by simp)
      rcases hzp with e | ⟨T0, f, oT, e, _⟩
      · exact ⟨_, up _ _ nz e, rfl⟩
      · exact ⟨_, up _ _ nz e, rfl⟩
    refine wpAny_pyIter_slot hT F.slot_zip_iter (wpAny_call_entry F.slot_zip_iter hT F.entry_zip_iter ?_ (F.args_zip_iter_1 _))
    exact wpAny_pure ⟨_, rfl, "zip", _, hT, F.slot_zip_next.lookup, q⟩
  refine wpAny_bind (selfI h2 o2 _ _ (wpAny_bind (wpAny_holding ?_)))
  unfold Builtin.List.listLengthHint
  refine wpAny_bind (wpAny_specialOf zt (show typeLookup (.type "zip") "__len__" = pure none by rw [typeLookup_type, builtinLookup_eq_fast]; kernel_rfl) ?_)
  show wpAny _ _ (specialOf (Value.ref z) (Str.ofString "__length_hint__") >>= _) _ _ _
  refine wpAny_bind (wpAny_specialOf zt (show typeLookup (.type "zip") "__length_hint__" = pure none by rw [typeLookup_type, builtinLookup_eq_fast]; kernel_rfl) (wpAny_pure ?_))
  show wpAny _ _ (rule _ >>= _) _ _ _
  refine wpAny_bind (wpAny_rule (wpAny_bind ?_))
  show wpAny _ _ (updateSeq s.heap.objs.size (·.push .none) >>= fun _ => updateSeq s.heap.objs.size (·.pop)) _ _ _
  refine wpAny_bind (wpAny_updateSeq a2' rfl ?_)
  have a3 := Heap.get?_update_self (Obj.mapSeq (·.push Value.none)) a2' rfl
  refine wpAny_updateSeq (hz := by seq_fits) a3 rfl ?_
  have a4 := Heap.get?_update_self (Obj.mapSeq (·.pop)) a3 rfl
  have o4 : ∀ b o, b ≠ s.heap.objs.size → h0.get? b = some o → ((h2.update s.heap.objs.size (Obj.mapSeq (·.push Value.none))).update s.heap.objs.size (Obj.mapSeq (·.pop))).get? b = some o := fun b o hb e =>
    (Heap.get?_update_other _ _ (Ne.symm hb)).trans ((Heap.get?_update_other _ _ (Ne.symm hb)).trans (o2 b o hb e))
  generalize (h2.update s.heap.objs.size (Obj.mapSeq (·.push Value.none))).update s.heap.objs.size (Obj.mapSeq (·.pop)) = h4 at a4 o4 ⊢
  obtain ⟨c4, a4'⟩ : ∃ c4, h4.get? s.heap.objs.size = some { cls := .type "list", data := .seq ([] : List Value).toArray c4 } := ⟨_, a4⟩
  have st4 := st1.wrote (tk := s.toks) (qs := []) (us := []) (ps := []) upd_same (Nat.ne_of_lt la) (Nat.ne_of_lt lb) o4 (Nat.zero_le _) .nil a4'
  refine wpAny_pure ⟨plainId_quiet F.plain_extend_loop _, ?_⟩
  refine lz_loop (B := X.A.in1) (S := s.heap.objs.size) (st.inv.ok.hd hc) Sp ha hb (Nat.ne_of_lt la) (Nat.ne_of_lt lb) hl hn .none H (fun ps H' s' I' hS' hp h0' => ?_) xs.length 0 _ [] _ rfl (Nat.zero_le _) st4 upd_same ⟨rfl, fun j x y hj => absurd hj (Nat.not_lt_zero _)⟩ ?_
  · exact ⟨rfl, hQ _ ps H' s' I' fr hS' hp fun c o e => h0' c o e (ne_of_none e fr)⟩
  · intro c o e ne
    rw [upd_ne ne, upd_ne ne]; exact e
/-- list(zip(e, e2)) of two sequences of one length -/
def tListZip (K : PySem.W.Frag) (ta : TA) : TE := fun σ H Q => ta σ H fun vs H1 => ∃ k1 k2 a b xs ys, vs = [.ref a, .ref b] ∧ Src k1 K H1 a xs ∧ Src k2 K H1 b ys ∧ xs.length = ys.length ∧ xs.length ≤ 100000 ∧
  ∀ S ps H', H1 S = none → H' S = some (.lst ps) → Prd xs ys H1 H' xs.length ps → (∀ c o, H1 c = some o → H' c = some o) → Q (.ref S) H'
theorem p_listZip {e e2 : Expr} {ta : TA} {p pos p2 pos2 : Pos} (hc : X.calm = true) (hgl : Gl X "list") (hml : X.mg "list" = none) (hg : Gl X "zip") (hm : X.mg "zip" = none) (ha : PA X [e, e2] ta)
    (hs : starEach [e, e2] X.env = (false, eval e X.env) :: starEach [e2] X.env := by rfl) (hpl : (backTo pos2 (starEach [e2] X.env)).any (·.1) = false := by rfl) :
    PE X (.Call (.Name "list" p) [.Call (.Name "zip" p2) [e, e2] [] pos2] [] pos) (tListZip X.K ta) := by
  constructor
  intro pins s σ H Q I h
  refine PyProof.Rows.Call_ (ld_blt I hgl hml PyProof.Rows.boot_list (PyProof.Rows.callWith_type1 ?_ rfl rfl))
  show wpAny _ _ (spliced [(false, eval (.Call (.Name "zip" p2) [e, e2] [] pos2) X.env)]) _ _ s
  refine Calls.spliced_cons ?_
  refine PyProof.Rows.Call_ (ld_blt I hg hm PyProof.Rows.boot_zip (PyProof.Rows.callWith_type1 (thn (ha.run pos2 pins s σ H _ I h) ?_) hs hpl))
  rintro us s1 ⟨vs, H1, I1, r1, k1, k2, a, b, xs, ys, rfl, q1, q2, hl, hn, q⟩
  obtain ⟨u1, u2, rfl, r1, r2⟩ := vals2 r1
  cases r1
  cases r2
  obtain ⟨la, o1, P1, B1, hP1, f1⟩ := src_begins I1 q1
  obtain ⟨lb, o2, P2, B2, hP2, f2⟩ := src_begins I1 q2
  refine zip_begins2 B1 B2 hP1 hP2 fun h' hz hTI hTO g1 g2 hsz hk => Calls.spliced_nil ?_
  have I2 : Inv X pins σ H1 { s1 with heap := h' } := I1.kept (t' := s1.toks) hk
  have big : ∀ {c : Addr}, c < s1.heap.objs.size → c < h'.objs.size := fun hlt => by rw [hsz]; exact Nat.lt_of_lt_of_le hlt (Nat.le_add_right _ _)
  refine lz_list (s := { s1 with heap := h' }) hc (zip_sepU la lb) (Nat.ne_of_lt la) (Nat.ne_of_lt (Nat.lt_succ_of_lt lb)) hl hn ⟨I2, zip_fp I1, ⟨.inl hz, ⟨_, _, hTO⟩, hTI⟩, f1 _ _ g1, f2 _ _ g2, q1, q2⟩ (big la) (big lb) ?_
  intro S ps H' s' I' hS hS' hp hx
  exact ⟨.ref S, H', I', rfl, q S ps H' hS hS' hp hx⟩
end
end DL

set_option maxHeartbeats 4000000
namespace DL
open PySem L2
/-- what a sequence is, as a datum: a tuple or a list -/
def SeqD (O : List (Addr × List D)) (d : D) (xs : List D) : Prop := d = .tup xs ∨ IsL O d xs
section
variable {E : Eb} {G : List (Option D)} {O : List (Addr × List D)} {S S0 Sx : List (V × D)} {F F' H H' : Hp} {σ : L2.St} {v x y : V} {d e : D} {Q : VK} {vs : List V} {ds as bs : List D} {tas : TA} {te : TE}
theorem FO.srcOf (fo : FO E G O S F σ H) (r : Rp E.K F v d) (h : SeqD O d ds) : ∃ k a ws, v = .ref a ∧ Src k E.K H a ws ∧ RpL E.K F ws ds := by
  rcases h with rfl | h
  · obtain ⟨a, ws, rfl, h, r⟩ := fo.tupOf r
    exact ⟨true, a, ws, rfl, .inl (.inl h), r⟩
  · obtain ⟨a, ws, rfl, h, r⟩ := fo.lstOf r h
    exact ⟨false, a, ws, rfl, .inl (.inl h), r⟩
/-! ### tuple(..), list(..) -/
def cTuple (K : PySem.W.Frag) : List V → Hp → VK → Prop := fun xs H Q => ∃ p ys, xs = [.ref p] ∧ ((SqL K H p ys ∧ ∀ l, H l = none → Q (.ref l) (upd H l (.tup ys))) ∨ (SqT K H p ys ∧ Q (.ref p) H))
theorem p_tuple {X : Cx} : CallR X (.type "tuple") (cTuple X.K) := call_tuple_of
theorem x_tupleOf (fo : FO E G O ((x, d) :: S) F σ H) (hx : SeqD O d ds) (k : ∀ v F' H', FO E G O ((v, .tup ds) :: S) F' σ H' → Q v H') : cTuple E.K [x] H Q := by
  rcases hx with rfl | hx
  · obtain ⟨a, ws, rfl, h, r⟩ := fo.tupOf fo.top
    exact ⟨a, ws, rfl, .inr ⟨.inl (.inl h), k _ _ _ fo⟩⟩
  · obtain ⟨a, ws, rfl, h, r⟩ := fo.lstOf fo.top hx
    exact ⟨a, ws, rfl, .inl ⟨.inl (.inl h), fun l hl => k _ _ _ (fo.pop.newT hl r)⟩⟩
def cList (K : PySem.W.Frag) : List V → Hp → VK → Prop := fun xs H Q => ∃ p ys, xs = [.ref p] ∧ (SqL K H p ys ∨ SqT K H p ys) ∧ ∀ l, H l = none → Q (.ref l) (upd H l (.lst ys))
def cListO (K : PySem.W.Frag) : List V → Hp → VK → Prop := cList K
theorem p_list {X : Cx} : CallR X (.type "list") (cList X.K) := call_list_of
theorem p_listO {X : Cx} : CallR X (.type "list") (cListO X.K) := call_list_of
theorem x_listOf (fo : FO E G O ((x, d) :: S) F σ H) (hx : SeqD O d ds) (k : ∀ p F' H', FO E G O ((.ref p, .lst ds) :: S) F' σ H' → Q (.ref p) H') : cList E.K [x] H Q := by
  rcases hx with rfl | hx
  · obtain ⟨a, ws, rfl, h, r⟩ := fo.tupOf fo.top
    exact ⟨a, ws, rfl, .inr (.inl (.inl h)), fun l hl => k _ _ _ (fo.pop.newL hl r)⟩
  · obtain ⟨a, ws, rfl, h, r⟩ := fo.lstOf fo.top hx
    exact ⟨a, ws, rfl, .inl (.inl (.inl h)), fun l hl => k _ _ _ (fo.pop.newL hl r)⟩
theorem x_listOfO (fo : FO E G O ((x, d) :: S) F σ H) (hx : SeqD O d ds) (k : ∀ p F' H', FO E G ((p, ds) :: O) ((.ref p, .raw (.ref p)) :: S) F' σ H' → Q (.ref p) H') : cListO E.K [x] H Q := by
  rcases hx with rfl | hx
  · obtain ⟨a, ws, rfl, h, r⟩ := fo.tupOf fo.top
    exact ⟨a, ws, rfl, .inr (.inl (.inl h)), fun l hl => k _ _ _ ((fo.pop.allocO hl r).push (.raw _))⟩
  · obtain ⟨a, ws, rfl, h, r⟩ := fo.lstOf fo.top hx
    exact ⟨a, ws, rfl, .inl (.inl (.inl h)), fun l hl => k _ _ _ ((fo.pop.allocO hl r).push (.raw _))⟩
/-! ### min(xs), max(xs) of a list of ints -/
def cMinL (K : PySem.W.Frag) : List V → Hp → VK → Prop := rMin K
def cMaxL (K : PySem.W.Frag) : List V → Hp → VK → Prop := rMax K
theorem p_minL {X : Cx} (hc : X.calm = true) : CallR X (.builtin "min") (cMinL X.K) := cr_min hc
theorem p_maxL {X : Cx} (hc : X.calm = true) : CallR X (.builtin "max") (cMaxL X.K) := cr_max hc
theorem RpL.ints {K : PySem.W.Frag} : ∀ {ns : List Int} {vs : List V}, RpL K F vs (ns.map D.int) → vs = ns.map V.int
  | [], _, h => h.nil_eq
  | n :: ns, _, h => by
    obtain ⟨v, ws, rfl, a, b⟩ := h.cons_of
    rw [Rp.raw_eq a, RpL.ints b]; rfl
theorem x_minL {ns : List Int} (fo : FO E G O ((x, d) :: S) F σ H) (hx : IsL O d (ns.map D.int)) (h0 : 0 < ns.length) (k : ∀ m, m ∈ ns → (∀ y, y ∈ ns → m ≤ y) → FO E G O ((.int m, .raw (.int m)) :: S) F σ H → Q (.int m) H) : cMinL E.K [x] H Q := by
  obtain ⟨a, ws, rfl, h, r⟩ := fo.lstOf fo.top hx
  have e := r.ints; subst e
  exact ⟨a, ns, rfl, .inl (.inl h), h0, fun m h1 h2 => k m h1 h2 (fo.pop.push (.raw _))⟩
theorem x_maxL {ns : List Int} (fo : FO E G O ((x, d) :: S) F σ H) (hx : IsL O d (ns.map D.int)) (h0 : 0 < ns.length) (k : ∀ m, m ∈ ns → (∀ y, y ∈ ns → y ≤ m) → FO E G O ((.int m, .raw (.int m)) :: S) F σ H → Q (.int m) H) : cMaxL E.K [x] H Q := by
  obtain ⟨a, ws, rfl, h, r⟩ := fo.lstOf fo.top hx
  have e := r.ints; subst e
  exact ⟨a, ns, rfl, .inl (.inl h), h0, fun m h1 h2 => k m h1 h2 (fo.pop.push (.raw _))⟩
/-! ### any(xs), all(xs) of a list of bools -/
def cAny (K : PySem.W.Frag) : List V → Hp → VK → Prop := rAny K
def cAll (K : PySem.W.Frag) : List V → Hp → VK → Prop := rAll K
theorem p_any {X : Cx} (hc : X.calm = true) : CallR X (.builtin "any") (cAny X.K) := cr_any hc
theorem p_all {X : Cx} (hc : X.calm = true) : CallR X (.builtin "all") (cAll X.K) := cr_all hc
theorem RpL.bls {K : PySem.W.Frag} : ∀ {ns : List Bool} {vs : List V}, RpL K F vs (ns.map D.bl) → vs = ns.map V.bl
  | [], _, h => h.nil_eq
  | n :: ns, _, h => by
    obtain ⟨v, ws, rfl, a, b⟩ := h.cons_of
    rw [Rp.raw_eq a, RpL.bls b]; rfl
theorem x_any {ns : List Bool} (fo : FO E G O ((x, d) :: S) F σ H) (hx : IsL O d (ns.map D.bl)) (k : FO E G O ((.bl (ns.any id), .raw (.bl (ns.any id))) :: S) F σ H → Q (.bl (ns.any id)) H) : cAny E.K [x] H Q := by
  obtain ⟨a, ws, rfl, h, r⟩ := fo.lstOf fo.top hx
  have e := r.bls; subst e
  exact ⟨a, ns, rfl, .inl (.inl h), k (fo.pop.push (.raw _))⟩
theorem x_all {ns : List Bool} (fo : FO E G O ((x, d) :: S) F σ H) (hx : IsL O d (ns.map D.bl)) (k : FO E G O ((.bl (ns.all id), .raw (.bl (ns.all id))) :: S) F σ H → Q (.bl (ns.all id)) H) : cAll E.K [x] H Q := by
  obtain ⟨a, ws, rfl, h, r⟩ := fo.lstOf fo.top hx
  have e := r.bls; subst e
  exact ⟨a, ns, rfl, .inl (.inl h), k (fo.pop.push (.raw _))⟩
/-! ### isinstance -/
/-- the built-in type of a datum -/
def tyD : D → Option String
  | .raw .non => some "NoneType"
  | .raw (.bl _) => some "bool"
  | .raw (.int _) => some "int"
  | .raw (.str _) => some "str"
  | .lst _ => some "list"
  | .tup _ => some "tuple"
  | _ => none
theorem FO.tyX {t : String} (fo : FO E G O S F σ H) (r : Rp E.K F v d) (h : tyD d = some t) : TyX E.K H v (.type t) := by
  cases r with
  | raw v =>
    cases v <;> simp only [tyD] at h <;> cases h
    · exact .base .non
    · exact .base (.bl _)
    · exact .base (.int _)
    · exact .base (.str _)
  | lst a b => simp only [tyD] at h; cases h; exact .base (.lst (fo.sub _ _ a))
  | tup a b => simp only [tyD] at h; cases h; exact .base (.tup (fo.sub _ _ a))
  | obj _ _ _ => simp only [tyD] at h; cases h
  | pin _ => simp only [tyD] at h; cases h
def cIsi (K : PySem.W.Frag) : List V → Hp → VK → Prop := fun xs H Q => rIsi K xs H Q ∨ rIsiT K xs H Q
theorem p_isi {X : Cx} : CallR X (.builtin "isinstance") (cIsi X.K) := by
  intro pins s σ H xs us Q I rs q
  rcases q with q | q
  · exact call_isi pins s σ H xs us Q I rs q
  · exact call_isiT pins s σ H xs us Q I rs q
theorem x_isi {t n : String} {b : Bool} (fo : FO E G O ((y, .raw (.ty n)) :: (x, d) :: S) F σ H) (ht : tyD d = some t) (hk : kitB t n = some b) (k : FO E G O ((.bl b, .raw (.bl b)) :: S) F σ H → Q (.bl b) H) : cIsi E.K [x, y] H Q := by
  have e := fo.top.raw_eq; subst e
  exact .inl ⟨x, _, _, _, b, rfl, .ty n, fo.tyX fo.snd ht, kit_ty hk, k (fo.pop.pop.push (.raw _))⟩
/-- a tuple of two built-in classes -/
theorem x_isi2 {t n m : String} {b c : Bool} (fo : FO E G O ((y, .tup [.raw (.ty n), .raw (.ty m)]) :: (x, d) :: S) F σ H) (ht : tyD d = some t) (hk : kitB t n = some b) (hk2 : kitB t m = some c) (k : FO E G O ((.bl (b || c), .raw (.bl (b || c))) :: S) F σ H → Q (.bl (b || c)) H) : cIsi E.K [x, y] H Q := by
  obtain ⟨a, ws, rfl, h, r⟩ := fo.tupOf fo.top
  obtain ⟨v1, ws, rfl, r1, r⟩ := r.cons_of
  obtain ⟨v2, ws, rfl, r2, r⟩ := r.cons_of
  have e := r.nil_eq; subst e
  have e1 := r1.raw_eq; subst e1
  have e2 := r2.raw_eq; subst e2
  refine .inr ⟨x, a, _, _, [.type n, .type m], b || c, rfl, h, .cons (.ty n) (.cons (.ty m) .nil), fo.tyX fo.snd ht, ?_, k (fo.pop.pop.push (.raw _))⟩
  refine kitAny_cons (kit_ty hk) (fun hb => ?_) (fun hb => by rw [hb]; rfl)
  rw [hb, Bool.false_or]
  refine kitAny_cons (kit_ty hk2) (fun hc => ?_) (fun hc => hc)
  rw [hc]; exact kitAny_nil
/-! ### methods of lists that the body owns -/
def tMet0 (K : PySem.W.Frag) (T : String) (r : V → List V → Hp → VK → Prop) (to : TE) : TE := tBM0 K T r to
def kMet (K : PySem.W.Frag) (T : String) (r : V → List V → Hp → VK → Prop) (t : TA) (σ : L2.St) (Q : VK) (x : V) (H1 : Hp) : Prop := tyV K T x H1 ∧ t σ H1 fun xs H2 => r x xs H2 Q
def kMet0 (K : PySem.W.Frag) (T : String) (r : V → List V → Hp → VK → Prop) (Q : VK) (x : V) (H1 : Hp) : Prop := tyV K T x H1 ∧ r x [] H1 Q
theorem x_met {K : PySem.W.Frag} {T : String} {r : V → List V → Hp → VK → Prop} (h : te σ H (kMet K T r tas σ Q)) : tBM K T r te tas σ H Q := h
theorem x_met0 {K : PySem.W.Frag} {T : String} {r : V → List V → Hp → VK → Prop} (h : te σ H (kMet0 K T r Q)) : tBM0 K T r te σ H Q := h
theorem x_kMetL {r : V → List V → Hp → VK → Prop} (fo : FO E G O ((x, d) :: S) F σ H) (hx : IsL O d ds) (k : tas σ H fun xs H2 => r x xs H2 Q) : kMet E.K "list" r tas σ Q x H := by
  obtain ⟨a, ws, rfl, h, _⟩ := fo.lstOf fo.top hx
  exact ⟨.inl ⟨rfl, ws, .inl (.inl h)⟩, k⟩
theorem x_kMet0L {r : V → List V → Hp → VK → Prop} (fo : FO E G O ((x, d) :: S) F σ H) (hx : IsL O d ds) (k : r x [] H Q) : kMet0 E.K "list" r Q x H := by
  obtain ⟨a, ws, rfl, h, _⟩ := fo.lstOf fo.top hx
  exact ⟨.inl ⟨rfl, ws, .inl (.inl h)⟩, k⟩
theorem x_append {p : Addr} (fo : FO E G ((p, ds) :: O) ((y, d) :: (x, .raw (.ref p)) :: S) F σ H) (hl : ds.length < 100000) (k : ∀ H', FO E G ((p, ds ++ [d]) :: O) ((.non, .raw .non) :: S) F σ H' → Q .non H') : rAppend x [y] H Q := by
  obtain ⟨ws, h, r, _⟩ := fo.own _ List.mem_cons_self
  exact ⟨p, ws, y, fo.snd.raw_eq, rfl, h, by rw [r.length]; exact Nat.lt_trans hl (by decide), k _ ((fo.pop.pop.mut (r.append (.cons fo.top .nil))).push (.raw _))⟩
theorem x_extend {p : Addr} (fo : FO E G ((p, ds) :: O) ((y, e) :: (x, .raw (.ref p)) :: S) F σ H) (hy : IsL O e as) (hl : ds.length + as.length ≤ 100000) (k : ∀ H', FO E G ((p, ds ++ as) :: O) ((.non, .raw .non) :: S) F σ H' → Q .non H') : rExtend x [y] H Q := by
  obtain ⟨ws, h, r, _⟩ := fo.own _ List.mem_cons_self
  have hy' : IsL ((p, ds) :: O) e as := by
    rcases hy with q | ⟨q, a, b⟩
    · exact .inl q
    · exact .inr ⟨q, a, List.mem_cons_of_mem _ b⟩
  obtain ⟨b, us, rfl, h2, r2⟩ := fo.lstOf fo.top hy'
  exact ⟨p, b, ws, us, fo.snd.raw_eq, rfl, h, h2, by rw [r.length, r2.length]; exact Nat.le_trans hl (by decide), k _ ((fo.pop.pop.mut (r.append r2)).push (.raw _))⟩
theorem x_popL {p : Addr} {z : D} (fo : FO E G ((p, ds ++ [z]) :: O) ((x, .raw (.ref p)) :: S) F σ H) (k : ∀ v H', FO E G ((p, ds) :: O) ((v, z) :: S) F σ H' → Q v H') : rPop x [] H Q := by
  obtain ⟨ws, h, r, _⟩ := fo.own _ List.mem_cons_self
  have hl : ws.length = ds.length + 1 := by rw [r.length]; simp
  obtain ⟨v, hv, rv⟩ := r.get (i := ds.length) (d := z) (by simp)
  have r' : RpL E.K F ws.dropLast ds := by
    have := r.take ds.length
    rw [List.dropLast_eq_take, hl]
    simpa using this
  exact ⟨p, ws, v, fo.top.raw_eq, rfl, h, by rw [hl]; exact hv, k v _ ((fo.pop.mut r').push rv)⟩
/-- xs[i] = e of a list that the body owns -/
theorem x_setI {p : Addr} {i : Int} {j : Nat} {Z : L2.St → Hp → Prop} {w : V} (fo : FO E G ((p, ds) :: O) ((y, .raw (.int i)) :: (x, .raw (.ref p)) :: (w, d) :: S) F σ H) (hj : ixN ds.length i = some j) (k : ∀ H', FO E G ((p, ds.set j d) :: O) S F σ H' → Z σ H') : rSetL x y w H (fun H3 => Z σ H3) := by
  obtain ⟨ws, h, r, _⟩ := fo.own _ List.mem_cons_self
  exact ⟨p, ws, i, j, fo.snd.raw_eq, fo.top.raw_eq, h, by rw [r.length]; exact hj, k _ (fo.pop.pop.pop.mut (r.set j fo.pop.pop.top))⟩
theorem x_gsub {to ti : TE} {t : TSet} {Z : L2.St → Hp → Prop} (h : to σ H fun o H1 => ti σ H1 fun i H2 => t o i v H2 fun H3 => Z σ H3) : gSub to ti t v σ H Z := h
/-! ### zip, list(zip(..)) -/
def kZip (K : PySem.W.Frag) (sb : Bool) (R : It → Hp → Prop) (vs : List V) (H1 : Hp) : Prop := ∃ k1 k2 a b xs ys, vs = [.ref a, .ref b] ∧ Src k1 K H1 a xs ∧ Src k2 K H1 b ys ∧ R (Izu K k1 k2 sb a b xs ys) H1
theorem x_zip {K : PySem.W.Frag} {sb : Bool} {R : It → Hp → Prop} (h : tas σ H (kZip K sb R)) : iZipU K sb tas σ H R := h
/-- the pairs of two rows of data -/
def pairD (as bs : List D) (i : Nat) : D := .tup [itOf as i, itOf bs i]
/-- a sequence known for ever: which, and how it is told of again -/
theorem src_pin (fo : FO E G O S F σ H) (r : Rp E.K F v d) (h : d = .tup ds ∨ d = .lst ds) : ∃ k a ws o, v = .ref a ∧ Rp E.K F v (.pin o) ∧ Src k E.K H a ws ∧ ws.length = ds.length ∧ ∀ F' H', Rp E.K F' v (.pin o) → Rp E.K F' v d → Sub F' H' → Src k E.K H' a ws ∧ RpL E.K F' ws ds := by
  rcases h with rfl | rfl
  · obtain ⟨a, ws, rfl, h, rl⟩ := r.tup_at
    refine ⟨true, a, ws, .tup ws, rfl, .pin h, .inl (.inl (fo.sub _ _ h)), rl.length, fun F' H' p r' s => ?_⟩
    obtain ⟨b, e, hb⟩ := p.pin_at
    cases e
    obtain ⟨b, ws', e, hb', rl'⟩ := r'.tup_at
    cases e
    rw [hb] at hb'
    cases hb'
    exact ⟨.inl (.inl (s _ _ hb)), rl'⟩
  · obtain ⟨a, ws, rfl, h, rl⟩ := r.lst_at
    refine ⟨false, a, ws, .lst ws, rfl, .pin h, .inl (.inl (fo.sub _ _ h)), rl.length, fun F' H' p r' s => ?_⟩
    obtain ⟨b, e, hb⟩ := p.pin_at
    cases e
    obtain ⟨b, ws', e, hb', rl'⟩ := r'.lst_at
    cases e
    rw [hb] at hb'
    cases hb'
    exact ⟨.inl (.inl (s _ _ hb)), rl'⟩
theorem x_kZip {sb : Bool} {R : It → Hp → Prop} (fo : FO E G O ((y, e) :: (x, d) :: S) F σ H) (hx : d = .tup as ∨ d = .lst as) (hy : e = .tup bs ∨ e = .lst bs) (hl : sb = true → as.length = bs.length)
    (k : ∀ J p q, DW E.K J (min as.length bs.length) (pairD as bs) [(x, p), (y, q), (y, e), (x, d)] → FO E G O ((x, p) :: (y, q) :: (y, e) :: (x, d) :: S) F σ H → R J H) : kZip E.K sb R [x, y] H := by
  obtain ⟨k1, a, ws, o1, rfl, p1, s1, l1, t1⟩ := src_pin fo fo.snd hx
  obtain ⟨k2, b, us, o2, rfl, p2, s2, l2, t2⟩ := src_pin fo fo.top hy
  refine ⟨k1, k2, a, b, ws, us, rfl, s1, s2, k _ (.pin o1) (.pin o2) ?_ ((fo.push p2).push p1)⟩
  have src : ∀ F H, (∀ p ∈ [((.ref a : V), D.pin o1), ((.ref b : V), D.pin o2), ((.ref b : V), e), ((.ref a : V), d)], Rp E.K F p.1 p.2) → Sub F H → Src k1 E.K H a ws ∧ RpL E.K F ws as ∧ Src k2 E.K H b us ∧ RpL E.K F us bs := fun F H h s => by
    have a1 := t1 F H (h (.ref a, .pin o1) (by simp)) (h (.ref a, d) (by simp)) s
    have a2 := t2 F H (h (.ref b, .pin o2) (by simp)) (h (.ref b, e) (by simp)) s
    exact ⟨a1.1, a1.2, a2.1, a2.2⟩
  refine ⟨fun i F H hi h s => ?_, fun F H h s => ?_, fun i F H x H' hi h s y => ?_⟩
  · obtain ⟨q1, _, q2, _⟩ := src F H h s
    exact ⟨q1, q2, by omega, by omega⟩
  · obtain ⟨q1, _, q2, _⟩ := src F H h s
    exact ⟨q1, q2, by omega, by omega, by omega, fun hb => by have := hl hb; omega⟩
  · obtain ⟨_, r1, _, r2⟩ := src F H h s
    obtain ⟨T, x1, y1, rfl, hT, rfl, e1, e2⟩ := y
    obtain ⟨d1, g1, z1⟩ := r1.getV e1
    obtain ⟨d2, g2, z2⟩ := r2.getV e2
    refine .inr ⟨T, .tup [x1, y1], hT, rfl, ?_⟩
    have ff : Sub F (upd F T (.tup [x1, y1])) := sub_upd (s.none hT)
    unfold pairD
    rw [itOf_some g1, itOf_some g2]
    exact .tup upd_same (.cons (z1.mono ff) (.cons (z2.mono ff) .nil))
/-- list(zip(a, b)) -/
def kLz (K : PySem.W.Frag) (Q : VK) (vs : List V) (H1 : Hp) : Prop := ∃ k1 k2 a b xs ys, vs = [.ref a, .ref b] ∧ Src k1 K H1 a xs ∧ Src k2 K H1 b ys ∧ xs.length = ys.length ∧ xs.length ≤ 100000 ∧
  ∀ S ps H', H1 S = none → H' S = some (.lst ps) → Prd xs ys H1 H' xs.length ps → (∀ c o, H1 c = some o → H' c = some o) → Q (.ref S) H'
theorem x_listZip {K : PySem.W.Frag} (h : tas σ H (kLz K Q)) : tListZip K tas σ H Q := h
theorem prd_rpl {K : PySem.W.Frag} {xs ys : List V} {F' H0 H' : Hp} (hf : ∀ T x y, H0 T = none → H' T = some (.tup [x, y]) → F' T = some (.tup [x, y])) (r1 : RpL K F' xs as) (r2 : RpL K F' ys bs) : ∀ {ps : List V}, xs.length = ys.length → Prd xs ys H0 H' xs.length ps → RpL K F' ps ((List.range xs.length).map (pairD as bs)) := by
  intro ps hl hp
  have gen : ∀ (n : Nat), n ≤ xs.length → RpL K F' (ps.take n) ((List.range n).map (pairD as bs)) := by
    intro n
    induction n with
    | zero => intro _; simpa using RpL.nil
    | succ n ih =>
      intro hn
      have hx : xs[n]? = some xs[n] := List.getElem?_eq_getElem (by omega)
      have hy : ys[n]? = some (ys[n]'(by omega)) := List.getElem?_eq_getElem (by omega)
      obtain ⟨T, e1, e2, e3⟩ := hp.2 n _ _ (by omega) hx hy
      obtain ⟨d1, g1, z1⟩ := r1.getV hx
      obtain ⟨d2, g2, z2⟩ := r2.getV hy
      rw [List.range_succ, List.map_append, List.take_succ, e1]
      refine (ih (by omega)).append (.cons ?_ .nil)
      unfold pairD
      rw [itOf_some g1, itOf_some g2]
      exact .tup (hf _ _ _ e3 e2) (.cons z1 (.cons z2 .nil))
  have := gen xs.length (Nat.le_refl _)
  rwa [List.take_of_length_le (by rw [hp.1]; exact Nat.le_refl _)] at this
theorem x_kLz (fo : FO E G O ((y, e) :: (x, d) :: S) F σ H) (hx : SeqD O d as) (hy : SeqD O e bs) (hl : as.length = bs.length) (hn : as.length ≤ 100000)
    (k : ∀ p F' H', FO E G O ((.ref p, .lst ((List.range as.length).map (pairD as bs))) :: S) F' σ H' → Q (.ref p) H') : kLz E.K Q [x, y] H := by
  obtain ⟨k1, a, ws, rfl, s1, r1⟩ := fo.srcOf fo.snd hx
  obtain ⟨k2, b, us, rfl, s2, r2⟩ := fo.srcOf fo.top hy
  refine ⟨k1, k2, a, b, ws, us, rfl, s1, s2, by rw [r1.length, r2.length]; exact hl, by rw [r1.length]; exact hn, fun p ps H' hp hp' prd kp => ?_⟩
  -- what is new and known: the list and its pairs
  have dn : ∀ c, Decidable (H c = none) := fun c => by cases H c <;> infer_instance
  let F' : Hp := fun c => match F c with
    | some o => some o
    | none => match H c with
      | some _ => none
      | none => H' c
  have ff : Sub F F' := fun c o e => by show (match F c with | some o => some o | none => _) = _; rw [e]
  have sb : Sub F' H' := fun c o e => by
    have e' : (match F c with | some o => some o | none => match H c with | some _ => none | none => H' c) = some o := e
    cases q : F c with
    | some u => rw [q] at e'; cases e'; exact kp _ _ (fo.sub _ _ q)
    | none =>
      rw [q] at e'
      cases q2 : H c with
      | some u => rw [q2] at e'; cases e'
      | none => rw [q2] at e'; exact e'
  have nw : ∀ c o, H c = none → H' c = some o → F' c = some o := fun c o e1 e2 => by
    show (match F c with | some o => some o | none => match H c with | some _ => none | none => H' c) = some o
    rw [fo.sub.none e1, e1]; exact e2
  have st : Step E.M E.B F H F' H' := ⟨ff, sb, fun c o e _ => kp c o e, fun c e1 e2 => by
    show (match F c with | some o => some o | none => match H c with | some _ => none | none => H' c) = none
    rw [e1]
    cases q : H c with
    | none => exact absurd q e2
    | some u => rfl, fun b q => by
    obtain ⟨o, e, t⟩ := fo.box b q
    exact ⟨o, kp _ _ e, t⟩⟩
  have rr : RpL E.K F' ps ((List.range as.length).map (pairD as bs)) := by
    have q := prd_rpl (K := E.K) (F' := F') (fun T x y e1 e2 => nw _ _ e1 e2) (r1.mono ff) (r2.mono ff) (by rw [r1.length, r2.length]; exact hl) prd
    rwa [r1.length] at q
  exact k p F' H' ((fo.pop.pop.step st).push (.lst (nw _ _ hp hp') rr))
end
end DL

set_option maxHeartbeats 4000000
/-! DLf: calls of the text's own defs, methods, properties, classes, operators. -/
namespace DL
open PySem L2

/-- a def's promise by positional values; g: it is wanted under no repr guard alone -/
def FnS (g : Bool) (P : Program) (w : World) (K : PySem.W.Frag) (mg : Str → Option Value) (base : Heap) (k : Nat) (f : Addr) (sp : Sp) : Prop :=
  ∀ (A : Around) (outer : List Env) (s : Shared) (H : Hp) (us : List Value) (vs : List V) (Q : VK) (Ex : XK), Room k A → (g = true → A.guards = some []) → Env0 P w K mg base A outer s H → Vals vs us → sp vs H Q Ex →
    codeAny (model P w) A (.call (.ref f) ⟨us, []⟩) (CR CX0 outer P w H s Q Ex) s
section
variable {g : Bool} {P : Program} {w : World} {K : PySem.W.Frag} {mg : Str → Option Value} {base : Heap} {j k : Nat} {f : Addr} {sp : Sp}
theorem FnS.mono (F : FnS g P w K mg base j f sp) (h : j ≤ k) : FnS g P w K mg base k f sp := fun A outer s H us vs Q Ex hr => F A outer s H us vs Q Ex (hr.mono h)
theorem FnS.raw (F : FnS false P w K mg base k f sp) : FnR P w K mg base CX0 k f sp := fun A outer s H us vs Q Ex hr e0 r h => F A outer s H us vs Q Ex hr (fun q => nomatch q) e0 r h
theorem fnS_of {fd : FuncData} {ps : List Str} (F : FnOk P w K mg base CX0 k f fd ps sp) (hb : Binds K fd ps []) : FnS g P w K mg base k f sp := fun A outer s H us vs Q Ex hr _ e0 r h => by
  have hl : (us ++ []).length = ps.length := by rw [List.append_nil, ← r.length]; exact F.len _ _ _ _ h
  have b := hb s us (e0.mod.kin.keeps fun b o e => (e0.bs b o e).1) hl
  rw [List.append_nil] at b
  exact F.run A outer s H ⟨us, []⟩ us vs Q Ex hr e0 b r h
end

/-! ### the callee runs, under any context that has the body's frames -/
section
variable {X : Cx} {pins : List (Addr × Obj)} {σ : L2.St} {H : Hp} {s : Shared} {g : Bool} {k : Nat} {f C : Addr} {sp : Sp}
def back (X : Cx) (pins : List (Addr × Obj)) (σ : L2.St) (Q : VK) : Result → Shared → Prop := fun r s' => match r with
  | .ok (.ret v) => EP X pins σ Q v s'
  | .ok _ => False
  | .error e => X.xe e s'
theorem run_code {A : Around} {Q : VK} {us : List Value} {vs : List V} (F : FnS g X.prog X.w X.K X.mg X.base k f sp) (hr : Room k A) (hA : A.frames = X.A.frames) (hg : g = true → A.guards = some []) (I : Inv X pins σ H s) (r : Vals vs us) (h : sp vs H Q E0) :
    codeAny (model X.prog X.w) A (.call (.ref f) ⟨us, []⟩) (back X pins σ Q) s := by
  have e := I.env0
  have e0 : Env0 X.prog X.w X.K X.mg X.base A X.stack s H := ⟨by rw [hA]; exact e.frames, e.mod, e.bs, e.bsz, e.funs, e.frf, e.hok, e.bare⟩
  refine codeAny_mono (F A X.stack s H us vs Q E0 hr hg e0 r h) fun r s' hq => ?_
  cases r with
  | error z => exact False.elim (pass0 (X := X) pins σ H s z s' I hq |> fun _ => hq)
  | ok fl =>
    cases fl with
    | ret u => exact I.after hq
    | next => exact False.elim hq
    | brk => exact False.elim hq
    | cont => exact False.elim hq
theorem run_call {A : Around} {Q : VK} {us : List Value} {vs : List V} (F : FnS g X.prog X.w X.K X.mg X.base k f sp) (hr : Room k A) (hA : A.frames = X.A.frames) (hg : g = true → A.guards = some []) (I : Inv X pins σ H s) (r : Vals vs us) (h : sp vs H Q E0) :
    wpAny (model X.prog X.w) A (call (.ref f) us) (EP X pins σ Q) X.xe s := wpAny_call (run_code F hr hA hg I r h)
end

/-! ### bundles -/
section
variable (g : Bool) (P : Program) (w : World) (K : PySem.W.Frag) (mg : Str → Option Value) (base : Heap) (k : Nat)
/-- a def of the module -/
def Gf (x : Str) (sp : Sp) : Prop := ∃ f, mg x = some (.ref f) ∧ PySem.W.keepIn K (.ref f) = true ∧ FnS g P w K mg base k f sp
/-- a method (or an operator's) of the class at C -/
def Mf (C : Addr) (m : Str) (sp : Sp) : Prop := ∃ f, Meth K C m f ∧ FnS g P w K mg base k f sp
def Pf (C : Addr) (m : Str) (sp : Sp) : Prop := ∃ p f fd ps, PropOf K C m p f ∧ Binds K fd ps [] ∧ FnOk P w K mg base CX0 k f fd ps sp
def Nf (C : Addr) (sp : Sp) : Prop := ∃ f fd ps, Mk K C f ∧ Binds K fd ps [] ∧ FnOk P w K mg base CX0 k f fd ps sp
def Of (C : Addr) (sp : Sp) : Prop := ∃ f, StX.CallO K C f ∧ FnS false P w K mg base k f sp
end

/-! ### rules -/
section
variable {X : Cx} {g : Bool} {k : Nat} {C : Addr} {sp : Sp} {x m : Str} {p pos apos : Pos} {e o fe : Expr} {es : List Expr} {ta tf : TE} {t : TA}
theorem p_call (h : Gf g X.prog X.w X.K X.mg X.base k x sp) (hr : Room k X.A) (hgu : g = true → X.A.guards = some []) (hg : Gl X x) (ha : PA X (e :: es) t) (hdb : (x == ("__debug__" : Str)) = false := by decide)
    (he : starEach (e :: es) X.env = (false, eval e X.env) :: starEach es X.env := by rfl) (hpl : (backTo pos (starEach es X.env)).any (·.1) = false := by rfl) : PE X (.Call (.Name x p) (e :: es) [] pos) (tCall sp [] E0 t) := by
  obtain ⟨f, hm, hk, F⟩ := h
  refine ⟨fun pins s σ H Q I h => ?_⟩
  refine wpAny_Call_Name_kw (ld_glob I hg hm ?_ hdb)
  refine PySem.W.callWith_K (h₀ := X.base) I.ok.mod.kin hk (thn (ha.run pos pins s σ H _ I h) fun us s1 ⟨vs, H1, I1, r, q⟩ => ⟨I1.kIn, ?_⟩) he hpl
  have q' : sp (vs ++ []) H1 Q E0 := q
  rw [List.append_nil] at q'
  exact run_call F hr rfl hgu I1 r q'
theorem p_meth {pl : Sem Bool} (ho : PE X o ta) (c : Cls X.K C) (h : Mf g X.prog X.w X.K X.mg X.base k C m sp) (hr : Room k X.A) (hgu : g = true → X.A.guards = some []) (ha : PA X (e :: es) t)
    (hst : starEach (e :: es) X.env = (false, eval e X.env) :: starEach es X.env := by rfl) (hpl : (backTo pos (starEach es X.env)).any (·.1) = false := by rfl)
    (ht : eval (.Call (.Attribute o m apos) (e :: es) [] pos) X.env = (do
      let ov ← eval o X.env
      standAt apos.atName
      let (f, first) ← holding [ov] (getMethod ov m pl)
      callWith pos f first (backTo pos (starEach (e :: es) X.env)) (backToKw pos (keywordEach [] X.env))) := by rfl) :
    PE X (.Call (.Attribute o m apos) (e :: es) [] pos) (tMeth C m sp [] E0 ta t) := by
  obtain ⟨f, hm, F⟩ := h
  refine ⟨fun pins s σ H Q I h => ?_⟩
  refine PySem.W.methodCall_KW (pl := pl) (thn (ho.run pins s σ H _ I h) fun u s1 ⟨x, H1, I1, rx, a, dx, fs, ex, ea, l, q⟩ => ?_) ht
  subst ex
  obtain rfl : u = Value.ref a := rx
  refine getmeth_ok I1 ea c hm l ?_
  refine PySem.W.callWith_K (first := [.ref a]) (h₀ := X.base) I.ok.mod.kin hm.kp (thn (ha.run pos pins s1 σ H1 _ I1 q) fun us s2 ⟨vs, H2, I2, r, q2⟩ => ⟨I2.kIn, ?_⟩) hst hpl
  have q3 : sp (V.ref a :: (vs ++ [])) H2 Q E0 := q2
  rw [List.append_nil] at q3
  exact run_call (us := .ref a :: us) (vs := .ref a :: vs) F hr rfl hgu I2 (.cons rfl r) q3
theorem p_meth0 {pl : Sem Bool} (ho : PE X o ta) (c : Cls X.K C) (h : Mf g X.prog X.w X.K X.mg X.base k C m sp) (hr : Room k X.A) (hgu : g = true → X.A.guards = some [])
    (ht : eval (.Call (.Attribute o m apos) [] [] pos) X.env = (do
      let ov ← eval o X.env
      standAt apos.atName
      let (f, first) ← holding [ov] (getMethod ov m pl)
      callWith pos f first (backTo pos (starEach [] X.env)) (backToKw pos (keywordEach [] X.env))) := by rfl) :
    PE X (.Call (.Attribute o m apos) [] [] pos) (tMeth C m sp [] E0 ta tNil) := by
  obtain ⟨f, hm, F⟩ := h
  refine ⟨fun pins s σ H Q I h => ?_⟩
  refine PySem.W.methodCall_KW (pl := pl) (thn (ho.run pins s σ H _ I h) fun u s1 ⟨x, H1, I1, rx, a, dx, fs, ex, ea, l, q⟩ => ?_) ht
  subst ex
  obtain rfl : u = Value.ref a := rx
  refine getmeth_ok I1 ea c hm l ?_
  exact PySem.W.callWith_K0 (first := [.ref a]) I1.kIn hm.kp (run_call (us := [.ref a]) (vs := [.ref a]) F hr rfl hgu I1 (.cons rfl .nil) q)
theorem p_prop (ho : PE X e ta) (c : Cls X.K C) (h : Pf X.prog X.w X.K X.mg X.base k C m sp) (hr : Room (k + 1) X.A) (hab : attributeBase e m X.env (eval e X.env) = eval e X.env) : PE X (.Attribute e m pos) (tProp C sp [] E0 ta) := by
  obtain ⟨q, f, fd, ps, hp, hb, F⟩ := h
  exact pe_prop ho c hp F hr hb .nil pass0 hab
theorem p_make (h : Nf X.prog X.w X.K X.mg X.base k C sp) (hr : Room (k + 1) X.A) (hg : Gl X x) (hm : X.mg x = some (.ref C)) (ha : PA X (e :: es) t) (hdb : (x == ("__debug__" : Str)) = false := by decide)
    (he : starEach (e :: es) X.env = (false, eval e X.env) :: starEach es X.env := by rfl) (hpl : (backTo pos (starEach es X.env)).any (·.1) = false := by rfl) : PE X (.Call (.Name x p) (e :: es) [] pos) (tMake C sp [] E0 t) := by
  obtain ⟨f, fd, ps, M, hb, F⟩ := h
  exact pe_make M F hr hg hm hb .nil pass0 ha hdb he hpl
/-- o(e, ..), o an instance of C -/
def tCallI (C : Addr) (sp : Sp) (tf : TE) (t : TA) : TE := fun σ H Q => tf σ H fun y H1 => ∃ a, y = V.ref a ∧ t σ H1 fun vs H2 => (∃ dx fs, H2 a = some (.ins C dx fs)) ∧ sp (V.ref a :: vs) H2 Q E0
theorem p_callO (hf : PE X fe tf) (h : Of X.prog X.w X.K X.mg X.base k C sp) (hr : Room k X.A) (ha : PA X (e :: es) t)
    (ht : eval (.Call fe (e :: es) [] pos) X.env = (do callWith pos (← eval fe X.env) [] (backTo pos (starEach (e :: es) X.env)) (backToKw pos (keywordEach [] X.env))) := by rfl)
    (he : starEach (e :: es) X.env = (false, eval e X.env) :: starEach es X.env := by rfl) (hpl : (backTo pos (starEach es X.env)).any (·.1) = false := by rfl) : PE X (.Call fe (e :: es) [] pos) (tCallI C sp tf t) := by
  obtain ⟨f, c, F⟩ := h
  refine ⟨fun pins s σ H Q I h => ?_⟩
  refine PyProof.Rows.Call_ (thn (hf.run pins s σ H _ I h) fun u s1 ⟨y, H1, I1, ry, a, ey, q⟩ => ?_) ht
  subst ey
  obtain rfl : u = Value.ref a := ry
  refine StX.callO_with (thn (ha.run pos pins s1 σ H1 _ I1 q) fun us s2 ⟨vs, H2, I2, r, ⟨dx, fs, hi⟩, q2⟩ => ?_) he hpl
  have hI : StX.InsC X H2 a C := .inr ⟨dx, fs, hi⟩
  obtain ⟨ox, od, J, hd⟩ := StX.insC_at I2 hI
  exact ⟨⟨C, ox, od, J, hd⟩, StX.run_callO c F.raw hr pass0 I2 hI r q2⟩
end
end DL

set_option maxHeartbeats 4000000
/-! DLg: own operators and comparisons, model side. -/
namespace DL
open PySem L2

def InC (C : Addr) (H : Hp) (x : V) : Prop := ∃ a dx fs, x = .ref a ∧ H a = some (.ins C dx fs)
/-- what may stand on the right of an own == -/
def Oth (K : PySem.W.Frag) (C : Addr) (H : Hp) (y : V) : Prop := InC C H y ∨ y = .non ∨ (∃ i, y = .int i) ∨ (∃ z, y = .str z) ∨ ∃ a xs, y = .ref a ∧ SqT K H a xs
section
variable {X : Cx} {pins : List (Addr × Obj)} {σ : L2.St} {H : Hp} {s : Shared} {g : Bool} {k : Nat} {f C : Addr} {sp : Sp} {x y : V} {u v : Value} {Q : VK}
theorem inC_at (I : Inv X pins σ H s) (h : InC C H x) (r : RelV x u) : ∃ a ox od, u = .ref a ∧ PySem.W.InstAt s.heap a ox C od := by
  obtain ⟨a, dx, fs, rfl, e⟩ := h
  cases r
  obtain ⟨mA, O, _⟩ := ins_get I.hok e
  obtain ⟨od, J, _⟩ := O.look
  exact ⟨a, _, od, rfl, J⟩
theorem ep_cmp {s' : Shared} (h : EP X pins σ Q u s') : PySem.W.CmpBack (EP X pins σ Q) u s' := by
  obtain ⟨v, H', I, r, q⟩ := h
  have hn : u ≠ .notImplemented := by
    intro z
    subst z
    cases v <;> first | (exact nomatch r) | (obtain ⟨t, e⟩ := r; exact nomatch e)
  unfold PySem.W.CmpBack
  split
  · exact hn rfl
  · exact ⟨v, H', I, r, q⟩
def rOwn (C : Addr) (sp : Sp) : R2 := fun x y H Q => InC C H x ∧ InC C H y ∧ sp [x, y] H Q E0
def rOwnI (C : Addr) (sp : Sp) : R2 := fun x y H Q => InC C H x ∧ (∃ i, y = .int i) ∧ sp [x, y] H Q E0
/-- a binary operator, both sides of the class -/
theorem p_opSame {op : Operator} {m : Str} (h : Mf false X.prog X.w X.K X.mg X.base k C m sp) (hr : Room k X.A) (hc : PySem.W.selfFirst X.K C = true) (hm : PySem.dunder op.info.2 = m) : OpR X (binaryOp op) (rOwn C sp) := by
  intro pins s σ H x y v u Q I rx ry ⟨hx, hy, q⟩
  obtain ⟨f, M, F⟩ := h
  obtain ⟨a, ox, od, rfl, J⟩ := inC_at I hx rx
  obtain ⟨b, oy, od', rfl, J'⟩ := inC_at I hy ry
  obtain ⟨mm, hF⟩ := I.fr
  exact PySem.W.binop_K hF I.ok.mod.kin J J'.type hc (by rw [hm]; exact M.at_) M.fn (wpAny_mono (run_call F hr rfl (fun z => nomatch z) I (.cons rx (.cons ry .nil)) q) (fun _ _ z => ep_cmp z) fun _ _ z => z)
/-- .. an int on the right -/
theorem p_opInt {op : Operator} {m n : Str} (h : Mf false X.prog X.w X.K X.mg X.base k C m sp) (hr : Room k X.A) (hc : PySem.W.selfFirst X.K C = true) (hn : NoAttr X.K C n) (hm : PySem.dunder op.info.2 = m) (hm' : PySem.dunderR op.info.2 = n)
    (h1 : (PySem.fastLookup "int" m).isSome = true) (h2 : (PySem.fastLookup "int" n).isSome = true) : OpR X (binaryOp op) (rOwnI C sp) := by
  intro pins s σ H x y v u Q I rx ry ⟨hx, ⟨i, hy⟩, q⟩
  obtain ⟨f, M, F⟩ := h
  obtain ⟨a, ox, od, rfl, J⟩ := inC_at I hx rx
  obtain ⟨mm, hF⟩ := I.fr
  have rc := run_call F hr rfl (fun z => nomatch z) I (.cons rx (.cons ry .nil)) q
  subst hy
  obtain ⟨t, rfl⟩ := (show ∃ t, u = Value.int i t from ry)
  obtain ⟨fo, e1⟩ := Option.isSome_iff_exists.mp h1
  obtain ⟨ro, e2⟩ := Option.isSome_iff_exists.mp h2
  exact PySem.W.ksp_binT (T := "int") (rc := none) (fo := fo) (ro := ro) hF I.ok.mod.kin J rfl hc (by rw [hm]; exact M.at_) M.fn (by rw [hm']; exact hn) (.inl rfl) (by rw [hm]; exact e1) (by rw [hm']; exact e2) rfl
    (wpAny_mono rc (fun _ _ z => ep_cmp z) fun _ _ z => z)
end
end DL

set_option maxHeartbeats 4000000
/-! DLh: own == and != . -/
namespace DL
open PySem L2
/-- object.__ne__ asks the class's own __eq__ -/
theorem ne_slotB : Slot "object" "__ne__" "object.__ne__" :=
  Slot.of (T := "object") (name := "__ne__") (owner := "object") (n := "__ne__") (by rw [typeLookup_type, builtinLookup_eq_fast]; kernel_rfl) (by decide +kernel) (by decide +kernel) (by decide +kernel)
    (.inl (by decide +kernel)) (by rw [isSubtype_type]; kernel_rfl)
section
variable {prog : Program} {w : World} {A : Around} {E : Value → Shared → Prop} {s : Shared} {K : PySem.W.Frag} {x C f : Addr} {ox : Obj} {od : Option Obj} {b tb : Value} {Q : Value → Shared → Prop}
theorem own_ne_entry {Q : Fin → Shared → Prop} (hu : A.units < cLine) (X : K.In s.heap) (I : PySem.W.InstAt s.heap x ox C od) (hs : PySem.W.findIn K (.ref C) "__eq__" = some (some (.ref f))) (hf : PySem.W.isFn K (.ref f) = true)
    (h : wpAny (model prog w) A (call (.ref f) [.ref x, b]) (fun v s' => ∃ r, v = .bool r ∧ Q (.done (.ret (.bool (!r)))) s') E s) : wpAny (model prog w) A (Builtin.«object.__ne__» ⟨[.ref x, b], []⟩) Q E s := by
  unfold Builtin.«object.__ne__»
  refine wpAny_bind (m := slotArgs _ _ _) (wpAny_pure ?_)
  refine wpAny_bind (wpAny_cRoomFor hu ?_)
  refine wpAny_bind (m := callSpecialIfBound? (.ref x) _ [b]) (PySem.W.ifBound_K X I hs hf (wpAny_mono h (fun r s' hr => ?_) fun _ _ e => e))
  obtain ⟨r, rfl, q⟩ := hr
  exact wpAny_bind (wpAny_truthy_bool (wpAny_pure q))
theorem own_ne (hu : A.units + 1 < cLine) (X : K.In s.heap) (I : PySem.W.InstAt s.heap x ox C od) (hb : PySem.W.Looks (model prog w) s.heap (typeOf b) tb) (hn : PySem.W.notFirst K C tb = true)
    (hs : PySem.W.findIn K (.ref C) "__eq__" = some (some (.ref f))) (hf : PySem.W.isFn K (.ref f) = true) (hne : PySem.W.findIn K (.ref C) "__ne__" = some (some (.builtin "object.__ne__"))) (hm : PySem.W.mroIn K C (.type "object") = some true)
    (h : wpAny (model prog w) A.in1 (call (.ref f) [.ref x, b]) (fun v s' => ∃ r, v = .bool r ∧ Q (.bool (!r)) s') E s) : wpAny (model prog w) A (richCompare .NotEq (.ref x) b) Q E s := by
  have one : wpAny (model prog w) A (tryCompare (.ref x) "__ne__" b) (fun r s' => ∃ v, r = some v ∧ Q v s') E s := by
    unfold tryCompare
    simp only [callSpecialIfBound?, bindSpecialIfBound?]
    refine wpAny_bind (wpAny_holding (wpAny_bind (wpAny_bind (wpAny_bind (I.type.here ((PySem.W.looks_findIn X hne).here ?_))))))
    have fin : wpAny (model prog w) A (call (.builtin "object.__ne__") ([.ref x] ++ [b]) >>= fun v => pure (some v)) (fun r s' => wpAny (model prog w) A (match r with | some .notImplemented | none => pure none | some r => pure (some r)) (fun r s' => ∃ v, r = some v ∧ Q v s') E s') E s := by
      refine wpAny_bind (wpAny_call (codeAny_call_builtin ne_slotB.plain F.cmpEntry_ne (@PySem.W.check_slot (model prog w) _ _ s "object.__ne__" "object" "__ne__" (.ref x) [b] [] _ F.cmpKind_ne F.cmpSplit_ne (I.type.andThen (PySem.W.looks_mroIn X hm)) (F.cmpArgs_ne _ _) ?_)))
      refine own_ne_entry (A := A.in1) hu X I hs hf (wpAny_mono h (fun v s' hv => ?_) fun _ _ e => e)
      obtain ⟨r, rfl, q⟩ := hv
      exact ⟨r, rfl, wpAny_pure (wpAny_pure ⟨_, rfl, q⟩)⟩
    have bd : bindSpecial (.builtin "object.__ne__") (.ref x) = pure (.builtin "object.__ne__", [.ref x]) := ne_slotB.bind (.ref x)
    refine wpAny_bind (wpAny_askSetting (wpAny_ite ?_))
    split
    · rw [bd]; exact wpAny_pure (by exact fin)
    · rw [bd]; exact wpAny_tryCatch (wpAny_pure (by exact fin))
  unfold richCompare
  simp only [oneThing_ref]
  refine wpAny_holding (wpAny_bind (wpAny_cRoomFor (Nat.lt_of_succ_lt hu) ?_))
  refine wpAny_bind (I.type.here (wpAny_bind (hb.here ?_)))
  split
  · rename_i q
    have e : PySem.W.subIn K tb (.ref C) = some false := by
      rcases Bool.or_eq_true_iff.mp hn with e | e
      · rw [beq_iff_eq.mp e] at q; simp at q
      · exact beq_iff_eq.mp e
    refine wpAny_bind ((PySem.W.looks_subIn X e).here ?_)
    simp only [Bool.false_eq_true, if_false]
    refine wpAny_bind (wpAny_mono one (fun r s' z => ?_) fun _ _ e => e)
    obtain ⟨v, rfl, hq⟩ := z
    exact wpAny_pure hq
  · refine wpAny_bind (wpAny_pure ?_)
    simp only [Bool.false_eq_true, if_false]
    refine wpAny_bind (wpAny_mono one (fun r s' z => ?_) fun _ _ e => e)
    obtain ⟨v, rfl, hq⟩ := z
    exact wpAny_pure hq
end
end DL

set_option maxHeartbeats 4000000
/-! DLi: own == and != as operators; the steps for calls of own things. -/
namespace DL
open PySem L2
/-- what is known of a class of the text -/
structure OwnC (K : PySem.W.Frag) (C : Addr) : Prop where
  cls : Cls K C
  sf : PySem.W.selfFirst K C = true
  ne : PySem.W.findIn K (.ref C) "__ne__" = some (some (.builtin "object.__ne__"))
  mo : PySem.W.mroIn K C (.type "object") = some true
  ca : PySem.W.findIn K (.ref C) "__class__" = some (some (.builtin "object.__class__"))
  cg : PySem.W.specialIn K (.builtin "object.__class__") "__get__" = some (some (.builtin "getset_descriptor.__get__"))
  ct : PySem.W.takesIn K (.builtin "object.__class__") = some true
  kt : ∀ T ∈ ["NoneType", "int", "str", "tuple", "list", "bool"], PySem.W.kitOne K (.type T) (.ref C) = some false

def rOwnEq (K : PySem.W.Frag) (C : Addr) (sp : Sp) : R2 := fun x y H Q => InC C H x ∧ Oth K C H y ∧ sp [x, y] H Q E0
def kNe (Q : VK) (v : V) (H : Hp) : Prop := ∃ b, v = .bl b ∧ Q (.bl (!b)) H
def rOwnNe (K : PySem.W.Frag) (C : Addr) (sp : Sp) : R2 := fun x y H Q => InC C H x ∧ Oth K C H y ∧ sp [x, y] H (kNe Q) E0
section
variable {X : Cx} {pins : List (Addr × Obj)} {σ : L2.St} {H : Hp} {s : Shared} {k : Nat} {C : Addr} {sp : Sp} {x y : V} {u v : Value} {Q : VK}
theorem oth_at (I : Inv X pins σ H s) (h : Oth X.K C H y) (r : RelV y u) : ∃ tb, PySem.W.Looks (model X.prog X.w) s.heap (typeOf u) tb ∧ PySem.W.notFirst X.K C tb = true := by
  have nt : ∀ T : String, PySem.W.subIn X.K (.type T) (.ref C) = some false → PySem.W.notFirst X.K C (.type T) = true := fun T e => by
    unfold PySem.W.notFirst; rw [e]; simp
  rcases h with h | h | ⟨i, h⟩ | ⟨z, h⟩ | ⟨a, xs, h, q⟩
  · obtain ⟨a, ox, od, rfl, J⟩ := inC_at I h r
    exact ⟨_, J.type, by simp [PySem.W.notFirst]⟩
  · subst h; cases r
    exact ⟨_, PySem.W.Looks.of_pure rfl, nt "NoneType" rfl⟩
  · subst h; obtain ⟨t, rfl⟩ := (show ∃ t, u = Value.int i t from r)
    exact ⟨_, PySem.W.Looks.of_pure rfl, nt "int" rfl⟩
  · subst h; obtain ⟨t, rfl⟩ := (show ∃ t, u = Value.str z t from r)
    exact ⟨_, PySem.W.Looks.of_pure rfl, nt "str" rfl⟩
  · subst h; cases r
    obtain ⟨its, _, ⟨o, e, c, _⟩, _⟩ := I.tuple q
    refine ⟨.type "tuple", ?_, nt "tuple" rfl⟩
    exact c ▸ (PySem.W.Looks.ld e).andThen .now
theorem p_ownEq (h : Mf false X.prog X.w X.K X.mg X.base k C "__eq__" sp) (hr : Room k X.A) : OpR X (compareOp .Eq) (rOwnEq X.K C sp) := by
  intro pins s σ H x y v u Q I rx ry ⟨hx, hy, q⟩
  obtain ⟨f, M, F⟩ := h
  obtain ⟨a, ox, od, rfl, J⟩ := inC_at I hx rx
  obtain ⟨tb, L, nf⟩ := oth_at I hy ry
  obtain ⟨mm, hF⟩ := I.fr
  show wpAny (model X.prog X.w) X.A (richCompare .Eq (.ref a) u) (EP X pins σ Q) X.xe s
  exact PySem.W.cmp_K (op := .Eq) hr.units0 hF I.ok.mod.kin J L nf M.at_ M.fn (wpAny_mono (run_call F hr rfl (fun z => nomatch z) I (.cons rx (.cons ry .nil)) q) (fun _ _ z => ep_cmp z) fun _ _ z => z)
theorem p_ownNe (h : Mf false X.prog X.w X.K X.mg X.base k C "__eq__" sp) (hr : Room (k + 1) X.A) (c : OwnC X.K C) : OpR X (compareOp .NotEq) (rOwnNe X.K C sp) := by
  intro pins s σ H x y v u Q I rx ry ⟨hx, hy, q⟩
  obtain ⟨f, M, F⟩ := h
  obtain ⟨a, ox, od, rfl, J⟩ := inC_at I hx rx
  obtain ⟨tb, L, nf⟩ := oth_at I hy ry
  show wpAny (model X.prog X.w) X.A (richCompare .NotEq (.ref a) u) (EP X pins σ Q) X.xe s
  refine own_ne (hu_of hr) I.kIn J L nf M.at_ M.fn c.ne c.mo (wpAny_mono (run_call (A := X.A.in1) F hr.in1 rfl (fun z => nomatch z) I (.cons rx (.cons ry .nil)) q) (fun r s' z => ?_) fun _ _ z => z)
  obtain ⟨b, H', I', rb, bb, e, q'⟩ := z
  subst e
  cases rb
  exact ⟨bb, rfl, ⟨.bl (!bb), H', I', rfl, q'⟩⟩
end

/-! ### steps -/
section
variable {E : Eb} {G : List (Option D)} {O : List (Addr × List D)} {S S0 : List (V × D)} {F F' H H' : Hp} {σ : L2.St} {v x y : V} {d e : D} {Q : VK} {vs : List V} {ds es as bs : List D} {tas : TA} {te ta : TE} {C : Addr} {sp : Sp} {m f : Str} {ns ms : List Str}
theorem zip_none : ∀ {ns : List Str} {xs : List V}, ns.contains m = false → (ns.zip xs).lookup m = none
  | [], _, _ => rfl
  | n :: ns, [], _ => rfl
  | n :: ns, x :: xs, h => by
    rw [List.contains_cons, Bool.or_eq_false_iff] at h
    show List.lookup m ((n, x) :: ns.zip xs) = none
    rw [List.lookup_cons, h.1]
    exact zip_none h.2
theorem FO.inC (fo : FO E G O S F σ H) (r : Rp E.K F v (.obj C ns ds)) : InC C H v := by
  obtain ⟨a, dx, xs, rfl, h, _, _⟩ := r.obj_at
  exact ⟨a, dx, _, rfl, fo.sub _ _ h⟩
def kArg (sp : Sp) (x : V) (Q : VK) (vs : List V) (H : Hp) : Prop := sp (x :: (vs ++ [])) H Q E0
def kMth (C : Addr) (m : Str) (sp : Sp) (t : TA) (σ : L2.St) (Q : VK) (x : V) (H : Hp) : Prop := ∃ a dx fs, x = .ref a ∧ H a = some (.ins C dx fs) ∧ fs.lookup m = none ∧ t σ H (kArg sp x Q)
theorem x_meth (h : ta σ H (kMth C m sp tas σ Q)) : tMeth C m sp [] E0 ta tas σ H Q := h
theorem x_kMth (fo : FO E G O ((x, .obj C ns ds) :: S) F σ H) (hm : ns.contains m = false) (k : tas σ H (kArg sp x Q)) : kMth C m sp tas σ Q x H := by
  obtain ⟨a, dx, xs, rfl, h, _, _⟩ := fo.top.obj_at
  exact ⟨a, dx, _, rfl, fo.sub _ _ h, zip_none hm, k⟩
theorem x_arg (h : kCall sp [] E0 Q (x :: vs) H) : kArg sp x Q vs H := h
def kProp (C : Addr) (sp : Sp) (Q : VK) (x : V) (H : Hp) : Prop := ∃ a dx fs, x = .ref a ∧ H a = some (.ins C dx fs) ∧ sp [.ref a] H Q E0
theorem x_prop (h : ta σ H (kProp C sp Q)) : tProp C sp [] E0 ta σ H Q := h
theorem x_kProp (fo : FO E G O ((x, .obj C ns ds) :: S) F σ H) (k : kCall sp [] E0 Q [x] H) : kProp C sp Q x H := by
  obtain ⟨a, dx, xs, rfl, h, _, _⟩ := fo.top.obj_at
  exact ⟨a, dx, _, rfl, fo.sub _ _ h, k⟩
def kFld (K : PySem.W.Frag) (f : Str) (Q : VK) (x : V) (H : Hp) : Prop := ∃ a C dx fs v, x = .ref a ∧ H a = some (.ins C dx fs) ∧ Cls K C ∧ NoAttr K C f ∧ fs.lookup f = some v ∧ Q v H
theorem x_fld {K : PySem.W.Frag} (h : ta σ H (kFld K f Q)) : tFld K ta f σ H Q := h
theorem x_kFld (fo : FO E G O ((x, .obj C [f] [d]) :: S) F σ H) (c : Cls E.K C) (n : NoAttr E.K C f) (k : ∀ v, FO E G O ((v, d) :: S) F σ H → Q v H) : kFld E.K f Q x H := by
  obtain ⟨a, dx, xs, rfl, h, hl, r⟩ := fo.top.obj_at
  obtain ⟨v1, ws, rfl, r1, r⟩ := r.cons_of
  have := r.nil_eq; subst this
  exact ⟨a, C, dx, _, v1, rfl, fo.sub _ _ h, c, n, by simp [List.lookup], k v1 (fo.pop.push r1)⟩
def kCa (C : Addr) (sp : Sp) (a : Addr) (Q : VK) (vs : List V) (H : Hp) : Prop := (∃ dx fs, H a = some (.ins C dx fs)) ∧ sp (V.ref a :: vs) H Q E0
def kCi (C : Addr) (sp : Sp) (t : TA) (σ : L2.St) (Q : VK) (y : V) (H : Hp) : Prop := ∃ a, y = V.ref a ∧ t σ H (kCa C sp a Q)
theorem x_callI (h : ta σ H (kCi C sp tas σ Q)) : tCallI C sp ta tas σ H Q := h
theorem x_kCi (fo : FO E G O ((x, .obj C ns ds) :: S) F σ H) (k : ∀ a, FO E G O ((.ref a, .obj C ns ds) :: S) F σ H → tas σ H (kCa C sp a Q)) : kCi C sp tas σ Q x H := by
  obtain ⟨a, dx, xs, rfl, h, _, _⟩ := fo.top.obj_at
  exact ⟨a, rfl, k a fo⟩
theorem x_kCa {a : Addr} (fo : FO E G O S F σ H) (t : Taken S (.ref a :: vs) (.obj C ns ds :: es) S0) (k : kCall sp [] E0 Q (.ref a :: vs) H) : kCa C sp a Q vs H := by
  obtain ⟨b, dx, xs, e, h, _, _⟩ := ((fo.rpl t).cons_of).elim fun v h => h.elim fun w h => by obtain ⟨e, r, _⟩ := h; cases e; exact r.obj_at
  cases e
  refine ⟨⟨dx, _, fo.sub _ _ h⟩, ?_⟩
  have k' : sp ((.ref a :: vs) ++ []) H Q E0 := k
  rw [List.append_nil] at k'
  exact k'
theorem x_own (fo : FO E G O ((y, .obj C ns es) :: (x, .obj C ms ds) :: S) F σ H) (k : kCall sp [] E0 Q [x, y] H) : rOwn C sp x y H Q := ⟨fo.inC fo.snd, fo.inC fo.top, k⟩
theorem x_ownI {i : Int} (fo : FO E G O ((y, .raw (.int i)) :: (x, .obj C ms ds) :: S) F σ H) (k : kCall sp [] E0 Q [x, y] H) : rOwnI C sp x y H Q := ⟨fo.inC fo.snd, ⟨i, fo.top.raw_eq⟩, k⟩
/-- the data that may stand on the right of an own == -/
def othD (C : Addr) : D → Prop
  | .obj B _ _ => B = C
  | .raw .non => True
  | .raw (.int _) => True
  | .raw (.str _) => True
  | .tup _ => True
  | _ => False
theorem FO.oth (fo : FO E G O S F σ H) (r : Rp E.K F v d) (h : othD C d) : Oth E.K C H v := by
  cases r with
  | raw v =>
    cases v <;> simp only [othD] at h
    · exact .inr (.inl rfl)
    · exact .inr (.inr (.inl ⟨_, rfl⟩))
    · exact .inr (.inr (.inr (.inl ⟨_, rfl⟩)))
  | lst _ _ => exact h.elim
  | tup a b => exact .inr (.inr (.inr (.inr ⟨_, _, rfl, .inl (.inl (fo.sub _ _ a))⟩)))
  | obj a b c =>
    have h' : _ = C := h
    subst h'
    exact .inl ⟨_, _, _, rfl, fo.sub _ _ a⟩
  | pin _ => exact h.elim
theorem x_ownEq (fo : FO E G O ((y, e) :: (x, .obj C ms ds) :: S) F σ H) (he : othD C e) (k : kCall sp [] E0 Q [x, y] H) : rOwnEq E.K C sp x y H Q := ⟨fo.inC fo.snd, fo.oth fo.top he, k⟩
theorem x_ownNe (fo : FO E G O ((y, e) :: (x, .obj C ms ds) :: S) F σ H) (he : othD C e) (k : kCall sp [] E0 (kNe Q) [x, y] H) : rOwnNe E.K C sp x y H Q := ⟨fo.inC fo.snd, fo.oth fo.top he, k⟩
theorem x_kNe {b : Bool} (fo : FO E G O ((x, .raw (.bl b)) :: S) F σ H) (k : FO E G O ((.bl (!b), .raw (.bl (!b))) :: S) F σ H → Q (.bl (!b)) H) : kNe Q x H := ⟨b, fo.top.raw_eq, k (fo.pop.push (.raw _))⟩
/-- isinstance(x, C) -/
theorem x_isiC (fo : FO E G O ((y, .raw (.ref C)) :: (x, .obj C ms ds) :: S) F σ H) (c : OwnC E.K C) (k : FO E G O ((.bl true, .raw (.bl true)) :: S) F σ H → Q (.bl true) H) : cIsi E.K [x, y] H Q := by
  have e := fo.top.raw_eq; subst e
  obtain ⟨a, dx, xs, rfl, h, _, _⟩ := fo.snd.obj_at
  exact .inl ⟨_, _, .ref C, .ref C, true, rfl, .own C, .base (.ins (fo.sub _ _ h) c.cls c.ca c.cg c.ct c.mo), by unfold PySem.W.kitOne; simp, k (fo.pop.pop.push (.raw _))⟩
theorem x_isiN {t : String} (fo : FO E G O ((y, .raw (.ref C)) :: (x, d) :: S) F σ H) (c : OwnC E.K C) (ht : tyD d = some t) (hm : t ∈ ["NoneType", "int", "str", "tuple", "list", "bool"]) (k : FO E G O ((.bl false, .raw (.bl false)) :: S) F σ H → Q (.bl false) H) : cIsi E.K [x, y] H Q := by
  have e := fo.top.raw_eq; subst e
  exact .inl ⟨_, _, .type t, .ref C, false, rfl, .own C, fo.tyX fo.snd ht, c.kt t hm, k (fo.pop.pop.push (.raw _))⟩
end

/-! ### making -/
/-- __init__'s promise: it fills one new object -/
def spI (K : PySem.W.Frag) (C : Addr) {α : Type} (arg : α → List D) (pre : α → Prop) (ns : List Str) (key : α → List D) : Sp := fun vs H Q _ =>
  ∃ z F a dx ws, vs = .ref a :: ws ∧ Sub F H ∧ F a = none ∧ H a = some (.ins C dx []) ∧ RpL K F ws (arg z) ∧ pre z ∧
    ∀ F' H', Sub F F' → Sub F' H' → (∀ b o, H b = some o → b ≠ a → H' b = some o) → (∀ b, F b = none → H b ≠ none → b ≠ a → F' b = none) → Rp K F' (.ref a) (.obj C ns (key z)) → Q .non H'
def kMake (C : Addr) (sp : Sp) (Q : VK) (vs : List V) (H1 : Hp) : Prop := ∀ x dx, H1 x = none → H1 dx = none → dx ≠ x →
  sp (.ref x :: (vs ++ [])) (upd (upd H1 dx (.own x)) x (.ins C dx [])) (fun v H2 => v = .non ∧ Q (.ref x) H2) E0
section
variable {E : Eb} {G : List (Option D)} {O : List (Addr × List D)} {S S0 : List (V × D)} {F F' H H' : Hp} {σ : L2.St} {v x y : V} {d e : D} {Q : VK} {vs : List V} {ds es as bs : List D} {tas : TA} {te ta tv : TE} {C : Addr} {sp : Sp} {m f : Str} {ns ms : List Str}
variable {α : Type} {arg : α → List D} {pre : α → Prop} {key : α → List D}
theorem x_make (h : tas σ H (kMake C sp Q)) : tMake C sp [] E0 tas σ H Q := h
theorem x_kMake (z : α) (fo : FO E G O S F σ H) (t : Taken S vs ds S0) (ha : ds = arg z) (hp : pre z) (k : ∀ p F' H', FO E G O ((.ref p, .obj C ns (key z)) :: S0) F' σ H' → Q (.ref p) H') : kMake C (spI E.K C arg pre ns key) Q vs H := by
  intro p dx hp0 hd0 hne
  have rl := fo.rpl t
  rw [ha] at rl
  have up : ∀ b o, H b = some o → upd (upd H dx (.own p)) p (.ins C dx []) b = some o := fun b o e => by
    rw [upd_ne (ne_of_none e hp0), upd_ne (ne_of_none e hd0)]; exact e
  have fs := fo.sub
  refine ⟨z, F, p, dx, vs, by rw [List.append_nil], fun b o e => up b o (fs b o e), fs.none hp0, upd_same, rl, hp, fun F' H' s1 s2 s3 s4 r => ⟨rfl, ?_⟩⟩
  refine k p F' H' (((fo.taken t).step ⟨s1, s2, fun b o e _ => s3 b o (up b o e) (ne_of_none e hp0), fun b e q => s4 b e ?_ ?_, fun b q => ?_⟩).push r)
  · intro z0
    cases hb : H b with
    | none => exact q hb
    | some o => rw [up b o hb] at z0; cases z0
  · intro z0; subst z0; exact q hp0
  · obtain ⟨o, e, t⟩ := fo.box b q
    exact ⟨o, s3 b o (up b o e) (ne_of_none e hp0), t⟩
/-- __init__ begins -/
theorem init_start {K : PySem.W.Frag} {N : List Str} {Ex : XK} (h : spI K C arg pre ns key vs H Q Ex) : ∃ (z : α) (F : Hp) (a dx : Addr), pre z ∧ vs.length = (arg z).length + 1 ∧
    FO ⟨K, some a, (· = .ins C dx []), F, H⟩ ((D.at a :: arg z).map some ++ List.replicate (N.length - (arg z).length - 1) none) [] [] F (L2.start N vs) H ∧
    ∀ F' H', Sub F F' → Sub F' H' → (∀ b o, H b = some o → b ≠ a → H' b = some o) → (∀ b, F b = none → H b ≠ none → b ≠ a → F' b = none) → Rp K F' (.ref a) (.obj C ns (key z)) → Q .non H' := by
  obtain ⟨z, F, a, dx, ws, rfl, s, fa, hA, r, p, k⟩ := h
  have hl : ws.length = (arg z).length := r.length
  have rl : RpL K F (.ref a :: ws) (D.at a :: arg z) := .cons (.raw _) r
  refine ⟨z, F, a, dx, p, by rw [List.length_cons, hl], ⟨.same s (fun c q => ?_), fun c q => ?_, ?_, fun i d q => ?_, (fun _ h => nomatch h), (fun _ h => nomatch h), List.nodup_nil⟩, k⟩
  · cases q; exact ⟨_, hA, rfl⟩
  · cases q; exact fa
  · unfold L2.start
    simp [hl]; omega
  · have hi : i < (D.at a :: arg z).length := by
      rcases Nat.lt_or_ge i (D.at a :: arg z).length with h | h
      · exact h
      · rw [List.getElem?_append_right (by simpa using h)] at q
        rw [List.getElem?_replicate] at q
        split at q <;> cases q
    rw [List.getElem?_append_left (by simpa using hi), List.getElem?_map] at q
    cases e : (D.at a :: arg z)[i]? with
    | none => rw [e] at q; cases q
    | some d' =>
      rw [e] at q; cases q
      obtain ⟨v, h1, h2⟩ := rl.get e
      refine ⟨v, ?_, h2⟩
      unfold L2.start
      rw [List.getElem?_append_left (by simp at hi ⊢; omega), List.getElem?_map, h1]; rfl
def kSf (K : PySem.W.Frag) (f : Str) (nx : L2.St → Hp → Prop) (σ : L2.St) (y x : V) (H2 : Hp) : Prop := ∃ a C dx fs, x = .ref a ∧ H2 a = some (.ins C dx fs) ∧ Cls K C ∧ NoAttr K C f ∧ fs.length < 1000 ∧ nx σ (upd H2 a (.ins C dx (putF f y fs)))
theorem x_sfld {K : PySem.W.Frag} {Dn : Ends} (h : tv σ H fun y H1 => ta σ H1 (kSf K f Dn.nx σ y)) : sFld K ta tv f Dn σ H := h
/-- the one field of a new object is laid, __init__ ends -/
theorem x_kSf {K : PySem.W.Frag} {a dx : Addr} {F0 H0 : Hp} {nx : L2.St → Hp → Prop} {R : Hp → Prop} (fo : FO ⟨K, some a, (· = .ins C dx []), F0, H0⟩ G O ((x, D.at a) :: (y, d) :: S) F σ H) (c : Cls K C) (n : NoAttr K C f) (hA : F0 a = none)
    (k : ∀ F' H', Sub F0 F' → Sub F' H' → (∀ b o, H0 b = some o → b ≠ a → H' b = some o) → (∀ b, F0 b = none → H0 b ≠ none → b ≠ a → F' b = none) → Rp K F' (.ref a) (.obj C [f] [d]) → nx σ H') : kSf K f nx σ y x H := by
  have e := fo.top.raw_eq; subst e
  obtain ⟨o, h, ho⟩ := fo.box a rfl
  have ho : o = .ins C dx [] := ho
  subst ho
  have fa : F a = none := fo.bx a rfl
  have ff : Sub F (upd F a (.ins C dx [(f, y)])) := sub_upd fa
  refine ⟨a, C, dx, [], rfl, h, c, n, by decide, ?_⟩
  refine k (upd F a (.ins C dx [(f, y)])) _ (fo.st.ff.trans ff) (sub_upd2 fo.sub) (fun b o e hb => ?_) (fun b e q hb => ?_) ?_
  · rw [upd_ne hb]; exact fo.st.keep b o e (fun z => hb (Option.some.inj z).symm)
  · rw [upd_ne hb]; exact fo.st.new b e q
  · exact Rp.obj (dx := dx) (ns := [f]) (xs := [y]) upd_same rfl (.cons (fo.snd.mono ff) .nil)
end
end DL

set_option maxHeartbeats 4000000
/-! DLj: repr. -/
namespace DL
open PySem L2
/-- the text that repr gives of a value of data -/
def Shw (K : PySem.W.Frag) (H : Hp) (x : V) (z : Str) : Prop := ∃ p, Dp K H x p ∧ (p = .none ∨ (∃ i, p = .int i) ∨ (∃ ps, p = .tuple ps) ∨ ∃ ps, p = .list ps) ∧ p.showable = true ∧ p.hasDict = false ∧ p.depth ≤ 20 ∧ p.shown.length ≤ 100000 ∧ z = p.shown
theorem long_ok {n : Nat} (h : n ≤ 100000) : n ≤ sizeLine := Nat.le_trans h (by decide)
section
variable {X : Cx} {pins : List (Addr × Obj)} {σ : L2.St} {H : Hp} {s : Shared} {k : Nat} {C : Addr} {sp : Sp} {x : V} {u : Value} {z : Str} {Q : VK}
theorem shw_size (h : Shw X.K H x z) : z.length ≤ sizeLine := by
  obtain ⟨p, _, _, _, _, _, hl, rfl⟩ := h
  exact long_ok hl
theorem repr_shw {Q : Value → Shared → Prop} (I : Inv X pins σ H s) (h : Shw X.K H x z) (r : RelV x u) (hr : Room k X.A) (hg : X.A.guards = some []) (q : ∀ t s', Inv X pins σ H s' → Q (.str z t) s') : wpAny (model X.prog X.w) X.A (call (.builtin "repr") [u]) Q X.xe s := by
  obtain ⟨p, hd, hk, hs, hn, hp, hl, rfl⟩ := h
  have hu := hr.units
  have ref : ∀ a, u = .ref a → wpAny (model X.prog X.w) X.A (call (.builtin "repr") [u]) Q X.xe s := fun a e => by
    subst e
    obtain ⟨as, rd⟩ := Dp.reads I p x _ hd r
    exact repr_of_reads' rd hs (PyData.noDict_hsm hn) hg (by omega) (fun _ _ e => e) (fun h' t tk kp => q t _ (I.kept (t' := tk) kp)) (long_ok hl)
  cases hd with
  | non => cases r; exact PySem.P.repr_of_none (q _ _ (I.tok _))
  | bl b => rcases hk with e | ⟨_, e⟩ | ⟨_, e⟩ | ⟨_, e⟩ <;> cases e
  | int i => obtain ⟨t, rfl⟩ := (show ∃ t, u = Value.int i t from r); exact PySem.P.repr_of_int (by simpa [PyData.showable] using hs) (q _ _ (I.tok _))
  | str b => rcases hk with e | ⟨_, e⟩ | ⟨_, e⟩ | ⟨_, e⟩ <;> cases e
  | lst _ _ => exact ref _ r
  | tup _ _ => exact ref _ r
theorem robj_shw {Q : Value → Shared → Prop} (I : Inv X pins σ H s) (h : Shw X.K H x z) (r : RelV x u) (hr : Room k X.A) (hg : X.A.guards = some []) (q : ∀ t s', Inv X pins σ H s' → Q (.str z t) s') : wpAny (model X.prog X.w) X.A (pyReprObj u) Q X.xe s := by
  obtain ⟨p, hd, hk, hs, hn, hp, hl, rfl⟩ := h
  have hu := hr.units
  have ref : ∀ a, u = .ref a → wpAny (model X.prog X.w) X.A (pyReprObj u) Q X.xe s := fun a e => by
    subst e
    obtain ⟨as, rd⟩ := Dp.reads I p x _ hd r
    exact pyReprObj_of_reads rd hs (PyData.noDict_hsm hn) hg (by omega) (fun _ _ e => e) (fun h' t tk kp => q t _ (I.kept (t' := tk) kp)) (long_ok hl)
  cases hd with
  | non => cases r; exact pyReprObj_none (q _ _ (I.tok _))
  | bl b => rcases hk with e | ⟨_, e⟩ | ⟨_, e⟩ | ⟨_, e⟩ <;> cases e
  | int i => obtain ⟨t, rfl⟩ := (show ∃ t, u = Value.int i t from r); exact pyReprObj_int (by simpa [PyData.showable] using hs) (q _ _ (I.tok _))
  | str b => rcases hk with e | ⟨_, e⟩ | ⟨_, e⟩ | ⟨_, e⟩ <;> cases e
  | lst _ _ => exact ref _ r
  | tup _ _ => exact ref _ r
/-- {x!r} -/
def tFmtD (K : PySem.W.Frag) (te : TE) : TE := fun σ H Q => te σ H fun x H1 => ∃ z, Shw K H1 x z ∧ Q (.str z) H1
theorem p_fmtD {e : Expr} {te : TE} {pos : Pos} (hr : Room k X.A) (hg : X.A.guards = some []) (he : PE X e te) : PE X (.FormattedValue e 114 none pos) (tFmtD X.K te) := by
  refine ⟨fun pins s σ H Q I h => ?_⟩
  refine wpAny_FormattedValue_repr (thn (he.run pins s σ H _ I h) fun v s1 hv => ?_)
  obtain ⟨x, H1, I1, r1, z, hz, q⟩ := hv
  refine robj_shw I1 hz r1 hr hg fun t s' I' => ?_
  exact wpAny_formatField_str ⟨.str z, H1, I', ⟨_, rfl⟩, q⟩ ⟨.str z, H1, I'.tok _, ⟨_, rfl⟩, q⟩ (shw_size hz)
/-- the parts of a text one behind the other, by Lean's own list -/
def tJoin (ts : List TE) : TE := fun σ H Q => tJs ts Str.empty σ H fun out H1 => Q (.str out) H1
theorem p_join {v1 v2 : Expr} {rest : List Expr} {ts : List TE} {pos : Pos} (h : PJ X (v1 :: v2 :: rest) ts) : PE X (.JoinedStr (v1 :: v2 :: rest) pos) (tJoin ts) := pe_joined h
/-- repr(x): of data, or of an instance of the class at C with its own __repr__ -/
def kStr (Q : VK) (v : V) (H : Hp) : Prop := (∃ z, v = .str z) ∧ Q v H
def cRepr (K : PySem.W.Frag) (C : Addr) (sp : Sp) : List V → Hp → VK → Prop := fun xs H Q => (∃ x z, xs = [x] ∧ Shw K H x z ∧ Q (.str z) H) ∨ ∃ x, xs = [x] ∧ InC C H x ∧ sp [x] H (kStr Q) E0
theorem p_repr (h : Mf true X.prog X.w X.K X.mg X.base k C "__repr__" sp) (hr : Room (k + 1) X.A) (hg : X.A.guards = some []) : CallR X (.builtin "repr") (cRepr X.K C sp) := by
  intro pins s σ H xs us Q I rs q
  rcases q with ⟨x, z, rfl, hz, q⟩ | ⟨x, rfl, hx, q⟩
  · obtain ⟨u, rfl, r⟩ := vals1 rs
    exact repr_shw I hz r hr hg fun t s' I' => ⟨.str z, H, I', ⟨t, rfl⟩, q⟩
  · obtain ⟨u, rfl, r⟩ := vals1 rs
    obtain ⟨f, M, F⟩ := h
    obtain ⟨a, ox, od, rfl, J⟩ := inC_at I hx r
    obtain ⟨mm, hF⟩ := I.fr
    refine PySem.W.repr_K (by have := hr.un; show X.A.units + 1 < _; omega) hF I.ok.mod.kin J M.at_ M.fn (wpAny_mono (run_call (A := X.A.in1) F hr.in1 rfl (fun _ => hg) I (.cons r .nil) q) (fun v s' hv => ?_) fun _ _ e => e)
    obtain ⟨y, H', I', ry, ⟨z, e⟩, q'⟩ := hv
    subst e
    obtain ⟨t, rfl⟩ := (show ∃ t, v = Value.str z t from ry)
    exact ⟨.str z, H', I', ⟨t, rfl⟩, q'⟩
end
section
variable {E : Eb} {G : List (Option D)} {O : List (Addr × List D)} {S S0 : List (V × D)} {F F' H H' : Hp} {σ : L2.St} {v x y : V} {d e : D} {Q : VK} {vs : List V} {ds es as bs : List D} {tas : TA} {te ta tv : TE} {C : Addr} {sp : Sp} {ns : List Str}
theorem FO.shw {p : PyData} (fo : FO E G O S F σ H) (r : Rp E.K F v d) (hp : toPy d = some p) (hk : p = .none ∨ (∃ i, p = .int i) ∨ (∃ ps, p = .tuple ps) ∨ ∃ ps, p = .list ps) (h1 : p.showable = true) (h2 : p.hasDict = false) (h3 : p.depth ≤ 20) (h4 : p.shown.length ≤ 100000) : Shw E.K H v p.shown :=
  ⟨p, r.dp fo.sub hp, hk, h1, h2, h3, h4, rfl⟩
/-- a datum that repr shows as z -/
def ShwD (d : D) (z : Str) : Prop := ∃ p, toPy d = some p ∧ (p = .none ∨ (∃ i, p = .int i) ∨ (∃ ps, p = .tuple ps) ∨ ∃ ps, p = .list ps) ∧ p.showable = true ∧ p.hasDict = false ∧ p.depth ≤ 20 ∧ p.shown.length ≤ 100000 ∧ z = p.shown
theorem FO.shwD {z : Str} (fo : FO E G O S F σ H) (r : Rp E.K F v d) (h : ShwD d z) : Shw E.K H v z := by
  obtain ⟨p, hp, hk, h1, h2, h3, h4, rfl⟩ := h
  exact fo.shw r hp hk h1 h2 h3 h4
theorem x_repr {z : Str} (fo : FO E G O ((x, d) :: S) F σ H) (h : ShwD d z) (k : FO E G O ((.str z, .raw (.str z)) :: S) F σ H → Q (.str z) H) : cRepr E.K C sp [x] H Q := .inl ⟨x, z, rfl, fo.shwD fo.top h, k (fo.pop.push (.raw _))⟩
theorem x_reprO (fo : FO E G O ((x, .obj C ns ds) :: S) F σ H) (k : kCall sp [] E0 (kStr Q) [x] H) : cRepr E.K C sp [x] H Q := .inr ⟨x, rfl, fo.inC fo.top, k⟩
theorem x_kStr {z : Str} (fo : FO E G O ((x, .raw (.str z)) :: S) F σ H) (k : FO E G O ((.str z, .raw (.str z)) :: S) F σ H → Q (.str z) H) : kStr Q x H := by
  have e := fo.top.raw_eq; subst e
  exact ⟨⟨z, rfl⟩, k fo⟩
def kFmt (K : PySem.W.Frag) (Q : VK) (x : V) (H : Hp) : Prop := ∃ z, Shw K H x z ∧ Q (.str z) H
theorem x_fmt {K : PySem.W.Frag} (h : te σ H (kFmt K Q)) : tFmtD K te σ H Q := h
theorem x_kFmt {z : Str} (fo : FO E G O ((x, d) :: S) F σ H) (h : ShwD d z) (k : FO E G O ((.str z, .raw (.str z)) :: S) F σ H → Q (.str z) H) : kFmt E.K Q x H := ⟨z, fo.shwD fo.top h, k (fo.pop.push (.raw _))⟩
def kJs (ts : List TE) (acc : Str) (σ : L2.St) (R : Str → Hp → Prop) (x : V) (H : Hp) : Prop := ∃ y : Str, x = .str y ∧ (acc ++ y).length ≤ sizeLine ∧ tJs ts (acc ++ y) σ H R
theorem x_join {ts : List TE} (h : tJs ts Str.empty σ H fun out H1 => Q (.str out) H1) : tJoin ts σ H Q := h
theorem x_jcons {t : TE} {ts : List TE} {acc : Str} {R : Str → Hp → Prop} (h : t σ H (kJs ts acc σ R)) : tJs (t :: ts) acc σ H R := h
theorem x_jnil {acc : Str} {R : Str → Hp → Prop} (h : R acc H) : tJs [] acc σ H R := h
theorem x_kJs {ts : List TE} {acc z : Str} {R : Str → Hp → Prop} (fo : FO E G O ((x, .raw (.str z)) :: S) F σ H) (hl : (acc ++ z).length ≤ 1000000) (k : FO E G O S F σ H → tJs ts (acc ++ z) σ H R) : kJs ts acc σ R x H := ⟨z, fo.top.raw_eq, Nat.le_trans hl (by decide), k fo.pop⟩
end
end DL

set_option maxHeartbeats 4000000
/-! DLk: a def by its body, and a law's end, where the stack of repr guards is known to be empty. -/
namespace DL
open PySem PySem.Spec PyProof.Rows L2
section
variable {P : Program} {w : World} {K : PySem.W.Frag} {mg : Str → Option Value} {base : Heap}
theorem ok_body {g : Bool} {x qual : Str} {st : Stmt} {f : Addr} {fd : FuncData} {N ps : List Str} {k : Nat} {sp : Sp} (F : L2.Fun K x qual st f fd) (S : FnScope N ps (defScope st)) (hb : Binds K fd ps []) (len : ∀ vs H Q E, sp vs H Q E → vs.length = ps.length)
    (hbody : ∀ (cdv : Value) (A : Around) (outer : List Env) (s : Shared) (H : Hp) (vs : List V) (Q : VK) (Ex : XK), Room k (A.deeper (envOfC qual (defScope st) s.heap.objs.size f cdv)) → (g = true → (A.deeper (envOfC qual (defScope st) s.heap.objs.size f cdv)).guards = some []) → sp vs H Q Ex →
      ∃ t, PSs (cxOf CX0 P w K mg base N qual (defScope st) f cdv A outer s H Ex).nox (defBody st) t ∧ t { nx := fun _ H' => Q .non H', rt := Q } (L2.start N vs) H) : FnS g P w K mg base (k + 1) f sp := by
  obtain ⟨oc, od, kV, doc, pm, an, cdv, ct, osl, rfl, lk, hcd⟩ := F.ex
  intro A outer s H us vs Q Ex hr hg e0 r hsp
  have hl := len _ _ _ _ hsp
  have KX : K.In s.heap := e0.mod.kin.keeps fun b o e => (e0.bs b o e).1
  have lim : s.heap.NoLimit := e0.mod.nolimit.keeps fun b o e => (e0.bs b o e).1
  have bnd := hb s us KX (by rw [List.append_nil, ← r.length]; exact hl)
  rw [List.append_nil] at bnd
  refine codeAny_call_function hr.depth (KX _ _ lk) rfl S.co S.gen rfl (PySem.W.codeRec_of KX hcd) (bnd _ _ _ _ ?_)
  refine wpAny_newFunctionEnv_cells S.kind (fun ⟨n, v⟩ hy => (S.par n (List.of_mem_zip hy).1).imp id fun q => ⟨q, PySem.W.cellsFrom_some _ _ _ (.inl q)⟩) fun env he s1 y => ?_
  subst he
  refine ⟨lim.keeps y.toInCall.keep, codeAny_func ?_⟩
  obtain ⟨t, ht, hq⟩ := hbody cdv A outer s H vs Q Ex (hr.deeper _) (fun z => hg z) hsp
  have I : Inv (cxOf CX0 P w K mg base N qual (defScope st) f cdv A outer s H Ex) [] (L2.start N vs) H s1 := inv_start S hr.hd e0 hl r y
  refine wpAny_mono (ht.nox.run [] s1 (L2.start N vs) H _ I hq) (fun fl s' hs => ?_) fun e s' hs => hs
  cases fl with
  | ret u =>
    obtain ⟨v, σ', H', J, rv, q⟩ := hs
    exact ⟨v, H', J.os, J.bare, J.base, J.hok, rv, q⟩
  | next =>
    obtain ⟨σ', H', J, q⟩ := hs
    exact ⟨V.non, H', J.os, J.bare, J.base, J.hok, rfl, q⟩
  | brk =>
    obtain ⟨_, _, _, q⟩ := hs
    exact False.elim q
  | cont =>
    obtain ⟨_, _, _, q⟩ := hs
    exact False.elim q
end

section
variable {X : Cx} {x : Str} {pos : Pos}
theorem p_globI {i : Int} (hg : Gl X x) (h : ∃ t, X.mg x = some (.int i t)) (hd : (x == ("__debug__" : Str)) = false := by decide) : PE X (.Name x pos) (tC (.int i)) := by
  obtain ⟨t, h⟩ := h
  exact pe_glob hg h ⟨t, rfl⟩ hd
theorem p_ty {n : String} (hg : Gl X x) (hm : X.mg x = none) (hv : bootBuiltins x = some (.type n)) (hn : x ≠ "__name__" := by decide) (hd : (x == ("__debug__" : Str)) = false := by decide) : PE X (.Name x pos) (tC (.ty n)) := pe_bltn hg hm hv rfl hn hd
theorem p_cls {C : Addr} (hg : Gl X x) (hm : X.mg x = some (.ref C)) (hd : (x == ("__debug__" : Str)) = false := by decide) : PE X (.Name x pos) (tC (.ref C)) := pe_glob hg hm rfl hd
theorem p_lstO {es : List Expr} {t : TA} (h : PA X es t) : PE X (.List es pos) (tLstO t) := pe_lst h
end
/-! ### the law is called -/
/-- the script as it lies in the abstract heap -/
def Scr (K : PySem.W.Frag) (H : Hp) (a : Addr) (ns : List Int) : Prop := SqL K H a (ns.map V.int) ∧ ∀ b, H b = none ∨ ∃ o xs, H b = some (.frz o (.lst xs))
section
variable {P : Program} {w : World} {K : PySem.W.Frag} {mg mb : Str → Option Value} {k : Nat} {fa a : Addr} {sp : Sp} {s₁ : Shared} {vs : List Value} {ns : List Int}
theorem call_core {H : Hp} (KX : K.In s₁.heap) (hns : s₁.heap.Ns mainGlobals mg) (hb : s₁.heap.Ns builtinsNs mb) (hbb : ∀ x : Str, x ≠ "__name__" → mb x = bootBuiltins x) (hlim : s₁.heap.NoLimit) (hg : s₁.gens = #[])
    (ha : s₁.heap.get? a = some { cls := .type "list", data := .seq vs.toArray }) (hr : Room k callerA)
    (F : ∀ base : Heap, K.In base → base.Ns mainGlobals mg → FnS true P w K mg base k fa sp) (hsp : sp [.ref a] H (fun v _ => v = .bl true) E0) (hS : ∀ b, H b = none ∨ ∃ o xs, H b = some (.frz o (.lst xs)))
    (hok : HOk P w H s₁.heap) (hA : ∀ b, H b ≠ none → b = a) (hK : H a ≠ none → K.lookup a = none) :
    codeAny (model P w) callerA (.call (.ref fa) ⟨[.ref a], []⟩) (fun r s' => r = .ok (.ret (.bool true)) ∧ OldK s₁.heap s'.heap ∧ s'.os = s₁.os ∧ AllBare s'.gens) s₁ := by
  have only : ∀ {b : Addr} {u : HO}, H b = some u → b = a := fun {b u} e => hA b (by rw [e]; exact fun z => nomatch z)
  have noD : ∀ {b : Addr} {o : Obj} {es : Array DictEntry} {ep : Nat}, s₁.heap.get? b = some o → o.data = .dict es ep → H b = none := fun {b o es ep} e d => by
    cases q : H b with
    | none => rfl
    | some u =>
      have z := only q
      subst z
      rw [ha] at e
      cases e
      cases (show Data.seq vs.toArray _ = Data.dict es ep from d)
  have nsB : ∀ {b : Addr} {m : Str → Option Value}, s₁.heap.Ns b m → (hidT s₁.heap H).Ns b m := fun {b m} ⟨o, es, ep, e, d, r⟩ => ⟨o, es, ep, hidT_get e (noD e d), d, r⟩
  have KB : K.In (hidT s₁.heap H) := fun b o e => hidT_get (KX b o e) (by
    cases q : H b with
    | none => rfl
    | some u =>
      have z := only q
      subst z
      rw [hK (by rw [q]; exact fun z => nomatch z)] at e
      cases e)
  obtain ⟨mc, c1, c2⟩ := hlim
  have e0 : Env0 P w K mg (hidT s₁.heap H) callerA [] s₁ H := ⟨rfl, ⟨KB, nsB hns, ⟨mb, nsB hb, hbb⟩, ⟨mc, nsB c1, c2⟩⟩, fun b o e => of_hidT e, Nat.le_of_eq (hidT_size _ _), trivial, (fun b z => nomatch z), hok, .of_eq hg⟩
  refine codeAny_mono (F _ KB (nsB hns) callerA [] s₁ H [.ref a] [.ref a] _ E0 hr (fun _ => rfl) e0 (.cons rfl .nil) hsp) fun r s' h => ?_
  cases r with
  | error e => exact False.elim h
  | ok fl =>
    cases fl with
    | next => exact False.elim h
    | brk => exact False.elim h
    | cont => exact False.elim h
    | ret u =>
      obtain ⟨v, H', os, bare, un, hok', r', q⟩ := h
      have q' : v = .bl true := q
      subst q'
      cases (show u = Value.bool true from r')
      refine ⟨rfl, OldK.of_keep fun b o e => ?_, os, bare⟩
      rcases hS b with z | ⟨ob, xs, z⟩
      · exact un.keep b o e z (by intro z; exact absurd (show b ∈ ([] : List Addr) from z) (by simp)) (by simp)
      · obtain ⟨e1, _⟩ := hok b _ z
        obtain ⟨e2, _⟩ := hok' b _ (un.frzs b ob _ z)
        rw [e] at e1
        cases e1
        exact e2
theorem call_law (KX : K.In s₁.heap) (hns : s₁.heap.Ns mainGlobals mg) (hb : s₁.heap.Ns builtinsNs mb) (hbb : ∀ x : Str, x ≠ "__name__" → mb x = bootBuiltins x) (hlim : s₁.heap.NoLimit) (hg : s₁.gens = #[])
    (ha : s₁.heap.get? a = some { cls := .type "list", data := .seq vs.toArray }) (hi : IntsAre vs ns) (hl : ns.length ≤ sizeLine) (hr : Room k callerA)
    (F : ∀ base : Heap, K.In base → base.Ns mainGlobals mg → FnS true P w K mg base k fa sp) (hsp : ∀ H : Hp, Scr K H a ns → sp [.ref a] H (fun v _ => v = .bl true) E0) :
    codeAny (model P w) callerA (.call (.ref fa) ⟨[.ref a], []⟩) (fun r s' => r = .ok (.ret (.bool true)) ∧ OldK s₁.heap s'.heap ∧ s'.os = s₁.os ∧ AllBare s'.gens) s₁ := by
  have rv := vals_ints hi
  have lenV := hi.length
  cases hk : K.lookup a with
  | some o =>
    have e := KX a o hk
    rw [ha] at e
    cases e
    refine call_core (H := fun _ => none) KX hns hb hbb hlim hg ha hr F (hsp _ ⟨.inr ⟨_, vs.toArray, _, hk, rfl, rfl, rfl, by rw [List.size_toArray, lenV]; exact hl, by simpa using rv⟩, fun _ => .inl rfl⟩) (fun _ => .inl rfl) (fun b u z => nomatch z) (fun b z => absurd rfl z) fun z => absurd rfl z
  | none =>
    let ob : Obj := { cls := .type "list", data := .seq vs.toArray }
    let H : Hp := fun b => if b = a then some (.frz ob (.lst (ns.map V.int))) else none
    have h1 : H a = some (.frz ob (.lst (ns.map V.int))) := if_pos rfl
    have h2 : ∀ b, b ≠ a → H b = none := fun b z => if_neg z
    have hF : ∀ b, H b = none ∨ ∃ o xs, H b = some (.frz o (.lst xs)) := fun b => by
      by_cases z : b = a
      · subst z; exact .inr ⟨_, _, h1⟩
      · exact .inl (h2 b z)
    refine call_core (H := H) KX hns hb hbb hlim hg ha hr F (hsp H ⟨.inl (.inr ⟨ob, h1⟩), hF⟩) hF (fun b u z => ?_) (fun b z => ?_) fun _ => hk
    · by_cases q : b = a
      · subst q
        rw [h1] at z
        cases z
        exact ⟨ha, by rw [List.length_map]; exact hl, vs, _, rv, ha⟩
      · rw [h2 b q] at z; cases z
    · by_cases q : b = a
      · exact q
      · exact absurd (h2 b q) z
/-- the end of a law: F gives the written part and the promise over every base -/
theorem walk_end {l : PySem.W.OpenLaw} {n k : Nat} {q : Program} {loose : List Str} {XP : (Str → Option Value) → Heap → Prop} {YP : World → Heap → Prop} {d : DefRec}
    (hn : l.most = some n) (hn2 : n ≤ sizeLine) (hdf : d.params.defaults = []) (hr : Room k callerA)
    (F : ∀ (w : World) (mg : Str → Option Value) (fa : Addr) (h : Heap), YP w h → h.Ns mainGlobals mg → mg d.name = some (.ref fa) → ∃ (K : PySem.W.Frag) (sp : Sp), K.In h ∧
      (∀ (H : Hp) (a : Addr) (ns : List Int), ns.length ≤ n → Scr K H a ns → sp [.ref a] H (fun v _ => v = .bl true) E0) ∧ ∀ base : Heap, K.In base → base.Ns mainGlobals mg → FnS true l.prog w K mg base k fa sp) :
    PySem.W.WalkO q loose XP YP l.row.toRowW d [] (fun f vs => PySem.call f vs) := by
  refine Att.attach_call hn hdf fun w s₀ s₁ mg mb fa o pm cd doc a vs ns G Y ho hd hcd hmg hobj hints hlen hg => ?_
  obtain ⟨K, sp, KX, hsp, hF⟩ := F w mg fa _ Y G.T.g hmg
  exact call_law KX G.T.g G.T.b G.T.builtins G.T.nolimit hg hobj hints (Nat.le_trans hlen hn2) hr hF fun H hS => hsp H a ns hlen hS
end
end DL

set_option maxHeartbeats 4000000
/-! DLr: the laws' own helpers (box, take, pick, alike) and life rows: data, promises. -/
namespace DL
open PySem PySem.Spec PyProof.Rows L2
/-! ### draws -/
def spBox (K : PySem.W.Frag) : Sp := fun vs H Q _ => ∃ (a : Addr) (ns : List Int) (k : Int), vs = [.ref a, .int k] ∧ SqL K H a (ns.map V.int) ∧ 0 ≤ k ∧ k < 1000 ∧
  ∀ p H', H p = none → (∃ o, H' p = some o ∧ isBox o) → (∀ b o, H b = some o → H' b = some o) → Q (.ref p) H'
def spTake (K : PySem.W.Frag) : Sp := spX K (α := Addr × Int) (fun x => some x.1) (fun x => [D.at x.1, .int x.2]) (fun x => 1 ≤ x.2 ∧ x.2 < 1073741824) (fun x d => ∃ n : Int, d = .int n ∧ 0 ≤ n ∧ n < x.2)
def spPick (K : PySem.W.Frag) : Sp := spX K (α := Addr × List D) (fun x => some x.1) (fun x => [D.at x.1, .lst x.2]) (fun x => 0 < x.2.length ∧ x.2.length ≤ 1000) (fun x d => d ∈ x.2)
/-! ### alike -/
mutual
/-- data of lists, tuples, ints, truths and None -/
def plainD : D → Bool
  | .raw .non => true
  | .raw (.bl _) => true
  | .raw (.int _) => true
  | .raw (.str z) => PyData.strOk z
  | .lst xs => plainL xs
  | .tup xs => plainL xs
  | _ => false
def plainL : List D → Bool
  | [] => true
  | x :: xs => plainD x && plainL xs
end
mutual
def sizeD : D → Nat
  | .lst xs => sizeL xs + 1
  | .tup xs => sizeL xs + 1
  | _ => 1
def sizeL : List D → Nat
  | [] => 0
  | x :: xs => sizeD x + sizeL xs
end
mutual
def depD : D → Nat
  | .lst xs => depL xs + 1
  | .tup xs => depL xs + 1
  | _ => 0
def depL : List D → Nat
  | [] => 0
  | x :: xs => max (depD x) (depL xs)
end
def spAlike (K : PySem.W.Frag) : Sp := spX K (α := D) (fun _ => none) (fun x => [x, x]) (fun x => plainD x = true ∧ sizeD x ≤ 1000 ∧ depD x ≤ 50) (fun _ d => d = .bl true)
/-! ### rows of bounds -/
abbrev Row := Option Int × List (Option Int)
def oD : Option Int → D
  | none => .non
  | some i => .int i
def rowD (r : Row) : D := .tup [oD r.1, .tup (r.2.map oD)]
def lrD (C : Addr) (r : Row) : D := .obj C ["key"] [rowD r]
def lesO : Option Int → Option Int → Option Int
  | none, b => b
  | some a, none => some a
  | some a, some b => some (min a b)
def greO : Option Int → Option Int → Option Int
  | none, b => b
  | some a, none => some a
  | some a, some b => some (max a b)
/-- what a row bounds, at given lives -/
def foundF (r : Row) (ls : List Int) : List Int := (List.zipWith (fun (l : Int) (o : Option Int) => o.map fun x => l - x) ls r.2).filterMap id ++ r.1.toList
open Classical in
noncomputable def mn (ns : List Int) : Int := if h : ∃ m, m ∈ ns ∧ ∀ y, y ∈ ns → m ≤ y then Classical.choose h else 0
theorem mn_eq {ns : List Int} {m : Int} (h1 : m ∈ ns) (h2 : ∀ y, y ∈ ns → m ≤ y) : mn ns = m := by
  have h : ∃ m, m ∈ ns ∧ ∀ y, y ∈ ns → m ≤ y := ⟨m, h1, h2⟩
  unfold mn
  rw [dif_pos h]
  have q := Classical.choose_spec h
  have a := q.2 m h1
  have b := h2 _ q.1
  omega
noncomputable def boundF (r : Row) (ls : List Int) : Int := max (-1) (mn (foundF r ls))
def subF (r : Row) (t : Int) : Row := (r.1.map fun l => max (-1) (l - t), r.2.map fun o => o.map fun x => min (x + t) 61)
def andF (a b : Row) : Row := (lesO a.1 b.1, List.zipWith greO a.2 b.2)
/-- one bound that is no lower, in the order that s gives -/
def isLow (s : Int) (x y : Option Int) : Bool := match y with
  | none => true
  | some j => (match x with
    | none => false
    | some i => decide (s * i ≤ s * j))
def belowF (a b : Row) : Bool := isLow 1 a.1 b.1 && (List.zipWith (isLow (-1)) a.2 b.2).all id
def shO : Option Int → Str
  | none => "None"
  | some i => toString i
def shT (os : List (Option Int)) : Str := tupleText (os.map shO)
def reprF (r : Row) : Str := Str.empty ++ "LifeRow(" ++ shO r.1 ++ ", " ++ shT r.2 ++ ")"
/-- what the law draws: n places, small numbers, not all empty -/
structure OkRow (n : Nat) (r : Row) : Prop where
  len : r.2.length = n
  some_ : r.1 ≠ none ∨ ∃ o ∈ r.2, o ≠ none
  le : ∀ i, r.1 = some i → -100 ≤ i ∧ i ≤ 100
  lo : ∀ i, some i ∈ r.2 → -100 ≤ i ∧ i ≤ 100
def spCapped (K : PySem.W.Frag) : Sp := spX K (α := Int) (fun _ => none) (fun x => [.int x]) (fun _ => True) (fun x d => d = .int (min x 61))
def spLesser (K : PySem.W.Frag) : Sp := spX K (α := Option Int × Option Int) (fun _ => none) (fun x => [oD x.1, oD x.2]) (fun _ => True) (fun x d => d = oD (lesO x.1 x.2))
def spGreater (K : PySem.W.Frag) : Sp := spX K (α := Option Int × Option Int) (fun _ => none) (fun x => [oD x.1, oD x.2]) (fun _ => True) (fun x d => d = oD (greO x.1 x.2))
/-- how the losses are given: a tuple, a list, or a list that its maker still changes -/
inductive How where
  | tup | lst | at_ (p : Addr)
def oV : Option Int → V
  | none => .non
  | some i => .int i
def howD (xs : List (Option Int)) : How → D
  | .tup => .tup (xs.map oD)
  | .lst => .lst (xs.map oD)
  | .at_ p => D.at p
/-- __init__'s promise, where a list that its caller owns may be given -/
def spInit (K : PySem.W.Frag) (C : Addr) : Sp := fun vs H Q _ =>
  ∃ (r : Row) (h : How) (F : Hp) (a dx : Addr) (ws : List V), vs = .ref a :: ws ∧ Sub F H ∧ F a = none ∧ H a = some (.ins C dx []) ∧ RpL K F ws [oD r.1, howD r.2 h] ∧ r.2.length ≤ 1000 ∧ (∀ p, h = .at_ p → H p = some (.lst (r.2.map oV))) ∧
    ∀ F' H', Sub F F' → Sub F' H' → (∀ b o, H b = some o → b ≠ a → H' b = some o) → (∀ b, F b = none → H b ≠ none → b ≠ a → F' b = none) → Rp K F' (.ref a) (lrD C r) → Q .non H'
def spCallR (K : PySem.W.Frag) (C : Addr) : Sp := spX K (α := Row × List Int) (fun _ => none) (fun x => [lrD C x.1, .tup (x.2.map D.int)]) (fun x => x.1.2.length = x.2.length ∧ x.2.length ≤ 1000 ∧ 0 < (foundF x.1 x.2).length) (fun x d => d = .int (boundF x.1 x.2))
def spSubR (K : PySem.W.Frag) (C : Addr) : Sp := spX K (α := Row × Int) (fun _ => none) (fun x => [lrD C x.1, .int x.2]) (fun x => x.1.2.length ≤ 1000) (fun x d => d = lrD C (subF x.1 x.2))
def spAndR (K : PySem.W.Frag) (C : Addr) : Sp := spX K (α := Row × Row) (fun _ => none) (fun x => [lrD C x.1, lrD C x.2]) (fun x => x.1.2.length = x.2.2.length ∧ x.1.2.length ≤ 1000) (fun x d => d = lrD C (andF x.1 x.2))
/-- the right of an own ==: a row, or something else -/
def othR (C : Addr) : Row ⊕ D → D
  | .inl r => lrD C r
  | .inr d => d
def spEqR (K : PySem.W.Frag) (C : Addr) : Sp := spX K (α := Row × (Row ⊕ D)) (fun _ => none) (fun x => [lrD C x.1, othR C x.2]) (fun x => ∀ d, x.2 = .inr d → ∃ t, tyD d = some t ∧ t ∈ ["NoneType", "int", "str", "tuple", "list", "bool"])
  (fun x d => d = .bl (match x.2 with | .inl r => decide (x.1 = r) | .inr _ => false))
def spReprR (K : PySem.W.Frag) (C : Addr) : Sp := spX K (α := Nat × Row) (fun _ => none) (fun x => [lrD C x.2]) (fun x => OkRow x.1 x.2 ∧ x.1 ≤ 10) (fun x d => d = .str (reprF x.2))
def spLeftR (K : PySem.W.Frag) (C : Addr) : Sp := spX K (α := Row) (fun _ => none) (fun x => [lrD C x]) (fun _ => True) (fun x d => d = oD x.1)
def spLostR (K : PySem.W.Frag) (C : Addr) : Sp := spX K (α := Row) (fun _ => none) (fun x => [lrD C x]) (fun _ => True) (fun x d => d = .tup (x.2.map oD))
def spBelowR (K : PySem.W.Frag) (C : Addr) : Sp := spX K (α := Row × Row) (fun _ => none) (fun x => [lrD C x.1, lrD C x.2]) (fun x => x.1.2.length = x.2.2.length ∧ x.1.2.length ≤ 1000) (fun x d => d = .bl (belowF x.1 x.2))
/-! ### the laws' own words on rows -/
def spRow (K : PySem.W.Frag) : Sp := spX K (α := Addr × Nat) (fun x => some x.1) (fun x => [D.at x.1, .int x.2]) (fun x => x.2 ≤ 10) (fun x d => ∃ r, OkRow x.2 r ∧ d = rowD r)
def spBound (K : PySem.W.Frag) : Sp := spX K (α := Row × List Int) (fun _ => none) (fun x => [rowD x.1, .tup (x.2.map D.int)]) (fun x => x.1.2.length = x.2.length ∧ x.2.length ≤ 1000 ∧ 0 < (foundF x.1 x.2).length) (fun x d => d = .int (boundF x.1 x.2))
def spParts (K : PySem.W.Frag) (C : Addr) : Sp := spX K (α := Row) (fun _ => none) (fun x => [lrD C x]) (fun _ => True) (fun x d => d = rowD x)
def spLess (K : PySem.W.Frag) : Sp := spX K (α := Row × Int) (fun _ => none) (fun x => [rowD x.1, .int x.2]) (fun x => x.1.2.length ≤ 1000) (fun x d => d = rowD (subF x.1 x.2))
def spWorse (K : PySem.W.Frag) : Sp := spX K (α := Option Int × Option Int × Bool) (fun _ => none) (fun x => [oD x.1, oD x.2.1, .int (if x.2.2 then 1 else -1)]) (fun _ => True) (fun x d => d = oD (if x.2.2 then lesO x.1 x.2.1 else greO x.1 x.2.1))
def spLeast (K : PySem.W.Frag) : Sp := spX K (α := Row × Row) (fun _ => none) (fun x => [rowD x.1, rowD x.2]) (fun x => x.1.2.length = x.2.2.length ∧ x.1.2.length ≤ 1000) (fun x d => d = rowD (andF x.1 x.2))
def spBelow (K : PySem.W.Frag) : Sp := spX K (α := Row × Row) (fun _ => none) (fun x => [rowD x.1, rowD x.2]) (fun x => x.1.2.length = x.2.2.length ∧ x.1.2.length ≤ 1000) (fun x d => d = .bl (belowF x.1 x.2))
def spNear (K : PySem.W.Frag) : Sp := spX K (α := Addr × Nat × Row) (fun x => some x.1) (fun x => [D.at x.1, rowD x.2.2]) (fun x => OkRow x.2.1 x.2.2 ∧ x.2.1 ≤ 10) (fun x d => ∃ r, OkRow x.2.1 r ∧ d = rowD r)
def spPair (K : PySem.W.Frag) : Sp := spX K (α := Addr × Nat × Row × Row) (fun x => some x.1) (fun x => [D.at x.1, rowD x.2.2.1, rowD x.2.2.2]) (fun x => OkRow x.2.1 x.2.2.1 ∧ OkRow x.2.1 x.2.2.2 ∧ x.2.1 ≤ 10) (fun _ d => d = .bl true)
def spLaw (K : PySem.W.Frag) : Sp := fun vs H Q _ => ∃ (a : Addr) (ns : List Int), vs = [.ref a] ∧ Scr K H a ns ∧ ns.length ≤ 1000 ∧ ∀ H', Q (.bl true) H'

section
variable {E : Eb} {G : List (Option D)} {O : List (Addr × List D)} {S S0 : List (V × D)} {F F' H H' : Hp} {σ : L2.St} {v x y : V} {d e : D} {Q : VK} {xs : List (Option Int)}
theorem Rp.oV {K : PySem.W.Frag} (o : Option Int) : Rp K F (oV o) (oD o) := by cases o <;> exact .raw _
theorem RpL.oV {K : PySem.W.Frag} : ∀ xs : List (Option Int), RpL K F (xs.map DL.oV) (xs.map oD)
  | [] => .nil
  | o :: xs => .cons (Rp.oV o) (RpL.oV xs)
theorem RpL.oV_eq {K : PySem.W.Frag} : ∀ {xs : List (Option Int)} {us : List V}, RpL K F us (xs.map oD) → us = xs.map DL.oV
  | [], _, h => h.nil_eq
  | o :: xs, _, h => by
    obtain ⟨v, ws, rfl, r1, r2⟩ := h.cons_of
    have e : v = DL.oV o := by cases o <;> exact r1.raw_eq
    rw [e, RpL.oV_eq r2]; rfl
theorem x_tupleAt {p : Addr} (fo : FO E G O ((x, D.at p) :: S) F σ H) (h : H p = some (.lst (xs.map oV))) (k : ∀ v F' H', FO E G O ((v, .tup (xs.map oD)) :: S) F' σ H' → Q v H') : cTuple E.K [x] H Q := by
  have e := fo.top.raw_eq; subst e
  exact ⟨p, _, rfl, .inl ⟨SqL.of h, fun l hl => k _ _ _ (fo.pop.newT hl (RpL.oV xs))⟩⟩
theorem x_tupleHow {h : How} (fo : FO E G O ((x, howD xs h) :: S) F σ H) (hat : ∀ p, h = .at_ p → H p = some (.lst (xs.map oV))) (k : ∀ v F' H', FO E G O ((v, .tup (xs.map oD)) :: S) F' σ H' → Q v H') : cTuple E.K [x] H Q := by
  cases h with
  | tup => exact x_tupleOf fo (.inl rfl) k
  | lst => exact x_tupleOf fo (.inr (.inl rfl)) k
  | at_ p => exact x_tupleAt fo (hat p rfl) k
/-- .. making: x_kMake's form for this promise -/
theorem x_kInit (r : Row) (h : How) {C : Addr} {vs : List V} {ds : List D} (fo : FO E G O S F σ H) (t : Taken S vs ds S0) (ha : ds = [oD r.1, howD r.2 h]) (hl : r.2.length ≤ 1000) (hat : ∀ p, h = .at_ p → (p, r.2.map oD) ∈ O) (k : ∀ p F' H', FO E G O ((.ref p, lrD C r) :: S0) F' σ H' → Q (.ref p) H') : kMake C (spInit E.K C) Q vs H := by
  have q := x_kMake (α := Unit) (E := E) (arg := fun _ => [oD r.1, howD r.2 h]) (pre := fun _ => True) (ns := ["key"]) (key := fun _ => [rowD r]) (C := C) () fo t ha trivial k
  intro p dx h1 h2 h3
  obtain ⟨_, F1, a, dx', ws, e, s1, fa, hA, rl, _, kk⟩ := q p dx h1 h2 h3
  refine ⟨r, h, F1, a, dx', ws, e, s1, fa, hA, rl, hl, fun z hz => ?_, kk⟩
  obtain ⟨us, hz2, ru, _, _, _⟩ := fo.own _ (hat z hz)
  have eu : us = r.2.map oV := RpL.oV_eq ru
  subst eu
  have hz3 : H z = some (.lst (r.2.map oV)) := hz2
  rw [upd_ne (ne_of_none hz3 h1), upd_ne (ne_of_none hz3 h2)]
  exact hz3
end
end DL

set_option maxHeartbeats 4000000
/-! DLs: comprehensions whose turns are told by a function of the item. -/
namespace DL
open PySem PySem.Spec PyProof.Rows L2
theorem is_Tup {Q : VK} {vs : List V} {H : Hp} (h : kTup Q vs H) : kTup Q vs H := h
theorem is_Lst {Q : VK} {vs : List V} {H : Hp} (h : kLst Q vs H) : kLst Q vs H := h
theorem is_LstO {Q : VK} {vs : List V} {H : Hp} (h : kLstO Q vs H) : kLstO Q vs H := h
theorem range_fm {α β : Type} (f : α → Option β) : ∀ (xs : List α) (n : Nat), n ≤ xs.length → (List.range n).filterMap (fun i => xs[i]?.bind f) = (xs.take n).filterMap f
  | xs, 0, _ => by simp
  | xs, n + 1, h => by
    rw [List.range_succ, List.filterMap_append, range_fm f xs n (by omega)]
    have hn : n < xs.length := by omega
    rw [List.take_succ, List.filterMap_append, List.getElem?_eq_getElem hn]
    simp [List.getElem?_eq_getElem hn, List.filterMap]
section
variable {E : Eb} {G : List (Option D)} {O : List (Addr × List D)} {S S0 Sx : List (V × D)} {F F' H H' : Hp} {σ : L2.St} {v x y : V} {d e : D} {Q : VK} {tt : TT} {te : TE} {ws : List Nat}
/-- how a turn may end: with an item, without one -/
structure TE2 (E : Eb) (G : List (Option D)) (O : List (Addr × List D)) (S : List (V × D)) (p : Addr) (acc : List D) (σ2 : L2.St) (Nx : Hp → Prop) (o : Option D) : Prop where
  item : ∀ y d F H, o = some d → FO E G ((p, acc) :: O) ((y, d) :: S) F σ2 H → kEnd p Nx y H
  skip : ∀ F H, o = none → FO E G ((p, acc) :: O) S F σ2 H → Nx H
theorem wipe_in {σ : L2.St} {ws : List Nat} {j : Nat} {u : Option V} (h : j ∈ ws) : wipe ((wipe σ ws).set j u) ws = wipe σ ws := by rw [wipe_set h, wipe_twice]
theorem wipe_in2 {σ : L2.St} {ws : List Nat} {i j : Nat} {u w : Option V} (h1 : i ∈ ws) (h2 : j ∈ ws) : wipe (((wipe σ ws).set i u).set j w) ws = wipe σ ws := by rw [wipe_set h2, wipe_set h1, wipe_twice]
theorem wipeG_set {u : Option D} {G : List (Option D)} : ∀ {ws : List Nat} {j : Nat}, j ∈ ws → wipeG (G.set j u) ws = wipeG G ws
  | k :: r, j, h => by
    unfold wipeG
    by_cases hr : j ∈ r
    · rw [wipeG_set hr]
    · rcases List.mem_cons.mp h with z | z
      · subst z
        have e : ∀ (r : List Nat) (τ : List (Option D)), j ∉ r → wipeG (τ.set j u) r = (wipeG τ r).set j u := by
          intro r
          induction r with
          | nil => intro τ _; rfl
          | cons m r ih =>
            intro τ hm
            rw [List.mem_cons, not_or] at hm
            unfold wipeG
            rw [ih τ hm.2, List.set_comm _ _ (fun q => hm.1 q)]
        rw [e r G hr, List.set_set]
      · exact absurd z hr
theorem wipeG_twice (ws : List Nat) (G : List (Option D)) : wipeG (wipeG G ws) ws = wipeG G ws := by
  have gen : ∀ (r : List Nat) (τ : List (Option D)), (∀ j ∈ r, j ∈ ws) → wipeG (wipeG τ r) ws = wipeG τ ws := by
    intro r
    induction r with
    | nil => intro τ _; rfl
    | cons m r ih =>
      intro τ h
      show wipeG ((wipeG τ r).set m none) ws = _
      rw [wipeG_set (h m List.mem_cons_self)]
      exact ih τ fun j hj => h j (List.mem_cons_of_mem _ hj)
  exact gen ws G fun _ h => h
/-- [te for x in xs if tt] -/
theorem x_lcS {α : Type} {xs : List α} (A : α → D) (gf : α → Option D) {J : It} {j : Nat} (dw : DW E.K J xs.length (itOf (xs.map A)) Sx) (fo : FO E G O (Sx ++ S) F σ H) (hn : xs.length ≤ 1000) (hj : j ∈ ws)
    (hs : ∀ p acc F' H' σ2 x Nx, x ∈ xs → FO E ((wipeG G ws).set j (some (A x))) ((p, acc) :: O) (Sx ++ S) F' σ2 H' → TE2 E ((wipeG G ws).set j (some (A x))) O (Sx ++ S) p acc σ2 Nx (gf x) → tt σ2 H' fun b H3 => if b = true then te σ2 H3 (kEnd p Nx) else Nx H3)
    (hd : ∀ p F' H', FO E (wipeG G ws) ((p, xs.filterMap gf) :: O) S F' σ H' → Q (.ref p) H') : kLc (gName j) tt te ws σ Q J H := by
  refine x_lcGo (fun i acc => acc = (List.range i).filterMap fun i => xs[i]?.bind gf) dw fo (fun z hz => List.mem_append_left _ hz) (by omega) rfl (fun p i acc F' H' v τ hτ hi hacc hl fo => ?_) (fun p acc F' H' hacc _ fo => hd p F' H' ?_)
  · subst hτ
    have e : xs[i]? = some xs[i] := List.getElem?_eq_getElem hi
    have e2 : itOf (xs.map A) i = A xs[i] := itOf_some (by rw [List.getElem?_map, e]; rfl)
    rw [e2] at fo
    refine x_gnameK fo fun fo => ⟨wipe_in hj, ?_⟩
    refine hs p acc F' H' _ xs[i] _ (List.getElem_mem hi) fo ⟨fun y d F H hd fo => ?_, fun F H hd fo => ?_⟩
    · exact x_kEnd fo hl (by omega) (wipe_in hj) (by rw [wipeG_set hj, wipeG_twice]) (by rw [hacc, List.range_succ, List.filterMap_append]; simp [e, hd, List.filterMap])
    · exact x_kSkip fo hl (wipe_in hj) (by rw [wipeG_set hj, wipeG_twice]) (by rw [hacc, List.range_succ, List.filterMap_append]; simp [e, hd, List.filterMap])
  · rw [hacc, range_fm gf xs _ (Nat.le_refl _), List.take_of_length_le (Nat.le_refl _)] at fo
    exact fo.weakS fun z hz => List.mem_append_right _ hz
theorem pair_at {α β : Type} {as : List α} {bs : List β} (A : α → D) (B : β → D) {i : Nat} (h : i < min as.length bs.length) : ∃ a b, (as.zip bs)[i]? = some (a, b) ∧ pairD (as.map A) (bs.map B) i = .tup [A a, B b] := by
  have h1 : i < as.length := by omega
  have h2 : i < bs.length := by omega
  refine ⟨as[i], bs[i], ?_, ?_⟩
  · rw [List.getElem?_eq_getElem (by rw [List.length_zip]; exact h)]; simp
  · unfold pairD
    rw [itOf_some (d := A as[i]) (by rw [List.getElem?_map, List.getElem?_eq_getElem h1]; rfl), itOf_some (d := B bs[i]) (by rw [List.getElem?_map, List.getElem?_eq_getElem h2]; rfl)]
/-- [te for x, y in zip(as, bs) if tt] -/
theorem x_lcZ {α β : Type} {as : List α} {bs : List β} (A : α → D) (B : β → D) (gf : α × β → Option D) {J : It} {i j : Nat} {K : PySem.W.Frag} (dw : DW E.K J (min (as.map A).length (bs.map B).length) (pairD (as.map A) (bs.map B)) Sx) (fo : FO E G O (Sx ++ S) F σ H)
    (hn : as.length ≤ 1000) (hi : i ∈ ws) (hj : j ∈ ws)
    (hs : ∀ p acc F' H' σ2 a b Nx, (a, b) ∈ as.zip bs → FO E (((wipeG G ws).set i (some (A a))).set j (some (B b))) ((p, acc) :: O) (Sx ++ S) F' σ2 H' → TE2 E (((wipeG G ws).set i (some (A a))).set j (some (B b))) O (Sx ++ S) p acc σ2 Nx (gf (a, b)) → tt σ2 H' fun c H3 => if c = true then te σ2 H3 (kEnd p Nx) else Nx H3)
    (hd : ∀ p F' H', FO E (wipeG G ws) ((p, (as.zip bs).filterMap gf) :: O) S F' σ H' → Q (.ref p) H') : kLc (gTup K 2 (gCons (gName i) (gCons (gName j) gNil))) tt te ws σ Q J H := by
  rw [List.length_map, List.length_map] at dw
  refine x_lcGo (fun i acc => acc = (List.range i).filterMap fun i => (as.zip bs)[i]?.bind gf) dw fo (fun z hz => List.mem_append_left _ hz) (by omega) rfl (fun p m acc F' H' v τ hτ hm hacc hl fo => ?_) (fun p acc F' H' hacc _ fo => hd p F' H' ?_)
  · subst hτ
    obtain ⟨a, b, e, e2⟩ := pair_at A B hm
    rw [e2] at fo
    refine x_gtup2 fo fun v1 v2 fo => x_gcons (x_gnameK fo fun fo => x_gcons (x_gnameK fo fun fo => x_gnil rfl ⟨wipe_in2 hi hj, ?_⟩))
    refine hs p acc F' H' _ a b _ (List.mem_of_getElem? e) fo ⟨fun y d F H hd fo => ?_, fun F H hd fo => ?_⟩
    · exact x_kEnd fo hl (by omega) (wipe_in2 hi hj) (by rw [wipeG_set hj, wipeG_set hi, wipeG_twice]) (by rw [hacc, List.range_succ, List.filterMap_append]; simp [e, hd, List.filterMap])
    · exact x_kSkip fo hl (wipe_in2 hi hj) (by rw [wipeG_set hj, wipeG_set hi, wipeG_twice]) (by rw [hacc, List.range_succ, List.filterMap_append]; simp [e, hd, List.filterMap])
  · have hz : min as.length bs.length = (as.zip bs).length := (List.length_zip).symm
    rw [hacc, hz, range_fm gf _ _ (Nat.le_refl _), List.take_of_length_le (Nat.le_refl _)] at fo
    exact fo.weakS fun z hz => List.mem_append_right _ hz
end
theorem fm_some {α β : Type} (f : α → β) : ∀ xs : List α, xs.filterMap (fun o => some (f o)) = xs.map f
  | [] => rfl
  | x :: xs => by rw [List.filterMap_cons, List.map_cons, fm_some f xs]
theorem found_fm : ∀ (ls : List Int) (os : List (Option Int)), (ls.zip os).filterMap (fun z => z.2.map fun x => D.int (z.1 - x)) = ((List.zipWith (fun (l : Int) (o : Option Int) => o.map fun x => l - x) ls os).filterMap id).map D.int
  | [], _ => by simp
  | _ :: _, [] => by simp
  | l :: ls, o :: os => by
    rw [List.zip_cons_cons, List.zipWith_cons_cons, List.filterMap_cons, List.filterMap_cons, found_fm ls os]
    cases o <;> rfl
theorem zip_gre (f : Option Int → Option Int → Option Int) : ∀ (as bs : List (Option Int)), (as.zip bs).filterMap (fun z => some (oD (f z.1 z.2))) = (List.zipWith f as bs).map oD
  | [], _ => by simp
  | _ :: _, [] => by simp
  | a :: as, b :: bs => by
    rw [List.zip_cons_cons, List.zipWith_cons_cons, List.filterMap_cons, zip_gre f as bs]; rfl
end DL

set_option maxHeartbeats 4000000
/-! DLt: rows as == and repr see them. -/
namespace DL
open PySem PySem.Spec PyProof.Rows L2
def oPy : Option Int → PyData
  | none => .none
  | some i => .int i
def rowP (r : Row) : PyData := .tuple [oPy r.1, .tuple (r.2.map oPy)]
theorem toPy_oD (o : Option Int) : toPy (oD o) = some (oPy o) := by cases o <;> rfl
theorem toPyL_oD : ∀ xs : List (Option Int), toPyL (xs.map oD) = some (xs.map oPy)
  | [] => rfl
  | o :: xs => by rw [List.map_cons, toPyL, toPy_oD, toPyL_oD xs]; rfl
theorem toPy_tup (xs : List (Option Int)) : toPy (.tup (xs.map oD)) = some (.tuple (xs.map oPy)) := by rw [toPy, toPyL_oD]; rfl
theorem toPy_rowD (r : Row) : toPy (rowD r) = some (rowP r) := by
  unfold rowD rowP
  rw [toPy, toPyL, toPyL, toPyL, toPy_oD, toPy_tup]; rfl
theorem lay_oPy (o : Option Int) : (oPy o).canLay0 = true := by cases o <;> rfl
theorem layA_oPy : ∀ xs : List (Option Int), PyData.canLayAll0 (xs.map oPy) = true
  | [] => rfl
  | o :: xs => by rw [List.map_cons, PyData.canLayAll0, lay_oPy, layA_oPy xs]; rfl
theorem dep_oPy (o : Option Int) : (oPy o).depth = 0 := by cases o <;> rfl
theorem depA_oPy : ∀ xs : List (Option Int), PyData.depthAll (xs.map oPy) = 0
  | [] => rfl
  | o :: xs => by rw [List.map_cons, PyData.depthAll, dep_oPy, depA_oPy xs]; rfl
theorem shaped_row (r : Row) : SeqAt.shaped (rowP r) = true := by
  unfold SeqAt.shaped rowP
  simp [PyData.canLay0, PyData.canLayAll0, lay_oPy, layA_oPy, PyData.depth, PyData.depthAll, dep_oPy, depA_oPy]
theorem eqv_oPy (a b : Option Int) : PyData.eqv (oPy a) (oPy b) = decide (a = b) := by
  cases a with
  | none => cases b with
    | none => rfl
    | some j => rfl
  | some i => cases b with
    | none => rfl
    | some j =>
      rw [oPy, oPy, eqv_int]
      by_cases h : i = j
      · subst h; simp
      · simp [h]
theorem eqvA_oPy : ∀ as bs : List (Option Int), PyData.eqvAll (as.map oPy) (bs.map oPy) = decide (as = bs)
  | [], [] => rfl
  | [], _ :: _ => by simp [PyData.eqvAll]
  | _ :: _, [] => by simp [PyData.eqvAll]
  | a :: as, b :: bs => by
    rw [List.map_cons, List.map_cons, PyData.eqvAll, eqv_oPy, eqvA_oPy as bs]
    by_cases h : a = b <;> by_cases q : as = bs <;> simp [h, q]
theorem eqv_row (a b : Row) : PyData.eqv (rowP a) (rowP b) = decide (a = b) := by
  obtain ⟨a1, a2⟩ := a
  obtain ⟨b1, b2⟩ := b
  unfold rowP
  rw [PyData.eqv, PyData.eqvAll, PyData.eqvAll, PyData.eqvAll, eqv_oPy, PyData.eqv, eqvA_oPy]
  by_cases h : a1 = b1 <;> by_cases q : a2 = b2 <;> simp [h, q]
/-! ### repr -/
theorem int_len {i : Int} (h1 : -100 ≤ i) (h2 : i ≤ 100) : ((toString i : String) : Str).length ≤ 4 := by
  have key : ∀ n : Fin 201, ((toString ((n.val : Int) - 100) : String) : Str).length ≤ 4 := by decide +kernel
  have q := key ⟨(i + 100).toNat, by omega⟩
  have e : (((i + 100).toNat : Nat) : Int) - 100 = i := by omega
  simp only [e] at q
  exact q
theorem shO_eq (o : Option Int) : (oPy o).shown = shO o := by cases o <;> rfl
theorem shA_eq : ∀ xs : List (Option Int), PyData.shownAll (xs.map oPy) = xs.map shO
  | [] => rfl
  | o :: xs => by rw [List.map_cons, PyData.shownAll, shO_eq, shA_eq xs]; rfl
theorem shO_len {o : Option Int} (h : ∀ i, o = some i → -100 ≤ i ∧ i ≤ 100) : (shO o).length ≤ 4 := by
  cases o with
  | none => decide +kernel
  | some i => exact int_len (h i rfl).1 (h i rfl).2
theorem piled_shO : ∀ {xs : List (Option Int)}, (∀ i, some i ∈ xs → -100 ≤ i ∧ i ≤ 100) → piled (xs.map shO) ≤ 6 * xs.length
  | [], _ => Nat.zero_le _
  | o :: xs, h => by
    have a := shO_len (o := o) fun i e => h i (by rw [e]; exact List.mem_cons_self)
    have b := piled_shO (xs := xs) fun i hi => h i (List.mem_cons_of_mem _ hi)
    rw [List.map_cons, piled_cons, List.length_cons]
    omega
theorem shT_len {xs : List (Option Int)} (h : ∀ i, some i ∈ xs → -100 ≤ i ∧ i ≤ 100) : (shT xs).length ≤ 6 * xs.length + 2 := by
  have a := fmt_text (xs.map shO)
  have b := piled_shO h
  unfold shT
  omega
theorem shw_oPy {o : Option Int} (h : ∀ i, o = some i → -100 ≤ i ∧ i ≤ 100) : (oPy o).showable = true := by
  cases o with
  | none => rfl
  | some i =>
    have := h i rfl
    show decide (i.natAbs.log2 < 1920) = true
    refine decide_eq_true (Nat.lt_of_le_of_lt ?_ (by decide : 7 < 1920))
    by_cases z : i.natAbs = 0
    · rw [z]; decide
    · have q : i.natAbs ≤ 100 := by omega
      have q2 : i.natAbs < 2 ^ 8 := Nat.lt_of_le_of_lt q (by decide)
      have q3 : i.natAbs.log2 < 8 := (Nat.log2_lt z).mpr q2
      omega
theorem shwA_oPy : ∀ {xs : List (Option Int)}, (∀ i, some i ∈ xs → -100 ≤ i ∧ i ≤ 100) → PyData.showableAll (xs.map oPy) = true
  | [], _ => rfl
  | o :: xs, h => by
    rw [List.map_cons, PyData.showableAll, shw_oPy (o := o) fun i e => h i (by rw [e]; exact List.mem_cons_self), shwA_oPy (xs := xs) fun i hi => h i (List.mem_cons_of_mem _ hi)]; rfl
theorem noDict_oPy (o : Option Int) : (oPy o).hasDict = false := by cases o <;> rfl
theorem noDictA_oPy : ∀ xs : List (Option Int), PyData.hasDictAll (xs.map oPy) = false
  | [] => rfl
  | o :: xs => by rw [List.map_cons, PyData.hasDictAll, noDict_oPy, noDictA_oPy xs]; rfl
theorem shwD_o {o : Option Int} (h : ∀ i, o = some i → -100 ≤ i ∧ i ≤ 100) : ShwD (oD o) (shO o) := by
  refine ⟨oPy o, toPy_oD o, ?_, shw_oPy h, noDict_oPy o, by rw [dep_oPy]; omega, ?_, (shO_eq o).symm⟩
  · cases o with
    | none => exact .inl rfl
    | some i => exact .inr (.inl ⟨i, rfl⟩)
  · rw [shO_eq]; have := shO_len h; omega
theorem shwD_t {xs : List (Option Int)} (h : ∀ i, some i ∈ xs → -100 ≤ i ∧ i ≤ 100) (hl : xs.length ≤ 10) : ShwD (.tup (xs.map oD)) (shT xs) := by
  have e : (PyData.tuple (xs.map oPy)).shown = shT xs := by rw [PyData.shown, shA_eq]; rfl
  refine ⟨.tuple (xs.map oPy), toPy_tup xs, .inr (.inr (.inl ⟨_, rfl⟩)), ?_, ?_, ?_, ?_, e.symm⟩
  · rw [PyData.showable]; exact shwA_oPy h
  · rw [PyData.hasDict]; exact noDictA_oPy xs
  · rw [PyData.depth, depA_oPy]; decide
  · rw [e]; have := shT_len h; omega
end DL

set_option maxHeartbeats 4000000
/-! DLu: the box of draws, the script. -/
namespace DL
open PySem PySem.Spec PyProof.Rows L2
section
variable {E : Eb} {G : List (Option D)} {O : List (Addr × List D)} {S S0 : List (V × D)} {F F' H H' : Hp} {σ : L2.St} {v x y w : V} {d e : D} {Q : VK} {b a : Addr} {ns : List Int}
theorem FO.boxed {o : HO} (fo : FO E G O S F σ H) (hM : E.M = some b) (ho : E.B o) : FO E G O S F σ (upd H b o) := by
  have fb : F b = none := fo.bx b hM
  refine ⟨⟨fo.st.ff, fun a u e => ?_, fun a u e m => ?_, fo.st.new, fun c q => ?_⟩, fo.bx, fo.len, fo.slot, fo.stk, fun p hp => ?_, fo.nd⟩
  · rw [upd_ne (fun z => by rw [z, fb] at e; cases e)]; exact fo.sub a u e
  · rw [upd_ne (fun z => m (by rw [z]; exact hM))]; exact fo.st.keep a u e m
  · rw [hM] at q; cases q; exact ⟨o, upd_same, ho⟩
  · obtain ⟨us, h1, h2, h3, h4, h5⟩ := fo.own p hp
    exact ⟨us, by rw [upd_ne (fun z => h5 (by rw [z]; exact hM))]; exact h1, h2, h3, h4, h5⟩
theorem FO.boxAt (fo : FO E G O S F σ H) (hM : E.M = some b) (hB : E.B = isBox) : ∃ n s c : Int, H b = some (.lst [.int n, .int s, .int c]) := by
  obtain ⟨o, h, q⟩ := fo.box b hM
  rw [hB] at q
  cases o with
  | lst xs => obtain ⟨n, s, c, rfl⟩ := (show ∃ n s c : Int, xs = [.int n, .int s, .int c] from q); exact ⟨n, s, c, h⟩
  | _ => exact False.elim q
theorem x_ixB {i : Int} (fo : FO E G O ((y, .raw (.int i)) :: (x, D.at b) :: S) F σ H) (hM : E.M = some b) (hB : E.B = isBox) (hi : i = 0 ∨ i = 1 ∨ i = 2) (k : ∀ n : Int, FO E G O ((.int n, .raw (.int n)) :: S) F σ H → Q (.int n) H) : rIx E.K x y H Q := by
  obtain ⟨n, s, c, h⟩ := fo.boxAt hM hB
  have e1 := fo.top.raw_eq
  have e2 := fo.snd.raw_eq
  subst e1 e2
  rcases hi with rfl | rfl | rfl
  · exact .inl ⟨b, _, 0, .int n, rfl, rfl, SqL.of h, rfl, k n (fo.pop.pop.push (.raw _))⟩
  · exact .inl ⟨b, _, 1, .int s, rfl, rfl, SqL.of h, rfl, k s (fo.pop.pop.push (.raw _))⟩
  · exact .inl ⟨b, _, 2, .int c, rfl, rfl, SqL.of h, rfl, k c (fo.pop.pop.push (.raw _))⟩
theorem x_setB {i j : Int} {Z : L2.St → Hp → Prop} (fo : FO E G O ((y, .raw (.int i)) :: (x, D.at b) :: (w, .raw (.int j)) :: S) F σ H) (hM : E.M = some b) (hB : E.B = isBox) (hi : i = 0 ∨ i = 1 ∨ i = 2) (k : ∀ H', FO E G O S F σ H' → Z σ H') : rSetL x y w H (fun H3 => Z σ H3) := by
  obtain ⟨n, s, c, h⟩ := fo.boxAt hM hB
  have e1 := fo.top.raw_eq
  have e2 := fo.snd.raw_eq
  have e3 := fo.pop.pop.top.raw_eq
  subst e1 e2 e3
  have f0 := fo.pop.pop.pop
  have q : ∀ xs : List V, (∃ n s c : Int, xs = [.int n, .int s, .int c]) → Z σ (upd H b (.lst xs)) := fun xs hx => k _ (f0.boxed hM (by rw [hB]; exact hx))
  rcases hi with rfl | rfl | rfl
  · exact ⟨b, _, 0, _, rfl, rfl, h, rfl, q _ ⟨j, s, c, rfl⟩⟩
  · exact ⟨b, _, 1, _, rfl, rfl, h, rfl, q _ ⟨n, j, c, rfl⟩⟩
  · exact ⟨b, _, 2, _, rfl, rfl, h, rfl, q _ ⟨n, s, j, rfl⟩⟩
/-! ### the script -/
theorem FO.script (fo : FO E G O S F σ H) (hM : E.M = none) (h : SqL E.K E.H0 a (ns.map V.int)) : SqL E.K H a (ns.map V.int) := by
  have q : ∀ u, E.H0 a = some u → H a = some u := fun u e => fo.st.keep a u e (by rw [hM]; exact fun z => nomatch z)
  rcases h with h | h
  · rcases h with h | ⟨o, h⟩
    · exact .inl (.inl (q _ h))
    · exact .inl (.inr ⟨o, q _ h⟩)
  · exact .inr h
theorem x_lenS (fo : FO E G O ((x, D.at a) :: S) F σ H) (hM : E.M = none) (h : SqL E.K E.H0 a (ns.map V.int)) (k : FO E G O ((.int (ns.length : Int), .raw (.int (ns.length : Int))) :: S) F σ H → Q (.int (ns.length : Int)) H) : cLen E.K [x] H Q := by
  have e := fo.top.raw_eq; subst e
  refine ⟨_, ns.length, rfl, .inl ⟨_, fo.script hM h, by rw [List.length_map]⟩, k (fo.pop.push (.raw _))⟩
theorem x_ixS {i : Int} (fo : FO E G O ((y, .raw (.int i)) :: (x, D.at a) :: S) F σ H) (hM : E.M = none) (h : SqL E.K E.H0 a (ns.map V.int)) (h0 : 0 ≤ i) (h1 : i < ns.length) (k : ∀ n : Int, FO E G O ((.int n, .raw (.int n)) :: S) F σ H → Q (.int n) H) : rIx E.K x y H Q := by
  have e1 := fo.top.raw_eq
  have e2 := fo.snd.raw_eq
  subst e1 e2
  have hj : i.toNat < ns.length := by omega
  refine .inl ⟨a, _, i, .int ns[i.toNat], rfl, rfl, fo.script hM h, ?_, k _ (fo.pop.pop.push (.raw _))⟩
  exact at_of (j := i.toNat) (by omega) (by rw [List.getElem?_map, List.getElem?_eq_getElem hj]; rfl)
theorem atI_nn {α : Type} {xs : List α} {i : Int} {z : α} (h0 : 0 ≤ i) (h : xs[i.toNat]? = some z) : L2.atI xs i = some z := by
  have hj : i.toNat < xs.length := (List.getElem?_eq_some_iff.mp h).1
  unfold L2.atI L2.ixN
  rw [if_pos h0, if_pos (by omega)]
  exact h
theorem is_Len {K : PySem.W.Frag} {vs : List V} (h : cLen K vs H Q) : cLen K vs H Q := h
end
end DL

set_option maxHeartbeats 4000000
/-! DLv: plain data as == sees them, pairs; boxes within a body. -/
namespace DL
open PySem PySem.Spec PyProof.Rows L2
mutual
theorem plain_py : ∀ {d : D}, plainD d = true → ∃ p, toPy d = some p ∧ p.canLay0 = true ∧ p.depth = depD d
  | .raw .non, _ => ⟨.none, rfl, rfl, rfl⟩
  | .raw (.bl b), _ => ⟨.bool b, rfl, rfl, rfl⟩
  | .raw (.int b), _ => ⟨.int b, rfl, rfl, rfl⟩
  | .raw (.str b), h => ⟨.str b, rfl, h, rfl⟩
  | .lst xs, h => by
    rw [plainD] at h
    obtain ⟨ps, e, c, q⟩ := plain_pyL (xs := xs) h
    exact ⟨.list ps, by rw [toPy, e]; rfl, by rw [PyData.canLay0]; exact c, by rw [PyData.depth, depD, q]⟩
  | .tup xs, h => by
    rw [plainD] at h
    obtain ⟨ps, e, c, q⟩ := plain_pyL (xs := xs) h
    exact ⟨.tuple ps, by rw [toPy, e]; rfl, by rw [PyData.canLay0]; exact c, by rw [PyData.depth, depD, q]⟩
theorem plain_pyL : ∀ {xs : List D}, plainL xs = true → ∃ ps, toPyL xs = some ps ∧ PyData.canLayAll0 ps = true ∧ PyData.depthAll ps = depL xs
  | [], _ => ⟨[], rfl, rfl, rfl⟩
  | x :: xs, h => by
    rw [plainL, Bool.and_eq_true_iff] at h
    obtain ⟨p, e, c, q⟩ := plain_py (d := x) h.1
    obtain ⟨ps, es, cs, qs⟩ := plain_pyL (xs := xs) h.2
    exact ⟨p :: ps, by rw [toPyL, e, es], by rw [PyData.canLayAll0, c, cs]; rfl, by rw [PyData.depthAll, depL, q, qs]⟩
end
/-- a pair of one datum with itself -/
def twin (d : D) : D := .tup [d, d]
def sumS : List D → Nat
  | [] => 0
  | x :: xs => sizeD x + sumS xs
theorem sumS_append : ∀ xs ys : List D, sumS (xs ++ ys) = sumS xs + sumS ys
  | [], ys => by simp [sumS]
  | x :: xs, ys => by rw [List.cons_append, sumS, sumS, sumS_append xs ys]; omega
theorem sizeL_sum : ∀ xs : List D, sizeL xs = sumS xs
  | [] => rfl
  | x :: xs => by rw [sizeL, sumS, sizeL_sum xs]
theorem plainL_mem : ∀ {xs : List D}, plainL xs = true → ∀ x ∈ xs, plainD x = true
  | [], _, x, hx => nomatch hx
  | y :: xs, h, x, hx => by
    rw [plainL, Bool.and_eq_true_iff] at h
    rcases List.mem_cons.mp hx with z | z
    · rw [z]; exact h.1
    · exact plainL_mem h.2 x z
theorem depL_mem : ∀ {xs : List D} {x : D}, x ∈ xs → depD x ≤ depL xs
  | [], _, h => nomatch h
  | y :: xs, x, h => by
    rw [depL]
    rcases List.mem_cons.mp h with z | z
    · subst z; omega
    · have := depL_mem z; omega
theorem pair_twin (xs : List D) : (List.range xs.length).map (pairD xs xs) = xs.map twin := by
  refine List.ext_getElem? fun i => ?_
  rw [List.getElem?_map, List.getElem?_map]
  by_cases h : i < xs.length
  · rw [List.getElem?_range h, List.getElem?_eq_getElem h]
    show some (pairD xs xs i) = some (twin _)
    unfold pairD twin
    rw [itOf_some (List.getElem?_eq_getElem h)]
  · rw [List.getElem?_eq_none (by rw [List.length_range]; omega), List.getElem?_eq_none (by omega)]; rfl
theorem twins_py : ∀ {xs : List D}, (∀ x ∈ xs, plainD x = true ∧ depD x ≤ 50) → ∃ ps, toPyL (xs.map twin) = some ps ∧ PyData.canLayAll0 ps = true ∧ PyData.depthAll ps ≤ 51 ∧ ps.isEmpty = xs.isEmpty
  | [], _ => ⟨[], rfl, rfl, Nat.zero_le _, rfl⟩
  | x :: xs, h => by
    obtain ⟨p, e, c, q⟩ := plain_py (h x List.mem_cons_self).1
    have hd := (h x List.mem_cons_self).2
    obtain ⟨ps, es, cs, qs, _⟩ := twins_py (xs := xs) fun y hy => h y (List.mem_cons_of_mem _ hy)
    refine ⟨.tuple [p, p] :: ps, ?_, ?_, ?_, rfl⟩
    · rw [List.map_cons, toPyL, es, twin, toPy, toPyL, toPyL, toPyL, e]; rfl
    · rw [PyData.canLayAll0, PyData.canLay0, PyData.canLayAll0, PyData.canLayAll0, PyData.canLayAll0, c, cs]; rfl
    · rw [PyData.depthAll, PyData.depth, PyData.depthAll, PyData.depthAll, PyData.depthAll, q]; omega
section
variable {E : Eb} {G : List (Option D)} {O : List (Addr × List D)} {S S0 : List (V × D)} {F F' H H' : Hp} {σ : L2.St} {v x y w : V} {d e : D} {Q : VK} {ds : List D}
theorem FO.dpL {ps : List PyData} (fo : FO E G O S F σ H) (r : Rp E.K F v d) (h : IsL O d ds) (hp : toPyL ds = some ps) : Dp E.K H v (.list ps) := by
  obtain ⟨a, ws, rfl, h1, r1⟩ := fo.lstOf r h
  exact .lst (.inl (.inl h1)) (RpL.dp fo.sub r1 hp)
/-- a list at hand against [] -/
theorem x_neNil {ps : List PyData} (fo : FO E G O ((y, .lst []) :: (x, d) :: S) F σ H) (hx : IsL O d ds) (hp : toPyL ds = some ps) (hs : SeqAt.shaped (.list ps) = true) (k : FO E G O ((.bl (!ds.isEmpty), .raw (.bl (!ds.isEmpty))) :: S) F σ H → Q (.bl (!ds.isEmpty)) H) : rNeU E.K x y H Q := by
  refine .inl ⟨.list ps, .list [], fo.dpL fo.snd hx hp, fo.top.dp fo.sub rfl, hs, rfl, ?_⟩
  have e : ps.isEmpty = ds.isEmpty := by
    cases ds with
    | nil => cases hp; rfl
    | cons z zs =>
      rw [toPyL] at hp
      split at hp
      · cases hp; rfl
      · cases hp
  rw [eqv_nil, e]
  exact k (fo.pop.pop.push (.raw _))
theorem x_eqNil {ps : List PyData} (fo : FO E G O ((y, .lst []) :: (x, d) :: S) F σ H) (hx : IsL O d ds) (hp : toPyL ds = some ps) (hs : SeqAt.shaped (.list ps) = true) (k : FO E G O ((.bl ds.isEmpty, .raw (.bl ds.isEmpty)) :: S) F σ H → Q (.bl ds.isEmpty) H) : rEqU E.K x y H Q := by
  refine .inl ⟨.list ps, .list [], fo.dpL fo.snd hx hp, fo.top.dp fo.sub rfl, hs, rfl, ?_⟩
  have e : ps.isEmpty = ds.isEmpty := by
    cases ds with
    | nil => cases hp; rfl
    | cons z zs =>
      rw [toPyL] at hp
      split at hp
      · cases hp; rfl
      · cases hp
  rw [eqv_nil, e]
  exact k (fo.pop.pop.push (.raw _))
theorem x_neB {b c : Bool} (fo : FO E G O ((y, .raw (.bl c)) :: (x, .raw (.bl b)) :: S) F σ H) (k : FO E G O ((.bl (b != c), .raw (.bl (b != c))) :: S) F σ H → Q (.bl (b != c)) H) : rNeU E.K x y H Q := by
  refine x_neD (p := .bool b) (q := .bool c) fo rfl rfl rfl rfl ?_
  have e : (!PyData.eqv (.bool b) (.bool c)) = (b != c) := by cases b <;> cases c <;> rfl
  rw [e]; exact k
/-- != of a plain datum with itself -/
theorem x_neSelf {d' : D} (fo : FO E G O ((y, d) :: (x, d) :: S) F σ H) (hp : plainD d = true) (hd : depD d ≤ 60) (k : FO E G O ((.bl false, .raw (.bl false)) :: S) F σ H → Q (.bl false) H) : rNeU E.K x y H Q := by
  obtain ⟨p, e, c, q⟩ := plain_py hp
  have hs : SeqAt.shaped p = true := by unfold SeqAt.shaped; rw [c, q]; simp; omega
  refine x_neD fo e e hs hs ?_
  rw [SeqAt.eqv_refl p c]; exact k
/-- a new box: from here on it is the one thing that changes -/
theorem FO.inBox {p : Addr} (fo : FO E G [] S F σ H) (hp : H p = none) (hb : BoxOk isBox H' p) (kp : ∀ b o, H b = some o → H' b = some o) : FO ⟨E.K, some p, isBox, F, H'⟩ G [] S F σ H' :=
  ⟨.same (fun a o e => kp a o (fo.sub a o e)) (fun b q => by cases q; exact hb), fun b q => by cases q; exact fo.sub.none hp, fo.len, fo.slot, fo.stk, (fun _ h => nomatch h), List.nodup_nil⟩
theorem FO.outBox {p : Addr} {G2 : List (Option D)} {O2 : List (Addr × List D)} {S2 : List (V × D)} {F2 H2 : Hp} {σ2 : L2.St} (fo : FO E G O S F σ H) (hM : E.M = none) (hp : H p = none) (kp : ∀ b o, H b = some o → H' b = some o) (fo2 : FO ⟨E.K, some p, isBox, F, H'⟩ G2 O2 S2 F2 σ2 H2) : FO E G2 [] S2 F2 σ2 H2 := by
  refine ⟨⟨fo.st.ff.trans fo2.st.ff, fo2.sub, fun a o e m => ?_, fun a e q => ?_, fun b q => ?_⟩, fun b q => ?_, fo2.len, fo2.slot, fo2.stk, (fun _ h => nomatch h), List.nodup_nil⟩
  · have h1 := fo.st.keep a o e m
    exact fo2.st.keep a o (kp a o h1) (fun z => by cases z; rw [hp] at h1; cases h1)
  · have h1 := fo.st.new a e q
    have h2 : H a ≠ none := fo.st.keepN q
    refine fo2.st.new a h1 ?_
    cases z : H a with
    | none => exact absurd z h2
    | some o => show H' a ≠ none; rw [kp a o z]; exact fun z => nomatch z
  · rw [hM] at q; cases q
  · rw [hM] at q; cases q
/-! rows, as alike sees them -/
theorem plain_o (o : Option Int) : plainD (oD o) = true := by cases o <;> rfl
theorem plain_os : ∀ xs : List (Option Int), plainL (xs.map oD) = true
  | [] => rfl
  | o :: xs => by rw [List.map_cons, plainL, plain_o, plain_os xs]; rfl
theorem size_o (o : Option Int) : sizeD (oD o) = 1 := by cases o <;> rfl
theorem size_os : ∀ xs : List (Option Int), sizeL (xs.map oD) = xs.length
  | [] => rfl
  | o :: xs => by rw [List.map_cons, sizeL, size_o, size_os xs, List.length_cons]; omega
theorem dep_o (o : Option Int) : depD (oD o) = 0 := by cases o <;> rfl
theorem dep_os : ∀ xs : List (Option Int), depL (xs.map oD) = 0
  | [] => rfl
  | o :: xs => by rw [List.map_cons, depL, dep_o, dep_os xs]; rfl
theorem plain_row (r : Row) : plainD (rowD r) = true := by
  rw [rowD, plainD, plainL, plainL, plainL, plain_o, plainD, plain_os]; rfl
theorem size_row (r : Row) : sizeD (rowD r) = r.2.length + 3 := by
  rw [rowD, sizeD, sizeL, sizeL, sizeL, size_o, sizeD, size_os]; omega
theorem dep_row (r : Row) : depD (rowD r) = 2 := by
  rw [rowD, depD, depL, depL, depL, dep_o, depD, dep_os]; rfl
theorem like_row {r : Row} (h : r.2.length ≤ 900) : plainD (rowD r) = true ∧ sizeD (rowD r) ≤ 1000 ∧ depD (rowD r) ≤ 50 := ⟨plain_row r, by rw [size_row]; omega, by rw [dep_row]; omega⟩
theorem like_rows {r s : Row} (h : r.2.length ≤ 400) (h2 : s.2.length ≤ 400) : plainD (.lst [rowD r, rowD s]) = true ∧ sizeD (.lst [rowD r, rowD s]) ≤ 1000 ∧ depD (.lst [rowD r, rowD s]) ≤ 50 := by
  refine ⟨?_, ?_, ?_⟩
  · rw [plainD, plainL, plainL, plainL, plain_row, plain_row]; rfl
  · rw [sizeD, sizeL, sizeL, sizeL, size_row, size_row]; omega
  · rw [depD, depL, depL, depL, dep_row, dep_row]; omega
theorem found_pos {n : Nat} {r : Row} {ls : List Int} (h : OkRow n r) (hl : ls.length = n) : 0 < (foundF r ls).length := by
  obtain ⟨l, os⟩ := r
  unfold foundF
  rw [List.length_append]
  rcases h.some_ with q | ⟨o, ho, q⟩
  · cases l with
    | none => exact absurd rfl q
    | some i => show 0 < _ + 1; omega
  · have key : ∀ (ls : List Int) (os : List (Option Int)), ls.length = os.length → (∃ o ∈ os, o ≠ none) → 0 < ((List.zipWith (fun (l : Int) (o : Option Int) => o.map fun x => l - x) ls os).filterMap id).length := by
      intro ls
      induction ls with
      | nil => intro os e ⟨o, ho, _⟩; cases os with | nil => cases ho | cons _ _ => cases e
      | cons z ls ih =>
        intro os e ⟨o, ho, q⟩
        cases os with
        | nil => cases ho
        | cons w os =>
          rw [List.zipWith_cons_cons, List.filterMap_cons]
          cases w with
          | some i => simp
          | none =>
            rcases List.mem_cons.mp ho with z | z
            · exact absurd z q
            · simpa using ih os (by simpa using e) ⟨o, z, q⟩
    have := key ls os (by rw [hl]; exact h.len.symm) ⟨o, ho, q⟩
    exact Nat.lt_of_lt_of_le this (Nat.le_add_right _ _)
end
end DL

set_option maxHeartbeats 4000000
/-! DLw: what stands behind the top, by names and paths. -/
namespace DL
open PySem PySem.Spec PyProof.Rows L2
/-- the object at a is this def -/
def fnP (K : PySem.W.Frag) (a : Addr) : He.FnW := match K.lookup a with
  | some ⟨_, _, .func fd, _⟩ => some (fd.name, fd.qualname, fd.params, fd.body, fd.scope, fd.globals, fd.closure, fd.builtins)
  | _ => none
structure DefP where
  at_ : PySem.W.Frag → Addr
  name : Str
  qual : Str
  st : Stmt
def DefP.val (d : DefP) : He.FnW := some (d.name, d.qual, defArgs d.st, .stmts (defBody d.st), defScope d.st, mainGlobals, [], builtinsNs)
def noneB : Value → Bool
  | .none => true
  | _ => false
theorem noneB_ok {v : Value} (h : noneB v = true) : v = .none := by cases v <;> first | rfl | cases h
def DefP.ok (K : PySem.W.Frag) (d : DefP) : Bool := PySem.W.keepIn K (.ref (d.at_ K)) && (match K.lookup (d.at_ K) with
  | some ⟨_, _, .func fd, _⟩ => PySem.W.codeIn K fd.code d.qual && noneB fd.defaults
  | _ => false)
theorem DefP.fn {K : PySem.W.Frag} {d : DefP} (e : fnP K (d.at_ K) = d.val) (c : d.ok K = true) : ∃ fd, L2.Fun K d.name d.qual d.st (d.at_ K) fd := by
  obtain ⟨kp, c2⟩ := He.ba c
  unfold fnP at e
  cases q : K.lookup (d.at_ K) with
  | none =>
    rw [q] at c2
    cases c2
  | some o =>
    obtain ⟨oc, od, dt, osl⟩ := o
    rw [q] at c2 e
    cases dt with
    | func fd =>
      obtain ⟨n1, n2, n3, n4, n5, n6, n7, n8, n9, n10, n11, n12, n13, n14, n15⟩ := fd
      have e2 : (some (n1, n2, n3, n4, n5, n6, n7, n15) : He.FnW) = some (d.name, d.qual, defArgs d.st, .stmts (defBody d.st), defScope d.st, mainGlobals, [], builtinsNs) := e
      simp only [Option.some.injEq, Prod.mk.injEq] at e2
      obtain ⟨h1, h2, h3, h4, h5, h6, h7, h8⟩ := e2
      have c3 : (PySem.W.codeIn K n13 d.qual && noneB n8) = true := c2
      obtain ⟨k1, k2⟩ := He.ba c3
      have h9 := noneB_ok k2
      subst h1 h2 h3 h4 h5 h6 h7 h8 h9
      exact ⟨_, ⟨oc, od, n9, n10, n11, n12, n13, n14, osl, rfl, q, k1⟩, kp⟩
    | _ => cases c2
/-! ### paths -/
abbrev pGlo (x : Str) : PySem.W.Frag → Addr := fun K => He.ga K x
abbrev pMeth (C m : Str) : PySem.W.Frag → Addr := fun K => He.ma K (He.ga K C) m
/-- a property's getter -/
def pProp (C m : Str) : PySem.W.Frag → Addr := fun K => match PySem.W.recIn K (He.ma K (He.ga K C) m) "property" with
  | some (.ref g :: _) => g
  | _ => 0
def propB (C m : Str) (K : PySem.W.Frag) : Bool := He.eqO (PySem.W.findIn K (.ref (He.ga K C)) m) (some (some (.ref (He.ma K (He.ga K C) m)))) &&
  (He.eqO (PySem.W.specialIn K (.ref (He.ma K (He.ga K C) m)) "__get__") (some (some (.builtin "property.__get__"))) && (decide (PySem.W.takesIn K (.ref (He.ma K (He.ga K C) m)) = some true) &&
  (match PySem.W.recIn K (He.ma K (He.ga K C) m) "property" with
  | some (.ref _ :: _) => true
  | _ => false)))
theorem propB_ok {C m : Str} {K : PySem.W.Frag} (h : propB C m K = true) : PropOf K (He.ga K C) m (He.ma K (He.ga K C) m) (pProp C m K) := by
  obtain ⟨h1, h⟩ := He.ba h
  obtain ⟨h2, h⟩ := He.ba h
  obtain ⟨h3, h4⟩ := He.ba h
  refine ⟨He.eqO_ok h1, He.eqO_ok h2, of_decide_eq_true h3, ?_⟩
  unfold pProp
  cases q : PySem.W.recIn K (He.ma K (He.ga K C) m) "property" with
  | none => rw [q] at h4; cases h4
  | some vs =>
    rw [q] at h4
    cases vs with
    | nil => cases h4
    | cons v r =>
      cases v with
      | ref g => exact ⟨r, rfl⟩
      | _ => cases h4
def ownB (C : Str) (K : PySem.W.Frag) : Bool := (He.Fa.cls C).ok K && (PySem.W.selfFirst K (He.ga K C) && (He.eqO (PySem.W.findIn K (.ref (He.ga K C)) "__ne__") (some (some (.builtin "object.__ne__"))) &&
  (decide (PySem.W.mroIn K (He.ga K C) (.type "object") = some true) && (He.eqO (PySem.W.findIn K (.ref (He.ga K C)) "__class__") (some (some (.builtin "object.__class__"))) &&
  (He.eqO (PySem.W.specialIn K (.builtin "object.__class__") "__get__") (some (some (.builtin "getset_descriptor.__get__"))) && (decide (PySem.W.takesIn K (.builtin "object.__class__") = some true) &&
  (["NoneType", "int", "str", "tuple", "list", "bool"].all fun T => decide (PySem.W.kitOne K (.type T) (.ref (He.ga K C)) = some false))))))))
theorem ownB_ok {C : Str} {K : PySem.W.Frag} (h : ownB C K = true) : OwnC K (He.ga K C) := by
  obtain ⟨h1, h⟩ := He.ba h
  obtain ⟨h2, h⟩ := He.ba h
  obtain ⟨h3, h⟩ := He.ba h
  obtain ⟨h4, h⟩ := He.ba h
  obtain ⟨h5, h⟩ := He.ba h
  obtain ⟨h6, h⟩ := He.ba h
  obtain ⟨h7, h8⟩ := He.ba h
  exact ⟨He.cls_ok h1, h2, He.eqO_ok h3, of_decide_eq_true h4, He.eqO_ok h5, He.eqO_ok h6, of_decide_eq_true h7, fun T hT => of_decide_eq_true (List.all_eq_true.mp h8 T hT)⟩
def callB (C : Str) (K : PySem.W.Frag) : Bool := (He.Fa.meth C "__call__").ok K && PySem.W.fnIn K (He.ma K (He.ga K C) "__call__")
theorem callB_ok {C : Str} {K : PySem.W.Frag} (h : callB C K = true) : StX.CallO K (He.ga K C) (He.ma K (He.ga K C) "__call__") := by
  obtain ⟨h1, h2⟩ := He.ba h
  exact ⟨(He.meth_ok h1).at_, (He.meth_ok h1).fn, h2⟩
/-! ### the hook -/
def obsP (fa : List He.Fa) (fn : List DefP) (ex : List (PySem.W.Frag → Bool)) (K : PySem.W.Frag) : He.AlD := ((fa.all fun f => f.ok K) && ((fn.all fun d => d.ok K) && (ex.all fun e => e K)), fn.map fun d => fnP K (d.at_ K))
def valP (fn : List DefP) : He.AlD := (true, fn.map DefP.val)
def SaysP (fa : List He.Fa) (fn : List DefP) (ex : List (PySem.W.Frag → Bool)) (K : PySem.W.Frag) : Prop := obsP fa fn ex K = valP fn
def obsPG (n : Nat) (fa : List He.Fa) (fn : List DefP) (ex : List (PySem.W.Frag → Bool)) (g : Addr → Option Obj) : He.AlD := obsP fa fn ex (He.frG g (He.asD g n))
def hookP (n : Nat) (fa : List He.Fa) (fn : List DefP) (ex : List (PySem.W.Frag → Bool)) : PySem.W.Hook where
  α := He.AlD
  obs := fun s => obsPG n fa fn ex s.heap.get?
  val := fun _ => valP fn
  says := fun _ h => ∃ K : PySem.W.Frag, K.In h ∧ SaysP fa fn ex K
  of := fun _ _ e => ⟨_, He.frG_in, e⟩
  keeps := fun _ _ _ ⟨K, hK, c⟩ k => ⟨K, PySem.W.Frag.In.keeps hK k, c⟩
theorem obsPG_eq {n : Nat} {fa : List He.Fa} {fn : List DefP} {ex : List (PySem.W.Frag → Bool)} {g : Addr → Option Obj} {s : Shared} (h : ∀ a, g a = s.heap.get? a) : obsPG n fa fn ex g = (hookP n fa fn ex).obs s := by
  have e : g = s.heap.get? := funext h
  rw [e] <;> rfl
section
variable {fa : List He.Fa} {fn : List DefP} {ex : List (PySem.W.Frag → Bool)} {K : PySem.W.Frag}
theorem SaysP.fact (c : SaysP fa fn ex K) (i : Nat) {f : He.Fa} (h : fa[i]? = some f) : f.ok K = true := by
  have c1 := (He.ba (show ((fa.all fun f => f.ok K) && ((fn.all fun d => d.ok K) && (ex.all fun e => e K))) = true from congrArg (fun z : He.AlD => z.1) c)).1
  exact List.all_eq_true.mp c1 f (List.mem_of_getElem? h)
theorem SaysP.extra (c : SaysP fa fn ex K) (i : Nat) {f : PySem.W.Frag → Bool} (h : ex[i]? = some f) : f K = true := by
  have c1 := (He.ba (He.ba (show ((fa.all fun f => f.ok K) && ((fn.all fun d => d.ok K) && (ex.all fun e => e K))) = true from congrArg (fun z : He.AlD => z.1) c)).2).2
  exact List.all_eq_true.mp c1 f (List.mem_of_getElem? h)
theorem SaysP.def_ (c : SaysP fa fn ex K) (i : Nat) {d : DefP} (h : fn[i]? = some d) : ∃ fd, L2.Fun K d.name d.qual d.st (d.at_ K) fd := by
  have c2 := (He.ba (He.ba (show ((fa.all fun f => f.ok K) && ((fn.all fun d => d.ok K) && (ex.all fun e => e K))) = true from congrArg (fun z : He.AlD => z.1) c)).2).1
  have e : fn.map (fun d => fnP K (d.at_ K)) = fn.map DefP.val := congrArg (fun z : He.AlD => z.2) c
  have e2 : (fn.map fun d => fnP K (d.at_ K))[i]? = (fn.map DefP.val)[i]? := by rw [e]
  rw [List.getElem?_map, List.getElem?_map, h] at e2
  exact DefP.fn (Option.some.inj e2) (List.all_eq_true.mp c2 d (List.mem_of_getElem? h))
end
theorem Fun_binds {K : PySem.W.Frag} {x qual : Str} {st : Stmt} {f : Addr} {fd : FuncData} {ps : List Str} (F : L2.Fun K x qual st f fd)
    (h : ∀ (kV doc pm : Value) (an : Option Addr) (cdv ct : Value) (us : List Value), us.length = ps.length → bindArgs (PySem.W.fnOf x qual (defArgs st) (defBody st) (defScope st) .none kV doc pm an cdv ct) ⟨us, []⟩ = pure (ps.zip us)) : Binds K fd ps [] := by
  obtain ⟨oc, od, kV, doc, pm, an, cdv, ct, osl, rfl, lk, hcd⟩ := F.ex
  exact .all (h kV doc pm an cdv ct)
end DL

set_option maxHeartbeats 4000000
namespace K26
open PySem PySem.Spec PyProof.Rows L2 DL
def top (i : Nat) : Stmt := PySem.Challenge.pw_sourwright_k26_bounds_of_lives.main.body.getD i (.Pass ⟨0, 0, 0, 0⟩)
structure Cs where
  K : PySem.W.Frag
  LifeRow : Addr
abbrev sp_capped (c : Cs) : Sp := spCapped c.K
abbrev sp_lesser (c : Cs) : Sp := spLesser c.K
abbrev sp_greater (c : Cs) : Sp := spGreater c.K
abbrev sp_lr_init (c : Cs) : Sp := spInit c.K c.LifeRow
abbrev sp_lr_call (c : Cs) : Sp := spCallR c.K c.LifeRow
abbrev sp_lr_sub (c : Cs) : Sp := spSubR c.K c.LifeRow
abbrev sp_lr_and (c : Cs) : Sp := spAndR c.K c.LifeRow
abbrev sp_lr_eq (c : Cs) : Sp := spEqR c.K c.LifeRow
abbrev sp_lr_repr (c : Cs) : Sp := spReprR c.K c.LifeRow
abbrev sp_lr_left (c : Cs) : Sp := spLeftR c.K c.LifeRow
abbrev sp_lr_lost (c : Cs) : Sp := spLostR c.K c.LifeRow
abbrev sp_lr_below (c : Cs) : Sp := spBelowR c.K c.LifeRow
abbrev sp_box (c : Cs) : Sp := spBox c.K
abbrev sp_take (c : Cs) : Sp := spTake c.K
abbrev sp_pick (c : Cs) : Sp := spPick c.K
abbrev sp_row (c : Cs) : Sp := spRow c.K
abbrev sp_bound (c : Cs) : Sp := spBound c.K
abbrev sp_alike (c : Cs) : Sp := spAlike c.K
abbrev sp_parts (c : Cs) : Sp := spParts c.K c.LifeRow
abbrev sp_less (c : Cs) : Sp := spLess c.K
abbrev sp_worse (c : Cs) : Sp := spWorse c.K
abbrev sp_least (c : Cs) : Sp := spLeast c.K
abbrev sp_below (c : Cs) : Sp := spBelow c.K
abbrev sp_near (c : Cs) : Sp := spNear c.K
abbrev sp_pair (c : Cs) : Sp := spPair c.K
abbrev sp_law (c : Cs) : Sp := spLaw c.K
structure Tx (mg : Str → Option Value) (c : Cs) : Prop where
  g_BEYOND : ∃ t, mg "BEYOND" = some (.int 61 t)
  z_min : mg "min" = none
  z_max : mg "max" = none
  z_tuple : mg "tuple" = none
  z_zip : mg "zip" = none
  m_LifeRow : mg "LifeRow" = some (.ref c.LifeRow)
  o_LifeRow : OwnC c.K c.LifeRow
  z_isinstance : mg "isinstance" = none
  z_len : mg "len" = none
  z_int : mg "int" = none
  z_range : mg "range" = none
  z_list : mg "list" = none
  z_bool : mg "bool" = none
  n_LifeRow__rsub__ : NoAttr c.K c.LifeRow "__rsub__"
  z_repr : mg "repr" = none
  k_LifeRow : NoAttr c.K c.LifeRow "key"
abbrev H_capped (P : Program) (w : World) (mg : Str → Option Value) (base : Heap) (c : Cs) : Prop := Gf false P w c.K mg base 2 "capped" (sp_capped c)
abbrev H_lesser (P : Program) (w : World) (mg : Str → Option Value) (base : Heap) (c : Cs) : Prop := Gf false P w c.K mg base 2 "lesser" (sp_lesser c)
abbrev H_greater (P : Program) (w : World) (mg : Str → Option Value) (base : Heap) (c : Cs) : Prop := Gf false P w c.K mg base 2 "greater" (sp_greater c)
abbrev H_lr_init (P : Program) (w : World) (mg : Str → Option Value) (base : Heap) (c : Cs) : Prop := Nf P w c.K mg base 2 c.LifeRow (sp_lr_init c)
abbrev H_lr_call (P : Program) (w : World) (mg : Str → Option Value) (base : Heap) (c : Cs) : Prop := Of P w c.K mg base 2 c.LifeRow (sp_lr_call c)
abbrev H_lr_sub (P : Program) (w : World) (mg : Str → Option Value) (base : Heap) (c : Cs) : Prop := Mf false P w c.K mg base 4 c.LifeRow "__sub__" (sp_lr_sub c)
abbrev H_lr_and (P : Program) (w : World) (mg : Str → Option Value) (base : Heap) (c : Cs) : Prop := Mf false P w c.K mg base 4 c.LifeRow "__and__" (sp_lr_and c)
abbrev H_lr_eq (P : Program) (w : World) (mg : Str → Option Value) (base : Heap) (c : Cs) : Prop := Mf false P w c.K mg base 2 c.LifeRow "__eq__" (sp_lr_eq c)
abbrev H_lr_repr (P : Program) (w : World) (mg : Str → Option Value) (base : Heap) (c : Cs) : Prop := Mf true P w c.K mg base 2 c.LifeRow "__repr__" (sp_lr_repr c)
abbrev H_lr_left (P : Program) (w : World) (mg : Str → Option Value) (base : Heap) (c : Cs) : Prop := Pf P w c.K mg base 2 c.LifeRow "left" (sp_lr_left c)
abbrev H_lr_lost (P : Program) (w : World) (mg : Str → Option Value) (base : Heap) (c : Cs) : Prop := Pf P w c.K mg base 2 c.LifeRow "lost" (sp_lr_lost c)
abbrev H_lr_below (P : Program) (w : World) (mg : Str → Option Value) (base : Heap) (c : Cs) : Prop := Mf false P w c.K mg base 4 c.LifeRow "is_below" (sp_lr_below c)
abbrev H_box (P : Program) (w : World) (mg : Str → Option Value) (base : Heap) (c : Cs) : Prop := Gf false P w c.K mg base 2 "_law_box" (sp_box c)
abbrev H_take (P : Program) (w : World) (mg : Str → Option Value) (base : Heap) (c : Cs) : Prop := Gf false P w c.K mg base 2 "_law_take" (sp_take c)
abbrev H_pick (P : Program) (w : World) (mg : Str → Option Value) (base : Heap) (c : Cs) : Prop := Gf false P w c.K mg base 4 "_law_pick" (sp_pick c)
abbrev H_row (P : Program) (w : World) (mg : Str → Option Value) (base : Heap) (c : Cs) : Prop := Gf false P w c.K mg base 6 "_law_row" (sp_row c)
abbrev H_bound (P : Program) (w : World) (mg : Str → Option Value) (base : Heap) (c : Cs) : Prop := Gf false P w c.K mg base 2 "_law_bound" (sp_bound c)
abbrev H_alike (P : Program) (w : World) (mg : Str → Option Value) (base : Heap) (c : Cs) : Prop := Gf false P w c.K mg base 2 "_law_alike" (sp_alike c)
abbrev H_parts (P : Program) (w : World) (mg : Str → Option Value) (base : Heap) (c : Cs) : Prop := Gf false P w c.K mg base 4 "_law_parts_of" (sp_parts c)
abbrev H_less (P : Program) (w : World) (mg : Str → Option Value) (base : Heap) (c : Cs) : Prop := Gf false P w c.K mg base 2 "_law_less" (sp_less c)
abbrev H_worse (P : Program) (w : World) (mg : Str → Option Value) (base : Heap) (c : Cs) : Prop := Gf false P w c.K mg base 2 "_law_worse" (sp_worse c)
abbrev H_least (P : Program) (w : World) (mg : Str → Option Value) (base : Heap) (c : Cs) : Prop := Gf false P w c.K mg base 4 "_law_least" (sp_least c)
abbrev H_below (P : Program) (w : World) (mg : Str → Option Value) (base : Heap) (c : Cs) : Prop := Gf false P w c.K mg base 2 "_law_is_below" (sp_below c)
abbrev H_near (P : Program) (w : World) (mg : Str → Option Value) (base : Heap) (c : Cs) : Prop := Gf false P w c.K mg base 6 "_law_near" (sp_near c)
abbrev H_pair (P : Program) (w : World) (mg : Str → Option Value) (base : Heap) (c : Cs) : Prop := Gf true P w c.K mg base 6 "_law_pair_right" (sp_pair c)
abbrev H_law (P : Program) (w : World) (mg : Str → Option Value) (base : Heap) (c : Cs) : Prop := Gf true P w c.K mg base 8 "law" (sp_law c)
abbrev s_capped : Stmt := top 2
abbrev N_capped : List Str := ["count"]
theorem sc_capped : FnScope N_capped ["count"] (defScope s_capped) := ⟨rfl, rfl, rfl, by decide +kernel, rfl, by decide +kernel, by decide +kernel⟩
abbrev s_lesser : Stmt := top 3
abbrev N_lesser : List Str := ["one", "other"]
theorem sc_lesser : FnScope N_lesser ["one", "other"] (defScope s_lesser) := ⟨rfl, rfl, rfl, by decide +kernel, rfl, by decide +kernel, by decide +kernel⟩
abbrev s_greater : Stmt := top 4
abbrev N_greater : List Str := ["one", "other"]
theorem sc_greater : FnScope N_greater ["one", "other"] (defScope s_greater) := ⟨rfl, rfl, rfl, by decide +kernel, rfl, by decide +kernel, by decide +kernel⟩
abbrev s_lr_init : Stmt := inClass (top 5) 0
abbrev N_lr_init : List Str := ["self", "left", "lost"]
theorem sc_lr_init : FnScope N_lr_init ["self", "left", "lost"] (defScope s_lr_init) := ⟨rfl, rfl, rfl, by decide +kernel, rfl, by decide +kernel, by decide +kernel⟩
abbrev s_lr_call : Stmt := inClass (top 5) 1
abbrev N_lr_call : List Str := ["self", "lives", "left", "losses", "found", "life", "lost"]
theorem sc_lr_call : FnScope N_lr_call ["self", "lives"] (defScope s_lr_call) := ⟨rfl, rfl, rfl, by decide +kernel, rfl, by decide +kernel, by decide +kernel⟩
abbrev s_lr_sub : Stmt := inClass (top 5) 2
abbrev N_lr_sub : List Str := ["self", "ticks", "left", "losses", "least", "lost"]
theorem sc_lr_sub : FnScope N_lr_sub ["self", "ticks"] (defScope s_lr_sub) := ⟨rfl, rfl, rfl, by decide +kernel, rfl, by decide +kernel, by decide +kernel⟩
abbrev s_lr_and : Stmt := inClass (top 5) 3
abbrev N_lr_and : List Str := ["self", "other", "lost", "one", "more"]
theorem sc_lr_and : FnScope N_lr_and ["self", "other"] (defScope s_lr_and) := ⟨rfl, rfl, rfl, by decide +kernel, rfl, by decide +kernel, by decide +kernel⟩
abbrev s_lr_eq : Stmt := inClass (top 5) 4
abbrev N_lr_eq : List Str := ["self", "other"]
theorem sc_lr_eq : FnScope N_lr_eq ["self", "other"] (defScope s_lr_eq) := ⟨rfl, rfl, rfl, by decide +kernel, rfl, by decide +kernel, by decide +kernel⟩
abbrev s_lr_repr : Stmt := inClass (top 5) 5
abbrev N_lr_repr : List Str := ["self"]
theorem sc_lr_repr : FnScope N_lr_repr ["self"] (defScope s_lr_repr) := ⟨rfl, rfl, rfl, by decide +kernel, rfl, by decide +kernel, by decide +kernel⟩
abbrev s_lr_left : Stmt := inClass (top 5) 6
abbrev N_lr_left : List Str := ["self"]
theorem sc_lr_left : FnScope N_lr_left ["self"] (defScope s_lr_left) := ⟨rfl, rfl, rfl, by decide +kernel, rfl, by decide +kernel, by decide +kernel⟩
abbrev s_lr_lost : Stmt := inClass (top 5) 7
abbrev N_lr_lost : List Str := ["self"]
theorem sc_lr_lost : FnScope N_lr_lost ["self"] (defScope s_lr_lost) := ⟨rfl, rfl, rfl, by decide +kernel, rfl, by decide +kernel, by decide +kernel⟩
abbrev s_lr_below : Stmt := inClass (top 5) 8
abbrev N_lr_below : List Str := ["self", "other", "left", "losses", "one", "more"]
theorem sc_lr_below : FnScope N_lr_below ["self", "other"] (defScope s_lr_below) := ⟨rfl, rfl, rfl, by decide +kernel, rfl, by decide +kernel, by decide +kernel⟩
abbrev s_box : Stmt := top 7
abbrev N_box : List Str := ["_law_script", "_law_k", "_law_cell", "_law_seed"]
theorem sc_box : FnScope N_box ["_law_script", "_law_k"] (defScope s_box) := ⟨rfl, rfl, rfl, by decide +kernel, rfl, by decide +kernel, by decide +kernel⟩
abbrev s_take : Stmt := top 8
abbrev N_take : List Str := ["_law_box_here", "_law_many", "_law_digit", "_law_one"]
theorem sc_take : FnScope N_take ["_law_box_here", "_law_many"] (defScope s_take) := ⟨rfl, rfl, rfl, by decide +kernel, rfl, by decide +kernel, by decide +kernel⟩
abbrev s_pick : Stmt := top 9
abbrev N_pick : List Str := ["_law_box_here", "_law_things"]
theorem sc_pick : FnScope N_pick ["_law_box_here", "_law_things"] (defScope s_pick) := ⟨rfl, rfl, rfl, by decide +kernel, rfl, by decide +kernel, by decide +kernel⟩
abbrev s_row : Stmt := top 10
abbrev N_row : List Str := ["_law_box_here", "_law_many", "_law_left", "_law_lost", "_law_k", "_law_one"]
theorem sc_row : FnScope N_row ["_law_box_here", "_law_many"] (defScope s_row) := ⟨rfl, rfl, rfl, by decide +kernel, rfl, by decide +kernel, by decide +kernel⟩
abbrev s_bound : Stmt := top 11
abbrev N_bound : List Str := ["_law_row_here", "_law_lives", "_law_left", "_law_lost", "_law_found", "_law_life", "_law_one"]
theorem sc_bound : FnScope N_bound ["_law_row_here", "_law_lives"] (defScope s_bound) := ⟨rfl, rfl, rfl, by decide +kernel, rfl, by decide +kernel, by decide +kernel⟩
abbrev s_alike : Stmt := top 12
abbrev N_alike : List Str := ["_law_found", "_law_due", "_law_left", "_law_one", "_law_other"]
theorem sc_alike : FnScope N_alike ["_law_found", "_law_due"] (defScope s_alike) := ⟨rfl, rfl, rfl, by decide +kernel, rfl, by decide +kernel, by decide +kernel⟩
abbrev s_parts : Stmt := top 13
abbrev N_parts : List Str := ["_law_row_here"]
theorem sc_parts : FnScope N_parts ["_law_row_here"] (defScope s_parts) := ⟨rfl, rfl, rfl, by decide +kernel, rfl, by decide +kernel, by decide +kernel⟩
abbrev s_less : Stmt := top 14
abbrev N_less : List Str := ["_law_row_here", "_law_ticks", "_law_left", "_law_lost", "_law_one"]
theorem sc_less : FnScope N_less ["_law_row_here", "_law_ticks"] (defScope s_less) := ⟨rfl, rfl, rfl, by decide +kernel, rfl, by decide +kernel, by decide +kernel⟩
abbrev s_worse : Stmt := top 15
abbrev N_worse : List Str := ["_law_one", "_law_other", "_law_sign", "_law_some", "_law_term"]
theorem sc_worse : FnScope N_worse ["_law_one", "_law_other", "_law_sign"] (defScope s_worse) := ⟨rfl, rfl, rfl, by decide +kernel, rfl, by decide +kernel, by decide +kernel⟩
abbrev s_least : Stmt := top 16
abbrev N_least : List Str := ["_law_one", "_law_other", "_law_lost", "_law_x", "_law_y"]
theorem sc_least : FnScope N_least ["_law_one", "_law_other"] (defScope s_least) := ⟨rfl, rfl, rfl, by decide +kernel, rfl, by decide +kernel, by decide +kernel⟩
abbrev s_below : Stmt := top 17
abbrev N_below : List Str := ["_law_one", "_law_other", "_law_x", "_law_y", "_law_sign"]
theorem sc_below : FnScope N_below ["_law_one", "_law_other"] (defScope s_below) := ⟨rfl, rfl, rfl, by decide +kernel, rfl, by decide +kernel, by decide +kernel⟩
abbrev s_near : Stmt := top 18
abbrev N_near : List Str := ["_law_box_here", "_law_row_here", "_law_left", "_law_lost", "_law_at", "_law_lower", "_law_higher", "_law_one"]
theorem sc_near : FnScope N_near ["_law_box_here", "_law_row_here"] (defScope s_near) := ⟨rfl, rfl, rfl, by decide +kernel, rfl, by decide +kernel, by decide +kernel⟩
abbrev s_pair : Stmt := top 19
abbrev N_pair : List Str := ["_law_box_here", "_law_one", "_law_other", "_law_given", "_law_x", "_law_y", "_law_ticks", "_law_lives", "_law_term", "_law_odd"]
theorem sc_pair : FnScope N_pair ["_law_box_here", "_law_one", "_law_other"] (defScope s_pair) := ⟨rfl, rfl, rfl, by decide +kernel, rfl, by decide +kernel, by decide +kernel⟩
abbrev s_law : Stmt := top 20
abbrev N_law : List Str := ["_law_script", "_law_k", "_law_box_here", "_law_many", "_law_rows", "_law_one", "_law_other", "_law_turn"]
theorem sc_law : FnScope N_law ["_law_script"] (defScope s_law) := ⟨rfl, rfl, rfl, by decide +kernel, rfl, by decide +kernel, by decide +kernel⟩
def t_capped (c : Cs) : TS :=
  tRet (tCB (cMin2) (tCons (tVar 0) (tCons (tC (.int 61)) (tNil))))
def t_lesser (c : Cs) : TS :=
  tSeq (tIfS (tOr (tTest (tOp (rIsNn) (tVar 0) (tC .non))) (tTest (tOp (rIsNn) (tVar 1) (tC .non)))) (tRet (tIf (tTest (tOp (rIsNn) (tVar 0) (tC .non))) (tVar 1) (tVar 0))) (tNext))
    (tRet (tCB (cMin2) (tCons (tVar 0) (tCons (tVar 1) (tNil)))))
def t_greater (c : Cs) : TS :=
  tSeq (tIfS (tOr (tTest (tOp (rIsNn) (tVar 0) (tC .non))) (tTest (tOp (rIsNn) (tVar 1) (tC .non)))) (tRet (tIf (tTest (tOp (rIsNn) (tVar 0) (tC .non))) (tVar 1) (tVar 0))) (tNext))
    (tRet (tCB (cMax2) (tCons (tVar 0) (tCons (tVar 1) (tNil)))))
def t_lr_init (c : Cs) : TS :=
  sFld c.K (tVar 0) (tTup (tCons (tVar 1) (tCons (tCB (cTuple c.K) (tCons (tVar 2) (tNil))) (tNil)))) "key"
def t_lr_call (c : Cs) : TS :=
  tSeq (tAsg (tFld c.K (tVar 0) "key") (gTup c.K 2 (gCons (gName 2) (gCons (gName 3) (gNil)))))
    (tSeq (tAsg (tLcO (iZipU c.K true (tCons (tVar 1) (tCons (tVar 3) (tNil)))) (gTup c.K 2 (gCons (gName 5) (gCons (gName 6) (gNil)))) (tTest (tOp (rNotNn) (tVar 6) (tC .non))) (tOp (rSubI) (tVar 5) (tVar 6)) [5, 6]) (gName 4))
    (tSeq (tIfS (tTest (tOp (rNotNn) (tVar 2) (tC .non))) (tDrop (tBM c.K "list" rAppend (tVar 4) (tCons (tVar 2) (tNil)))) (tNext))
    (tRet (tCB (cMax2) (tCons (tUn rNegI (tC (.int 1))) (tCons (tCB (cMinL c.K) (tCons (tVar 4) (tNil))) (tNil)))))))
def t_lr_sub (c : Cs) : TS :=
  tSeq (tAsg (tFld c.K (tVar 0) "key") (gTup c.K 2 (gCons (gName 2) (gCons (gName 3) (gNil)))))
    (tSeq (tAsg (tIf (tTest (tOp (rIsNn) (tVar 2) (tC .non))) (tC .non) (tCB (cMax2) (tCons (tUn rNegI (tC (.int 1))) (tCons (tOp (rSubI) (tVar 2) (tVar 1)) (tNil))))) (gName 4))
    (tRet (tMake c.LifeRow (sp_lr_init c) [] E0 (tCons (tVar 4) (tCons (tLc (iSeqU c.K (tVar 3)) (gName 5) (tYes) (tIf (tTest (tOp (rIsNn) (tVar 5) (tC .non))) (tC .non) (tCall (sp_capped c) [] E0 (tCons (tOp (rAddU c.K) (tVar 5) (tVar 1)) (tNil)))) [5]) (tNil))))))
def t_lr_and (c : Cs) : TS :=
  tSeq (tAsg (tLc (iZipU c.K true (tCons (tOp (rIx c.K) (tFld c.K (tVar 0) "key") (tC (.int 1))) (tCons (tOp (rIx c.K) (tFld c.K (tVar 1) "key") (tC (.int 1))) (tNil)))) (gTup c.K 2 (gCons (gName 3) (gCons (gName 4) (gNil)))) (tYes) (tCall (sp_greater c) [] E0 (tCons (tVar 3) (tCons (tVar 4) (tNil)))) [3, 4]) (gName 2))
    (tRet (tMake c.LifeRow (sp_lr_init c) [] E0 (tCons (tCall (sp_lesser c) [] E0 (tCons (tOp (rIx c.K) (tFld c.K (tVar 0) "key") (tC (.int 0))) (tCons (tOp (rIx c.K) (tFld c.K (tVar 1) "key") (tC (.int 0))) (tNil)))) (tCons (tVar 2) (tNil)))))
def t_lr_eq (c : Cs) : TS :=
  tRet (tAndV (tCB (cIsi c.K) (tCons (tVar 1) (tCons (tC (.ref c.LifeRow)) (tNil)))) (tOp (rEqU c.K) (tFld c.K (tVar 0) "key") (tFld c.K (tVar 1) "key")))
def t_lr_repr (c : Cs) : TS :=
  tRet (tJoin [tC (.str "LifeRow("), tFmtD c.K (tOp (rIx c.K) (tFld c.K (tVar 0) "key") (tC (.int 0))), tC (.str ", "), tFmtD c.K (tOp (rIx c.K) (tFld c.K (tVar 0) "key") (tC (.int 1))), tC (.str ")")])
def t_lr_left (c : Cs) : TS :=
  tRet (tOp (rIx c.K) (tFld c.K (tVar 0) "key") (tC (.int 0)))
def t_lr_lost (c : Cs) : TS :=
  tRet (tOp (rIx c.K) (tFld c.K (tVar 0) "key") (tC (.int 1)))
def t_lr_below (c : Cs) : TS :=
  tSeq (tAsg (tFld c.K (tVar 0) "key") (gTup c.K 2 (gCons (gName 2) (gCons (gName 3) (gNil)))))
    (tSeq (tIfS (tAnd (tTest (tOp (rNotNn) (tProp c.LifeRow (sp_lr_left c) [] E0 (tVar 1)) (tC .non))) (tOr (tTest (tOp (rIsNn) (tVar 2) (tC .non))) (tTest (tOp (rGtI) (tVar 2) (tProp c.LifeRow (sp_lr_left c) [] E0 (tVar 1)))))) (tRet (tC (.bl false))) (tNext))
    (tSeq (tFor (iZipU c.K true (tCons (tVar 3) (tCons (tProp c.LifeRow (sp_lr_lost c) [] E0 (tVar 1)) (tNil)))) (gTup c.K 2 (gCons (gName 4) (gCons (gName 5) (gNil)))) (tIfS (tAnd (tTest (tOp (rNotNn) (tVar 5) (tC .non))) (tOr (tTest (tOp (rIsNn) (tVar 4) (tC .non))) (tTest (tOp (rLtI) (tVar 4) (tVar 5))))) (tRet (tC (.bl false))) (tNext)))
    (tRet (tC (.bl true)))))
def t_box (c : Cs) : TS :=
  tSeq (tAsg (tOp (rAddU c.K) (tOp (rMulU) (tC (.int 6841)) (tVar 1)) (tC (.int 37))) (gName 2))
    (tSeq (tIfS (tTest (tOp (rLtI) (tVar 1) (tCB (cLen c.K) (tCons (tVar 0) (tNil))))) (tAsg (tOp (rIx c.K) (tVar 0) (tVar 1)) (gName 2)) (tIfS (tTest (tOp (rGtI) (tCB (cLen c.K) (tCons (tVar 0) (tNil))) (tC (.int 0)))) (tAsg (tOp (rAddU c.K) (tVar 2) (tOp (rMulU) (tOp (rModI) (tOp (rIx c.K) (tVar 0) (tOp (rModI) (tVar 1) (tCB (cLen c.K) (tCons (tVar 0) (tNil))))) (tC (.int 2147483629))) (tC (.int 69623)))) (gName 2)) (tNext)))
    (tSeq (tAsg (tOp (rAddU c.K) (tOp (rModI) (tOp (rAddU c.K) (tOp (rMulU) (tOp (rModI) (tVar 2) (tC (.int 2147483629))) (tC (.int 48271))) (tOp (rMulU) (tC (.int 40692)) (tVar 1))) (tC (.int 2147483629))) (tC (.int 1))) (gName 3))
    (tRet (tLst (tCons (tOp (rIx c.K) (tLst (tCons (tC (.int 0)) (tCons (tVar 2) (tNil)))) (tCB (cInt1) (tCons (tOp (rGeI) (tVar 2) (tOp (rPowI) (tC (.int 10)) (tC (.int 18)))) (tNil)))) (tCons (tVar 3) (tCons (tC (.int 0)) (tNil))))))))
def t_take (c : Cs) : TS :=
  tSeq (tIfS (tTest (tOp (rGtI) (tOp (rIx c.K) (tVar 0) (tC (.int 0))) (tC (.int 0)))) (tSeq (tAsg (tOp (rModI) (tOp (rIx c.K) (tVar 0) (tC (.int 0))) (tVar 1)) (gName 2))
    (tSeq (tAsg (tOp (rFdivI) (tOp (rIx c.K) (tVar 0) (tC (.int 0))) (tVar 1)) (gSub (tVar 0) (tC (.int 0)) rSetL))
    (tRet (tVar 2)))) (tNext))
    (tSeq (tAsg (tOp (rAddU c.K) (tOp (rIx c.K) (tVar 0) (tC (.int 2))) (tC (.int 1))) (gSub (tVar 0) (tC (.int 2)) rSetL))
    (tSeq (tAsg (tOp (rModI) (tOp (rMulU) (tOp (rAddU c.K) (tOp (rIx c.K) (tVar 0) (tC (.int 1))) (tOp (rMulU) (tC (.int 104729)) (tOp (rIx c.K) (tVar 0) (tC (.int 2))))) (tC (.int 69623))) (tC (.int 2147483647))) (gName 3))
    (tSeq (tAsg (tOp (rAddU c.K) (tOp (rModI) (tOp (rAddU c.K) (tOp (rMulU) (tVar 3) (tC (.int 48271))) (tC (.int 30103))) (tC (.int 2147483629))) (tC (.int 1))) (gSub (tVar 0) (tC (.int 1)) rSetL))
    (tRet (tOp (rModI) (tOp (rFdivI) (tOp (rAddU c.K) (tOp (rMulU) (tVar 3) (tC (.int 2147483647))) (tOp (rIx c.K) (tVar 0) (tC (.int 1)))) (tC (.int 8191))) (tVar 1))))))
def t_pick (c : Cs) : TS :=
  tRet (tOp (rIx c.K) (tVar 1) (tCall (sp_take c) [] E0 (tCons (tVar 0) (tCons (tCB (cLen c.K) (tCons (tVar 1) (tNil))) (tNil)))))
def t_row (c : Cs) : TS :=
  tSeq (tAsg (tOp (rIx c.K) (tLst (tCons (tC .non) (tCons (tOp (rSubI) (tCall (sp_take c) [] E0 (tCons (tVar 0) (tCons (tC (.int 62)) (tNil)))) (tC (.int 1))) (tCons (tCall (sp_pick c) [] E0 (tCons (tVar 0) (tCons (tLst (tCons (tUn rNegI (tC (.int 1))) (tCons (tC (.int 0)) (tCons (tC (.int 1)) (tCons (tC (.int 2)) (tCons (tC (.int 59)) (tCons (tC (.int 60)) (tNil)))))))) (tNil)))) (tNil))))) (tCall (sp_take c) [] E0 (tCons (tVar 0) (tCons (tC (.int 3)) (tNil))))) (gName 2))
    (tSeq (tAsg (tLstO (tNil)) (gName 3))
    (tSeq (tFor (iRng1 (tCons (tVar 1) (tNil))) (gName 4) (tDrop (tBM c.K "list" rAppend (tVar 3) (tCons (tOp (rIx c.K) (tLst (tCons (tC .non) (tCons (tCall (sp_take c) [] E0 (tCons (tVar 0) (tCons (tC (.int 62)) (tNil)))) (tCons (tCall (sp_pick c) [] E0 (tCons (tVar 0) (tCons (tLst (tCons (tC (.int 0)) (tCons (tC (.int 1)) (tCons (tC (.int 2)) (tCons (tC (.int 59)) (tCons (tC (.int 60)) (tCons (tC (.int 61)) (tNil)))))))) (tNil)))) (tNil))))) (tCall (sp_take c) [] E0 (tCons (tVar 0) (tCons (tC (.int 3)) (tNil))))) (tNil)))))
    (tSeq (tIfS (tAnd (tTest (tOp (rIsNn) (tVar 2) (tC .non))) (tTest (tOp (rEqU c.K) (tLc (iSeqU c.K (tVar 3)) (gName 5) (tTest (tOp (rNotNn) (tVar 5) (tC .non))) (tVar 5) [5]) (tLst (tNil))))) (tAsg (tCall (sp_take c) [] E0 (tCons (tVar 0) (tCons (tC (.int 61)) (tNil)))) (gName 2)) (tNext))
    (tRet (tTup (tCons (tVar 2) (tCons (tCB (cTuple c.K) (tCons (tVar 3) (tNil))) (tNil))))))))
def t_bound (c : Cs) : TS :=
  tSeq (tAsg (tVar 0) (gTup c.K 2 (gCons (gName 2) (gCons (gName 3) (gNil)))))
    (tSeq (tAsg (tOp (rAddU c.K) (tLc (iZipU c.K false (tCons (tVar 1) (tCons (tVar 3) (tNil)))) (gTup c.K 2 (gCons (gName 5) (gCons (gName 6) (gNil)))) (tTest (tOp (rNotNn) (tVar 6) (tC .non))) (tOp (rSubI) (tVar 5) (tVar 6)) [5, 6]) (tOp (rMulU) (tLst (tCons (tVar 2) (tNil))) (tCB (cInt1) (tCons (tOp (rNotNn) (tVar 2) (tC .non)) (tNil))))) (gName 4))
    (tRet (tCB (cMax2) (tCons (tUn rNegI (tC (.int 1))) (tCons (tCB (cMinL c.K) (tCons (tVar 4) (tNil))) (tNil))))))
def t_alike (c : Cs) : TS :=
  tSeq (tAsg (tLstO (tCons (tTup (tCons (tVar 0) (tCons (tVar 1) (tNil)))) (tNil))) (gName 2))
    (tSeq (tWhile (tTest (tOp (rNeU c.K) (tVar 2) (tLst (tNil)))) (tSeq (tAsg (tBM0 c.K "list" rPop (tVar 2)) (gTup c.K 2 (gCons (gName 3) (gCons (gName 4) (gNil)))))
    (tIfS (tB (tCB (cIsi c.K) (tCons (tVar 4) (tCons (tTup (tCons (tC (.ty "tuple")) (tCons (tC (.ty "list")) (tNil)))) (tNil))))) (tSeq (tIfS (tOr (tTest (tOp (rNeU c.K) (tCB (cIsi c.K) (tCons (tVar 3) (tCons (tC (.ty "tuple")) (tNil)))) (tCB (cIsi c.K) (tCons (tVar 4) (tCons (tC (.ty "tuple")) (tNil)))))) (tTest (tOp (rNeU c.K) (tCB (cIsi c.K) (tCons (tVar 3) (tCons (tC (.ty "list")) (tNil)))) (tCB (cIsi c.K) (tCons (tVar 4) (tCons (tC (.ty "list")) (tNil))))))) (tRet (tC (.bl false))) (tNext))
    (tSeq (tIfS (tTest (tOp (rNeU c.K) (tCB (cLen c.K) (tCons (tVar 3) (tNil))) (tCB (cLen c.K) (tCons (tVar 4) (tNil))))) (tRet (tC (.bl false))) (tNext))
    (tDrop (tBM c.K "list" rExtend (tVar 2) (tCons (tListZip c.K (tCons (tVar 3) (tCons (tVar 4) (tNil)))) (tNil)))))) (tIfS (tOr (tB (tCB (cIsi c.K) (tCons (tVar 3) (tCons (tTup (tCons (tC (.ty "tuple")) (tCons (tC (.ty "list")) (tNil)))) (tNil))))) (tOr (tTest (tOp (rNeU c.K) (tCB (cIsi c.K) (tCons (tVar 3) (tCons (tC (.ty "bool")) (tNil)))) (tCB (cIsi c.K) (tCons (tVar 4) (tCons (tC (.ty "bool")) (tNil)))))) (tTest (tOp (rNeU c.K) (tVar 3) (tVar 4))))) (tRet (tC (.bl false))) (tNext)))))
    (tRet (tC (.bl true))))
def t_parts (c : Cs) : TS :=
  tRet (tTup (tCons (tProp c.LifeRow (sp_lr_left c) [] E0 (tVar 0)) (tCons (tProp c.LifeRow (sp_lr_lost c) [] E0 (tVar 0)) (tNil))))
def t_less (c : Cs) : TS :=
  tSeq (tAsg (tVar 0) (gTup c.K 2 (gCons (gName 2) (gCons (gName 3) (gNil)))))
    (tSeq (tAsg (tIf (tTest (tOp (rIsNn) (tVar 2) (tC .non))) (tC .non) (tCB (cMax2) (tCons (tUn rNegI (tC (.int 1))) (tCons (tOp (rSubI) (tVar 2) (tVar 1)) (tNil))))) (gName 2))
    (tRet (tTup (tCons (tVar 2) (tCons (tCB (cTuple c.K) (tCons (tLc (iSeqU c.K (tVar 3)) (gName 4) (tYes) (tIf (tTest (tOp (rIsNn) (tVar 4) (tC .non))) (tC .non) (tCB (cMin2) (tCons (tC (.int 61)) (tCons (tOp (rAddU c.K) (tVar 4) (tVar 1)) (tNil))))) [4]) (tNil))) (tNil))))))
def t_worse (c : Cs) : TS :=
  tSeq (tAsg (tLc (iSeqU c.K (tTup (tCons (tVar 0) (tCons (tVar 1) (tNil))))) (gName 4) (tTest (tOp (rNotNn) (tVar 4) (tC .non))) (tOp (rMulU) (tVar 2) (tVar 4)) [4]) (gName 3))
    (tRet (tIf (tTest (tOp (rEqU c.K) (tVar 3) (tLst (tNil)))) (tC .non) (tOp (rMulU) (tVar 2) (tCB (cMinL c.K) (tCons (tVar 3) (tNil))))))
def t_least (c : Cs) : TS :=
  tSeq (tAsg (tLc (iZipU c.K false (tCons (tOp (rIx c.K) (tVar 0) (tC (.int 1))) (tCons (tOp (rIx c.K) (tVar 1) (tC (.int 1))) (tNil)))) (gTup c.K 2 (gCons (gName 3) (gCons (gName 4) (gNil)))) (tYes) (tCall (sp_worse c) [] E0 (tCons (tVar 3) (tCons (tVar 4) (tCons (tUn rNegI (tC (.int 1))) (tNil))))) [3, 4]) (gName 2))
    (tRet (tTup (tCons (tCall (sp_worse c) [] E0 (tCons (tOp (rIx c.K) (tVar 0) (tC (.int 0))) (tCons (tOp (rIx c.K) (tVar 1) (tC (.int 0))) (tCons (tC (.int 1)) (tNil))))) (tCons (tCB (cTuple c.K) (tCons (tVar 2) (tNil))) (tNil)))))
def t_below (c : Cs) : TS :=
  tSeq (tFor (iSeqU c.K (tOp (rAddU c.K) (tLst (tCons (tTup (tCons (tOp (rIx c.K) (tVar 0) (tC (.int 0))) (tCons (tOp (rIx c.K) (tVar 1) (tC (.int 0))) (tCons (tC (.int 1)) (tNil))))) (tNil))) (tLc (iZipU c.K false (tCons (tOp (rIx c.K) (tVar 0) (tC (.int 1))) (tCons (tOp (rIx c.K) (tVar 1) (tC (.int 1))) (tNil)))) (gTup c.K 2 (gCons (gName 2) (gCons (gName 3) (gNil)))) (tYes) (tTup (tCons (tVar 2) (tCons (tVar 3) (tCons (tUn rNegI (tC (.int 1))) (tNil))))) [2, 3]))) (gTup c.K 3 (gCons (gName 2) (gCons (gName 3) (gCons (gName 4) (gNil))))) (tIfS (tAnd (tTest (tOp (rNotNn) (tVar 3) (tC .non))) (tOr (tTest (tOp (rIsNn) (tVar 2) (tC .non))) (tTest (tOp (rGtI) (tOp (rMulU) (tVar 4) (tVar 2)) (tOp (rMulU) (tVar 4) (tVar 3)))))) (tRet (tC (.bl false))) (tNext)))
    (tRet (tC (.bl true)))
def t_near (c : Cs) : TS :=
  tSeq (tAsg (tVar 1) (gTup c.K 2 (gCons (gName 2) (gCons (gName 3) (gNil)))))
    (tSeq (tAsg (tCall (sp_take c) [] E0 (tCons (tVar 0) (tCons (tOp (rAddU c.K) (tCB (cLen c.K) (tCons (tVar 3) (tNil))) (tC (.int 1))) (tNil)))) (gName 4))
    (tSeq (tIfS (tTest (tOp (rEqU c.K) (tVar 4) (tC (.int 0)))) (tSeq (tAsg (tIf (tTest (tOp (rIsNn) (tVar 2) (tC .non))) (tUn rNegI (tC (.int 1))) (tCB (cMax2) (tCons (tUn rNegI (tC (.int 1))) (tCons (tOp (rSubI) (tVar 2) (tC (.int 1))) (tNil))))) (gName 5))
    (tAsg (tCall (sp_pick c) [] E0 (tCons (tVar 0) (tCons (tLst (tCons (tVar 2) (tCons (tC .non) (tCons (tC (.int 7)) (tCons (tVar 5) (tNil)))))) (tNil)))) (gName 2))) (tSeq (tAsg (tIf (tTest (tOp (rIsNn) (tOp (rIx c.K) (tVar 3) (tOp (rSubI) (tVar 4) (tC (.int 1)))) (tC .non))) (tC (.int 4)) (tCB (cMin2) (tCons (tC (.int 61)) (tCons (tOp (rAddU c.K) (tOp (rIx c.K) (tVar 3) (tOp (rSubI) (tVar 4) (tC (.int 1)))) (tC (.int 1))) (tNil))))) (gName 6))
    (tAsg (tOp (rAddU c.K) (tOp (rAddU c.K) (tSl (rSlU c.K) (tVar 3) (tNoPart) (tPart (tOp (rSubI) (tVar 4) (tC (.int 1))))) (tTup (tCons (tCall (sp_pick c) [] E0 (tCons (tVar 0) (tCons (tLst (tCons (tC .non) (tCons (tC (.int 9)) (tCons (tVar 6) (tNil))))) (tNil)))) (tNil)))) (tSl (rSlU c.K) (tVar 3) (tPart (tVar 4)) (tNoPart))) (gName 3))))
    (tSeq (tIfS (tAnd (tTest (tOp (rIsNn) (tVar 2) (tC .non))) (tTest (tOp (rEqU c.K) (tLc (iSeqU c.K (tVar 3)) (gName 7) (tTest (tOp (rNotNn) (tVar 7) (tC .non))) (tVar 7) [7]) (tLst (tNil))))) (tAsg (tC (.int 3)) (gName 2)) (tNext))
    (tRet (tTup (tCons (tVar 2) (tCons (tVar 3) (tNil))))))))
def t_pair (c : Cs) : TS :=
  tSeq (tAsg (tCB (cListO c.K) (tCons (tOp (rIx c.K) (tVar 2) (tC (.int 1))) (tNil))) (gName 3))
    (tSeq (tPar 4 5 (tCons (tMake c.LifeRow (sp_lr_init c) [] E0 (tCons (tOp (rIx c.K) (tVar 1) (tC (.int 0))) (tCons (tOp (rIx c.K) (tVar 1) (tC (.int 1))) (tNil)))) (tCons (tMake c.LifeRow (sp_lr_init c) [] E0 (tCons (tOp (rIx c.K) (tVar 2) (tC (.int 0))) (tCons (tVar 3) (tNil)))) (tNil))))
    (tSeq (tDrop (tBM c.K "list" rAppend (tVar 3) (tCons (tC (.int 7)) (tNil))))
    (tSeq (tIfS (tNot (tB (tCall (sp_alike c) [] E0 (tCons (tCall (sp_parts c) [] E0 (tCons (tOp (rOwn c.LifeRow (sp_lr_and c)) (tVar 4) (tVar 5)) (tNil))) (tCons (tCall (sp_least c) [] E0 (tCons (tVar 1) (tCons (tVar 2) (tNil)))) (tNil)))))) (tRet (tC (.bl false))) (tNext))
    (tSeq (tIfS (tNot (tB (tCall (sp_alike c) [] E0 (tCons (tLst (tCons (tOp (rOwnEq c.K c.LifeRow (sp_lr_eq c)) (tVar 4) (tVar 5)) (tCons (tOp (rOwnNe c.K c.LifeRow (sp_lr_eq c)) (tVar 4) (tVar 5)) (tNil)))) (tCons (tLst (tCons (tOp (rEqU c.K) (tVar 1) (tVar 2)) (tCons (tOp (rNeU c.K) (tVar 1) (tVar 2)) (tNil)))) (tNil)))))) (tRet (tC (.bl false))) (tNext))
    (tSeq (tIfS (tNot (tB (tCall (sp_alike c) [] E0 (tCons (tLst (tCons (tMeth c.LifeRow "is_below" (sp_lr_below c) [] E0 (tVar 4) (tCons (tVar 5) (tNil))) (tCons (tMeth c.LifeRow "is_below" (sp_lr_below c) [] E0 (tVar 5) (tCons (tVar 4) (tNil))) (tNil)))) (tCons (tLst (tCons (tCall (sp_below c) [] E0 (tCons (tVar 1) (tCons (tVar 2) (tNil)))) (tCons (tCall (sp_below c) [] E0 (tCons (tVar 2) (tCons (tVar 1) (tNil)))) (tNil)))) (tNil)))))) (tRet (tC (.bl false))) (tNext))
    (tSeq (tAsg (tCall (sp_pick c) [] E0 (tCons (tVar 0) (tCons (tLst (tCons (tC (.int 0)) (tCons (tC (.int 1)) (tCons (tC (.int 2)) (tCons (tC (.int 30)) (tCons (tC (.int 60)) (tCons (tC (.int 61)) (tCons (tC (.int 62)) (tCons (tOp (rPowI) (tC (.int 10)) (tC (.int 20))) (tCons (tCall (sp_take c) [] E0 (tCons (tVar 0) (tCons (tC (.int 70)) (tNil)))) (tNil))))))))))) (tNil)))) (gName 6))
    (tSeq (tIfS (tNot (tB (tCall (sp_alike c) [] E0 (tCons (tCall (sp_parts c) [] E0 (tCons (tOp (rOwnI c.LifeRow (sp_lr_sub c)) (tVar 4) (tVar 6)) (tNil))) (tCons (tCall (sp_less c) [] E0 (tCons (tVar 1) (tCons (tVar 6) (tNil)))) (tNil)))))) (tRet (tC (.bl false))) (tNext))
    (tSeq (tAsg (tCB (cTuple c.K) (tCons (tLc (iSeqU c.K (tOp (rIx c.K) (tVar 1) (tC (.int 1)))) (gName 8) (tYes) (tCall (sp_pick c) [] E0 (tCons (tVar 0) (tCons (tLst (tCons (tUn rNegI (tC (.int 1))) (tCons (tC (.int 0)) (tCons (tC (.int 60)) (tCons (tOp (rSubI) (tCall (sp_take c) [] E0 (tCons (tVar 0) (tCons (tC (.int 62)) (tNil)))) (tC (.int 1))) (tNil)))))) (tNil)))) [8]) (tNil))) (gName 7))
    (tSeq (tIfS (tNot (tB (tCall (sp_alike c) [] E0 (tCons (tLst (tCons (tCallI c.LifeRow (sp_lr_call c) (tVar 4) (tCons (tVar 7) (tNil))) (tCons (tCallI c.LifeRow (sp_lr_call c) (tVar 5) (tCons (tVar 7) (tNil))) (tNil)))) (tCons (tLst (tCons (tCall (sp_bound c) [] E0 (tCons (tVar 1) (tCons (tVar 7) (tNil)))) (tCons (tCall (sp_bound c) [] E0 (tCons (tVar 2) (tCons (tVar 7) (tNil)))) (tNil)))) (tNil)))))) (tRet (tC (.bl false))) (tNext))
    (tSeq (tIfS (tTest (tOp (rNeU c.K) (tCB (cRepr c.K c.LifeRow (sp_lr_repr c)) (tCons (tVar 4) (tNil))) (tOp (rAddU c.K) (tOp (rAddU c.K) (tOp (rAddU c.K) (tOp (rAddU c.K) (tC (.str "LifeRow(")) (tCB (cRepr c.K c.LifeRow (sp_lr_repr c)) (tCons (tOp (rIx c.K) (tVar 1) (tC (.int 0))) (tNil)))) (tC (.str ", "))) (tCB (cRepr c.K c.LifeRow (sp_lr_repr c)) (tCons (tOp (rIx c.K) (tVar 1) (tC (.int 1))) (tNil)))) (tC (.str ")"))))) (tRet (tC (.bl false))) (tNext))
    (tSeq (tFor (iSeqU c.K (tTup (tCons (tCB (cRepr c.K c.LifeRow (sp_lr_repr c)) (tCons (tVar 4) (tNil))) (tCons (tVar 1) (tCons (tC .non) (tCons (tC (.int 7)) (tNil))))))) (gName 9) (tIfS (tOr (tTest (tOp (rOwnEq c.K c.LifeRow (sp_lr_eq c)) (tVar 4) (tVar 9))) (tNot (tTest (tOp (rOwnNe c.K c.LifeRow (sp_lr_eq c)) (tVar 4) (tVar 9))))) (tRet (tC (.bl false))) (tNext)))
    (tRet (tCall (sp_alike c) [] E0 (tCons (tLst (tCons (tCall (sp_parts c) [] E0 (tCons (tVar 4) (tNil))) (tCons (tCall (sp_parts c) [] E0 (tCons (tVar 5) (tNil))) (tNil)))) (tCons (tLst (tCons (tVar 1) (tCons (tVar 2) (tNil)))) (tNil))))))))))))))))
def t_law (c : Cs) : TS :=
  tSeq (tFor (iRng1 (tCons (tCB (cMax2) (tCons (tC (.int 2)) (tCons (tCB (cMin2) (tCons (tC (.int 5)) (tCons (tCB (cLen c.K) (tCons (tVar 0) (tNil))) (tNil)))) (tNil)))) (tNil))) (gName 1) (tSeq (tAsg (tCall (sp_box c) [] E0 (tCons (tVar 0) (tCons (tVar 1) (tNil)))) (gName 2))
    (tSeq (tAsg (tCall (sp_take c) [] E0 (tCons (tVar 2) (tCons (tC (.int 4)) (tNil)))) (gName 3))
    (tSeq (tAsg (tLcO (iRng1 (tCons (tC (.int 3)) (tNil))) (gName 7) (tYes) (tCall (sp_row c) [] E0 (tCons (tVar 2) (tCons (tVar 3) (tNil)))) [7]) (gName 4))
    (tSeq (tDrop (tBM c.K "list" rAppend (tVar 4) (tCons (tCall (sp_near c) [] E0 (tCons (tVar 2) (tCons (tOp (rIx c.K) (tVar 4) (tC (.int 0))) (tNil)))) (tNil))))
    (tFor (iSeqU c.K (tVar 4)) (gName 5) (tFor (iSeqU c.K (tOp (rAddU c.K) (tVar 4) (tLst (tCons (tCall (sp_near c) [] E0 (tCons (tVar 2) (tCons (tVar 5) (tNil)))) (tNil))))) (gName 6) (tIfS (tNot (tB (tCall (sp_pair c) [] E0 (tCons (tVar 2) (tCons (tVar 5) (tCons (tVar 6) (tNil))))))) (tRet (tC (.bl false))) (tNext)))))))))
    (tRet (tC (.bl true)))
theorem der_capped {P : Program} {w : World} {c : Cs} {mg : Str → Option Value} {base : Heap} {f : Addr} {cdv : Value} {A : Around} {outer : List Env} {s : Shared} {H : Hp} {Ex : XK} (T : Tx mg c)
    (hr : Room 1 (A.deeper (envOfC "capped" (defScope s_capped) s.heap.objs.size f cdv))) :
    PSs (cxOf CX0 P w c.K mg base N_capped "capped" (defScope s_capped) f cdv A outer s H Ex).nox (defBody s_capped) (t_capped c) :=
  (pss_one (ps_ret (pe_callB (p_min2 rfl) rfl T.z_min (by decide +kernel) (pa_cons (pv 0) (pa_cons (p_globI rfl T.g_BEYOND) pa_nil)))))
theorem der_lesser {P : Program} {w : World} {c : Cs} {mg : Str → Option Value} {base : Heap} {f : Addr} {cdv : Value} {A : Around} {outer : List Env} {s : Shared} {H : Hp} {Ex : XK} (T : Tx mg c)
    (hr : Room 1 (A.deeper (envOfC "lesser" (defScope s_lesser) s.heap.objs.size f cdv))) :
    PSs (cxOf CX0 P w c.K mg base N_lesser "lesser" (defScope s_lesser) f cdv A outer s H Ex).nox (defBody s_lesser) (t_lesser c) :=
  (pss_cons (ps_if (PW.pt (pw_or (pt_cmpR p_isN (pv 0) pe_non (nomark _)) (pw_or1 (pt_cmpR p_isN (pv 1) pe_non (nomark _))))) (pss_one (ps_ret (pe_ifExp (pt_cmpR p_isN (pv 0) pe_non (nomark _)) (pv 1) (pv 0)))) pss_nil)
    (pss_one (ps_ret (pe_callB (p_min2 rfl) rfl T.z_min (by decide +kernel) (pa_cons (pv 0) (pa_cons (pv 1) pa_nil))))))
theorem der_greater {P : Program} {w : World} {c : Cs} {mg : Str → Option Value} {base : Heap} {f : Addr} {cdv : Value} {A : Around} {outer : List Env} {s : Shared} {H : Hp} {Ex : XK} (T : Tx mg c)
    (hr : Room 1 (A.deeper (envOfC "greater" (defScope s_greater) s.heap.objs.size f cdv))) :
    PSs (cxOf CX0 P w c.K mg base N_greater "greater" (defScope s_greater) f cdv A outer s H Ex).nox (defBody s_greater) (t_greater c) :=
  (pss_cons (ps_if (PW.pt (pw_or (pt_cmpR p_isN (pv 0) pe_non (nomark _)) (pw_or1 (pt_cmpR p_isN (pv 1) pe_non (nomark _))))) (pss_one (ps_ret (pe_ifExp (pt_cmpR p_isN (pv 0) pe_non (nomark _)) (pv 1) (pv 0)))) pss_nil)
    (pss_one (ps_ret (pe_callB (p_max2 rfl) rfl T.z_max (by decide +kernel) (pa_cons (pv 0) (pa_cons (pv 1) pa_nil))))))
theorem der_lr_init {P : Program} {w : World} {c : Cs} {mg : Str → Option Value} {base : Heap} {f : Addr} {cdv : Value} {A : Around} {outer : List Env} {s : Shared} {H : Hp} {Ex : XK} (T : Tx mg c)
    (hr : Room 1 (A.deeper (envOfC "LifeRow.__init__" (defScope s_lr_init) s.heap.objs.size f cdv))) :
    PSs (cxOf CX0 P w c.K mg base N_lr_init "LifeRow.__init__" (defScope s_lr_init) f cdv A outer s H Ex).nox (defBody s_lr_init) (t_lr_init c) :=
  (pss_one (ps_fld (pv 0) (pe_tup (pa_cons (pv 1) (pa_cons (pe_callTy p_tuple rfl T.z_tuple (by decide +kernel) (pa_cons (pv 2) pa_nil)) pa_nil))) rfl))
theorem der_lr_call {P : Program} {w : World} {c : Cs} {mg : Str → Option Value} {base : Heap} {f : Addr} {cdv : Value} {A : Around} {outer : List Env} {s : Shared} {H : Hp} {Ex : XK} (T : Tx mg c)
    (hr : Room 1 (A.deeper (envOfC "LifeRow.__call__" (defScope s_lr_call) s.heap.objs.size f cdv))) :
    PSs (cxOf CX0 P w c.K mg base N_lr_call "LifeRow.__call__" (defScope s_lr_call) f cdv A outer s H Ex).nox (defBody s_lr_call) (t_lr_call c) :=
  (pss_cons (ps_asg (pe_fld (pv 0) rfl) (pg_tup rfl (pgs_cons (pg_name (i := 2) sc_lr_call.nd rfl (by first | exact Or.inl rfl | exact Or.inr rfl)) (pgs_cons (pg_name (i := 3) sc_lr_call.nd rfl (by first | exact Or.inl rfl | exact Or.inr rfl)) pgs_nil))))
    (pss_cons (ps_setLc (i := 4) (own := [("life", 5), ("lost", 6)]) rfl sc_lr_call.nd rfl rfl (sw_true rfl rfl rfl (by decide +kernel)) (p_zipS rfl T.z_zip (pa_cons (pv 1) (pa_cons (pv 3) pa_nil))) (blkOk_by (own := [("life", 5), ("lost", 6)]) (N := N_lr_call) (sc := defScope s_lr_call) (by decide +kernel)) (fun _ _ _ _ _ => (pg_tup rfl (pgs_cons (pg_name (i := 5) sc_lr_call.nd rfl (by first | exact Or.inl rfl | exact Or.inr rfl)) (pgs_cons (pg_name (i := 6) sc_lr_call.nd rfl (by first | exact Or.inl rfl | exact Or.inr rfl)) pgs_nil)))) (fun _ _ _ _ _ => (pts_one (pt_cmpR p_notN (pv 6) pe_non (nomark _)))) (fun _ _ _ _ _ => (pe_op p_sub (pv 5) (pv 6))))
    (pss_cons (ps_if (pt_cmpR p_notN (pv 2) pe_non (nomark _)) (pss_one (ps_expr (pe_bm PySem.F.plainAttrs_list PySem.F.slot_list_append PySem.F.type_list_append mt_append (pv 4) (pa_cons (pv 2) pa_nil)))) pss_nil)
    (pss_one (ps_ret (pe_callB (p_max2 rfl) rfl T.z_max (by decide +kernel) (pa_cons (pe_un p_neg pe_int) (pa_cons (pe_callB (p_minL rfl) rfl T.z_min (by decide +kernel) (pa_cons (pv 4) pa_nil)) pa_nil))))))))
theorem der_lr_sub {P : Program} {w : World} {c : Cs} {mg : Str → Option Value} {base : Heap} {f : Addr} {cdv : Value} {A : Around} {outer : List Env} {s : Shared} {H : Hp} {Ex : XK} (T : Tx mg c) (h_lr_init : H_lr_init P w mg base c) (h_capped : H_capped P w mg base c)
    (hr : Room 3 (A.deeper (envOfC "LifeRow.__sub__" (defScope s_lr_sub) s.heap.objs.size f cdv))) :
    PSs (cxOf CX0 P w c.K mg base N_lr_sub "LifeRow.__sub__" (defScope s_lr_sub) f cdv A outer s H Ex).nox (defBody s_lr_sub) (t_lr_sub c) :=
  (pss_cons (ps_asg (pe_fld (pv 0) rfl) (pg_tup rfl (pgs_cons (pg_name (i := 2) sc_lr_sub.nd rfl (by first | exact Or.inl rfl | exact Or.inr rfl)) (pgs_cons (pg_name (i := 3) sc_lr_sub.nd rfl (by first | exact Or.inl rfl | exact Or.inr rfl)) pgs_nil))))
    (pss_cons (ps_set (i := 4) sc_lr_sub.nd rfl (by first | exact Or.inl rfl | exact Or.inr rfl) (pe_ifExp (pt_cmpR p_isN (pv 2) pe_non (nomark _)) pe_non (pe_callB (p_max2 rfl) rfl T.z_max (by decide +kernel) (pa_cons (pe_un p_neg pe_int) (pa_cons (pe_op p_sub (pv 2) (pv 1)) pa_nil)))))
    (pss_one (ps_ret (p_make h_lr_init (hr.mono (by decide)) rfl T.m_LifeRow (pa_cons (pv 4) (pa_cons (pe_lc (own := [("lost", 5)]) rfl sc_lr_sub.nd (p_seq (pv 3)) (blkOk_by (own := [("lost", 5)]) (N := N_lr_sub) (sc := defScope s_lr_sub) (by decide +kernel)) (fun _ _ _ _ _ => (pg_name (i := 5) sc_lr_sub.nd rfl (by first | exact Or.inl rfl | exact Or.inr rfl))) (fun _ _ _ _ _ => pts_nil) (fun _ _ _ _ _ => (pe_ifExp (pt_cmpR p_isN (pv 5) pe_non (nomark _)) pe_non (p_call h_capped (hr.mono (by decide)) (fun z => nomatch z) rfl (pa_cons (pe_op p_add (pv 5) (pv 1)) pa_nil))))) pa_nil)))))))
theorem der_lr_and {P : Program} {w : World} {c : Cs} {mg : Str → Option Value} {base : Heap} {f : Addr} {cdv : Value} {A : Around} {outer : List Env} {s : Shared} {H : Hp} {Ex : XK} (T : Tx mg c) (h_greater : H_greater P w mg base c) (h_lr_init : H_lr_init P w mg base c) (h_lesser : H_lesser P w mg base c)
    (hr : Room 3 (A.deeper (envOfC "LifeRow.__and__" (defScope s_lr_and) s.heap.objs.size f cdv))) :
    PSs (cxOf CX0 P w c.K mg base N_lr_and "LifeRow.__and__" (defScope s_lr_and) f cdv A outer s H Ex).nox (defBody s_lr_and) (t_lr_and c) :=
  (pss_cons (ps_setLc (i := 2) (own := [("one", 3), ("more", 4)]) rfl sc_lr_and.nd rfl rfl (sw_true rfl rfl rfl (by decide +kernel)) (p_zipS rfl T.z_zip (pa_cons (pe_ix ix_seq (pe_fld (pv 0) rfl) pe_int (fun _ _ => rfl)) (pa_cons (pe_ix ix_seq (pe_fld (pv 1) rfl) pe_int (fun _ _ => rfl)) pa_nil))) (blkOk_by (own := [("one", 3), ("more", 4)]) (N := N_lr_and) (sc := defScope s_lr_and) (by decide +kernel)) (fun _ _ _ _ _ => (pg_tup rfl (pgs_cons (pg_name (i := 3) sc_lr_and.nd rfl (by first | exact Or.inl rfl | exact Or.inr rfl)) (pgs_cons (pg_name (i := 4) sc_lr_and.nd rfl (by first | exact Or.inl rfl | exact Or.inr rfl)) pgs_nil)))) (fun _ _ _ _ _ => pts_nil) (fun _ _ _ _ _ => (p_call h_greater (hr.mono (by decide)) (fun z => nomatch z) rfl (pa_cons (pv 3) (pa_cons (pv 4) pa_nil)))))
    (pss_one (ps_ret (p_make h_lr_init (hr.mono (by decide)) rfl T.m_LifeRow (pa_cons (p_call h_lesser (hr.mono (by decide)) (fun z => nomatch z) rfl (pa_cons (pe_ix ix_seq (pe_fld (pv 0) rfl) pe_int (fun _ _ => rfl)) (pa_cons (pe_ix ix_seq (pe_fld (pv 1) rfl) pe_int (fun _ _ => rfl)) pa_nil))) (pa_cons (pv 2) pa_nil))))))
theorem der_lr_eq {P : Program} {w : World} {c : Cs} {mg : Str → Option Value} {base : Heap} {f : Addr} {cdv : Value} {A : Around} {outer : List Env} {s : Shared} {H : Hp} {Ex : XK} (T : Tx mg c)
    (hr : Room 1 (A.deeper (envOfC "LifeRow.__eq__" (defScope s_lr_eq) s.heap.objs.size f cdv))) :
    PSs (cxOf CX0 P w c.K mg base N_lr_eq "LifeRow.__eq__" (defScope s_lr_eq) f cdv A outer s H Ex).nox (defBody s_lr_eq) (t_lr_eq c) :=
  (pss_one (ps_ret (pe_and (pe_callB p_isi rfl T.z_isinstance (by decide +kernel) (pa_cons (pv 1) (pa_cons (p_cls rfl T.m_LifeRow) pa_nil))) (pe_one (pe_cmpR (p_eq hr) (pe_fld (pv 0) rfl) (pe_fld (pv 1) rfl) (nomark _))))))
theorem der_lr_repr {P : Program} {w : World} {c : Cs} {mg : Str → Option Value} {base : Heap} {f : Addr} {cdv : Value} {A : Around} {outer : List Env} {s : Shared} {H : Hp} {Ex : XK} (T : Tx mg c)
    (hr : Room 1 (A.deeper (envOfC "LifeRow.__repr__" (defScope s_lr_repr) s.heap.objs.size f cdv))) (hg : (A.deeper (envOfC "LifeRow.__repr__" (defScope s_lr_repr) s.heap.objs.size f cdv)).guards = some []) :
    PSs (cxOf CX0 P w c.K mg base N_lr_repr "LifeRow.__repr__" (defScope s_lr_repr) f cdv A outer s H Ex).nox (defBody s_lr_repr) (t_lr_repr c) :=
  (pss_one (ps_ret (p_join (.cons pe_str (.cons (p_fmtD hr hg (pe_ix ix_seq (pe_fld (pv 0) rfl) pe_int (fun _ _ => rfl))) (.cons pe_str (.cons (p_fmtD hr hg (pe_ix ix_seq (pe_fld (pv 0) rfl) pe_int (fun _ _ => rfl))) (.cons pe_str .nil))))))))
theorem der_lr_left {P : Program} {w : World} {c : Cs} {mg : Str → Option Value} {base : Heap} {f : Addr} {cdv : Value} {A : Around} {outer : List Env} {s : Shared} {H : Hp} {Ex : XK} (T : Tx mg c)
    (hr : Room 1 (A.deeper (envOfC "LifeRow.left" (defScope s_lr_left) s.heap.objs.size f cdv))) :
    PSs (cxOf CX0 P w c.K mg base N_lr_left "LifeRow.left" (defScope s_lr_left) f cdv A outer s H Ex).nox (defBody s_lr_left) (t_lr_left c) :=
  (pss_one (ps_ret (pe_ix ix_seq (pe_fld (pv 0) rfl) pe_int (fun _ _ => rfl))))
theorem der_lr_lost {P : Program} {w : World} {c : Cs} {mg : Str → Option Value} {base : Heap} {f : Addr} {cdv : Value} {A : Around} {outer : List Env} {s : Shared} {H : Hp} {Ex : XK} (T : Tx mg c)
    (hr : Room 1 (A.deeper (envOfC "LifeRow.lost" (defScope s_lr_lost) s.heap.objs.size f cdv))) :
    PSs (cxOf CX0 P w c.K mg base N_lr_lost "LifeRow.lost" (defScope s_lr_lost) f cdv A outer s H Ex).nox (defBody s_lr_lost) (t_lr_lost c) :=
  (pss_one (ps_ret (pe_ix ix_seq (pe_fld (pv 0) rfl) pe_int (fun _ _ => rfl))))
theorem der_lr_below {P : Program} {w : World} {c : Cs} {mg : Str → Option Value} {base : Heap} {f : Addr} {cdv : Value} {A : Around} {outer : List Env} {s : Shared} {H : Hp} {Ex : XK} (T : Tx mg c) (h_lr_left : H_lr_left P w mg base c) (h_lr_lost : H_lr_lost P w mg base c)
    (hr : Room 3 (A.deeper (envOfC "LifeRow.is_below" (defScope s_lr_below) s.heap.objs.size f cdv))) :
    PSs (cxOf CX0 P w c.K mg base N_lr_below "LifeRow.is_below" (defScope s_lr_below) f cdv A outer s H Ex).nox (defBody s_lr_below) (t_lr_below c) :=
  (pss_cons (ps_asg (pe_fld (pv 0) rfl) (pg_tup rfl (pgs_cons (pg_name (i := 2) sc_lr_below.nd rfl (by first | exact Or.inl rfl | exact Or.inr rfl)) (pgs_cons (pg_name (i := 3) sc_lr_below.nd rfl (by first | exact Or.inl rfl | exact Or.inr rfl)) pgs_nil))))
    (pss_cons (ps_if (PW.pt (pw_and (pt_cmpR p_notN (p_prop (pv 1) T.o_LifeRow.cls h_lr_left (hr.mono (by decide)) rfl) pe_non (nomark _)) (pw_and1 (PW.pt (pw_or (pt_cmpR p_isN (pv 2) pe_non (nomark _)) (pw_or1 (pt_cmpR p_gt (pv 2) (p_prop (pv 1) T.o_LifeRow.cls h_lr_left (hr.mono (by decide)) rfl) (nomark _)))))))) (pss_one (ps_ret pe_bl)) pss_nil)
    (pss_cons (ps_for PassesOwn.never rfl (p_zipS rfl T.z_zip (pa_cons (pv 3) (pa_cons (p_prop (pv 1) T.o_LifeRow.cls h_lr_lost (hr.mono (by decide)) rfl) pa_nil))) (pg_tup rfl (pgs_cons (pg_name (i := 4) sc_lr_below.nd rfl (by first | exact Or.inl rfl | exact Or.inr rfl)) (pgs_cons (pg_name (i := 5) sc_lr_below.nd rfl (by first | exact Or.inl rfl | exact Or.inr rfl)) pgs_nil))) (pss_one (ps_if (PW.pt (pw_and (pt_cmpR p_notN (pv 5) pe_non (nomark _)) (pw_and1 (PW.pt (pw_or (pt_cmpR p_isN (pv 4) pe_non (nomark _)) (pw_or1 (pt_cmpR p_lt (pv 4) (pv 5) (nomark _)))))))) (pss_one (ps_ret pe_bl)) pss_nil)))
    (pss_one (ps_ret pe_bl)))))
theorem der_box {P : Program} {w : World} {c : Cs} {mg : Str → Option Value} {base : Heap} {f : Addr} {cdv : Value} {A : Around} {outer : List Env} {s : Shared} {H : Hp} {Ex : XK} (T : Tx mg c)
    (hr : Room 1 (A.deeper (envOfC "_law_box" (defScope s_box) s.heap.objs.size f cdv))) :
    PSs (cxOf CX0 P w c.K mg base N_box "_law_box" (defScope s_box) f cdv A outer s H Ex).nox (defBody s_box) (t_box c) :=
  (pss_cons (ps_set (i := 2) sc_box.nd rfl (by first | exact Or.inl rfl | exact Or.inr rfl) (pe_op p_add (pe_op p_mul pe_int (pv 1)) pe_int))
    (pss_cons (ps_if (pt_cmpR p_lt (pv 1) (pe_callB p_len rfl T.z_len (by decide +kernel) (pa_cons (pv 0) pa_nil)) (nomark _)) (pss_one (ps_set (i := 2) sc_box.nd rfl (by first | exact Or.inl rfl | exact Or.inr rfl) (pe_ix ix_seq (pv 0) (pv 1) (fun _ _ => rfl)))) (pss_one (ps_if (pt_cmpR p_gt (pe_callB p_len rfl T.z_len (by decide +kernel) (pa_cons (pv 0) pa_nil)) pe_int (nomark _)) (pss_one (ps_set (i := 2) sc_box.nd rfl (by first | exact Or.inl rfl | exact Or.inr rfl) (pe_op p_add (pv 2) (pe_op p_mul (pe_op p_mod (pe_ix ix_seq (pv 0) (pe_op p_mod (pv 1) (pe_callB p_len rfl T.z_len (by decide +kernel) (pa_cons (pv 0) pa_nil))) (fun _ _ => rfl)) pe_int) pe_int)))) pss_nil)))
    (pss_cons (ps_set (i := 3) sc_box.nd rfl (by first | exact Or.inl rfl | exact Or.inr rfl) (pe_op p_add (pe_op p_mod (pe_op p_add (pe_op p_mul (pe_op p_mod (pv 2) pe_int) pe_int) (pe_op p_mul pe_int (pv 1))) pe_int) pe_int))
    (pss_one (ps_ret (pe_lst (pa_cons (pe_ix ix_seq (pe_lst (pa_cons pe_int (pa_cons (pv 2) pa_nil))) (pe_callTy p_int1 rfl T.z_int (by decide +kernel) (pa_cons (pe_cmpR p_ge (pv 2) (pe_op p_pow pe_int pe_int) (nomark _)) pa_nil)) (fun _ _ => rfl)) (pa_cons (pv 3) (pa_cons pe_int pa_nil)))))))))
theorem der_take {P : Program} {w : World} {c : Cs} {mg : Str → Option Value} {base : Heap} {f : Addr} {cdv : Value} {A : Around} {outer : List Env} {s : Shared} {H : Hp} {Ex : XK} (T : Tx mg c)
    (hr : Room 1 (A.deeper (envOfC "_law_take" (defScope s_take) s.heap.objs.size f cdv))) :
    PSs (cxOf CX0 P w c.K mg base N_take "_law_take" (defScope s_take) f cdv A outer s H Ex).nox (defBody s_take) (t_take c) :=
  (pss_cons (ps_if (pt_cmpR p_gt (pe_ix ix_seq (pv 0) pe_int (fun _ _ => rfl)) pe_int (nomark _)) (pss_cons (ps_set (i := 2) sc_take.nd rfl (by first | exact Or.inl rfl | exact Or.inr rfl) (pe_op p_mod (pe_ix ix_seq (pv 0) pe_int (fun _ _ => rfl)) (pv 1)))
    (pss_cons (ps_asg (pe_op p_fdiv (pe_ix ix_seq (pv 0) pe_int (fun _ _ => rfl)) (pv 1)) (pg_sub (pv 0) pe_int set_list))
    (pss_one (ps_ret (pv 2))))) pss_nil)
    (pss_cons (ps_asg (pe_op p_add (pe_ix ix_seq (pv 0) pe_int (fun _ _ => rfl)) pe_int) (pg_sub (pv 0) pe_int set_list))
    (pss_cons (ps_set (i := 3) sc_take.nd rfl (by first | exact Or.inl rfl | exact Or.inr rfl) (pe_op p_mod (pe_op p_mul (pe_op p_add (pe_ix ix_seq (pv 0) pe_int (fun _ _ => rfl)) (pe_op p_mul pe_int (pe_ix ix_seq (pv 0) pe_int (fun _ _ => rfl)))) pe_int) pe_int))
    (pss_cons (ps_asg (pe_op p_add (pe_op p_mod (pe_op p_add (pe_op p_mul (pv 3) pe_int) pe_int) pe_int) pe_int) (pg_sub (pv 0) pe_int set_list))
    (pss_one (ps_ret (pe_op p_mod (pe_op p_fdiv (pe_op p_add (pe_op p_mul (pv 3) pe_int) (pe_ix ix_seq (pv 0) pe_int (fun _ _ => rfl))) pe_int) (pv 1))))))))
theorem der_pick {P : Program} {w : World} {c : Cs} {mg : Str → Option Value} {base : Heap} {f : Addr} {cdv : Value} {A : Around} {outer : List Env} {s : Shared} {H : Hp} {Ex : XK} (T : Tx mg c) (h_take : H_take P w mg base c)
    (hr : Room 3 (A.deeper (envOfC "_law_pick" (defScope s_pick) s.heap.objs.size f cdv))) :
    PSs (cxOf CX0 P w c.K mg base N_pick "_law_pick" (defScope s_pick) f cdv A outer s H Ex).nox (defBody s_pick) (t_pick c) :=
  (pss_one (ps_ret (pe_ix ix_seq (pv 1) (p_call h_take (hr.mono (by decide)) (fun z => nomatch z) rfl (pa_cons (pv 0) (pa_cons (pe_callB p_len rfl T.z_len (by decide +kernel) (pa_cons (pv 1) pa_nil)) pa_nil))) (fun _ _ => rfl))))
theorem der_row {P : Program} {w : World} {c : Cs} {mg : Str → Option Value} {base : Heap} {f : Addr} {cdv : Value} {A : Around} {outer : List Env} {s : Shared} {H : Hp} {Ex : XK} (T : Tx mg c) (h_take : H_take P w mg base c) (h_pick : H_pick P w mg base c)
    (hr : Room 5 (A.deeper (envOfC "_law_row" (defScope s_row) s.heap.objs.size f cdv))) :
    PSs (cxOf CX0 P w c.K mg base N_row "_law_row" (defScope s_row) f cdv A outer s H Ex).nox (defBody s_row) (t_row c) :=
  (pss_cons (ps_set (i := 2) sc_row.nd rfl (by first | exact Or.inl rfl | exact Or.inr rfl) (pe_ix ix_seq (pe_lst (pa_cons pe_non (pa_cons (pe_op p_sub (p_call h_take (hr.mono (by decide)) (fun z => nomatch z) rfl (pa_cons (pv 0) (pa_cons pe_int pa_nil))) pe_int) (pa_cons (p_call h_pick (hr.mono (by decide)) (fun z => nomatch z) rfl (pa_cons (pv 0) (pa_cons (pe_lst (pa_cons (pe_un p_neg pe_int) (pa_cons pe_int (pa_cons pe_int (pa_cons pe_int (pa_cons pe_int (pa_cons pe_int pa_nil))))))) pa_nil))) pa_nil)))) (p_call h_take (hr.mono (by decide)) (fun z => nomatch z) rfl (pa_cons (pv 0) (pa_cons pe_int pa_nil))) (fun _ _ => rfl)))
    (pss_cons (ps_set (i := 3) sc_row.nd rfl (by first | exact Or.inl rfl | exact Or.inr rfl) (p_lstO pa_nil))
    (pss_cons (ps_for PassesOwn.never rfl (pi_range1 rfl T.z_range (pa_cons (pv 1) pa_nil)) (pg_name (i := 4) sc_row.nd rfl (by first | exact Or.inl rfl | exact Or.inr rfl)) (pss_one (ps_expr (pe_bm PySem.F.plainAttrs_list PySem.F.slot_list_append PySem.F.type_list_append mt_append (pv 3) (pa_cons (pe_ix ix_seq (pe_lst (pa_cons pe_non (pa_cons (p_call h_take (hr.mono (by decide)) (fun z => nomatch z) rfl (pa_cons (pv 0) (pa_cons pe_int pa_nil))) (pa_cons (p_call h_pick (hr.mono (by decide)) (fun z => nomatch z) rfl (pa_cons (pv 0) (pa_cons (pe_lst (pa_cons pe_int (pa_cons pe_int (pa_cons pe_int (pa_cons pe_int (pa_cons pe_int (pa_cons pe_int pa_nil))))))) pa_nil))) pa_nil)))) (p_call h_take (hr.mono (by decide)) (fun z => nomatch z) rfl (pa_cons (pv 0) (pa_cons pe_int pa_nil))) (fun _ _ => rfl)) pa_nil)))))
    (pss_cons (ps_if (PW.pt (pw_and (pt_cmpR p_isN (pv 2) pe_non (nomark _)) (pw_and1 (pt_cmpR (p_eq hr) (pe_lc (own := [("_law_one", 5)]) rfl sc_row.nd (p_seq (pv 3)) (blkOk_by (own := [("_law_one", 5)]) (N := N_row) (sc := defScope s_row) (by decide +kernel)) (fun _ _ _ _ _ => (pg_name (i := 5) sc_row.nd rfl (by first | exact Or.inl rfl | exact Or.inr rfl))) (fun _ _ _ _ _ => (pts_one (pt_cmpR p_notN (pv 5) pe_non (nomark _)))) (fun _ _ _ _ _ => (pv 5))) (pe_lst pa_nil) (nomark _))))) (pss_one (ps_set (i := 2) sc_row.nd rfl (by first | exact Or.inl rfl | exact Or.inr rfl) (p_call h_take (hr.mono (by decide)) (fun z => nomatch z) rfl (pa_cons (pv 0) (pa_cons pe_int pa_nil))))) pss_nil)
    (pss_one (ps_ret (pe_tup (pa_cons (pv 2) (pa_cons (pe_callTy p_tuple rfl T.z_tuple (by decide +kernel) (pa_cons (pv 3) pa_nil)) pa_nil)))))))))
theorem der_bound {P : Program} {w : World} {c : Cs} {mg : Str → Option Value} {base : Heap} {f : Addr} {cdv : Value} {A : Around} {outer : List Env} {s : Shared} {H : Hp} {Ex : XK} (T : Tx mg c)
    (hr : Room 1 (A.deeper (envOfC "_law_bound" (defScope s_bound) s.heap.objs.size f cdv))) :
    PSs (cxOf CX0 P w c.K mg base N_bound "_law_bound" (defScope s_bound) f cdv A outer s H Ex).nox (defBody s_bound) (t_bound c) :=
  (pss_cons (ps_asg (pv 0) (pg_tup rfl (pgs_cons (pg_name (i := 2) sc_bound.nd rfl (by first | exact Or.inl rfl | exact Or.inr rfl)) (pgs_cons (pg_name (i := 3) sc_bound.nd rfl (by first | exact Or.inl rfl | exact Or.inr rfl)) pgs_nil))))
    (pss_cons (ps_set (i := 4) sc_bound.nd rfl (by first | exact Or.inl rfl | exact Or.inr rfl) (pe_op p_add (pe_lc (own := [("_law_life", 5), ("_law_one", 6)]) rfl sc_bound.nd (p_zip rfl T.z_zip (pa_cons (pv 1) (pa_cons (pv 3) pa_nil))) (blkOk_by (own := [("_law_life", 5), ("_law_one", 6)]) (N := N_bound) (sc := defScope s_bound) (by decide +kernel)) (fun _ _ _ _ _ => (pg_tup rfl (pgs_cons (pg_name (i := 5) sc_bound.nd rfl (by first | exact Or.inl rfl | exact Or.inr rfl)) (pgs_cons (pg_name (i := 6) sc_bound.nd rfl (by first | exact Or.inl rfl | exact Or.inr rfl)) pgs_nil)))) (fun _ _ _ _ _ => (pts_one (pt_cmpR p_notN (pv 6) pe_non (nomark _)))) (fun _ _ _ _ _ => (pe_op p_sub (pv 5) (pv 6)))) (pe_op p_mul (pe_lst (pa_cons (pv 2) pa_nil)) (pe_callTy p_int1 rfl T.z_int (by decide +kernel) (pa_cons (pe_cmpR p_notN (pv 2) pe_non (nomark _)) pa_nil)))))
    (pss_one (ps_ret (pe_callB (p_max2 rfl) rfl T.z_max (by decide +kernel) (pa_cons (pe_un p_neg pe_int) (pa_cons (pe_callB (p_minL rfl) rfl T.z_min (by decide +kernel) (pa_cons (pv 4) pa_nil)) pa_nil)))))))
theorem der_alike {P : Program} {w : World} {c : Cs} {mg : Str → Option Value} {base : Heap} {f : Addr} {cdv : Value} {A : Around} {outer : List Env} {s : Shared} {H : Hp} {Ex : XK} (T : Tx mg c)
    (hr : Room 1 (A.deeper (envOfC "_law_alike" (defScope s_alike) s.heap.objs.size f cdv))) :
    PSs (cxOf CX0 P w c.K mg base N_alike "_law_alike" (defScope s_alike) f cdv A outer s H Ex).nox (defBody s_alike) (t_alike c) :=
  (pss_cons (ps_set (i := 2) sc_alike.nd rfl (by first | exact Or.inl rfl | exact Or.inr rfl) (p_lstO (pa_cons (pe_tup (pa_cons (pv 0) (pa_cons (pv 1) pa_nil))) pa_nil)))
    (pss_cons (ps_while PassesOwn.never (pt_cmpR (p_ne hr) (pv 2) (pe_lst pa_nil) (nomark _)) (pss_cons (ps_asg (pe_bm0 PySem.F.plainAttrs_list PySem.F.slot_list_pop PySem.F.type_list_pop mt_pop (pv 2)) (pg_tup rfl (pgs_cons (pg_name (i := 3) sc_alike.nd rfl (by first | exact Or.inl rfl | exact Or.inr rfl)) (pgs_cons (pg_name (i := 4) sc_alike.nd rfl (by first | exact Or.inl rfl | exact Or.inr rfl)) pgs_nil))))
    (pss_one (ps_if (pt_val (pe_callB p_isi rfl T.z_isinstance (by decide +kernel) (pa_cons (pv 4) (pa_cons (pe_tup (pa_cons (p_ty rfl T.z_tuple (by decide +kernel)) (pa_cons (p_ty rfl T.z_list (by decide +kernel)) pa_nil))) pa_nil)))) (pss_cons (ps_if (PW.pt (pw_or (pt_cmpR (p_ne hr) (pe_callB p_isi rfl T.z_isinstance (by decide +kernel) (pa_cons (pv 3) (pa_cons (p_ty rfl T.z_tuple (by decide +kernel)) pa_nil))) (pe_callB p_isi rfl T.z_isinstance (by decide +kernel) (pa_cons (pv 4) (pa_cons (p_ty rfl T.z_tuple (by decide +kernel)) pa_nil))) (nomark _)) (pw_or1 (pt_cmpR (p_ne hr) (pe_callB p_isi rfl T.z_isinstance (by decide +kernel) (pa_cons (pv 3) (pa_cons (p_ty rfl T.z_list (by decide +kernel)) pa_nil))) (pe_callB p_isi rfl T.z_isinstance (by decide +kernel) (pa_cons (pv 4) (pa_cons (p_ty rfl T.z_list (by decide +kernel)) pa_nil))) (nomark _))))) (pss_one (ps_ret pe_bl)) pss_nil)
    (pss_cons (ps_if (pt_cmpR (p_ne hr) (pe_callB p_len rfl T.z_len (by decide +kernel) (pa_cons (pv 3) pa_nil)) (pe_callB p_len rfl T.z_len (by decide +kernel) (pa_cons (pv 4) pa_nil)) (nomark _)) (pss_one (ps_ret pe_bl)) pss_nil)
    (pss_one (ps_expr (pe_bm PySem.F.plainAttrs_list PySem.F.slot_list_extend PySem.F.type_list_extend mt_extend (pv 2) (pa_cons (p_listZip rfl rfl T.z_list rfl T.z_zip (pa_cons (pv 3) (pa_cons (pv 4) pa_nil))) pa_nil)))))) (pss_one (ps_if (PW.pt (pw_or (pt_val (pe_callB p_isi rfl T.z_isinstance (by decide +kernel) (pa_cons (pv 3) (pa_cons (pe_tup (pa_cons (p_ty rfl T.z_tuple (by decide +kernel)) (pa_cons (p_ty rfl T.z_list (by decide +kernel)) pa_nil))) pa_nil)))) (pw_or (pt_cmpR (p_ne hr) (pe_callB p_isi rfl T.z_isinstance (by decide +kernel) (pa_cons (pv 3) (pa_cons (p_ty rfl T.z_bool (by decide +kernel)) pa_nil))) (pe_callB p_isi rfl T.z_isinstance (by decide +kernel) (pa_cons (pv 4) (pa_cons (p_ty rfl T.z_bool (by decide +kernel)) pa_nil))) (nomark _)) (pw_or1 (pt_cmpR (p_ne hr) (pv 3) (pv 4) (nomark _)))))) (pss_one (ps_ret pe_bl)) pss_nil))))))
    (pss_one (ps_ret pe_bl))))
theorem der_parts {P : Program} {w : World} {c : Cs} {mg : Str → Option Value} {base : Heap} {f : Addr} {cdv : Value} {A : Around} {outer : List Env} {s : Shared} {H : Hp} {Ex : XK} (T : Tx mg c) (h_lr_left : H_lr_left P w mg base c) (h_lr_lost : H_lr_lost P w mg base c)
    (hr : Room 3 (A.deeper (envOfC "_law_parts_of" (defScope s_parts) s.heap.objs.size f cdv))) :
    PSs (cxOf CX0 P w c.K mg base N_parts "_law_parts_of" (defScope s_parts) f cdv A outer s H Ex).nox (defBody s_parts) (t_parts c) :=
  (pss_one (ps_ret (pe_tup (pa_cons (p_prop (pv 0) T.o_LifeRow.cls h_lr_left (hr.mono (by decide)) rfl) (pa_cons (p_prop (pv 0) T.o_LifeRow.cls h_lr_lost (hr.mono (by decide)) rfl) pa_nil)))))
theorem der_less {P : Program} {w : World} {c : Cs} {mg : Str → Option Value} {base : Heap} {f : Addr} {cdv : Value} {A : Around} {outer : List Env} {s : Shared} {H : Hp} {Ex : XK} (T : Tx mg c)
    (hr : Room 1 (A.deeper (envOfC "_law_less" (defScope s_less) s.heap.objs.size f cdv))) :
    PSs (cxOf CX0 P w c.K mg base N_less "_law_less" (defScope s_less) f cdv A outer s H Ex).nox (defBody s_less) (t_less c) :=
  (pss_cons (ps_asg (pv 0) (pg_tup rfl (pgs_cons (pg_name (i := 2) sc_less.nd rfl (by first | exact Or.inl rfl | exact Or.inr rfl)) (pgs_cons (pg_name (i := 3) sc_less.nd rfl (by first | exact Or.inl rfl | exact Or.inr rfl)) pgs_nil))))
    (pss_cons (ps_set (i := 2) sc_less.nd rfl (by first | exact Or.inl rfl | exact Or.inr rfl) (pe_ifExp (pt_cmpR p_isN (pv 2) pe_non (nomark _)) pe_non (pe_callB (p_max2 rfl) rfl T.z_max (by decide +kernel) (pa_cons (pe_un p_neg pe_int) (pa_cons (pe_op p_sub (pv 2) (pv 1)) pa_nil)))))
    (pss_one (ps_ret (pe_tup (pa_cons (pv 2) (pa_cons (pe_callTy p_tuple rfl T.z_tuple (by decide +kernel) (pa_cons (pe_lc (own := [("_law_one", 4)]) rfl sc_less.nd (p_seq (pv 3)) (blkOk_by (own := [("_law_one", 4)]) (N := N_less) (sc := defScope s_less) (by decide +kernel)) (fun _ _ _ _ _ => (pg_name (i := 4) sc_less.nd rfl (by first | exact Or.inl rfl | exact Or.inr rfl))) (fun _ _ _ _ _ => pts_nil) (fun _ _ _ _ _ => (pe_ifExp (pt_cmpR p_isN (pv 4) pe_non (nomark _)) pe_non (pe_callB (p_min2 rfl) rfl T.z_min (by decide +kernel) (pa_cons pe_int (pa_cons (pe_op p_add (pv 4) (pv 1)) pa_nil)))))) pa_nil)) pa_nil)))))))
theorem der_worse {P : Program} {w : World} {c : Cs} {mg : Str → Option Value} {base : Heap} {f : Addr} {cdv : Value} {A : Around} {outer : List Env} {s : Shared} {H : Hp} {Ex : XK} (T : Tx mg c)
    (hr : Room 1 (A.deeper (envOfC "_law_worse" (defScope s_worse) s.heap.objs.size f cdv))) :
    PSs (cxOf CX0 P w c.K mg base N_worse "_law_worse" (defScope s_worse) f cdv A outer s H Ex).nox (defBody s_worse) (t_worse c) :=
  (pss_cons (ps_setLc (i := 3) (own := [("_law_term", 4)]) rfl sc_worse.nd rfl rfl (sw_true rfl rfl rfl (by decide +kernel)) (p_seq (pe_tup (pa_cons (pv 0) (pa_cons (pv 1) pa_nil)))) (blkOk_by (own := [("_law_term", 4)]) (N := N_worse) (sc := defScope s_worse) (by decide +kernel)) (fun _ _ _ _ _ => (pg_name (i := 4) sc_worse.nd rfl (by first | exact Or.inl rfl | exact Or.inr rfl))) (fun _ _ _ _ _ => (pts_one (pt_cmpR p_notN (pv 4) pe_non (nomark _)))) (fun _ _ _ _ _ => (pe_op p_mul (pv 2) (pv 4))))
    (pss_one (ps_ret (pe_ifExp (pt_cmpR (p_eq hr) (pv 3) (pe_lst pa_nil) (nomark _)) pe_non (pe_op p_mul (pv 2) (pe_callB (p_minL rfl) rfl T.z_min (by decide +kernel) (pa_cons (pv 3) pa_nil)))))))
theorem der_least {P : Program} {w : World} {c : Cs} {mg : Str → Option Value} {base : Heap} {f : Addr} {cdv : Value} {A : Around} {outer : List Env} {s : Shared} {H : Hp} {Ex : XK} (T : Tx mg c) (h_worse : H_worse P w mg base c)
    (hr : Room 3 (A.deeper (envOfC "_law_least" (defScope s_least) s.heap.objs.size f cdv))) :
    PSs (cxOf CX0 P w c.K mg base N_least "_law_least" (defScope s_least) f cdv A outer s H Ex).nox (defBody s_least) (t_least c) :=
  (pss_cons (ps_setLc (i := 2) (own := [("_law_x", 3), ("_law_y", 4)]) rfl sc_least.nd rfl rfl (sw_true rfl rfl rfl (by decide +kernel)) (p_zip rfl T.z_zip (pa_cons (pe_ix ix_seq (pv 0) pe_int (fun _ _ => rfl)) (pa_cons (pe_ix ix_seq (pv 1) pe_int (fun _ _ => rfl)) pa_nil))) (blkOk_by (own := [("_law_x", 3), ("_law_y", 4)]) (N := N_least) (sc := defScope s_least) (by decide +kernel)) (fun _ _ _ _ _ => (pg_tup rfl (pgs_cons (pg_name (i := 3) sc_least.nd rfl (by first | exact Or.inl rfl | exact Or.inr rfl)) (pgs_cons (pg_name (i := 4) sc_least.nd rfl (by first | exact Or.inl rfl | exact Or.inr rfl)) pgs_nil)))) (fun _ _ _ _ _ => pts_nil) (fun _ _ _ _ _ => (p_call h_worse (hr.mono (by decide)) (fun z => nomatch z) rfl (pa_cons (pv 3) (pa_cons (pv 4) (pa_cons (pe_un p_neg pe_int) pa_nil))))))
    (pss_one (ps_ret (pe_tup (pa_cons (p_call h_worse (hr.mono (by decide)) (fun z => nomatch z) rfl (pa_cons (pe_ix ix_seq (pv 0) pe_int (fun _ _ => rfl)) (pa_cons (pe_ix ix_seq (pv 1) pe_int (fun _ _ => rfl)) (pa_cons pe_int pa_nil)))) (pa_cons (pe_callTy p_tuple rfl T.z_tuple (by decide +kernel) (pa_cons (pv 2) pa_nil)) pa_nil))))))
theorem der_below {P : Program} {w : World} {c : Cs} {mg : Str → Option Value} {base : Heap} {f : Addr} {cdv : Value} {A : Around} {outer : List Env} {s : Shared} {H : Hp} {Ex : XK} (T : Tx mg c)
    (hr : Room 1 (A.deeper (envOfC "_law_is_below" (defScope s_below) s.heap.objs.size f cdv))) :
    PSs (cxOf CX0 P w c.K mg base N_below "_law_is_below" (defScope s_below) f cdv A outer s H Ex).nox (defBody s_below) (t_below c) :=
  (pss_cons (ps_for PassesOwn.never rfl (p_seq (pe_op p_add (pe_lst (pa_cons (pe_tup (pa_cons (pe_ix ix_seq (pv 0) pe_int (fun _ _ => rfl)) (pa_cons (pe_ix ix_seq (pv 1) pe_int (fun _ _ => rfl)) (pa_cons pe_int pa_nil)))) pa_nil)) (pe_lc (own := [("_law_x", 2), ("_law_y", 3)]) rfl sc_below.nd (p_zip rfl T.z_zip (pa_cons (pe_ix ix_seq (pv 0) pe_int (fun _ _ => rfl)) (pa_cons (pe_ix ix_seq (pv 1) pe_int (fun _ _ => rfl)) pa_nil))) (blkOk_by (own := [("_law_x", 2), ("_law_y", 3)]) (N := N_below) (sc := defScope s_below) (by decide +kernel)) (fun _ _ _ _ _ => (pg_tup rfl (pgs_cons (pg_name (i := 2) sc_below.nd rfl (by first | exact Or.inl rfl | exact Or.inr rfl)) (pgs_cons (pg_name (i := 3) sc_below.nd rfl (by first | exact Or.inl rfl | exact Or.inr rfl)) pgs_nil)))) (fun _ _ _ _ _ => pts_nil) (fun _ _ _ _ _ => (pe_tup (pa_cons (pv 2) (pa_cons (pv 3) (pa_cons (pe_un p_neg pe_int) pa_nil)))))))) (pg_tup rfl (pgs_cons (pg_name (i := 2) sc_below.nd rfl (by first | exact Or.inl rfl | exact Or.inr rfl)) (pgs_cons (pg_name (i := 3) sc_below.nd rfl (by first | exact Or.inl rfl | exact Or.inr rfl)) (pgs_cons (pg_name (i := 4) sc_below.nd rfl (by first | exact Or.inl rfl | exact Or.inr rfl)) pgs_nil)))) (pss_one (ps_if (PW.pt (pw_and (pt_cmpR p_notN (pv 3) pe_non (nomark _)) (pw_and1 (PW.pt (pw_or (pt_cmpR p_isN (pv 2) pe_non (nomark _)) (pw_or1 (pt_cmpR p_gt (pe_op p_mul (pv 4) (pv 2)) (pe_op p_mul (pv 4) (pv 3)) (nomark _)))))))) (pss_one (ps_ret pe_bl)) pss_nil)))
    (pss_one (ps_ret pe_bl)))
theorem der_near {P : Program} {w : World} {c : Cs} {mg : Str → Option Value} {base : Heap} {f : Addr} {cdv : Value} {A : Around} {outer : List Env} {s : Shared} {H : Hp} {Ex : XK} (T : Tx mg c) (h_take : H_take P w mg base c) (h_pick : H_pick P w mg base c)
    (hr : Room 5 (A.deeper (envOfC "_law_near" (defScope s_near) s.heap.objs.size f cdv))) :
    PSs (cxOf CX0 P w c.K mg base N_near "_law_near" (defScope s_near) f cdv A outer s H Ex).nox (defBody s_near) (t_near c) :=
  (pss_cons (ps_asg (pv 1) (pg_tup rfl (pgs_cons (pg_name (i := 2) sc_near.nd rfl (by first | exact Or.inl rfl | exact Or.inr rfl)) (pgs_cons (pg_name (i := 3) sc_near.nd rfl (by first | exact Or.inl rfl | exact Or.inr rfl)) pgs_nil))))
    (pss_cons (ps_set (i := 4) sc_near.nd rfl (by first | exact Or.inl rfl | exact Or.inr rfl) (p_call h_take (hr.mono (by decide)) (fun z => nomatch z) rfl (pa_cons (pv 0) (pa_cons (pe_op p_add (pe_callB p_len rfl T.z_len (by decide +kernel) (pa_cons (pv 3) pa_nil)) pe_int) pa_nil))))
    (pss_cons (ps_if (pt_cmpR (p_eq hr) (pv 4) pe_int (nomark _)) (pss_cons (ps_set (i := 5) sc_near.nd rfl (by first | exact Or.inl rfl | exact Or.inr rfl) (pe_ifExp (pt_cmpR p_isN (pv 2) pe_non (nomark _)) (pe_un p_neg pe_int) (pe_callB (p_max2 rfl) rfl T.z_max (by decide +kernel) (pa_cons (pe_un p_neg pe_int) (pa_cons (pe_op p_sub (pv 2) pe_int) pa_nil)))))
    (pss_one (ps_set (i := 2) sc_near.nd rfl (by first | exact Or.inl rfl | exact Or.inr rfl) (p_call h_pick (hr.mono (by decide)) (fun z => nomatch z) rfl (pa_cons (pv 0) (pa_cons (pe_lst (pa_cons (pv 2) (pa_cons pe_non (pa_cons pe_int (pa_cons (pv 5) pa_nil))))) pa_nil)))))) (pss_cons (ps_set (i := 6) sc_near.nd rfl (by first | exact Or.inl rfl | exact Or.inr rfl) (pe_ifExp (pt_cmpR p_isN (pe_ix ix_seq (pv 3) (pe_op p_sub (pv 4) pe_int) (fun _ _ => rfl)) pe_non (nomark _)) pe_int (pe_callB (p_min2 rfl) rfl T.z_min (by decide +kernel) (pa_cons pe_int (pa_cons (pe_op p_add (pe_ix ix_seq (pv 3) (pe_op p_sub (pv 4) pe_int) (fun _ _ => rfl)) pe_int) pa_nil)))))
    (pss_one (ps_set (i := 3) sc_near.nd rfl (by first | exact Or.inl rfl | exact Or.inr rfl) (pe_op p_add (pe_op p_add (pe_slice p_sl (pv 3) po_none (po_some (pe_op p_sub (pv 4) pe_int))) (pe_tup (pa_cons (p_call h_pick (hr.mono (by decide)) (fun z => nomatch z) rfl (pa_cons (pv 0) (pa_cons (pe_lst (pa_cons pe_non (pa_cons pe_int (pa_cons (pv 6) pa_nil)))) pa_nil))) pa_nil))) (pe_slice p_sl (pv 3) (po_some (pv 4)) po_none))))))
    (pss_cons (ps_if (PW.pt (pw_and (pt_cmpR p_isN (pv 2) pe_non (nomark _)) (pw_and1 (pt_cmpR (p_eq hr) (pe_lc (own := [("_law_one", 7)]) rfl sc_near.nd (p_seq (pv 3)) (blkOk_by (own := [("_law_one", 7)]) (N := N_near) (sc := defScope s_near) (by decide +kernel)) (fun _ _ _ _ _ => (pg_name (i := 7) sc_near.nd rfl (by first | exact Or.inl rfl | exact Or.inr rfl))) (fun _ _ _ _ _ => (pts_one (pt_cmpR p_notN (pv 7) pe_non (nomark _)))) (fun _ _ _ _ _ => (pv 7))) (pe_lst pa_nil) (nomark _))))) (pss_one (ps_set (i := 2) sc_near.nd rfl (by first | exact Or.inl rfl | exact Or.inr rfl) pe_int)) pss_nil)
    (pss_one (ps_ret (pe_tup (pa_cons (pv 2) (pa_cons (pv 3) pa_nil)))))))))
theorem der_pair {P : Program} {w : World} {c : Cs} {mg : Str → Option Value} {base : Heap} {f : Addr} {cdv : Value} {A : Around} {outer : List Env} {s : Shared} {H : Hp} {Ex : XK} (T : Tx mg c) (h_lr_init : H_lr_init P w mg base c) (h_alike : H_alike P w mg base c) (h_parts : H_parts P w mg base c) (h_lr_and : H_lr_and P w mg base c) (h_least : H_least P w mg base c) (h_lr_eq : H_lr_eq P w mg base c) (h_lr_below : H_lr_below P w mg base c) (h_below : H_below P w mg base c) (h_pick : H_pick P w mg base c) (h_take : H_take P w mg base c) (h_lr_sub : H_lr_sub P w mg base c) (h_less : H_less P w mg base c) (h_lr_call : H_lr_call P w mg base c) (h_bound : H_bound P w mg base c) (h_lr_repr : H_lr_repr P w mg base c)
    (hr : Room 5 (A.deeper (envOfC "_law_pair_right" (defScope s_pair) s.heap.objs.size f cdv))) (hg : (A.deeper (envOfC "_law_pair_right" (defScope s_pair) s.heap.objs.size f cdv)).guards = some []) :
    PSs (cxOf CX0 P w c.K mg base N_pair "_law_pair_right" (defScope s_pair) f cdv A outer s H Ex).nox (defBody s_pair) (t_pair c) :=
  (pss_cons (ps_set (i := 3) sc_pair.nd rfl (by first | exact Or.inl rfl | exact Or.inr rfl) (pe_callTy p_listO rfl T.z_list (by decide +kernel) (pa_cons (pe_ix ix_seq (pv 2) pe_int (fun _ _ => rfl)) pa_nil)))
    (pss_cons (ps_par rfl sc_pair.nd rfl rfl (by decide) rfl rfl (pa_cons (p_make h_lr_init (hr.mono (by decide)) rfl T.m_LifeRow (pa_cons (pe_ix ix_seq (pv 1) pe_int (fun _ _ => rfl)) (pa_cons (pe_ix ix_seq (pv 1) pe_int (fun _ _ => rfl)) pa_nil))) (pa_cons (p_make h_lr_init (hr.mono (by decide)) rfl T.m_LifeRow (pa_cons (pe_ix ix_seq (pv 2) pe_int (fun _ _ => rfl)) (pa_cons (pv 3) pa_nil))) pa_nil)) rfl)
    (pss_cons (ps_expr (pe_bm PySem.F.plainAttrs_list PySem.F.slot_list_append PySem.F.type_list_append mt_append (pv 3) (pa_cons pe_int pa_nil)))
    (pss_cons (ps_if (pt_not (pt_val (p_call h_alike (hr.mono (by decide)) (fun z => nomatch z) rfl (pa_cons (p_call h_parts (hr.mono (by decide)) (fun z => nomatch z) rfl (pa_cons (pe_op (p_opSame h_lr_and (hr.mono (by decide)) T.o_LifeRow.sf (by decide +kernel)) (pv 4) (pv 5)) pa_nil)) (pa_cons (p_call h_least (hr.mono (by decide)) (fun z => nomatch z) rfl (pa_cons (pv 1) (pa_cons (pv 2) pa_nil))) pa_nil))))) (pss_one (ps_ret pe_bl)) pss_nil)
    (pss_cons (ps_if (pt_not (pt_val (p_call h_alike (hr.mono (by decide)) (fun z => nomatch z) rfl (pa_cons (pe_lst (pa_cons (pe_cmpR (p_ownEq h_lr_eq (hr.mono (by decide))) (pv 4) (pv 5) (nomark _)) (pa_cons (pe_cmpR (p_ownNe h_lr_eq (hr.mono (by decide)) T.o_LifeRow) (pv 4) (pv 5) (nomark _)) pa_nil))) (pa_cons (pe_lst (pa_cons (pe_cmpR (p_eq hr) (pv 1) (pv 2) (nomark _)) (pa_cons (pe_cmpR (p_ne hr) (pv 1) (pv 2) (nomark _)) pa_nil))) pa_nil))))) (pss_one (ps_ret pe_bl)) pss_nil)
    (pss_cons (ps_if (pt_not (pt_val (p_call h_alike (hr.mono (by decide)) (fun z => nomatch z) rfl (pa_cons (pe_lst (pa_cons (p_meth (pv 4) T.o_LifeRow.cls h_lr_below (hr.mono (by decide)) (fun z => nomatch z) (pa_cons (pv 5) pa_nil)) (pa_cons (p_meth (pv 5) T.o_LifeRow.cls h_lr_below (hr.mono (by decide)) (fun z => nomatch z) (pa_cons (pv 4) pa_nil)) pa_nil))) (pa_cons (pe_lst (pa_cons (p_call h_below (hr.mono (by decide)) (fun z => nomatch z) rfl (pa_cons (pv 1) (pa_cons (pv 2) pa_nil))) (pa_cons (p_call h_below (hr.mono (by decide)) (fun z => nomatch z) rfl (pa_cons (pv 2) (pa_cons (pv 1) pa_nil))) pa_nil))) pa_nil))))) (pss_one (ps_ret pe_bl)) pss_nil)
    (pss_cons (ps_set (i := 6) sc_pair.nd rfl (by first | exact Or.inl rfl | exact Or.inr rfl) (p_call h_pick (hr.mono (by decide)) (fun z => nomatch z) rfl (pa_cons (pv 0) (pa_cons (pe_lst (pa_cons pe_int (pa_cons pe_int (pa_cons pe_int (pa_cons pe_int (pa_cons pe_int (pa_cons pe_int (pa_cons pe_int (pa_cons (pe_op p_pow pe_int pe_int) (pa_cons (p_call h_take (hr.mono (by decide)) (fun z => nomatch z) rfl (pa_cons (pv 0) (pa_cons pe_int pa_nil))) pa_nil)))))))))) pa_nil))))
    (pss_cons (ps_if (pt_not (pt_val (p_call h_alike (hr.mono (by decide)) (fun z => nomatch z) rfl (pa_cons (p_call h_parts (hr.mono (by decide)) (fun z => nomatch z) rfl (pa_cons (pe_op (p_opInt h_lr_sub (hr.mono (by decide)) T.o_LifeRow.sf T.n_LifeRow__rsub__ (by decide +kernel) (by decide +kernel) (by decide +kernel) (by decide +kernel)) (pv 4) (pv 6)) pa_nil)) (pa_cons (p_call h_less (hr.mono (by decide)) (fun z => nomatch z) rfl (pa_cons (pv 1) (pa_cons (pv 6) pa_nil))) pa_nil))))) (pss_one (ps_ret pe_bl)) pss_nil)
    (pss_cons (ps_set (i := 7) sc_pair.nd rfl (by first | exact Or.inl rfl | exact Or.inr rfl) (pe_callTy p_tuple rfl T.z_tuple (by decide +kernel) (pa_cons (pe_lc (own := [("_law_term", 8)]) rfl sc_pair.nd (p_seq (pe_ix ix_seq (pv 1) pe_int (fun _ _ => rfl))) (blkOk_by (own := [("_law_term", 8)]) (N := N_pair) (sc := defScope s_pair) (by decide +kernel)) (fun _ _ _ _ _ => (pg_name (i := 8) sc_pair.nd rfl (by first | exact Or.inl rfl | exact Or.inr rfl))) (fun _ _ _ _ _ => pts_nil) (fun _ _ _ _ _ => (p_call h_pick (hr.mono (by decide)) (fun z => nomatch z) rfl (pa_cons (pv 0) (pa_cons (pe_lst (pa_cons (pe_un p_neg pe_int) (pa_cons pe_int (pa_cons pe_int (pa_cons (pe_op p_sub (p_call h_take (hr.mono (by decide)) (fun z => nomatch z) rfl (pa_cons (pv 0) (pa_cons pe_int pa_nil))) pe_int) pa_nil))))) pa_nil))))) pa_nil)))
    (pss_cons (ps_if (pt_not (pt_val (p_call h_alike (hr.mono (by decide)) (fun z => nomatch z) rfl (pa_cons (pe_lst (pa_cons (p_callO (pv 4) h_lr_call (hr.mono (by decide)) (pa_cons (pv 7) pa_nil)) (pa_cons (p_callO (pv 5) h_lr_call (hr.mono (by decide)) (pa_cons (pv 7) pa_nil)) pa_nil))) (pa_cons (pe_lst (pa_cons (p_call h_bound (hr.mono (by decide)) (fun z => nomatch z) rfl (pa_cons (pv 1) (pa_cons (pv 7) pa_nil))) (pa_cons (p_call h_bound (hr.mono (by decide)) (fun z => nomatch z) rfl (pa_cons (pv 2) (pa_cons (pv 7) pa_nil))) pa_nil))) pa_nil))))) (pss_one (ps_ret pe_bl)) pss_nil)
    (pss_cons (ps_if (pt_cmpR (p_ne hr) (pe_callB (p_repr h_lr_repr (hr.mono (by decide)) hg) rfl T.z_repr (by decide +kernel) (pa_cons (pv 4) pa_nil)) (pe_op p_add (pe_op p_add (pe_op p_add (pe_op p_add pe_str (pe_callB (p_repr h_lr_repr (hr.mono (by decide)) hg) rfl T.z_repr (by decide +kernel) (pa_cons (pe_ix ix_seq (pv 1) pe_int (fun _ _ => rfl)) pa_nil))) pe_str) (pe_callB (p_repr h_lr_repr (hr.mono (by decide)) hg) rfl T.z_repr (by decide +kernel) (pa_cons (pe_ix ix_seq (pv 1) pe_int (fun _ _ => rfl)) pa_nil))) pe_str) (nomark _)) (pss_one (ps_ret pe_bl)) pss_nil)
    (pss_cons (ps_for PassesOwn.never rfl (p_seq (pe_tup (pa_cons (pe_callB (p_repr h_lr_repr (hr.mono (by decide)) hg) rfl T.z_repr (by decide +kernel) (pa_cons (pv 4) pa_nil)) (pa_cons (pv 1) (pa_cons pe_non (pa_cons pe_int pa_nil)))))) (pg_name (i := 9) sc_pair.nd rfl (by first | exact Or.inl rfl | exact Or.inr rfl)) (pss_one (ps_if (PW.pt (pw_or (pt_cmpR (p_ownEq h_lr_eq (hr.mono (by decide))) (pv 4) (pv 9) (nomark _)) (pw_or1 (pt_not (pt_cmpR (p_ownNe h_lr_eq (hr.mono (by decide)) T.o_LifeRow) (pv 4) (pv 9) (nomark _)))))) (pss_one (ps_ret pe_bl)) pss_nil)))
    (pss_one (ps_ret (p_call h_alike (hr.mono (by decide)) (fun z => nomatch z) rfl (pa_cons (pe_lst (pa_cons (p_call h_parts (hr.mono (by decide)) (fun z => nomatch z) rfl (pa_cons (pv 4) pa_nil)) (pa_cons (p_call h_parts (hr.mono (by decide)) (fun z => nomatch z) rfl (pa_cons (pv 5) pa_nil)) pa_nil))) (pa_cons (pe_lst (pa_cons (pv 1) (pa_cons (pv 2) pa_nil))) pa_nil)))))))))))))))))
theorem der_law {P : Program} {w : World} {c : Cs} {mg : Str → Option Value} {base : Heap} {f : Addr} {cdv : Value} {A : Around} {outer : List Env} {s : Shared} {H : Hp} {Ex : XK} (T : Tx mg c) (h_box : H_box P w mg base c) (h_take : H_take P w mg base c) (h_row : H_row P w mg base c) (h_near : H_near P w mg base c) (h_pair : H_pair P w mg base c)
    (hr : Room 7 (A.deeper (envOfC "law" (defScope s_law) s.heap.objs.size f cdv))) (hg : (A.deeper (envOfC "law" (defScope s_law) s.heap.objs.size f cdv)).guards = some []) :
    PSs (cxOf CX0 P w c.K mg base N_law "law" (defScope s_law) f cdv A outer s H Ex).nox (defBody s_law) (t_law c) :=
  (pss_cons (ps_for PassesOwn.never rfl (pi_range1 rfl T.z_range (pa_cons (pe_callB (p_max2 rfl) rfl T.z_max (by decide +kernel) (pa_cons pe_int (pa_cons (pe_callB (p_min2 rfl) rfl T.z_min (by decide +kernel) (pa_cons pe_int (pa_cons (pe_callB p_len rfl T.z_len (by decide +kernel) (pa_cons (pv 0) pa_nil)) pa_nil))) pa_nil))) pa_nil)) (pg_name (i := 1) sc_law.nd rfl (by first | exact Or.inl rfl | exact Or.inr rfl)) (pss_cons (ps_set (i := 2) sc_law.nd rfl (by first | exact Or.inl rfl | exact Or.inr rfl) (p_call h_box (hr.mono (by decide)) (fun z => nomatch z) rfl (pa_cons (pv 0) (pa_cons (pv 1) pa_nil))))
    (pss_cons (ps_set (i := 3) sc_law.nd rfl (by first | exact Or.inl rfl | exact Or.inr rfl) (p_call h_take (hr.mono (by decide)) (fun z => nomatch z) rfl (pa_cons (pv 2) (pa_cons pe_int pa_nil))))
    (pss_cons (ps_setLc (i := 4) (own := [("_law_turn", 7)]) rfl sc_law.nd rfl rfl (sw_true rfl rfl rfl (by decide +kernel)) (pi_range1 rfl T.z_range (pa_cons pe_int pa_nil)) (blkOk_by (own := [("_law_turn", 7)]) (N := N_law) (sc := defScope s_law) (by decide +kernel)) (fun _ _ _ _ _ => (pg_name (i := 7) sc_law.nd rfl (by first | exact Or.inl rfl | exact Or.inr rfl))) (fun _ _ _ _ _ => pts_nil) (fun _ _ _ _ _ => (p_call h_row (hr.mono (by decide)) (fun z => nomatch z) rfl (pa_cons (pv 2) (pa_cons (pv 3) pa_nil)))))
    (pss_cons (ps_expr (pe_bm PySem.F.plainAttrs_list PySem.F.slot_list_append PySem.F.type_list_append mt_append (pv 4) (pa_cons (p_call h_near (hr.mono (by decide)) (fun z => nomatch z) rfl (pa_cons (pv 2) (pa_cons (pe_ix ix_seq (pv 4) pe_int (fun _ _ => rfl)) pa_nil))) pa_nil)))
    (pss_one (ps_for PassesOwn.never rfl (p_seq (pv 4)) (pg_name (i := 5) sc_law.nd rfl (by first | exact Or.inl rfl | exact Or.inr rfl)) (pss_one (ps_for PassesOwn.never rfl (p_seq (pe_op p_add (pv 4) (pe_lst (pa_cons (p_call h_near (hr.mono (by decide)) (fun z => nomatch z) rfl (pa_cons (pv 2) (pa_cons (pv 5) pa_nil))) pa_nil)))) (pg_name (i := 6) sc_law.nd rfl (by first | exact Or.inl rfl | exact Or.inr rfl)) (pss_one (ps_if (pt_not (pt_val (p_call h_pair (hr.mono (by decide)) (fun _ => hg) rfl (pa_cons (pv 2) (pa_cons (pv 5) (pa_cons (pv 6) pa_nil)))))) (pss_one (ps_ret pe_bl)) pss_nil)))))))))))
    (pss_one (ps_ret pe_bl)))
end K26

set_option maxHeartbeats 4000000
namespace K26
open PySem PySem.Spec PyProof.Rows L2 DL
set_option hygiene false in
local macro_rules | `(tactic| walk_at "dl") => `(tactic| repeat (first
   | with_reducible refine x_seq ?_
   | with_reducible refine x_asg ?_
   | with_reducible refine x_ret ?_
   | with_reducible refine x_drop ?_
   | with_reducible refine x_ifS ?_
   | with_reducible refine x_op ?_
   | with_reducible refine x_un ?_
   | with_reducible refine x_cons ?_
   | with_reducible refine x_nil ?_
   | with_reducible refine x_cb ?_
   | with_reducible refine x_call ?_
   | with_reducible refine x_test ?_
   | with_reducible refine x_tB ?_
   | with_reducible refine x_tup ?_
   | with_reducible refine x_lst ?_
   | with_reducible refine x_lstO ?_
   | with_reducible refine x_if ?_
   | with_reducible refine x_and ?_
   | with_reducible refine x_or ?_
   | with_reducible refine x_not ?_
   | with_reducible refine x_yes ?_
   | with_reducible refine x_andV ?_
   | with_reducible refine x_orV ?_
   | with_reducible refine x_notV ?_
   | with_reducible refine x_fld ?_
   | with_reducible refine x_prop ?_
   | with_reducible refine x_meth ?_
   | with_reducible refine x_callI ?_
   | with_reducible refine x_make ?_
   | with_reducible refine x_sl ?_
   | with_reducible refine x_part ?_
   | with_reducible refine x_nopart ?_
   | with_reducible refine x_met ?_
   | with_reducible refine x_met0 ?_
   | with_reducible refine x_next ?_
   | with_reducible refine x_fmt ?_
   | with_reducible refine x_join ?_
   | with_reducible refine x_jcons ?_
   | with_reducible refine x_jnil ?_
   | with_reducible refine x_seqI ?_
   | with_reducible refine x_rng1 ?_
   | with_reducible refine x_rng2 ?_
   | with_reducible refine x_zip ?_
   | with_reducible refine x_listZip ?_
   | with_reducible refine x_lc ?_
   | with_reducible refine x_lcO ?_
   | with_reducible refine x_gsub ?_
   | with_reducible refine x_gcons ?_
   | with_reducible refine x_par ?_
   | with_reducible refine x_sfld ?_
   | with_reducible refine x_forS ?_
   | with_reducible refine x_arg ?_
   | with_reducible refine x_retN ?_
   | with_reducible refine x_brk ?_
   | with_reducible refine x_cont ?_
   | ((with_reducible refine x_var (d := ?_) fo ?_ ?_); rotate_left; rfl; clear fo; intro _ fo)
   | ((with_reducible refine x_c fo ?_); clear fo; intro fo)
   | ((with_reducible refine x_addI fo ?_); clear fo; intro fo)
   | ((with_reducible refine x_subI fo ?_); clear fo; intro fo)
   | ((with_reducible refine x_negI fo ?_); clear fo; intro fo)
   | ((with_reducible refine x_isN fo ?_); clear fo; intro fo)
   | ((with_reducible refine x_notN fo ?_); clear fo; intro fo)
   | ((with_reducible refine x_ltI fo ?_); clear fo; intro fo)
   | ((with_reducible refine x_leI fo ?_); clear fo; intro fo)
   | ((with_reducible refine x_gtI fo ?_); clear fo; intro fo)
   | ((with_reducible refine x_geI fo ?_); clear fo; intro fo)
   | ((with_reducible refine x_eqI fo ?_); clear fo; intro fo)
   | ((with_reducible refine x_neI fo ?_); clear fo; intro fo)
   | ((with_reducible refine x_max2 fo ?_); clear fo; intro fo)
   | ((with_reducible refine x_min2 fo ?_); clear fo; intro fo)
   | ((with_reducible refine x_intB fo ?_); clear fo; intro fo)
   | ((with_reducible refine x_intI fo ?_); clear fo; intro fo)
   | ((with_reducible refine x_lenT fo ?_); clear fo; intro fo)
   | ((with_reducible refine x_bool fo ?_); clear fo; intro fo)
   | ((with_reducible refine x_kPart fo ?_); clear fo; intro fo)
   | ((with_reducible refine x_kNotV fo ?_); clear fo; intro fo)
   | ((with_reducible refine x_kNe fo ?_); clear fo; intro fo)
   | ((with_reducible refine x_kStr fo ?_); clear fo; intro fo)
   | ((with_reducible refine is_Len ?_); (refine x_lenL fo (Or.inl rfl) ?_); clear fo; intro fo)
   | ((with_reducible refine x_mulI fo ?_ ?_); (unfold CMul; omega); clear fo; intro fo)
   | ((with_reducible refine x_modI fo ?_ ?_); omega; clear fo; intro fo)
   | ((with_reducible refine x_fdivI fo ?_ ?_); (constructor <;> omega); clear fo; intro fo)
   | ((with_reducible refine x_powI fo ?_ ?_); exact ⟨by decide, by decide, by decide⟩; clear fo; intro fo)
   | ((with_reducible refine is_Tup ?_); (first | (with_reducible refine x_mkTup fo (.cons (.cons .nil)) ?_ ?_) | (with_reducible refine x_mkTup fo (.cons .nil) ?_ ?_) | (with_reducible refine x_mkTup fo (.cons (.cons (.cons .nil))) ?_ ?_) | (with_reducible refine x_mkTup fo .nil ?_ ?_) | (with_reducible refine x_mkTup fo (.cons (.cons (.cons (.cons .nil)))) ?_ ?_) | (with_reducible refine x_mkTup fo (.cons (.cons (.cons (.cons (.cons .nil))))) ?_ ?_) | (with_reducible refine x_mkTup fo (.cons (.cons (.cons (.cons (.cons (.cons .nil)))))) ?_ ?_) | (with_reducible refine x_mkTup fo (.cons (.cons (.cons (.cons (.cons (.cons (.cons (.cons (.cons .nil))))))))) ?_ ?_)); exact Nat.le_of_ble_eq_true rfl; clear fo; intro _ F H fo)
   | ((with_reducible refine is_Lst ?_); (first | (with_reducible refine x_mkLst fo (.cons (.cons .nil)) ?_ ?_) | (with_reducible refine x_mkLst fo (.cons .nil) ?_ ?_) | (with_reducible refine x_mkLst fo (.cons (.cons (.cons .nil))) ?_ ?_) | (with_reducible refine x_mkLst fo .nil ?_ ?_) | (with_reducible refine x_mkLst fo (.cons (.cons (.cons (.cons .nil)))) ?_ ?_) | (with_reducible refine x_mkLst fo (.cons (.cons (.cons (.cons (.cons .nil))))) ?_ ?_) | (with_reducible refine x_mkLst fo (.cons (.cons (.cons (.cons (.cons (.cons .nil)))))) ?_ ?_) | (with_reducible refine x_mkLst fo (.cons (.cons (.cons (.cons (.cons (.cons (.cons (.cons (.cons .nil))))))))) ?_ ?_)); exact Nat.le_of_ble_eq_true rfl; clear fo; intro _ F H fo)
   | ((with_reducible refine is_LstO ?_); (first | (with_reducible refine x_mkLstO fo (.cons (.cons .nil)) ?_ ?_) | (with_reducible refine x_mkLstO fo (.cons .nil) ?_ ?_) | (with_reducible refine x_mkLstO fo (.cons (.cons (.cons .nil))) ?_ ?_) | (with_reducible refine x_mkLstO fo .nil ?_ ?_) | (with_reducible refine x_mkLstO fo (.cons (.cons (.cons (.cons .nil)))) ?_ ?_) | (with_reducible refine x_mkLstO fo (.cons (.cons (.cons (.cons (.cons .nil))))) ?_ ?_) | (with_reducible refine x_mkLstO fo (.cons (.cons (.cons (.cons (.cons (.cons .nil)))))) ?_ ?_) | (with_reducible refine x_mkLstO fo (.cons (.cons (.cons (.cons (.cons (.cons (.cons (.cons (.cons .nil))))))))) ?_ ?_)); exact Nat.le_of_ble_eq_true rfl; clear fo; intro _ H fo)
   | ((with_reducible refine x_gname fo ?_); clear fo; intro σ fo; try simp only [List.set_cons_zero, List.set_cons_succ] at fo)
   | ((with_reducible refine x_gtup2 fo ?_); clear fo; intro _ _ fo)
   | ((with_reducible refine x_gtup3 fo ?_); clear fo; intro _ _ _ fo)
   | (with_reducible refine x_gnil rfl ?_)
   | refine ite_y (by rfl) ?_
   | refine ite_n (by rfl) ?_))
section
variable {c : Cs} {vs : List V} {H : Hp} {Q : VK} {Ex : XK}
theorem pu_capped (h : sp_capped c vs H Q Ex) : t_capped c { nx := fun _ H' => Q .non H', rt := Q } (L2.start N_capped vs) H := by
  obtain ⟨x, F, _, hl, fo, k⟩ := fo_start (n := 0) (E := ⟨c.K, none, isBox, fun _ => none, fun _ => none⟩) (N := N_capped) h
  replace fo : FO ⟨c.K, none, isBox, F, H⟩ [some (.int x)] [] [] F _ H := fo
  unfold t_capped
  walk_at "dl"
  exact k _ _ _ _ fo.st fo.top rfl
theorem pu_lesser (h : sp_lesser c vs H Q Ex) : t_lesser c { nx := fun _ H' => Q .non H', rt := Q } (L2.start N_lesser vs) H := by
  obtain ⟨⟨a, b⟩, F, _, hl, fo, k⟩ := fo_start (n := 0) (E := ⟨c.K, none, isBox, fun _ => none, fun _ => none⟩) (N := N_lesser) h
  replace fo : FO ⟨c.K, none, isBox, F, H⟩ [some (oD a), some (oD b)] [] [] F _ H := fo
  unfold t_lesser
  cases a <;> cases b
  · walk_at "dl"
    exact k _ _ _ _ fo.st fo.top rfl
  · walk_at "dl"
    exact k _ _ _ _ fo.st fo.top rfl
  · walk_at "dl"
    exact k _ _ _ _ fo.st fo.top rfl
  · walk_at "dl"
    exact k _ _ _ _ fo.st fo.top rfl
theorem pu_greater (h : sp_greater c vs H Q Ex) : t_greater c { nx := fun _ H' => Q .non H', rt := Q } (L2.start N_greater vs) H := by
  obtain ⟨⟨a, b⟩, F, _, hl, fo, k⟩ := fo_start (n := 0) (E := ⟨c.K, none, isBox, fun _ => none, fun _ => none⟩) (N := N_greater) h
  replace fo : FO ⟨c.K, none, isBox, F, H⟩ [some (oD a), some (oD b)] [] [] F _ H := fo
  unfold t_greater
  cases a <;> cases b
  · walk_at "dl"
    exact k _ _ _ _ fo.st fo.top rfl
  · walk_at "dl"
    exact k _ _ _ _ fo.st fo.top rfl
  · walk_at "dl"
    exact k _ _ _ _ fo.st fo.top rfl
  · walk_at "dl"
    exact k _ _ _ _ fo.st fo.top rfl
end
end K26


set_option maxHeartbeats 4000000
namespace K26
open PySem PySem.Spec PyProof.Rows L2 DL
set_option hygiene false in
local macro_rules | `(tactic| walk_at "dl") => `(tactic| repeat (first
   | with_reducible refine x_seq ?_
   | with_reducible refine x_asg ?_
   | with_reducible refine x_ret ?_
   | with_reducible refine x_drop ?_
   | with_reducible refine x_ifS ?_
   | with_reducible refine x_op ?_
   | with_reducible refine x_un ?_
   | with_reducible refine x_cons ?_
   | with_reducible refine x_nil ?_
   | with_reducible refine x_cb ?_
   | with_reducible refine x_call ?_
   | with_reducible refine x_test ?_
   | with_reducible refine x_tB ?_
   | with_reducible refine x_tup ?_
   | with_reducible refine x_lst ?_
   | with_reducible refine x_lstO ?_
   | with_reducible refine x_if ?_
   | with_reducible refine x_and ?_
   | with_reducible refine x_or ?_
   | with_reducible refine x_not ?_
   | with_reducible refine x_yes ?_
   | with_reducible refine x_andV ?_
   | with_reducible refine x_orV ?_
   | with_reducible refine x_notV ?_
   | with_reducible refine x_fld ?_
   | with_reducible refine x_prop ?_
   | with_reducible refine x_meth ?_
   | with_reducible refine x_callI ?_
   | with_reducible refine x_make ?_
   | with_reducible refine x_sl ?_
   | with_reducible refine x_part ?_
   | with_reducible refine x_nopart ?_
   | with_reducible refine x_met ?_
   | with_reducible refine x_met0 ?_
   | with_reducible refine x_next ?_
   | with_reducible refine x_fmt ?_
   | with_reducible refine x_join ?_
   | with_reducible refine x_jcons ?_
   | with_reducible refine x_jnil ?_
   | with_reducible refine x_seqI ?_
   | with_reducible refine x_rng1 ?_
   | with_reducible refine x_rng2 ?_
   | with_reducible refine x_zip ?_
   | with_reducible refine x_listZip ?_
   | with_reducible refine x_lc ?_
   | with_reducible refine x_lcO ?_
   | with_reducible refine x_gsub ?_
   | with_reducible refine x_gcons ?_
   | with_reducible refine x_par ?_
   | with_reducible refine x_sfld ?_
   | with_reducible refine x_forS ?_
   | with_reducible refine x_arg ?_
   | with_reducible refine x_retN ?_
   | with_reducible refine x_brk ?_
   | with_reducible refine x_cont ?_
   | ((with_reducible refine x_var (d := ?_) fo ?_ ?_); rotate_left; rfl; clear fo; intro _ fo)
   | ((with_reducible refine x_c fo ?_); clear fo; intro fo)
   | ((with_reducible refine x_addI fo ?_); clear fo; intro fo)
   | ((with_reducible refine x_subI fo ?_); clear fo; intro fo)
   | ((with_reducible refine x_negI fo ?_); clear fo; intro fo)
   | ((with_reducible refine x_isN fo ?_); clear fo; intro fo)
   | ((with_reducible refine x_notN fo ?_); clear fo; intro fo)
   | ((with_reducible refine x_ltI fo ?_); clear fo; intro fo)
   | ((with_reducible refine x_leI fo ?_); clear fo; intro fo)
   | ((with_reducible refine x_gtI fo ?_); clear fo; intro fo)
   | ((with_reducible refine x_geI fo ?_); clear fo; intro fo)
   | ((with_reducible refine x_eqI fo ?_); clear fo; intro fo)
   | ((with_reducible refine x_neI fo ?_); clear fo; intro fo)
   | ((with_reducible refine x_max2 fo ?_); clear fo; intro fo)
   | ((with_reducible refine x_min2 fo ?_); clear fo; intro fo)
   | ((with_reducible refine x_intB fo ?_); clear fo; intro fo)
   | ((with_reducible refine x_intI fo ?_); clear fo; intro fo)
   | ((with_reducible refine x_lenT fo ?_); clear fo; intro fo)
   | ((with_reducible refine x_bool fo ?_); clear fo; intro fo)
   | ((with_reducible refine x_kPart fo ?_); clear fo; intro fo)
   | ((with_reducible refine x_kNotV fo ?_); clear fo; intro fo)
   | ((with_reducible refine x_kNe fo ?_); clear fo; intro fo)
   | ((with_reducible refine x_kStr fo ?_); clear fo; intro fo)
   | ((with_reducible refine is_Len ?_); (refine x_lenL fo (Or.inl rfl) ?_); clear fo; intro fo)
   | ((with_reducible refine x_mulI fo ?_ ?_); (unfold CMul; omega); clear fo; intro fo)
   | ((with_reducible refine x_modI fo ?_ ?_); omega; clear fo; intro fo)
   | ((with_reducible refine x_fdivI fo ?_ ?_); (constructor <;> omega); clear fo; intro fo)
   | ((with_reducible refine x_powI fo ?_ ?_); exact ⟨by decide, by decide, by decide⟩; clear fo; intro fo)
   | ((with_reducible refine is_Tup ?_); (first | (with_reducible refine x_mkTup fo (.cons (.cons .nil)) ?_ ?_) | (with_reducible refine x_mkTup fo (.cons .nil) ?_ ?_) | (with_reducible refine x_mkTup fo (.cons (.cons (.cons .nil))) ?_ ?_) | (with_reducible refine x_mkTup fo .nil ?_ ?_) | (with_reducible refine x_mkTup fo (.cons (.cons (.cons (.cons .nil)))) ?_ ?_) | (with_reducible refine x_mkTup fo (.cons (.cons (.cons (.cons (.cons .nil))))) ?_ ?_) | (with_reducible refine x_mkTup fo (.cons (.cons (.cons (.cons (.cons (.cons .nil)))))) ?_ ?_) | (with_reducible refine x_mkTup fo (.cons (.cons (.cons (.cons (.cons (.cons (.cons (.cons (.cons .nil))))))))) ?_ ?_)); exact Nat.le_of_ble_eq_true rfl; clear fo; intro _ F H fo)
   | ((with_reducible refine is_Lst ?_); (first | (with_reducible refine x_mkLst fo (.cons (.cons .nil)) ?_ ?_) | (with_reducible refine x_mkLst fo (.cons .nil) ?_ ?_) | (with_reducible refine x_mkLst fo (.cons (.cons (.cons .nil))) ?_ ?_) | (with_reducible refine x_mkLst fo .nil ?_ ?_) | (with_reducible refine x_mkLst fo (.cons (.cons (.cons (.cons .nil)))) ?_ ?_) | (with_reducible refine x_mkLst fo (.cons (.cons (.cons (.cons (.cons .nil))))) ?_ ?_) | (with_reducible refine x_mkLst fo (.cons (.cons (.cons (.cons (.cons (.cons .nil)))))) ?_ ?_) | (with_reducible refine x_mkLst fo (.cons (.cons (.cons (.cons (.cons (.cons (.cons (.cons (.cons .nil))))))))) ?_ ?_)); exact Nat.le_of_ble_eq_true rfl; clear fo; intro _ F H fo)
   | ((with_reducible refine is_LstO ?_); (first | (with_reducible refine x_mkLstO fo (.cons (.cons .nil)) ?_ ?_) | (with_reducible refine x_mkLstO fo (.cons .nil) ?_ ?_) | (with_reducible refine x_mkLstO fo (.cons (.cons (.cons .nil))) ?_ ?_) | (with_reducible refine x_mkLstO fo .nil ?_ ?_) | (with_reducible refine x_mkLstO fo (.cons (.cons (.cons (.cons .nil)))) ?_ ?_) | (with_reducible refine x_mkLstO fo (.cons (.cons (.cons (.cons (.cons .nil))))) ?_ ?_) | (with_reducible refine x_mkLstO fo (.cons (.cons (.cons (.cons (.cons (.cons .nil)))))) ?_ ?_) | (with_reducible refine x_mkLstO fo (.cons (.cons (.cons (.cons (.cons (.cons (.cons (.cons (.cons .nil))))))))) ?_ ?_)); exact Nat.le_of_ble_eq_true rfl; clear fo; intro _ H fo)
   | ((with_reducible refine x_gname fo ?_); clear fo; intro σ fo; try simp only [List.set_cons_zero, List.set_cons_succ] at fo)
   | ((with_reducible refine x_gtup2 fo ?_); clear fo; intro _ _ fo)
   | ((with_reducible refine x_gtup3 fo ?_); clear fo; intro _ _ _ fo)
   | (with_reducible refine x_gnil rfl ?_)
   | refine ite_y (by rfl) ?_
   | refine ite_n (by rfl) ?_))
section
variable {c : Cs} {vs : List V} {H : Hp} {Q : VK} {Ex : XK}
theorem pu_lr_init (o : OwnC c.K c.LifeRow) (n : NoAttr c.K c.LifeRow "key") (h : sp_lr_init c vs H Q Ex) : t_lr_init c { nx := fun _ H' => Q .non H', rt := Q } (L2.start N_lr_init vs) H := by
  obtain ⟨r, how, F, a, dx, ws, rfl, s1, fa, hA, rl, hl, hat, k⟩ := h
  have h' : spI c.K c.LifeRow (α := Unit) (fun _ => [oD r.1, howD r.2 how]) (fun _ => True) ["key"] (fun _ => [rowD r]) (.ref a :: ws) H Q Ex := ⟨(), F, a, dx, ws, rfl, s1, fa, hA, rl, trivial, k⟩
  clear k s1 fa rl hA
  obtain ⟨z, F, b, dx, _, _, fo, k⟩ := init_start (N := N_lr_init) h'
  have fb : F b = none := fo.bx b rfl
  replace fo : FO ⟨c.K, some b, _, F, H⟩ [some (D.at b), some (oD r.1), some (howD r.2 how)] [] [] F _ H := fo
  unfold t_lr_init
  walk_at "dl"
  refine x_tupleHow fo hat ?_; clear fo hat; intro _ F H fo
  walk_at "dl"
  refine x_kSf (R := fun _ => True) fo o.cls n fb ?_
  exact k
theorem pu_lr_left (o : OwnC c.K c.LifeRow) (n : NoAttr c.K c.LifeRow "key") (h : sp_lr_left c vs H Q Ex) : t_lr_left c { nx := fun _ H' => Q .non H', rt := Q } (L2.start N_lr_left vs) H := by
  obtain ⟨r, F, _, hl, fo, k⟩ := fo_start (n := 0) (E := ⟨c.K, none, isBox, fun _ => none, fun _ => none⟩) (N := N_lr_left) h
  replace fo : FO ⟨c.K, none, isBox, F, H⟩ [some (lrD c.LifeRow r)] [] [] F _ H := fo
  unfold t_lr_left
  walk_at "dl"
  refine x_kFld fo o.cls n ?_; clear fo; intro _ fo
  walk_at "dl"
  refine x_ixT fo (by rfl) ?_; clear fo; intro _ fo
  exact k _ _ _ _ fo.st fo.top rfl
theorem pu_lr_lost (o : OwnC c.K c.LifeRow) (n : NoAttr c.K c.LifeRow "key") (h : sp_lr_lost c vs H Q Ex) : t_lr_lost c { nx := fun _ H' => Q .non H', rt := Q } (L2.start N_lr_lost vs) H := by
  obtain ⟨r, F, _, hl, fo, k⟩ := fo_start (n := 0) (E := ⟨c.K, none, isBox, fun _ => none, fun _ => none⟩) (N := N_lr_lost) h
  replace fo : FO ⟨c.K, none, isBox, F, H⟩ [some (lrD c.LifeRow r)] [] [] F _ H := fo
  unfold t_lr_lost
  walk_at "dl"
  refine x_kFld fo o.cls n ?_; clear fo; intro _ fo
  walk_at "dl"
  refine x_ixT fo (by rfl) ?_; clear fo; intro _ fo
  exact k _ _ _ _ fo.st fo.top rfl
end
end K26


set_option maxHeartbeats 4000000
namespace K26
open PySem PySem.Spec PyProof.Rows L2 DL
set_option hygiene false in
local macro_rules | `(tactic| walk_at "dl") => `(tactic| repeat (first
   | with_reducible refine x_seq ?_
   | with_reducible refine x_asg ?_
   | with_reducible refine x_ret ?_
   | with_reducible refine x_drop ?_
   | with_reducible refine x_ifS ?_
   | with_reducible refine x_op ?_
   | with_reducible refine x_un ?_
   | with_reducible refine x_cons ?_
   | with_reducible refine x_nil ?_
   | with_reducible refine x_cb ?_
   | with_reducible refine x_call ?_
   | with_reducible refine x_test ?_
   | with_reducible refine x_tB ?_
   | with_reducible refine x_tup ?_
   | with_reducible refine x_lst ?_
   | with_reducible refine x_lstO ?_
   | with_reducible refine x_if ?_
   | with_reducible refine x_and ?_
   | with_reducible refine x_or ?_
   | with_reducible refine x_not ?_
   | with_reducible refine x_yes ?_
   | with_reducible refine x_andV ?_
   | with_reducible refine x_orV ?_
   | with_reducible refine x_notV ?_
   | with_reducible refine x_fld ?_
   | with_reducible refine x_prop ?_
   | with_reducible refine x_meth ?_
   | with_reducible refine x_callI ?_
   | with_reducible refine x_make ?_
   | with_reducible refine x_sl ?_
   | with_reducible refine x_part ?_
   | with_reducible refine x_nopart ?_
   | with_reducible refine x_met ?_
   | with_reducible refine x_met0 ?_
   | with_reducible refine x_next ?_
   | with_reducible refine x_fmt ?_
   | with_reducible refine x_join ?_
   | with_reducible refine x_jcons ?_
   | with_reducible refine x_jnil ?_
   | with_reducible refine x_seqI ?_
   | with_reducible refine x_rng1 ?_
   | with_reducible refine x_rng2 ?_
   | with_reducible refine x_zip ?_
   | with_reducible refine x_listZip ?_
   | with_reducible refine x_lc ?_
   | with_reducible refine x_lcO ?_
   | with_reducible refine x_gsub ?_
   | with_reducible refine x_gcons ?_
   | with_reducible refine x_par ?_
   | with_reducible refine x_sfld ?_
   | with_reducible refine x_forS ?_
   | with_reducible refine x_arg ?_
   | with_reducible refine x_retN ?_
   | with_reducible refine x_brk ?_
   | with_reducible refine x_cont ?_
   | ((with_reducible refine x_var (d := ?_) fo ?_ ?_); rotate_left; rfl; clear fo; intro _ fo)
   | ((with_reducible refine x_c fo ?_); clear fo; intro fo)
   | ((with_reducible refine x_addI fo ?_); clear fo; intro fo)
   | ((with_reducible refine x_subI fo ?_); clear fo; intro fo)
   | ((with_reducible refine x_negI fo ?_); clear fo; intro fo)
   | ((with_reducible refine x_isN fo ?_); clear fo; intro fo)
   | ((with_reducible refine x_notN fo ?_); clear fo; intro fo)
   | ((with_reducible refine x_ltI fo ?_); clear fo; intro fo)
   | ((with_reducible refine x_leI fo ?_); clear fo; intro fo)
   | ((with_reducible refine x_gtI fo ?_); clear fo; intro fo)
   | ((with_reducible refine x_geI fo ?_); clear fo; intro fo)
   | ((with_reducible refine x_eqI fo ?_); clear fo; intro fo)
   | ((with_reducible refine x_neI fo ?_); clear fo; intro fo)
   | ((with_reducible refine x_max2 fo ?_); clear fo; intro fo)
   | ((with_reducible refine x_min2 fo ?_); clear fo; intro fo)
   | ((with_reducible refine x_intB fo ?_); clear fo; intro fo)
   | ((with_reducible refine x_intI fo ?_); clear fo; intro fo)
   | ((with_reducible refine x_lenT fo ?_); clear fo; intro fo)
   | ((with_reducible refine x_bool fo ?_); clear fo; intro fo)
   | ((with_reducible refine x_kPart fo ?_); clear fo; intro fo)
   | ((with_reducible refine x_kNotV fo ?_); clear fo; intro fo)
   | ((with_reducible refine x_kNe fo ?_); clear fo; intro fo)
   | ((with_reducible refine x_kStr fo ?_); clear fo; intro fo)
   | ((with_reducible refine is_Len ?_); (refine x_lenL fo (Or.inl rfl) ?_); clear fo; intro fo)
   | ((with_reducible refine x_mulI fo ?_ ?_); (unfold CMul; omega); clear fo; intro fo)
   | ((with_reducible refine x_modI fo ?_ ?_); omega; clear fo; intro fo)
   | ((with_reducible refine x_fdivI fo ?_ ?_); (constructor <;> omega); clear fo; intro fo)
   | ((with_reducible refine x_powI fo ?_ ?_); exact ⟨by decide, by decide, by decide⟩; clear fo; intro fo)
   | ((with_reducible refine is_Tup ?_); (first | (with_reducible refine x_mkTup fo (.cons (.cons .nil)) ?_ ?_) | (with_reducible refine x_mkTup fo (.cons .nil) ?_ ?_) | (with_reducible refine x_mkTup fo (.cons (.cons (.cons .nil))) ?_ ?_) | (with_reducible refine x_mkTup fo .nil ?_ ?_) | (with_reducible refine x_mkTup fo (.cons (.cons (.cons (.cons .nil)))) ?_ ?_) | (with_reducible refine x_mkTup fo (.cons (.cons (.cons (.cons (.cons .nil))))) ?_ ?_) | (with_reducible refine x_mkTup fo (.cons (.cons (.cons (.cons (.cons (.cons .nil)))))) ?_ ?_) | (with_reducible refine x_mkTup fo (.cons (.cons (.cons (.cons (.cons (.cons (.cons (.cons (.cons .nil))))))))) ?_ ?_)); exact Nat.le_of_ble_eq_true rfl; clear fo; intro _ F H fo)
   | ((with_reducible refine is_Lst ?_); (first | (with_reducible refine x_mkLst fo (.cons (.cons .nil)) ?_ ?_) | (with_reducible refine x_mkLst fo (.cons .nil) ?_ ?_) | (with_reducible refine x_mkLst fo (.cons (.cons (.cons .nil))) ?_ ?_) | (with_reducible refine x_mkLst fo .nil ?_ ?_) | (with_reducible refine x_mkLst fo (.cons (.cons (.cons (.cons .nil)))) ?_ ?_) | (with_reducible refine x_mkLst fo (.cons (.cons (.cons (.cons (.cons .nil))))) ?_ ?_) | (with_reducible refine x_mkLst fo (.cons (.cons (.cons (.cons (.cons (.cons .nil)))))) ?_ ?_) | (with_reducible refine x_mkLst fo (.cons (.cons (.cons (.cons (.cons (.cons (.cons (.cons (.cons .nil))))))))) ?_ ?_)); exact Nat.le_of_ble_eq_true rfl; clear fo; intro _ F H fo)
   | ((with_reducible refine is_LstO ?_); (first | (with_reducible refine x_mkLstO fo (.cons (.cons .nil)) ?_ ?_) | (with_reducible refine x_mkLstO fo (.cons .nil) ?_ ?_) | (with_reducible refine x_mkLstO fo (.cons (.cons (.cons .nil))) ?_ ?_) | (with_reducible refine x_mkLstO fo .nil ?_ ?_) | (with_reducible refine x_mkLstO fo (.cons (.cons (.cons (.cons .nil)))) ?_ ?_) | (with_reducible refine x_mkLstO fo (.cons (.cons (.cons (.cons (.cons .nil))))) ?_ ?_) | (with_reducible refine x_mkLstO fo (.cons (.cons (.cons (.cons (.cons (.cons .nil)))))) ?_ ?_) | (with_reducible refine x_mkLstO fo (.cons (.cons (.cons (.cons (.cons (.cons (.cons (.cons (.cons .nil))))))))) ?_ ?_)); exact Nat.le_of_ble_eq_true rfl; clear fo; intro _ H fo)
   | ((with_reducible refine x_gname fo ?_); clear fo; intro σ fo; try simp only [List.set_cons_zero, List.set_cons_succ] at fo)
   | ((with_reducible refine x_gtup2 fo ?_); clear fo; intro _ _ fo)
   | ((with_reducible refine x_gtup3 fo ?_); clear fo; intro _ _ _ fo)
   | (with_reducible refine x_gnil rfl ?_)
   | refine ite_y (by rfl) ?_
   | refine ite_n (by rfl) ?_))
section
variable {c : Cs} {vs : List V} {H : Hp} {Q : VK} {Ex : XK}
theorem pu_lr_sub (o : OwnC c.K c.LifeRow) (n : NoAttr c.K c.LifeRow "key") (h : sp_lr_sub c vs H Q Ex) : t_lr_sub c { nx := fun _ H' => Q .non H', rt := Q } (L2.start N_lr_sub vs) H := by
  obtain ⟨⟨⟨l, os⟩, t⟩, F, hn, hl, fo, k⟩ := fo_start (n := 0) (E := ⟨c.K, none, isBox, fun _ => none, fun _ => none⟩) (N := N_lr_sub) h
  replace fo : FO ⟨c.K, none, isBox, F, H⟩ [some (lrD c.LifeRow (l, os)), some (.int t), none, none, none, none] [] [] F _ H := fo
  replace hn : os.length ≤ 1000 := hn
  unfold t_lr_sub
  walk_at "dl"
  refine x_kFld fo o.cls n ?_; clear fo; intro _ fo
  simp only [rowD] at fo
  walk_at "dl"
  rcases hl0 : l with _ | l0
  · rw [hl0] at fo
    simp only [oD] at fo
    walk_at "dl"
    refine x_seqT fo ?_; intro J dw
    rw [List.length_map] at dw
    refine x_lcS (xs := os) oD (fun o => some (oD (o.map fun x => min (x + t) 61))) dw fo hn (by decide) ?_ ?_
    · intro p acc F H σ x Nx _ fo te
      rcases x with _ | i
      · simp only [oD] at fo
        walk_at "dl"
        exact te.item _ _ _ _ rfl fo
      · simp only [oD] at fo
        walk_at "dl"
        ((first | (refine x_fn (i + t) fo (.cons .nil) ?_ ?_ ?_ ?_) | (refine x_fn (i + t) fo (.cons (.cons .nil)) ?_ ?_ ?_ ?_) | (refine x_fn (i + t) fo (.cons (.cons (.cons .nil))) ?_ ?_ ?_ ?_)); rfl; (first | exact Or.inl rfl | exact Or.inr ⟨rfl, rfl⟩); (trivial); clear fo; intro _ _ F H e_ fo)
        replace e_ : _ = _ := e_
        subst e_
        exact te.item _ _ _ _ rfl fo
    · clear fo; intro p F H fo
      rw [fm_some] at fo
      obtain ⟨F, fo, _⟩ := fo.freeze
      walk_at "dl"
      refine x_kInit (subF (l, os) t) .lst fo (.cons (.cons .nil)) (by rw [hl0]; simp [subF, howD, oD, List.map_map, Function.comp]) (by simpa [subF] using hn) (fun p h => nomatch h) ?_
      clear fo; intro p F H fo
      exact k _ _ _ _ fo.st fo.top rfl
  · rw [hl0] at fo
    simp only [oD] at fo
    walk_at "dl"
    refine x_seqT fo ?_; intro J dw
    rw [List.length_map] at dw
    refine x_lcS (xs := os) oD (fun o => some (oD (o.map fun x => min (x + t) 61))) dw fo hn (by decide) ?_ ?_
    · intro p acc F H σ x Nx _ fo te
      rcases x with _ | i
      · simp only [oD] at fo
        walk_at "dl"
        exact te.item _ _ _ _ rfl fo
      · simp only [oD] at fo
        walk_at "dl"
        ((first | (refine x_fn (i + t) fo (.cons .nil) ?_ ?_ ?_ ?_) | (refine x_fn (i + t) fo (.cons (.cons .nil)) ?_ ?_ ?_ ?_) | (refine x_fn (i + t) fo (.cons (.cons (.cons .nil))) ?_ ?_ ?_ ?_)); rfl; (first | exact Or.inl rfl | exact Or.inr ⟨rfl, rfl⟩); (trivial); clear fo; intro _ _ F H e_ fo)
        replace e_ : _ = _ := e_
        subst e_
        exact te.item _ _ _ _ rfl fo
    · clear fo; intro p F H fo
      rw [fm_some] at fo
      obtain ⟨F, fo, _⟩ := fo.freeze
      walk_at "dl"
      refine x_kInit (subF (l, os) t) .lst fo (.cons (.cons .nil)) (by rw [hl0]; simp [subF, howD, oD, List.map_map, Function.comp]) (by simpa [subF] using hn) (fun p h => nomatch h) ?_
      clear fo; intro p F H fo
      exact k _ _ _ _ fo.st fo.top rfl
theorem pu_lr_and (o : OwnC c.K c.LifeRow) (n : NoAttr c.K c.LifeRow "key") (h : sp_lr_and c vs H Q Ex) : t_lr_and c { nx := fun _ H' => Q .non H', rt := Q } (L2.start N_lr_and vs) H := by
  obtain ⟨⟨⟨a1, as⟩, ⟨b1, bs⟩⟩, F, ⟨hn, hm⟩, hl, fo, k⟩ := fo_start (n := 0) (E := ⟨c.K, none, isBox, fun _ => none, fun _ => none⟩) (N := N_lr_and) h
  replace fo : FO ⟨c.K, none, isBox, F, H⟩ [some (lrD c.LifeRow (a1, as)), some (lrD c.LifeRow (b1, bs)), none, none, none] [] [] F _ H := fo
  replace hn : as.length = bs.length := hn
  replace hm : as.length ≤ 1000 := hm
  unfold t_lr_and
  walk_at "dl"
  refine x_kFld fo o.cls n ?_; clear fo; intro _ fo
  walk_at "dl"
  refine x_ixT fo (by rfl) ?_; clear fo; intro _ fo
  walk_at "dl"
  refine x_kFld fo o.cls n ?_; clear fo; intro _ fo
  walk_at "dl"
  refine x_ixT fo (by rfl) ?_; clear fo; intro _ fo
  walk_at "dl"
  refine x_kZip fo (.inl rfl) (.inl rfl) (fun _ => by simpa using hn) ?_; clear fo; intro J p q dw fo
  refine x_lcZ (as := as) (bs := bs) oD oD (fun z => some (oD (greO z.1 z.2))) dw fo hm (by decide) (by decide) ?_ ?_
  · clear fo; intro p acc F H σ a b Nx _ fo te
    walk_at "dl"
    ((first | (refine x_fn (a, b) fo (.cons .nil) ?_ ?_ ?_ ?_) | (refine x_fn (a, b) fo (.cons (.cons .nil)) ?_ ?_ ?_ ?_) | (refine x_fn (a, b) fo (.cons (.cons (.cons .nil))) ?_ ?_ ?_ ?_)); rfl; (first | exact Or.inl rfl | exact Or.inr ⟨rfl, rfl⟩); (trivial); clear fo; intro _ _ F H e_ fo)
    replace e_ : _ = _ := e_
    subst e_
    exact te.item _ _ _ _ rfl fo
  · clear fo; intro p F H fo
    rw [zip_gre] at fo
    obtain ⟨F, fo, _⟩ := fo.freeze
    walk_at "dl"
    refine x_kFld fo o.cls n ?_; clear fo; intro _ fo
    walk_at "dl"
    refine x_ixT fo (by rfl) ?_; clear fo; intro _ fo
    walk_at "dl"
    refine x_kFld fo o.cls n ?_; clear fo; intro _ fo
    walk_at "dl"
    refine x_ixT fo (by rfl) ?_; clear fo; intro _ fo
    walk_at "dl"
    ((first | (refine x_fn (a1, b1) fo (.cons .nil) ?_ ?_ ?_ ?_) | (refine x_fn (a1, b1) fo (.cons (.cons .nil)) ?_ ?_ ?_ ?_) | (refine x_fn (a1, b1) fo (.cons (.cons (.cons .nil))) ?_ ?_ ?_ ?_)); rfl; (first | exact Or.inl rfl | exact Or.inr ⟨rfl, rfl⟩); (trivial); clear fo; intro _ _ F H e_ fo)
    replace e_ : _ = _ := e_
    subst e_
    walk_at "dl"
    refine x_kInit (andF (a1, as) (b1, bs)) .lst fo (.cons (.cons .nil)) rfl (by simp [andF]; omega) (fun p h => nomatch h) ?_
    clear fo; intro p F H fo
    exact k _ _ _ _ fo.st fo.top rfl
end
end K26


set_option maxHeartbeats 4000000
namespace K26
open PySem PySem.Spec PyProof.Rows L2 DL
set_option hygiene false in
local macro_rules | `(tactic| walk_at "dl") => `(tactic| repeat (first
   | with_reducible refine x_seq ?_
   | with_reducible refine x_asg ?_
   | with_reducible refine x_ret ?_
   | with_reducible refine x_drop ?_
   | with_reducible refine x_ifS ?_
   | with_reducible refine x_op ?_
   | with_reducible refine x_un ?_
   | with_reducible refine x_cons ?_
   | with_reducible refine x_nil ?_
   | with_reducible refine x_cb ?_
   | with_reducible refine x_call ?_
   | with_reducible refine x_test ?_
   | with_reducible refine x_tB ?_
   | with_reducible refine x_tup ?_
   | with_reducible refine x_lst ?_
   | with_reducible refine x_lstO ?_
   | with_reducible refine x_if ?_
   | with_reducible refine x_and ?_
   | with_reducible refine x_or ?_
   | with_reducible refine x_not ?_
   | with_reducible refine x_yes ?_
   | with_reducible refine x_andV ?_
   | with_reducible refine x_orV ?_
   | with_reducible refine x_notV ?_
   | with_reducible refine x_fld ?_
   | with_reducible refine x_prop ?_
   | with_reducible refine x_meth ?_
   | with_reducible refine x_callI ?_
   | with_reducible refine x_make ?_
   | with_reducible refine x_sl ?_
   | with_reducible refine x_part ?_
   | with_reducible refine x_nopart ?_
   | with_reducible refine x_met ?_
   | with_reducible refine x_met0 ?_
   | with_reducible refine x_next ?_
   | with_reducible refine x_fmt ?_
   | with_reducible refine x_join ?_
   | with_reducible refine x_jcons ?_
   | with_reducible refine x_jnil ?_
   | with_reducible refine x_seqI ?_
   | with_reducible refine x_rng1 ?_
   | with_reducible refine x_rng2 ?_
   | with_reducible refine x_zip ?_
   | with_reducible refine x_listZip ?_
   | with_reducible refine x_lc ?_
   | with_reducible refine x_lcO ?_
   | with_reducible refine x_gsub ?_
   | with_reducible refine x_gcons ?_
   | with_reducible refine x_par ?_
   | with_reducible refine x_sfld ?_
   | with_reducible refine x_forS ?_
   | with_reducible refine x_arg ?_
   | with_reducible refine x_retN ?_
   | with_reducible refine x_brk ?_
   | with_reducible refine x_cont ?_
   | ((with_reducible refine x_var (d := ?_) fo ?_ ?_); rotate_left; rfl; clear fo; intro _ fo)
   | ((with_reducible refine x_c fo ?_); clear fo; intro fo)
   | ((with_reducible refine x_addI fo ?_); clear fo; intro fo)
   | ((with_reducible refine x_subI fo ?_); clear fo; intro fo)
   | ((with_reducible refine x_negI fo ?_); clear fo; intro fo)
   | ((with_reducible refine x_isN fo ?_); clear fo; intro fo)
   | ((with_reducible refine x_notN fo ?_); clear fo; intro fo)
   | ((with_reducible refine x_ltI fo ?_); clear fo; intro fo)
   | ((with_reducible refine x_leI fo ?_); clear fo; intro fo)
   | ((with_reducible refine x_gtI fo ?_); clear fo; intro fo)
   | ((with_reducible refine x_geI fo ?_); clear fo; intro fo)
   | ((with_reducible refine x_eqI fo ?_); clear fo; intro fo)
   | ((with_reducible refine x_neI fo ?_); clear fo; intro fo)
   | ((with_reducible refine x_max2 fo ?_); clear fo; intro fo)
   | ((with_reducible refine x_min2 fo ?_); clear fo; intro fo)
   | ((with_reducible refine x_intB fo ?_); clear fo; intro fo)
   | ((with_reducible refine x_intI fo ?_); clear fo; intro fo)
   | ((with_reducible refine x_lenT fo ?_); clear fo; intro fo)
   | ((with_reducible refine x_bool fo ?_); clear fo; intro fo)
   | ((with_reducible refine x_kPart fo ?_); clear fo; intro fo)
   | ((with_reducible refine x_kNotV fo ?_); clear fo; intro fo)
   | ((with_reducible refine x_kNe fo ?_); clear fo; intro fo)
   | ((with_reducible refine x_kStr fo ?_); clear fo; intro fo)
   | ((with_reducible refine is_Len ?_); (refine x_lenL fo (Or.inl rfl) ?_); clear fo; intro fo)
   | ((with_reducible refine x_mulI fo ?_ ?_); (unfold CMul; omega); clear fo; intro fo)
   | ((with_reducible refine x_modI fo ?_ ?_); omega; clear fo; intro fo)
   | ((with_reducible refine x_fdivI fo ?_ ?_); (constructor <;> omega); clear fo; intro fo)
   | ((with_reducible refine x_powI fo ?_ ?_); exact ⟨by decide, by decide, by decide⟩; clear fo; intro fo)
   | ((with_reducible refine is_Tup ?_); (first | (with_reducible refine x_mkTup fo (.cons (.cons .nil)) ?_ ?_) | (with_reducible refine x_mkTup fo (.cons .nil) ?_ ?_) | (with_reducible refine x_mkTup fo (.cons (.cons (.cons .nil))) ?_ ?_) | (with_reducible refine x_mkTup fo .nil ?_ ?_) | (with_reducible refine x_mkTup fo (.cons (.cons (.cons (.cons .nil)))) ?_ ?_) | (with_reducible refine x_mkTup fo (.cons (.cons (.cons (.cons (.cons .nil))))) ?_ ?_) | (with_reducible refine x_mkTup fo (.cons (.cons (.cons (.cons (.cons (.cons .nil)))))) ?_ ?_) | (with_reducible refine x_mkTup fo (.cons (.cons (.cons (.cons (.cons (.cons (.cons (.cons (.cons .nil))))))))) ?_ ?_)); exact Nat.le_of_ble_eq_true rfl; clear fo; intro _ F H fo)
   | ((with_reducible refine is_Lst ?_); (first | (with_reducible refine x_mkLst fo (.cons (.cons .nil)) ?_ ?_) | (with_reducible refine x_mkLst fo (.cons .nil) ?_ ?_) | (with_reducible refine x_mkLst fo (.cons (.cons (.cons .nil))) ?_ ?_) | (with_reducible refine x_mkLst fo .nil ?_ ?_) | (with_reducible refine x_mkLst fo (.cons (.cons (.cons (.cons .nil)))) ?_ ?_) | (with_reducible refine x_mkLst fo (.cons (.cons (.cons (.cons (.cons .nil))))) ?_ ?_) | (with_reducible refine x_mkLst fo (.cons (.cons (.cons (.cons (.cons (.cons .nil)))))) ?_ ?_) | (with_reducible refine x_mkLst fo (.cons (.cons (.cons (.cons (.cons (.cons (.cons (.cons (.cons .nil))))))))) ?_ ?_)); exact Nat.le_of_ble_eq_true rfl; clear fo; intro _ F H fo)
   | ((with_reducible refine is_LstO ?_); (first | (with_reducible refine x_mkLstO fo (.cons (.cons .nil)) ?_ ?_) | (with_reducible refine x_mkLstO fo (.cons .nil) ?_ ?_) | (with_reducible refine x_mkLstO fo (.cons (.cons (.cons .nil))) ?_ ?_) | (with_reducible refine x_mkLstO fo .nil ?_ ?_) | (with_reducible refine x_mkLstO fo (.cons (.cons (.cons (.cons .nil)))) ?_ ?_) | (with_reducible refine x_mkLstO fo (.cons (.cons (.cons (.cons (.cons .nil))))) ?_ ?_) | (with_reducible refine x_mkLstO fo (.cons (.cons (.cons (.cons (.cons (.cons .nil)))))) ?_ ?_) | (with_reducible refine x_mkLstO fo (.cons (.cons (.cons (.cons (.cons (.cons (.cons (.cons (.cons .nil))))))))) ?_ ?_)); exact Nat.le_of_ble_eq_true rfl; clear fo; intro _ H fo)
   | ((with_reducible refine x_gname fo ?_); clear fo; intro σ fo; try simp only [List.set_cons_zero, List.set_cons_succ] at fo)
   | ((with_reducible refine x_gtup2 fo ?_); clear fo; intro _ _ fo)
   | ((with_reducible refine x_gtup3 fo ?_); clear fo; intro _ _ _ fo)
   | (with_reducible refine x_gnil rfl ?_)
   | refine ite_y (by rfl) ?_
   | refine ite_n (by rfl) ?_))
theorem oP (o : Option Int) : ∃ p, toPy (oD o) = some p ∧ p = (match o with | none => PyData.none | some i => .int i) := by cases o <;> exact ⟨_, rfl, rfl⟩
section
variable {c : Cs} {vs : List V} {H : Hp} {Q : VK} {Ex : XK}
theorem pu_lr_call (o : OwnC c.K c.LifeRow) (n : NoAttr c.K c.LifeRow "key") (h : sp_lr_call c vs H Q Ex) : t_lr_call c { nx := fun _ H' => Q .non H', rt := Q } (L2.start N_lr_call vs) H := by
  obtain ⟨⟨⟨l, os⟩, ls⟩, F, ⟨hn, hm, h0⟩, hl, fo, k⟩ := fo_start (n := 0) (E := ⟨c.K, none, isBox, fun _ => none, fun _ => none⟩) (N := N_lr_call) h
  replace fo : FO ⟨c.K, none, isBox, F, H⟩ [some (lrD c.LifeRow (l, os)), some (.tup (ls.map D.int)), none, none, none, none, none] [] [] F _ H := fo
  replace hn : os.length = ls.length := hn
  replace hm : ls.length ≤ 1000 := hm
  replace h0 : 0 < (foundF (l, os) ls).length := h0
  unfold t_lr_call
  walk_at "dl"
  refine x_kFld fo o.cls n ?_; clear fo; intro _ fo
  simp only [rowD] at fo
  walk_at "dl"
  refine x_kZip fo (.inl rfl) (.inl rfl) (fun _ => by simp; omega) ?_; clear fo; intro J p q dw fo
  refine x_lcZ (as := ls) (bs := os) D.int oD (fun z => z.2.map fun x => D.int (z.1 - x)) dw fo hm (by decide) (by decide) ?_ ?_
  · clear fo; intro p acc F H σ a b Nx _ fo te
    rcases b with _ | b
    · simp only [oD] at fo
      walk_at "dl"
      exact te.skip _ _ rfl fo
    · simp only [oD] at fo
      walk_at "dl"
      exact te.item _ _ _ _ rfl fo
  · clear fo; intro p F H fo
    rw [found_fm] at fo
    replace fo := fo.push (.raw (.ref p))
    walk_at "dl"
    rcases hl0 : l with _ | l0
    · rw [hl0] at fo h0
      simp only [oD] at fo
      walk_at "dl"
      have e : (foundF (none, os) ls) = (List.zipWith (fun (l : Int) (o : Option Int) => o.map fun x => l - x) ls os).filterMap id := by simp [foundF]
      refine x_minL fo (.inr ⟨p, rfl, List.mem_cons_self⟩) (by rw [← e]; exact h0) ?_
      clear fo; intro m h1 h2 fo
      walk_at "dl"
      exact k _ _ _ _ fo.st fo.top (by rw [hl0]; show D.int _ = D.int (boundF (none, os) ls); rw [boundF, e, mn_eq h1 h2])
    · rw [hl0] at fo h0
      simp only [oD] at fo
      walk_at "dl"
      refine x_kMetL fo (.inr ⟨p, rfl, List.mem_cons_self⟩) ?_
      walk_at "dl"
      have e : (foundF (some l0, os) ls) = (List.zipWith (fun (l : Int) (o : Option Int) => o.map fun x => l - x) ls os).filterMap id ++ [l0] := by simp [foundF]
      have hz : ((List.zipWith (fun (l : Int) (o : Option Int) => o.map fun x => l - x) ls os).filterMap id).length ≤ 1000 := by
        refine Nat.le_trans (List.length_filterMap_le _ _) ?_
        rw [List.length_zipWith]; omega
      refine x_append fo (by rw [List.length_map]; omega) ?_
      clear fo; intro H fo
      walk_at "dl"
      have fo2 := fo
      rw [show (((List.zipWith (fun (l : Int) (o : Option Int) => o.map fun x => l - x) ls os).filterMap id).map D.int ++ [D.raw (V.int l0)]) = (foundF (some l0, os) ls).map D.int by rw [e, List.map_append]; rfl] at fo2
      refine x_minL fo2 (.inr ⟨p, rfl, List.mem_cons_self⟩) h0 ?_
      clear fo fo2; intro m h1 h2 fo
      walk_at "dl"
      exact k _ _ _ _ fo.st fo.top (by rw [hl0]; show D.int _ = D.int (boundF (some l0, os) ls); rw [boundF, mn_eq h1 h2])
end
end K26


set_option maxHeartbeats 4000000
namespace K26
open PySem PySem.Spec PyProof.Rows L2 DL
set_option hygiene false in
local macro_rules | `(tactic| walk_at "dl") => `(tactic| repeat (first
   | with_reducible refine x_seq ?_
   | with_reducible refine x_asg ?_
   | with_reducible refine x_ret ?_
   | with_reducible refine x_drop ?_
   | with_reducible refine x_ifS ?_
   | with_reducible refine x_op ?_
   | with_reducible refine x_un ?_
   | with_reducible refine x_cons ?_
   | with_reducible refine x_nil ?_
   | with_reducible refine x_cb ?_
   | with_reducible refine x_call ?_
   | with_reducible refine x_test ?_
   | with_reducible refine x_tB ?_
   | with_reducible refine x_tup ?_
   | with_reducible refine x_lst ?_
   | with_reducible refine x_lstO ?_
   | with_reducible refine x_if ?_
   | with_reducible refine x_and ?_
   | with_reducible refine x_or ?_
   | with_reducible refine x_not ?_
   | with_reducible refine x_yes ?_
   | with_reducible refine x_andV ?_
   | with_reducible refine x_orV ?_
   | with_reducible refine x_notV ?_
   | with_reducible refine x_fld ?_
   | with_reducible refine x_prop ?_
   | with_reducible refine x_meth ?_
   | with_reducible refine x_callI ?_
   | with_reducible refine x_make ?_
   | with_reducible refine x_sl ?_
   | with_reducible refine x_part ?_
   | with_reducible refine x_nopart ?_
   | with_reducible refine x_met ?_
   | with_reducible refine x_met0 ?_
   | with_reducible refine x_next ?_
   | with_reducible refine x_fmt ?_
   | with_reducible refine x_join ?_
   | with_reducible refine x_jcons ?_
   | with_reducible refine x_jnil ?_
   | with_reducible refine x_seqI ?_
   | with_reducible refine x_rng1 ?_
   | with_reducible refine x_rng2 ?_
   | with_reducible refine x_zip ?_
   | with_reducible refine x_listZip ?_
   | with_reducible refine x_lc ?_
   | with_reducible refine x_lcO ?_
   | with_reducible refine x_gsub ?_
   | with_reducible refine x_gcons ?_
   | with_reducible refine x_par ?_
   | with_reducible refine x_sfld ?_
   | with_reducible refine x_forS ?_
   | with_reducible refine x_arg ?_
   | with_reducible refine x_retN ?_
   | with_reducible refine x_brk ?_
   | with_reducible refine x_cont ?_
   | ((with_reducible refine x_var (d := ?_) fo ?_ ?_); rotate_left; rfl; clear fo; intro _ fo)
   | ((with_reducible refine x_c fo ?_); clear fo; intro fo)
   | ((with_reducible refine x_addI fo ?_); clear fo; intro fo)
   | ((with_reducible refine x_subI fo ?_); clear fo; intro fo)
   | ((with_reducible refine x_negI fo ?_); clear fo; intro fo)
   | ((with_reducible refine x_isN fo ?_); clear fo; intro fo)
   | ((with_reducible refine x_notN fo ?_); clear fo; intro fo)
   | ((with_reducible refine x_ltI fo ?_); clear fo; intro fo)
   | ((with_reducible refine x_leI fo ?_); clear fo; intro fo)
   | ((with_reducible refine x_gtI fo ?_); clear fo; intro fo)
   | ((with_reducible refine x_geI fo ?_); clear fo; intro fo)
   | ((with_reducible refine x_eqI fo ?_); clear fo; intro fo)
   | ((with_reducible refine x_neI fo ?_); clear fo; intro fo)
   | ((with_reducible refine x_max2 fo ?_); clear fo; intro fo)
   | ((with_reducible refine x_min2 fo ?_); clear fo; intro fo)
   | ((with_reducible refine x_intB fo ?_); clear fo; intro fo)
   | ((with_reducible refine x_intI fo ?_); clear fo; intro fo)
   | ((with_reducible refine x_lenT fo ?_); clear fo; intro fo)
   | ((with_reducible refine x_bool fo ?_); clear fo; intro fo)
   | ((with_reducible refine x_kPart fo ?_); clear fo; intro fo)
   | ((with_reducible refine x_kNotV fo ?_); clear fo; intro fo)
   | ((with_reducible refine x_kNe fo ?_); clear fo; intro fo)
   | ((with_reducible refine x_kStr fo ?_); clear fo; intro fo)
   | ((with_reducible refine is_Len ?_); (refine x_lenL fo (Or.inl rfl) ?_); clear fo; intro fo)
   | ((with_reducible refine x_mulI fo ?_ ?_); (unfold CMul; omega); clear fo; intro fo)
   | ((with_reducible refine x_modI fo ?_ ?_); omega; clear fo; intro fo)
   | ((with_reducible refine x_fdivI fo ?_ ?_); (constructor <;> omega); clear fo; intro fo)
   | ((with_reducible refine x_powI fo ?_ ?_); exact ⟨by decide, by decide, by decide⟩; clear fo; intro fo)
   | ((with_reducible refine is_Tup ?_); (first | (with_reducible refine x_mkTup fo (.cons (.cons .nil)) ?_ ?_) | (with_reducible refine x_mkTup fo (.cons .nil) ?_ ?_) | (with_reducible refine x_mkTup fo (.cons (.cons (.cons .nil))) ?_ ?_) | (with_reducible refine x_mkTup fo .nil ?_ ?_) | (with_reducible refine x_mkTup fo (.cons (.cons (.cons (.cons .nil)))) ?_ ?_) | (with_reducible refine x_mkTup fo (.cons (.cons (.cons (.cons (.cons .nil))))) ?_ ?_) | (with_reducible refine x_mkTup fo (.cons (.cons (.cons (.cons (.cons (.cons .nil)))))) ?_ ?_) | (with_reducible refine x_mkTup fo (.cons (.cons (.cons (.cons (.cons (.cons (.cons (.cons (.cons .nil))))))))) ?_ ?_)); exact Nat.le_of_ble_eq_true rfl; clear fo; intro _ F H fo)
   | ((with_reducible refine is_Lst ?_); (first | (with_reducible refine x_mkLst fo (.cons (.cons .nil)) ?_ ?_) | (with_reducible refine x_mkLst fo (.cons .nil) ?_ ?_) | (with_reducible refine x_mkLst fo (.cons (.cons (.cons .nil))) ?_ ?_) | (with_reducible refine x_mkLst fo .nil ?_ ?_) | (with_reducible refine x_mkLst fo (.cons (.cons (.cons (.cons .nil)))) ?_ ?_) | (with_reducible refine x_mkLst fo (.cons (.cons (.cons (.cons (.cons .nil))))) ?_ ?_) | (with_reducible refine x_mkLst fo (.cons (.cons (.cons (.cons (.cons (.cons .nil)))))) ?_ ?_) | (with_reducible refine x_mkLst fo (.cons (.cons (.cons (.cons (.cons (.cons (.cons (.cons (.cons .nil))))))))) ?_ ?_)); exact Nat.le_of_ble_eq_true rfl; clear fo; intro _ F H fo)
   | ((with_reducible refine is_LstO ?_); (first | (with_reducible refine x_mkLstO fo (.cons (.cons .nil)) ?_ ?_) | (with_reducible refine x_mkLstO fo (.cons .nil) ?_ ?_) | (with_reducible refine x_mkLstO fo (.cons (.cons (.cons .nil))) ?_ ?_) | (with_reducible refine x_mkLstO fo .nil ?_ ?_) | (with_reducible refine x_mkLstO fo (.cons (.cons (.cons (.cons .nil)))) ?_ ?_) | (with_reducible refine x_mkLstO fo (.cons (.cons (.cons (.cons (.cons .nil))))) ?_ ?_) | (with_reducible refine x_mkLstO fo (.cons (.cons (.cons (.cons (.cons (.cons .nil)))))) ?_ ?_) | (with_reducible refine x_mkLstO fo (.cons (.cons (.cons (.cons (.cons (.cons (.cons (.cons (.cons .nil))))))))) ?_ ?_)); exact Nat.le_of_ble_eq_true rfl; clear fo; intro _ H fo)
   | ((with_reducible refine x_gname fo ?_); clear fo; intro σ fo; try simp only [List.set_cons_zero, List.set_cons_succ] at fo)
   | ((with_reducible refine x_gtup2 fo ?_); clear fo; intro _ _ fo)
   | ((with_reducible refine x_gtup3 fo ?_); clear fo; intro _ _ _ fo)
   | (with_reducible refine x_gnil rfl ?_)
   | refine ite_y (by rfl) ?_
   | refine ite_n (by rfl) ?_))
section
variable {c : Cs} {vs : List V} {H : Hp} {Q : VK} {Ex : XK}
theorem pu_lr_eq (o : OwnC c.K c.LifeRow) (n : NoAttr c.K c.LifeRow "key") (h : sp_lr_eq c vs H Q Ex) : t_lr_eq c { nx := fun _ H' => Q .non H', rt := Q } (L2.start N_lr_eq vs) H := by
  obtain ⟨⟨r, y⟩, F, hp, hl, fo, k⟩ := fo_start (n := 0) (E := ⟨c.K, none, isBox, fun _ => none, fun _ => none⟩) (N := N_lr_eq) h
  replace fo : FO ⟨c.K, none, isBox, F, H⟩ [some (lrD c.LifeRow r), some (othR c.LifeRow y)] [] [] F _ H := fo
  unfold t_lr_eq
  rcases y with r2 | d
  · walk_at "dl"
    refine x_isiC fo o ?_; clear fo; intro fo
    walk_at "dl"
    refine x_kAndV fo (fun _ fo => ?_) (fun z _ => nomatch z)
    walk_at "dl"
    refine x_kFld fo o.cls n ?_; clear fo; intro _ fo
    walk_at "dl"
    refine x_kFld fo o.cls n ?_; clear fo; intro _ fo
    refine x_eqD fo (toPy_rowD r) (toPy_rowD r2) (shaped_row r) (shaped_row r2) ?_; clear fo; intro fo
    exact k _ _ _ _ fo.st fo.top (by show D.bl _ = D.bl (decide (r = r2)); rw [eqv_row])
  · obtain ⟨t, ht, hm⟩ := hp d rfl
    walk_at "dl"
    refine x_isiN fo o ht hm ?_; clear fo; intro fo
    walk_at "dl"
    refine x_kAndV fo (fun z _ => nomatch z) (fun _ fo => ?_)
    exact k _ _ _ _ fo.st fo.top rfl
theorem pu_lr_repr (o : OwnC c.K c.LifeRow) (n : NoAttr c.K c.LifeRow "key") (h : sp_lr_repr c vs H Q Ex) : t_lr_repr c { nx := fun _ H' => Q .non H', rt := Q } (L2.start N_lr_repr vs) H := by
  obtain ⟨⟨m, ⟨l, os⟩⟩, F, ⟨ok, hm⟩, hl, fo, k⟩ := fo_start (n := 0) (E := ⟨c.K, none, isBox, fun _ => none, fun _ => none⟩) (N := N_lr_repr) h
  replace fo : FO ⟨c.K, none, isBox, F, H⟩ [some (lrD c.LifeRow (l, os))] [] [] F _ H := fo
  replace ok : OkRow m (l, os) := ok
  have hlen : os.length ≤ 10 := by have := ok.len; have h2 : m ≤ 10 := hm; show os.length ≤ 10; have h3 : os.length = m := this; omega
  have sl := shO_len ok.le
  have st := shT_len (xs := os) ok.lo
  have hh : (reprF (l, os)).length ≤ 1000 := by
    unfold reprF
    rw [strLen_append, strLen_append, strLen_append, strLen_append, strLen_append]
    have e1 : (Str.empty).length = 0 := by decide +kernel
    have e2 : (("LifeRow(" : String) : Str).length = 8 := by decide +kernel
    have e3 : ((", " : String) : Str).length = 2 := by decide +kernel
    have e4 : ((")" : String) : Str).length = 1 := by decide +kernel
    have sl2 : (shO (l, os).1).length ≤ 4 := sl
    have st2 : (shT (l, os).2).length ≤ 6 * os.length + 2 := st
    omega
  unfold t_lr_repr
  walk_at "dl"
  refine x_kJs fo (by decide +kernel) ?_; clear fo; intro fo
  walk_at "dl"
  refine x_kFld fo o.cls n ?_; clear fo; intro _ fo
  walk_at "dl"
  refine x_ixT fo (by rfl) ?_; clear fo; intro _ fo
  refine x_kFmt fo (shwD_o ok.le) ?_; clear fo; intro fo
  have hb : ∀ z w : Str, (z ++ w).length = z.length + w.length := fun z w => strLen_append z w
  have e1 : (Str.empty).length = 0 := by decide +kernel
  have e2 : (("LifeRow(" : String) : Str).length = 8 := by decide +kernel
  have e3 : ((", " : String) : Str).length = 2 := by decide +kernel
  have e4 : ((")" : String) : Str).length = 1 := by decide +kernel
  have sl2 : (shO (l, os).1).length ≤ 4 := sl
  have st2 : (shT (l, os).2).length ≤ 6 * os.length + 2 := st
  refine x_kJs fo (by rw [hb, hb]; omega) ?_; clear fo; intro fo
  walk_at "dl"
  refine x_kJs fo (by rw [hb, hb, hb]; omega) ?_; clear fo; intro fo
  walk_at "dl"
  refine x_kFld fo o.cls n ?_; clear fo; intro _ fo
  walk_at "dl"
  refine x_ixT fo (by rfl) ?_; clear fo; intro _ fo
  refine x_kFmt fo (shwD_t ok.lo hlen) ?_; clear fo; intro fo
  refine x_kJs fo (by rw [hb, hb, hb, hb]; omega) ?_; clear fo; intro fo
  walk_at "dl"
  refine x_kJs fo (by rw [hb, hb, hb, hb, hb]; omega) ?_; clear fo; intro fo
  walk_at "dl"
  exact k _ _ _ _ fo.st (.raw _) rfl
end
end K26


set_option maxHeartbeats 4000000
namespace K26
open PySem PySem.Spec PyProof.Rows L2 DL
set_option hygiene false in
local macro_rules | `(tactic| walk_at "dl") => `(tactic| repeat (first
   | with_reducible refine x_seq ?_
   | with_reducible refine x_asg ?_
   | with_reducible refine x_ret ?_
   | with_reducible refine x_drop ?_
   | with_reducible refine x_ifS ?_
   | with_reducible refine x_op ?_
   | with_reducible refine x_un ?_
   | with_reducible refine x_cons ?_
   | with_reducible refine x_nil ?_
   | with_reducible refine x_cb ?_
   | with_reducible refine x_call ?_
   | with_reducible refine x_test ?_
   | with_reducible refine x_tB ?_
   | with_reducible refine x_tup ?_
   | with_reducible refine x_lst ?_
   | with_reducible refine x_lstO ?_
   | with_reducible refine x_if ?_
   | with_reducible refine x_and ?_
   | with_reducible refine x_or ?_
   | with_reducible refine x_not ?_
   | with_reducible refine x_yes ?_
   | with_reducible refine x_andV ?_
   | with_reducible refine x_orV ?_
   | with_reducible refine x_notV ?_
   | with_reducible refine x_fld ?_
   | with_reducible refine x_prop ?_
   | with_reducible refine x_meth ?_
   | with_reducible refine x_callI ?_
   | with_reducible refine x_make ?_
   | with_reducible refine x_sl ?_
   | with_reducible refine x_part ?_
   | with_reducible refine x_nopart ?_
   | with_reducible refine x_met ?_
   | with_reducible refine x_met0 ?_
   | with_reducible refine x_next ?_
   | with_reducible refine x_fmt ?_
   | with_reducible refine x_join ?_
   | with_reducible refine x_jcons ?_
   | with_reducible refine x_jnil ?_
   | with_reducible refine x_seqI ?_
   | with_reducible refine x_rng1 ?_
   | with_reducible refine x_rng2 ?_
   | with_reducible refine x_zip ?_
   | with_reducible refine x_listZip ?_
   | with_reducible refine x_lc ?_
   | with_reducible refine x_lcO ?_
   | with_reducible refine x_gsub ?_
   | with_reducible refine x_gcons ?_
   | with_reducible refine x_par ?_
   | with_reducible refine x_sfld ?_
   | with_reducible refine x_forS ?_
   | with_reducible refine x_arg ?_
   | with_reducible refine x_retN ?_
   | with_reducible refine x_brk ?_
   | with_reducible refine x_cont ?_
   | ((with_reducible refine x_var (d := ?_) fo ?_ ?_); rotate_left; rfl; clear fo; intro _ fo)
   | ((with_reducible refine x_c fo ?_); clear fo; intro fo)
   | ((with_reducible refine x_addI fo ?_); clear fo; intro fo)
   | ((with_reducible refine x_subI fo ?_); clear fo; intro fo)
   | ((with_reducible refine x_negI fo ?_); clear fo; intro fo)
   | ((with_reducible refine x_isN fo ?_); clear fo; intro fo)
   | ((with_reducible refine x_notN fo ?_); clear fo; intro fo)
   | ((with_reducible refine x_ltI fo ?_); clear fo; intro fo)
   | ((with_reducible refine x_leI fo ?_); clear fo; intro fo)
   | ((with_reducible refine x_gtI fo ?_); clear fo; intro fo)
   | ((with_reducible refine x_geI fo ?_); clear fo; intro fo)
   | ((with_reducible refine x_eqI fo ?_); clear fo; intro fo)
   | ((with_reducible refine x_neI fo ?_); clear fo; intro fo)
   | ((with_reducible refine x_max2 fo ?_); clear fo; intro fo)
   | ((with_reducible refine x_min2 fo ?_); clear fo; intro fo)
   | ((with_reducible refine x_intB fo ?_); clear fo; intro fo)
   | ((with_reducible refine x_intI fo ?_); clear fo; intro fo)
   | ((with_reducible refine x_lenT fo ?_); clear fo; intro fo)
   | ((with_reducible refine x_bool fo ?_); clear fo; intro fo)
   | ((with_reducible refine x_kPart fo ?_); clear fo; intro fo)
   | ((with_reducible refine x_kNotV fo ?_); clear fo; intro fo)
   | ((with_reducible refine x_kNe fo ?_); clear fo; intro fo)
   | ((with_reducible refine x_kStr fo ?_); clear fo; intro fo)
   | ((with_reducible refine is_Len ?_); (refine x_lenL fo (Or.inl rfl) ?_); clear fo; intro fo)
   | ((with_reducible refine x_mulI fo ?_ ?_); (unfold CMul; omega); clear fo; intro fo)
   | ((with_reducible refine x_modI fo ?_ ?_); omega; clear fo; intro fo)
   | ((with_reducible refine x_fdivI fo ?_ ?_); (constructor <;> omega); clear fo; intro fo)
   | ((with_reducible refine x_powI fo ?_ ?_); exact ⟨by decide, by decide, by decide⟩; clear fo; intro fo)
   | ((with_reducible refine is_Tup ?_); (first | (with_reducible refine x_mkTup fo (.cons (.cons .nil)) ?_ ?_) | (with_reducible refine x_mkTup fo (.cons .nil) ?_ ?_) | (with_reducible refine x_mkTup fo (.cons (.cons (.cons .nil))) ?_ ?_) | (with_reducible refine x_mkTup fo .nil ?_ ?_) | (with_reducible refine x_mkTup fo (.cons (.cons (.cons (.cons .nil)))) ?_ ?_) | (with_reducible refine x_mkTup fo (.cons (.cons (.cons (.cons (.cons .nil))))) ?_ ?_) | (with_reducible refine x_mkTup fo (.cons (.cons (.cons (.cons (.cons (.cons .nil)))))) ?_ ?_) | (with_reducible refine x_mkTup fo (.cons (.cons (.cons (.cons (.cons (.cons (.cons (.cons (.cons .nil))))))))) ?_ ?_)); exact Nat.le_of_ble_eq_true rfl; clear fo; intro _ F H fo)
   | ((with_reducible refine is_Lst ?_); (first | (with_reducible refine x_mkLst fo (.cons (.cons .nil)) ?_ ?_) | (with_reducible refine x_mkLst fo (.cons .nil) ?_ ?_) | (with_reducible refine x_mkLst fo (.cons (.cons (.cons .nil))) ?_ ?_) | (with_reducible refine x_mkLst fo .nil ?_ ?_) | (with_reducible refine x_mkLst fo (.cons (.cons (.cons (.cons .nil)))) ?_ ?_) | (with_reducible refine x_mkLst fo (.cons (.cons (.cons (.cons (.cons .nil))))) ?_ ?_) | (with_reducible refine x_mkLst fo (.cons (.cons (.cons (.cons (.cons (.cons .nil)))))) ?_ ?_) | (with_reducible refine x_mkLst fo (.cons (.cons (.cons (.cons (.cons (.cons (.cons (.cons (.cons .nil))))))))) ?_ ?_)); exact Nat.le_of_ble_eq_true rfl; clear fo; intro _ F H fo)
   | ((with_reducible refine is_LstO ?_); (first | (with_reducible refine x_mkLstO fo (.cons (.cons .nil)) ?_ ?_) | (with_reducible refine x_mkLstO fo (.cons .nil) ?_ ?_) | (with_reducible refine x_mkLstO fo (.cons (.cons (.cons .nil))) ?_ ?_) | (with_reducible refine x_mkLstO fo .nil ?_ ?_) | (with_reducible refine x_mkLstO fo (.cons (.cons (.cons (.cons .nil)))) ?_ ?_) | (with_reducible refine x_mkLstO fo (.cons (.cons (.cons (.cons (.cons .nil))))) ?_ ?_) | (with_reducible refine x_mkLstO fo (.cons (.cons (.cons (.cons (.cons (.cons .nil)))))) ?_ ?_) | (with_reducible refine x_mkLstO fo (.cons (.cons (.cons (.cons (.cons (.cons (.cons (.cons (.cons .nil))))))))) ?_ ?_)); exact Nat.le_of_ble_eq_true rfl; clear fo; intro _ H fo)
   | ((with_reducible refine x_gname fo ?_); clear fo; intro σ fo; try simp only [List.set_cons_zero, List.set_cons_succ] at fo)
   | ((with_reducible refine x_gtup2 fo ?_); clear fo; intro _ _ fo)
   | ((with_reducible refine x_gtup3 fo ?_); clear fo; intro _ _ _ fo)
   | (with_reducible refine x_gnil rfl ?_)
   | refine ite_y (by rfl) ?_
   | refine ite_n (by rfl) ?_))
section
variable {c : Cs} {vs : List V} {H : Hp} {Q : VK} {Ex : XK}
theorem pu_take (h : sp_take c vs H Q Ex) : t_take c { nx := fun _ H' => Q .non H', rt := Q } (L2.start N_take vs) H := by
  obtain ⟨⟨b, m⟩, F, ⟨h1, h2⟩, hl, fo, k⟩ := fo_start (n := 0) (E := ⟨c.K, none, isBox, fun _ => none, fun _ => none⟩) (N := N_take) h
  replace fo : FO ⟨c.K, some b, isBox, F, H⟩ [some (D.at b), some (.int m), none, none] [] [] F _ H := fo
  replace h1 : 1 ≤ m := h1
  replace h2 : m < 1073741824 := h2
  have m1 : ∀ i : Int, 0 ≤ i % m := fun i => Int.emod_nonneg _ (by omega)
  have m2 : ∀ i : Int, i % m < m := fun i => Int.emod_lt_of_pos _ (by omega)
  unfold t_take
  walk_at "dl"
  refine x_ixB fo rfl rfl (by decide) ?_; clear fo; intro _ fo
  walk_at "dl"
  refine ite_b (fun _ => ?_) (fun _ => ?_)
  · walk_at "dl"
    refine x_ixB fo rfl rfl (by decide) ?_; clear fo; intro _ fo
    walk_at "dl"
    refine x_ixB fo rfl rfl (by decide) ?_; clear fo; intro _ fo
    walk_at "dl"
    refine x_setB fo rfl rfl (by decide) ?_; clear fo; intro H fo
    walk_at "dl"
    exact k _ _ _ _ fo.st fo.top ⟨_, rfl, m1 _, m2 _⟩
  · walk_at "dl"
    refine x_ixB fo rfl rfl (by decide) ?_; clear fo; intro _ fo
    walk_at "dl"
    refine x_setB fo rfl rfl (by decide) ?_; clear fo; intro H fo
    walk_at "dl"
    refine x_ixB fo rfl rfl (by decide) ?_; clear fo; intro _ fo
    walk_at "dl"
    refine x_ixB fo rfl rfl (by decide) ?_; clear fo; intro _ fo
    walk_at "dl"
    refine x_setB fo rfl rfl (by decide) ?_; clear fo; intro H fo
    walk_at "dl"
    refine x_ixB fo rfl rfl (by decide) ?_; clear fo; intro _ fo
    walk_at "dl"
    exact k _ _ _ _ fo.st fo.top ⟨_, rfl, m1 _, m2 _⟩
theorem pu_pick (h : sp_pick c vs H Q Ex) : t_pick c { nx := fun _ H' => Q .non H', rt := Q } (L2.start N_pick vs) H := by
  obtain ⟨⟨b, ds⟩, F, ⟨h1, h2⟩, hl, fo, k⟩ := fo_start (n := 0) (E := ⟨c.K, none, isBox, fun _ => none, fun _ => none⟩) (N := N_pick) h
  replace fo : FO ⟨c.K, some b, isBox, F, H⟩ [some (D.at b), some (.lst ds)] [] [] F _ H := fo
  replace h1 : 0 < ds.length := h1
  replace h2 : ds.length ≤ 1000 := h2
  unfold t_pick
  walk_at "dl"
  ((first | (refine x_fn (b, (ds.length : Int)) fo (.cons .nil) ?_ ?_ ?_ ?_) | (refine x_fn (b, (ds.length : Int)) fo (.cons (.cons .nil)) ?_ ?_ ?_ ?_) | (refine x_fn (b, (ds.length : Int)) fo (.cons (.cons (.cons .nil))) ?_ ?_ ?_ ?_)); rfl; (first | exact Or.inl rfl | exact Or.inr ⟨rfl, rfl⟩); (exact ⟨by show (1 : Int) ≤ _; omega, by show _ < (1073741824 : Int); omega⟩); clear fo; intro _ _ F H e_ fo)
  obtain ⟨n, e_, n0, n1⟩ := e_
  subst e_
  replace n1 : n < (ds.length : Int) := n1
  have hj : n.toNat < ds.length := by omega
  refine x_ixL fo (.inl rfl) (atI_nn n0 (List.getElem?_eq_getElem hj)) ?_; clear fo; intro _ fo
  exact k _ _ _ _ fo.st fo.top (List.getElem_mem hj)
theorem pu_box (h : sp_box c vs H Q Ex) : t_box c { nx := fun _ H' => Q .non H', rt := Q } (L2.start N_box vs) H := by
  obtain ⟨a, ns, i, rfl, hS, h1, h2, k⟩ := h
  have fo : FO ⟨c.K, none, isBox, fun _ => none, H⟩ [some (D.at a), some (.int i), none, none] [] [] (fun _ => none) (L2.start N_box [.ref a, .int i]) H := by
    refine ⟨.same (fun _ _ h => nomatch h) (fun _ h => nomatch h), (fun _ h => nomatch h), rfl, fun j d q => ?_, (fun _ h => nomatch h), (fun _ h => nomatch h), List.nodup_nil⟩
    match j, q with
    | 0, q => cases q; exact ⟨_, rfl, .raw _⟩
    | 1, q => cases q; exact ⟨_, rfl, .raw _⟩
    | 2, q => cases q
    | 3, q => cases q
    | j + 4, q => simp at q
  have fin : ∀ {G : List (Option D)} {S : List (V × D)} {F H' : Hp} {σ : L2.St} {v : V} {x y z : Int}, FO ⟨c.K, none, isBox, fun _ => none, H⟩ G [] ((v, .lst [.int x, .int y, .int z]) :: S) F σ H' → Q v H' := by
    intro G S F H' σ v x y z fo
    obtain ⟨p, xs, e, hp, rl⟩ := fo.top.lst_at
    subst e
    have ex : xs = [.int x, .int y, .int z] := RpL.raws (ws := [.int x, .int y, .int z]) rl
    subst ex
    refine k p _ ?_ ⟨_, fo.sub _ _ hp, x, y, z, rfl⟩ fun b o e => fo.st.keep b o e (fun z => nomatch z)
    cases q : H p with
    | none => rfl
    | some o =>
      have z := fo.st.new p rfl (show H p ≠ none by rw [q]; exact fun z => nomatch z)
      rw [hp] at z; cases z
  clear k
  unfold t_box
  walk_at "dl"
  refine x_lenS fo rfl hS ?_; clear fo; intro fo
  walk_at "dl"
  refine ite_b (fun hb => ?_) (fun hb => ?_)
  · replace hb : i < (ns.length : Int) := of_decide_eq_true hb
    walk_at "dl"
    refine x_ixS fo rfl hS h1 hb ?_; clear fo; intro cell fo
    walk_at "dl"
    refine x_ixL fo (.inl rfl) (e := .int (if decide ((10 : Int) ^ (18 : Int).toNat ≤ cell) then cell else 0)) (by by_cases h : (10 : Int) ^ (18 : Int).toNat ≤ cell <;> simp only [h, decide_true, decide_false] <;> rfl) ?_; clear fo; intro _ fo
    walk_at "dl"
    exact fin fo
  · walk_at "dl"
    refine x_lenS fo rfl hS ?_; clear fo; intro fo
    walk_at "dl"
    refine ite_b (fun hb => ?_) (fun hb => ?_)
    · replace hb : (0 : Int) < (ns.length : Int) := of_decide_eq_true hb
      walk_at "dl"
      refine x_lenS fo rfl hS ?_; clear fo; intro fo
      walk_at "dl"
      refine x_ixS fo rfl hS (Int.emod_nonneg _ (by omega)) (Int.emod_lt_of_pos _ (by omega)) ?_; clear fo; intro cell fo
      walk_at "dl"
      refine x_ixL fo (.inl rfl) (e := .int (if decide ((10 : Int) ^ (18 : Int).toNat ≤ (6841 * i + 37 + cell % 2147483629 * 69623)) then (6841 * i + 37 + cell % 2147483629 * 69623) else 0)) (by by_cases h : (10 : Int) ^ (18 : Int).toNat ≤ (6841 * i + 37 + cell % 2147483629 * 69623) <;> simp only [h, decide_true, decide_false] <;> rfl) ?_; clear fo; intro _ fo
      walk_at "dl"
      exact fin fo
    · walk_at "dl"
      refine x_ixL fo (.inl rfl) (e := .int (if decide ((10 : Int) ^ (18 : Int).toNat ≤ (6841 * i + 37)) then (6841 * i + 37) else 0)) (by by_cases h : (10 : Int) ^ (18 : Int).toNat ≤ (6841 * i + 37) <;> simp only [h, decide_true, decide_false] <;> rfl) ?_; clear fo; intro _ fo
      walk_at "dl"
      exact fin fo
end
end K26


set_option maxHeartbeats 4000000
namespace K26
open PySem PySem.Spec PyProof.Rows L2 DL
set_option hygiene false in
local macro_rules | `(tactic| walk_at "dl") => `(tactic| repeat (first
   | with_reducible refine x_seq ?_
   | with_reducible refine x_asg ?_
   | with_reducible refine x_ret ?_
   | with_reducible refine x_drop ?_
   | with_reducible refine x_ifS ?_
   | with_reducible refine x_op ?_
   | with_reducible refine x_un ?_
   | with_reducible refine x_cons ?_
   | with_reducible refine x_nil ?_
   | with_reducible refine x_cb ?_
   | with_reducible refine x_call ?_
   | with_reducible refine x_test ?_
   | with_reducible refine x_tB ?_
   | with_reducible refine x_tup ?_
   | with_reducible refine x_lst ?_
   | with_reducible refine x_lstO ?_
   | with_reducible refine x_if ?_
   | with_reducible refine x_and ?_
   | with_reducible refine x_or ?_
   | with_reducible refine x_not ?_
   | with_reducible refine x_yes ?_
   | with_reducible refine x_andV ?_
   | with_reducible refine x_orV ?_
   | with_reducible refine x_notV ?_
   | with_reducible refine x_fld ?_
   | with_reducible refine x_prop ?_
   | with_reducible refine x_meth ?_
   | with_reducible refine x_callI ?_
   | with_reducible refine x_make ?_
   | with_reducible refine x_sl ?_
   | with_reducible refine x_part ?_
   | with_reducible refine x_nopart ?_
   | with_reducible refine x_met ?_
   | with_reducible refine x_met0 ?_
   | with_reducible refine x_next ?_
   | with_reducible refine x_fmt ?_
   | with_reducible refine x_join ?_
   | with_reducible refine x_jcons ?_
   | with_reducible refine x_jnil ?_
   | with_reducible refine x_seqI ?_
   | with_reducible refine x_rng1 ?_
   | with_reducible refine x_rng2 ?_
   | with_reducible refine x_zip ?_
   | with_reducible refine x_listZip ?_
   | with_reducible refine x_lc ?_
   | with_reducible refine x_lcO ?_
   | with_reducible refine x_gsub ?_
   | with_reducible refine x_gcons ?_
   | with_reducible refine x_par ?_
   | with_reducible refine x_sfld ?_
   | with_reducible refine x_forS ?_
   | with_reducible refine x_arg ?_
   | with_reducible refine x_retN ?_
   | with_reducible refine x_brk ?_
   | with_reducible refine x_cont ?_
   | ((with_reducible refine x_var (d := ?_) fo ?_ ?_); rotate_left; rfl; clear fo; intro _ fo)
   | ((with_reducible refine x_c fo ?_); clear fo; intro fo)
   | ((with_reducible refine x_addI fo ?_); clear fo; intro fo)
   | ((with_reducible refine x_subI fo ?_); clear fo; intro fo)
   | ((with_reducible refine x_negI fo ?_); clear fo; intro fo)
   | ((with_reducible refine x_isN fo ?_); clear fo; intro fo)
   | ((with_reducible refine x_notN fo ?_); clear fo; intro fo)
   | ((with_reducible refine x_ltI fo ?_); clear fo; intro fo)
   | ((with_reducible refine x_leI fo ?_); clear fo; intro fo)
   | ((with_reducible refine x_gtI fo ?_); clear fo; intro fo)
   | ((with_reducible refine x_geI fo ?_); clear fo; intro fo)
   | ((with_reducible refine x_eqI fo ?_); clear fo; intro fo)
   | ((with_reducible refine x_neI fo ?_); clear fo; intro fo)
   | ((with_reducible refine x_max2 fo ?_); clear fo; intro fo)
   | ((with_reducible refine x_min2 fo ?_); clear fo; intro fo)
   | ((with_reducible refine x_intB fo ?_); clear fo; intro fo)
   | ((with_reducible refine x_intI fo ?_); clear fo; intro fo)
   | ((with_reducible refine x_lenT fo ?_); clear fo; intro fo)
   | ((with_reducible refine x_bool fo ?_); clear fo; intro fo)
   | ((with_reducible refine x_kPart fo ?_); clear fo; intro fo)
   | ((with_reducible refine x_kNotV fo ?_); clear fo; intro fo)
   | ((with_reducible refine x_kNe fo ?_); clear fo; intro fo)
   | ((with_reducible refine x_kStr fo ?_); clear fo; intro fo)
   | ((with_reducible refine is_Len ?_); (refine x_lenL fo (Or.inl rfl) ?_); clear fo; intro fo)
   | ((with_reducible refine x_mulI fo ?_ ?_); (unfold CMul; omega); clear fo; intro fo)
   | ((with_reducible refine x_modI fo ?_ ?_); omega; clear fo; intro fo)
   | ((with_reducible refine x_fdivI fo ?_ ?_); (constructor <;> omega); clear fo; intro fo)
   | ((with_reducible refine x_powI fo ?_ ?_); exact ⟨by decide, by decide, by decide⟩; clear fo; intro fo)
   | ((with_reducible refine is_Tup ?_); (first | (with_reducible refine x_mkTup fo (.cons (.cons .nil)) ?_ ?_) | (with_reducible refine x_mkTup fo (.cons .nil) ?_ ?_) | (with_reducible refine x_mkTup fo (.cons (.cons (.cons .nil))) ?_ ?_) | (with_reducible refine x_mkTup fo .nil ?_ ?_) | (with_reducible refine x_mkTup fo (.cons (.cons (.cons (.cons .nil)))) ?_ ?_) | (with_reducible refine x_mkTup fo (.cons (.cons (.cons (.cons (.cons .nil))))) ?_ ?_) | (with_reducible refine x_mkTup fo (.cons (.cons (.cons (.cons (.cons (.cons .nil)))))) ?_ ?_) | (with_reducible refine x_mkTup fo (.cons (.cons (.cons (.cons (.cons (.cons (.cons (.cons (.cons .nil))))))))) ?_ ?_)); exact Nat.le_of_ble_eq_true rfl; clear fo; intro _ F H fo)
   | ((with_reducible refine is_Lst ?_); (first | (with_reducible refine x_mkLst fo (.cons (.cons .nil)) ?_ ?_) | (with_reducible refine x_mkLst fo (.cons .nil) ?_ ?_) | (with_reducible refine x_mkLst fo (.cons (.cons (.cons .nil))) ?_ ?_) | (with_reducible refine x_mkLst fo .nil ?_ ?_) | (with_reducible refine x_mkLst fo (.cons (.cons (.cons (.cons .nil)))) ?_ ?_) | (with_reducible refine x_mkLst fo (.cons (.cons (.cons (.cons (.cons .nil))))) ?_ ?_) | (with_reducible refine x_mkLst fo (.cons (.cons (.cons (.cons (.cons (.cons .nil)))))) ?_ ?_) | (with_reducible refine x_mkLst fo (.cons (.cons (.cons (.cons (.cons (.cons (.cons (.cons (.cons .nil))))))))) ?_ ?_)); exact Nat.le_of_ble_eq_true rfl; clear fo; intro _ F H fo)
   | ((with_reducible refine is_LstO ?_); (first | (with_reducible refine x_mkLstO fo (.cons (.cons .nil)) ?_ ?_) | (with_reducible refine x_mkLstO fo (.cons .nil) ?_ ?_) | (with_reducible refine x_mkLstO fo (.cons (.cons (.cons .nil))) ?_ ?_) | (with_reducible refine x_mkLstO fo .nil ?_ ?_) | (with_reducible refine x_mkLstO fo (.cons (.cons (.cons (.cons .nil)))) ?_ ?_) | (with_reducible refine x_mkLstO fo (.cons (.cons (.cons (.cons (.cons .nil))))) ?_ ?_) | (with_reducible refine x_mkLstO fo (.cons (.cons (.cons (.cons (.cons (.cons .nil)))))) ?_ ?_) | (with_reducible refine x_mkLstO fo (.cons (.cons (.cons (.cons (.cons (.cons (.cons (.cons (.cons .nil))))))))) ?_ ?_)); exact Nat.le_of_ble_eq_true rfl; clear fo; intro _ H fo)
   | ((with_reducible refine x_gname fo ?_); clear fo; intro σ fo; try simp only [List.set_cons_zero, List.set_cons_succ] at fo)
   | ((with_reducible refine x_gtup2 fo ?_); clear fo; intro _ _ fo)
   | ((with_reducible refine x_gtup3 fo ?_); clear fo; intro _ _ _ fo)
   | (with_reducible refine x_gnil rfl ?_)
   | refine ite_y (by rfl) ?_
   | refine ite_n (by rfl) ?_))
section
variable {c : Cs} {vs : List V} {H : Hp} {Q : VK} {Ex : XK}
theorem pu_parts (h : sp_parts c vs H Q Ex) : t_parts c { nx := fun _ H' => Q .non H', rt := Q } (L2.start N_parts vs) H := by
  obtain ⟨r, F, _, hl, fo, k⟩ := fo_start (n := 0) (E := ⟨c.K, none, isBox, fun _ => none, fun _ => none⟩) (N := N_parts) h
  replace fo : FO ⟨c.K, none, isBox, F, H⟩ [some (lrD c.LifeRow r)] [] [] F _ H := fo
  unfold t_parts
  walk_at "dl"
  refine x_kProp fo ?_
  ((first | (refine x_fn r fo (.cons .nil) ?_ ?_ ?_ ?_) | (refine x_fn r fo (.cons (.cons .nil)) ?_ ?_ ?_ ?_) | (refine x_fn r fo (.cons (.cons (.cons .nil))) ?_ ?_ ?_ ?_)); rfl; (first | exact Or.inl rfl | exact Or.inr ⟨rfl, rfl⟩); (trivial); clear fo; intro _ _ F H e_ fo)
  replace e_ : _ = _ := e_
  subst e_
  walk_at "dl"
  refine x_kProp fo ?_
  ((first | (refine x_fn r fo (.cons .nil) ?_ ?_ ?_ ?_) | (refine x_fn r fo (.cons (.cons .nil)) ?_ ?_ ?_ ?_) | (refine x_fn r fo (.cons (.cons (.cons .nil))) ?_ ?_ ?_ ?_)); rfl; (first | exact Or.inl rfl | exact Or.inr ⟨rfl, rfl⟩); (trivial); clear fo; intro _ _ F H e_ fo)
  replace e_ : _ = _ := e_
  subst e_
  walk_at "dl"
  exact k _ _ _ _ fo.st fo.top rfl
theorem pu_less (h : sp_less c vs H Q Ex) : t_less c { nx := fun _ H' => Q .non H', rt := Q } (L2.start N_less vs) H := by
  obtain ⟨⟨⟨l, os⟩, t⟩, F, hn, hl, fo, k⟩ := fo_start (n := 0) (E := ⟨c.K, none, isBox, fun _ => none, fun _ => none⟩) (N := N_less) h
  replace fo : FO ⟨c.K, none, isBox, F, H⟩ [some (rowD (l, os)), some (.int t), none, none, none] [] [] F _ H := fo
  replace hn : os.length ≤ 1000 := hn
  unfold t_less
  simp only [rowD] at fo
  walk_at "dl"
  rcases hl0 : l with _ | l0
  · rw [hl0] at fo
    simp only [oD] at fo
    walk_at "dl"
    refine x_seqT fo ?_; intro J dw
    rw [List.length_map] at dw
    refine x_lcS (xs := os) oD (fun o => some (oD (o.map fun x => min (x + t) 61))) dw fo hn (by decide) ?_ ?_
    · intro p acc F H σ x Nx _ fo te
      rcases x with _ | i
      · simp only [oD] at fo
        walk_at "dl"
        exact te.item _ _ _ _ rfl fo
      · simp only [oD] at fo
        walk_at "dl"
        exact te.item _ _ _ _ (by simp [oD, Int.min_comm]) fo
    · clear fo; intro p F H fo
      rw [fm_some] at fo
      obtain ⟨F, fo, _⟩ := fo.freeze
      walk_at "dl"
      refine x_tupleOf fo (.inr (.inl rfl)) ?_; clear fo; intro _ F H fo
      walk_at "dl"
      exact k _ _ _ _ fo.st fo.top (by rw [hl0]; simp [subF, rowD, oD, List.map_map, Function.comp])
  · rw [hl0] at fo
    simp only [oD] at fo
    walk_at "dl"
    refine x_seqT fo ?_; intro J dw
    rw [List.length_map] at dw
    refine x_lcS (xs := os) oD (fun o => some (oD (o.map fun x => min (x + t) 61))) dw fo hn (by decide) ?_ ?_
    · intro p acc F H σ x Nx _ fo te
      rcases x with _ | i
      · simp only [oD] at fo
        walk_at "dl"
        exact te.item _ _ _ _ rfl fo
      · simp only [oD] at fo
        walk_at "dl"
        exact te.item _ _ _ _ (by simp [oD, Int.min_comm]) fo
    · clear fo; intro p F H fo
      rw [fm_some] at fo
      obtain ⟨F, fo, _⟩ := fo.freeze
      walk_at "dl"
      refine x_tupleOf fo (.inr (.inl rfl)) ?_; clear fo; intro _ F H fo
      walk_at "dl"
      exact k _ _ _ _ fo.st fo.top (by rw [hl0]; simp [subF, rowD, oD, List.map_map, Function.comp])
theorem pu_least (h : sp_least c vs H Q Ex) : t_least c { nx := fun _ H' => Q .non H', rt := Q } (L2.start N_least vs) H := by
  obtain ⟨⟨⟨a1, as⟩, ⟨b1, bs⟩⟩, F, ⟨hn, hm⟩, hl, fo, k⟩ := fo_start (n := 0) (E := ⟨c.K, none, isBox, fun _ => none, fun _ => none⟩) (N := N_least) h
  replace fo : FO ⟨c.K, none, isBox, F, H⟩ [some (rowD (a1, as)), some (rowD (b1, bs)), none, none, none] [] [] F _ H := fo
  replace hn : as.length = bs.length := hn
  replace hm : as.length ≤ 1000 := hm
  unfold t_least
  walk_at "dl"
  refine x_ixT fo (by rfl) ?_; clear fo; intro _ fo
  walk_at "dl"
  refine x_ixT fo (by rfl) ?_; clear fo; intro _ fo
  walk_at "dl"
  refine x_kZip fo (.inl rfl) (.inl rfl) (fun z => nomatch z) ?_; clear fo; intro J p q dw fo
  refine x_lcZ (as := as) (bs := bs) oD oD (fun z => some (oD (greO z.1 z.2))) dw fo hm (by decide) (by decide) ?_ ?_
  · clear fo; intro p acc F H σ a b Nx _ fo te
    walk_at "dl"
    ((first | (refine x_fn (a, b, false) fo (.cons .nil) ?_ ?_ ?_ ?_) | (refine x_fn (a, b, false) fo (.cons (.cons .nil)) ?_ ?_ ?_ ?_) | (refine x_fn (a, b, false) fo (.cons (.cons (.cons .nil))) ?_ ?_ ?_ ?_)); rfl; (first | exact Or.inl rfl | exact Or.inr ⟨rfl, rfl⟩); (trivial); clear fo; intro _ _ F H e_ fo)
    replace e_ : _ = _ := e_
    subst e_
    exact te.item _ _ _ _ rfl fo
  · clear fo; intro p F H fo
    rw [zip_gre] at fo
    obtain ⟨F, fo, _⟩ := fo.freeze
    walk_at "dl"
    refine x_ixT fo (by rfl) ?_; clear fo; intro _ fo
    walk_at "dl"
    refine x_ixT fo (by rfl) ?_; clear fo; intro _ fo
    walk_at "dl"
    ((first | (refine x_fn (a1, b1, true) fo (.cons .nil) ?_ ?_ ?_ ?_) | (refine x_fn (a1, b1, true) fo (.cons (.cons .nil)) ?_ ?_ ?_ ?_) | (refine x_fn (a1, b1, true) fo (.cons (.cons (.cons .nil))) ?_ ?_ ?_ ?_)); rfl; (first | exact Or.inl rfl | exact Or.inr ⟨rfl, rfl⟩); (trivial); clear fo; intro _ _ F H e_ fo)
    replace e_ : _ = _ := e_
    subst e_
    walk_at "dl"
    refine x_tupleOf fo (.inr (.inl rfl)) ?_; clear fo; intro _ F H fo
    walk_at "dl"
    exact k _ _ _ _ fo.st fo.top rfl
end
end K26


set_option maxHeartbeats 4000000
namespace K26
open PySem PySem.Spec PyProof.Rows L2 DL
theorem zall (f : Option Int → Option Int → Bool) : ∀ as bs : List (Option Int), (List.zipWith f as bs).all id = (as.zip bs).all fun z => f z.1 z.2
  | [], _ => by simp
  | _ :: _, [] => by simp
  | a :: as, b :: bs => by rw [List.zipWith_cons_cons, List.zip_cons_cons, List.all_cons, List.all_cons, zall f as bs]; rfl
theorem below_no {a b : DL.Row} {x y : Option Int} (hm : (x, y) ∈ a.2.zip b.2) (h : isLow (-1) x y = false) : belowF a b = false := by
  unfold belowF
  rw [zall]
  have e : ((a.2.zip b.2).all fun z => isLow (-1) z.1 z.2) = false := by
    rw [Bool.eq_false_iff]
    intro q
    have := List.all_eq_true.mp q _ hm
    rw [show isLow (-1) (x, y).1 (x, y).2 = isLow (-1) x y from rfl, h] at this
    cases this
  rw [e, Bool.and_false]
theorem below_no1 {a b : DL.Row} (h : isLow 1 a.1 b.1 = false) : belowF a b = false := by unfold belowF; rw [h]; rfl
theorem below_yes {a b : DL.Row} (h1 : isLow 1 a.1 b.1 = true) (h : ∀ z ∈ a.2.zip b.2, isLow (-1) z.1 z.2 = true) : belowF a b = true := by
  unfold belowF
  rw [zall, h1, List.all_eq_true.mpr h]; rfl
theorem take_step {α : Type} {P : α → Prop} {xs : List α} {i : Nat} {z : α} (e : xs[i]? = some z) (h : ∀ y ∈ xs.take i, P y) (hz : P z) : ∀ y ∈ xs.take (i + 1), P y := by
  intro y hy
  rw [List.take_succ, e] at hy
  rcases List.mem_append.mp hy with q | q
  · exact h y q
  · simp at q; subst q; exact hz
set_option hygiene false in
local macro_rules | `(tactic| walk_at "dl") => `(tactic| repeat (first
   | with_reducible refine x_seq ?_
   | with_reducible refine x_asg ?_
   | with_reducible refine x_ret ?_
   | with_reducible refine x_drop ?_
   | with_reducible refine x_ifS ?_
   | with_reducible refine x_op ?_
   | with_reducible refine x_un ?_
   | with_reducible refine x_cons ?_
   | with_reducible refine x_nil ?_
   | with_reducible refine x_cb ?_
   | with_reducible refine x_call ?_
   | with_reducible refine x_test ?_
   | with_reducible refine x_tB ?_
   | with_reducible refine x_tup ?_
   | with_reducible refine x_lst ?_
   | with_reducible refine x_lstO ?_
   | with_reducible refine x_if ?_
   | with_reducible refine x_and ?_
   | with_reducible refine x_or ?_
   | with_reducible refine x_not ?_
   | with_reducible refine x_yes ?_
   | with_reducible refine x_andV ?_
   | with_reducible refine x_orV ?_
   | with_reducible refine x_notV ?_
   | with_reducible refine x_fld ?_
   | with_reducible refine x_prop ?_
   | with_reducible refine x_meth ?_
   | with_reducible refine x_callI ?_
   | with_reducible refine x_make ?_
   | with_reducible refine x_sl ?_
   | with_reducible refine x_part ?_
   | with_reducible refine x_nopart ?_
   | with_reducible refine x_met ?_
   | with_reducible refine x_met0 ?_
   | with_reducible refine x_next ?_
   | with_reducible refine x_fmt ?_
   | with_reducible refine x_join ?_
   | with_reducible refine x_jcons ?_
   | with_reducible refine x_jnil ?_
   | with_reducible refine x_seqI ?_
   | with_reducible refine x_rng1 ?_
   | with_reducible refine x_rng2 ?_
   | with_reducible refine x_zip ?_
   | with_reducible refine x_listZip ?_
   | with_reducible refine x_lc ?_
   | with_reducible refine x_lcO ?_
   | with_reducible refine x_gsub ?_
   | with_reducible refine x_gcons ?_
   | with_reducible refine x_par ?_
   | with_reducible refine x_sfld ?_
   | with_reducible refine x_forS ?_
   | with_reducible refine x_arg ?_
   | with_reducible refine x_retN ?_
   | with_reducible refine x_brk ?_
   | with_reducible refine x_cont ?_
   | ((with_reducible refine x_var (d := ?_) fo ?_ ?_); rotate_left; rfl; clear fo; intro _ fo)
   | ((with_reducible refine x_c fo ?_); clear fo; intro fo)
   | ((with_reducible refine x_addI fo ?_); clear fo; intro fo)
   | ((with_reducible refine x_subI fo ?_); clear fo; intro fo)
   | ((with_reducible refine x_negI fo ?_); clear fo; intro fo)
   | ((with_reducible refine x_isN fo ?_); clear fo; intro fo)
   | ((with_reducible refine x_notN fo ?_); clear fo; intro fo)
   | ((with_reducible refine x_ltI fo ?_); clear fo; intro fo)
   | ((with_reducible refine x_leI fo ?_); clear fo; intro fo)
   | ((with_reducible refine x_gtI fo ?_); clear fo; intro fo)
   | ((with_reducible refine x_geI fo ?_); clear fo; intro fo)
   | ((with_reducible refine x_eqI fo ?_); clear fo; intro fo)
   | ((with_reducible refine x_neI fo ?_); clear fo; intro fo)
   | ((with_reducible refine x_max2 fo ?_); clear fo; intro fo)
   | ((with_reducible refine x_min2 fo ?_); clear fo; intro fo)
   | ((with_reducible refine x_intB fo ?_); clear fo; intro fo)
   | ((with_reducible refine x_intI fo ?_); clear fo; intro fo)
   | ((with_reducible refine x_lenT fo ?_); clear fo; intro fo)
   | ((with_reducible refine x_bool fo ?_); clear fo; intro fo)
   | ((with_reducible refine x_kPart fo ?_); clear fo; intro fo)
   | ((with_reducible refine x_kNotV fo ?_); clear fo; intro fo)
   | ((with_reducible refine x_kNe fo ?_); clear fo; intro fo)
   | ((with_reducible refine x_kStr fo ?_); clear fo; intro fo)
   | ((with_reducible refine is_Len ?_); (refine x_lenL fo (Or.inl rfl) ?_); clear fo; intro fo)
   | ((with_reducible refine x_mulI fo ?_ ?_); (unfold CMul; omega); clear fo; intro fo)
   | ((with_reducible refine x_modI fo ?_ ?_); omega; clear fo; intro fo)
   | ((with_reducible refine x_fdivI fo ?_ ?_); (constructor <;> omega); clear fo; intro fo)
   | ((with_reducible refine x_powI fo ?_ ?_); exact ⟨by decide, by decide, by decide⟩; clear fo; intro fo)
   | ((with_reducible refine is_Tup ?_); (first | (with_reducible refine x_mkTup fo (.cons (.cons .nil)) ?_ ?_) | (with_reducible refine x_mkTup fo (.cons .nil) ?_ ?_) | (with_reducible refine x_mkTup fo (.cons (.cons (.cons .nil))) ?_ ?_) | (with_reducible refine x_mkTup fo .nil ?_ ?_) | (with_reducible refine x_mkTup fo (.cons (.cons (.cons (.cons .nil)))) ?_ ?_) | (with_reducible refine x_mkTup fo (.cons (.cons (.cons (.cons (.cons .nil))))) ?_ ?_) | (with_reducible refine x_mkTup fo (.cons (.cons (.cons (.cons (.cons (.cons .nil)))))) ?_ ?_) | (with_reducible refine x_mkTup fo (.cons (.cons (.cons (.cons (.cons (.cons (.cons (.cons (.cons .nil))))))))) ?_ ?_)); exact Nat.le_of_ble_eq_true rfl; clear fo; intro _ F H fo)
   | ((with_reducible refine is_Lst ?_); (first | (with_reducible refine x_mkLst fo (.cons (.cons .nil)) ?_ ?_) | (with_reducible refine x_mkLst fo (.cons .nil) ?_ ?_) | (with_reducible refine x_mkLst fo (.cons (.cons (.cons .nil))) ?_ ?_) | (with_reducible refine x_mkLst fo .nil ?_ ?_) | (with_reducible refine x_mkLst fo (.cons (.cons (.cons (.cons .nil)))) ?_ ?_) | (with_reducible refine x_mkLst fo (.cons (.cons (.cons (.cons (.cons .nil))))) ?_ ?_) | (with_reducible refine x_mkLst fo (.cons (.cons (.cons (.cons (.cons (.cons .nil)))))) ?_ ?_) | (with_reducible refine x_mkLst fo (.cons (.cons (.cons (.cons (.cons (.cons (.cons (.cons (.cons .nil))))))))) ?_ ?_)); exact Nat.le_of_ble_eq_true rfl; clear fo; intro _ F H fo)
   | ((with_reducible refine is_LstO ?_); (first | (with_reducible refine x_mkLstO fo (.cons (.cons .nil)) ?_ ?_) | (with_reducible refine x_mkLstO fo (.cons .nil) ?_ ?_) | (with_reducible refine x_mkLstO fo (.cons (.cons (.cons .nil))) ?_ ?_) | (with_reducible refine x_mkLstO fo .nil ?_ ?_) | (with_reducible refine x_mkLstO fo (.cons (.cons (.cons (.cons .nil)))) ?_ ?_) | (with_reducible refine x_mkLstO fo (.cons (.cons (.cons (.cons (.cons .nil))))) ?_ ?_) | (with_reducible refine x_mkLstO fo (.cons (.cons (.cons (.cons (.cons (.cons .nil)))))) ?_ ?_) | (with_reducible refine x_mkLstO fo (.cons (.cons (.cons (.cons (.cons (.cons (.cons (.cons (.cons .nil))))))))) ?_ ?_)); exact Nat.le_of_ble_eq_true rfl; clear fo; intro _ H fo)
   | ((with_reducible refine x_gname fo ?_); clear fo; intro σ fo; try simp only [List.set_cons_zero, List.set_cons_succ] at fo)
   | ((with_reducible refine x_gtup2 fo ?_); clear fo; intro _ _ fo)
   | ((with_reducible refine x_gtup3 fo ?_); clear fo; intro _ _ _ fo)
   | (with_reducible refine x_gnil rfl ?_)
   | refine ite_y (by rfl) ?_
   | refine ite_n (by rfl) ?_))
section
variable {c : Cs} {vs : List V} {H : Hp} {Q : VK} {Ex : XK}
theorem pu_lr_below (o : OwnC c.K c.LifeRow) (n : NoAttr c.K c.LifeRow "key") (h : sp_lr_below c vs H Q Ex) : t_lr_below c { nx := fun _ H' => Q .non H', rt := Q } (L2.start N_lr_below vs) H := by
  obtain ⟨⟨⟨a1, as⟩, ⟨b1, bs⟩⟩, F, ⟨hn, hm⟩, hl, fo, k⟩ := fo_start (n := 0) (E := ⟨c.K, none, isBox, fun _ => none, fun _ => none⟩) (N := N_lr_below) h
  replace fo : FO ⟨c.K, none, isBox, F, H⟩ [some (lrD c.LifeRow (a1, as)), some (lrD c.LifeRow (b1, bs)), none, none, none, none] [] [] F _ H := fo
  replace hn : as.length = bs.length := hn
  replace hm : as.length ≤ 1000 := hm
  replace k : ∀ (v : V) (d : D) (F' H' : Hp), DL.Step none isBox F H F' H' → Rp c.K F' v d → d = .bl (belowF (a1, as) (b1, bs)) → Q v H' := k
  unfold t_lr_below
  walk_at "dl"
  refine x_kFld fo o.cls n ?_; clear fo; intro _ fo
  simp only [rowD] at fo
  walk_at "dl"
  refine x_kProp fo ?_
  ((first | (refine x_fn (b1, bs) fo (.cons .nil) ?_ ?_ ?_ ?_) | (refine x_fn (b1, bs) fo (.cons (.cons .nil)) ?_ ?_ ?_ ?_) | (refine x_fn (b1, bs) fo (.cons (.cons (.cons .nil))) ?_ ?_ ?_ ?_)); rfl; (first | exact Or.inl rfl | exact Or.inr ⟨rfl, rfl⟩); (trivial); clear fo; intro _ _ F H e_ fo)
  replace e_ : _ = oD b1 := e_
  subst e_
  walk_at "dl"
  rcases hb0 : b1 with _ | j
  · have hlow : isLow 1 (a1, as).1 (b1, bs).1 = true := by rw [hb0]; rfl
    walk_at "dl"
    refine x_kProp fo ?_
    ((first | (refine x_fn (b1, bs) fo (.cons .nil) ?_ ?_ ?_ ?_) | (refine x_fn (b1, bs) fo (.cons (.cons .nil)) ?_ ?_ ?_ ?_) | (refine x_fn (b1, bs) fo (.cons (.cons (.cons .nil))) ?_ ?_ ?_ ?_)); rfl; (first | exact Or.inl rfl | exact Or.inr ⟨rfl, rfl⟩); (trivial); clear fo; intro _ _ F H e_ fo)
    replace e_ : _ = D.tup (bs.map oD) := e_
    subst e_
    walk_at "dl"
    refine x_kZip fo (.inl rfl) (.inl rfl) (fun _ => by simpa using hn) ?_; clear fo; intro J p q dw fo
    rw [List.length_map, List.length_map] at dw
    refine x_for (fun i G O => O = [] ∧ (∃ d4 d5, G = [some (lrD c.LifeRow (a1, as)), some (lrD c.LifeRow (b1, bs)), some (oD a1), some (.tup (as.map oD)), d4, d5]) ∧ ∀ z ∈ (as.zip bs).take i, isLow (-1) z.1 z.2 = true) dw fo (fun z hz => by simp at hz ⊢; rcases hz with h | h | h | h <;> simp [h]) ⟨rfl, ⟨none, none, by first | rfl | (rw [ha0]; rfl)⟩, by simp⟩ ?_ ?_
    · clear fo; rintro i G O F σ H v hi ⟨rfl, ⟨d4, d5, rfl⟩, hz⟩ fo
      obtain ⟨a, b, e, e2⟩ := pair_at oD oD hi
      rw [e2] at fo
      have hm := List.mem_of_getElem? e
      walk_at "dl"
      rcases b with _ | j
      · simp only [oD] at fo
        walk_at "dl"
        dsimp only
        refine x_li fo ?_
        exact ⟨rfl, ⟨_, _, rfl⟩, take_step e hz rfl⟩
      · rcases a with _ | i
        · simp only [oD] at fo
          walk_at "dl"
          exact k _ _ _ _ fo.st fo.top (by show D.bl _ = D.bl _; rw [below_no (a := (a1, as)) (b := (b1, bs)) hm rfl])
        · simp only [oD] at fo
          walk_at "dl"
          refine ite_b (fun hb => ?_) (fun hb => ?_)
          · replace hb : i < j := of_decide_eq_true hb
            walk_at "dl"
            exact k _ _ _ _ fo.st fo.top (by show D.bl _ = D.bl _; rw [below_no (a := (a1, as)) (b := (b1, bs)) hm (by show decide _ = false; exact decide_eq_false (by omega))])
          · replace hb : ¬ i < j := of_decide_eq_false hb
            walk_at "dl"
            dsimp only
            refine x_li fo ?_
            exact ⟨rfl, ⟨_, _, rfl⟩, take_step e hz (by show decide _ = true; exact decide_eq_true (by omega))⟩
    · clear fo; rintro G O F σ H ⟨rfl, ⟨d4, d5, rfl⟩, hz⟩ fo
      rw [List.take_of_length_le (by rw [List.length_zip]; exact Nat.le_refl _)] at hz
      walk_at "dl"
      exact k _ _ _ _ fo.st fo.top (by show D.bl _ = D.bl _; rw [below_yes (a := (a1, as)) (b := (b1, bs)) hlow hz])
  · walk_at "dl"
    rcases ha0 : a1 with _ | i
    · walk_at "dl"
      exact k _ _ _ _ fo.st fo.top (by rw [hb0, ha0]; rfl)
    · rw [ha0] at fo
      simp only [oD] at fo
      walk_at "dl"
      refine x_kProp fo ?_
      ((first | (refine x_fn (b1, bs) fo (.cons .nil) ?_ ?_ ?_ ?_) | (refine x_fn (b1, bs) fo (.cons (.cons .nil)) ?_ ?_ ?_ ?_) | (refine x_fn (b1, bs) fo (.cons (.cons (.cons .nil))) ?_ ?_ ?_ ?_)); rfl; (first | exact Or.inl rfl | exact Or.inr ⟨rfl, rfl⟩); (trivial); clear fo; intro _ _ F H e_ fo)
      replace e_ : _ = oD b1 := e_
      rw [hb0] at e_
      simp only [oD] at e_
      subst e_
      walk_at "dl"
      refine ite_b (fun hb => ?_) (fun hb => ?_)
      · replace hb : j < i := of_decide_eq_true hb
        walk_at "dl"
        exact k _ _ _ _ fo.st fo.top (by show D.bl _ = D.bl _; rw [below_no1 (by rw [hb0, ha0]; show decide _ = false; exact decide_eq_false (by omega))])
      · replace hb : ¬ j < i := of_decide_eq_false hb
        have hlow : isLow 1 (a1, as).1 (b1, bs).1 = true := by rw [hb0, ha0]; show decide _ = true; exact decide_eq_true (by omega)
        walk_at "dl"
        refine x_kProp fo ?_
        ((first | (refine x_fn (b1, bs) fo (.cons .nil) ?_ ?_ ?_ ?_) | (refine x_fn (b1, bs) fo (.cons (.cons .nil)) ?_ ?_ ?_ ?_) | (refine x_fn (b1, bs) fo (.cons (.cons (.cons .nil))) ?_ ?_ ?_ ?_)); rfl; (first | exact Or.inl rfl | exact Or.inr ⟨rfl, rfl⟩); (trivial); clear fo; intro _ _ F H e_ fo)
        replace e_ : _ = D.tup (bs.map oD) := e_
        subst e_
        walk_at "dl"
        refine x_kZip fo (.inl rfl) (.inl rfl) (fun _ => by simpa using hn) ?_; clear fo; intro J p q dw fo
        rw [List.length_map, List.length_map] at dw
        refine x_for (fun i G O => O = [] ∧ (∃ d4 d5, G = [some (lrD c.LifeRow (a1, as)), some (lrD c.LifeRow (b1, bs)), some (oD a1), some (.tup (as.map oD)), d4, d5]) ∧ ∀ z ∈ (as.zip bs).take i, isLow (-1) z.1 z.2 = true) dw fo (fun z hz => by simp at hz ⊢; rcases hz with h | h | h | h <;> simp [h]) ⟨rfl, ⟨none, none, by first | rfl | (rw [ha0]; rfl)⟩, by simp⟩ ?_ ?_
        · clear fo; rintro i G O F σ H v hi ⟨rfl, ⟨d4, d5, rfl⟩, hz⟩ fo
          obtain ⟨a, b, e, e2⟩ := pair_at oD oD hi
          rw [e2] at fo
          have hm := List.mem_of_getElem? e
          walk_at "dl"
          rcases b with _ | j
          · simp only [oD] at fo
            walk_at "dl"
            dsimp only
            refine x_li fo ?_
            exact ⟨rfl, ⟨_, _, rfl⟩, take_step e hz rfl⟩
          · rcases a with _ | i
            · simp only [oD] at fo
              walk_at "dl"
              exact k _ _ _ _ fo.st fo.top (by show D.bl _ = D.bl _; rw [below_no (a := (a1, as)) (b := (b1, bs)) hm rfl])
            · simp only [oD] at fo
              walk_at "dl"
              refine ite_b (fun hb => ?_) (fun hb => ?_)
              · replace hb : i < j := of_decide_eq_true hb
                walk_at "dl"
                exact k _ _ _ _ fo.st fo.top (by show D.bl _ = D.bl _; rw [below_no (a := (a1, as)) (b := (b1, bs)) hm (by show decide _ = false; exact decide_eq_false (by omega))])
              · replace hb : ¬ i < j := of_decide_eq_false hb
                walk_at "dl"
                dsimp only
                refine x_li fo ?_
                exact ⟨rfl, ⟨_, _, rfl⟩, take_step e hz (by show decide _ = true; exact decide_eq_true (by omega))⟩
        · clear fo; rintro G O F σ H ⟨rfl, ⟨d4, d5, rfl⟩, hz⟩ fo
          rw [List.take_of_length_le (by rw [List.length_zip]; exact Nat.le_refl _)] at hz
          walk_at "dl"
          exact k _ _ _ _ fo.st fo.top (by show D.bl _ = D.bl _; rw [below_yes (a := (a1, as)) (b := (b1, bs)) hlow hz])
theorem pu_bound (h : sp_bound c vs H Q Ex) : t_bound c { nx := fun _ H' => Q .non H', rt := Q } (L2.start N_bound vs) H := by
  obtain ⟨⟨⟨l, os⟩, ls⟩, F, ⟨hn, hm, h0⟩, hl, fo, k⟩ := fo_start (n := 0) (E := ⟨c.K, none, isBox, fun _ => none, fun _ => none⟩) (N := N_bound) h
  replace fo : FO ⟨c.K, none, isBox, F, H⟩ [some (rowD (l, os)), some (.tup (ls.map D.int)), none, none, none, none, none] [] [] F _ H := fo
  replace hn : os.length = ls.length := hn
  replace hm : ls.length ≤ 1000 := hm
  replace h0 : 0 < (foundF (l, os) ls).length := h0
  have hz : ((List.zipWith (fun (l : Int) (o : Option Int) => o.map fun x => l - x) ls os).filterMap id).length ≤ 1000 := by
    refine Nat.le_trans (List.length_filterMap_le _ _) ?_
    rw [List.length_zipWith]; omega
  unfold t_bound
  simp only [rowD] at fo
  walk_at "dl"
  refine x_kZip fo (.inl rfl) (.inl rfl) (fun z => nomatch z) ?_; clear fo; intro J p q dw fo
  refine x_lcZ (as := ls) (bs := os) D.int oD (fun z => z.2.map fun x => D.int (z.1 - x)) dw fo hm (by decide) (by decide) ?_ ?_
  · clear fo; intro p acc F H σ a b Nx _ fo te
    rcases b with _ | b
    · simp only [oD] at fo
      walk_at "dl"
      exact te.skip _ _ rfl fo
    · simp only [oD] at fo
      walk_at "dl"
      exact te.item _ _ _ _ rfl fo
  · clear fo; intro p F H fo
    rw [found_fm] at fo
    obtain ⟨F, fo, _⟩ := fo.freeze
    rcases hl0 : l with _ | l0
    · rw [hl0] at fo
      simp only [oD] at fo
      walk_at "dl"
      replace fo : FO _ _ _ ((_, D.raw (V.int 0)) :: _) _ _ _ := fo
      refine x_mulL fo (.inl rfl) (by decide) (by decide) (Nat.le_of_ble_eq_true rfl) ?_; clear fo; intro _ F H fo
      refine x_addL fo (.inl rfl) (.inl rfl) (by have q := hz; simp [List.length_map] at q ⊢; omega) ?_; clear fo; intro _ F H fo
      walk_at "dl"
      refine x_minL (ns := foundF (l, os) ls) fo (.inl (congrArg D.lst (by rw [hl0]; simp [foundF]))) h0 ?_
      clear fo; intro m h1 h2 fo
      walk_at "dl"
      exact k _ _ _ _ fo.st fo.top (by show D.int _ = D.int (boundF (l, os) ls); rw [boundF, mn_eq h1 h2])
    · rw [hl0] at fo
      simp only [oD] at fo
      walk_at "dl"
      replace fo : FO _ _ _ ((_, D.raw (V.int 1)) :: _) _ _ _ := fo
      refine x_mulL fo (.inl rfl) (by decide) (by decide) (Nat.le_of_ble_eq_true rfl) ?_; clear fo; intro _ F H fo
      refine x_addL fo (.inl rfl) (.inl rfl) (by have q := hz; simp [List.length_map] at q ⊢; omega) ?_; clear fo; intro _ F H fo
      walk_at "dl"
      refine x_minL (ns := foundF (l, os) ls) fo (.inl (congrArg D.lst (by rw [hl0]; simp [foundF]))) h0 ?_
      clear fo; intro m h1 h2 fo
      walk_at "dl"
      exact k _ _ _ _ fo.st fo.top (by show D.int _ = D.int (boundF (l, os) ls); rw [boundF, mn_eq h1 h2])
end
end K26


set_option maxHeartbeats 4000000
namespace K26
open PySem PySem.Spec PyProof.Rows L2 DL
theorem worse1 {s i m : Int} {sg : Bool} {o : Option Int} (hs : s = 1 ∧ sg = true ∨ s = -1 ∧ sg = false) (h : m ∈ [s * i]) (ho : o = some i) : D.int (s * m) = oD o := by
  subst ho
  simp at h
  subst h
  show D.int _ = D.int i
  rcases hs with ⟨rfl, _⟩ | ⟨rfl, _⟩ <;> congr 2 <;> omega
theorem worse2 {s i j m : Int} {sg : Bool} (hs : s = 1 ∧ sg = true ∨ s = -1 ∧ sg = false) (h1 : m ∈ [s * i, s * j]) (h2 : ∀ y, y ∈ [s * i, s * j] → m ≤ y) : D.int (s * m) = oD (if sg then lesO (some i) (some j) else greO (some i) (some j)) := by
  have a := h2 _ List.mem_cons_self
  have b := h2 _ (List.mem_cons_of_mem _ List.mem_cons_self)
  simp at h1
  rcases hs with ⟨rfl, rfl⟩ | ⟨rfl, rfl⟩
  · show D.int _ = D.int (min i j)
    congr 2; omega
  · show D.int _ = D.int (max i j)
    congr 2; omega
set_option hygiene false in
local macro_rules | `(tactic| walk_at "dl") => `(tactic| repeat (first
   | with_reducible refine x_seq ?_
   | with_reducible refine x_asg ?_
   | with_reducible refine x_ret ?_
   | with_reducible refine x_drop ?_
   | with_reducible refine x_ifS ?_
   | with_reducible refine x_op ?_
   | with_reducible refine x_un ?_
   | with_reducible refine x_cons ?_
   | with_reducible refine x_nil ?_
   | with_reducible refine x_cb ?_
   | with_reducible refine x_call ?_
   | with_reducible refine x_test ?_
   | with_reducible refine x_tB ?_
   | with_reducible refine x_tup ?_
   | with_reducible refine x_lst ?_
   | with_reducible refine x_lstO ?_
   | with_reducible refine x_if ?_
   | with_reducible refine x_and ?_
   | with_reducible refine x_or ?_
   | with_reducible refine x_not ?_
   | with_reducible refine x_yes ?_
   | with_reducible refine x_andV ?_
   | with_reducible refine x_orV ?_
   | with_reducible refine x_notV ?_
   | with_reducible refine x_fld ?_
   | with_reducible refine x_prop ?_
   | with_reducible refine x_meth ?_
   | with_reducible refine x_callI ?_
   | with_reducible refine x_make ?_
   | with_reducible refine x_sl ?_
   | with_reducible refine x_part ?_
   | with_reducible refine x_nopart ?_
   | with_reducible refine x_met ?_
   | with_reducible refine x_met0 ?_
   | with_reducible refine x_next ?_
   | with_reducible refine x_fmt ?_
   | with_reducible refine x_join ?_
   | with_reducible refine x_jcons ?_
   | with_reducible refine x_jnil ?_
   | with_reducible refine x_seqI ?_
   | with_reducible refine x_rng1 ?_
   | with_reducible refine x_rng2 ?_
   | with_reducible refine x_zip ?_
   | with_reducible refine x_listZip ?_
   | with_reducible refine x_lc ?_
   | with_reducible refine x_lcO ?_
   | with_reducible refine x_gsub ?_
   | with_reducible refine x_gcons ?_
   | with_reducible refine x_par ?_
   | with_reducible refine x_sfld ?_
   | with_reducible refine x_forS ?_
   | with_reducible refine x_arg ?_
   | with_reducible refine x_retN ?_
   | with_reducible refine x_brk ?_
   | with_reducible refine x_cont ?_
   | ((with_reducible refine x_var (d := ?_) fo ?_ ?_); rotate_left; rfl; clear fo; intro _ fo)
   | ((with_reducible refine x_c fo ?_); clear fo; intro fo)
   | ((with_reducible refine x_addI fo ?_); clear fo; intro fo)
   | ((with_reducible refine x_subI fo ?_); clear fo; intro fo)
   | ((with_reducible refine x_negI fo ?_); clear fo; intro fo)
   | ((with_reducible refine x_isN fo ?_); clear fo; intro fo)
   | ((with_reducible refine x_notN fo ?_); clear fo; intro fo)
   | ((with_reducible refine x_ltI fo ?_); clear fo; intro fo)
   | ((with_reducible refine x_leI fo ?_); clear fo; intro fo)
   | ((with_reducible refine x_gtI fo ?_); clear fo; intro fo)
   | ((with_reducible refine x_geI fo ?_); clear fo; intro fo)
   | ((with_reducible refine x_eqI fo ?_); clear fo; intro fo)
   | ((with_reducible refine x_neI fo ?_); clear fo; intro fo)
   | ((with_reducible refine x_max2 fo ?_); clear fo; intro fo)
   | ((with_reducible refine x_min2 fo ?_); clear fo; intro fo)
   | ((with_reducible refine x_intB fo ?_); clear fo; intro fo)
   | ((with_reducible refine x_intI fo ?_); clear fo; intro fo)
   | ((with_reducible refine x_lenT fo ?_); clear fo; intro fo)
   | ((with_reducible refine x_bool fo ?_); clear fo; intro fo)
   | ((with_reducible refine x_kPart fo ?_); clear fo; intro fo)
   | ((with_reducible refine x_kNotV fo ?_); clear fo; intro fo)
   | ((with_reducible refine x_kNe fo ?_); clear fo; intro fo)
   | ((with_reducible refine x_kStr fo ?_); clear fo; intro fo)
   | ((with_reducible refine is_Len ?_); (refine x_lenL fo (Or.inl rfl) ?_); clear fo; intro fo)
   | ((with_reducible refine x_mulI fo ?_ ?_); (unfold CMul; omega); clear fo; intro fo)
   | ((with_reducible refine x_modI fo ?_ ?_); omega; clear fo; intro fo)
   | ((with_reducible refine x_fdivI fo ?_ ?_); (constructor <;> omega); clear fo; intro fo)
   | ((with_reducible refine x_powI fo ?_ ?_); exact ⟨by decide, by decide, by decide⟩; clear fo; intro fo)
   | ((with_reducible refine is_Tup ?_); (first | (with_reducible refine x_mkTup fo (.cons (.cons .nil)) ?_ ?_) | (with_reducible refine x_mkTup fo (.cons .nil) ?_ ?_) | (with_reducible refine x_mkTup fo (.cons (.cons (.cons .nil))) ?_ ?_) | (with_reducible refine x_mkTup fo .nil ?_ ?_) | (with_reducible refine x_mkTup fo (.cons (.cons (.cons (.cons .nil)))) ?_ ?_) | (with_reducible refine x_mkTup fo (.cons (.cons (.cons (.cons (.cons .nil))))) ?_ ?_) | (with_reducible refine x_mkTup fo (.cons (.cons (.cons (.cons (.cons (.cons .nil)))))) ?_ ?_) | (with_reducible refine x_mkTup fo (.cons (.cons (.cons (.cons (.cons (.cons (.cons (.cons (.cons .nil))))))))) ?_ ?_)); exact Nat.le_of_ble_eq_true rfl; clear fo; intro _ F H fo)
   | ((with_reducible refine is_Lst ?_); (first | (with_reducible refine x_mkLst fo (.cons (.cons .nil)) ?_ ?_) | (with_reducible refine x_mkLst fo (.cons .nil) ?_ ?_) | (with_reducible refine x_mkLst fo (.cons (.cons (.cons .nil))) ?_ ?_) | (with_reducible refine x_mkLst fo .nil ?_ ?_) | (with_reducible refine x_mkLst fo (.cons (.cons (.cons (.cons .nil)))) ?_ ?_) | (with_reducible refine x_mkLst fo (.cons (.cons (.cons (.cons (.cons .nil))))) ?_ ?_) | (with_reducible refine x_mkLst fo (.cons (.cons (.cons (.cons (.cons (.cons .nil)))))) ?_ ?_) | (with_reducible refine x_mkLst fo (.cons (.cons (.cons (.cons (.cons (.cons (.cons (.cons (.cons .nil))))))))) ?_ ?_)); exact Nat.le_of_ble_eq_true rfl; clear fo; intro _ F H fo)
   | ((with_reducible refine is_LstO ?_); (first | (with_reducible refine x_mkLstO fo (.cons (.cons .nil)) ?_ ?_) | (with_reducible refine x_mkLstO fo (.cons .nil) ?_ ?_) | (with_reducible refine x_mkLstO fo (.cons (.cons (.cons .nil))) ?_ ?_) | (with_reducible refine x_mkLstO fo .nil ?_ ?_) | (with_reducible refine x_mkLstO fo (.cons (.cons (.cons (.cons .nil)))) ?_ ?_) | (with_reducible refine x_mkLstO fo (.cons (.cons (.cons (.cons (.cons .nil))))) ?_ ?_) | (with_reducible refine x_mkLstO fo (.cons (.cons (.cons (.cons (.cons (.cons .nil)))))) ?_ ?_) | (with_reducible refine x_mkLstO fo (.cons (.cons (.cons (.cons (.cons (.cons (.cons (.cons (.cons .nil))))))))) ?_ ?_)); exact Nat.le_of_ble_eq_true rfl; clear fo; intro _ H fo)
   | ((with_reducible refine x_gname fo ?_); clear fo; intro σ fo; try simp only [List.set_cons_zero, List.set_cons_succ] at fo)
   | ((with_reducible refine x_gtup2 fo ?_); clear fo; intro _ _ fo)
   | ((with_reducible refine x_gtup3 fo ?_); clear fo; intro _ _ _ fo)
   | (with_reducible refine x_gnil rfl ?_)
   | refine ite_y (by rfl) ?_
   | refine ite_n (by rfl) ?_))
section
variable {c : Cs} {vs : List V} {H : Hp} {Q : VK} {Ex : XK}
theorem pu_worse (h : sp_worse c vs H Q Ex) : t_worse c { nx := fun _ H' => Q .non H', rt := Q } (L2.start N_worse vs) H := by
  obtain ⟨⟨o1, o2, sg⟩, F, _, hl, fo, k⟩ := fo_start (n := 0) (E := ⟨c.K, none, isBox, fun _ => none, fun _ => none⟩) (N := N_worse) h
  obtain ⟨s, hs, es⟩ : ∃ s : Int, (s = 1 ∧ sg = true ∨ s = -1 ∧ sg = false) ∧ (if sg then 1 else -1 : Int) = s := by cases sg <;> simp
  replace fo : FO ⟨c.K, none, isBox, F, H⟩ [some (oD o1), some (oD o2), some (.int (if sg then 1 else -1)), none, none] [] [] F _ H := fo
  rw [es] at fo
  replace k : ∀ (v : V) (d : D) (F' H' : Hp), DL.Step none isBox F H F' H' → Rp c.K F' v d → d = oD (if sg then lesO o1 o2 else greO o1 o2) → Q v H' := k
  unfold t_worse
  walk_at "dl"
  refine x_seqT fo ?_; intro J dw
  refine x_lcS (xs := [o1, o2]) oD (fun o => o.map fun x => D.int (s * x)) dw fo (Nat.le_of_ble_eq_true rfl) (by decide) ?_ ?_
  · intro p acc F H σ x Nx _ fo te
    rcases x with _ | i
    · simp only [oD] at fo
      walk_at "dl"
      exact te.skip _ _ rfl fo
    · simp only [oD] at fo
      walk_at "dl"
      exact te.item _ _ _ _ rfl fo
  · clear fo; intro p F H fo
    obtain ⟨F, fo, _⟩ := fo.freeze
    rcases o1 with _ | i <;> rcases o2 with _ | j
    · replace fo : FO _ _ _ ((_, .lst []) :: _) _ _ _ := fo
      walk_at "dl"
      refine x_eqNil fo (.inl rfl) rfl rfl ?_; clear fo; intro fo
      walk_at "dl"
      exact k _ _ _ _ fo.st fo.top (by cases sg <;> rfl)
    · replace fo : FO _ _ _ ((_, .lst [.int (s * j)]) :: _) _ _ _ := fo
      walk_at "dl"
      refine x_eqNil fo (.inl rfl) rfl rfl ?_; clear fo; intro fo
      walk_at "dl"
      refine x_minL (ns := [s * j]) fo (.inl rfl) (Nat.zero_lt_succ _) ?_
      clear fo; intro m h1 h2 fo
      walk_at "dl"
      exact k _ _ _ _ fo.st fo.top (worse1 hs h1 (by cases sg <;> rfl))
    · replace fo : FO _ _ _ ((_, .lst [.int (s * i)]) :: _) _ _ _ := fo
      walk_at "dl"
      refine x_eqNil fo (.inl rfl) rfl rfl ?_; clear fo; intro fo
      walk_at "dl"
      refine x_minL (ns := [s * i]) fo (.inl rfl) (Nat.zero_lt_succ _) ?_
      clear fo; intro m h1 h2 fo
      walk_at "dl"
      exact k _ _ _ _ fo.st fo.top (worse1 hs h1 (by cases sg <;> rfl))
    · replace fo : FO _ _ _ ((_, .lst [.int (s * i), .int (s * j)]) :: _) _ _ _ := fo
      walk_at "dl"
      refine x_eqNil fo (.inl rfl) rfl rfl ?_; clear fo; intro fo
      walk_at "dl"
      refine x_minL (ns := [s * i, s * j]) fo (.inl rfl) (Nat.zero_lt_succ _) ?_
      clear fo; intro m h1 h2 fo
      walk_at "dl"
      exact k _ _ _ _ fo.st fo.top (worse2 hs h1 h2)
/-- what is_below walks -/
abbrev Tri := Option Int × Option Int × Int
def triD (t : Tri) : D := .tup [oD t.1, oD t.2.1, .int t.2.2]
def tris (a b : DL.Row) : List Tri := (a.1, b.1, 1) :: (a.2.zip b.2).map fun z => (z.1, z.2, -1)
theorem tris_all (a b : DL.Row) : belowF a b = (tris a b).all fun t => isLow t.2.2 t.1 t.2.1 := by
  unfold belowF tris
  rw [List.all_cons, List.all_map]
  congr 1
  generalize a.2 = as
  generalize b.2 = bs
  induction as generalizing bs with
  | nil => simp
  | cons x as ih =>
    cases bs with
    | nil => simp
    | cons y bs => rw [List.zipWith_cons_cons, List.zip_cons_cons, List.all_cons, List.all_cons, ih]; rfl
theorem tris_len (a b : DL.Row) (h : a.2.length ≤ 1000) : (tris a b).length ≤ 1001 := by
  unfold tris
  rw [List.length_cons, List.length_map, List.length_zip]; omega
theorem zip_tri : ∀ (as bs : List (Option Int)), (as.zip bs).filterMap (fun z => some (triD (z.1, z.2, -1))) = ((as.zip bs).map fun z => (z.1, z.2, (-1 : Int))).map triD
  | as, bs => by rw [fm_some, List.map_map]; rfl
theorem tri_step {α : Type} {P : α → Prop} {xs : List α} {i : Nat} {z : α} (e : xs[i]? = some z) (h : ∀ y ∈ xs.take i, P y) (hz : P z) : ∀ y ∈ xs.take (i + 1), P y := by
  intro y hy
  rw [List.take_succ, e] at hy
  rcases List.mem_append.mp hy with q | q
  · exact h y q
  · simp at q; subst q; exact hz
theorem pu_below (h : sp_below c vs H Q Ex) : t_below c { nx := fun _ H' => Q .non H', rt := Q } (L2.start N_below vs) H := by
  obtain ⟨⟨⟨a1, as⟩, ⟨b1, bs⟩⟩, F, ⟨hn, hm⟩, hl, fo, k⟩ := fo_start (n := 0) (E := ⟨c.K, none, isBox, fun _ => none, fun _ => none⟩) (N := N_below) h
  replace fo : FO ⟨c.K, none, isBox, F, H⟩ [some (rowD (a1, as)), some (rowD (b1, bs)), none, none, none] [] [] F _ H := fo
  replace hn : as.length = bs.length := hn
  replace hm : as.length ≤ 1000 := hm
  replace k : ∀ (v : V) (d : D) (F' H' : Hp), DL.Step none isBox F H F' H' → Rp c.K F' v d → d = .bl (belowF (a1, as) (b1, bs)) → Q v H' := k
  have htl := tris_len (a1, as) (b1, bs) hm
  unfold t_below
  walk_at "dl"
  refine x_ixT fo (by rfl) ?_; clear fo; intro _ fo
  walk_at "dl"
  refine x_ixT fo (by rfl) ?_; clear fo; intro _ fo
  walk_at "dl"
  refine x_ixT fo (by rfl) ?_; clear fo; intro _ fo
  walk_at "dl"
  refine x_ixT fo (by rfl) ?_; clear fo; intro _ fo
  walk_at "dl"
  refine x_kZip fo (.inl rfl) (.inl rfl) (fun z => nomatch z) ?_; clear fo; intro J p q dw fo
  refine x_lcZ (as := as) (bs := bs) oD oD (fun z => some (triD (z.1, z.2, -1))) dw fo hm (by decide) (by decide) ?_ ?_
  · clear fo; intro p acc F H σ a b Nx _ fo te
    walk_at "dl"
    exact te.item _ _ _ _ rfl fo
  · clear fo; intro p F H fo
    rw [zip_tri] at fo
    obtain ⟨F, fo, _⟩ := fo.freeze
    refine x_addL fo (.inl rfl) (.inl rfl) (by rw [List.length_map, List.length_map, List.length_zip]; simp; omega) ?_; clear fo; intro _ F H fo
    replace fo : FO _ _ _ ((_, .lst ((tris (a1, as) (b1, bs)).map triD)) :: _) _ _ _ := fo
    refine x_seqL fo ?_; intro J dw
    rw [List.length_map] at dw
    refine x_for (fun i G O => O = [] ∧ (∃ d2 d3 d4, G = [some (rowD (a1, as)), some (rowD (b1, bs)), d2, d3, d4]) ∧ ∀ z ∈ (tris (a1, as) (b1, bs)).take i, isLow z.2.2 z.1 z.2.1 = true) dw fo (fun z hz => hz) ⟨rfl, ⟨none, none, none, rfl⟩, by simp⟩ ?_ ?_
    · clear fo; rintro i G O F σ H v hi ⟨rfl, ⟨d2, d3, d4, rfl⟩, hz⟩ fo
      have e := List.getElem?_eq_getElem hi
      have e2 : itOf ((tris (a1, as) (b1, bs)).map triD) i = triD (tris (a1, as) (b1, bs))[i] := itOf_some (by rw [List.getElem?_map, e]; rfl)
      rw [e2] at fo
      have hmem := List.mem_of_getElem? e
      generalize (tris (a1, as) (b1, bs))[i] = t at fo e hmem
      obtain ⟨x, y, s⟩ := t
      have hs : s = 1 ∨ s = -1 := by
        unfold tris at hmem
        rcases List.mem_cons.mp hmem with z | z
        · cases z; exact .inl rfl
        · obtain ⟨_, _, z⟩ := List.mem_map.mp z
          cases z; exact .inr rfl
      have no : isLow s x y = false → belowF (a1, as) (b1, bs) = false := fun q => by
        rw [tris_all, Bool.eq_false_iff]
        intro z
        have := List.all_eq_true.mp z _ hmem
        rw [show isLow (x, y, s).2.2 (x, y, s).1 (x, y, s).2.1 = isLow s x y from rfl, q] at this
        cases this
      unfold triD at fo
      dsimp only at fo
      walk_at "dl"
      rcases y with _ | y
      · simp only [oD] at fo
        walk_at "dl"
        dsimp only
        refine x_li fo ?_
        exact ⟨rfl, ⟨_, _, _, rfl⟩, tri_step e hz rfl⟩
      · rcases x with _ | x
        · simp only [oD] at fo
          walk_at "dl"
          exact k _ _ _ _ fo.st fo.top (by show D.bl _ = D.bl _; rw [no rfl])
        · simp only [oD] at fo
          walk_at "dl"
          refine ite_b (fun hb => ?_) (fun hb => ?_)
          · replace hb : s * y < s * x := of_decide_eq_true hb
            walk_at "dl"
            exact k _ _ _ _ fo.st fo.top (by show D.bl _ = D.bl _; rw [no (by show decide _ = false; exact decide_eq_false (by omega))])
          · replace hb : ¬ s * y < s * x := of_decide_eq_false hb
            walk_at "dl"
            dsimp only
            refine x_li fo ?_
            exact ⟨rfl, ⟨_, _, _, rfl⟩, tri_step e hz (by show decide (s * x ≤ s * y) = true; exact decide_eq_true (by omega))⟩
    · clear fo; rintro G O F σ H ⟨rfl, ⟨d2, d3, d4, rfl⟩, hz⟩ fo
      rw [List.take_of_length_le (Nat.le_refl _)] at hz
      walk_at "dl"
      exact k _ _ _ _ fo.st fo.top (by show D.bl _ = D.bl _; rw [tris_all, List.all_eq_true.mpr hz])
end
end K26


set_option maxHeartbeats 4000000
namespace K26
open PySem PySem.Spec PyProof.Rows L2 DL
theorem pick_int {d : D} {ns : List Int} (h : d ∈ ns.map D.int) : ∃ n, n ∈ ns ∧ d = .int n := by
  obtain ⟨n, a, b⟩ := List.mem_map.mp h
  exact ⟨n, a, b.symm⟩
theorem pick_o {d : D} {ns : List (Option Int)} (h : d ∈ ns.map oD) : ∃ n, n ∈ ns ∧ d = oD n := by
  obtain ⟨n, a, b⟩ := List.mem_map.mp h
  exact ⟨n, a, b.symm⟩
theorem fm_ints : ∀ os : List (Option Int), os.filterMap (fun o => o.map D.int) = (os.filterMap id).map D.int
  | [] => rfl
  | o :: os => by rw [List.filterMap_cons, List.filterMap_cons, fm_ints os]; cases o <;> rfl
theorem toPyL_ints : ∀ ns : List Int, toPyL (ns.map D.int) = some (ns.map PyData.int)
  | [] => rfl
  | n :: ns => by rw [List.map_cons, toPyL, toPyL_ints ns]; rfl
theorem shaped_ints (ns : List Int) : SeqAt.shaped (.list (ns.map PyData.int)) = true := by
  have a : ∀ ns : List Int, PyData.canLayAll0 (ns.map PyData.int) = true := fun ns => by
    induction ns with
    | nil => rfl
    | cons n ns ih => rw [List.map_cons, PyData.canLayAll0, ih]; rfl
  have b : ∀ ns : List Int, PyData.depthAll (ns.map PyData.int) = 0 := fun ns => by
    induction ns with
    | nil => rfl
    | cons n ns ih => rw [List.map_cons, PyData.depthAll, ih]; rfl
  unfold SeqAt.shaped
  rw [PyData.canLay0, a, PyData.depth, b]; rfl
theorem cut_take {os : List (Option Int)} {i : Int} (h0 : 0 ≤ i) (h1 : i ≤ os.length) : DL.cutD (os.map oD) none (some i) = (os.take i.toNat).map oD := by
  unfold DL.cutD
  rw [HT.sIx_none, List.length_map]
  show List.take ((if i < 0 then (i + (os.length : Int)).toNat else min i.toNat os.length) - 0) _ = _
  rw [if_neg (by omega), List.drop_zero, Nat.sub_zero, Nat.min_eq_left (by omega), List.map_take]
theorem cut_drop {os : List (Option Int)} {i : Int} (h0 : 0 ≤ i) (h1 : i ≤ os.length) : DL.cutD (os.map oD) (some i) none = (os.drop i.toNat).map oD := by
  unfold DL.cutD
  rw [HT.sIx_none, List.length_map]
  show List.take (os.length - (if i < 0 then (i + (os.length : Int)).toNat else min i.toNat os.length)) (List.drop (if i < 0 then (i + (os.length : Int)).toNat else min i.toNat os.length) _) = _
  rw [if_neg (by omega), Nat.min_eq_left (by omega), List.map_drop]
  exact List.take_of_length_le (by rw [List.length_drop, List.length_map]; omega)
theorem fm_none {os : List (Option Int)} (h : ((os.filterMap id).map D.int).isEmpty = false) : ∃ o ∈ os, o ≠ none := by
  cases e : os.filterMap id with
  | nil => rw [e] at h; cases h
  | cons z zs =>
    have : z ∈ os.filterMap id := by rw [e]; exact List.mem_cons_self
    obtain ⟨o, ho, q⟩ := List.mem_filterMap.mp this
    exact ⟨o, ho, fun z => by rw [z] at q; cases q⟩
set_option hygiene false in
local macro_rules | `(tactic| walk_at "dl") => `(tactic| repeat (first
   | with_reducible refine x_seq ?_
   | with_reducible refine x_asg ?_
   | with_reducible refine x_ret ?_
   | with_reducible refine x_drop ?_
   | with_reducible refine x_ifS ?_
   | with_reducible refine x_op ?_
   | with_reducible refine x_un ?_
   | with_reducible refine x_cons ?_
   | with_reducible refine x_nil ?_
   | with_reducible refine x_cb ?_
   | with_reducible refine x_call ?_
   | with_reducible refine x_test ?_
   | with_reducible refine x_tB ?_
   | with_reducible refine x_tup ?_
   | with_reducible refine x_lst ?_
   | with_reducible refine x_lstO ?_
   | with_reducible refine x_if ?_
   | with_reducible refine x_and ?_
   | with_reducible refine x_or ?_
   | with_reducible refine x_not ?_
   | with_reducible refine x_yes ?_
   | with_reducible refine x_andV ?_
   | with_reducible refine x_orV ?_
   | with_reducible refine x_notV ?_
   | with_reducible refine x_fld ?_
   | with_reducible refine x_prop ?_
   | with_reducible refine x_meth ?_
   | with_reducible refine x_callI ?_
   | with_reducible refine x_make ?_
   | with_reducible refine x_sl ?_
   | with_reducible refine x_part ?_
   | with_reducible refine x_nopart ?_
   | with_reducible refine x_met ?_
   | with_reducible refine x_met0 ?_
   | with_reducible refine x_next ?_
   | with_reducible refine x_fmt ?_
   | with_reducible refine x_join ?_
   | with_reducible refine x_jcons ?_
   | with_reducible refine x_jnil ?_
   | with_reducible refine x_seqI ?_
   | with_reducible refine x_rng1 ?_
   | with_reducible refine x_rng2 ?_
   | with_reducible refine x_zip ?_
   | with_reducible refine x_listZip ?_
   | with_reducible refine x_lc ?_
   | with_reducible refine x_lcO ?_
   | with_reducible refine x_gsub ?_
   | with_reducible refine x_gcons ?_
   | with_reducible refine x_par ?_
   | with_reducible refine x_sfld ?_
   | with_reducible refine x_forS ?_
   | with_reducible refine x_arg ?_
   | with_reducible refine x_retN ?_
   | with_reducible refine x_brk ?_
   | with_reducible refine x_cont ?_
   | ((with_reducible refine x_var (d := ?_) fo ?_ ?_); rotate_left; rfl; clear fo; intro _ fo)
   | ((with_reducible refine x_c fo ?_); clear fo; intro fo)
   | ((with_reducible refine x_addI fo ?_); clear fo; intro fo)
   | ((with_reducible refine x_subI fo ?_); clear fo; intro fo)
   | ((with_reducible refine x_negI fo ?_); clear fo; intro fo)
   | ((with_reducible refine x_isN fo ?_); clear fo; intro fo)
   | ((with_reducible refine x_notN fo ?_); clear fo; intro fo)
   | ((with_reducible refine x_ltI fo ?_); clear fo; intro fo)
   | ((with_reducible refine x_leI fo ?_); clear fo; intro fo)
   | ((with_reducible refine x_gtI fo ?_); clear fo; intro fo)
   | ((with_reducible refine x_geI fo ?_); clear fo; intro fo)
   | ((with_reducible refine x_eqI fo ?_); clear fo; intro fo)
   | ((with_reducible refine x_neI fo ?_); clear fo; intro fo)
   | ((with_reducible refine x_max2 fo ?_); clear fo; intro fo)
   | ((with_reducible refine x_min2 fo ?_); clear fo; intro fo)
   | ((with_reducible refine x_intB fo ?_); clear fo; intro fo)
   | ((with_reducible refine x_intI fo ?_); clear fo; intro fo)
   | ((with_reducible refine x_lenT fo ?_); clear fo; intro fo)
   | ((with_reducible refine x_bool fo ?_); clear fo; intro fo)
   | ((with_reducible refine x_kPart fo ?_); clear fo; intro fo)
   | ((with_reducible refine x_kNotV fo ?_); clear fo; intro fo)
   | ((with_reducible refine x_kNe fo ?_); clear fo; intro fo)
   | ((with_reducible refine x_kStr fo ?_); clear fo; intro fo)
   | ((with_reducible refine is_Len ?_); (refine x_lenL fo (Or.inl rfl) ?_); clear fo; intro fo)
   | ((with_reducible refine x_mulI fo ?_ ?_); (unfold CMul; omega); clear fo; intro fo)
   | ((with_reducible refine x_modI fo ?_ ?_); omega; clear fo; intro fo)
   | ((with_reducible refine x_fdivI fo ?_ ?_); (constructor <;> omega); clear fo; intro fo)
   | ((with_reducible refine x_powI fo ?_ ?_); exact ⟨by decide, by decide, by decide⟩; clear fo; intro fo)
   | ((with_reducible refine is_Tup ?_); (first | (with_reducible refine x_mkTup fo (.cons (.cons .nil)) ?_ ?_) | (with_reducible refine x_mkTup fo (.cons .nil) ?_ ?_) | (with_reducible refine x_mkTup fo (.cons (.cons (.cons .nil))) ?_ ?_) | (with_reducible refine x_mkTup fo .nil ?_ ?_) | (with_reducible refine x_mkTup fo (.cons (.cons (.cons (.cons .nil)))) ?_ ?_) | (with_reducible refine x_mkTup fo (.cons (.cons (.cons (.cons (.cons .nil))))) ?_ ?_) | (with_reducible refine x_mkTup fo (.cons (.cons (.cons (.cons (.cons (.cons .nil)))))) ?_ ?_) | (with_reducible refine x_mkTup fo (.cons (.cons (.cons (.cons (.cons (.cons (.cons (.cons (.cons .nil))))))))) ?_ ?_)); exact Nat.le_of_ble_eq_true rfl; clear fo; intro _ F H fo)
   | ((with_reducible refine is_Lst ?_); (first | (with_reducible refine x_mkLst fo (.cons (.cons .nil)) ?_ ?_) | (with_reducible refine x_mkLst fo (.cons .nil) ?_ ?_) | (with_reducible refine x_mkLst fo (.cons (.cons (.cons .nil))) ?_ ?_) | (with_reducible refine x_mkLst fo .nil ?_ ?_) | (with_reducible refine x_mkLst fo (.cons (.cons (.cons (.cons .nil)))) ?_ ?_) | (with_reducible refine x_mkLst fo (.cons (.cons (.cons (.cons (.cons .nil))))) ?_ ?_) | (with_reducible refine x_mkLst fo (.cons (.cons (.cons (.cons (.cons (.cons .nil)))))) ?_ ?_) | (with_reducible refine x_mkLst fo (.cons (.cons (.cons (.cons (.cons (.cons (.cons (.cons (.cons .nil))))))))) ?_ ?_)); exact Nat.le_of_ble_eq_true rfl; clear fo; intro _ F H fo)
   | ((with_reducible refine is_LstO ?_); (first | (with_reducible refine x_mkLstO fo (.cons (.cons .nil)) ?_ ?_) | (with_reducible refine x_mkLstO fo (.cons .nil) ?_ ?_) | (with_reducible refine x_mkLstO fo (.cons (.cons (.cons .nil))) ?_ ?_) | (with_reducible refine x_mkLstO fo .nil ?_ ?_) | (with_reducible refine x_mkLstO fo (.cons (.cons (.cons (.cons .nil)))) ?_ ?_) | (with_reducible refine x_mkLstO fo (.cons (.cons (.cons (.cons (.cons .nil))))) ?_ ?_) | (with_reducible refine x_mkLstO fo (.cons (.cons (.cons (.cons (.cons (.cons .nil)))))) ?_ ?_) | (with_reducible refine x_mkLstO fo (.cons (.cons (.cons (.cons (.cons (.cons (.cons (.cons (.cons .nil))))))))) ?_ ?_)); exact Nat.le_of_ble_eq_true rfl; clear fo; intro _ H fo)
   | ((with_reducible refine x_gname fo ?_); clear fo; intro σ fo; try simp only [List.set_cons_zero, List.set_cons_succ] at fo)
   | ((with_reducible refine x_gtup2 fo ?_); clear fo; intro _ _ fo)
   | ((with_reducible refine x_gtup3 fo ?_); clear fo; intro _ _ _ fo)
   | (with_reducible refine x_gnil rfl ?_)
   | refine ite_y (by rfl) ?_
   | refine ite_n (by rfl) ?_))
section
variable {c : Cs} {vs : List V} {H : Hp} {Q : VK} {Ex : XK}
theorem pu_near (h : sp_near c vs H Q Ex) : t_near c { nx := fun _ H' => Q .non H', rt := Q } (L2.start N_near vs) H := by
  obtain ⟨⟨b, n, ⟨l, os⟩⟩, F, ⟨ok, hn⟩, hl, fo, k⟩ := fo_start (n := 0) (E := ⟨c.K, none, isBox, fun _ => none, fun _ => none⟩) (N := N_near) h
  replace fo : FO ⟨c.K, some b, isBox, F, H⟩ [some (D.at b), some (rowD (l, os)), none, none, none, none, none, none] [] [] F _ H := fo
  replace ok : OkRow n (l, os) := ok
  replace hn : n ≤ 10 := hn
  replace k : ∀ (v : V) (d : D) (F' H' : Hp), DL.Step (some b) isBox F H F' H' → Rp c.K F' v d → (∃ r, OkRow n r ∧ d = rowD r) → Q v H' := k
  have hlen : os.length = n := ok.len
  have bl : ∀ i, l = some i → -100 ≤ i ∧ i ≤ 100 := ok.le
  have bo : ∀ i, some i ∈ os → -100 ≤ i ∧ i ≤ 100 := ok.lo
  unfold t_near
  simp only [rowD] at fo
  walk_at "dl"
  ((first | (refine x_fn (b, ((os.map oD).length : Int) + 1) fo (.cons .nil) ?_ ?_ ?_ ?_) | (refine x_fn (b, ((os.map oD).length : Int) + 1) fo (.cons (.cons .nil)) ?_ ?_ ?_ ?_) | (refine x_fn (b, ((os.map oD).length : Int) + 1) fo (.cons (.cons (.cons .nil))) ?_ ?_ ?_ ?_)); rfl; (first | exact Or.inl rfl | exact Or.inr ⟨rfl, rfl⟩); (exact ⟨by show (1 : Int) ≤ ((os.map oD).length : Int) + 1; omega, by show ((os.map oD).length : Int) + 1 < 1073741824; rw [List.length_map]; omega⟩); clear fo; intro _ _ F H e_ fo)
  obtain ⟨a, e_, a0, a1⟩ := e_
  subst e_
  replace a1 : a < ((os.map oD).length : Int) + 1 := a1
  rw [List.length_map] at a1
  walk_at "dl"
  refine ite_b (fun hb => ?_) (fun hb => ?_)
  · rcases l with _ | l0
    · simp only [oD] at fo
      walk_at "dl"
      ((first | (refine x_fn (b, [none, none, some 7, some (-1)].map oD) fo (.cons .nil) ?_ ?_ ?_ ?_) | (refine x_fn (b, [none, none, some 7, some (-1)].map oD) fo (.cons (.cons .nil)) ?_ ?_ ?_ ?_) | (refine x_fn (b, [none, none, some 7, some (-1)].map oD) fo (.cons (.cons (.cons .nil))) ?_ ?_ ?_ ?_)); rfl; (first | exact Or.inl rfl | exact Or.inr ⟨rfl, rfl⟩); (exact ⟨Nat.zero_lt_succ _, Nat.le_of_ble_eq_true rfl⟩); clear fo; intro _ _ F H e_ fo)
      walk_at "dl"
      obtain ⟨l', hl', e2⟩ := pick_o e_
      subst e2
      have bl' : ∀ i, l' = some i → -100 ≤ i ∧ i ≤ 100 := by
        intro i e
        subst e
        simp at hl'
        omega
      obtain ⟨os', eo⟩ : ∃ os', os' = os := ⟨_, rfl⟩
      subst eo
      have bo' := bo
      have ln := hlen
      walk_at "dl"
      rcases l' with _ | l0
      · simp only [oD] at fo
        walk_at "dl"
        refine x_seqT fo ?_; intro J dw
        rw [List.length_map] at dw
        refine x_lcS (xs := os') oD (fun o => o.map D.int) dw fo (by omega) (by decide) ?_ ?_
        · intro p acc F H σ x Nx _ fo te
          rcases x with _ | i
          · simp only [oD] at fo
            walk_at "dl"
            exact te.skip _ _ rfl fo
          · simp only [oD] at fo
            walk_at "dl"
            exact te.item _ _ _ _ rfl fo
        · clear fo; intro p F H fo
          rw [fm_ints] at fo
          obtain ⟨F, fo, _⟩ := fo.freeze
          walk_at "dl"
          refine x_eqNil fo (.inl rfl) (toPyL_ints _) (shaped_ints _) ?_; clear fo; intro fo
          walk_at "dl"
          refine ite_b (fun hb => ?_) (fun hb => ?_)
          · walk_at "dl"
            exact k _ _ _ _ fo.st fo.top ⟨(some 3, os'), ⟨ln, .inl (fun z => nomatch z), fun i e => by cases e; omega, bo'⟩, rfl⟩
          · walk_at "dl"
            exact k _ _ _ _ fo.st fo.top ⟨(none, os'), ⟨ln, .inr (fm_none hb), (fun i e => nomatch e), bo'⟩, rfl⟩
      · simp only [oD] at fo
        walk_at "dl"
        exact k _ _ _ _ fo.st fo.top ⟨(some l0, os'), ⟨ln, .inl (fun z => nomatch z), bl', bo'⟩, rfl⟩
    · simp only [oD] at fo
      have := bl l0 rfl
      walk_at "dl"
      ((first | (refine x_fn (b, [some l0, none, some 7, some (max (-1) (l0 - 1))].map oD) fo (.cons .nil) ?_ ?_ ?_ ?_) | (refine x_fn (b, [some l0, none, some 7, some (max (-1) (l0 - 1))].map oD) fo (.cons (.cons .nil)) ?_ ?_ ?_ ?_) | (refine x_fn (b, [some l0, none, some 7, some (max (-1) (l0 - 1))].map oD) fo (.cons (.cons (.cons .nil))) ?_ ?_ ?_ ?_)); rfl; (first | exact Or.inl rfl | exact Or.inr ⟨rfl, rfl⟩); (exact ⟨Nat.zero_lt_succ _, Nat.le_of_ble_eq_true rfl⟩); clear fo; intro _ _ F H e_ fo)
      walk_at "dl"
      obtain ⟨l', hl', e2⟩ := pick_o e_
      subst e2
      have bl' : ∀ i, l' = some i → -100 ≤ i ∧ i ≤ 100 := by
        intro i e
        subst e
        simp at hl'
        omega
      obtain ⟨os', eo⟩ : ∃ os', os' = os := ⟨_, rfl⟩
      subst eo
      have bo' := bo
      have ln := hlen
      walk_at "dl"
      rcases l' with _ | l0
      · simp only [oD] at fo
        walk_at "dl"
        refine x_seqT fo ?_; intro J dw
        rw [List.length_map] at dw
        refine x_lcS (xs := os') oD (fun o => o.map D.int) dw fo (by omega) (by decide) ?_ ?_
        · intro p acc F H σ x Nx _ fo te
          rcases x with _ | i
          · simp only [oD] at fo
            walk_at "dl"
            exact te.skip _ _ rfl fo
          · simp only [oD] at fo
            walk_at "dl"
            exact te.item _ _ _ _ rfl fo
        · clear fo; intro p F H fo
          rw [fm_ints] at fo
          obtain ⟨F, fo, _⟩ := fo.freeze
          walk_at "dl"
          refine x_eqNil fo (.inl rfl) (toPyL_ints _) (shaped_ints _) ?_; clear fo; intro fo
          walk_at "dl"
          refine ite_b (fun hb => ?_) (fun hb => ?_)
          · walk_at "dl"
            exact k _ _ _ _ fo.st fo.top ⟨(some 3, os'), ⟨ln, .inl (fun z => nomatch z), fun i e => by cases e; omega, bo'⟩, rfl⟩
          · walk_at "dl"
            exact k _ _ _ _ fo.st fo.top ⟨(none, os'), ⟨ln, .inr (fm_none hb), (fun i e => nomatch e), bo'⟩, rfl⟩
      · simp only [oD] at fo
        walk_at "dl"
        exact k _ _ _ _ fo.st fo.top ⟨(some l0, os'), ⟨ln, .inl (fun z => nomatch z), bl', bo'⟩, rfl⟩
  · replace hb : ¬ a = 0 := of_decide_eq_false hb
    have hj : (a - 1).toNat < os.length := by omega
    have hat : L2.atI (os.map oD) (a - 1) = some (oD os[(a - 1).toNat]) := atI_nn (by omega) (by rw [List.getElem?_map, List.getElem?_eq_getElem hj]; rfl)
    have hmm : os[(a - 1).toNat] ∈ os := List.getElem_mem hj
    rcases ho : os[(a - 1).toNat] with _ | x0
    · rw [ho] at hat
      simp only [oD] at hat
      walk_at "dl"
      refine x_ixT fo hat ?_; clear fo; intro _ fo
      obtain ⟨hi_, ehi⟩ : ∃ hi_ : Int, hi_ = 4 := ⟨_, rfl⟩
      walk_at "dl"
      rw [← ehi] at fo
      have hib : -100 ≤ hi_ ∧ hi_ ≤ 100 := by omega
      walk_at "dl"
      refine x_slT fo ?_; clear fo; intro _ F H fo
      rw [cut_take (by omega) (by omega)] at fo
      walk_at "dl"
      ((first | (refine x_fn (b, [D.non, D.int 9, D.int hi_]) fo (.cons .nil) ?_ ?_ ?_ ?_) | (refine x_fn (b, [D.non, D.int 9, D.int hi_]) fo (.cons (.cons .nil)) ?_ ?_ ?_ ?_) | (refine x_fn (b, [D.non, D.int 9, D.int hi_]) fo (.cons (.cons (.cons .nil))) ?_ ?_ ?_ ?_)); rfl; (first | exact Or.inl rfl | exact Or.inr ⟨rfl, rfl⟩); (exact ⟨Nat.zero_lt_succ _, Nat.le_of_ble_eq_true rfl⟩); clear fo; intro _ _ F H e_ fo)
      obtain ⟨o', ho', e2⟩ := pick_o (ns := [none, some 9, some hi_]) e_
      subst e2
      have bo1 : ∀ i, o' = some i → -100 ≤ i ∧ i ≤ 100 := by
        intro i e
        subst e
        simp at ho'
        omega
      walk_at "dl"
      refine x_addT fo (by simp; omega) ?_; clear fo; intro _ F H fo
      walk_at "dl"
      refine x_slT fo ?_; clear fo; intro _ F H fo
      rw [cut_drop (by omega) (by omega)] at fo
      refine x_addT fo (by simp; omega) ?_; clear fo; intro _ F H fo
      obtain ⟨os', eo⟩ : ∃ os', os' = os.take (a - 1).toNat ++ [o'] ++ os.drop a.toNat := ⟨_, rfl⟩
      have ee : (List.map oD (List.take (a - 1).toNat os) ++ [oD o'] ++ List.map oD (List.drop a.toNat os)) = os'.map oD := by rw [eo]; simp
      rw [ee] at fo
      have ln : os'.length = n := by rw [eo]; simp; omega
      have bo' : ∀ i, some i ∈ os' → -100 ≤ i ∧ i ≤ 100 := by
        intro i hi
        rw [eo] at hi
        rcases List.mem_append.mp hi with q | q
        · rcases List.mem_append.mp q with q | q
          · exact bo i (List.mem_of_mem_take q)
          · simp at q; exact bo1 i q.symm
        · exact bo i (List.mem_of_mem_drop q)
      obtain ⟨l', el⟩ : ∃ l', l' = l := ⟨_, rfl⟩
      subst el
      have bl' := bl
      walk_at "dl"
      rcases l' with _ | l0
      · simp only [oD] at fo
        walk_at "dl"
        refine x_seqT fo ?_; intro J dw
        rw [List.length_map] at dw
        refine x_lcS (xs := os') oD (fun o => o.map D.int) dw fo (by omega) (by decide) ?_ ?_
        · intro p acc F H σ x Nx _ fo te
          rcases x with _ | i
          · simp only [oD] at fo
            walk_at "dl"
            exact te.skip _ _ rfl fo
          · simp only [oD] at fo
            walk_at "dl"
            exact te.item _ _ _ _ rfl fo
        · clear fo; intro p F H fo
          rw [fm_ints] at fo
          obtain ⟨F, fo, _⟩ := fo.freeze
          walk_at "dl"
          refine x_eqNil fo (.inl rfl) (toPyL_ints _) (shaped_ints _) ?_; clear fo; intro fo
          walk_at "dl"
          refine ite_b (fun hb => ?_) (fun hb => ?_)
          · walk_at "dl"
            exact k _ _ _ _ fo.st fo.top ⟨(some 3, os'), ⟨ln, .inl (fun z => nomatch z), fun i e => by cases e; omega, bo'⟩, rfl⟩
          · walk_at "dl"
            exact k _ _ _ _ fo.st fo.top ⟨(none, os'), ⟨ln, .inr (fm_none hb), (fun i e => nomatch e), bo'⟩, rfl⟩
      · simp only [oD] at fo
        walk_at "dl"
        exact k _ _ _ _ fo.st fo.top ⟨(some l0, os'), ⟨ln, .inl (fun z => nomatch z), bl', bo'⟩, rfl⟩
    · rw [ho] at hat hmm
      simp only [oD] at hat
      walk_at "dl"
      refine x_ixT fo hat ?_; clear fo; intro _ fo
      walk_at "dl"
      refine x_ixT fo hat ?_; clear fo; intro _ fo
      obtain ⟨hi_, ehi⟩ : ∃ hi_ : Int, hi_ = min 61 (x0 + 1) := ⟨_, rfl⟩
      walk_at "dl"
      rw [← ehi] at fo
      have hib : -100 ≤ hi_ ∧ hi_ ≤ 100 := by have := bo x0 hmm; omega
      walk_at "dl"
      refine x_slT fo ?_; clear fo; intro _ F H fo
      rw [cut_take (by omega) (by omega)] at fo
      walk_at "dl"
      ((first | (refine x_fn (b, [D.non, D.int 9, D.int hi_]) fo (.cons .nil) ?_ ?_ ?_ ?_) | (refine x_fn (b, [D.non, D.int 9, D.int hi_]) fo (.cons (.cons .nil)) ?_ ?_ ?_ ?_) | (refine x_fn (b, [D.non, D.int 9, D.int hi_]) fo (.cons (.cons (.cons .nil))) ?_ ?_ ?_ ?_)); rfl; (first | exact Or.inl rfl | exact Or.inr ⟨rfl, rfl⟩); (exact ⟨Nat.zero_lt_succ _, Nat.le_of_ble_eq_true rfl⟩); clear fo; intro _ _ F H e_ fo)
      obtain ⟨o', ho', e2⟩ := pick_o (ns := [none, some 9, some hi_]) e_
      subst e2
      have bo1 : ∀ i, o' = some i → -100 ≤ i ∧ i ≤ 100 := by
        intro i e
        subst e
        simp at ho'
        omega
      walk_at "dl"
      refine x_addT fo (by simp; omega) ?_; clear fo; intro _ F H fo
      walk_at "dl"
      refine x_slT fo ?_; clear fo; intro _ F H fo
      rw [cut_drop (by omega) (by omega)] at fo
      refine x_addT fo (by simp; omega) ?_; clear fo; intro _ F H fo
      obtain ⟨os', eo⟩ : ∃ os', os' = os.take (a - 1).toNat ++ [o'] ++ os.drop a.toNat := ⟨_, rfl⟩
      have ee : (List.map oD (List.take (a - 1).toNat os) ++ [oD o'] ++ List.map oD (List.drop a.toNat os)) = os'.map oD := by rw [eo]; simp
      rw [ee] at fo
      have ln : os'.length = n := by rw [eo]; simp; omega
      have bo' : ∀ i, some i ∈ os' → -100 ≤ i ∧ i ≤ 100 := by
        intro i hi
        rw [eo] at hi
        rcases List.mem_append.mp hi with q | q
        · rcases List.mem_append.mp q with q | q
          · exact bo i (List.mem_of_mem_take q)
          · simp at q; exact bo1 i q.symm
        · exact bo i (List.mem_of_mem_drop q)
      obtain ⟨l', el⟩ : ∃ l', l' = l := ⟨_, rfl⟩
      subst el
      have bl' := bl
      walk_at "dl"
      rcases l' with _ | l0
      · simp only [oD] at fo
        walk_at "dl"
        refine x_seqT fo ?_; intro J dw
        rw [List.length_map] at dw
        refine x_lcS (xs := os') oD (fun o => o.map D.int) dw fo (by omega) (by decide) ?_ ?_
        · intro p acc F H σ x Nx _ fo te
          rcases x with _ | i
          · simp only [oD] at fo
            walk_at "dl"
            exact te.skip _ _ rfl fo
          · simp only [oD] at fo
            walk_at "dl"
            exact te.item _ _ _ _ rfl fo
        · clear fo; intro p F H fo
          rw [fm_ints] at fo
          obtain ⟨F, fo, _⟩ := fo.freeze
          walk_at "dl"
          refine x_eqNil fo (.inl rfl) (toPyL_ints _) (shaped_ints _) ?_; clear fo; intro fo
          walk_at "dl"
          refine ite_b (fun hb => ?_) (fun hb => ?_)
          · walk_at "dl"
            exact k _ _ _ _ fo.st fo.top ⟨(some 3, os'), ⟨ln, .inl (fun z => nomatch z), fun i e => by cases e; omega, bo'⟩, rfl⟩
          · walk_at "dl"
            exact k _ _ _ _ fo.st fo.top ⟨(none, os'), ⟨ln, .inr (fm_none hb), (fun i e => nomatch e), bo'⟩, rfl⟩
      · simp only [oD] at fo
        walk_at "dl"
        exact k _ _ _ _ fo.st fo.top ⟨(some l0, os'), ⟨ln, .inl (fun z => nomatch z), bl', bo'⟩, rfl⟩
end
end K26


set_option maxHeartbeats 4000000
namespace K26
open PySem PySem.Spec PyProof.Rows L2 DL
set_option hygiene false in
local macro_rules | `(tactic| walk_at "dl") => `(tactic| repeat (first
   | with_reducible refine x_seq ?_
   | with_reducible refine x_asg ?_
   | with_reducible refine x_ret ?_
   | with_reducible refine x_drop ?_
   | with_reducible refine x_ifS ?_
   | with_reducible refine x_op ?_
   | with_reducible refine x_un ?_
   | with_reducible refine x_cons ?_
   | with_reducible refine x_nil ?_
   | with_reducible refine x_cb ?_
   | with_reducible refine x_call ?_
   | with_reducible refine x_test ?_
   | with_reducible refine x_tB ?_
   | with_reducible refine x_tup ?_
   | with_reducible refine x_lst ?_
   | with_reducible refine x_lstO ?_
   | with_reducible refine x_if ?_
   | with_reducible refine x_and ?_
   | with_reducible refine x_or ?_
   | with_reducible refine x_not ?_
   | with_reducible refine x_yes ?_
   | with_reducible refine x_andV ?_
   | with_reducible refine x_orV ?_
   | with_reducible refine x_notV ?_
   | with_reducible refine x_fld ?_
   | with_reducible refine x_prop ?_
   | with_reducible refine x_meth ?_
   | with_reducible refine x_callI ?_
   | with_reducible refine x_make ?_
   | with_reducible refine x_sl ?_
   | with_reducible refine x_part ?_
   | with_reducible refine x_nopart ?_
   | with_reducible refine x_met ?_
   | with_reducible refine x_met0 ?_
   | with_reducible refine x_next ?_
   | with_reducible refine x_fmt ?_
   | with_reducible refine x_join ?_
   | with_reducible refine x_jcons ?_
   | with_reducible refine x_jnil ?_
   | with_reducible refine x_seqI ?_
   | with_reducible refine x_rng1 ?_
   | with_reducible refine x_rng2 ?_
   | with_reducible refine x_zip ?_
   | with_reducible refine x_listZip ?_
   | with_reducible refine x_lc ?_
   | with_reducible refine x_lcO ?_
   | with_reducible refine x_gsub ?_
   | with_reducible refine x_gcons ?_
   | with_reducible refine x_par ?_
   | with_reducible refine x_sfld ?_
   | with_reducible refine x_forS ?_
   | with_reducible refine x_arg ?_
   | with_reducible refine x_retN ?_
   | with_reducible refine x_brk ?_
   | with_reducible refine x_cont ?_
   | ((with_reducible refine x_var (d := ?_) fo ?_ ?_); rotate_left; rfl; clear fo; intro _ fo)
   | ((with_reducible refine x_c fo ?_); clear fo; intro fo)
   | ((with_reducible refine x_addI fo ?_); clear fo; intro fo)
   | ((with_reducible refine x_subI fo ?_); clear fo; intro fo)
   | ((with_reducible refine x_negI fo ?_); clear fo; intro fo)
   | ((with_reducible refine x_isN fo ?_); clear fo; intro fo)
   | ((with_reducible refine x_notN fo ?_); clear fo; intro fo)
   | ((with_reducible refine x_ltI fo ?_); clear fo; intro fo)
   | ((with_reducible refine x_leI fo ?_); clear fo; intro fo)
   | ((with_reducible refine x_gtI fo ?_); clear fo; intro fo)
   | ((with_reducible refine x_geI fo ?_); clear fo; intro fo)
   | ((with_reducible refine x_eqI fo ?_); clear fo; intro fo)
   | ((with_reducible refine x_neI fo ?_); clear fo; intro fo)
   | ((with_reducible refine x_max2 fo ?_); clear fo; intro fo)
   | ((with_reducible refine x_min2 fo ?_); clear fo; intro fo)
   | ((with_reducible refine x_intB fo ?_); clear fo; intro fo)
   | ((with_reducible refine x_intI fo ?_); clear fo; intro fo)
   | ((with_reducible refine x_lenT fo ?_); clear fo; intro fo)
   | ((with_reducible refine x_bool fo ?_); clear fo; intro fo)
   | ((with_reducible refine x_kPart fo ?_); clear fo; intro fo)
   | ((with_reducible refine x_kNotV fo ?_); clear fo; intro fo)
   | ((with_reducible refine x_kNe fo ?_); clear fo; intro fo)
   | ((with_reducible refine x_kStr fo ?_); clear fo; intro fo)
   | ((with_reducible refine is_Len ?_); (refine x_lenL fo (Or.inl rfl) ?_); clear fo; intro fo)
   | ((with_reducible refine x_mulI fo ?_ ?_); (unfold CMul; omega); clear fo; intro fo)
   | ((with_reducible refine x_modI fo ?_ ?_); omega; clear fo; intro fo)
   | ((with_reducible refine x_fdivI fo ?_ ?_); (constructor <;> omega); clear fo; intro fo)
   | ((with_reducible refine x_powI fo ?_ ?_); exact ⟨by decide, by decide, by decide⟩; clear fo; intro fo)
   | ((with_reducible refine is_Tup ?_); (first | (with_reducible refine x_mkTup fo (.cons (.cons .nil)) ?_ ?_) | (with_reducible refine x_mkTup fo (.cons .nil) ?_ ?_) | (with_reducible refine x_mkTup fo (.cons (.cons (.cons .nil))) ?_ ?_) | (with_reducible refine x_mkTup fo .nil ?_ ?_) | (with_reducible refine x_mkTup fo (.cons (.cons (.cons (.cons .nil)))) ?_ ?_) | (with_reducible refine x_mkTup fo (.cons (.cons (.cons (.cons (.cons .nil))))) ?_ ?_) | (with_reducible refine x_mkTup fo (.cons (.cons (.cons (.cons (.cons (.cons .nil)))))) ?_ ?_) | (with_reducible refine x_mkTup fo (.cons (.cons (.cons (.cons (.cons (.cons (.cons (.cons (.cons .nil))))))))) ?_ ?_)); exact Nat.le_of_ble_eq_true rfl; clear fo; intro _ F H fo)
   | ((with_reducible refine is_Lst ?_); (first | (with_reducible refine x_mkLst fo (.cons (.cons .nil)) ?_ ?_) | (with_reducible refine x_mkLst fo (.cons .nil) ?_ ?_) | (with_reducible refine x_mkLst fo (.cons (.cons (.cons .nil))) ?_ ?_) | (with_reducible refine x_mkLst fo .nil ?_ ?_) | (with_reducible refine x_mkLst fo (.cons (.cons (.cons (.cons .nil)))) ?_ ?_) | (with_reducible refine x_mkLst fo (.cons (.cons (.cons (.cons (.cons .nil))))) ?_ ?_) | (with_reducible refine x_mkLst fo (.cons (.cons (.cons (.cons (.cons (.cons .nil)))))) ?_ ?_) | (with_reducible refine x_mkLst fo (.cons (.cons (.cons (.cons (.cons (.cons (.cons (.cons (.cons .nil))))))))) ?_ ?_)); exact Nat.le_of_ble_eq_true rfl; clear fo; intro _ F H fo)
   | ((with_reducible refine is_LstO ?_); (first | (with_reducible refine x_mkLstO fo (.cons (.cons .nil)) ?_ ?_) | (with_reducible refine x_mkLstO fo (.cons .nil) ?_ ?_) | (with_reducible refine x_mkLstO fo (.cons (.cons (.cons .nil))) ?_ ?_) | (with_reducible refine x_mkLstO fo .nil ?_ ?_) | (with_reducible refine x_mkLstO fo (.cons (.cons (.cons (.cons .nil)))) ?_ ?_) | (with_reducible refine x_mkLstO fo (.cons (.cons (.cons (.cons (.cons .nil))))) ?_ ?_) | (with_reducible refine x_mkLstO fo (.cons (.cons (.cons (.cons (.cons (.cons .nil)))))) ?_ ?_) | (with_reducible refine x_mkLstO fo (.cons (.cons (.cons (.cons (.cons (.cons (.cons (.cons (.cons .nil))))))))) ?_ ?_)); exact Nat.le_of_ble_eq_true rfl; clear fo; intro _ H fo)
   | ((with_reducible refine x_gname fo ?_); clear fo; intro σ fo; try simp only [List.set_cons_zero, List.set_cons_succ] at fo)
   | ((with_reducible refine x_gtup2 fo ?_); clear fo; intro _ _ fo)
   | ((with_reducible refine x_gtup3 fo ?_); clear fo; intro _ _ _ fo)
   | (with_reducible refine x_gnil rfl ?_)
   | refine ite_y (by rfl) ?_
   | refine ite_n (by rfl) ?_))
section
variable {c : Cs} {vs : List V} {H : Hp} {Q : VK} {Ex : XK}
/-- what stands between two turns of alike -/
def AL (p : Addr) (x : D) (m : Nat) (G : List (Option D)) (O : List (Addr × List D)) : Prop :=
  ∃ xs : List D, (∀ y ∈ xs, plainD y = true ∧ depD y ≤ 50) ∧ sumS xs = m ∧ xs.length ≤ 1000 ∧ O = [(p, xs.map twin)] ∧ sumS xs ≤ 1000 ∧ ∃ d3 d4, G = [some x, some x, some (D.at p), d3, d4]
theorem sum_len : ∀ {xs : List D}, xs.length ≤ sumS xs
  | [] => Nat.le_refl _
  | x :: xs => by
    have := sum_len (xs := xs)
    have h : 1 ≤ sizeD x := by cases x <;> simp [sizeD]
    rw [sumS, List.length_cons]; omega
theorem pu_alike (h : sp_alike c vs H Q Ex) : t_alike c { nx := fun _ H' => Q .non H', rt := Q } (L2.start N_alike vs) H := by
  obtain ⟨x, F, ⟨hp, hs, hd⟩, hl, fo, k⟩ := fo_start (n := 0) (E := ⟨c.K, none, isBox, fun _ => none, fun _ => none⟩) (N := N_alike) h
  replace fo : FO ⟨c.K, none, isBox, F, H⟩ [some x, some x, none, none, none] [] [] F _ H := fo
  unfold t_alike
  walk_at "dl"
  replace fo : FO _ _ [(_, [twin x])] _ _ _ _ := fo
  refine x_while (AL _ x) (sizeD x) fo ⟨[x], by simp [hp, hd], by simp [sumS], by simp, rfl, by simp [sumS]; exact hs, none, none, rfl⟩ ?_ ?_
  · clear fo; rintro m G O F σ H ⟨xs, hx, hm, hl2, rfl, hs2, d3, d4, rfl⟩ fo
    obtain ⟨ps, e1, e2, e3, e4⟩ := twins_py hx
    walk_at "dl"
    refine x_neNil fo (.inr ⟨_, rfl, List.mem_cons_self⟩) e1 (by unfold SeqAt.shaped; rw [PyData.canLay0, e2, PyData.depth]; simp; omega) ?_; clear fo; intro fo
    walk_at "dl"
    rcases List.eq_nil_or_concat xs with rfl | ⟨ys, y, rfl⟩
    · walk_at "dl"
      exact k _ _ _ _ fo.st fo.top rfl
    · refine ite_y (by simp) ?_
      walk_at "dl"
      rw [List.concat_eq_append, List.map_append] at fo
      refine x_kMet0L fo (.inr ⟨_, rfl, List.mem_cons_self⟩) ?_
      refine x_popL fo ?_; clear fo; intro _ H fo
      rw [List.concat_eq_append] at hx hm hl2 hs2
      rw [sumS_append] at hm hs2
      have hsy : sumS [y] = sizeD y := by simp [sumS]
      have hxy := hx y (by simp)
      have hxs : ∀ z ∈ ys, plainD z = true ∧ depD z ≤ 50 := fun z hz => hx z (by simp [hz])
      unfold twin at fo
      walk_at "dl"
      rcases y with v | zs | zs | _ | _
      · rcases v with _ | b | b | b | b | b | b | b
        · refine x_isi2 fo rfl rfl rfl ?_; clear fo; intro fo
          walk_at "dl"
          refine x_isi2 fo rfl rfl rfl ?_; clear fo; intro fo
          walk_at "dl"
          refine x_isi fo rfl rfl ?_; clear fo; intro fo
          walk_at "dl"
          refine x_isi fo rfl rfl ?_; clear fo; intro fo
          refine x_neB fo ?_; clear fo; intro fo
          walk_at "dl"
          refine x_neSelf (d' := .non) fo hxy.1 (by have := hxy.2; omega) ?_; clear fo; intro fo
          walk_at "dl"
          exact ⟨sumS ys, by rw [hsy] at hm; simp only [sizeD] at hm; omega, x_li fo ⟨ys, hxs, rfl, by simp at hl2; omega, rfl, by omega, _, _, rfl⟩⟩
        · cases b
          · refine x_isi2 fo rfl rfl rfl ?_; clear fo; intro fo
            walk_at "dl"
            refine x_isi2 fo rfl rfl rfl ?_; clear fo; intro fo
            walk_at "dl"
            refine x_isi fo rfl rfl ?_; clear fo; intro fo
            walk_at "dl"
            refine x_isi fo rfl rfl ?_; clear fo; intro fo
            refine x_neB fo ?_; clear fo; intro fo
            walk_at "dl"
            refine x_neSelf (d' := .non) fo hxy.1 (by have := hxy.2; omega) ?_; clear fo; intro fo
            walk_at "dl"
            exact ⟨sumS ys, by rw [hsy] at hm; simp only [sizeD] at hm; omega, x_li fo ⟨ys, hxs, rfl, by simp at hl2; omega, rfl, by omega, _, _, rfl⟩⟩
          · refine x_isi2 fo rfl rfl rfl ?_; clear fo; intro fo
            walk_at "dl"
            refine x_isi2 fo rfl rfl rfl ?_; clear fo; intro fo
            walk_at "dl"
            refine x_isi fo rfl rfl ?_; clear fo; intro fo
            walk_at "dl"
            refine x_isi fo rfl rfl ?_; clear fo; intro fo
            refine x_neB fo ?_; clear fo; intro fo
            walk_at "dl"
            refine x_neSelf (d' := .non) fo hxy.1 (by have := hxy.2; omega) ?_; clear fo; intro fo
            walk_at "dl"
            exact ⟨sumS ys, by rw [hsy] at hm; simp only [sizeD] at hm; omega, x_li fo ⟨ys, hxs, rfl, by simp at hl2; omega, rfl, by omega, _, _, rfl⟩⟩
        · refine x_isi2 fo rfl rfl rfl ?_; clear fo; intro fo
          walk_at "dl"
          refine x_isi2 fo rfl rfl rfl ?_; clear fo; intro fo
          walk_at "dl"
          refine x_isi fo rfl rfl ?_; clear fo; intro fo
          walk_at "dl"
          refine x_isi fo rfl rfl ?_; clear fo; intro fo
          refine x_neB fo ?_; clear fo; intro fo
          walk_at "dl"
          refine ite_n (by simp) ?_
          walk_at "dl"
          exact ⟨sumS ys, by rw [hsy] at hm; simp only [sizeD] at hm; omega, x_li fo ⟨ys, hxs, rfl, by simp at hl2; omega, rfl, by omega, _, _, rfl⟩⟩
        · refine x_isi2 fo rfl rfl rfl ?_; clear fo; intro fo
          walk_at "dl"
          refine x_isi2 fo rfl rfl rfl ?_; clear fo; intro fo
          walk_at "dl"
          refine x_isi fo rfl rfl ?_; clear fo; intro fo
          walk_at "dl"
          refine x_isi fo rfl rfl ?_; clear fo; intro fo
          refine x_neB fo ?_; clear fo; intro fo
          walk_at "dl"
          refine x_neSelf (d' := .non) fo hxy.1 (by have := hxy.2; omega) ?_; clear fo; intro fo
          walk_at "dl"
          exact ⟨sumS ys, by rw [hsy] at hm; simp only [sizeD] at hm; omega, x_li fo ⟨ys, hxs, rfl, by simp at hl2; omega, rfl, by omega, _, _, rfl⟩⟩
        · cases hxy.1
        · cases hxy.1
        · cases hxy.1
        · cases hxy.1
      · have hz : plainL zs = true := hxy.1
        have hdz : depL zs + 1 ≤ 50 := hxy.2
        have hsz : sizeD (.lst zs) = sumS zs + 1 := by rw [sizeD, sizeL_sum]
        refine x_isi2 fo rfl rfl rfl ?_; clear fo; intro fo
        walk_at "dl"
        refine x_isi fo rfl rfl ?_; clear fo; intro fo
        walk_at "dl"
        refine x_isi fo rfl rfl ?_; clear fo; intro fo
        refine x_neB fo ?_; clear fo; intro fo
        walk_at "dl"
        refine x_isi fo rfl rfl ?_; clear fo; intro fo
        walk_at "dl"
        refine x_isi fo rfl rfl ?_; clear fo; intro fo
        refine x_neB fo ?_; clear fo; intro fo
        walk_at "dl"
        refine ite_n (by simp) ?_
        walk_at "dl"
        refine x_kMetL fo (.inr ⟨_, rfl, List.mem_cons_self⟩) ?_
        walk_at "dl"
        have hzl := sum_len (xs := zs)
        rw [hsy] at hm hs2
        refine x_kLz fo (by first | exact Or.inl rfl | exact Or.inr (Or.inl rfl)) (by first | exact Or.inl rfl | exact Or.inr (Or.inl rfl)) rfl (by omega) ?_; clear fo; intro _ F H fo
        rw [pair_twin] at fo
        have hyl := sum_len (xs := ys)
        walk_at "dl"
        refine x_extend fo (.inl rfl) (by rw [List.length_map, List.length_map]; omega) ?_; clear fo; intro H fo
        replace fo : FO _ _ [(_, List.map twin ys ++ List.map twin zs)] _ _ _ _ := fo
        rw [← List.map_append] at fo
        walk_at "dl"
        refine ⟨sumS (ys ++ zs), by rw [sumS_append]; omega, x_liS fo (fun _ h => nomatch h) ⟨ys ++ zs, fun z hz2 => ?_, rfl, by rw [List.length_append]; omega, rfl, by rw [sumS_append]; omega, _, _, rfl⟩⟩
        rcases List.mem_append.mp hz2 with q | q
        · exact hxs z q
        · exact ⟨plainL_mem hz z q, by have := depL_mem q; omega⟩
      · have hz : plainL zs = true := hxy.1
        have hdz : depL zs + 1 ≤ 50 := hxy.2
        have hsz : sizeD (.tup zs) = sumS zs + 1 := by rw [sizeD, sizeL_sum]
        refine x_isi2 fo rfl rfl rfl ?_; clear fo; intro fo
        walk_at "dl"
        refine x_isi fo rfl rfl ?_; clear fo; intro fo
        walk_at "dl"
        refine x_isi fo rfl rfl ?_; clear fo; intro fo
        refine x_neB fo ?_; clear fo; intro fo
        walk_at "dl"
        refine x_isi fo rfl rfl ?_; clear fo; intro fo
        walk_at "dl"
        refine x_isi fo rfl rfl ?_; clear fo; intro fo
        refine x_neB fo ?_; clear fo; intro fo
        walk_at "dl"
        refine ite_n (by simp) ?_
        walk_at "dl"
        refine x_kMetL fo (.inr ⟨_, rfl, List.mem_cons_self⟩) ?_
        walk_at "dl"
        have hzl := sum_len (xs := zs)
        rw [hsy] at hm hs2
        refine x_kLz fo (by first | exact Or.inl rfl | exact Or.inr (Or.inl rfl)) (by first | exact Or.inl rfl | exact Or.inr (Or.inl rfl)) rfl (by omega) ?_; clear fo; intro _ F H fo
        rw [pair_twin] at fo
        have hyl := sum_len (xs := ys)
        walk_at "dl"
        refine x_extend fo (.inl rfl) (by rw [List.length_map, List.length_map]; omega) ?_; clear fo; intro H fo
        replace fo : FO _ _ [(_, List.map twin ys ++ List.map twin zs)] _ _ _ _ := fo
        rw [← List.map_append] at fo
        walk_at "dl"
        refine ⟨sumS (ys ++ zs), by rw [sumS_append]; omega, x_liS fo (fun _ h => nomatch h) ⟨ys ++ zs, fun z hz2 => ?_, rfl, by rw [List.length_append]; omega, rfl, by rw [sumS_append]; omega, _, _, rfl⟩⟩
        rcases List.mem_append.mp hz2 with q | q
        · exact hxs z q
        · exact ⟨plainL_mem hz z q, by have := depL_mem q; omega⟩
      · cases hxy.1
      · cases hxy.1
  · intro σ H Q Q' hq h
    obtain ⟨v, e, hl, h⟩ := h
    refine ⟨v, e, hl, fun p hp => ?_⟩
    rcases h p hp with ⟨a, b, h1, h2, h3, h4, b', e', q⟩ | ⟨h1, b', e', q⟩
    · exact .inl ⟨a, b, h1, h2, h3, h4, b', e', hq _ _ q⟩
    · exact .inr ⟨h1, b', e', hq _ _ q⟩
end
end K26


set_option maxHeartbeats 4000000
namespace K26
open PySem PySem.Spec PyProof.Rows L2 DL
theorem three_at {a b n : Int} (h0 : 0 ≤ n) (h1 : n < 3) (ha : -100 ≤ a ∧ a ≤ 100) (hb : -100 ≤ b ∧ b ≤ 100) : ∃ o : Option Int, L2.atI [D.non, D.int a, D.int b] n = some (oD o) ∧ ∀ i, o = some i → -100 ≤ i ∧ i ≤ 100 := by
  have : n = 0 ∨ n = 1 ∨ n = 2 := by omega
  rcases this with rfl | rfl | rfl
  · exact ⟨none, rfl, fun i e => nomatch e⟩
  · exact ⟨some a, rfl, fun i e => by cases e; exact ha⟩
  · exact ⟨some b, rfl, fun i e => by cases e; exact hb⟩
set_option hygiene false in
local macro_rules | `(tactic| walk_at "dl") => `(tactic| repeat (first
   | with_reducible refine x_seq ?_
   | with_reducible refine x_asg ?_
   | with_reducible refine x_ret ?_
   | with_reducible refine x_drop ?_
   | with_reducible refine x_ifS ?_
   | with_reducible refine x_op ?_
   | with_reducible refine x_un ?_
   | with_reducible refine x_cons ?_
   | with_reducible refine x_nil ?_
   | with_reducible refine x_cb ?_
   | with_reducible refine x_call ?_
   | with_reducible refine x_test ?_
   | with_reducible refine x_tB ?_
   | with_reducible refine x_tup ?_
   | with_reducible refine x_lst ?_
   | with_reducible refine x_lstO ?_
   | with_reducible refine x_if ?_
   | with_reducible refine x_and ?_
   | with_reducible refine x_or ?_
   | with_reducible refine x_not ?_
   | with_reducible refine x_yes ?_
   | with_reducible refine x_andV ?_
   | with_reducible refine x_orV ?_
   | with_reducible refine x_notV ?_
   | with_reducible refine x_fld ?_
   | with_reducible refine x_prop ?_
   | with_reducible refine x_meth ?_
   | with_reducible refine x_callI ?_
   | with_reducible refine x_make ?_
   | with_reducible refine x_sl ?_
   | with_reducible refine x_part ?_
   | with_reducible refine x_nopart ?_
   | with_reducible refine x_met ?_
   | with_reducible refine x_met0 ?_
   | with_reducible refine x_next ?_
   | with_reducible refine x_fmt ?_
   | with_reducible refine x_join ?_
   | with_reducible refine x_jcons ?_
   | with_reducible refine x_jnil ?_
   | with_reducible refine x_seqI ?_
   | with_reducible refine x_rng1 ?_
   | with_reducible refine x_rng2 ?_
   | with_reducible refine x_zip ?_
   | with_reducible refine x_listZip ?_
   | with_reducible refine x_lc ?_
   | with_reducible refine x_lcO ?_
   | with_reducible refine x_gsub ?_
   | with_reducible refine x_gcons ?_
   | with_reducible refine x_par ?_
   | with_reducible refine x_sfld ?_
   | with_reducible refine x_forS ?_
   | with_reducible refine x_arg ?_
   | with_reducible refine x_retN ?_
   | with_reducible refine x_brk ?_
   | with_reducible refine x_cont ?_
   | ((with_reducible refine x_var (d := ?_) fo ?_ ?_); rotate_left; rfl; clear fo; intro _ fo)
   | ((with_reducible refine x_c fo ?_); clear fo; intro fo)
   | ((with_reducible refine x_addI fo ?_); clear fo; intro fo)
   | ((with_reducible refine x_subI fo ?_); clear fo; intro fo)
   | ((with_reducible refine x_negI fo ?_); clear fo; intro fo)
   | ((with_reducible refine x_isN fo ?_); clear fo; intro fo)
   | ((with_reducible refine x_notN fo ?_); clear fo; intro fo)
   | ((with_reducible refine x_ltI fo ?_); clear fo; intro fo)
   | ((with_reducible refine x_leI fo ?_); clear fo; intro fo)
   | ((with_reducible refine x_gtI fo ?_); clear fo; intro fo)
   | ((with_reducible refine x_geI fo ?_); clear fo; intro fo)
   | ((with_reducible refine x_eqI fo ?_); clear fo; intro fo)
   | ((with_reducible refine x_neI fo ?_); clear fo; intro fo)
   | ((with_reducible refine x_max2 fo ?_); clear fo; intro fo)
   | ((with_reducible refine x_min2 fo ?_); clear fo; intro fo)
   | ((with_reducible refine x_intB fo ?_); clear fo; intro fo)
   | ((with_reducible refine x_intI fo ?_); clear fo; intro fo)
   | ((with_reducible refine x_lenT fo ?_); clear fo; intro fo)
   | ((with_reducible refine x_bool fo ?_); clear fo; intro fo)
   | ((with_reducible refine x_kPart fo ?_); clear fo; intro fo)
   | ((with_reducible refine x_kNotV fo ?_); clear fo; intro fo)
   | ((with_reducible refine x_kNe fo ?_); clear fo; intro fo)
   | ((with_reducible refine x_kStr fo ?_); clear fo; intro fo)
   | ((with_reducible refine is_Len ?_); (refine x_lenL fo (Or.inl rfl) ?_); clear fo; intro fo)
   | ((with_reducible refine x_mulI fo ?_ ?_); (unfold CMul; omega); clear fo; intro fo)
   | ((with_reducible refine x_modI fo ?_ ?_); omega; clear fo; intro fo)
   | ((with_reducible refine x_fdivI fo ?_ ?_); (constructor <;> omega); clear fo; intro fo)
   | ((with_reducible refine x_powI fo ?_ ?_); exact ⟨by decide, by decide, by decide⟩; clear fo; intro fo)
   | ((with_reducible refine is_Tup ?_); (first | (with_reducible refine x_mkTup fo (.cons (.cons .nil)) ?_ ?_) | (with_reducible refine x_mkTup fo (.cons .nil) ?_ ?_) | (with_reducible refine x_mkTup fo (.cons (.cons (.cons .nil))) ?_ ?_) | (with_reducible refine x_mkTup fo .nil ?_ ?_) | (with_reducible refine x_mkTup fo (.cons (.cons (.cons (.cons .nil)))) ?_ ?_) | (with_reducible refine x_mkTup fo (.cons (.cons (.cons (.cons (.cons .nil))))) ?_ ?_) | (with_reducible refine x_mkTup fo (.cons (.cons (.cons (.cons (.cons (.cons .nil)))))) ?_ ?_) | (with_reducible refine x_mkTup fo (.cons (.cons (.cons (.cons (.cons (.cons (.cons (.cons (.cons .nil))))))))) ?_ ?_)); exact Nat.le_of_ble_eq_true rfl; clear fo; intro _ F H fo)
   | ((with_reducible refine is_Lst ?_); (first | (with_reducible refine x_mkLst fo (.cons (.cons .nil)) ?_ ?_) | (with_reducible refine x_mkLst fo (.cons .nil) ?_ ?_) | (with_reducible refine x_mkLst fo (.cons (.cons (.cons .nil))) ?_ ?_) | (with_reducible refine x_mkLst fo .nil ?_ ?_) | (with_reducible refine x_mkLst fo (.cons (.cons (.cons (.cons .nil)))) ?_ ?_) | (with_reducible refine x_mkLst fo (.cons (.cons (.cons (.cons (.cons .nil))))) ?_ ?_) | (with_reducible refine x_mkLst fo (.cons (.cons (.cons (.cons (.cons (.cons .nil)))))) ?_ ?_) | (with_reducible refine x_mkLst fo (.cons (.cons (.cons (.cons (.cons (.cons (.cons (.cons (.cons .nil))))))))) ?_ ?_)); exact Nat.le_of_ble_eq_true rfl; clear fo; intro _ F H fo)
   | ((with_reducible refine is_LstO ?_); (first | (with_reducible refine x_mkLstO fo (.cons (.cons .nil)) ?_ ?_) | (with_reducible refine x_mkLstO fo (.cons .nil) ?_ ?_) | (with_reducible refine x_mkLstO fo (.cons (.cons (.cons .nil))) ?_ ?_) | (with_reducible refine x_mkLstO fo .nil ?_ ?_) | (with_reducible refine x_mkLstO fo (.cons (.cons (.cons (.cons .nil)))) ?_ ?_) | (with_reducible refine x_mkLstO fo (.cons (.cons (.cons (.cons (.cons .nil))))) ?_ ?_) | (with_reducible refine x_mkLstO fo (.cons (.cons (.cons (.cons (.cons (.cons .nil)))))) ?_ ?_) | (with_reducible refine x_mkLstO fo (.cons (.cons (.cons (.cons (.cons (.cons (.cons (.cons (.cons .nil))))))))) ?_ ?_)); exact Nat.le_of_ble_eq_true rfl; clear fo; intro _ H fo)
   | ((with_reducible refine x_gname fo ?_); clear fo; intro σ fo; try simp only [List.set_cons_zero, List.set_cons_succ] at fo)
   | ((with_reducible refine x_gtup2 fo ?_); clear fo; intro _ _ fo)
   | ((with_reducible refine x_gtup3 fo ?_); clear fo; intro _ _ _ fo)
   | (with_reducible refine x_gnil rfl ?_)
   | refine ite_y (by rfl) ?_
   | refine ite_n (by rfl) ?_))
section
variable {c : Cs} {vs : List V} {H : Hp} {Q : VK} {Ex : XK}
theorem pu_row (h : sp_row c vs H Q Ex) : t_row c { nx := fun _ H' => Q .non H', rt := Q } (L2.start N_row vs) H := by
  obtain ⟨⟨b, n⟩, F, hn, hl, fo, k⟩ := fo_start (n := 0) (E := ⟨c.K, none, isBox, fun _ => none, fun _ => none⟩) (N := N_row) h
  replace fo : FO ⟨c.K, some b, isBox, F, H⟩ [some (D.at b), some (.int n), none, none, none, none] [] [] F _ H := fo
  replace hn : n ≤ 10 := hn
  replace k : ∀ (v : V) (d : D) (F' H' : Hp), DL.Step (some b) isBox F H F' H' → Rp c.K F' v d → (∃ r, OkRow n r ∧ d = rowD r) → Q v H' := k
  unfold t_row
  walk_at "dl"
  ((first | (refine x_fn (b, 62) fo (.cons .nil) ?_ ?_ ?_ ?_) | (refine x_fn (b, 62) fo (.cons (.cons .nil)) ?_ ?_ ?_ ?_) | (refine x_fn (b, 62) fo (.cons (.cons (.cons .nil))) ?_ ?_ ?_ ?_)); rfl; (first | exact Or.inl rfl | exact Or.inr ⟨rfl, rfl⟩); (exact ⟨by show (1 : Int) ≤ 62; decide, by show (62 : Int) < 1073741824; decide⟩); clear fo; intro _ _ F H e_ fo)
  obtain ⟨n1, e_, n10, n11⟩ := e_
  subst e_
  replace n11 : n1 < 62 := n11
  walk_at "dl"
  ((first | (refine x_fn (b, [-1, 0, 1, 2, 59, 60].map D.int) fo (.cons .nil) ?_ ?_ ?_ ?_) | (refine x_fn (b, [-1, 0, 1, 2, 59, 60].map D.int) fo (.cons (.cons .nil)) ?_ ?_ ?_ ?_) | (refine x_fn (b, [-1, 0, 1, 2, 59, 60].map D.int) fo (.cons (.cons (.cons .nil))) ?_ ?_ ?_ ?_)); rfl; (first | exact Or.inl rfl | exact Or.inr ⟨rfl, rfl⟩); (exact ⟨Nat.zero_lt_succ _, Nat.le_of_ble_eq_true rfl⟩); clear fo; intro _ _ F H e_ fo)
  obtain ⟨n2, m2, e2⟩ := pick_int e_
  subst e2
  replace m2 : -100 ≤ n2 ∧ n2 ≤ 100 := by simp at m2; omega
  walk_at "dl"
  ((first | (refine x_fn (b, 3) fo (.cons .nil) ?_ ?_ ?_ ?_) | (refine x_fn (b, 3) fo (.cons (.cons .nil)) ?_ ?_ ?_ ?_) | (refine x_fn (b, 3) fo (.cons (.cons (.cons .nil))) ?_ ?_ ?_ ?_)); rfl; (first | exact Or.inl rfl | exact Or.inr ⟨rfl, rfl⟩); (exact ⟨by show (1 : Int) ≤ 3; decide, by show (3 : Int) < 1073741824; decide⟩); clear fo; intro _ _ F H e_ fo)
  obtain ⟨n3, e_, n30, n31⟩ := e_
  subst e_
  replace n31 : n3 < 3 := n31
  obtain ⟨l', hi, bl'⟩ := three_at n30 n31 (show -100 ≤ n1 - 1 ∧ n1 - 1 ≤ 100 by omega) m2
  refine x_ixL fo (.inl rfl) hi ?_; clear fo hi; intro _ fo
  walk_at "dl"
  clear m2 n10 n11 n30 n31
  refine x_kRng1 fo (by omega) (by omega) ?_; clear fo; intro J dw fo
  rw [Int.toNat_natCast] at dw
  refine x_for (fun i G O => ∃ os' d4, os'.length = i ∧ (∀ i, some i ∈ os' → -100 ≤ i ∧ i ≤ 100) ∧ O = [(_, os'.map oD)] ∧ G = [some (D.at b), some (.int n), some (oD l'), some (D.at _), d4, none]) dw fo (fun z hz => nomatch hz) ⟨[], none, rfl, (fun i h => nomatch h), rfl, rfl⟩ ?_ ?_
  · clear fo; rintro i G O F σ H v hi ⟨os', d4, hlen, bo', rfl, rfl⟩ fo
    walk_at "dl"
    refine x_kMetL fo (.inr ⟨_, rfl, List.mem_cons_self⟩) ?_
    walk_at "dl"
    ((first | (refine x_fn (b, 62) fo (.cons .nil) ?_ ?_ ?_ ?_) | (refine x_fn (b, 62) fo (.cons (.cons .nil)) ?_ ?_ ?_ ?_) | (refine x_fn (b, 62) fo (.cons (.cons (.cons .nil))) ?_ ?_ ?_ ?_)); rfl; (first | exact Or.inl rfl | exact Or.inr ⟨rfl, rfl⟩); (exact ⟨by show (1 : Int) ≤ 62; decide, by show (62 : Int) < 1073741824; decide⟩); clear fo; intro _ _ F H e_ fo)
    obtain ⟨n1, e_, n10, n11⟩ := e_
    subst e_
    replace n11 : n1 < 62 := n11
    walk_at "dl"
    ((first | (refine x_fn (b, [0, 1, 2, 59, 60, 61].map D.int) fo (.cons .nil) ?_ ?_ ?_ ?_) | (refine x_fn (b, [0, 1, 2, 59, 60, 61].map D.int) fo (.cons (.cons .nil)) ?_ ?_ ?_ ?_) | (refine x_fn (b, [0, 1, 2, 59, 60, 61].map D.int) fo (.cons (.cons (.cons .nil))) ?_ ?_ ?_ ?_)); rfl; (first | exact Or.inl rfl | exact Or.inr ⟨rfl, rfl⟩); (exact ⟨Nat.zero_lt_succ _, Nat.le_of_ble_eq_true rfl⟩); clear fo; intro _ _ F H e_ fo)
    obtain ⟨n2, m2, e2⟩ := pick_int e_
    subst e2
    replace m2 : -100 ≤ n2 ∧ n2 ≤ 100 := by simp at m2; omega
    walk_at "dl"
    ((first | (refine x_fn (b, 3) fo (.cons .nil) ?_ ?_ ?_ ?_) | (refine x_fn (b, 3) fo (.cons (.cons .nil)) ?_ ?_ ?_ ?_) | (refine x_fn (b, 3) fo (.cons (.cons (.cons .nil))) ?_ ?_ ?_ ?_)); rfl; (first | exact Or.inl rfl | exact Or.inr ⟨rfl, rfl⟩); (exact ⟨by show (1 : Int) ≤ 3; decide, by show (3 : Int) < 1073741824; decide⟩); clear fo; intro _ _ F H e_ fo)
    obtain ⟨n3, e_, n30, n31⟩ := e_
    subst e_
    replace n31 : n3 < 3 := n31
    obtain ⟨o', hi2, bo1⟩ := three_at n30 n31 (show -100 ≤ n1 ∧ n1 ≤ 100 by omega) m2
    refine x_ixL fo (.inl rfl) hi2 ?_; clear fo hi2; intro _ fo
    walk_at "dl"
    refine x_append fo (by rw [List.length_map]; omega) ?_; clear fo; intro H fo
    walk_at "dl"
    dsimp only
    refine x_liS fo (fun _ h => nomatch h) ⟨os' ++ [o'], _, by rw [List.length_append, hlen]; rfl, fun i hi => ?_, by rw [List.map_append]; rfl, rfl⟩
    rcases List.mem_append.mp hi with q | q
    · exact bo' i q
    · simp at q; exact bo1 i q.symm
  · clear fo; rintro G O F σ H ⟨os', d4, ln, bo', rfl, rfl⟩ fo
    refine x_freezeSlot (i := 3) fo rfl ?_; clear fo; intro F fo
    rcases l' with _ | l0
    · simp only [oD] at fo
      walk_at "dl"
      refine x_seqL fo ?_; intro J dw
      rw [List.length_map] at dw
      refine x_lcS (xs := os') oD (fun o => o.map D.int) dw fo (by omega) (by decide) ?_ ?_
      · intro p acc F H σ x Nx _ fo te
        rcases x with _ | i
        · simp only [oD] at fo
          walk_at "dl"
          exact te.skip _ _ rfl fo
        · simp only [oD] at fo
          walk_at "dl"
          exact te.item _ _ _ _ rfl fo
      · clear fo; intro p F H fo
        rw [fm_ints] at fo
        obtain ⟨F, fo, _⟩ := fo.freeze
        walk_at "dl"
        refine x_eqNil fo (.inl rfl) (toPyL_ints _) (shaped_ints _) ?_; clear fo; intro fo
        walk_at "dl"
        refine ite_b (fun hb => ?_) (fun hb => ?_)
        · walk_at "dl"
          ((first | (refine x_fn (b, 61) fo (.cons .nil) ?_ ?_ ?_ ?_) | (refine x_fn (b, 61) fo (.cons (.cons .nil)) ?_ ?_ ?_ ?_) | (refine x_fn (b, 61) fo (.cons (.cons (.cons .nil))) ?_ ?_ ?_ ?_)); rfl; (first | exact Or.inl rfl | exact Or.inr ⟨rfl, rfl⟩); (exact ⟨by show (1 : Int) ≤ 61; decide, by show (61 : Int) < 1073741824; decide⟩); clear fo; intro _ _ F H e_ fo)
          obtain ⟨n1, e_, n10, n11⟩ := e_
          subst e_
          replace n11 : n1 < 61 := n11
          walk_at "dl"
          refine x_tupleOf fo (.inr (.inl rfl)) ?_; clear fo; intro _ F H fo
          walk_at "dl"
          exact k _ _ _ _ fo.st fo.top ⟨(some n1, os'), ⟨ln, .inl (fun z => nomatch z), fun i e => by cases e; omega, bo'⟩, rfl⟩
        · walk_at "dl"
          refine x_tupleOf fo (.inr (.inl rfl)) ?_; clear fo; intro _ F H fo
          walk_at "dl"
          exact k _ _ _ _ fo.st fo.top ⟨(none, os'), ⟨ln, .inr (fm_none hb), (fun i e => nomatch e), bo'⟩, rfl⟩
    · simp only [oD] at fo
      walk_at "dl"
      refine x_tupleOf fo (.inr (.inl rfl)) ?_; clear fo; intro _ F H fo
      walk_at "dl"
      exact k _ _ _ _ fo.st fo.top ⟨(some l0, os'), ⟨ln, .inl (fun z => nomatch z), bl', bo'⟩, rfl⟩
end
end K26


set_option maxHeartbeats 4000000
namespace K26
open PySem PySem.Spec PyProof.Rows L2 DL
def t_pairR (c : Cs) : TS :=
  tSeq (tAsg (tCB (cTuple c.K) (tCons (tLc (iSeqU c.K (tOp (rIx c.K) (tVar 1) (tC (.int 1)))) (gName 8) (tYes) (tCall (sp_pick c) [] E0 (tCons (tVar 0) (tCons (tLst (tCons (tUn rNegI (tC (.int 1))) (tCons (tC (.int 0)) (tCons (tC (.int 60)) (tCons (tOp (rSubI) (tCall (sp_take c) [] E0 (tCons (tVar 0) (tCons (tC (.int 62)) (tNil)))) (tC (.int 1))) (tNil)))))) (tNil)))) [8]) (tNil))) (gName 7))
    (tSeq (tIfS (tNot (tB (tCall (sp_alike c) [] E0 (tCons (tLst (tCons (tCallI c.LifeRow (sp_lr_call c) (tVar 4) (tCons (tVar 7) (tNil))) (tCons (tCallI c.LifeRow (sp_lr_call c) (tVar 5) (tCons (tVar 7) (tNil))) (tNil)))) (tCons (tLst (tCons (tCall (sp_bound c) [] E0 (tCons (tVar 1) (tCons (tVar 7) (tNil)))) (tCons (tCall (sp_bound c) [] E0 (tCons (tVar 2) (tCons (tVar 7) (tNil)))) (tNil)))) (tNil)))))) (tRet (tC (.bl false))) (tNext))
    (tSeq (tIfS (tTest (tOp (rNeU c.K) (tCB (cRepr c.K c.LifeRow (sp_lr_repr c)) (tCons (tVar 4) (tNil))) (tOp (rAddU c.K) (tOp (rAddU c.K) (tOp (rAddU c.K) (tOp (rAddU c.K) (tC (.str "LifeRow(")) (tCB (cRepr c.K c.LifeRow (sp_lr_repr c)) (tCons (tOp (rIx c.K) (tVar 1) (tC (.int 0))) (tNil)))) (tC (.str ", "))) (tCB (cRepr c.K c.LifeRow (sp_lr_repr c)) (tCons (tOp (rIx c.K) (tVar 1) (tC (.int 1))) (tNil)))) (tC (.str ")"))))) (tRet (tC (.bl false))) (tNext))
    (tSeq (tFor (iSeqU c.K (tTup (tCons (tCB (cRepr c.K c.LifeRow (sp_lr_repr c)) (tCons (tVar 4) (tNil))) (tCons (tVar 1) (tCons (tC .non) (tCons (tC (.int 7)) (tNil))))))) (gName 9) (tIfS (tOr (tTest (tOp (rOwnEq c.K c.LifeRow (sp_lr_eq c)) (tVar 4) (tVar 9))) (tNot (tTest (tOp (rOwnNe c.K c.LifeRow (sp_lr_eq c)) (tVar 4) (tVar 9))))) (tRet (tC (.bl false))) (tNext)))
    (tRet (tCall (sp_alike c) [] E0 (tCons (tLst (tCons (tCall (sp_parts c) [] E0 (tCons (tVar 4) (tNil))) (tCons (tCall (sp_parts c) [] E0 (tCons (tVar 5) (tNil))) (tNil)))) (tCons (tLst (tCons (tVar 1) (tCons (tVar 2) (tNil)))) (tNil))))))))
theorem repr_text (r : DL.Row) : ((("LifeRow(" : String) : Str) ++ shO r.1 ++ ((", " : String) : Str) ++ shT r.2 ++ ((")" : String) : Str)) = reprF r := by
  unfold reprF
  rw [Str.empty_append]
set_option hygiene false in
local macro_rules | `(tactic| walk_at "dl") => `(tactic| repeat (first
   | with_reducible refine x_seq ?_
   | with_reducible refine x_asg ?_
   | with_reducible refine x_ret ?_
   | with_reducible refine x_drop ?_
   | with_reducible refine x_ifS ?_
   | with_reducible refine x_op ?_
   | with_reducible refine x_un ?_
   | with_reducible refine x_cons ?_
   | with_reducible refine x_nil ?_
   | with_reducible refine x_cb ?_
   | with_reducible refine x_call ?_
   | with_reducible refine x_test ?_
   | with_reducible refine x_tB ?_
   | with_reducible refine x_tup ?_
   | with_reducible refine x_lst ?_
   | with_reducible refine x_lstO ?_
   | with_reducible refine x_if ?_
   | with_reducible refine x_and ?_
   | with_reducible refine x_or ?_
   | with_reducible refine x_not ?_
   | with_reducible refine x_yes ?_
   | with_reducible refine x_andV ?_
   | with_reducible refine x_orV ?_
   | with_reducible refine x_notV ?_
   | with_reducible refine x_fld ?_
   | with_reducible refine x_prop ?_
   | with_reducible refine x_meth ?_
   | with_reducible refine x_callI ?_
   | with_reducible refine x_make ?_
   | with_reducible refine x_sl ?_
   | with_reducible refine x_part ?_
   | with_reducible refine x_nopart ?_
   | with_reducible refine x_met ?_
   | with_reducible refine x_met0 ?_
   | with_reducible refine x_next ?_
   | with_reducible refine x_fmt ?_
   | with_reducible refine x_join ?_
   | with_reducible refine x_jcons ?_
   | with_reducible refine x_jnil ?_
   | with_reducible refine x_seqI ?_
   | with_reducible refine x_rng1 ?_
   | with_reducible refine x_rng2 ?_
   | with_reducible refine x_zip ?_
   | with_reducible refine x_listZip ?_
   | with_reducible refine x_lc ?_
   | with_reducible refine x_lcO ?_
   | with_reducible refine x_gsub ?_
   | with_reducible refine x_gcons ?_
   | with_reducible refine x_par ?_
   | with_reducible refine x_sfld ?_
   | with_reducible refine x_forS ?_
   | with_reducible refine x_arg ?_
   | with_reducible refine x_retN ?_
   | with_reducible refine x_brk ?_
   | with_reducible refine x_cont ?_
   | ((with_reducible refine x_var (d := ?_) fo ?_ ?_); rotate_left; rfl; clear fo; intro _ fo)
   | ((with_reducible refine x_c fo ?_); clear fo; intro fo)
   | ((with_reducible refine x_addI fo ?_); clear fo; intro fo)
   | ((with_reducible refine x_subI fo ?_); clear fo; intro fo)
   | ((with_reducible refine x_negI fo ?_); clear fo; intro fo)
   | ((with_reducible refine x_isN fo ?_); clear fo; intro fo)
   | ((with_reducible refine x_notN fo ?_); clear fo; intro fo)
   | ((with_reducible refine x_ltI fo ?_); clear fo; intro fo)
   | ((with_reducible refine x_leI fo ?_); clear fo; intro fo)
   | ((with_reducible refine x_gtI fo ?_); clear fo; intro fo)
   | ((with_reducible refine x_geI fo ?_); clear fo; intro fo)
   | ((with_reducible refine x_eqI fo ?_); clear fo; intro fo)
   | ((with_reducible refine x_neI fo ?_); clear fo; intro fo)
   | ((with_reducible refine x_max2 fo ?_); clear fo; intro fo)
   | ((with_reducible refine x_min2 fo ?_); clear fo; intro fo)
   | ((with_reducible refine x_intB fo ?_); clear fo; intro fo)
   | ((with_reducible refine x_intI fo ?_); clear fo; intro fo)
   | ((with_reducible refine x_lenT fo ?_); clear fo; intro fo)
   | ((with_reducible refine x_bool fo ?_); clear fo; intro fo)
   | ((with_reducible refine x_kPart fo ?_); clear fo; intro fo)
   | ((with_reducible refine x_kNotV fo ?_); clear fo; intro fo)
   | ((with_reducible refine x_kNe fo ?_); clear fo; intro fo)
   | ((with_reducible refine x_kStr fo ?_); clear fo; intro fo)
   | ((with_reducible refine is_Len ?_); (refine x_lenL fo (Or.inl rfl) ?_); clear fo; intro fo)
   | ((with_reducible refine x_mulI fo ?_ ?_); (unfold CMul; omega); clear fo; intro fo)
   | ((with_reducible refine x_modI fo ?_ ?_); omega; clear fo; intro fo)
   | ((with_reducible refine x_fdivI fo ?_ ?_); (constructor <;> omega); clear fo; intro fo)
   | ((with_reducible refine x_powI fo ?_ ?_); exact ⟨by decide, by decide, by decide⟩; clear fo; intro fo)
   | ((with_reducible refine is_Tup ?_); (first | (with_reducible refine x_mkTup fo (.cons (.cons .nil)) ?_ ?_) | (with_reducible refine x_mkTup fo (.cons .nil) ?_ ?_) | (with_reducible refine x_mkTup fo (.cons (.cons (.cons .nil))) ?_ ?_) | (with_reducible refine x_mkTup fo .nil ?_ ?_) | (with_reducible refine x_mkTup fo (.cons (.cons (.cons (.cons .nil)))) ?_ ?_) | (with_reducible refine x_mkTup fo (.cons (.cons (.cons (.cons (.cons .nil))))) ?_ ?_) | (with_reducible refine x_mkTup fo (.cons (.cons (.cons (.cons (.cons (.cons .nil)))))) ?_ ?_) | (with_reducible refine x_mkTup fo (.cons (.cons (.cons (.cons (.cons (.cons (.cons (.cons (.cons .nil))))))))) ?_ ?_)); exact Nat.le_of_ble_eq_true rfl; clear fo; intro _ F H fo)
   | ((with_reducible refine is_Lst ?_); (first | (with_reducible refine x_mkLst fo (.cons (.cons .nil)) ?_ ?_) | (with_reducible refine x_mkLst fo (.cons .nil) ?_ ?_) | (with_reducible refine x_mkLst fo (.cons (.cons (.cons .nil))) ?_ ?_) | (with_reducible refine x_mkLst fo .nil ?_ ?_) | (with_reducible refine x_mkLst fo (.cons (.cons (.cons (.cons .nil)))) ?_ ?_) | (with_reducible refine x_mkLst fo (.cons (.cons (.cons (.cons (.cons .nil))))) ?_ ?_) | (with_reducible refine x_mkLst fo (.cons (.cons (.cons (.cons (.cons (.cons .nil)))))) ?_ ?_) | (with_reducible refine x_mkLst fo (.cons (.cons (.cons (.cons (.cons (.cons (.cons (.cons (.cons .nil))))))))) ?_ ?_)); exact Nat.le_of_ble_eq_true rfl; clear fo; intro _ F H fo)
   | ((with_reducible refine is_LstO ?_); (first | (with_reducible refine x_mkLstO fo (.cons (.cons .nil)) ?_ ?_) | (with_reducible refine x_mkLstO fo (.cons .nil) ?_ ?_) | (with_reducible refine x_mkLstO fo (.cons (.cons (.cons .nil))) ?_ ?_) | (with_reducible refine x_mkLstO fo .nil ?_ ?_) | (with_reducible refine x_mkLstO fo (.cons (.cons (.cons (.cons .nil)))) ?_ ?_) | (with_reducible refine x_mkLstO fo (.cons (.cons (.cons (.cons (.cons .nil))))) ?_ ?_) | (with_reducible refine x_mkLstO fo (.cons (.cons (.cons (.cons (.cons (.cons .nil)))))) ?_ ?_) | (with_reducible refine x_mkLstO fo (.cons (.cons (.cons (.cons (.cons (.cons (.cons (.cons (.cons .nil))))))))) ?_ ?_)); exact Nat.le_of_ble_eq_true rfl; clear fo; intro _ H fo)
   | ((with_reducible refine x_gname fo ?_); clear fo; intro σ fo; try simp only [List.set_cons_zero, List.set_cons_succ] at fo)
   | ((with_reducible refine x_gtup2 fo ?_); clear fo; intro _ _ fo)
   | ((with_reducible refine x_gtup3 fo ?_); clear fo; intro _ _ _ fo)
   | (with_reducible refine x_gnil rfl ?_)
   | refine ite_y (by rfl) ?_
   | refine ite_n (by rfl) ?_))
section
variable {c : Cs} {Q : VK}
theorem pair_rest {bx gv : Addr} {n : Nat} {a b : DL.Row} {t : Int} {F0 H0 F H : Hp} {σ : L2.St} {k8 k9 : Option D} (oka : OkRow n a) (okb : OkRow n b) (hn : n ≤ 10)
    (k : ∀ (v : V) (d : D) (F' H' : Hp), DL.Step (some bx) isBox F0 H0 F' H' → Rp c.K F' v d → d = .bl true → Q v H')
    (fo : FO ⟨c.K, some bx, isBox, F0, H0⟩ [some (D.at bx), some (rowD a), some (rowD b), some (D.at gv), some (lrD c.LifeRow a), some (lrD c.LifeRow b), some (.int t), none, none, none] [] [] F σ H) :
    t_pairR c { nx := fun _ H' => Q .non H', rt := Q } σ H := by
  have la := oka.len
  have lb := okb.len
  have hla : a.2.length ≤ 10 := by omega
  have sl := shO_len oka.le
  have st := shT_len (xs := a.2) oka.lo
  have hb : ∀ z w : Str, (z ++ w).length = z.length + w.length := fun z w => strLen_append z w
  have e2 : (("LifeRow(" : String) : Str).length = 8 := by decide +kernel
  have e3 : ((", " : String) : Str).length = 2 := by decide +kernel
  have e4 : ((")" : String) : Str).length = 1 := by decide +kernel
  have big : 100000 ≤ sizeLine := by decide
  unfold t_pairR
  walk_at "dl"
  refine x_ixT fo (by rfl) ?_; clear fo; intro _ fo
  walk_at "dl"
  refine x_seqT fo ?_; intro J dw
  rw [List.length_map] at dw
  refine x_lcGo (fun i acc => ∃ ns : List Int, ns.length = i ∧ acc = ns.map D.int) dw fo (fun z hz => hz) (by omega) ⟨[], rfl, rfl⟩ ?_ ?_
  · clear fo; rintro p i acc F H v τ hτ hi ⟨ns, hni, rfl⟩ hacc fo
    subst hτ
    refine x_gnameK fo fun fo => ⟨wipe_in (by decide), ?_⟩
    walk_at "dl"
    ((first | (refine x_fn (bx, 62) fo (.cons .nil) ?_ ?_ ?_ ?_) | (refine x_fn (bx, 62) fo (.cons (.cons .nil)) ?_ ?_ ?_ ?_) | (refine x_fn (bx, 62) fo (.cons (.cons (.cons .nil))) ?_ ?_ ?_ ?_)); rfl; (first | exact Or.inl rfl | exact Or.inr ⟨rfl, rfl⟩); (exact ⟨by show (1 : Int) ≤ 62; decide, by show (62 : Int) < 1073741824; decide⟩); clear fo; intro _ _ F H e_ fo)
    obtain ⟨n1, e_, n10, n11⟩ := e_
    subst e_
    walk_at "dl"
    ((first | (refine x_fn (bx, [-1, 0, 60, n1 - 1].map D.int) fo (.cons .nil) ?_ ?_ ?_ ?_) | (refine x_fn (bx, [-1, 0, 60, n1 - 1].map D.int) fo (.cons (.cons .nil)) ?_ ?_ ?_ ?_) | (refine x_fn (bx, [-1, 0, 60, n1 - 1].map D.int) fo (.cons (.cons (.cons .nil))) ?_ ?_ ?_ ?_)); rfl; (first | exact Or.inl rfl | exact Or.inr ⟨rfl, rfl⟩); (exact ⟨Nat.zero_lt_succ _, Nat.le_of_ble_eq_true rfl⟩); clear fo; intro _ _ F H e_ fo)
    obtain ⟨m, _, et⟩ := pick_int e_
    subst et
    exact x_kEnd fo hacc (by omega) (wipe_in (by decide)) (by rw [wipeG_set (by decide), wipeG_twice]) ⟨ns ++ [m], by rw [List.length_append, hni]; rfl, by rw [List.map_append]; rfl⟩
  · clear fo; rintro p acc F H ⟨ns, hni, rfl⟩ _ fo
    obtain ⟨F, fo, _⟩ := fo.freeze
    have hna : a.2.length = ns.length := hni.symm
    have hnb : b.2.length = ns.length := by omega
    have hn1 : ns.length ≤ 1000 := by omega
    have fpa := found_pos (ls := ns) oka (by omega)
    have fpb := found_pos (ls := ns) okb (by omega)
    walk_at "dl"
    refine x_tupleOf fo (.inr (.inl rfl)) ?_; clear fo; intro _ F H fo
    walk_at "dl"
    refine x_kCi fo ?_; clear fo; intro _ fo
    walk_at "dl"
    refine x_kCa fo (.cons (.cons .nil)) ?_
    ((first | (refine x_fn (a, ns) fo (.cons .nil) ?_ ?_ ?_ ?_) | (refine x_fn (a, ns) fo (.cons (.cons .nil)) ?_ ?_ ?_ ?_) | (refine x_fn (a, ns) fo (.cons (.cons (.cons .nil))) ?_ ?_ ?_ ?_)); rfl; (first | exact Or.inl rfl | exact Or.inr ⟨rfl, rfl⟩); (exact ⟨hna, hn1, fpa⟩); clear fo; intro _ _ F H e_ fo)
    replace e_ : _ = _ := e_
    subst e_
    walk_at "dl"
    refine x_kCi fo ?_; clear fo; intro _ fo
    walk_at "dl"
    refine x_kCa fo (.cons (.cons .nil)) ?_
    ((first | (refine x_fn (b, ns) fo (.cons .nil) ?_ ?_ ?_ ?_) | (refine x_fn (b, ns) fo (.cons (.cons .nil)) ?_ ?_ ?_ ?_) | (refine x_fn (b, ns) fo (.cons (.cons (.cons .nil))) ?_ ?_ ?_ ?_)); rfl; (first | exact Or.inl rfl | exact Or.inr ⟨rfl, rfl⟩); (exact ⟨hnb, hn1, fpb⟩); clear fo; intro _ _ F H e_ fo)
    replace e_ : _ = _ := e_
    subst e_
    walk_at "dl"
    ((first | (refine x_fn (a, ns) fo (.cons .nil) ?_ ?_ ?_ ?_) | (refine x_fn (a, ns) fo (.cons (.cons .nil)) ?_ ?_ ?_ ?_) | (refine x_fn (a, ns) fo (.cons (.cons (.cons .nil))) ?_ ?_ ?_ ?_)); rfl; (first | exact Or.inl rfl | exact Or.inr ⟨rfl, rfl⟩); (exact ⟨hna, hn1, fpa⟩); clear fo; intro _ _ F H e_ fo)
    replace e_ : _ = _ := e_
    subst e_
    walk_at "dl"
    ((first | (refine x_fn (b, ns) fo (.cons .nil) ?_ ?_ ?_ ?_) | (refine x_fn (b, ns) fo (.cons (.cons .nil)) ?_ ?_ ?_ ?_) | (refine x_fn (b, ns) fo (.cons (.cons (.cons .nil))) ?_ ?_ ?_ ?_)); rfl; (first | exact Or.inl rfl | exact Or.inr ⟨rfl, rfl⟩); (exact ⟨hnb, hn1, fpb⟩); clear fo; intro _ _ F H e_ fo)
    replace e_ : _ = _ := e_
    subst e_
    walk_at "dl"
    ((first | (refine x_fn (.lst [.int (boundF a ns), .int (boundF b ns)]) fo (.cons .nil) ?_ ?_ ?_ ?_) | (refine x_fn (.lst [.int (boundF a ns), .int (boundF b ns)]) fo (.cons (.cons .nil)) ?_ ?_ ?_ ?_) | (refine x_fn (.lst [.int (boundF a ns), .int (boundF b ns)]) fo (.cons (.cons (.cons .nil))) ?_ ?_ ?_ ?_)); rfl; (first | exact Or.inl rfl | exact Or.inr ⟨rfl, rfl⟩); (exact ⟨rfl, Nat.le_of_ble_eq_true rfl, Nat.le_of_ble_eq_true rfl⟩); clear fo; intro _ _ F H e_ fo)
    replace e_ : _ = _ := e_
    subst e_
    walk_at "dl"
    refine x_reprO fo ?_
    ((first | (refine x_fn (n, a) fo (.cons .nil) ?_ ?_ ?_ ?_) | (refine x_fn (n, a) fo (.cons (.cons .nil)) ?_ ?_ ?_ ?_) | (refine x_fn (n, a) fo (.cons (.cons (.cons .nil))) ?_ ?_ ?_ ?_)); rfl; (first | exact Or.inl rfl | exact Or.inr ⟨rfl, rfl⟩); (exact ⟨oka, hn⟩); clear fo; intro _ _ F H e_ fo)
    replace e_ : _ = _ := e_
    subst e_
    walk_at "dl"
    refine x_ixT fo (by rfl) ?_; clear fo; intro _ fo
    walk_at "dl"
    refine x_repr fo (shwD_o oka.le) ?_; clear fo; intro fo
    refine x_addS fo (by omega) ?_; clear fo; intro fo
    walk_at "dl"
    refine x_addS fo (by rw [hb]; omega) ?_; clear fo; intro fo
    walk_at "dl"
    refine x_ixT fo (by rfl) ?_; clear fo; intro _ fo
    walk_at "dl"
    refine x_repr fo (shwD_t oka.lo hla) ?_; clear fo; intro fo
    refine x_addS fo (by rw [hb, hb]; omega) ?_; clear fo; intro fo
    walk_at "dl"
    refine x_addS fo (by rw [hb, hb, hb]; omega) ?_; rw [repr_text]; clear fo; intro fo
    refine x_neS fo ?_; clear fo; intro fo
    walk_at "dl"
    refine ite_n (by simp) ?_
    walk_at "dl"
    refine x_reprO fo ?_
    ((first | (refine x_fn (n, a) fo (.cons .nil) ?_ ?_ ?_ ?_) | (refine x_fn (n, a) fo (.cons (.cons .nil)) ?_ ?_ ?_ ?_) | (refine x_fn (n, a) fo (.cons (.cons (.cons .nil))) ?_ ?_ ?_ ?_)); rfl; (first | exact Or.inl rfl | exact Or.inr ⟨rfl, rfl⟩); (exact ⟨oka, hn⟩); clear fo; intro _ _ F H e_ fo)
    replace e_ : _ = _ := e_
    subst e_
    walk_at "dl"
    refine x_seqT fo ?_; intro J dw
    refine x_for (fun i G O => O = [] ∧ ∃ d9, G = [some (D.at bx), some (rowD a), some (rowD b), some (D.at gv), some (lrD c.LifeRow a), some (lrD c.LifeRow b), some (.int t), some (.tup (ns.map D.int)), none, d9]) dw fo (fun z hz => List.mem_cons.mpr (.inl (List.mem_singleton.mp hz))) ⟨rfl, none, rfl⟩ ?_ ?_
    · clear fo; rintro i G O F σ H v hi ⟨rfl, d9, rfl⟩ fo
      replace hi : i < 4 := hi
      obtain ⟨dd, edd, hdd, hoth⟩ : ∃ dd, itOf [D.str (reprF a), rowD a, D.non, D.int 7] i = dd ∧ (∃ t, tyD dd = some t ∧ t ∈ ["NoneType", "int", "str", "tuple", "list", "bool"]) ∧ othD c.LifeRow dd := by
        have : i = 0 ∨ i = 1 ∨ i = 2 ∨ i = 3 := by omega
        rcases this with rfl | rfl | rfl | rfl
        · exact ⟨_, rfl, ⟨"str", rfl, by decide⟩, trivial⟩
        · exact ⟨_, rfl, ⟨"tuple", rfl, by decide⟩, trivial⟩
        · exact ⟨_, rfl, ⟨"NoneType", rfl, by decide⟩, trivial⟩
        · exact ⟨_, rfl, ⟨"int", rfl, by decide⟩, trivial⟩
      rw [edd] at fo
      walk_at "dl"
      refine x_ownEq fo hoth ?_
      ((first | (refine x_fn (a, .inr dd) fo (.cons .nil) ?_ ?_ ?_ ?_) | (refine x_fn (a, .inr dd) fo (.cons (.cons .nil)) ?_ ?_ ?_ ?_) | (refine x_fn (a, .inr dd) fo (.cons (.cons (.cons .nil))) ?_ ?_ ?_ ?_)); rfl; (first | exact Or.inl rfl | exact Or.inr ⟨rfl, rfl⟩); (exact fun d e => by cases e; exact hdd); clear fo; intro _ _ F H e_ fo)
      replace e_ : _ = _ := e_
      subst e_
      walk_at "dl"
      refine x_ownNe fo hoth ?_
      ((first | (refine x_fn (a, .inr dd) fo (.cons .nil) ?_ ?_ ?_ ?_) | (refine x_fn (a, .inr dd) fo (.cons (.cons .nil)) ?_ ?_ ?_ ?_) | (refine x_fn (a, .inr dd) fo (.cons (.cons (.cons .nil))) ?_ ?_ ?_ ?_)); rfl; (first | exact Or.inl rfl | exact Or.inr ⟨rfl, rfl⟩); (exact fun d e => by cases e; exact hdd); clear fo; intro _ _ F H e_ fo)
      replace e_ : _ = _ := e_
      subst e_
      walk_at "dl"
      dsimp only
      refine x_li fo ?_
      exact ⟨rfl, _, rfl⟩
    · clear fo; rintro G O F σ H ⟨rfl, d9, rfl⟩ fo
      walk_at "dl"
      ((first | (refine x_fn a fo (.cons .nil) ?_ ?_ ?_ ?_) | (refine x_fn a fo (.cons (.cons .nil)) ?_ ?_ ?_ ?_) | (refine x_fn a fo (.cons (.cons (.cons .nil))) ?_ ?_ ?_ ?_)); rfl; (first | exact Or.inl rfl | exact Or.inr ⟨rfl, rfl⟩); (trivial); clear fo; intro _ _ F H e_ fo)
      replace e_ : _ = _ := e_
      subst e_
      walk_at "dl"
      ((first | (refine x_fn b fo (.cons .nil) ?_ ?_ ?_ ?_) | (refine x_fn b fo (.cons (.cons .nil)) ?_ ?_ ?_ ?_) | (refine x_fn b fo (.cons (.cons (.cons .nil))) ?_ ?_ ?_ ?_)); rfl; (first | exact Or.inl rfl | exact Or.inr ⟨rfl, rfl⟩); (trivial); clear fo; intro _ _ F H e_ fo)
      replace e_ : _ = _ := e_
      subst e_
      walk_at "dl"
      ((first | (refine x_fn (.lst [rowD a, rowD b]) fo (.cons .nil) ?_ ?_ ?_ ?_) | (refine x_fn (.lst [rowD a, rowD b]) fo (.cons (.cons .nil)) ?_ ?_ ?_ ?_) | (refine x_fn (.lst [rowD a, rowD b]) fo (.cons (.cons (.cons .nil))) ?_ ?_ ?_ ?_)); rfl; (first | exact Or.inl rfl | exact Or.inr ⟨rfl, rfl⟩); (exact like_rows (by omega) (by omega)); clear fo; intro _ _ F H e_ fo)
      replace e_ : _ = _ := e_
      exact k _ _ _ _ fo.st fo.top e_
end
end K26


set_option maxHeartbeats 4000000
namespace K26
open PySem PySem.Spec PyProof.Rows L2 DL
theorem sub_len (r : DL.Row) (t : Int) : (subF r t).2.length = r.2.length := by unfold subF; rw [List.length_map]
theorem and_len (a b : DL.Row) : (andF a b).2.length ≤ a.2.length := by unfold andF; rw [List.length_zipWith]; omega
set_option hygiene false in
local macro_rules | `(tactic| walk_at "dl") => `(tactic| repeat (first
   | with_reducible refine x_seq ?_
   | with_reducible refine x_asg ?_
   | with_reducible refine x_ret ?_
   | with_reducible refine x_drop ?_
   | with_reducible refine x_ifS ?_
   | with_reducible refine x_op ?_
   | with_reducible refine x_un ?_
   | with_reducible refine x_cons ?_
   | with_reducible refine x_nil ?_
   | with_reducible refine x_cb ?_
   | with_reducible refine x_call ?_
   | with_reducible refine x_test ?_
   | with_reducible refine x_tB ?_
   | with_reducible refine x_tup ?_
   | with_reducible refine x_lst ?_
   | with_reducible refine x_lstO ?_
   | with_reducible refine x_if ?_
   | with_reducible refine x_and ?_
   | with_reducible refine x_or ?_
   | with_reducible refine x_not ?_
   | with_reducible refine x_yes ?_
   | with_reducible refine x_andV ?_
   | with_reducible refine x_orV ?_
   | with_reducible refine x_notV ?_
   | with_reducible refine x_fld ?_
   | with_reducible refine x_prop ?_
   | with_reducible refine x_meth ?_
   | with_reducible refine x_callI ?_
   | with_reducible refine x_make ?_
   | with_reducible refine x_sl ?_
   | with_reducible refine x_part ?_
   | with_reducible refine x_nopart ?_
   | with_reducible refine x_met ?_
   | with_reducible refine x_met0 ?_
   | with_reducible refine x_next ?_
   | with_reducible refine x_fmt ?_
   | with_reducible refine x_join ?_
   | with_reducible refine x_jcons ?_
   | with_reducible refine x_jnil ?_
   | with_reducible refine x_seqI ?_
   | with_reducible refine x_rng1 ?_
   | with_reducible refine x_rng2 ?_
   | with_reducible refine x_zip ?_
   | with_reducible refine x_listZip ?_
   | with_reducible refine x_lc ?_
   | with_reducible refine x_lcO ?_
   | with_reducible refine x_gsub ?_
   | with_reducible refine x_gcons ?_
   | with_reducible refine x_par ?_
   | with_reducible refine x_sfld ?_
   | with_reducible refine x_forS ?_
   | with_reducible refine x_arg ?_
   | with_reducible refine x_retN ?_
   | with_reducible refine x_brk ?_
   | with_reducible refine x_cont ?_
   | ((with_reducible refine x_var (d := ?_) fo ?_ ?_); rotate_left; rfl; clear fo; intro _ fo)
   | ((with_reducible refine x_c fo ?_); clear fo; intro fo)
   | ((with_reducible refine x_addI fo ?_); clear fo; intro fo)
   | ((with_reducible refine x_subI fo ?_); clear fo; intro fo)
   | ((with_reducible refine x_negI fo ?_); clear fo; intro fo)
   | ((with_reducible refine x_isN fo ?_); clear fo; intro fo)
   | ((with_reducible refine x_notN fo ?_); clear fo; intro fo)
   | ((with_reducible refine x_ltI fo ?_); clear fo; intro fo)
   | ((with_reducible refine x_leI fo ?_); clear fo; intro fo)
   | ((with_reducible refine x_gtI fo ?_); clear fo; intro fo)
   | ((with_reducible refine x_geI fo ?_); clear fo; intro fo)
   | ((with_reducible refine x_eqI fo ?_); clear fo; intro fo)
   | ((with_reducible refine x_neI fo ?_); clear fo; intro fo)
   | ((with_reducible refine x_max2 fo ?_); clear fo; intro fo)
   | ((with_reducible refine x_min2 fo ?_); clear fo; intro fo)
   | ((with_reducible refine x_intB fo ?_); clear fo; intro fo)
   | ((with_reducible refine x_intI fo ?_); clear fo; intro fo)
   | ((with_reducible refine x_lenT fo ?_); clear fo; intro fo)
   | ((with_reducible refine x_bool fo ?_); clear fo; intro fo)
   | ((with_reducible refine x_kPart fo ?_); clear fo; intro fo)
   | ((with_reducible refine x_kNotV fo ?_); clear fo; intro fo)
   | ((with_reducible refine x_kNe fo ?_); clear fo; intro fo)
   | ((with_reducible refine x_kStr fo ?_); clear fo; intro fo)
   | ((with_reducible refine is_Len ?_); (refine x_lenL fo (Or.inl rfl) ?_); clear fo; intro fo)
   | ((with_reducible refine x_mulI fo ?_ ?_); (unfold CMul; omega); clear fo; intro fo)
   | ((with_reducible refine x_modI fo ?_ ?_); omega; clear fo; intro fo)
   | ((with_reducible refine x_fdivI fo ?_ ?_); (constructor <;> omega); clear fo; intro fo)
   | ((with_reducible refine x_powI fo ?_ ?_); exact ⟨by decide, by decide, by decide⟩; clear fo; intro fo)
   | ((with_reducible refine is_Tup ?_); (first | (with_reducible refine x_mkTup fo (.cons (.cons .nil)) ?_ ?_) | (with_reducible refine x_mkTup fo (.cons .nil) ?_ ?_) | (with_reducible refine x_mkTup fo (.cons (.cons (.cons .nil))) ?_ ?_) | (with_reducible refine x_mkTup fo .nil ?_ ?_) | (with_reducible refine x_mkTup fo (.cons (.cons (.cons (.cons .nil)))) ?_ ?_) | (with_reducible refine x_mkTup fo (.cons (.cons (.cons (.cons (.cons .nil))))) ?_ ?_) | (with_reducible refine x_mkTup fo (.cons (.cons (.cons (.cons (.cons (.cons .nil)))))) ?_ ?_) | (with_reducible refine x_mkTup fo (.cons (.cons (.cons (.cons (.cons (.cons (.cons (.cons (.cons .nil))))))))) ?_ ?_)); exact Nat.le_of_ble_eq_true rfl; clear fo; intro _ F H fo)
   | ((with_reducible refine is_Lst ?_); (first | (with_reducible refine x_mkLst fo (.cons (.cons .nil)) ?_ ?_) | (with_reducible refine x_mkLst fo (.cons .nil) ?_ ?_) | (with_reducible refine x_mkLst fo (.cons (.cons (.cons .nil))) ?_ ?_) | (with_reducible refine x_mkLst fo .nil ?_ ?_) | (with_reducible refine x_mkLst fo (.cons (.cons (.cons (.cons .nil)))) ?_ ?_) | (with_reducible refine x_mkLst fo (.cons (.cons (.cons (.cons (.cons .nil))))) ?_ ?_) | (with_reducible refine x_mkLst fo (.cons (.cons (.cons (.cons (.cons (.cons .nil)))))) ?_ ?_) | (with_reducible refine x_mkLst fo (.cons (.cons (.cons (.cons (.cons (.cons (.cons (.cons (.cons .nil))))))))) ?_ ?_)); exact Nat.le_of_ble_eq_true rfl; clear fo; intro _ F H fo)
   | ((with_reducible refine is_LstO ?_); (first | (with_reducible refine x_mkLstO fo (.cons (.cons .nil)) ?_ ?_) | (with_reducible refine x_mkLstO fo (.cons .nil) ?_ ?_) | (with_reducible refine x_mkLstO fo (.cons (.cons (.cons .nil))) ?_ ?_) | (with_reducible refine x_mkLstO fo .nil ?_ ?_) | (with_reducible refine x_mkLstO fo (.cons (.cons (.cons (.cons .nil)))) ?_ ?_) | (with_reducible refine x_mkLstO fo (.cons (.cons (.cons (.cons (.cons .nil))))) ?_ ?_) | (with_reducible refine x_mkLstO fo (.cons (.cons (.cons (.cons (.cons (.cons .nil)))))) ?_ ?_) | (with_reducible refine x_mkLstO fo (.cons (.cons (.cons (.cons (.cons (.cons (.cons (.cons (.cons .nil))))))))) ?_ ?_)); exact Nat.le_of_ble_eq_true rfl; clear fo; intro _ H fo)
   | ((with_reducible refine x_gname fo ?_); clear fo; intro σ fo; try simp only [List.set_cons_zero, List.set_cons_succ] at fo)
   | ((with_reducible refine x_gtup2 fo ?_); clear fo; intro _ _ fo)
   | ((with_reducible refine x_gtup3 fo ?_); clear fo; intro _ _ _ fo)
   | (with_reducible refine x_gnil rfl ?_)
   | refine ite_y (by rfl) ?_
   | refine ite_n (by rfl) ?_))
section
variable {c : Cs} {vs : List V} {H : Hp} {Q : VK} {Ex : XK}
theorem pu_pair (h : sp_pair c vs H Q Ex) : t_pair c { nx := fun _ H' => Q .non H', rt := Q } (L2.start N_pair vs) H := by
  obtain ⟨⟨bx, n, a, b⟩, F, ⟨oka, okb, hn⟩, hl, fo, k⟩ := fo_start (n := 0) (E := ⟨c.K, none, isBox, fun _ => none, fun _ => none⟩) (N := N_pair) h
  replace fo : FO ⟨c.K, some bx, isBox, F, H⟩ [some (D.at bx), some (rowD a), some (rowD b), none, none, none, none, none, none, none] [] [] F _ H := fo
  replace oka : OkRow n a := oka
  replace okb : OkRow n b := okb
  replace hn : n ≤ 10 := hn
  replace k : ∀ (v : V) (d : D) (F' H' : Hp), DL.Step (some bx) isBox F H F' H' → Rp c.K F' v d → d = .bl true → Q v H' := k
  have la := oka.len
  have lb := okb.len
  have ls : a.2.length = b.2.length := by omega
  have ls' : b.2.length = a.2.length := by omega
  have l1 : a.2.length ≤ 1000 := by omega
  have l2 : b.2.length ≤ 1000 := by omega
  unfold t_pair
  walk_at "dl"
  refine x_ixT fo (by rfl) ?_; clear fo; intro _ fo
  walk_at "dl"
  refine x_listOfO fo (.inl rfl) ?_; clear fo; intro gv F H fo
  walk_at "dl"
  refine x_ixT fo (by rfl) ?_; clear fo; intro _ fo
  walk_at "dl"
  refine x_ixT fo (by rfl) ?_; clear fo; intro _ fo
  walk_at "dl"
  refine x_kInit a .tup fo (.cons (.cons .nil)) rfl l1 (fun p h => nomatch h) ?_; clear fo; intro _ F H fo
  walk_at "dl"
  refine x_ixT fo (by rfl) ?_; clear fo; intro _ fo
  walk_at "dl"
  refine x_kInit b (.at_ gv) fo (.cons (.cons .nil)) rfl l2 (fun p h => by cases h; exact List.mem_cons_self) ?_; clear fo; intro _ F H fo
  walk_at "dl"
  refine x_par2 fo ?_; clear fo; intro σ fo; simp only [List.set_cons_zero, List.set_cons_succ] at fo
  walk_at "dl"
  refine x_kMetL fo (.inr ⟨_, rfl, List.mem_cons_self⟩) ?_
  walk_at "dl"
  refine x_append fo (by rw [List.length_map]; omega) ?_; clear fo; intro H fo
  replace fo := fo.dropO.pop
  walk_at "dl"
  refine x_own fo ?_
  ((first | (refine x_fn (a, b) fo (.cons .nil) ?_ ?_ ?_ ?_) | (refine x_fn (a, b) fo (.cons (.cons .nil)) ?_ ?_ ?_ ?_) | (refine x_fn (a, b) fo (.cons (.cons (.cons .nil))) ?_ ?_ ?_ ?_)); rfl; (first | exact Or.inl rfl | exact Or.inr ⟨rfl, rfl⟩); (exact ⟨ls, l1⟩); clear fo; intro _ _ F H e_ fo)
  replace e_ : _ = _ := e_
  subst e_
  walk_at "dl"
  ((first | (refine x_fn (andF a b) fo (.cons .nil) ?_ ?_ ?_ ?_) | (refine x_fn (andF a b) fo (.cons (.cons .nil)) ?_ ?_ ?_ ?_) | (refine x_fn (andF a b) fo (.cons (.cons (.cons .nil))) ?_ ?_ ?_ ?_)); rfl; (first | exact Or.inl rfl | exact Or.inr ⟨rfl, rfl⟩); (trivial); clear fo; intro _ _ F H e_ fo)
  replace e_ : _ = _ := e_
  subst e_
  walk_at "dl"
  ((first | (refine x_fn (a, b) fo (.cons .nil) ?_ ?_ ?_ ?_) | (refine x_fn (a, b) fo (.cons (.cons .nil)) ?_ ?_ ?_ ?_) | (refine x_fn (a, b) fo (.cons (.cons (.cons .nil))) ?_ ?_ ?_ ?_)); rfl; (first | exact Or.inl rfl | exact Or.inr ⟨rfl, rfl⟩); (exact ⟨ls, l1⟩); clear fo; intro _ _ F H e_ fo)
  replace e_ : _ = _ := e_
  subst e_
  walk_at "dl"
  ((first | (refine x_fn (rowD (andF a b)) fo (.cons .nil) ?_ ?_ ?_ ?_) | (refine x_fn (rowD (andF a b)) fo (.cons (.cons .nil)) ?_ ?_ ?_ ?_) | (refine x_fn (rowD (andF a b)) fo (.cons (.cons (.cons .nil))) ?_ ?_ ?_ ?_)); rfl; (first | exact Or.inl rfl | exact Or.inr ⟨rfl, rfl⟩); (exact like_row (by have := and_len a b; omega)); clear fo; intro _ _ F H e_ fo)
  replace e_ : _ = _ := e_
  subst e_
  walk_at "dl"
  refine x_ownEq fo (by rfl) ?_
  ((first | (refine x_fn (a, .inl b) fo (.cons .nil) ?_ ?_ ?_ ?_) | (refine x_fn (a, .inl b) fo (.cons (.cons .nil)) ?_ ?_ ?_ ?_) | (refine x_fn (a, .inl b) fo (.cons (.cons (.cons .nil))) ?_ ?_ ?_ ?_)); rfl; (first | exact Or.inl rfl | exact Or.inr ⟨rfl, rfl⟩); (exact fun d e => nomatch e); clear fo; intro _ _ F H e_ fo)
  replace e_ : _ = _ := e_
  subst e_
  walk_at "dl"
  refine x_ownNe fo (by rfl) ?_
  ((first | (refine x_fn (a, .inl b) fo (.cons .nil) ?_ ?_ ?_ ?_) | (refine x_fn (a, .inl b) fo (.cons (.cons .nil)) ?_ ?_ ?_ ?_) | (refine x_fn (a, .inl b) fo (.cons (.cons (.cons .nil))) ?_ ?_ ?_ ?_)); rfl; (first | exact Or.inl rfl | exact Or.inr ⟨rfl, rfl⟩); (exact fun d e => nomatch e); clear fo; intro _ _ F H e_ fo)
  replace e_ : _ = _ := e_
  subst e_
  walk_at "dl"
  refine x_eqD fo (toPy_rowD a) (toPy_rowD b) (shaped_row a) (shaped_row b) ?_; rw [eqv_row]; clear fo; intro fo
  walk_at "dl"
  refine x_neD fo (toPy_rowD a) (toPy_rowD b) (shaped_row a) (shaped_row b) ?_; rw [eqv_row]; clear fo; intro fo
  walk_at "dl"
  ((first | (refine x_fn (.lst [.bl (decide (a = b)), .bl (!decide (a = b))]) fo (.cons .nil) ?_ ?_ ?_ ?_) | (refine x_fn (.lst [.bl (decide (a = b)), .bl (!decide (a = b))]) fo (.cons (.cons .nil)) ?_ ?_ ?_ ?_) | (refine x_fn (.lst [.bl (decide (a = b)), .bl (!decide (a = b))]) fo (.cons (.cons (.cons .nil))) ?_ ?_ ?_ ?_)); rfl; (first | exact Or.inl rfl | exact Or.inr ⟨rfl, rfl⟩); (exact ⟨rfl, Nat.le_of_ble_eq_true rfl, Nat.le_of_ble_eq_true rfl⟩); clear fo; intro _ _ F H e_ fo)
  replace e_ : _ = _ := e_
  subst e_
  walk_at "dl"
  refine x_kMth fo (by rfl) ?_
  walk_at "dl"
  ((first | (refine x_fn (a, b) fo (.cons .nil) ?_ ?_ ?_ ?_) | (refine x_fn (a, b) fo (.cons (.cons .nil)) ?_ ?_ ?_ ?_) | (refine x_fn (a, b) fo (.cons (.cons (.cons .nil))) ?_ ?_ ?_ ?_)); rfl; (first | exact Or.inl rfl | exact Or.inr ⟨rfl, rfl⟩); (exact ⟨ls, l1⟩); clear fo; intro _ _ F H e_ fo)
  replace e_ : _ = _ := e_
  subst e_
  walk_at "dl"
  refine x_kMth fo (by rfl) ?_
  walk_at "dl"
  ((first | (refine x_fn (b, a) fo (.cons .nil) ?_ ?_ ?_ ?_) | (refine x_fn (b, a) fo (.cons (.cons .nil)) ?_ ?_ ?_ ?_) | (refine x_fn (b, a) fo (.cons (.cons (.cons .nil))) ?_ ?_ ?_ ?_)); rfl; (first | exact Or.inl rfl | exact Or.inr ⟨rfl, rfl⟩); (exact ⟨ls', l2⟩); clear fo; intro _ _ F H e_ fo)
  replace e_ : _ = _ := e_
  subst e_
  walk_at "dl"
  ((first | (refine x_fn (a, b) fo (.cons .nil) ?_ ?_ ?_ ?_) | (refine x_fn (a, b) fo (.cons (.cons .nil)) ?_ ?_ ?_ ?_) | (refine x_fn (a, b) fo (.cons (.cons (.cons .nil))) ?_ ?_ ?_ ?_)); rfl; (first | exact Or.inl rfl | exact Or.inr ⟨rfl, rfl⟩); (exact ⟨ls, l1⟩); clear fo; intro _ _ F H e_ fo)
  replace e_ : _ = _ := e_
  subst e_
  walk_at "dl"
  ((first | (refine x_fn (b, a) fo (.cons .nil) ?_ ?_ ?_ ?_) | (refine x_fn (b, a) fo (.cons (.cons .nil)) ?_ ?_ ?_ ?_) | (refine x_fn (b, a) fo (.cons (.cons (.cons .nil))) ?_ ?_ ?_ ?_)); rfl; (first | exact Or.inl rfl | exact Or.inr ⟨rfl, rfl⟩); (exact ⟨ls', l2⟩); clear fo; intro _ _ F H e_ fo)
  replace e_ : _ = _ := e_
  subst e_
  walk_at "dl"
  ((first | (refine x_fn (.lst [.bl (belowF a b), .bl (belowF b a)]) fo (.cons .nil) ?_ ?_ ?_ ?_) | (refine x_fn (.lst [.bl (belowF a b), .bl (belowF b a)]) fo (.cons (.cons .nil)) ?_ ?_ ?_ ?_) | (refine x_fn (.lst [.bl (belowF a b), .bl (belowF b a)]) fo (.cons (.cons (.cons .nil))) ?_ ?_ ?_ ?_)); rfl; (first | exact Or.inl rfl | exact Or.inr ⟨rfl, rfl⟩); (exact ⟨rfl, Nat.le_of_ble_eq_true rfl, Nat.le_of_ble_eq_true rfl⟩); clear fo; intro _ _ F H e_ fo)
  replace e_ : _ = _ := e_
  subst e_
  walk_at "dl"
  ((first | (refine x_fn (bx, 70) fo (.cons .nil) ?_ ?_ ?_ ?_) | (refine x_fn (bx, 70) fo (.cons (.cons .nil)) ?_ ?_ ?_ ?_) | (refine x_fn (bx, 70) fo (.cons (.cons (.cons .nil))) ?_ ?_ ?_ ?_)); rfl; (first | exact Or.inl rfl | exact Or.inr ⟨rfl, rfl⟩); (exact ⟨by show (1 : Int) ≤ 70; decide, by show (70 : Int) < 1073741824; decide⟩); clear fo; intro _ _ F H e_ fo)
  obtain ⟨n1, e_, n10, n11⟩ := e_
  subst e_
  walk_at "dl"
  ((first | (refine x_fn (bx, [0, 1, 2, 30, 60, 61, 62, (10 : Int) ^ (20 : Int).toNat, n1].map D.int) fo (.cons .nil) ?_ ?_ ?_ ?_) | (refine x_fn (bx, [0, 1, 2, 30, 60, 61, 62, (10 : Int) ^ (20 : Int).toNat, n1].map D.int) fo (.cons (.cons .nil)) ?_ ?_ ?_ ?_) | (refine x_fn (bx, [0, 1, 2, 30, 60, 61, 62, (10 : Int) ^ (20 : Int).toNat, n1].map D.int) fo (.cons (.cons (.cons .nil))) ?_ ?_ ?_ ?_)); rfl; (first | exact Or.inl rfl | exact Or.inr ⟨rfl, rfl⟩); (exact ⟨Nat.zero_lt_succ _, Nat.le_of_ble_eq_true rfl⟩); clear fo; intro _ _ F H e_ fo)
  obtain ⟨t, mt, et⟩ := pick_int e_
  subst et
  clear mt n10 n11
  walk_at "dl"
  refine x_ownI fo ?_
  ((first | (refine x_fn (a, t) fo (.cons .nil) ?_ ?_ ?_ ?_) | (refine x_fn (a, t) fo (.cons (.cons .nil)) ?_ ?_ ?_ ?_) | (refine x_fn (a, t) fo (.cons (.cons (.cons .nil))) ?_ ?_ ?_ ?_)); rfl; (first | exact Or.inl rfl | exact Or.inr ⟨rfl, rfl⟩); (exact l1); clear fo; intro _ _ F H e_ fo)
  replace e_ : _ = _ := e_
  subst e_
  walk_at "dl"
  ((first | (refine x_fn (subF a t) fo (.cons .nil) ?_ ?_ ?_ ?_) | (refine x_fn (subF a t) fo (.cons (.cons .nil)) ?_ ?_ ?_ ?_) | (refine x_fn (subF a t) fo (.cons (.cons (.cons .nil))) ?_ ?_ ?_ ?_)); rfl; (first | exact Or.inl rfl | exact Or.inr ⟨rfl, rfl⟩); (trivial); clear fo; intro _ _ F H e_ fo)
  replace e_ : _ = _ := e_
  subst e_
  walk_at "dl"
  ((first | (refine x_fn (a, t) fo (.cons .nil) ?_ ?_ ?_ ?_) | (refine x_fn (a, t) fo (.cons (.cons .nil)) ?_ ?_ ?_ ?_) | (refine x_fn (a, t) fo (.cons (.cons (.cons .nil))) ?_ ?_ ?_ ?_)); rfl; (first | exact Or.inl rfl | exact Or.inr ⟨rfl, rfl⟩); (exact l1); clear fo; intro _ _ F H e_ fo)
  replace e_ : _ = _ := e_
  subst e_
  walk_at "dl"
  ((first | (refine x_fn (rowD (subF a t)) fo (.cons .nil) ?_ ?_ ?_ ?_) | (refine x_fn (rowD (subF a t)) fo (.cons (.cons .nil)) ?_ ?_ ?_ ?_) | (refine x_fn (rowD (subF a t)) fo (.cons (.cons (.cons .nil))) ?_ ?_ ?_ ?_)); rfl; (first | exact Or.inl rfl | exact Or.inr ⟨rfl, rfl⟩); (exact like_row (by have := sub_len a t; omega)); clear fo; intro _ _ F H e_ fo)
  replace e_ : _ = _ := e_
  subst e_
  refine x_bool fo ?_; clear fo; intro fo
  refine ite_n (by rfl) ?_
  refine x_next ?_
  exact pair_rest (k8 := none) (k9 := none) oka okb hn k fo
end
end K26


set_option maxHeartbeats 4000000
namespace K26
open PySem PySem.Spec PyProof.Rows L2 DL
set_option hygiene false in
local macro_rules | `(tactic| walk_at "dl") => `(tactic| repeat (first
   | with_reducible refine x_seq ?_
   | with_reducible refine x_asg ?_
   | with_reducible refine x_ret ?_
   | with_reducible refine x_drop ?_
   | with_reducible refine x_ifS ?_
   | with_reducible refine x_op ?_
   | with_reducible refine x_un ?_
   | with_reducible refine x_cons ?_
   | with_reducible refine x_nil ?_
   | with_reducible refine x_cb ?_
   | with_reducible refine x_call ?_
   | with_reducible refine x_test ?_
   | with_reducible refine x_tB ?_
   | with_reducible refine x_tup ?_
   | with_reducible refine x_lst ?_
   | with_reducible refine x_lstO ?_
   | with_reducible refine x_if ?_
   | with_reducible refine x_and ?_
   | with_reducible refine x_or ?_
   | with_reducible refine x_not ?_
   | with_reducible refine x_yes ?_
   | with_reducible refine x_andV ?_
   | with_reducible refine x_orV ?_
   | with_reducible refine x_notV ?_
   | with_reducible refine x_fld ?_
   | with_reducible refine x_prop ?_
   | with_reducible refine x_meth ?_
   | with_reducible refine x_callI ?_
   | with_reducible refine x_make ?_
   | with_reducible refine x_sl ?_
   | with_reducible refine x_part ?_
   | with_reducible refine x_nopart ?_
   | with_reducible refine x_met ?_
   | with_reducible refine x_met0 ?_
   | with_reducible refine x_next ?_
   | with_reducible refine x_fmt ?_
   | with_reducible refine x_join ?_
   | with_reducible refine x_jcons ?_
   | with_reducible refine x_jnil ?_
   | with_reducible refine x_seqI ?_
   | with_reducible refine x_rng1 ?_
   | with_reducible refine x_rng2 ?_
   | with_reducible refine x_zip ?_
   | with_reducible refine x_listZip ?_
   | with_reducible refine x_lc ?_
   | with_reducible refine x_lcO ?_
   | with_reducible refine x_gsub ?_
   | with_reducible refine x_gcons ?_
   | with_reducible refine x_par ?_
   | with_reducible refine x_sfld ?_
   | with_reducible refine x_forS ?_
   | with_reducible refine x_arg ?_
   | with_reducible refine x_retN ?_
   | with_reducible refine x_brk ?_
   | with_reducible refine x_cont ?_
   | ((with_reducible refine x_var (d := ?_) fo ?_ ?_); rotate_left; rfl; clear fo; intro _ fo)
   | ((with_reducible refine x_c fo ?_); clear fo; intro fo)
   | ((with_reducible refine x_addI fo ?_); clear fo; intro fo)
   | ((with_reducible refine x_subI fo ?_); clear fo; intro fo)
   | ((with_reducible refine x_negI fo ?_); clear fo; intro fo)
   | ((with_reducible refine x_isN fo ?_); clear fo; intro fo)
   | ((with_reducible refine x_notN fo ?_); clear fo; intro fo)
   | ((with_reducible refine x_ltI fo ?_); clear fo; intro fo)
   | ((with_reducible refine x_leI fo ?_); clear fo; intro fo)
   | ((with_reducible refine x_gtI fo ?_); clear fo; intro fo)
   | ((with_reducible refine x_geI fo ?_); clear fo; intro fo)
   | ((with_reducible refine x_eqI fo ?_); clear fo; intro fo)
   | ((with_reducible refine x_neI fo ?_); clear fo; intro fo)
   | ((with_reducible refine x_max2 fo ?_); clear fo; intro fo)
   | ((with_reducible refine x_min2 fo ?_); clear fo; intro fo)
   | ((with_reducible refine x_intB fo ?_); clear fo; intro fo)
   | ((with_reducible refine x_intI fo ?_); clear fo; intro fo)
   | ((with_reducible refine x_lenT fo ?_); clear fo; intro fo)
   | ((with_reducible refine x_bool fo ?_); clear fo; intro fo)
   | ((with_reducible refine x_kPart fo ?_); clear fo; intro fo)
   | ((with_reducible refine x_kNotV fo ?_); clear fo; intro fo)
   | ((with_reducible refine x_kNe fo ?_); clear fo; intro fo)
   | ((with_reducible refine x_kStr fo ?_); clear fo; intro fo)
   | ((with_reducible refine is_Len ?_); (refine x_lenL fo (Or.inl rfl) ?_); clear fo; intro fo)
   | ((with_reducible refine x_mulI fo ?_ ?_); (unfold CMul; omega); clear fo; intro fo)
   | ((with_reducible refine x_modI fo ?_ ?_); omega; clear fo; intro fo)
   | ((with_reducible refine x_fdivI fo ?_ ?_); (constructor <;> omega); clear fo; intro fo)
   | ((with_reducible refine x_powI fo ?_ ?_); exact ⟨by decide, by decide, by decide⟩; clear fo; intro fo)
   | ((with_reducible refine is_Tup ?_); (first | (with_reducible refine x_mkTup fo (.cons (.cons .nil)) ?_ ?_) | (with_reducible refine x_mkTup fo (.cons .nil) ?_ ?_) | (with_reducible refine x_mkTup fo (.cons (.cons (.cons .nil))) ?_ ?_) | (with_reducible refine x_mkTup fo .nil ?_ ?_) | (with_reducible refine x_mkTup fo (.cons (.cons (.cons (.cons .nil)))) ?_ ?_) | (with_reducible refine x_mkTup fo (.cons (.cons (.cons (.cons (.cons .nil))))) ?_ ?_) | (with_reducible refine x_mkTup fo (.cons (.cons (.cons (.cons (.cons (.cons .nil)))))) ?_ ?_) | (with_reducible refine x_mkTup fo (.cons (.cons (.cons (.cons (.cons (.cons (.cons (.cons (.cons .nil))))))))) ?_ ?_)); exact Nat.le_of_ble_eq_true rfl; clear fo; intro _ F H fo)
   | ((with_reducible refine is_Lst ?_); (first | (with_reducible refine x_mkLst fo (.cons (.cons .nil)) ?_ ?_) | (with_reducible refine x_mkLst fo (.cons .nil) ?_ ?_) | (with_reducible refine x_mkLst fo (.cons (.cons (.cons .nil))) ?_ ?_) | (with_reducible refine x_mkLst fo .nil ?_ ?_) | (with_reducible refine x_mkLst fo (.cons (.cons (.cons (.cons .nil)))) ?_ ?_) | (with_reducible refine x_mkLst fo (.cons (.cons (.cons (.cons (.cons .nil))))) ?_ ?_) | (with_reducible refine x_mkLst fo (.cons (.cons (.cons (.cons (.cons (.cons .nil)))))) ?_ ?_) | (with_reducible refine x_mkLst fo (.cons (.cons (.cons (.cons (.cons (.cons (.cons (.cons (.cons .nil))))))))) ?_ ?_)); exact Nat.le_of_ble_eq_true rfl; clear fo; intro _ F H fo)
   | ((with_reducible refine is_LstO ?_); (first | (with_reducible refine x_mkLstO fo (.cons (.cons .nil)) ?_ ?_) | (with_reducible refine x_mkLstO fo (.cons .nil) ?_ ?_) | (with_reducible refine x_mkLstO fo (.cons (.cons (.cons .nil))) ?_ ?_) | (with_reducible refine x_mkLstO fo .nil ?_ ?_) | (with_reducible refine x_mkLstO fo (.cons (.cons (.cons (.cons .nil)))) ?_ ?_) | (with_reducible refine x_mkLstO fo (.cons (.cons (.cons (.cons (.cons .nil))))) ?_ ?_) | (with_reducible refine x_mkLstO fo (.cons (.cons (.cons (.cons (.cons (.cons .nil)))))) ?_ ?_) | (with_reducible refine x_mkLstO fo (.cons (.cons (.cons (.cons (.cons (.cons (.cons (.cons (.cons .nil))))))))) ?_ ?_)); exact Nat.le_of_ble_eq_true rfl; clear fo; intro _ H fo)
   | ((with_reducible refine x_gname fo ?_); clear fo; intro σ fo; try simp only [List.set_cons_zero, List.set_cons_succ] at fo)
   | ((with_reducible refine x_gtup2 fo ?_); clear fo; intro _ _ fo)
   | ((with_reducible refine x_gtup3 fo ?_); clear fo; intro _ _ _ fo)
   | (with_reducible refine x_gnil rfl ?_)
   | refine ite_y (by rfl) ?_
   | refine ite_n (by rfl) ?_))
section
variable {c : Cs} {vs : List V} {H : Hp} {Q : VK} {Ex : XK}
theorem pu_law (h : sp_law c vs H Q Ex) : t_law c { nx := fun _ H' => Q .non H', rt := Q } (L2.start N_law vs) H := by
  obtain ⟨a, ns, rfl, ⟨hS, _⟩, hn, k⟩ := h
  have fo : FO ⟨c.K, none, isBox, fun _ => none, H⟩ [some (D.at a), none, none, none, none, none, none, none] [] [] (fun _ => none) (L2.start N_law [.ref a]) H := by
    refine ⟨.same (fun _ _ h => nomatch h) (fun _ h => nomatch h), (fun _ h => nomatch h), rfl, fun j d q => ?_, (fun _ h => nomatch h), (fun _ h => nomatch h), List.nodup_nil⟩
    match j, q with
    | 0, q => cases q; exact ⟨_, rfl, .raw _⟩
    | 1, q => cases q
    | 2, q => cases q
    | 3, q => cases q
    | 4, q => cases q
    | 5, q => cases q
    | 6, q => cases q
    | 7, q => cases q
    | j + 8, q => simp at q
  unfold t_law
  walk_at "dl"
  refine x_lenS fo rfl hS ?_; clear fo; intro fo
  walk_at "dl"
  refine x_kRng1 fo (by omega) (by omega) ?_; clear fo; intro J dw fo
  refine x_for (fun i G O => O = [] ∧ ∃ d1 d2 d3 d4 d5 d6 d7, G = [some (D.at a), d1, d2, d3, d4, d5, d6, d7]) dw fo (fun z hz => nomatch hz) ⟨rfl, _, _, _, _, _, _, _, rfl⟩ ?_ ?_
  · clear fo; rintro i G O F σ H v hi ⟨rfl, d1, d2, d3, d4, d5, d6, d7, rfl⟩ fo
    walk_at "dl"
    have hi5 : i < 6 := by omega
    have e1 := fo.top.raw_eq
    have e2 := fo.snd.raw_eq
    subst e1 e2
    refine ⟨a, ns, (i : Int), rfl, fo.script rfl hS, by omega, by omega, fun p H' hp hb kp => ?_⟩
    have fo0 := fo.pop.pop
    replace fo : FO ⟨c.K, some p, isBox, F, H'⟩ [some (D.at a), some (D.int (i : Int)), d2, d3, d4, d5, d6, d7] [] [(V.ref p, D.raw (V.ref p))] F σ H' := (fo0.inBox hp hb kp).push (.raw (.ref p))
    clear hb
    walk_at "dl"
    ((first | (refine x_fn (p, 4) fo (.cons .nil) ?_ ?_ ?_ ?_) | (refine x_fn (p, 4) fo (.cons (.cons .nil)) ?_ ?_ ?_ ?_) | (refine x_fn (p, 4) fo (.cons (.cons (.cons .nil))) ?_ ?_ ?_ ?_)); rfl; (first | exact Or.inl rfl | exact Or.inr ⟨rfl, rfl⟩); (exact ⟨by show (1 : Int) ≤ 4; decide, by show (4 : Int) < 1073741824; decide⟩); clear fo; intro _ _ F H e_ fo)
    obtain ⟨m, e_, m0, m1⟩ := e_
    subst e_
    replace m1 : m < 4 := m1
    obtain ⟨w, rfl⟩ := Int.eq_ofNat_of_zero_le m0
    have hw : w ≤ 10 := by omega
    walk_at "dl"
    refine x_kRng1 fo (by decide) (by decide) ?_; clear fo; intro J dw fo
    refine x_lcGo (fun i acc => ∃ rs : List DL.Row, rs.length = i ∧ (∀ r ∈ rs, OkRow w r) ∧ acc = rs.map rowD) dw fo (fun z hz => nomatch hz) (by decide) ⟨[], rfl, (fun r h => nomatch h), rfl⟩ ?_ ?_
    · clear fo; rintro q j acc F H v τ hτ hj ⟨rs, hrj, hro, rfl⟩ hacc fo
      subst hτ
      refine x_gnameK fo fun fo => ⟨wipe_in (by decide), ?_⟩
      walk_at "dl"
      ((first | (refine x_fn (p, w) fo (.cons .nil) ?_ ?_ ?_ ?_) | (refine x_fn (p, w) fo (.cons (.cons .nil)) ?_ ?_ ?_ ?_) | (refine x_fn (p, w) fo (.cons (.cons (.cons .nil))) ?_ ?_ ?_ ?_)); rfl; (first | exact Or.inl rfl | exact Or.inr ⟨rfl, rfl⟩); (exact hw); clear fo; intro _ _ F H e_ fo)
      obtain ⟨r, okr, er⟩ := e_
      subst er
      refine x_kEnd fo hacc (by have : j < 3 := hj; omega) (wipe_in (by decide)) (by rw [wipeG_set (by decide), wipeG_twice]) ⟨rs ++ [r], by rw [List.length_append, hrj]; rfl, fun z hz => ?_, by rw [List.map_append]; rfl⟩
      rcases List.mem_append.mp hz with y | y
      · exact hro z y
      · rw [List.mem_singleton.mp y]; exact okr
    · clear fo; rintro q acc F H ⟨rs, hr3, hro, rfl⟩ _ fo
      replace hr3 : rs.length = 3 := hr3
      replace fo := fo.push (.raw (.ref q))
      match rs, hr3, hro, fo with
      | [r0, r1, r2], _, hro, fo =>
      have ok0 : OkRow w r0 := hro _ List.mem_cons_self
      walk_at "dl"
      refine x_kMetL fo (.inr ⟨_, rfl, List.mem_cons_self⟩) ?_
      walk_at "dl"
      refine x_ixL fo (.inr ⟨_, rfl, List.mem_cons_self⟩) (e := rowD r0) rfl ?_; clear fo; intro _ fo
      walk_at "dl"
      ((first | (refine x_fn (p, w, r0) fo (.cons .nil) ?_ ?_ ?_ ?_) | (refine x_fn (p, w, r0) fo (.cons (.cons .nil)) ?_ ?_ ?_ ?_) | (refine x_fn (p, w, r0) fo (.cons (.cons (.cons .nil))) ?_ ?_ ?_ ?_)); rfl; (first | exact Or.inl rfl | exact Or.inr ⟨rfl, rfl⟩); (exact ⟨ok0, hw⟩); clear fo; intro _ _ F H e_ fo)
      obtain ⟨r3, ok3, e3⟩ := e_
      subst e3
      walk_at "dl"
      refine x_append fo (by simp) ?_; clear fo; intro H fo
      replace fo := fo.pop
      obtain ⟨Rs, eR, hRs, lR⟩ : ∃ Rs : List DL.Row, [rowD r0, rowD r1, rowD r2] ++ [rowD r3] = Rs.map rowD ∧ (∀ r ∈ Rs, OkRow w r) ∧ Rs.length = 4 := ⟨[r0, r1, r2, r3], rfl, fun r hr => by
        simp at hr
        rcases hr with rfl | rfl | rfl | rfl
        · exact hro _ (by simp)
        · exact hro _ (by simp)
        · exact hro _ (by simp)
        · exact ok3, rfl⟩
      replace fo : FO _ _ [(_, [rowD r0, rowD r1, rowD r2] ++ [rowD r3])] _ _ _ _ := fo
      rw [eR] at fo
      refine x_freezeSlot (i := 4) fo rfl ?_; clear fo; intro F fo
      try simp only [List.set_cons_zero, List.set_cons_succ] at fo
      walk_at "dl"
      refine x_seqL fo ?_; intro J dw
      rw [List.length_map] at dw
      refine x_for (fun j G O => O = [] ∧ ∃ d5 d6 d7, G = [some (D.at a), some (.int i), some (D.at p), some (.int w), some (.lst (Rs.map rowD)), d5, d6, d7]) dw fo (fun z hz => hz) ⟨rfl, _, _, _, rfl⟩ ?_ ?_
      · clear fo; rintro j G O F σ H v hj ⟨rfl, e5, e6, e7, rfl⟩ fo
        have ej := List.getElem?_eq_getElem hj
        have e2 : itOf (Rs.map rowD) j = rowD Rs[j] := itOf_some (by rw [List.getElem?_map, ej]; rfl)
        rw [e2] at fo
        have okj : OkRow w Rs[j] := hRs _ (List.getElem_mem hj)
        generalize Rs[j] = rj at fo okj
        walk_at "dl"
        ((first | (refine x_fn (p, w, rj) fo (.cons .nil) ?_ ?_ ?_ ?_) | (refine x_fn (p, w, rj) fo (.cons (.cons .nil)) ?_ ?_ ?_ ?_) | (refine x_fn (p, w, rj) fo (.cons (.cons (.cons .nil))) ?_ ?_ ?_ ?_)); rfl; (first | exact Or.inl rfl | exact Or.inr ⟨rfl, rfl⟩); (exact ⟨okj, hw⟩); clear fo; intro _ _ F H e_ fo)
        obtain ⟨rn, okn, en⟩ := e_
        subst en
        walk_at "dl"
        refine x_addL fo (.inl rfl) (.inl rfl) (by rw [List.length_map]; simp; omega) ?_; clear fo; intro _ F H fo
        obtain ⟨Ts, eT, hTs⟩ : ∃ Ts : List DL.Row, Rs.map rowD ++ [rowD rn] = Ts.map rowD ∧ (∀ r ∈ Ts, OkRow w r) := ⟨Rs ++ [rn], by rw [List.map_append]; rfl, fun r hr => by
          rcases List.mem_append.mp hr with y | y
          · exact hRs r y
          · rw [List.mem_singleton.mp y]; exact okn⟩
        rw [eT] at fo
        refine x_seqL fo ?_; intro J dw
        rw [List.length_map] at dw
        refine x_for (fun j G O => O = [] ∧ ∃ d6 d7, G = [some (D.at a), some (.int i), some (D.at p), some (.int w), some (.lst (Rs.map rowD)), some (rowD rj), d6, d7]) dw fo (fun z hz => List.mem_cons.mpr (.inl (List.mem_singleton.mp hz))) ⟨rfl, _, _, rfl⟩ ?_ ?_
        · clear fo; rintro l G O F σ H v hl ⟨rfl, f6, f7, rfl⟩ fo
          have el := List.getElem?_eq_getElem hl
          have e2 : itOf (Ts.map rowD) l = rowD Ts[l] := itOf_some (by rw [List.getElem?_map, el]; rfl)
          rw [e2] at fo
          have okl : OkRow w Ts[l] := hTs _ (List.getElem_mem hl)
          generalize Ts[l] = rl at fo okl
          walk_at "dl"
          ((first | (refine x_fn (p, w, rj, rl) fo (.cons .nil) ?_ ?_ ?_ ?_) | (refine x_fn (p, w, rj, rl) fo (.cons (.cons .nil)) ?_ ?_ ?_ ?_) | (refine x_fn (p, w, rj, rl) fo (.cons (.cons (.cons .nil))) ?_ ?_ ?_ ?_)); rfl; (first | exact Or.inl rfl | exact Or.inr ⟨rfl, rfl⟩); (exact ⟨okj, okl, hw⟩); clear fo; intro _ _ F H e_ fo)
          replace e_ : _ = _ := e_
          subst e_
          walk_at "dl"
          dsimp only
          refine x_li fo ?_
          exact ⟨rfl, _, _, rfl⟩
        · clear fo; rintro G O F σ H ⟨rfl, f6, f7, rfl⟩ fo
          dsimp only
          refine x_liS fo (fun z hz => List.mem_cons_of_mem _ hz) ?_
          exact ⟨rfl, _, _, _, rfl⟩
      · clear fo; rintro G O F σ H ⟨rfl, e5, e6, e7, rfl⟩ fo
        dsimp only
        refine x_liS (fo0.outBox rfl hp kp fo) (fun z hz => nomatch hz) ?_
        exact ⟨rfl, _, _, _, _, _, _, _, rfl⟩
  · clear fo; rintro G O F σ H ⟨rfl, d1, d2, d3, d4, d5, d6, d7, rfl⟩ fo
    walk_at "dl"
    exact k _
end
end K26


set_option maxHeartbeats 0
namespace K26
open PySem PySem.Spec PyProof.Rows L2 DL
section
variable {P : Program} {w : World} {c : Cs} {mg : Str → Option Value} {base : Heap} {f : Addr} {fd : FuncData}
theorem ok_capped (T : Tx mg c) (F : L2.Fun c.K "capped" "capped" s_capped f fd) : FnS false P w c.K mg base 2 f (sp_capped c) :=
  ok_body F sc_capped (Fun_binds (ps := ["count"]) F fun _ _ _ _ _ _ us hl => match us, hl with | [_], _ => rfl) (fun vs H Q E h => (by first | (obtain ⟨_, _, _, _, r, _⟩ := h; exact r.length) | (obtain ⟨_, _, _, _, _, _, rfl, _, _, _, r, _⟩ := h; exact congrArg Nat.succ r.length) | (obtain ⟨_, _, _, rfl, _⟩ := h; rfl) | (obtain ⟨_, _, rfl, _⟩ := h; rfl))) (fun cdv A outer s H vs Q Ex hr hg h => ⟨t_capped c, der_capped T hr, pu_capped  h⟩)
theorem ok_lesser (T : Tx mg c) (F : L2.Fun c.K "lesser" "lesser" s_lesser f fd) : FnS false P w c.K mg base 2 f (sp_lesser c) :=
  ok_body F sc_lesser (Fun_binds (ps := ["one", "other"]) F fun _ _ _ _ _ _ us hl => match us, hl with | [_, _], _ => rfl) (fun vs H Q E h => (by first | (obtain ⟨_, _, _, _, r, _⟩ := h; exact r.length) | (obtain ⟨_, _, _, _, _, _, rfl, _, _, _, r, _⟩ := h; exact congrArg Nat.succ r.length) | (obtain ⟨_, _, _, rfl, _⟩ := h; rfl) | (obtain ⟨_, _, rfl, _⟩ := h; rfl))) (fun cdv A outer s H vs Q Ex hr hg h => ⟨t_lesser c, der_lesser T hr, pu_lesser  h⟩)
theorem ok_greater (T : Tx mg c) (F : L2.Fun c.K "greater" "greater" s_greater f fd) : FnS false P w c.K mg base 2 f (sp_greater c) :=
  ok_body F sc_greater (Fun_binds (ps := ["one", "other"]) F fun _ _ _ _ _ _ us hl => match us, hl with | [_, _], _ => rfl) (fun vs H Q E h => (by first | (obtain ⟨_, _, _, _, r, _⟩ := h; exact r.length) | (obtain ⟨_, _, _, _, _, _, rfl, _, _, _, r, _⟩ := h; exact congrArg Nat.succ r.length) | (obtain ⟨_, _, _, rfl, _⟩ := h; rfl) | (obtain ⟨_, _, rfl, _⟩ := h; rfl))) (fun cdv A outer s H vs Q Ex hr hg h => ⟨t_greater c, der_greater T hr, pu_greater  h⟩)
theorem ok_lr_init (T : Tx mg c) (F : L2.Fun c.K "__init__" "LifeRow.__init__" s_lr_init f fd) : Binds c.K fd ["self", "left", "lost"] [] ∧ FnOk P w c.K mg base CX0 2 f fd ["self", "left", "lost"] (sp_lr_init c) :=
  ⟨(Fun_binds (ps := ["self", "left", "lost"]) F fun _ _ _ _ _ _ us hl => match us, hl with | [_, _, _], _ => rfl), F.ok sc_lr_init (fun vs H Q E h => (by first | (obtain ⟨_, _, _, _, r, _⟩ := h; exact r.length) | (obtain ⟨_, _, _, _, _, _, rfl, _, _, _, r, _⟩ := h; exact congrArg Nat.succ r.length) | (obtain ⟨_, _, _, rfl, _⟩ := h; rfl) | (obtain ⟨_, _, rfl, _⟩ := h; rfl))) (fun cdv A outer s H vs Q Ex hr h => ⟨t_lr_init c, der_lr_init T hr, pu_lr_init T.o_LifeRow T.k_LifeRow h⟩)⟩
theorem ok_lr_call (T : Tx mg c) (F : L2.Fun c.K "__call__" "LifeRow.__call__" s_lr_call f fd) : FnS false P w c.K mg base 2 f (sp_lr_call c) :=
  ok_body F sc_lr_call (Fun_binds (ps := ["self", "lives"]) F fun _ _ _ _ _ _ us hl => match us, hl with | [_, _], _ => rfl) (fun vs H Q E h => (by first | (obtain ⟨_, _, _, _, r, _⟩ := h; exact r.length) | (obtain ⟨_, _, _, _, _, _, rfl, _, _, _, r, _⟩ := h; exact congrArg Nat.succ r.length) | (obtain ⟨_, _, _, rfl, _⟩ := h; rfl) | (obtain ⟨_, _, rfl, _⟩ := h; rfl))) (fun cdv A outer s H vs Q Ex hr hg h => ⟨t_lr_call c, der_lr_call T hr, pu_lr_call T.o_LifeRow T.k_LifeRow h⟩)
theorem ok_lr_sub (T : Tx mg c) (h_lr_init : H_lr_init P w mg base c) (h_capped : H_capped P w mg base c) (F : L2.Fun c.K "__sub__" "LifeRow.__sub__" s_lr_sub f fd) : FnS false P w c.K mg base 4 f (sp_lr_sub c) :=
  ok_body F sc_lr_sub (Fun_binds (ps := ["self", "ticks"]) F fun _ _ _ _ _ _ us hl => match us, hl with | [_, _], _ => rfl) (fun vs H Q E h => (by first | (obtain ⟨_, _, _, _, r, _⟩ := h; exact r.length) | (obtain ⟨_, _, _, _, _, _, rfl, _, _, _, r, _⟩ := h; exact congrArg Nat.succ r.length) | (obtain ⟨_, _, _, rfl, _⟩ := h; rfl) | (obtain ⟨_, _, rfl, _⟩ := h; rfl))) (fun cdv A outer s H vs Q Ex hr hg h => ⟨t_lr_sub c, der_lr_sub T h_lr_init h_capped hr, pu_lr_sub T.o_LifeRow T.k_LifeRow h⟩)
theorem ok_lr_and (T : Tx mg c) (h_greater : H_greater P w mg base c) (h_lr_init : H_lr_init P w mg base c) (h_lesser : H_lesser P w mg base c) (F : L2.Fun c.K "__and__" "LifeRow.__and__" s_lr_and f fd) : FnS false P w c.K mg base 4 f (sp_lr_and c) :=
  ok_body F sc_lr_and (Fun_binds (ps := ["self", "other"]) F fun _ _ _ _ _ _ us hl => match us, hl with | [_, _], _ => rfl) (fun vs H Q E h => (by first | (obtain ⟨_, _, _, _, r, _⟩ := h; exact r.length) | (obtain ⟨_, _, _, _, _, _, rfl, _, _, _, r, _⟩ := h; exact congrArg Nat.succ r.length) | (obtain ⟨_, _, _, rfl, _⟩ := h; rfl) | (obtain ⟨_, _, rfl, _⟩ := h; rfl))) (fun cdv A outer s H vs Q Ex hr hg h => ⟨t_lr_and c, der_lr_and T h_greater h_lr_init h_lesser hr, pu_lr_and T.o_LifeRow T.k_LifeRow h⟩)
theorem ok_lr_eq (T : Tx mg c) (F : L2.Fun c.K "__eq__" "LifeRow.__eq__" s_lr_eq f fd) : FnS false P w c.K mg base 2 f (sp_lr_eq c) :=
  ok_body F sc_lr_eq (Fun_binds (ps := ["self", "other"]) F fun _ _ _ _ _ _ us hl => match us, hl with | [_, _], _ => rfl) (fun vs H Q E h => (by first | (obtain ⟨_, _, _, _, r, _⟩ := h; exact r.length) | (obtain ⟨_, _, _, _, _, _, rfl, _, _, _, r, _⟩ := h; exact congrArg Nat.succ r.length) | (obtain ⟨_, _, _, rfl, _⟩ := h; rfl) | (obtain ⟨_, _, rfl, _⟩ := h; rfl))) (fun cdv A outer s H vs Q Ex hr hg h => ⟨t_lr_eq c, der_lr_eq T hr, pu_lr_eq T.o_LifeRow T.k_LifeRow h⟩)
theorem ok_lr_repr (T : Tx mg c) (F : L2.Fun c.K "__repr__" "LifeRow.__repr__" s_lr_repr f fd) : FnS true P w c.K mg base 2 f (sp_lr_repr c) :=
  ok_body F sc_lr_repr (Fun_binds (ps := ["self"]) F fun _ _ _ _ _ _ us hl => match us, hl with | [_], _ => rfl) (fun vs H Q E h => (by first | (obtain ⟨_, _, _, _, r, _⟩ := h; exact r.length) | (obtain ⟨_, _, _, _, _, _, rfl, _, _, _, r, _⟩ := h; exact congrArg Nat.succ r.length) | (obtain ⟨_, _, _, rfl, _⟩ := h; rfl) | (obtain ⟨_, _, rfl, _⟩ := h; rfl))) (fun cdv A outer s H vs Q Ex hr hg h => ⟨t_lr_repr c, der_lr_repr T hr (hg rfl), pu_lr_repr T.o_LifeRow T.k_LifeRow h⟩)
theorem ok_lr_left (T : Tx mg c) (F : L2.Fun c.K "left" "LifeRow.left" s_lr_left f fd) : Binds c.K fd ["self"] [] ∧ FnOk P w c.K mg base CX0 2 f fd ["self"] (sp_lr_left c) :=
  ⟨(Fun_binds (ps := ["self"]) F fun _ _ _ _ _ _ us hl => match us, hl with | [_], _ => rfl), F.ok sc_lr_left (fun vs H Q E h => (by first | (obtain ⟨_, _, _, _, r, _⟩ := h; exact r.length) | (obtain ⟨_, _, _, _, _, _, rfl, _, _, _, r, _⟩ := h; exact congrArg Nat.succ r.length) | (obtain ⟨_, _, _, rfl, _⟩ := h; rfl) | (obtain ⟨_, _, rfl, _⟩ := h; rfl))) (fun cdv A outer s H vs Q Ex hr h => ⟨t_lr_left c, der_lr_left T hr, pu_lr_left T.o_LifeRow T.k_LifeRow h⟩)⟩
theorem ok_lr_lost (T : Tx mg c) (F : L2.Fun c.K "lost" "LifeRow.lost" s_lr_lost f fd) : Binds c.K fd ["self"] [] ∧ FnOk P w c.K mg base CX0 2 f fd ["self"] (sp_lr_lost c) :=
  ⟨(Fun_binds (ps := ["self"]) F fun _ _ _ _ _ _ us hl => match us, hl with | [_], _ => rfl), F.ok sc_lr_lost (fun vs H Q E h => (by first | (obtain ⟨_, _, _, _, r, _⟩ := h; exact r.length) | (obtain ⟨_, _, _, _, _, _, rfl, _, _, _, r, _⟩ := h; exact congrArg Nat.succ r.length) | (obtain ⟨_, _, _, rfl, _⟩ := h; rfl) | (obtain ⟨_, _, rfl, _⟩ := h; rfl))) (fun cdv A outer s H vs Q Ex hr h => ⟨t_lr_lost c, der_lr_lost T hr, pu_lr_lost T.o_LifeRow T.k_LifeRow h⟩)⟩
theorem ok_lr_below (T : Tx mg c) (h_lr_left : H_lr_left P w mg base c) (h_lr_lost : H_lr_lost P w mg base c) (F : L2.Fun c.K "is_below" "LifeRow.is_below" s_lr_below f fd) : FnS false P w c.K mg base 4 f (sp_lr_below c) :=
  ok_body F sc_lr_below (Fun_binds (ps := ["self", "other"]) F fun _ _ _ _ _ _ us hl => match us, hl with | [_, _], _ => rfl) (fun vs H Q E h => (by first | (obtain ⟨_, _, _, _, r, _⟩ := h; exact r.length) | (obtain ⟨_, _, _, _, _, _, rfl, _, _, _, r, _⟩ := h; exact congrArg Nat.succ r.length) | (obtain ⟨_, _, _, rfl, _⟩ := h; rfl) | (obtain ⟨_, _, rfl, _⟩ := h; rfl))) (fun cdv A outer s H vs Q Ex hr hg h => ⟨t_lr_below c, der_lr_below T h_lr_left h_lr_lost hr, pu_lr_below T.o_LifeRow T.k_LifeRow h⟩)
theorem ok_box (T : Tx mg c) (F : L2.Fun c.K "_law_box" "_law_box" s_box f fd) : FnS false P w c.K mg base 2 f (sp_box c) :=
  ok_body F sc_box (Fun_binds (ps := ["_law_script", "_law_k"]) F fun _ _ _ _ _ _ us hl => match us, hl with | [_, _], _ => rfl) (fun vs H Q E h => (by first | (obtain ⟨_, _, _, _, r, _⟩ := h; exact r.length) | (obtain ⟨_, _, _, _, _, _, rfl, _, _, _, r, _⟩ := h; exact congrArg Nat.succ r.length) | (obtain ⟨_, _, _, rfl, _⟩ := h; rfl) | (obtain ⟨_, _, rfl, _⟩ := h; rfl))) (fun cdv A outer s H vs Q Ex hr hg h => ⟨t_box c, der_box T hr, pu_box  h⟩)
theorem ok_take (T : Tx mg c) (F : L2.Fun c.K "_law_take" "_law_take" s_take f fd) : FnS false P w c.K mg base 2 f (sp_take c) :=
  ok_body F sc_take (Fun_binds (ps := ["_law_box_here", "_law_many"]) F fun _ _ _ _ _ _ us hl => match us, hl with | [_, _], _ => rfl) (fun vs H Q E h => (by first | (obtain ⟨_, _, _, _, r, _⟩ := h; exact r.length) | (obtain ⟨_, _, _, _, _, _, rfl, _, _, _, r, _⟩ := h; exact congrArg Nat.succ r.length) | (obtain ⟨_, _, _, rfl, _⟩ := h; rfl) | (obtain ⟨_, _, rfl, _⟩ := h; rfl))) (fun cdv A outer s H vs Q Ex hr hg h => ⟨t_take c, der_take T hr, pu_take  h⟩)
theorem ok_pick (T : Tx mg c) (h_take : H_take P w mg base c) (F : L2.Fun c.K "_law_pick" "_law_pick" s_pick f fd) : FnS false P w c.K mg base 4 f (sp_pick c) :=
  ok_body F sc_pick (Fun_binds (ps := ["_law_box_here", "_law_things"]) F fun _ _ _ _ _ _ us hl => match us, hl with | [_, _], _ => rfl) (fun vs H Q E h => (by first | (obtain ⟨_, _, _, _, r, _⟩ := h; exact r.length) | (obtain ⟨_, _, _, _, _, _, rfl, _, _, _, r, _⟩ := h; exact congrArg Nat.succ r.length) | (obtain ⟨_, _, _, rfl, _⟩ := h; rfl) | (obtain ⟨_, _, rfl, _⟩ := h; rfl))) (fun cdv A outer s H vs Q Ex hr hg h => ⟨t_pick c, der_pick T h_take hr, pu_pick  h⟩)
theorem ok_row (T : Tx mg c) (h_take : H_take P w mg base c) (h_pick : H_pick P w mg base c) (F : L2.Fun c.K "_law_row" "_law_row" s_row f fd) : FnS false P w c.K mg base 6 f (sp_row c) :=
  ok_body F sc_row (Fun_binds (ps := ["_law_box_here", "_law_many"]) F fun _ _ _ _ _ _ us hl => match us, hl with | [_, _], _ => rfl) (fun vs H Q E h => (by first | (obtain ⟨_, _, _, _, r, _⟩ := h; exact r.length) | (obtain ⟨_, _, _, _, _, _, rfl, _, _, _, r, _⟩ := h; exact congrArg Nat.succ r.length) | (obtain ⟨_, _, _, rfl, _⟩ := h; rfl) | (obtain ⟨_, _, rfl, _⟩ := h; rfl))) (fun cdv A outer s H vs Q Ex hr hg h => ⟨t_row c, der_row T h_take h_pick hr, pu_row  h⟩)
theorem ok_bound (T : Tx mg c) (F : L2.Fun c.K "_law_bound" "_law_bound" s_bound f fd) : FnS false P w c.K mg base 2 f (sp_bound c) :=
  ok_body F sc_bound (Fun_binds (ps := ["_law_row_here", "_law_lives"]) F fun _ _ _ _ _ _ us hl => match us, hl with | [_, _], _ => rfl) (fun vs H Q E h => (by first | (obtain ⟨_, _, _, _, r, _⟩ := h; exact r.length) | (obtain ⟨_, _, _, _, _, _, rfl, _, _, _, r, _⟩ := h; exact congrArg Nat.succ r.length) | (obtain ⟨_, _, _, rfl, _⟩ := h; rfl) | (obtain ⟨_, _, rfl, _⟩ := h; rfl))) (fun cdv A outer s H vs Q Ex hr hg h => ⟨t_bound c, der_bound T hr, pu_bound  h⟩)
theorem ok_alike (T : Tx mg c) (F : L2.Fun c.K "_law_alike" "_law_alike" s_alike f fd) : FnS false P w c.K mg base 2 f (sp_alike c) :=
  ok_body F sc_alike (Fun_binds (ps := ["_law_found", "_law_due"]) F fun _ _ _ _ _ _ us hl => match us, hl with | [_, _], _ => rfl) (fun vs H Q E h => (by first | (obtain ⟨_, _, _, _, r, _⟩ := h; exact r.length) | (obtain ⟨_, _, _, _, _, _, rfl, _, _, _, r, _⟩ := h; exact congrArg Nat.succ r.length) | (obtain ⟨_, _, _, rfl, _⟩ := h; rfl) | (obtain ⟨_, _, rfl, _⟩ := h; rfl))) (fun cdv A outer s H vs Q Ex hr hg h => ⟨t_alike c, der_alike T hr, pu_alike  h⟩)
theorem ok_parts (T : Tx mg c) (h_lr_left : H_lr_left P w mg base c) (h_lr_lost : H_lr_lost P w mg base c) (F : L2.Fun c.K "_law_parts_of" "_law_parts_of" s_parts f fd) : FnS false P w c.K mg base 4 f (sp_parts c) :=
  ok_body F sc_parts (Fun_binds (ps := ["_law_row_here"]) F fun _ _ _ _ _ _ us hl => match us, hl with | [_], _ => rfl) (fun vs H Q E h => (by first | (obtain ⟨_, _, _, _, r, _⟩ := h; exact r.length) | (obtain ⟨_, _, _, _, _, _, rfl, _, _, _, r, _⟩ := h; exact congrArg Nat.succ r.length) | (obtain ⟨_, _, _, rfl, _⟩ := h; rfl) | (obtain ⟨_, _, rfl, _⟩ := h; rfl))) (fun cdv A outer s H vs Q Ex hr hg h => ⟨t_parts c, der_parts T h_lr_left h_lr_lost hr, pu_parts  h⟩)
theorem ok_less (T : Tx mg c) (F : L2.Fun c.K "_law_less" "_law_less" s_less f fd) : FnS false P w c.K mg base 2 f (sp_less c) :=
  ok_body F sc_less (Fun_binds (ps := ["_law_row_here", "_law_ticks"]) F fun _ _ _ _ _ _ us hl => match us, hl with | [_, _], _ => rfl) (fun vs H Q E h => (by first | (obtain ⟨_, _, _, _, r, _⟩ := h; exact r.length) | (obtain ⟨_, _, _, _, _, _, rfl, _, _, _, r, _⟩ := h; exact congrArg Nat.succ r.length) | (obtain ⟨_, _, _, rfl, _⟩ := h; rfl) | (obtain ⟨_, _, rfl, _⟩ := h; rfl))) (fun cdv A outer s H vs Q Ex hr hg h => ⟨t_less c, der_less T hr, pu_less  h⟩)
theorem ok_worse (T : Tx mg c) (F : L2.Fun c.K "_law_worse" "_law_worse" s_worse f fd) : FnS false P w c.K mg base 2 f (sp_worse c) :=
  ok_body F sc_worse (Fun_binds (ps := ["_law_one", "_law_other", "_law_sign"]) F fun _ _ _ _ _ _ us hl => match us, hl with | [_, _, _], _ => rfl) (fun vs H Q E h => (by first | (obtain ⟨_, _, _, _, r, _⟩ := h; exact r.length) | (obtain ⟨_, _, _, _, _, _, rfl, _, _, _, r, _⟩ := h; exact congrArg Nat.succ r.length) | (obtain ⟨_, _, _, rfl, _⟩ := h; rfl) | (obtain ⟨_, _, rfl, _⟩ := h; rfl))) (fun cdv A outer s H vs Q Ex hr hg h => ⟨t_worse c, der_worse T hr, pu_worse  h⟩)
theorem ok_least (T : Tx mg c) (h_worse : H_worse P w mg base c) (F : L2.Fun c.K "_law_least" "_law_least" s_least f fd) : FnS false P w c.K mg base 4 f (sp_least c) :=
  ok_body F sc_least (Fun_binds (ps := ["_law_one", "_law_other"]) F fun _ _ _ _ _ _ us hl => match us, hl with | [_, _], _ => rfl) (fun vs H Q E h => (by first | (obtain ⟨_, _, _, _, r, _⟩ := h; exact r.length) | (obtain ⟨_, _, _, _, _, _, rfl, _, _, _, r, _⟩ := h; exact congrArg Nat.succ r.length) | (obtain ⟨_, _, _, rfl, _⟩ := h; rfl) | (obtain ⟨_, _, rfl, _⟩ := h; rfl))) (fun cdv A outer s H vs Q Ex hr hg h => ⟨t_least c, der_least T h_worse hr, pu_least  h⟩)
theorem ok_below (T : Tx mg c) (F : L2.Fun c.K "_law_is_below" "_law_is_below" s_below f fd) : FnS false P w c.K mg base 2 f (sp_below c) :=
  ok_body F sc_below (Fun_binds (ps := ["_law_one", "_law_other"]) F fun _ _ _ _ _ _ us hl => match us, hl with | [_, _], _ => rfl) (fun vs H Q E h => (by first | (obtain ⟨_, _, _, _, r, _⟩ := h; exact r.length) | (obtain ⟨_, _, _, _, _, _, rfl, _, _, _, r, _⟩ := h; exact congrArg Nat.succ r.length) | (obtain ⟨_, _, _, rfl, _⟩ := h; rfl) | (obtain ⟨_, _, rfl, _⟩ := h; rfl))) (fun cdv A outer s H vs Q Ex hr hg h => ⟨t_below c, der_below T hr, pu_below  h⟩)
theorem ok_near (T : Tx mg c) (h_take : H_take P w mg base c) (h_pick : H_pick P w mg base c) (F : L2.Fun c.K "_law_near" "_law_near" s_near f fd) : FnS false P w c.K mg base 6 f (sp_near c) :=
  ok_body F sc_near (Fun_binds (ps := ["_law_box_here", "_law_row_here"]) F fun _ _ _ _ _ _ us hl => match us, hl with | [_, _], _ => rfl) (fun vs H Q E h => (by first | (obtain ⟨_, _, _, _, r, _⟩ := h; exact r.length) | (obtain ⟨_, _, _, _, _, _, rfl, _, _, _, r, _⟩ := h; exact congrArg Nat.succ r.length) | (obtain ⟨_, _, _, rfl, _⟩ := h; rfl) | (obtain ⟨_, _, rfl, _⟩ := h; rfl))) (fun cdv A outer s H vs Q Ex hr hg h => ⟨t_near c, der_near T h_take h_pick hr, pu_near  h⟩)
theorem ok_pair (T : Tx mg c) (h_lr_init : H_lr_init P w mg base c) (h_alike : H_alike P w mg base c) (h_parts : H_parts P w mg base c) (h_lr_and : H_lr_and P w mg base c) (h_least : H_least P w mg base c) (h_lr_eq : H_lr_eq P w mg base c) (h_lr_below : H_lr_below P w mg base c) (h_below : H_below P w mg base c) (h_pick : H_pick P w mg base c) (h_take : H_take P w mg base c) (h_lr_sub : H_lr_sub P w mg base c) (h_less : H_less P w mg base c) (h_lr_call : H_lr_call P w mg base c) (h_bound : H_bound P w mg base c) (h_lr_repr : H_lr_repr P w mg base c) (F : L2.Fun c.K "_law_pair_right" "_law_pair_right" s_pair f fd) : FnS true P w c.K mg base 6 f (sp_pair c) :=
  ok_body F sc_pair (Fun_binds (ps := ["_law_box_here", "_law_one", "_law_other"]) F fun _ _ _ _ _ _ us hl => match us, hl with | [_, _, _], _ => rfl) (fun vs H Q E h => (by first | (obtain ⟨_, _, _, _, r, _⟩ := h; exact r.length) | (obtain ⟨_, _, _, _, _, _, rfl, _, _, _, r, _⟩ := h; exact congrArg Nat.succ r.length) | (obtain ⟨_, _, _, rfl, _⟩ := h; rfl) | (obtain ⟨_, _, rfl, _⟩ := h; rfl))) (fun cdv A outer s H vs Q Ex hr hg h => ⟨t_pair c, der_pair T h_lr_init h_alike h_parts h_lr_and h_least h_lr_eq h_lr_below h_below h_pick h_take h_lr_sub h_less h_lr_call h_bound h_lr_repr hr (hg rfl), pu_pair  h⟩)
theorem ok_law (T : Tx mg c) (h_box : H_box P w mg base c) (h_take : H_take P w mg base c) (h_row : H_row P w mg base c) (h_near : H_near P w mg base c) (h_pair : H_pair P w mg base c) (F : L2.Fun c.K "law" "law" s_law f fd) : FnS true P w c.K mg base 8 f (sp_law c) :=
  ok_body F sc_law (Fun_binds (ps := ["_law_script"]) F fun _ _ _ _ _ _ us hl => match us, hl with | [_], _ => rfl) (fun vs H Q E h => (by first | (obtain ⟨_, _, _, _, r, _⟩ := h; exact r.length) | (obtain ⟨_, _, _, _, _, _, rfl, _, _, _, r, _⟩ := h; exact congrArg Nat.succ r.length) | (obtain ⟨_, _, _, rfl, _⟩ := h; rfl) | (obtain ⟨_, _, rfl, _⟩ := h; rfl))) (fun cdv A outer s H vs Q Ex hr hg h => ⟨t_law c, der_law T h_box h_take h_row h_near h_pair hr (hg rfl), pu_law  h⟩)
end
/-! ### behind the top -/
abbrev R : PySem.W.OpenRow := PySem.W.OpenLaw.row PySem.Challenge.rw_sourwright_k26_bounds_of_lives
def fn : List DefP := [⟨(pGlo "capped"), "capped", "capped", s_capped⟩, ⟨(pGlo "lesser"), "lesser", "lesser", s_lesser⟩, ⟨(pGlo "greater"), "greater", "greater", s_greater⟩, ⟨(pMeth "LifeRow" "__init__"), "__init__", "LifeRow.__init__", s_lr_init⟩, ⟨(pMeth "LifeRow" "__call__"), "__call__", "LifeRow.__call__", s_lr_call⟩, ⟨(pMeth "LifeRow" "__sub__"), "__sub__", "LifeRow.__sub__", s_lr_sub⟩, ⟨(pMeth "LifeRow" "__and__"), "__and__", "LifeRow.__and__", s_lr_and⟩, ⟨(pMeth "LifeRow" "__eq__"), "__eq__", "LifeRow.__eq__", s_lr_eq⟩, ⟨(pMeth "LifeRow" "__repr__"), "__repr__", "LifeRow.__repr__", s_lr_repr⟩, ⟨(pProp "LifeRow" "left"), "left", "LifeRow.left", s_lr_left⟩, ⟨(pProp "LifeRow" "lost"), "lost", "LifeRow.lost", s_lr_lost⟩, ⟨(pMeth "LifeRow" "is_below"), "is_below", "LifeRow.is_below", s_lr_below⟩, ⟨(pGlo "_law_box"), "_law_box", "_law_box", s_box⟩, ⟨(pGlo "_law_take"), "_law_take", "_law_take", s_take⟩, ⟨(pGlo "_law_pick"), "_law_pick", "_law_pick", s_pick⟩, ⟨(pGlo "_law_row"), "_law_row", "_law_row", s_row⟩, ⟨(pGlo "_law_bound"), "_law_bound", "_law_bound", s_bound⟩, ⟨(pGlo "_law_alike"), "_law_alike", "_law_alike", s_alike⟩, ⟨(pGlo "_law_parts_of"), "_law_parts_of", "_law_parts_of", s_parts⟩, ⟨(pGlo "_law_less"), "_law_less", "_law_less", s_less⟩, ⟨(pGlo "_law_worse"), "_law_worse", "_law_worse", s_worse⟩, ⟨(pGlo "_law_least"), "_law_least", "_law_least", s_least⟩, ⟨(pGlo "_law_is_below"), "_law_is_below", "_law_is_below", s_below⟩, ⟨(pGlo "_law_near"), "_law_near", "_law_near", s_near⟩, ⟨(pGlo "_law_pair_right"), "_law_pair_right", "_law_pair_right", s_pair⟩, ⟨(pGlo "law"), "law", "law", s_law⟩]
def fa0 : List He.Fa := [.int "BEYOND" 61, .free "min", .free "max", .free "tuple", .free "zip", .glo "LifeRow", .free "isinstance", .free "len", .free "int", .free "range", .free "list", .free "bool", .noat "LifeRow" "__rsub__", .free "repr", .noat "LifeRow" "key", .glo "capped", .glo "lesser", .glo "greater", .mkr "LifeRow", .meth "LifeRow" "__sub__", .meth "LifeRow" "__and__", .meth "LifeRow" "__eq__", .meth "LifeRow" "__repr__", .meth "LifeRow" "is_below", .glo "_law_box", .glo "_law_take", .glo "_law_pick", .glo "_law_row", .glo "_law_bound", .glo "_law_alike"]
def fa1 : List He.Fa := [.glo "_law_parts_of", .glo "_law_less", .glo "_law_worse", .glo "_law_least", .glo "_law_is_below", .glo "_law_near", .glo "_law_pair_right", .glo "law"]
def fa : List He.Fa := fa0 ++ fa1
def ex : List (PySem.W.Frag → Bool) := [ownB "LifeRow", callB "LifeRow", propB "LifeRow" "left", propB "LifeRow" "lost"]
def names : List Str := ["BEYOND", "capped", "lesser", "greater", "LifeRow", "_law_box", "_law_take", "_law_pick", "_law_row", "_law_bound", "_law_alike", "_law_parts_of", "_law_less", "_law_worse", "_law_least", "_law_is_below", "_law_near", "_law_pair_right"]
abbrev hk : PySem.W.Hook := hookP 6 fa fn ex
def ob (s : PySem.W.SharedT) : He.AlD := obsPG 6 fa fn ex (HandSHeadRun.getT s)
theorem ob_eq (s : PySem.W.SharedT) : ob s = hk.obs s.abs := obsPG_eq (HandSHeadRun.getT_eq s)
theorem run (w : World) : HandSHeadRun.RunEq R (PySem.W.view R.prog [20]) hk ob 3000 names w := by
  intro os
  kernel_rfl
theorem facts {P : Program} {w : World} {K : PySem.W.Frag} {h : Heap} {mg : Str → Option Value} {base : Heap} (X : K.In h) (G : h.Ns mainGlobals mg) (c : SaysP fa fn ex K) : H_law P w mg base ⟨K, He.ga K "LifeRow"⟩ := by
  have T : Tx mg ⟨K, He.ga K "LifeRow"⟩ := ⟨He.int_ok X G (c.fact 0 (f := .int "BEYOND" 61) rfl), He.free_ok X G (c.fact 1 (f := .free "min") rfl), He.free_ok X G (c.fact 2 (f := .free "max") rfl), He.free_ok X G (c.fact 3 (f := .free "tuple") rfl), He.free_ok X G (c.fact 4 (f := .free "zip") rfl), He.glo_ok X G (c.fact 5 (f := .glo "LifeRow") rfl), ownB_ok (c.extra 0 (f := ownB "LifeRow") rfl), He.free_ok X G (c.fact 6 (f := .free "isinstance") rfl), He.free_ok X G (c.fact 7 (f := .free "len") rfl), He.free_ok X G (c.fact 8 (f := .free "int") rfl), He.free_ok X G (c.fact 9 (f := .free "range") rfl), He.free_ok X G (c.fact 10 (f := .free "list") rfl), He.free_ok X G (c.fact 11 (f := .free "bool") rfl), He.noat_ok (c.fact 12 (f := .noat "LifeRow" "__rsub__") rfl), He.free_ok X G (c.fact 13 (f := .free "repr") rfl), He.noat_ok (c.fact 14 (f := .noat "LifeRow" "key") rfl)⟩
  obtain ⟨fd, F⟩ := c.def_ 0 (d := ⟨(pGlo "capped"), "capped", "capped", s_capped⟩) rfl
  have h_capped : H_capped P w mg base ⟨K, He.ga K "LifeRow"⟩ := ⟨_, He.glo_ok X G (c.fact 15 (f := .glo "capped") rfl), F.kp, ok_capped (P := P) (w := w) (base := base) T F⟩
  clear F fd
  obtain ⟨fd, F⟩ := c.def_ 1 (d := ⟨(pGlo "lesser"), "lesser", "lesser", s_lesser⟩) rfl
  have h_lesser : H_lesser P w mg base ⟨K, He.ga K "LifeRow"⟩ := ⟨_, He.glo_ok X G (c.fact 16 (f := .glo "lesser") rfl), F.kp, ok_lesser (P := P) (w := w) (base := base) T F⟩
  clear F fd
  obtain ⟨fd, F⟩ := c.def_ 2 (d := ⟨(pGlo "greater"), "greater", "greater", s_greater⟩) rfl
  have h_greater : H_greater P w mg base ⟨K, He.ga K "LifeRow"⟩ := ⟨_, He.glo_ok X G (c.fact 17 (f := .glo "greater") rfl), F.kp, ok_greater (P := P) (w := w) (base := base) T F⟩
  clear F fd
  obtain ⟨fd, F⟩ := c.def_ 3 (d := ⟨(pMeth "LifeRow" "__init__"), "__init__", "LifeRow.__init__", s_lr_init⟩) rfl
  have h_lr_init : H_lr_init P w mg base ⟨K, He.ga K "LifeRow"⟩ := ⟨_, _, _, He.mkr_ok (c.fact 18 (f := .mkr "LifeRow") rfl), (ok_lr_init (P := P) (w := w) (base := base) T F).1, (ok_lr_init (P := P) (w := w) (base := base) T F).2⟩
  clear F fd
  obtain ⟨fd, F⟩ := c.def_ 4 (d := ⟨(pMeth "LifeRow" "__call__"), "__call__", "LifeRow.__call__", s_lr_call⟩) rfl
  have h_lr_call : H_lr_call P w mg base ⟨K, He.ga K "LifeRow"⟩ := ⟨_, callB_ok (c.extra 1 (f := callB "LifeRow") rfl), ok_lr_call (P := P) (w := w) (base := base) T F⟩
  clear F fd
  obtain ⟨fd, F⟩ := c.def_ 5 (d := ⟨(pMeth "LifeRow" "__sub__"), "__sub__", "LifeRow.__sub__", s_lr_sub⟩) rfl
  have h_lr_sub : H_lr_sub P w mg base ⟨K, He.ga K "LifeRow"⟩ := ⟨_, He.meth_ok (c.fact 19 (f := .meth "LifeRow" "__sub__") rfl), ok_lr_sub (P := P) (w := w) (base := base) T h_lr_init h_capped F⟩
  clear F fd
  obtain ⟨fd, F⟩ := c.def_ 6 (d := ⟨(pMeth "LifeRow" "__and__"), "__and__", "LifeRow.__and__", s_lr_and⟩) rfl
  have h_lr_and : H_lr_and P w mg base ⟨K, He.ga K "LifeRow"⟩ := ⟨_, He.meth_ok (c.fact 20 (f := .meth "LifeRow" "__and__") rfl), ok_lr_and (P := P) (w := w) (base := base) T h_greater h_lr_init h_lesser F⟩
  clear F fd
  obtain ⟨fd, F⟩ := c.def_ 7 (d := ⟨(pMeth "LifeRow" "__eq__"), "__eq__", "LifeRow.__eq__", s_lr_eq⟩) rfl
  have h_lr_eq : H_lr_eq P w mg base ⟨K, He.ga K "LifeRow"⟩ := ⟨_, He.meth_ok (c.fact 21 (f := .meth "LifeRow" "__eq__") rfl), ok_lr_eq (P := P) (w := w) (base := base) T F⟩
  clear F fd
  obtain ⟨fd, F⟩ := c.def_ 8 (d := ⟨(pMeth "LifeRow" "__repr__"), "__repr__", "LifeRow.__repr__", s_lr_repr⟩) rfl
  have h_lr_repr : H_lr_repr P w mg base ⟨K, He.ga K "LifeRow"⟩ := ⟨_, He.meth_ok (c.fact 22 (f := .meth "LifeRow" "__repr__") rfl), ok_lr_repr (P := P) (w := w) (base := base) T F⟩
  clear F fd
  obtain ⟨fd, F⟩ := c.def_ 9 (d := ⟨(pProp "LifeRow" "left"), "left", "LifeRow.left", s_lr_left⟩) rfl
  have h_lr_left : H_lr_left P w mg base ⟨K, He.ga K "LifeRow"⟩ := ⟨_, _, _, _, propB_ok (c.extra 2 (f := propB "LifeRow" "left") rfl), (ok_lr_left (P := P) (w := w) (base := base) T F).1, (ok_lr_left (P := P) (w := w) (base := base) T F).2⟩
  clear F fd
  obtain ⟨fd, F⟩ := c.def_ 10 (d := ⟨(pProp "LifeRow" "lost"), "lost", "LifeRow.lost", s_lr_lost⟩) rfl
  have h_lr_lost : H_lr_lost P w mg base ⟨K, He.ga K "LifeRow"⟩ := ⟨_, _, _, _, propB_ok (c.extra 3 (f := propB "LifeRow" "lost") rfl), (ok_lr_lost (P := P) (w := w) (base := base) T F).1, (ok_lr_lost (P := P) (w := w) (base := base) T F).2⟩
  clear F fd
  obtain ⟨fd, F⟩ := c.def_ 11 (d := ⟨(pMeth "LifeRow" "is_below"), "is_below", "LifeRow.is_below", s_lr_below⟩) rfl
  have h_lr_below : H_lr_below P w mg base ⟨K, He.ga K "LifeRow"⟩ := ⟨_, He.meth_ok (c.fact 23 (f := .meth "LifeRow" "is_below") rfl), ok_lr_below (P := P) (w := w) (base := base) T h_lr_left h_lr_lost F⟩
  clear F fd
  obtain ⟨fd, F⟩ := c.def_ 12 (d := ⟨(pGlo "_law_box"), "_law_box", "_law_box", s_box⟩) rfl
  have h_box : H_box P w mg base ⟨K, He.ga K "LifeRow"⟩ := ⟨_, He.glo_ok X G (c.fact 24 (f := .glo "_law_box") rfl), F.kp, ok_box (P := P) (w := w) (base := base) T F⟩
  clear F fd
  obtain ⟨fd, F⟩ := c.def_ 13 (d := ⟨(pGlo "_law_take"), "_law_take", "_law_take", s_take⟩) rfl
  have h_take : H_take P w mg base ⟨K, He.ga K "LifeRow"⟩ := ⟨_, He.glo_ok X G (c.fact 25 (f := .glo "_law_take") rfl), F.kp, ok_take (P := P) (w := w) (base := base) T F⟩
  clear F fd
  obtain ⟨fd, F⟩ := c.def_ 14 (d := ⟨(pGlo "_law_pick"), "_law_pick", "_law_pick", s_pick⟩) rfl
  have h_pick : H_pick P w mg base ⟨K, He.ga K "LifeRow"⟩ := ⟨_, He.glo_ok X G (c.fact 26 (f := .glo "_law_pick") rfl), F.kp, ok_pick (P := P) (w := w) (base := base) T h_take F⟩
  clear F fd
  obtain ⟨fd, F⟩ := c.def_ 15 (d := ⟨(pGlo "_law_row"), "_law_row", "_law_row", s_row⟩) rfl
  have h_row : H_row P w mg base ⟨K, He.ga K "LifeRow"⟩ := ⟨_, He.glo_ok X G (c.fact 27 (f := .glo "_law_row") rfl), F.kp, ok_row (P := P) (w := w) (base := base) T h_take h_pick F⟩
  clear F fd
  obtain ⟨fd, F⟩ := c.def_ 16 (d := ⟨(pGlo "_law_bound"), "_law_bound", "_law_bound", s_bound⟩) rfl
  have h_bound : H_bound P w mg base ⟨K, He.ga K "LifeRow"⟩ := ⟨_, He.glo_ok X G (c.fact 28 (f := .glo "_law_bound") rfl), F.kp, ok_bound (P := P) (w := w) (base := base) T F⟩
  clear F fd
  obtain ⟨fd, F⟩ := c.def_ 17 (d := ⟨(pGlo "_law_alike"), "_law_alike", "_law_alike", s_alike⟩) rfl
  have h_alike : H_alike P w mg base ⟨K, He.ga K "LifeRow"⟩ := ⟨_, He.glo_ok X G (c.fact 29 (f := .glo "_law_alike") rfl), F.kp, ok_alike (P := P) (w := w) (base := base) T F⟩
  clear F fd
  obtain ⟨fd, F⟩ := c.def_ 18 (d := ⟨(pGlo "_law_parts_of"), "_law_parts_of", "_law_parts_of", s_parts⟩) rfl
  have h_parts : H_parts P w mg base ⟨K, He.ga K "LifeRow"⟩ := ⟨_, He.glo_ok X G (c.fact 30 (f := .glo "_law_parts_of") rfl), F.kp, ok_parts (P := P) (w := w) (base := base) T h_lr_left h_lr_lost F⟩
  clear F fd
  obtain ⟨fd, F⟩ := c.def_ 19 (d := ⟨(pGlo "_law_less"), "_law_less", "_law_less", s_less⟩) rfl
  have h_less : H_less P w mg base ⟨K, He.ga K "LifeRow"⟩ := ⟨_, He.glo_ok X G (c.fact 31 (f := .glo "_law_less") rfl), F.kp, ok_less (P := P) (w := w) (base := base) T F⟩
  clear F fd
  obtain ⟨fd, F⟩ := c.def_ 20 (d := ⟨(pGlo "_law_worse"), "_law_worse", "_law_worse", s_worse⟩) rfl
  have h_worse : H_worse P w mg base ⟨K, He.ga K "LifeRow"⟩ := ⟨_, He.glo_ok X G (c.fact 32 (f := .glo "_law_worse") rfl), F.kp, ok_worse (P := P) (w := w) (base := base) T F⟩
  clear F fd
  obtain ⟨fd, F⟩ := c.def_ 21 (d := ⟨(pGlo "_law_least"), "_law_least", "_law_least", s_least⟩) rfl
  have h_least : H_least P w mg base ⟨K, He.ga K "LifeRow"⟩ := ⟨_, He.glo_ok X G (c.fact 33 (f := .glo "_law_least") rfl), F.kp, ok_least (P := P) (w := w) (base := base) T h_worse F⟩
  clear F fd
  obtain ⟨fd, F⟩ := c.def_ 22 (d := ⟨(pGlo "_law_is_below"), "_law_is_below", "_law_is_below", s_below⟩) rfl
  have h_below : H_below P w mg base ⟨K, He.ga K "LifeRow"⟩ := ⟨_, He.glo_ok X G (c.fact 34 (f := .glo "_law_is_below") rfl), F.kp, ok_below (P := P) (w := w) (base := base) T F⟩
  clear F fd
  obtain ⟨fd, F⟩ := c.def_ 23 (d := ⟨(pGlo "_law_near"), "_law_near", "_law_near", s_near⟩) rfl
  have h_near : H_near P w mg base ⟨K, He.ga K "LifeRow"⟩ := ⟨_, He.glo_ok X G (c.fact 35 (f := .glo "_law_near") rfl), F.kp, ok_near (P := P) (w := w) (base := base) T h_take h_pick F⟩
  clear F fd
  obtain ⟨fd, F⟩ := c.def_ 24 (d := ⟨(pGlo "_law_pair_right"), "_law_pair_right", "_law_pair_right", s_pair⟩) rfl
  have h_pair : H_pair P w mg base ⟨K, He.ga K "LifeRow"⟩ := ⟨_, He.glo_ok X G (c.fact 36 (f := .glo "_law_pair_right") rfl), F.kp, ok_pair (P := P) (w := w) (base := base) T h_lr_init h_alike h_parts h_lr_and h_least h_lr_eq h_lr_below h_below h_pick h_take h_lr_sub h_less h_lr_call h_bound h_lr_repr F⟩
  clear F fd
  obtain ⟨fd, F⟩ := c.def_ 25 (d := ⟨(pGlo "law"), "law", "law", s_law⟩) rfl
  have h_law : H_law P w mg base ⟨K, He.ga K "LifeRow"⟩ := ⟨_, He.glo_ok X G (c.fact 37 (f := .glo "law") rfl), F.kp, ok_law (P := P) (w := w) (base := base) T h_box h_take h_row h_near h_pair F⟩
  clear F fd
  exact h_law
end K26
open PySem PySem.W PySem.Calls PyProof.Rows
theorem PySem.Challenge.cw_sourwright_k26_bounds_of_lives_holds : PySem.Challenge.rw_sourwright_k26_bounds_of_lives.Holds := by
  w_on; o_law
  refine HandSHeadRun.head_any (r := OpenLaw.row PySem.Challenge.rw_sourwright_k26_bounds_of_lives) (q := view (OpenLaw.row PySem.Challenge.rw_sourwright_k26_bounds_of_lives).prog [20]) (H := K26.hk) (ob := K26.ob) (M := 3000) (loose := K26.names) (d := HandSHeadRun.topDef (OpenLaw.row PySem.Challenge.rw_sourwright_k26_bounds_of_lives).prog 20) (kwd := []) K26.ob_eq
    (by kernel_rfl) (fun s => by kernel_rfl) K26.run (by kernel_rfl) (by kernel_rfl) (by kernel_rfl) (by rfl) (by first | assumption | decide +kernel) (by decide +kernel) ⟨rfl, rfl, rfl, rfl, rfl, by decide +kernel⟩ ?hw ?hc
  case hw => w_witness2
  case hc =>
    refine DL.walk_end (l := PySem.Challenge.rw_sourwright_k26_bounds_of_lives) (n := 63) (k := 8) rfl (by decide) (by kernel_rfl) ⟨rfl, by decide, by decide⟩ ?F
    intro w mg fa h Y G hmg0
    obtain ⟨K, KX, c⟩ := Y
    have hmg : mg ("law" : PySem.Str) = some (.ref fa) := by
      have e : (HandSHeadRun.topDef (OpenLaw.row PySem.Challenge.rw_sourwright_k26_bounds_of_lives).prog 20).name = ("law" : PySem.Str) := by kernel_rfl
      rw [← e]
      exact hmg0
    refine ⟨K, K26.sp_law ⟨K, He.ga K "LifeRow"⟩, KX, fun H a ns hl hS => ⟨a, ns, rfl, hS, by omega, fun _ => rfl⟩, fun base _ _ => ?_⟩
    obtain ⟨f, e1, _, F⟩ := K26.facts (P := (PySem.Challenge.rw_sourwright_k26_bounds_of_lives).prog) (w := w) (base := base) KX G c
    have e2 := hmg.symm.trans e1
    cases e2
    exact F

