import PyProof.Rows.All
import Wide.All
import OpenK.AllK
import Wide.FinOn
import HandS.ForMost
import HandS.Walk
import HandS.Deep
import HandS.IsInst
import HandS.HeadHook1
import HandS.TupAny
import HandS.Style
import HandS.Defaults
import KE.SortData
import KE.DataMinMax
import KE.DataCmp
import HandS.Conv
import KE.KDictSum
import HandS.TupSets
import HandS.SetFor
import HandS.Keys
import KE.DataEq
import HandS.Small
import KE.KStateDown
import Lean
import HandS.Base
import HandS.Call
import HandS.Ends
import HandS.More
import HandS.Words
import HandS.WordsExc
import HandS.Head0
import HandS.Head1
import HandS.Head2
import HandS.HeadEnd
import HandS.HeadHook2
import PySem.Challenge.RW_pagefeeder_k11_troubles_told
import KE.DatumOrd
set_option Elab.async false
set_option linter.all false
set_option maxRecDepth 100000
set_option maxHeartbeats 1000000
namespace Pf
open PySem PySem.Spec PyProof.Rows L2

/-! ### data, slots, objects, results -/
abbrev T := PyData
abbrev Fr := PySem.W.Frag
/-- a value: data, or an object of the small heap -/
inductive D where
  | dat (t : T)
  | obj (n : Nat)
  | scr (ns : List Int)
/-- what a name of a def holds: nothing known, a value, a list or a dict of its own -/
inductive Slot where
  | un
  | val (d : D)
  | own (ts : List T)
  | dic (kvs : List (List Key × T))
  | fix (v : V) (t : T)
  | pin (v : V)
/-- what a field of an object holds -/
inductive Fld where
  | dat (t : T)
  | own (ts : List T)
  | dic (kvs : List (List Key × T))
/-- an object of the small heap -/
inductive O where
  | lst (ts : List T)
  | ins (c : Str) (fs : List (Str × Fld))
  | stt (ns : List Int) (i m l : Int)
  | dct (kvs : List (Key × T))
abbrev En := List Slot
abbrev Hs := List O
structure Exc where
  cls : Str
  val : Option (Str × T)
inductive Res (α : Type) where
  | bad
  | ok (a : α) (h : Hs)
  | exc (x : Exc) (h : Hs)
def Res.bind {α β : Type} (r : Res α) (k : α → Hs → Res β) : Res β := match r with
  | .bad => .bad
  | .ok a h => k a h
  | .exc x h => .exc x h
def lift {α : Type} (h : Hs) (o : Option α) : Res α := match o with
  | some a => .ok a h
  | none => .bad
@[simp] theorem bind_ok {α β : Type} (a : α) (h : Hs) (k : α → Hs → Res β) : (Res.ok a h).bind k = k a h := rfl
@[simp] theorem bind_exc {α β : Type} (x : Exc) (h : Hs) (k : α → Hs → Res β) : (Res.exc x h).bind k = .exc x h := rfl
@[simp] theorem bind_bad {α β : Type} (k : α → Hs → Res β) : (Res.bad).bind k = .bad := rfl
@[simp] theorem lift_some {α : Type} (a : α) (h : Hs) : lift h (some a) = .ok a h := rfl
@[simp] theorem lift_none {α : Type} (h : Hs) : lift h (none : Option α) = .bad := rfl
/-- a semantic expression; one with a list of its own as its value -/
abbrev FE := En → Hs → Res D
abbrev FT := En → Hs → Res T
abbrev FB := En → Hs → Res Bool
abbrev FA := En → Hs → Res (List D)
abbrev FL := En → Hs → Res (List T)
inductive Ret where
  | val (d : D)
  | own (ts : List T)
abbrev FR := En → Hs → Res Ret
inductive Out where
  | next (ρ : En)
  | ret (r : Ret)
abbrev FS := En → Hs → Res Out
/-- a def -/
abbrev Sem1 := List D → Hs → Res Ret

/-! ### what is owned -/
inductive Ow where
  | s (i : Nat)
  | o (n : Nat)
  | f (n : Nat) (k : Str)
abbrev Wn := Ow → Option Addr

/-! ### data in the heap -/
mutual
inductive Dq (G : Hp) : V → PyData → Prop
  | non : Dq G .non .none
  | bl (b : Bool) : Dq G (.bl b) (.bool b)
  | int (i : Int) : Dq G (.int i) (.int i)
  | str (x : Str) : Dq G (.str x) (.str x)
  | lst {a : Addr} {xs : List V} {ds : List PyData} : G a = some (.lst xs) → DqAll G xs ds → Dq G (.ref a) (.list ds)
  | tup {a : Addr} {xs : List V} {ds : List PyData} : G a = some (.tup xs) → DqAll G xs ds → Dq G (.ref a) (.tuple ds)
inductive DqAll (G : Hp) : List V → List PyData → Prop
  | nil : DqAll G [] []
  | cons {v : V} {vs : List V} {d : PyData} {ds : List PyData} : Dq G v d → DqAll G vs ds → DqAll G (v :: vs) (d :: ds)
end
def RT (G : Hp) (t : T) (v : V) : Prop := Dq G v t ∧ t.canLay0 = true
def RTs (G : Hp) (ts : List T) (vs : List V) : Prop := DqAll G vs ts ∧ PyData.canLayAll0 ts = true
def RD (K : Fr) (G : Hp) (w : Wn) (d : D) (v : V) : Prop := match d with
  | .dat t => RT G t v
  | .obj n => ∃ a, w (.o n) = some a ∧ v = .ref a
  | .scr ns => ∃ a, v = .ref a ∧ SqL K G a (ns.map V.int)
theorem same_sqT {K : Fr} {H H' : Hp} {a : Addr} {xs : List V} (e : Same H H') (h : SqT K H a xs) : SqT K H' a xs := by
  rcases h with (h | ⟨o, h⟩) | h
  · exact .inl (.inl (e _ _ h))
  · exact .inl (.inr ⟨o, e _ _ h⟩)
  · exact .inr h
mutual
theorem dp_mono {G G' : Hp} (e : Same G G') : ∀ (t : T) (v : V), Dq G v t → Dq G' v t
  | .none, _, h => by cases h; exact .non
  | .bool b, _, h => by cases h; exact .bl b
  | .int i, _, h => by cases h; exact .int i
  | .str x, _, h => by cases h; exact .str x
  | .list ds, _, h => by
    cases h with
    | lst h1 h2 => exact .lst (e _ _ h1) (dpAll_mono e ds _ h2)
  | .tuple ds, _, h => by
    cases h with
    | tup h1 h2 => exact .tup (e _ _ h1) (dpAll_mono e ds _ h2)
  | .dict _, _, h => by cases h
theorem dpAll_mono {G G' : Hp} (e : Same G G') : ∀ (ts : List T) (vs : List V), DqAll G vs ts → DqAll G' vs ts
  | [], _, h => by cases h; exact .nil
  | t :: ts, _, h => by
    cases h with
    | cons h1 h2 => exact .cons (dp_mono e t _ h1) (dpAll_mono e ts _ h2)
end
mutual
theorem dq_dp {K : Fr} {G H : Hp} (e : Same G H) : ∀ (t : T) (v : V), Dq G v t → Dp K H v t
  | .none, _, h => by cases h; exact .non
  | .bool b, _, h => by cases h; exact .bl b
  | .int i, _, h => by cases h; exact .int i
  | .str x, _, h => by cases h; exact .str x
  | .list ds, _, h => by
    cases h with
    | lst h1 h2 => exact .lst (SqL.of (e _ _ h1)) (dqAll_dp e ds _ h2)
  | .tuple ds, _, h => by
    cases h with
    | tup h1 h2 => exact .tup (SqT.of (e _ _ h1)) (dqAll_dp e ds _ h2)
  | .dict _, _, h => by cases h
theorem dqAll_dp {K : Fr} {G H : Hp} (e : Same G H) : ∀ (ts : List T) (vs : List V), DqAll G vs ts → DpAll K H vs ts
  | [], _, h => by cases h; exact .nil
  | t :: ts, _, h => by
    cases h with
    | cons h1 h2 => exact .cons (dq_dp e t _ h1) (dqAll_dp e ts _ h2)
end
theorem RT.mono {G G' : Hp} {t : T} {v : V} (e : Same G G') (h : RT G t v) : RT G' t v := ⟨dp_mono e t v h.1, h.2⟩
theorem RTs.mono {G G' : Hp} {ts : List T} {vs : List V} (e : Same G G') (h : RTs G ts vs) : RTs G' ts vs := ⟨dpAll_mono e ts vs h.1, h.2⟩
theorem RTs.nil {G : Hp} : RTs G [] [] := ⟨.nil, rfl⟩
theorem RTs.cons {G : Hp} {t : T} {v : V} {ts : List T} {vs : List V} (a : RT G t v) (b : RTs G ts vs) : RTs G (t :: ts) (v :: vs) :=
  ⟨.cons a.1 b.1, by rw [PyData.canLayAll0, a.2, b.2]; rfl⟩
theorem RTs.uncons {G : Hp} {t : T} {ts : List T} {vs : List V} (a : RTs G (t :: ts) vs) : ∃ v vs', vs = v :: vs' ∧ RT G t v ∧ RTs G ts vs' := by
  obtain ⟨h, c⟩ := a
  cases h with
  | cons h1 h2 =>
    rw [PyData.canLayAll0, Bool.and_eq_true] at c
    exact ⟨_, _, rfl, ⟨h1, c.1⟩, h2, c.2⟩
theorem RTs.unnil {G : Hp} {vs : List V} (a : RTs G [] vs) : vs = [] := by
  obtain ⟨h, _⟩ := a
  cases h
  rfl
theorem RTs.length {G : Hp} : ∀ {ts : List T} {vs : List V}, RTs G ts vs → vs.length = ts.length
  | [], vs, h => by rw [h.unnil]; rfl
  | t :: ts, vs, h => by
    obtain ⟨v, vs', rfl, _, h2⟩ := h.uncons
    simp [RTs.length h2]
theorem RTs.append {G : Hp} : ∀ {ts us : List T} {vs ws : List V}, RTs G ts vs → RTs G us ws → RTs G (ts ++ us) (vs ++ ws)
  | [], us, vs, ws, h, k => by rw [h.unnil]; exact k
  | t :: ts, us, vs, ws, h, k => by
    obtain ⟨v, vs', rfl, h1, h2⟩ := h.uncons
    exact RTs.cons h1 (RTs.append h2 k)
theorem RTs.get {G : Hp} : ∀ {ts : List T} {vs : List V} {i : Nat} {t : T}, RTs G ts vs → ts[i]? = some t → ∃ v, vs[i]? = some v ∧ RT G t v
  | [], _, _, _, _, e => by simp at e
  | t :: ts, vs, 0, u, h, e => by
    obtain ⟨v, vs', rfl, h1, h2⟩ := h.uncons
    simp at e
    subst e
    exact ⟨v, rfl, h1⟩
  | t :: ts, vs, i + 1, u, h, e => by
    obtain ⟨v, vs', rfl, h1, h2⟩ := h.uncons
    exact RTs.get (i := i) h2 (by simpa using e)
theorem RTs.getV {G : Hp} {ts : List T} {vs : List V} {i : Nat} {v : V} (h : RTs G ts vs) (e : vs[i]? = some v) : ∃ t, ts[i]? = some t ∧ RT G t v := by
  have hi : i < ts.length := by
    rw [← h.length]
    exact (List.getElem?_eq_some_iff.mp e).1
  obtain ⟨v', e', r⟩ := h.get (i := i) (t := ts[i]) (by simp [hi])
  rw [e] at e'
  cases e'
  exact ⟨ts[i], by simp [hi], r⟩
theorem RTs.set {G : Hp} : ∀ {ts : List T} {vs : List V} {i : Nat} {t : T} {v : V}, RTs G ts vs → RT G t v → RTs G (ts.set i t) (vs.set i v)
  | [], _, _, _, _, h, _ => by rw [h.unnil]; exact .nil
  | t :: ts, vs, 0, u, x, h, r => by
    obtain ⟨v, vs', rfl, h1, h2⟩ := h.uncons
    exact .cons r h2
  | t :: ts, vs, i + 1, u, x, h, r => by
    obtain ⟨v, vs', rfl, h1, h2⟩ := h.uncons
    exact .cons h1 (RTs.set h2 r)
theorem RTs.take {G : Hp} : ∀ {ts : List T} {vs : List V} (n : Nat), RTs G ts vs → RTs G (ts.take n) (vs.take n)
  | _, _, 0, _ => .nil
  | [], _, n + 1, h => by rw [h.unnil]; exact .nil
  | t :: ts, vs, n + 1, h => by
    obtain ⟨v, vs', rfl, h1, h2⟩ := h.uncons
    exact .cons h1 (RTs.take n h2)
theorem RTs.drop {G : Hp} : ∀ {ts : List T} {vs : List V} (n : Nat), RTs G ts vs → RTs G (ts.drop n) (vs.drop n)
  | _, _, 0, h => h
  | [], _, n + 1, h => by rw [h.unnil]; exact .nil
  | t :: ts, vs, n + 1, h => by
    obtain ⟨v, vs', rfl, h1, h2⟩ := h.uncons
    exact RTs.drop n h2
theorem RTs.rev {G : Hp} : ∀ {ts : List T} {vs : List V}, RTs G ts vs → RTs G ts.reverse vs.reverse
  | [], vs, h => by rw [h.unnil]; exact .nil
  | t :: ts, vs, h => by
    obtain ⟨v, vs', rfl, h1, h2⟩ := h.uncons
    rw [List.reverse_cons, List.reverse_cons]
    exact (RTs.rev h2).append (.cons h1 .nil)
theorem RT.list {G : Hp} {ts : List T} {v : V} (h : RT G (.list ts) v) : ∃ a vs, v = .ref a ∧ G a = some (.lst vs) ∧ RTs G ts vs := by
  obtain ⟨h, c⟩ := h
  cases h with
  | lst h1 h2 => exact ⟨_, _, rfl, h1, h2, by rw [PyData.canLay0] at c; exact c⟩
theorem RT.tuple {G : Hp} {ts : List T} {v : V} (h : RT G (.tuple ts) v) : ∃ a vs, v = .ref a ∧ G a = some (.tup vs) ∧ RTs G ts vs := by
  obtain ⟨h, c⟩ := h
  cases h with
  | tup h1 h2 => exact ⟨_, _, rfl, h1, h2, by rw [PyData.canLay0] at c; exact c⟩
theorem RT.mkList {G : Hp} {ts : List T} {a : Addr} {vs : List V} (h : G a = some (.lst vs)) (r : RTs G ts vs) : RT G (.list ts) (.ref a) := ⟨.lst h r.1, by rw [PyData.canLay0]; exact r.2⟩
theorem RT.mkTup {G : Hp} {ts : List T} {a : Addr} {vs : List V} (h : G a = some (.tup vs)) (r : RTs G ts vs) : RT G (.tuple ts) (.ref a) := ⟨.tup h r.1, by rw [PyData.canLay0]; exact r.2⟩
theorem RT.none {G : Hp} : RT G .none .non := ⟨.non, rfl⟩
theorem RT.bool {G : Hp} (b : Bool) : RT G (.bool b) (.bl b) := ⟨.bl b, rfl⟩
theorem RT.int {G : Hp} (i : Int) : RT G (.int i) (.int i) := ⟨.int i, rfl⟩
theorem RT.str {G : Hp} {x : Str} (h : PyData.strOk x = true) : RT G (.str x) (.str x) := ⟨.str x, by rw [PyData.canLay0]; exact h⟩

/-! ### slots, fields, objects -/
def SlotR (K : Fr) (H G : Hp) (w : Wn) (i : Nat) (s : Slot) (ov : Option (Option V)) : Prop := match s with
  | .un => w (.s i) = none
  | .val d => w (.s i) = none ∧ ∃ v, ov = some (some v) ∧ RD K G w d v
  | .own ts => ∃ a vs, w (.s i) = some a ∧ ov = some (some (.ref a)) ∧ H a = some (.lst vs) ∧ RTs G ts vs
  | .dic kvs => ∃ a ls, w (.s i) = some a ∧ ov = some (some (.ref a)) ∧ H a = some (.dT ls) ∧ Paired (fun (p : List Key × V) (q : List Key × T) => p.1 = q.1 ∧ RT G q.2 p.2) ls kvs
  | .fix v t => w (.s i) = none ∧ ov = some (some v) ∧ RT G t v
  | .pin v => w (.s i) = none ∧ ov = some (some v)
def FldR (K : Fr) (H G : Hp) (w : Wn) (n : Nat) (k : Str) (f : Fld) (v : V) : Prop := match f with
  | .dat t => w (.f n k) = none ∧ RT G t v
  | .own ts => ∃ a vs, w (.f n k) = some a ∧ v = .ref a ∧ H a = some (.lst vs) ∧ RTs G ts vs
  | .dic kvs => ∃ a ls, w (.f n k) = some a ∧ v = .ref a ∧ H a = some (.dT ls) ∧ Paired (fun (p : List Key × V) (q : List Key × T) => p.1 = q.1 ∧ RT G q.2 p.2) ls kvs
def ObjR (K : Fr) (H G : Hp) (w : Wn) (n : Nat) (o : O) : Prop := match o with
  | .lst ts => ∃ a vs, w (.o n) = some a ∧ H a = some (.lst vs) ∧ RTs G ts vs ∧ ∀ k, w (.f n k) = none
  | .stt ns i m l => (∃ a b, w (.o n) = some a ∧ H a = some (.lst [.ref b, .int i, .int m, .int l]) ∧ SqL K G b (ns.map V.int)) ∧ ∀ k, w (.f n k) = none
  | .dct kvs => ∃ a ls, w (.o n) = some a ∧ H a = some (.dK ls) ∧ Paired (fun (p : Key × V) (q : Key × T) => p.1 = q.1 ∧ RT G q.2 p.2) ls kvs ∧ ∀ k, w (.f n k) = none
  | .ins c fs => ∃ a dx vfs, w (.o n) = some a ∧ H a = some (.ins (He.ga K c) dx vfs) ∧ vfs.length = fs.length ∧ ∀ k, match fs.lookup k with
    | none => vfs.lookup k = none ∧ w (.f n k) = none
    | some f => ∃ v, vfs.lookup k = some v ∧ FldR K H G w n k f v
structure Rel (K : Fr) (ρ : En) (h : Hs) (σ : L2.St) (H G : Hp) (w : Wn) : Prop where
  sub : Same G H
  off : ∀ q a, w q = some a → G a = none
  inj : ∀ q q' a, w q = some a → w q' = some a → q = q'
  len : ρ.length = σ.length
  env : ∀ i s, ρ[i]? = some s → SlotR K H G w i s σ[i]?
  env0 : ∀ i, ρ.length ≤ i → w (.s i) = none
  obs : ∀ n o, h[n]? = some o → ObjR K H G w n o
  obs0 : ∀ n, h.length ≤ n → w (.o n) = none ∧ ∀ k, w (.f n k) = none
/-- from (G, H, w) to (G', H', w') -/
structure Tr (G H : Hp) (w : Wn) (G' H' : Hp) (w' : Wn) : Prop where
  gm : Same G G'
  fr : ∀ b o, H b = some o → (∀ q, w q ≠ some b) → H' b = some o
  gn : ∀ b, G' b ≠ none → G b ≠ none ∨ H b = none ∨ (∃ q, w q = some b) ∨ ∃ vs, H b = some (.tup vs)
  wn : ∀ q b, w' q = some b → (∃ q', w q' = some b) ∨ H b = none
  ob : ∀ n a, w (.o n) = some a → w' (.o n) = some a
theorem Tr.refl {G H : Hp} {w : Wn} : Tr G H w G H w := ⟨Same.refl _, fun _ _ h _ => h, fun _ h => .inl h, fun q _ h => .inl ⟨q, h⟩, fun _ _ h => h⟩
theorem Tr.back {G H : Hp} {w : Wn} {G' H' : Hp} {w' : Wn} (t : Tr G H w G' H' w') {b : Addr} (h : H' b = none) : H b = none ∨ ∃ q, w q = some b := by
  by_cases hq : ∃ q, w q = some b
  · exact .inr hq
  · left
    cases e : H b with
    | none => rfl
    | some o =>
      rw [t.fr b o e fun q z => hq ⟨q, z⟩] at h
      cases h
theorem Tr.trans {G H : Hp} {w : Wn} {G1 H1 : Hp} {w1 : Wn} {G2 H2 : Hp} {w2 : Wn} (a : Tr G H w G1 H1 w1) (b : Tr G1 H1 w1 G2 H2 w2) : Tr G H w G2 H2 w2 where
  gm := a.gm.trans b.gm
  fr := fun c o h hq => by
    have h1 := a.fr c o h hq
    refine b.fr c o h1 fun q z => ?_
    rcases a.wn q c z with ⟨q', z'⟩ | z'
    · exact hq q' z'
    · rw [h] at z'
      cases z'
  gn := fun c h => by
    rcases b.gn c h with z | z | ⟨q, z⟩ | ⟨vs, z⟩
    · exact a.gn c z
    · exact .inr ((a.back z).imp id Or.inl)
    · rcases a.wn q c z with z' | z'
      · exact .inr (.inr (.inl z'))
      · exact .inr (.inl z')
    · by_cases hq : ∃ q, w q = some c
      · exact .inr (.inr (.inl hq))
      · cases e : H c with
        | none => exact .inr (.inl rfl)
        | some o =>
          have := a.fr c o e fun q y => hq ⟨q, y⟩
          rw [z] at this
          cases this
          exact .inr (.inr (.inr ⟨vs, rfl⟩))
  wn := fun q c h => by
    rcases b.wn q c h with ⟨q', z⟩ | z
    · exact a.wn q' c z
    · exact (a.back z).symm
  ob := fun n c h => b.ob n c (a.ob n c h)
theorem RD.mono {K : Fr} {G H : Hp} {w : Wn} {G' H' : Hp} {w' : Wn} {d : D} {v : V} (t : Tr G H w G' H' w') (h : RD K G w d v) : RD K G' w' d v := by
  cases d with
  | dat t' => exact RT.mono t.gm h
  | obj n =>
    obtain ⟨a, e, r⟩ := h
    exact ⟨a, t.ob n a e, r⟩
  | scr ns =>
    obtain ⟨a, e, r⟩ := h
    exact ⟨a, e, t.gm.seq r⟩
theorem Rel.there2 {K : Fr} {ρ : En} {h : Hs} {σ : L2.St} {H G : Hp} {w : Wn} (R : Rel K ρ h σ H G w) {q : Ow} {a : Addr} (e : w q = some a) : ∃ o, H a = some o ∧ ∀ vs, o ≠ .tup vs := by
  cases q with
  | s i =>
    cases hs : ρ[i]? with
    | none =>
      rw [R.env0 i (List.getElem?_eq_none_iff.mp hs)] at e
      cases e
    | some s =>
      have := R.env i s hs
      cases s with
      | un => rw [show w (.s i) = none from this] at e; cases e
      | val d => rw [this.1] at e; cases e
      | own ts =>
        obtain ⟨b, vs, h1, _, h2, _⟩ := this
        rw [h1] at e
        cases e
        exact ⟨_, h2, fun _ z => by cases z⟩
      | dic ts =>
        obtain ⟨b, vs, h1, _, h2, _⟩ := this
        rw [h1] at e
        cases e
        exact ⟨_, h2, fun _ z => by cases z⟩
      | fix v t => rw [this.1] at e; cases e
      | pin v => rw [this.1] at e; cases e
  | o n =>
    cases hs : h[n]? with
    | none =>
      rw [(R.obs0 n (List.getElem?_eq_none_iff.mp hs)).1] at e
      cases e
    | some s =>
      have := R.obs n s hs
      cases s with
      | lst ts =>
        obtain ⟨b, vs, h1, h2, _⟩ := this
        rw [h1] at e
        cases e
        exact ⟨_, h2, fun _ z => by cases z⟩
      | ins c fs =>
        obtain ⟨b, dx, vfs, h1, h2, _⟩ := this
        rw [h1] at e
        cases e
        exact ⟨_, h2, fun _ z => by cases z⟩
      | stt ns i m l =>
        obtain ⟨⟨b, c, h1, h2, _⟩, _⟩ := this
        rw [h1] at e
        cases e
        exact ⟨_, h2, fun _ z => by cases z⟩
      | dct kvs =>
        obtain ⟨b, ls, h1, h2, _⟩ := this
        rw [h1] at e
        cases e
        exact ⟨_, h2, fun _ z => by cases z⟩
  | f n k =>
    cases hs : h[n]? with
    | none =>
      rw [(R.obs0 n (List.getElem?_eq_none_iff.mp hs)).2 k] at e
      cases e
    | some s =>
      have := R.obs n s hs
      cases s with
      | lst ts =>
        obtain ⟨b, vs, h1, h2, _, h3⟩ := this
        rw [h3 k] at e
        cases e
      | stt ns i m l =>
        obtain ⟨_, h3⟩ := this
        rw [h3 k] at e
        cases e
      | dct kvs =>
        obtain ⟨_, _, _, _, _, h3⟩ := this
        rw [h3 k] at e
        cases e
      | ins c fs =>
        obtain ⟨b, dx, vfs, h1, h2, _, h3⟩ := this
        have h4 := h3 k
        cases hl : fs.lookup k with
        | none =>
          rw [hl] at h4
          rw [h4.2] at e
          cases e
        | some f =>
          rw [hl] at h4
          obtain ⟨v, _, h5⟩ := h4
          cases f with
          | dat t => rw [h5.1] at e; cases e
          | own ts =>
            obtain ⟨c, vs, g1, _, g2, _⟩ := h5
            rw [g1] at e
            cases e
            exact ⟨_, g2, fun _ z => by cases z⟩
          | dic ts =>
            obtain ⟨c, vs, g1, _, g2, _⟩ := h5
            rw [g1] at e
            cases e
            exact ⟨_, g2, fun _ z => by cases z⟩
theorem Rel.there {K : Fr} {ρ : En} {h : Hs} {σ : L2.St} {H G : Hp} {w : Wn} (R : Rel K ρ h σ H G w) {q : Ow} {a : Addr} (e : w q = some a) : ∃ o, H a = some o := by
  obtain ⟨o, h1, _⟩ := R.there2 e
  exact ⟨o, h1⟩
theorem paired_imp {α β : Type} {P Q : α → β → Prop} (hi : ∀ a b, P a b → Q a b) : ∀ {as : List α} {bs : List β}, Paired P as bs → Paired Q as bs
  | _, _, .nil => .nil
  | _, _, .cons r t => .cons (hi _ _ r) (paired_imp hi t)
/-- slots, fields, objects under growth of G, where what they own stays -/
theorem SlotR.mono {K : Fr} {H G H' G' : Hp} {w w' : Wn} {i : Nat} {s : Slot} {ov : Option (Option V)} (g : Same G G') (hw : w' (.s i) = w (.s i)) (ho : ∀ n a, w (.o n) = some a → w' (.o n) = some a) (hk : ∀ a, w (.s i) = some a → H' a = H a) (h : SlotR K H G w i s ov) : SlotR K H' G' w' i s ov := by
  cases s with
  | un => exact hw.trans h
  | val d =>
    obtain ⟨h1, v, h2, h3⟩ := h
    refine ⟨hw.trans h1, v, h2, ?_⟩
    cases d with
    | dat t => exact RT.mono g h3
    | obj n =>
      obtain ⟨a, e, r⟩ := h3
      exact ⟨a, ho n a e, r⟩
    | scr ns =>
      obtain ⟨a, e, r⟩ := h3
      exact ⟨a, e, g.seq r⟩
  | own ts =>
    obtain ⟨a, vs, h1, h2, h3, h4⟩ := h
    exact ⟨a, vs, hw.trans h1, h2, (hk a h1).trans h3, h4.mono g⟩
  | dic kvs =>
    obtain ⟨a, vs, h1, h2, h3, h4⟩ := h
    exact ⟨a, vs, hw.trans h1, h2, (hk a h1).trans h3, paired_imp (fun _ _ z => ⟨z.1, z.2.mono g⟩) h4⟩
  | fix v t =>
    obtain ⟨h1, h2, h3⟩ := h
    exact ⟨hw.trans h1, h2, h3.mono g⟩
  | pin v =>
    obtain ⟨h1, h2⟩ := h
    exact ⟨hw.trans h1, h2⟩
theorem FldR.mono {K : Fr} {H G H' G' : Hp} {w w' : Wn} {n : Nat} {k : Str} {f : Fld} {v : V} (g : Same G G') (hw : w' (.f n k) = w (.f n k)) (hk : ∀ a, w (.f n k) = some a → H' a = H a) (h : FldR K H G w n k f v) : FldR K H' G' w' n k f v := by
  cases f with
  | dat t => exact ⟨hw.trans h.1, h.2.mono g⟩
  | own ts =>
    obtain ⟨a, vs, h1, h2, h3, h4⟩ := h
    exact ⟨a, vs, hw.trans h1, h2, (hk a h1).trans h3, h4.mono g⟩
  | dic kvs =>
    obtain ⟨a, vs, h1, h2, h3, h4⟩ := h
    exact ⟨a, vs, hw.trans h1, h2, (hk a h1).trans h3, paired_imp (fun _ _ z => ⟨z.1, z.2.mono g⟩) h4⟩
theorem ObjR.mono {K : Fr} {H G H' G' : Hp} {w w' : Wn} {n : Nat} {o : O} (g : Same G G') (hw : w' (.o n) = w (.o n)) (hf : ∀ k, w' (.f n k) = w (.f n k)) (hk : ∀ a, w (.o n) = some a → H' a = H a) (hk2 : ∀ k a, w (.f n k) = some a → H' a = H a) (h : ObjR K H G w n o) : ObjR K H' G' w' n o := by
  cases o with
  | lst ts =>
    obtain ⟨a, vs, h1, h2, h3, h4⟩ := h
    exact ⟨a, vs, hw.trans h1, (hk a h1).trans h2, h3.mono g, fun k => (hf k).trans (h4 k)⟩
  | stt ns i m l =>
    obtain ⟨⟨a, b, h1, h2, h3⟩, h4⟩ := h
    exact ⟨⟨a, b, hw.trans h1, (hk a h1).trans h2, g.seq h3⟩, fun k => (hf k).trans (h4 k)⟩
  | dct kvs =>
    obtain ⟨a, ls, h1, h2, h3, h4⟩ := h
    exact ⟨a, ls, hw.trans h1, (hk a h1).trans h2, paired_imp (fun _ _ z => ⟨z.1, z.2.mono g⟩) h3, fun k => (hf k).trans (h4 k)⟩
  | ins c fs =>
    obtain ⟨a, dx, vfs, h1, h2, h3, h4⟩ := h
    refine ⟨a, dx, vfs, hw.trans h1, (hk a h1).trans h2, h3, fun k => ?_⟩
    have h5 := h4 k
    cases hl : fs.lookup k with
    | none =>
      rw [hl] at h5
      exact ⟨h5.1, (hf k).trans h5.2⟩
    | some f =>
      rw [hl] at h5
      obtain ⟨v, h6, h7⟩ := h5
      exact ⟨v, h6, h7.mono g (hf k) (hk2 k)⟩
/-- new things are laid, of which G may tell -/
structure New (H G H' G' : Hp) : Prop where
  hm : Same H H'
  gm : Same G G'
  sub : Same G' H'
  gn : ∀ b, G' b ≠ none → G b ≠ none ∨ H b = none
theorem New.refl {H G : Hp} (s : Same G H) : New H G H G := ⟨Same.refl _, Same.refl _, s, fun _ h => .inl h⟩
theorem New.trans {H G H1 G1 H2 G2 : Hp} (a : New H G H1 G1) (b : New H1 G1 H2 G2) : New H G H2 G2 :=
  ⟨a.hm.trans b.hm, a.gm.trans b.gm, b.sub, fun c h => by
    rcases b.gn c h with z | z
    · exact a.gn c z
    · exact .inr (a.hm.free z)⟩
theorem same_upd {H : Hp} {p : Addr} {o : HO} (h : H p = none) : Same H (upd H p o) := fun b u e => by
  rw [upd_ne (ne_of_none e h)]
  exact e
theorem both_upd {G H : Hp} (s : Same G H) (p : Addr) (o : HO) : Same (upd G p o) (upd H p o) := fun b u e => by
  by_cases hb : b = p
  · subst hb
    rw [upd_same] at e ⊢
    exact e
  · rw [upd_ne hb] at e ⊢
    exact s b u e
/-- one thing is laid, and told -/
theorem New.one {H G : Hp} (s : Same G H) {p : Addr} (o : HO) (h : H p = none) : New H G (upd H p o) (upd G p o) :=
  ⟨same_upd h, same_upd (s.free h), both_upd s p o, fun b z => by
    by_cases hb : b = p
    · subst hb
      exact .inr h
    · rw [upd_ne hb] at z
      exact .inl z⟩
/-- one thing is laid, and not told -/
theorem New.mute {H G : Hp} (s : Same G H) {p : Addr} (o : HO) (h : H p = none) : New H G (upd H p o) G :=
  ⟨same_upd h, Same.refl _, s.trans (same_upd h), fun b z => .inl z⟩
theorem Rel.new {K : Fr} {ρ : En} {h : Hs} {σ : L2.St} {H G H' G' : Hp} {w : Wn} (R : Rel K ρ h σ H G w) (n : New H G H' G') : Rel K ρ h σ H' G' w ∧ Tr G H w G' H' w := by
  have hk : ∀ q a, w q = some a → H' a = H a := fun q a e => by
    obtain ⟨o, ho⟩ := R.there e
    rw [n.hm a o ho, ho]
  refine ⟨⟨n.sub, fun q a e => ?_, R.inj, R.len, fun i s hs => (R.env i s hs).mono n.gm rfl (fun _ _ z => z) fun a e => hk _ a e, R.env0, fun m o ho => (R.obs m o ho).mono n.gm rfl (fun _ => rfl) (fun a e => hk _ a e) fun k a e => hk _ a e, R.obs0⟩,
    ⟨n.gm, fun b o e _ => n.hm b o e, fun b z => (n.gn b z).imp id Or.inl, fun q b e => .inl ⟨q, e⟩, fun _ _ z => z⟩⟩
  cases z : G' a with
  | none => rfl
  | some o =>
    obtain ⟨u, hu⟩ := R.there e
    rcases n.gn a (by rw [z]; exact fun y => by cases y) with y | y
    · rw [R.off q a e] at y
      exact absurd rfl y
    · rw [hu] at y
      cases y
end Pf
set_option Elab.async false
set_option linter.all false
set_option maxRecDepth 100000
set_option maxHeartbeats 1000000
namespace Pf
open PySem PySem.Spec PyProof.Rows L2
/-! ### wishes -/
def ExcR (K : Fr) (x : Exc) (c : Value) (d : Option Addr) (H G : Hp) : Prop := c = .ref (He.ga K x.cls) ∧ match x.val with
  | none => True
  | some (f, t) => ∃ a v fs, d = some a ∧ H a = some (.xd fs) ∧ fs.lookup f = some v ∧ RT G t v
/-- env, slots, heap and owners at the start, the two values, heap, told heap, owners -/
abbrev Rp (α β : Type) := En → L2.St → Hp → Wn → α → β → Hp → Hp → Wn → Prop
def RpM {α β : Type} (rep : Rp α β) : Prop := ∀ ρ σ G H w G1 H1 w1 a b H' G' w', Tr G H w G1 H1 w1 → rep ρ σ H1 w1 a b H' G' w' → rep ρ σ H w a b H' G' w'
def Wish {α β : Type} (K : Fr) (E : XK) (rep : Rp α β) (r : Res α) (ρ : En) (σ : L2.St) (H G : Hp) (w : Wn) (Q : β → Hp → Prop) : Prop := match r with
  | .bad => False
  | .ok a h' => ∀ v H' G' w', Rel K ρ h' σ H' G' w' → Tr G H w G' H' w' → rep ρ σ H w a v H' G' w' → Q v H'
  | .exc x h' => ∀ c d H' G' w', Rel K [] h' [] H' G' w' → Tr G H w G' H' w' → ExcR K x c d H' G' → E c d H'
theorem Wish.mono {α β : Type} {K : Fr} {E : XK} {rep : Rp α β} {r : Res α} {ρ : En} {σ : L2.St} {H G : Hp} {w : Wn} {H1 G1 : Hp} {w1 : Wn} {Q : β → Hp → Prop} (m : RpM rep) (t : Tr G H w G1 H1 w1) (W : Wish K E rep r ρ σ H G w Q) : Wish K E rep r ρ σ H1 G1 w1 Q := by
  cases r with
  | bad => exact W
  | ok a h' => exact fun v H' G' w' R' T' r' => W v H' G' w' R' (t.trans T') (m _ _ _ _ _ _ _ _ _ _ _ _ _ t r')
  | exc x h' => exact fun c d H' G' w' R' T' r' => W c d H' G' w' R' (t.trans T') r'
theorem Wish.bind {α β γ δ : Type} {K : Fr} {E : XK} {rep : Rp α β} {rep' : Rp γ δ} {r : Res α} {k : α → Hs → Res γ} {ρ : En} {σ : L2.St} {H G : Hp} {w : Wn} {Q : δ → Hp → Prop} (m : RpM rep') (W : Wish K E rep' (r.bind k) ρ σ H G w Q) :
    Wish K E rep r ρ σ H G w fun v H1 => ∃ a h1 G1 w1, Rel K ρ h1 σ H1 G1 w1 ∧ Tr G H w G1 H1 w1 ∧ rep ρ σ H w a v H1 G1 w1 ∧ Wish K E rep' (k a h1) ρ σ H G w Q := by
  cases r with
  | bad => exact W
  | ok a h' => exact fun v H' G' w' R' T' r' => ⟨a, h', G', w', R', T', r', W⟩
  | exc x h' => exact W
theorem Wish.imp {α β : Type} {K : Fr} {E : XK} {rep : Rp α β} {r : Res α} {ρ : En} {σ : L2.St} {H G : Hp} {w : Wn} {Q Q' : β → Hp → Prop} (hq : ∀ v H', Q v H' → Q' v H') (W : Wish K E rep r ρ σ H G w Q) : Wish K E rep r ρ σ H G w Q' := by
  cases r with
  | bad => exact W
  | ok a h' => exact fun v H' G' w' R' T' r' => hq _ _ (W v H' G' w' R' T' r')
  | exc x h' => exact W
def tX {α β : Type} (K : Fr) (E : XK) (rep : Rp α β) (f : En → Hs → Res α) : L2.St → Hp → (β → Hp → Prop) → Prop := fun σ H Q => ∃ ρ h G w, Rel K ρ h σ H G w ∧ Wish K E rep (f ρ h) ρ σ H G w Q
/-! ### the five kinds of value -/
def rpD (K : Fr) : Rp D V := fun _ _ _ _ d v _ G w => RD K G w d v
/-- what an operand is: told data, or a list of one's own whose items are told -/
def PkR (H G : Hp) (v : V) (t : T) : Prop := RT G t v ∨ ∃ a vs ts, t = .list ts ∧ v = .ref a ∧ H a = some (.lst vs) ∧ RTs G ts vs
def rpO (K : Fr) : Rp T V := fun ρ σ _ _ t v _ G _ => ∀ h' H' G' w', Rel K ρ h' σ H' G' w' → Same G G' → PkR H' G' v t
def rpB : Rp Bool Bool := fun _ _ _ _ a b _ _ _ => a = b
def RDs (K : Fr) (G : Hp) (w : Wn) (ds : List D) (vs : List V) : Prop := Paired (RD K G w) ds vs
def rpA (K : Fr) : Rp (List D) (List V) := fun _ _ _ _ ds vs _ G w => RDs K G w ds vs
def OwnR (H0 : Hp) (w0 : Wn) (ts : List T) (v : V) (H G : Hp) (w : Wn) : Prop := ∃ a vs, v = .ref a ∧ H a = some (.lst vs) ∧ RTs G ts vs ∧ G a = none ∧ (∀ q, w q ≠ some a) ∧ ((∃ q, w0 q = some a) ∨ H0 a = none)
def rpR (K : Fr) : Rp Ret V := fun _ _ H0 w0 r v H G w => match r with
  | .val d => RD K G w d v
  | .own ts => OwnR H0 w0 ts v H G w
theorem rpD_m {K : Fr} : RpM (rpD K) := fun _ _ _ _ _ _ _ _ _ _ _ _ _ _ h => h
theorem rpO_m {K : Fr} : RpM (rpO K) := fun _ _ _ _ _ _ _ _ _ _ _ _ _ _ h => h
theorem rpB_m : RpM rpB := fun _ _ _ _ _ _ _ _ _ _ _ _ _ _ h => h
theorem rpA_m {K : Fr} : RpM (rpA K) := fun _ _ _ _ _ _ _ _ _ _ _ _ _ _ h => h
theorem OwnR.back {G H : Hp} {w : Wn} {G1 H1 : Hp} {w1 : Wn} {ts : List T} {v : V} {H' G' : Hp} {w' : Wn} (t : Tr G H w G1 H1 w1) (h : OwnR H1 w1 ts v H' G' w') : OwnR H w ts v H' G' w' := by
  obtain ⟨a, vs, h1, h2, h3, h4, h5, h6⟩ := h
  refine ⟨a, vs, h1, h2, h3, h4, h5, ?_⟩
  rcases h6 with ⟨q, z⟩ | z
  · exact t.wn q a z
  · exact (t.back z).symm
/-- an own list that nothing holds yet stays -/
theorem OwnR.step {H0 : Hp} {w0 : Wn} {ts : List T} {v : V} {H G : Hp} {w : Wn} {H' G' : Hp} {w' : Wn} (t : Tr G H w G' H' w') (h : OwnR H0 w0 ts v H G w) : OwnR H0 w0 ts v H' G' w' := by
  obtain ⟨a, vs, h1, h2, h3, h4, h5, h6⟩ := h
  refine ⟨a, vs, h1, t.fr a _ h2 h5, h3.mono t.gm, ?_, fun q z => ?_, h6⟩
  · cases z : G' a with
    | none => rfl
    | some o =>
      rcases t.gn a (by rw [z]; exact fun y => by cases y) with y | y | ⟨q, y⟩ | ⟨_, y⟩
      · exact absurd h4 y
      · rw [h2] at y; cases y
      · exact absurd y (h5 q)
      · rw [h2] at y; cases y
  · rcases t.wn q a z with ⟨q', y⟩ | y
    · exact h5 q' y
    · rw [h2] at y; cases y
theorem rpR_m {K : Fr} : RpM (rpR K) := fun ρ σ G H w G1 H1 w1 r b H' G' w' t h => by
  cases r with
  | val d => exact h
  | own ts => exact h.back t
theorem RDs.mono {K : Fr} {G H : Hp} {w : Wn} {G' H' : Hp} {w' : Wn} {ds : List D} {vs : List V} (t : Tr G H w G' H' w') (h : RDs K G w ds vs) : RDs K G' w' ds vs := paired_imp (fun _ _ z => z.mono t) h
theorem PkR.dp {K : Fr} {H G : Hp} {v : V} {t : T} (s : Same G H) (h : PkR H G v t) : Dp K H v t ∧ t.canLay0 = true := by
  rcases h with h | ⟨a, vs, ts, rfl, rfl, h1, h2⟩
  · exact ⟨dq_dp s t v h.1, h.2⟩
  · exact ⟨.lst (SqL.of h1) (dqAll_dp s ts vs h2.1), by rw [PyData.canLay0]; exact h2.2⟩
theorem PkR.list {H G : Hp} {v : V} {ts : List T} (s : Same G H) (h : PkR H G v (.list ts)) : ∃ a vs, v = .ref a ∧ H a = some (.lst vs) ∧ RTs G ts vs := by
  rcases h with h | ⟨a, vs, ts', e, rfl, h1, h2⟩
  · obtain ⟨a, vs, rfl, h1, h2⟩ := h.list
    exact ⟨a, vs, rfl, s _ _ h1, h2⟩
  · cases e
    exact ⟨a, vs, rfl, h1, h2⟩
theorem PkR.tuple {H G : Hp} {v : V} {ts : List T} (s : Same G H) (h : PkR H G v (.tuple ts)) : ∃ a vs, v = .ref a ∧ H a = some (.tup vs) ∧ RTs G ts vs := by
  rcases h with h | ⟨a, vs, ts', e, _⟩
  · obtain ⟨a, vs, rfl, h1, h2⟩ := h.tuple
    exact ⟨a, vs, rfl, s _ _ h1, h2⟩
  · cases e
theorem PkR.int {H G : Hp} {v : V} {i : Int} (h : PkR H G v (.int i)) : v = .int i := by
  rcases h with h | ⟨a, vs, ts', e, _⟩
  · cases h.1; rfl
  · cases e
theorem PkR.bool {H G : Hp} {v : V} {i : Bool} (h : PkR H G v (.bool i)) : v = .bl i := by
  rcases h with h | ⟨a, vs, ts', e, _⟩
  · cases h.1; rfl
  · cases e
theorem PkR.str {H G : Hp} {v : V} {i : Str} (h : PkR H G v (.str i)) : v = .str i ∧ PyData.strOk i = true := by
  rcases h with h | ⟨a, vs, ts', e, _⟩
  · obtain ⟨h, c⟩ := h
    cases h
    exact ⟨rfl, by rw [PyData.canLay0] at c; exact c⟩
  · cases e
theorem PkR.none {H G : Hp} {v : V} (h : PkR H G v .none) : v = .non := by
  rcases h with h | ⟨a, vs, ts', e, _⟩
  · cases h.1; rfl
  · cases e
/-! ### judgements -/
abbrev SE (X : Cx) (E : XK) (e : Expr) (f : FE) : Prop := PE X e (tX X.K E (rpD X.K) f)
abbrev SO (X : Cx) (E : XK) (e : Expr) (f : FT) : Prop := PE X e (tX X.K E (rpO X.K) f)
abbrev SR (X : Cx) (E : XK) (e : Expr) (f : FR) : Prop := PE X e (tX X.K E (rpR X.K) f)
abbrev ST (X : Cx) (E : XK) (e : Expr) (f : FB) : Prop := PT X e (tX X.K E rpB f)
abbrev SA (X : Cx) (E : XK) (es : List Expr) (f : FA) : Prop := PA X es (tX X.K E (rpA X.K) f)
theorem pe_imp {X : Cx} {e : Expr} {t t' : TE} (h : PE X e t) (i : ∀ σ H Q, t' σ H Q → t σ H Q) : PE X e t' := ⟨fun pins s σ H Q I hw => h.run pins s σ H Q I (i _ _ _ hw)⟩
theorem pt_imp {X : Cx} {e : Expr} {t t' : TT} (h : PT X e t) (i : ∀ σ H Q, t' σ H Q → t σ H Q) : PT X e t' := ⟨fun pins s σ H Q I hw => h.run pins s σ H Q I (i _ _ _ hw)⟩
theorem pa_imp {X : Cx} {e : List Expr} {t t' : TA} (h : PA X e t) (i : ∀ σ H Q, t' σ H Q → t σ H Q) : PA X e t' := ⟨fun pos pins s σ H Q I hw => h.run pos pins s σ H Q I (i _ _ _ hw)⟩
theorem ps_imp {X : Cx} {e : Stmt} {t t' : TS} (h : PS X e t) (i : ∀ D σ H, t' D σ H → t D σ H) : PS X e t' := ⟨fun pins s σ H D I hw => h.run pins s σ H D I (i _ _ _ hw)⟩
theorem pss_imp {X : Cx} {e : List Stmt} {t t' : TS} (h : PSs X e t) (i : ∀ D σ H, t' D σ H → t D σ H) : PSs X e t' := ⟨fun pins s σ H D I hw => h.run pins s σ H D I (i _ _ _ hw)⟩
/-- lengths are within the line -/
def LenOk (K : Fr) (H : Hp) : Prop := (∀ a xs, SqL K H a xs → xs.length ≤ sizeLine) ∧ ∀ a xs, SqT K H a xs → xs.length ≤ sizeLine
theorem inv_len {X : Cx} {pins : List (Addr × Obj)} {σ : L2.St} {H : Hp} {s : Shared} (I : Inv X pins σ H s) : LenOk X.K H := ⟨fun a xs h => (I.list h).choose_spec.2.2, fun a xs h => (I.tuple h).choose_spec.2.2⟩
theorem pe_len {X : Cx} {e : Expr} {t : TE} (h : PE X e t) (hm : ∀ σ H Q Q', (∀ v H', Q v H' → Q' v H') → t σ H Q → t σ H Q') : PE X e (fun σ H Q => t σ H fun v H1 => LenOk X.K H1 → Q v H1) := ⟨fun pins s σ H Q I hw =>
  thn (h.run pins s σ H _ I hw) fun u s' ⟨v, H', I', r, q⟩ => ⟨v, H', I', r, q (inv_len I')⟩⟩
theorem pe_len0 {X : Cx} {e : Expr} {t : TE} (h : PE X e t) : PE X e (fun σ H Q => LenOk X.K H → t σ H Q) := ⟨fun pins s σ H Q I hw => h.run pins s σ H Q I (hw (inv_len I))⟩
theorem tX_imp {α β : Type} {K : Fr} {E : XK} {rep : Rp α β} {f : En → Hs → Res α} {σ : L2.St} {H : Hp} {Q Q' : β → Hp → Prop} (hq : ∀ v H', Q v H' → Q' v H') (h : tX K E rep f σ H Q) : tX K E rep f σ H Q' := by
  obtain ⟨ρ, h0, G, w, R, W⟩ := h
  exact ⟨ρ, h0, G, w, R, W.imp hq⟩
/-- one part ahead of the rest -/
theorem tX_bind0 {α β γ δ : Type} {K : Fr} {E : XK} {rep : Rp α β} {rep' : Rp γ δ} {f : En → Hs → Res α} {k : En → α → Hs → Res γ} {σ : L2.St} {H : Hp} {Q : δ → Hp → Prop} {C : β → Hp → Prop} (m : RpM rep') (h : tX K E rep' (fun ρ h => (f ρ h).bind (k ρ)) σ H Q)
    (hC : ∀ ρ a h1 v H1 G0 G1 w0 w1, Rel K ρ h1 σ H1 G1 w1 → Tr G0 H w0 G1 H1 w1 → rep ρ σ H w0 a v H1 G1 w1 → Wish K E rep' (k ρ a h1) ρ σ H G0 w0 Q → C v H1) : tX K E rep f σ H C := by
  obtain ⟨ρ, h0, G, w, R, W⟩ := h
  refine ⟨ρ, h0, G, w, R, (W.bind (rep := rep) m).imp ?_⟩
  rintro v H1 ⟨a, h1, G1, w1, R1, T1, r1, W1⟩
  exact hC ρ a h1 v H1 G G1 w w1 R1 T1 r1 W1
theorem tX_bind {α β γ δ : Type} {K : Fr} {E : XK} {rep : Rp α β} {rep' : Rp γ δ} {f : En → Hs → Res α} {k : En → α → Hs → Res γ} {σ : L2.St} {H : Hp} {Q : δ → Hp → Prop} {C : β → Hp → Prop} (m : RpM rep') (h : tX K E rep' (fun ρ h => (f ρ h).bind (k ρ)) σ H Q)
    (hC : ∀ ρ a h1 v H1 G0 G1 w0 w1, Rel K ρ h1 σ H1 G1 w1 → Tr G0 H w0 G1 H1 w1 → rep ρ σ H w0 a v H1 G1 w1 → Wish K E rep' (k ρ a h1) ρ σ H1 G1 w1 Q → C v H1) : tX K E rep f σ H C :=
  tX_bind0 m h fun ρ a h1 v H1 G0 G1 w0 w1 R1 T1 r1 W1 => hC ρ a h1 v H1 G0 G1 w0 w1 R1 T1 r1 (W1.mono m T1)
/-- the same, once more, behind a first part -/
theorem wish_bind {α β γ δ : Type} {K : Fr} {E : XK} {rep : Rp α β} {rep' : Rp γ δ} {f : En → Hs → Res α} {k : α → Hs → Res γ} {ρ : En} {h : Hs} {σ : L2.St} {H G : Hp} {w : Wn} {Q : δ → Hp → Prop} {C : β → Hp → Prop} (m : RpM rep') (R : Rel K ρ h σ H G w) (W : Wish K E rep' ((f ρ h).bind k) ρ σ H G w Q)
    (hC : ∀ a h1 v H1 G1 w1, Rel K ρ h1 σ H1 G1 w1 → Tr G H w G1 H1 w1 → rep ρ σ H w a v H1 G1 w1 → Wish K E rep' (k a h1) ρ σ H1 G1 w1 Q → C v H1) : tX K E rep f σ H C := by
  refine ⟨ρ, h, G, w, R, (W.bind (rep := rep) m).imp ?_⟩
  rintro v H1 ⟨a, h1, G1, w1, R1, T1, r1, W1⟩
  exact hC a h1 v H1 G1 w1 R1 T1 r1 (W1.mono m T1)
/-- the end: a value over new things alone -/
theorem Wish.fin {α β : Type} {K : Fr} {E : XK} {rep : Rp α β} {ρ : En} {h : Hs} {σ : L2.St} {H G : Hp} {w : Wn} {Q : β → Hp → Prop} {a : α} {v : β} {H' G' : Hp} (W : Wish K E rep (.ok a h) ρ σ H G w Q) (R : Rel K ρ h σ H G w) (n : New H G H' G') (r : rep ρ σ H w a v H' G' w) : Q v H' :=
  let ⟨R', T'⟩ := R.new n
  W v H' G' w R' T' r
theorem Wish.fin0 {α β : Type} {K : Fr} {E : XK} {rep : Rp α β} {ρ : En} {h : Hs} {σ : L2.St} {H G : Hp} {w : Wn} {Q : β → Hp → Prop} {a : α} {v : β} (W : Wish K E rep (.ok a h) ρ σ H G w Q) (R : Rel K ρ h σ H G w) (r : rep ρ σ H w a v H G w) : Q v H := W v H G w R Tr.refl r
section
variable {X : Cx} {E : XK} {e a b : Expr} {pos : Pos}
/-! ### one kind of value as another -/
def toO (f : FE) : FT := fun ρ h => (f ρ h).bind fun d h => match d with
  | .dat t => .ok t h
  | _ => .bad
def toE (f : FT) : FE := fun ρ h => (f ρ h).bind fun t h => .ok (.dat t) h
def toR (f : FE) : FR := fun ρ h => (f ρ h).bind fun d h => .ok (.val d) h
def ofR (f : FR) : FE := fun ρ h => (f ρ h).bind fun r h => match r with
  | .val d => .ok d h
  | .own ts => .ok (.dat (.list ts)) h
theorem so_of {f : FE} (h : SE X E e f) : SO X E e (toO f) := pe_imp h fun σ H Q hw => tX_bind (f := f) rpO_m hw fun ρ d h1 v H1 G0 G1 w0 w1 R1 T1 r1 W1 => by
  cases d with
  | dat t => exact W1.fin0 R1 fun h' H' G' w' R' g => .inl (RT.mono g r1)
  | obj n => exact W1.elim
  | scr n => exact W1.elim
theorem sr_of {f : FE} (h : SE X E e f) : SR X E e (toR f) := pe_imp h fun σ H Q hw => tX_bind (f := f) rpR_m hw fun ρ d h1 v H1 G0 G1 w0 w1 R1 T1 r1 W1 => W1.fin0 R1 r1
/-- an own list that nothing holds is told from now on -/
theorem Rel.tell {K : Fr} {ρ : En} {h : Hs} {σ : L2.St} {H G : Hp} {w : Wn} {p : Addr} {u : HO} (R : Rel K ρ h σ H G w) (h2 : H p = some u) (h4 : G p = none) (h5 : ∀ q, w q ≠ some p) : Rel K ρ h σ H (upd G p u) w := by
  have g : Same G (upd G p u) := same_upd h4
  refine ⟨fun c o z => ?_, fun q c z => ?_, R.inj, R.len, fun i s hs => (R.env i s hs).mono g rfl (fun _ _ z => z) fun _ _ => rfl, R.env0, fun n o ho => (R.obs n o ho).mono g rfl (fun _ => rfl) (fun _ _ => rfl) fun _ _ _ => rfl, R.obs0⟩
  · by_cases hc : c = p
    · subst hc
      rw [upd_same] at z
      rw [h2]
      exact z
    · rw [upd_ne hc] at z
      exact R.sub c o z
  · rw [upd_ne (fun y : c = p => h5 q (by rw [z, y]))]
    exact R.off q c z
theorem Tr.tell {G H : Hp} {w : Wn} {G1 H1 : Hp} {w1 : Wn} {p : Addr} {u : HO} (t : Tr G H w G1 H1 w1) (h4 : G1 p = none) (h6 : (∃ q, w q = some p) ∨ H p = none) : Tr G H w (upd G1 p u) H1 w1 :=
  ⟨t.gm.trans (same_upd h4), t.fr, fun b z => by
    by_cases hb : b = p
    · subst hb
      exact .inr (h6.symm.imp id Or.inl)
    · rw [upd_ne hb] at z
      exact t.gn b z, t.wn, t.ob⟩
theorem se_ofR {f : FR} (h : SR X E e f) : SE X E e (ofR f) := pe_imp h fun σ H Q hw => tX_bind0 (f := f) rpD_m hw fun ρ r h1 v H1 G0 G1 w0 w1 R1 T1 r1 W1 => by
  cases r with
  | val d => exact W1 _ _ _ _ R1 T1 r1
  | own ts =>
    obtain ⟨p, vs, rfl, h2, h3, h4, h5, h6⟩ := r1
    exact W1 _ _ _ _ (R1.tell h2 h4 h5) (T1.tell h4 h6) (RT.mkList upd_same (h3.mono (same_upd h4)))
end
end Pf
set_option Elab.async false
set_option linter.all false
set_option maxRecDepth 100000
set_option maxHeartbeats 1000000
namespace Pf
open PySem PySem.Spec PyProof.Rows L2
/-! ### operators over data -/
def rT2 (g : T → T → Option T) : R2 := fun x y H Q => ∃ G tx ty r, Same G H ∧ PkR H G x tx ∧ PkR H G y ty ∧ g tx ty = some r ∧ ∀ v H' G', New H G H' G' → RT G' r v → Q v H'
def rB2 (g : T → T → Option Bool) : R2 := fun x y H Q => ∃ G tx ty r, Same G H ∧ PkR H G x tx ∧ PkR H G y ty ∧ g tx ty = some r ∧ Q (.bl r) H
def addT : T → T → Option T
  | .int i, .int j => some (.int (i + j))
  | .str x, .str y => if x.length + y.length ≤ sizeLine then some (.str (x ++ y)) else none
  | .list xs, .list ys => if xs.length + ys.length ≤ sizeLine then some (.list (xs ++ ys)) else none
  | .tuple xs, .tuple ys => if xs.length + ys.length ≤ sizeLine then some (.tuple (xs ++ ys)) else none
  | _, _ => none
def subT : T → T → Option T
  | .int i, .int j => some (.int (i - j))
  | _, _ => none
def smallI (i : Int) : Bool := decide (-(2 ^ 64) < i) && decide (i < 2 ^ 64)
def mulT : T → T → Option T
  | .int i, .int j => if (smallI i || smallI j) = true then some (.int (i * j)) else none
  | .list xs, .int n => if (decide (0 ≤ n) && decide (n ≤ 1000) && decide (xs.length ≤ 1000)) = true then some (.list (List.replicate n.toNat xs).flatten) else none
  | _, _ => none
def modT : T → T → Option T
  | .int i, .int j => if 0 < j then some (.int (i % j)) else none
  | _, _ => none
def divT : T → T → Option T
  | .int i, .int j => if 0 < j ∧ j < 1073741824 then some (.int (i / j)) else none
  | _, _ => none
def powT : T → T → Option T
  | .int i, .int j => if 0 ≤ j ∧ j ≤ 1000000 ∧ i.natAbs < 2 ^ 64 then some (.int (i ^ j.toNat)) else none
  | _, _ => none
section
variable {X : Cx}
theorem strOk_append {x y : Str} (h : PyData.strOk x = true) (k : PyData.strOk y = true) : PyData.strOk (x ++ y) = true := by
  have e : (x ++ y).cps = x.cps ++ y.cps := rfl
  unfold PyData.strOk at *
  rw [e, Array.all_append, h, k]
  rfl
theorem opr_add : OpR X (binaryOp .Add) (rT2 addT) := by
  intro pins s σ H x y v u Q I rx ry ⟨G, tx, ty, r, sG, px, py, hg, k⟩
  unfold addT at hg
  split at hg
  · cases hg
    exact op_add pins s σ H x y v u Q I rx ry ⟨_, _, px.int, py.int, k _ _ _ (New.refl sG) (RT.int _)⟩
  · split at hg
    · cases hg
      exact op_add_str pins s σ H x y v u Q I rx ry ⟨_, _, px.str.1, py.str.1, by assumption, k _ _ _ (New.refl sG) (RT.str (strOk_append px.str.2 py.str.2))⟩
    · cases hg
  · split at hg
    · cases hg
      obtain ⟨a, vs, rfl, h1, h2⟩ := px.list sG
      obtain ⟨b, us, rfl, h3, h4⟩ := py.list sG
      refine op_cat pins s σ H _ _ v u Q I rx ry ⟨a, b, vs, us, rfl, rfl, h1, h3, by rw [h2.length, h4.length]; assumption, fun p hp => ?_⟩
      exact k _ _ _ (New.one sG _ hp) (RT.mkList upd_same ((h2.append h4).mono (same_upd (sG.free hp))))
    · cases hg
  · split at hg
    · cases hg
      obtain ⟨a, vs, rfl, h1, h2⟩ := px.tuple sG
      obtain ⟨b, us, rfl, h3, h4⟩ := py.tuple sG
      refine op_catA pins s σ H _ _ v u Q I rx ry ⟨a, b, vs, us, rfl, rfl, SqT.of h1, SqT.of h3, by rw [h2.length, h4.length]; assumption, fun e => ?_, fun _ e => ?_, fun _ _ p hp => ?_⟩
      · subst e
        rename_i xs ys _
        have e2 : xs = [] := List.eq_nil_of_length_eq_zero (by rw [← h2.length]; rfl)
        subst e2
        rcases py with py | ⟨_, _, _, e3, _⟩
        · exact k _ _ _ (New.refl sG) py
        · cases e3
      · subst e
        rename_i xs ys _ _
        have e2 : ys = [] := List.eq_nil_of_length_eq_zero (by rw [← h4.length]; rfl)
        subst e2
        rw [List.append_nil] at k
        rcases px with px | ⟨_, _, _, e3, _⟩
        · exact k _ _ _ (New.refl sG) px
        · cases e3
      · exact k _ _ _ (New.one sG _ hp) (RT.mkTup upd_same ((h2.append h4).mono (same_upd (sG.free hp))))
    · cases hg
  · cases hg
theorem opr_sub : OpR X (binaryOp .Sub) (rT2 subT) := by
  intro pins s σ H x y v u Q I rx ry ⟨G, tx, ty, r, sG, px, py, hg, k⟩
  unfold subT at hg
  split at hg
  · cases hg
    exact op_sub pins s σ H x y v u Q I rx ry ⟨_, _, px.int, py.int, k _ _ _ (New.refl sG) (RT.int _)⟩
  · cases hg
theorem smallI_ok {i : Int} (h : smallI i = true) : -(2 ^ 64) < i ∧ i < 2 ^ 64 := by
  unfold smallI at h
  rw [Bool.and_eq_true, decide_eq_true_eq, decide_eq_true_eq] at h
  exact h
theorem RTs.flat {G : Hp} {ts : List T} {vs : List V} (h : RTs G ts vs) : ∀ n : Nat, RTs G (List.replicate n ts).flatten (List.replicate n vs).flatten
  | 0 => .nil
  | n + 1 => by
    rw [List.replicate_succ, List.replicate_succ, List.flatten_cons, List.flatten_cons]
    exact h.append (h.flat n)
theorem opr_mul : OpR X (binaryOp .Mult) (rT2 mulT) := by
  intro pins s σ H x y v u Q I rx ry ⟨G, tx, ty, r, sG, px, py, hg, k⟩
  unfold mulT at hg
  split at hg
  · split at hg
    · rename_i hc
      cases hg
      rw [Bool.or_eq_true] at hc
      exact op_mul pins s σ H x y v u Q I rx ry ⟨_, _, px.int, py.int, hc.imp smallI_ok smallI_ok, k _ _ _ (New.refl sG) (RT.int _)⟩
    · cases hg
  · split at hg
    · rename_i hc
      cases hg
      simp only [Bool.and_eq_true, decide_eq_true_eq] at hc
      obtain ⟨a, vs, rfl, h1, h2⟩ := px.list sG
      have hz : (1000 : Nat) * 1000 ≤ sizeLine := by decide
      refine op_rep pins s σ H _ _ v u Q I rx ry ⟨a, _, vs, rfl, py.int, h1, by omega, by omega, ?_, fun p hp => ?_⟩
      · rw [h2.length]
        exact Nat.le_trans (Nat.mul_le_mul hc.2 (by omega)) hz
      · exact k _ _ _ (New.one sG _ hp) (RT.mkList upd_same ((h2.flat _).mono (same_upd (sG.free hp))))
    · cases hg
  · cases hg
theorem opr_mod : OpR X (binaryOp .Mod) (rT2 modT) := by
  intro pins s σ H x y v u Q I rx ry ⟨G, tx, ty, r, sG, px, py, hg, k⟩
  unfold modT at hg
  split at hg
  · split at hg
    · cases hg
      exact op_mod pins s σ H x y v u Q I rx ry ⟨_, _, px.int, py.int, by assumption, k _ _ _ (New.refl sG) (RT.int _)⟩
    · cases hg
  · cases hg
theorem opr_div : OpR X (binaryOp .FloorDiv) (rT2 divT) := by
  intro pins s σ H x y v u Q I rx ry ⟨G, tx, ty, r, sG, px, py, hg, k⟩
  unfold divT at hg
  split at hg
  · split at hg
    · cases hg
      exact op_fdiv pins s σ H x y v u Q I rx ry ⟨_, _, px.int, py.int, by assumption, k _ _ _ (New.refl sG) (RT.int _)⟩
    · cases hg
  · cases hg
theorem opr_pow : OpR X (binaryOp .Pow) (rT2 powT) := by
  intro pins s σ H x y v u Q I rx ry ⟨G, tx, ty, r, sG, px, py, hg, k⟩
  unfold powT at hg
  split at hg
  · split at hg
    · cases hg
      exact op_pow pins s σ H x y v u Q I rx ry ⟨_, _, px.int, py.int, by assumption, k _ _ _ (New.refl sG) (RT.int _)⟩
    · cases hg
  · cases hg
/-! ### comparisons -/
def eqT (a b : T) : Option Bool := if min a.depth b.depth ≤ 60 then some (PyData.eqv a b) else none
def neT (a b : T) : Option Bool := if min a.depth b.depth ≤ 60 then some (!PyData.eqv a b) else none
def ltT : T → T → Option Bool
  | .int i, .int j => some (decide (i < j))
  | _, _ => none
def leT : T → T → Option Bool
  | .int i, .int j => some (decide (i ≤ j))
  | _, _ => none
def gtT : T → T → Option Bool
  | .int i, .int j => some (decide (j < i))
  | _, _ => none
def geT : T → T → Option Bool
  | .int i, .int j => some (decide (j ≤ i))
  | _, _ => none
def isNone : T → Bool
  | .none => true
  | _ => false
def isT : T → T → Option Bool
  | a, .none => some (isNone a)
  | _, _ => none
def isntT : T → T → Option Bool
  | a, .none => some (!isNone a)
  | _, _ => none
def flatT : T → Bool
  | .none => true
  | .bool _ => true
  | .int _ => true
  | .str _ => true
  | _ => false
def inT : T → T → Option Bool
  | x, .list ts => if x.depth ≤ 60 then some (ts.any fun z => PyData.eqv z x) else none
  | x, .tuple ts => if (flatT x && ts.all flatT) = true then some (ts.any fun z => PyData.eqv z x) else none
  | .str c, .str z => if c.cps.size = 1 then some (decide (c.cps.getD 0 0 ∈ z.cps.toList)) else none
  | _, _ => none
def ninT (x y : T) : Option Bool := (inT x y).map (!·)
variable (hu : X.A.units + 70 < cLine)
include hu
theorem opr_eq : OpR X (compareOp .Eq) (rB2 eqT) := by
  intro pins s σ H x y v u Q I rx ry ⟨G, tx, ty, r, sG, px, py, hg, k⟩
  unfold eqT at hg
  split at hg
  · rename_i hm
    cases hg
    obtain ⟨hd, c1⟩ := PkR.dp (K := X.K) sG px
    obtain ⟨he, c2⟩ := PkR.dp (K := X.K) sG py
    obtain ⟨as, r1⟩ := Dp.reads I _ x v hd rx
    obtain ⟨bs, r2⟩ := Dp.reads I _ y u he ry
    exact SeqAt.compareEq_reads r1 r2 c1 c2 (by omega) ⟨.bl _, H, I, rfl, k⟩
  · cases hg
theorem opr_ne : OpR X (compareOp .NotEq) (rB2 neT) := by
  intro pins s σ H x y v u Q I rx ry ⟨G, tx, ty, r, sG, px, py, hg, k⟩
  unfold neT at hg
  split at hg
  · rename_i hm
    cases hg
    obtain ⟨hd, c1⟩ := PkR.dp (K := X.K) sG px
    obtain ⟨he, c2⟩ := PkR.dp (K := X.K) sG py
    obtain ⟨as, r1⟩ := Dp.reads I _ x v hd rx
    obtain ⟨bs, r2⟩ := Dp.reads I _ y u he ry
    exact SeqAt.compareNe_reads r1 r2 c1 c2 (by omega) ⟨.bl _, H, I, rfl, k⟩
  · cases hg
omit hu
theorem opr_lt : OpR X (compareOp .Lt) (rB2 ltT) := by
  intro pins s σ H x y v u Q I rx ry ⟨G, tx, ty, r, sG, px, py, hg, k⟩
  unfold ltT at hg
  split at hg
  · cases hg
    exact op_lt pins s σ H x y v u Q I rx ry ⟨_, _, px.int, py.int, k⟩
  · cases hg
theorem opr_le : OpR X (compareOp .LtE) (rB2 leT) := by
  intro pins s σ H x y v u Q I rx ry ⟨G, tx, ty, r, sG, px, py, hg, k⟩
  unfold leT at hg
  split at hg
  · cases hg
    exact op_le pins s σ H x y v u Q I rx ry ⟨_, _, px.int, py.int, k⟩
  · cases hg
theorem opr_gt : OpR X (compareOp .Gt) (rB2 gtT) := by
  intro pins s σ H x y v u Q I rx ry ⟨G, tx, ty, r, sG, px, py, hg, k⟩
  unfold gtT at hg
  split at hg
  · cases hg
    exact op_gt pins s σ H x y v u Q I rx ry ⟨_, _, px.int, py.int, k⟩
  · cases hg
theorem opr_ge : OpR X (compareOp .GtE) (rB2 geT) := by
  intro pins s σ H x y v u Q I rx ry ⟨G, tx, ty, r, sG, px, py, hg, k⟩
  unfold geT at hg
  split at hg
  · cases hg
    exact op_ge pins s σ H x y v u Q I rx ry ⟨_, _, px.int, py.int, k⟩
  · cases hg
theorem isNone_ok {H G : Hp} {x : V} {t : T} (h : PkR H G x t) : decide (x = V.non) = isNone t := by
  rcases h with h | ⟨a, vs, ts, rfl, rfl, _⟩
  · obtain ⟨h, _⟩ := h
    cases h <;> simp [isNone]
  · simp [isNone]
theorem opr_is : OpR X (compareOp .Is) (rB2 isT) := by
  intro pins s σ H x y v u Q I rx ry ⟨G, tx, ty, r, sG, px, py, hg, k⟩
  unfold isT at hg
  split at hg
  · cases hg
    refine op_isN pins s σ H x y v u Q I rx ry ⟨py.none, ?_⟩
    rw [isNone_ok px]
    exact k
  · cases hg
theorem opr_isnt : OpR X (compareOp .IsNot) (rB2 isntT) := by
  intro pins s σ H x y v u Q I rx ry ⟨G, tx, ty, r, sG, px, py, hg, k⟩
  unfold isntT at hg
  split at hg
  · cases hg
    refine op_notN pins s σ H x y v u Q I rx ry ⟨py.none, ?_⟩
    rw [isNone_ok px]
    exact k
  · cases hg
theorem flat_ok {G : Hp} {v : V} {t : T} (h : RT G t v) (f : flatT t = true) : flatV v = true := by
  obtain ⟨h, _⟩ := h
  cases h <;> first | rfl | cases f
theorem flatAll_ok {G : Hp} : ∀ {ts : List T} {vs : List V}, RTs G ts vs → ts.all flatT = true → vs.all flatV = true
  | [], vs, h, _ => by rw [h.unnil]; rfl
  | t :: ts, vs, h, f => by
    obtain ⟨v, vs', rfl, h1, h2⟩ := h.uncons
    rw [List.all_cons, Bool.and_eq_true] at f
    rw [List.all_cons, flat_ok h1 f.1, flatAll_ok h2 f.2]
    rfl
theorem eqV_ok {G : Hp} {v v' : V} {t t' : T} (h : RT G t v) (f : flatT t = true) (h' : RT G t' v') (f' : flatT t' = true) : eqV v v' = PyData.eqv t t' := by
  obtain ⟨h, _⟩ := h
  obtain ⟨h', _⟩ := h'
  cases h <;> cases h' <;> first | rfl | cases f | cases f'
theorem anyV_ok {G : Hp} {v' : V} {t' : T} (h' : RT G t' v') (f' : flatT t' = true) : ∀ {ts : List T} {vs : List V}, RTs G ts vs → ts.all flatT = true → (vs.any fun y => eqV y v') = ts.any fun z => PyData.eqv z t'
  | [], vs, h, _ => by rw [h.unnil]; rfl
  | t :: ts, vs, h, f => by
    obtain ⟨v, vs', rfl, h1, h2⟩ := h.uncons
    rw [List.all_cons, Bool.and_eq_true] at f
    rw [List.any_cons, List.any_cons, eqV_ok h1 f.1 h' f', anyV_ok h' f' h2 f.2]
theorem flat_rt {H G : Hp} {v : V} {t : T} (h : PkR H G v t) (f : flatT t = true) : RT G t v := by
  rcases h with h | ⟨_, _, _, rfl, _⟩
  · exact h
  · cases f
theorem one_sign {c : Str} (h : c.cps.size = 1) : c = ⟨#[c.cps.getD 0 0]⟩ := by
  obtain ⟨c⟩ := c
  have h : c.size = 1 := h
  obtain ⟨l⟩ := c
  have h : l.length = 1 := h
  match l, h with
  | [x], _ => rfl
include hu
theorem opr_in : OpR X (compareOp .In) (rB2 inT) := by
  intro pins s σ H x y v u Q I rx ry ⟨G, tx, ty, r, sG, px, py, hg, k⟩
  unfold inT at hg
  split at hg
  · split at hg
    · rename_i hm
      cases hg
      obtain ⟨hd, c1⟩ := PkR.dp (K := X.K) sG px
      obtain ⟨he, c2⟩ := PkR.dp (K := X.K) sG py
      obtain ⟨as, r1⟩ := Dp.reads I _ x v hd rx
      obtain ⟨bs, r2⟩ := Dp.reads I _ y u he ry
      exact SeqAt.in_list_reads r2 r1 c2 c1 (by omega) ⟨.bl _, H, I, rfl, k⟩
    · cases hg
  · split at hg
    · rename_i hc
      cases hg
      rw [Bool.and_eq_true] at hc
      obtain ⟨b, us, rfl, h3, h4⟩ := py.tuple sG
      have hx := flat_rt px hc.1
      refine op_in_seq pins s σ H _ _ v u Q I rx ry ⟨b, us, rfl, .inr (SqT.of h3), flat_ok hx hc.1, flatAll_ok h4 hc.2, ?_⟩
      show Q (.bl (us.any fun y => eqV y x)) H
      rw [anyV_ok hx hc.1 h4 hc.2]
      exact k
    · cases hg
  · split at hg
    · rename_i h1
      cases hg
      rw [one_sign h1] at px
      exact op_in_sign pins s σ H _ _ v u Q I rx ry ⟨_, _, px.str.1, py.str.1, k⟩
    · cases hg
  · cases hg
theorem opr_nin : OpR X (compareOp .NotIn) (rB2 ninT) := by
  intro pins s σ H x y v u Q I rx ry ⟨G, tx, ty, r, sG, px, py, hg, k⟩
  unfold ninT at hg
  obtain ⟨b0, hg2, hr⟩ := Option.map_eq_some_iff.mp hg
  subst hr
  clear hg
  revert hg2
  intro hg
  unfold inT at hg
  split at hg
  · split at hg
    · rename_i hm
      have hg := Option.some.inj hg
      subst hg
      obtain ⟨hd, c1⟩ := PkR.dp (K := X.K) sG px
      obtain ⟨he, c2⟩ := PkR.dp (K := X.K) sG py
      obtain ⟨as, r1⟩ := Dp.reads I _ x v hd rx
      obtain ⟨bs, r2⟩ := Dp.reads I _ y u he ry
      exact SeqAt.notIn_list_reads r2 r1 c2 c1 (by omega) ⟨.bl _, H, I, rfl, k⟩
    · cases hg
  · split at hg
    · rename_i hc
      have hg := Option.some.inj hg
      subst hg
      rw [Bool.and_eq_true] at hc
      obtain ⟨b, us, rfl, h3, h4⟩ := py.tuple sG
      have hx := flat_rt px hc.1
      refine op_notIn_seq pins s σ H _ _ v u Q I rx ry ⟨b, us, rfl, .inr (SqT.of h3), flat_ok hx hc.1, flatAll_ok h4 hc.2, ?_⟩
      show Q (.bl (!us.any fun y => eqV y x)) H
      rw [anyV_ok hx hc.1 h4 hc.2]
      exact k
    · cases hg
  · split at hg
    · rename_i h1
      have hg := Option.some.inj hg
      subst hg
      rw [one_sign h1] at px
      exact op_notIn_sign pins s σ H _ _ v u Q I rx ry ⟨_, _, px.str.1, py.str.1, k⟩
    · cases hg
  · cases hg
end
end Pf
set_option Elab.async false
set_option linter.all false
set_option maxRecDepth 100000
set_option maxHeartbeats 1000000
namespace Pf
open PySem PySem.Spec PyProof.Rows L2
/-! ### semantic expressions -/
def fC (t : T) : FE := fun _ h => .ok (.dat t) h
def fV (i : Nat) : FE := fun ρ h => match ρ[i]? with
  | some (.val d) => .ok d h
  | some (.fix _ t) => .ok (.dat t) h
  | _ => .bad
def fP (i : Nat) : FT := fun ρ h => match ρ[i]? with
  | some (.val (.dat t)) => .ok t h
  | some (.own ts) => .ok (.list ts) h
  | some (.fix _ t) => .ok t h
  | _ => .bad
def fOp2 (g : T → T → Option T) (fa fb : FT) : FE := fun ρ h => (fa ρ h).bind fun x h => (fb ρ h).bind fun y h => lift h ((g x y).map D.dat)
def fCmp (g : T → T → Option Bool) (fa fb : FT) : FB := fun ρ h => (fa ρ h).bind fun x h => (fb ρ h).bind fun y h => lift h (g x y)
def fBE (f : FB) : FE := fun ρ h => (f ρ h).bind fun b h => .ok (.dat (.bool b)) h
/-- a value as a test -/
def fEB (f : FE) : FB := fun ρ h => (f ρ h).bind fun d h => match d with
  | .dat (.bool b) => .ok b h
  | _ => .bad
def fChain (g g' : T → T → Option Bool) (fa fb fc : FT) : FB := fun ρ h => (fa ρ h).bind fun x h => (fb ρ h).bind fun y h => (lift h (g x y)).bind fun r h => match r with
  | true => (fc ρ h).bind fun z h => lift h (g' y z)
  | false => .ok false h
def fChain3 (g g' g'' : T → T → Option Bool) (fa fb fc fd : FT) : FB := fun ρ h => (fa ρ h).bind fun x h => (fb ρ h).bind fun y h => (lift h (g x y)).bind fun r h => match r with
  | true => (fc ρ h).bind fun z h => (lift h (g' y z)).bind fun r h => match r with
    | true => (fd ρ h).bind fun u h => lift h (g'' z u)
    | false => .ok false h
  | false => .ok false h
def fAnd (fa fb : FB) : FB := fun ρ h => (fa ρ h).bind fun b h => match b with
  | true => fb ρ h
  | false => .ok false h
def fOr (fa fb : FB) : FB := fun ρ h => (fa ρ h).bind fun b h => match b with
  | true => .ok true h
  | false => fb ρ h
def fNot (fa : FB) : FB := fun ρ h => (fa ρ h).bind fun b h => .ok (!b) h
def fIf {α : Type} (fc : FB) (fa fb : En → Hs → Res α) : En → Hs → Res α := fun ρ h => (fc ρ h).bind fun b h => match b with
  | true => fa ρ h
  | false => fb ρ h
section
variable {X : Cx} {E : XK} {e a b c d : Expr} {es : List Expr} {pos : Pos} {fa fb fc fd : FT} {f : FE}
/-! ### constants and names -/
theorem se_c {t : T} {v : V} (h : PE X e (tC v)) (r : ∀ G, RT G t v) : SE X E e (fC t) := pe_imp h fun σ H Q ⟨ρ, h0, G, w, R, W⟩ => W.fin0 R (r G)
theorem se_int {i j} : SE X E (.Constant (.int i) j pos) (fC (.int i)) := se_c pe_int fun _ => RT.int i
theorem se_bl {i j} : SE X E (.Constant (.bool i) j pos) (fC (.bool i)) := se_c pe_bl fun _ => RT.bool i
theorem se_non {j} : SE X E (.Constant .none j pos) (fC .none) := se_c pe_non fun _ => RT.none
theorem se_str {x j} (h : PyData.strOk x = true := by decide +kernel) : SE X E (.Constant (.str x) j pos) (fC (.str x)) := se_c pe_str fun _ => RT.str h
theorem se_gint {x : Str} {i : Int} (hg : Gl X x) (hm : ∃ t, X.mg x = some (.int i t)) (hd : (x == ("__debug__" : Str)) = false := by decide) : SE X E (.Name x pos) (fC (.int i)) := by
  obtain ⟨t, hm⟩ := hm
  exact se_c (v := .int i) (pe_glob hg hm ⟨t, rfl⟩ hd) fun _ => RT.int i
theorem se_gstr {x : Str} {i : Str} (hg : Gl X x) (hm : ∃ t, X.mg x = some (.str i t)) (hk : PyData.strOk i = true := by decide +kernel) (hd : (x == ("__debug__" : Str)) = false := by decide) : SE X E (.Name x pos) (fC (.str i)) := by
  obtain ⟨t, hm⟩ := hm
  exact se_c (v := .str i) (pe_glob hg hm ⟨t, rfl⟩ hd) fun _ => RT.str hk
theorem se_v (i : Nat) (h : PE X e (tVar i)) : SE X E e (fV i) := pe_imp h fun σ H Q ⟨ρ, h0, G, w, R, W⟩ => by
  unfold fV at W
  split at W
  · rename_i d hd
    obtain ⟨_, v, hv, r⟩ := R.env i _ hd
    exact ⟨v, hv, W.fin0 R r⟩
  · rename_i v d hd
    obtain ⟨_, hv, r⟩ := R.env i _ hd
    exact ⟨v, hv, W.fin0 R r⟩
  · exact W.elim
theorem so_p (i : Nat) (h : PE X e (tVar i)) : SO X E e (fP i) := pe_imp h fun σ H Q ⟨ρ, h0, G, w, R, W⟩ => by
  unfold fP at W
  split at W
  · rename_i d hd
    obtain ⟨_, v, hv, r⟩ := R.env i _ hd
    exact ⟨v, hv, W.fin0 R fun h' H' G' w' R' g => .inl (RT.mono g r)⟩
  · rename_i ts hd
    obtain ⟨a, vs, _, hv, _, _⟩ := R.env i _ hd
    refine ⟨_, hv, W.fin0 R fun h' H' G' w' R' g => ?_⟩
    obtain ⟨a', vs', _, hv', h1, h2⟩ := R'.env i _ hd
    rw [hv] at hv'
    cases hv'
    exact .inr ⟨a, vs', ts, rfl, rfl, h1, h2⟩
  · rename_i v d hd
    obtain ⟨_, hv, r⟩ := R.env i _ hd
    exact ⟨v, hv, W.fin0 R fun h' H' G' w' R' g => .inl (RT.mono g r)⟩
  · exact W.elim
/-! ### operators -/
theorem se_op2 {op : Operator} {g : T → T → Option T} (ho : OpR X (binaryOp op) (rT2 g)) (ha : SO X E a fa) (hb : SO X E b fb) : SE X E (.BinOp a op b pos) (fOp2 g fa fb) := pe_imp (pe_op ho ha hb) fun σ H Q hw =>
  tX_bind (f := fa) rpD_m hw fun ρ x h1 v H1 G0 G1 w0 w1 R1 T1 r1 W1 => wish_bind (f := fb) rpD_m R1 W1 fun y h2 u H2 G2 w2 R2 T2 r2 W2 => by
    cases hg : g x y with
    | none => rw [hg] at W2; exact W2.elim
    | some r =>
      rw [hg] at W2
      exact ⟨G2, x, y, r, R2.sub, r1 _ _ _ _ R2 T2.gm, r2 _ _ _ _ R2 (Same.refl _), hg, fun v' H' G' n r' => W2.fin R2 n r'⟩
theorem cmp_aux {g : T → T → Option Bool} {σ : L2.St} {H : Hp} {Q : Bool → Hp → Prop} (hw : tX X.K E rpB (fCmp g fa fb) σ H Q) : tOp (rB2 g) (tX X.K E (rpO X.K) fa) (tX X.K E (rpO X.K) fb) σ H fun v H' => ∃ k, v = .bl k ∧ Q k H' :=
  tX_bind (f := fa) rpB_m hw fun ρ x h1 v H1 G0 G1 w0 w1 R1 T1 r1 W1 => wish_bind (f := fb) rpB_m R1 W1 fun y h2 u H2 G2 w2 R2 T2 r2 W2 => by
    cases hg : g x y with
    | none => rw [hg] at W2; exact W2.elim
    | some r =>
      rw [hg] at W2
      exact ⟨G2, x, y, r, R2.sub, r1 _ _ _ _ R2 T2.gm, r2 _ _ _ _ R2 (Same.refl _), hg, r, rfl, W2.fin0 R2 rfl⟩
/-- a test's wish as a value's -/
theorem be_aux {f : FB} {σ : L2.St} {H : Hp} {Q : VK} (hw : tX X.K E (rpD X.K) (fBE f) σ H Q) : tX X.K E rpB f σ H fun k H' => Q (.bl k) H' :=
  tX_bind (f := f) rpD_m hw fun ρ x h1 v H1 G0 G1 w0 w1 R1 T1 r1 W1 => by
    cases r1
    exact W1.fin0 R1 (RT.bool x)
theorem st_cmp {op : CmpOp} {g : T → T → Option Bool} (ho : OpR X (compareOp op) (rB2 g)) (ha : SO X E a fa) (hb : SO X E b fb) (hm : behindInMarks op b = false) : ST X E (.Compare a [op] [b] pos) (fCmp g fa fb) :=
  pt_imp (pt_cmpR ho ha hb hm) fun σ H Q hw => cmp_aux hw
theorem tOp_imp {g : T → T → Option Bool} {σ : L2.St} {H : Hp} {Q Q' : VK} (hq : ∀ v H', Q v H' → Q' v H') (h : tOp (rB2 g) (tX X.K E (rpO X.K) fa) (tX X.K E (rpO X.K) fb) σ H Q) : tOp (rB2 g) (tX X.K E (rpO X.K) fa) (tX X.K E (rpO X.K) fb) σ H Q' :=
  tX_imp (fun v H1 h1 => tX_imp (fun u H2 h2 => by
    obtain ⟨G, tx, ty, r, a1, a2, a3, a4, a5⟩ := h2
    exact ⟨G, tx, ty, r, a1, a2, a3, a4, hq _ _ a5⟩) h1) h
theorem se_cmp {op : CmpOp} {g : T → T → Option Bool} (ho : OpR X (compareOp op) (rB2 g)) (ha : SO X E a fa) (hb : SO X E b fb) (hm : behindInMarks op b = false) : SE X E (.Compare a [op] [b] pos) (fBE (fCmp g fa fb)) :=
  pe_imp (pe_cmpR ho ha hb hm) fun σ H Q hw => tOp_imp (fun v H' ⟨k, e, q⟩ => by rw [e]; exact q) (cmp_aux (be_aux hw))
theorem chain_aux {g g' : T → T → Option Bool} {σ : L2.St} {H : Hp} {Q : Bool → Hp → Prop} (hw : tX X.K E rpB (fChain g g' fa fb fc) σ H Q) : tChain (rB2 g) (rB2 g') (tX X.K E (rpO X.K) fa) (tX X.K E (rpO X.K) fb) (tX X.K E (rpO X.K) fc) σ H fun v H' => ∃ k, v = .bl k ∧ Q k H' :=
  tX_bind (f := fa) rpB_m hw fun ρ x h1 v H1 G0 G1 w0 w1 R1 T1 r1 W1 => wish_bind (f := fb) rpB_m R1 W1 fun y h2 u H2 G2 w2 R2 T2 r2 W2 => by
    cases hg : g x y with
    | none => rw [hg] at W2; exact W2.elim
    | some r =>
      rw [hg] at W2
      refine ⟨G2, x, y, r, R2.sub, r1 _ _ _ _ R2 T2.gm, r2 _ _ _ _ R2 (Same.refl _), hg, r, rfl, ?_⟩
      cases r with
      | false => exact iteF ⟨false, rfl, W2.fin0 R2 rfl⟩
      | true =>
        refine iteT (wish_bind (f := fc) rpB_m R2 W2 fun z h3 u3 H3 G3 w3 R3 T3 r3 W3 => ?_)
        cases hg' : g' y z with
        | none => rw [hg'] at W3; exact W3.elim
        | some r' =>
          rw [hg'] at W3
          exact ⟨G3, y, z, r', R3.sub, r2 _ _ _ _ R3 T3.gm, r3 _ _ _ _ R3 (Same.refl _), hg', r', rfl, W3.fin0 R3 rfl⟩
theorem st_chain {op op' : CmpOp} {g g' : T → T → Option Bool} (ho : OpR X (compareOp op) (rB2 g)) (ho' : OpR X (compareOp op') (rB2 g')) (ha : SO X E a fa) (hb : SO X E b fb) (hc : SO X E c fc) (hm : lastMarks [op, op'] [b, c] = false := by with_unfolding_all rfl) :
    ST X E (.Compare a [op, op'] [b, c] pos) (fChain g g' fa fb fc) := pt_imp (pt_chain ho ho' ha hb hc hm) fun σ H Q hw => chain_aux hw
theorem se_chain {op op' : CmpOp} {g g' : T → T → Option Bool} (ho : OpR X (compareOp op) (rB2 g)) (ho' : OpR X (compareOp op') (rB2 g')) (ha : SO X E a fa) (hb : SO X E b fb) (hc : SO X E c fc) (hm : lastMarks [op, op'] [b, c] = false := by with_unfolding_all rfl) :
    SE X E (.Compare a [op, op'] [b, c] pos) (fBE (fChain g g' fa fb fc)) := pe_imp (pe_chain ho ho' ha hb hc hm) fun σ H Q hw => by
  refine tX_imp (fun v H1 h1 => tX_imp (fun u H2 h2 => ?_) h1) (chain_aux (be_aux hw))
  obtain ⟨G, tx, ty, r, a1, a2, a3, a4, k, e, a5⟩ := h2
  refine ⟨G, tx, ty, r, a1, a2, a3, a4, k, e, ?_⟩
  cases k with
  | false =>
    obtain ⟨k', e', q⟩ : ∃ k', V.bl false = V.bl k' ∧ Q (.bl k') H2 := a5
    cases e'
    exact q
  | true =>
    refine tX_imp (fun v3 H3 h3 => ?_) (show tX X.K E (rpO X.K) fc _ _ _ from a5)
    obtain ⟨G, tx, ty, r, a1, a2, a3, a4, k, e, a5⟩ := h3
    exact ⟨G, tx, ty, r, a1, a2, a3, a4, by rw [e]; exact a5⟩
/-- a op1 b op2 c op3 d, as a test -/
theorem pt_chain3 {op op' op'' : CmpOp} {g g' g'' : T → T → Option Bool} (ho : OpR X (compareOp op) (rB2 g)) (ho' : OpR X (compareOp op') (rB2 g')) (ho'' : OpR X (compareOp op'') (rB2 g'')) (ha : SO X E a fa) (hb : SO X E b fb) (hc : SO X E c fc) (hd : SO X E d fd)
    (hm : lastMarks [op, op', op''] [b, c, d] = false := by with_unfolding_all rfl) : ST X E (.Compare a [op, op', op''] [b, c, d] pos) (fChain3 g g' g'' fa fb fc fd) := by
  refine ⟨fun pins s σ H Q I hw => ?_⟩
  have h1 := tX_bind (rep := rpO X.K) (f := fa) (C := fun v H1 => tX X.K E (rpO X.K) fb σ H1 fun u H2 => rB2 g v u H2 fun z H3 => ∃ k, z = .bl k ∧ (if k = true then tX X.K E (rpO X.K) fc σ H3 fun u' H4 => rB2 g' u u' H4 fun z H5 => ∃ k, z = .bl k ∧ (if k = true then tX X.K E (rpO X.K) fd σ H5 fun u'' H6 => rB2 g'' u' u'' H6 fun z H7 => ∃ k, z = .bl k ∧ Q k H7 else Q false H5) else Q false H3)) rpB_m hw
    fun ρ x h1 v H1 G0 G1 w0 w1 R1 T1 r1 W1 => wish_bind (f := fb) rpB_m R1 W1 fun y h2 u H2 G2 w2 R2 T2 r2 W2 => by
      cases hg : g x y with
      | none => rw [hg] at W2; exact W2.elim
      | some r =>
        rw [hg] at W2
        refine ⟨G2, x, y, r, R2.sub, r1 _ _ _ _ R2 T2.gm, r2 _ _ _ _ R2 (Same.refl _), hg, r, rfl, ?_⟩
        cases r with
        | false => exact iteF (W2.fin0 R2 rfl)
        | true =>
          refine iteT (wish_bind (f := fc) rpB_m R2 W2 fun z h3 u3 H3 G3 w3 R3 T3 r3 W3 => ?_)
          cases hg' : g' y z with
          | none => rw [hg'] at W3; exact W3.elim
          | some r' =>
            rw [hg'] at W3
            refine ⟨G3, y, z, r', R3.sub, r2 _ _ _ _ R3 T3.gm, r3 _ _ _ _ R3 (Same.refl _), hg', r', rfl, ?_⟩
            cases r' with
            | false => exact iteF (W3.fin0 R3 rfl)
            | true =>
              refine iteT (wish_bind (f := fd) rpB_m R3 W3 fun t h4 u4 H4 G4 w4 R4 T4 r4 W4 => ?_)
              cases hg'' : g'' z t with
              | none => rw [hg''] at W4; exact W4.elim
              | some r'' =>
                rw [hg''] at W4
                exact ⟨G4, z, t, r'', R4.sub, r3 _ _ _ _ R4 T4.gm, r4 _ _ _ _ R4 (Same.refl _), hg'', r'', rfl, W4.fin0 R4 rfl⟩
  refine isTrue_chain (thn (ha.run pins s σ H _ I h1) fun v s1 ⟨x, H1, I1, r1, q1⟩ => test_link (thn (hb.run pins s1 σ H1 _ I1 q1) fun u s2 ⟨y, H2, I2, r2, q2⟩ =>
    thn (ho pins s2 σ H2 x y v u _ I2 r1 r2 q2) fun d s3 ⟨z, H3, I3, r3, k, e, q3⟩ => ?_)) hm
  subst e
  cases r3
  refine wpAny_truthy_bool ?_
  cases k with
  | false => exact ite_ff ⟨H3, I3, q3⟩
  | true =>
    refine ite_tt (test_link (thn (hc.run pins s3 σ H3 _ I3 q3) fun w' s4 ⟨z', H4, I4, r4, q4⟩ => thn (ho' pins s4 σ H4 y z' u w' _ I4 r2 r4 q4) fun d' s5 ⟨z2, H5, I5, r5, k2, e2, q5⟩ => ?_))
    subst e2
    cases r5
    refine wpAny_truthy_bool ?_
    cases k2 with
    | false => exact ite_ff ⟨H5, I5, q5⟩
    | true =>
      refine ite_tt (test_last (thn (hd.run pins s5 σ H5 _ I5 q5) fun w6 s6 ⟨z6, H6, I6, r6, q6⟩ => thn (ho'' pins s6 σ H6 z' z6 w' w6 _ I6 r4 r6 q6) fun d7 s7 ⟨z7, H7, I7, r7, k7, e7, q7⟩ => ?_))
      subst e7
      cases r7
      exact wpAny_truthy_bool ⟨H7, I7, q7⟩
/-! ### and, or, not, if -/
abbrev SW (X : Cx) (E : XK) (e : Expr) (f : FB) : Prop := PW X e (tX X.K E rpB f)
theorem pw_imp {e : Expr} {t t' : TT} (h : PW X e t) (i : ∀ σ H Q, t' σ H Q → t σ H Q) : PW X e t' := ⟨fun whole pins s σ H Q I hw => h.run whole pins s σ H Q I (i _ _ _ hw)⟩
theorem st_val (h : SE X E e f) (he : ∀ whole, isTrue e X.env whole = (do let v ← whole; standAt e.pos; holding [v] (truthy v)) := by intro _; rfl) : ST X E e (fEB f) := pt_imp (pt_val h he) fun σ H Q hw =>
  tX_bind (f := f) rpB_m hw fun ρ x h1 v H1 G0 G1 w0 w1 R1 T1 r1 W1 => by
    cases x with
    | obj n => exact W1.elim
    | scr n => exact W1.elim
    | dat t =>
      cases t with
      | bool k =>
        obtain ⟨r1, _⟩ := r1
        cases r1
        exact ⟨k, rfl, W1.fin0 R1 rfl⟩
      | _ => exact W1.elim
variable {ba bb bc : FB} {rest : List Expr}
theorem sw_and1 (ha : ST X E a ba) : SW X E (.BoolOp .And [a] pos) ba := pw_and1 ha
theorem sw_or1 (ha : ST X E a ba) : SW X E (.BoolOp .Or [a] pos) ba := pw_or1 ha
theorem sw_and (ha : ST X E a ba) (hb : SW X E (.BoolOp .And (b :: rest) pos) bb) : SW X E (.BoolOp .And (a :: b :: rest) pos) (fAnd ba bb) := pw_imp (pw_and ha hb) fun σ H Q hw =>
  tX_bind (f := ba) rpB_m hw fun ρ x h1 v H1 G0 G1 w0 w1 R1 T1 r1 W1 => by
    cases r1
    cases x with
    | true => exact iteT ⟨ρ, h1, G1, w1, R1, W1⟩
    | false => exact iteF (W1.fin0 R1 rfl)
theorem sw_or (ha : ST X E a ba) (hb : SW X E (.BoolOp .Or (b :: rest) pos) bb) : SW X E (.BoolOp .Or (a :: b :: rest) pos) (fOr ba bb) := pw_imp (pw_or ha hb) fun σ H Q hw =>
  tX_bind (f := ba) rpB_m hw fun ρ x h1 v H1 G0 G1 w0 w1 R1 T1 r1 W1 => by
    cases r1
    cases x with
    | true => exact iteT (W1.fin0 R1 rfl)
    | false => exact iteF ⟨ρ, h1, G1, w1, R1, W1⟩
theorem st_w (h : SW X E e ba) : ST X E e ba := h.pt
theorem st_not (ha : ST X E a ba) : ST X E (.UnaryOp .Not a pos) (fNot ba) := pt_imp (pt_not ha) fun σ H Q hw =>
  tX_bind (f := ba) rpB_m hw fun ρ x h1 v H1 G0 G1 w0 w1 R1 T1 r1 W1 => by
    cases r1
    exact W1.fin0 R1 rfl
/-- and, or, not as values: of truth values -/
theorem se_one {op} (ha : SE X E a (fBE ba)) : SE X E (.BoolOp op [a] pos) (fBE ba) := pe_one ha
theorem be_bind {f : FB} {k : Bool → FB} {σ : L2.St} {H : Hp} {Q : VK} (hw : tX X.K E (rpD X.K) (fBE fun ρ h => (f ρ h).bind fun b h => k b ρ h) σ H Q) : tX X.K E (rpD X.K) (fBE f) σ H fun v H1 => ∃ c, v = .bl c ∧ tX X.K E (rpD X.K) (fBE (k c)) σ H1 Q := by
  obtain ⟨ρ, h0, G, w, R, W⟩ := hw
  refine ⟨ρ, h0, G, w, R, ?_⟩
  unfold fBE at W ⊢
  dsimp only at W ⊢
  cases hf : f ρ h0 with
  | bad => rw [hf] at W; exact W.elim
  | exc x h' => rw [hf] at W; exact W
  | ok x h' =>
    rw [hf] at W
    intro v H1 G1 w1 R1 T1 r1
    obtain ⟨r1, _⟩ := r1
    cases r1
    exact ⟨x, rfl, ρ, h', G1, w1, R1, W.mono rpD_m T1⟩
theorem se_and (ha : SE X E a (fBE ba)) (hb : SE X E (.BoolOp .And (b :: rest) pos) (fBE bb)) : SE X E (.BoolOp .And (a :: b :: rest) pos) (fBE (fAnd ba bb)) := pe_imp (pe_and ha hb) fun σ H Q hw => by
  refine tX_imp ?_ (be_bind (k := fun b => match b with | true => bb | false => fun _ h => .ok false h) (show tX X.K E (rpD X.K) (fBE fun ρ h => (ba ρ h).bind fun b h => (match b with | true => bb | false => fun _ h => .ok false h) ρ h) σ H Q from by
    have e : (fun ρ h => (ba ρ h).bind fun b h => (match b with | true => bb | false => fun _ h => Res.ok false h) ρ h) = fAnd ba bb := by
      funext ρ h
      unfold fAnd
      cases ba ρ h with
      | ok b h => cases b <;> rfl
      | _ => rfl
    rw [e]
    exact hw))
  rintro v H1 ⟨c, rfl, h⟩
  cases c with
  | true => exact ⟨true, rfl, iteT h⟩
  | false =>
    refine ⟨false, rfl, iteF ?_⟩
    obtain ⟨ρ, h0, G, w, R, W⟩ := h
    exact W.fin0 R (RT.bool false)
theorem se_or (ha : SE X E a (fBE ba)) (hb : SE X E (.BoolOp .Or (b :: rest) pos) (fBE bb)) : SE X E (.BoolOp .Or (a :: b :: rest) pos) (fBE (fOr ba bb)) := pe_imp (pe_or ha hb) fun σ H Q hw => by
  refine tX_imp ?_ (be_bind (k := fun b => match b with | true => (fun _ h => Res.ok true h : FB) | false => bb) (show tX X.K E (rpD X.K) (fBE fun ρ h => (ba ρ h).bind fun b h => (match b with | true => (fun _ h => Res.ok true h : FB) | false => bb) ρ h) σ H Q from by
    have e : (fun ρ h => (ba ρ h).bind fun b h => (match b with | true => (fun _ h => Res.ok true h : FB) | false => bb) ρ h) = fOr ba bb := by
      funext ρ h
      unfold fOr
      cases ba ρ h with
      | ok b h => cases b <;> rfl
      | _ => rfl
    rw [e]
    exact hw))
  rintro v H1 ⟨c, rfl, h⟩
  cases c with
  | false => exact ⟨false, rfl, iteF h⟩
  | true =>
    refine ⟨true, rfl, iteT ?_⟩
    obtain ⟨ρ, h0, G, w, R, W⟩ := h
    exact W.fin0 R (RT.bool true)
theorem se_not (ha : SE X E a (fBE ba)) : SE X E (.UnaryOp .Not a pos) (fBE (fNot ba)) := pe_imp (pe_not ha) fun σ H Q hw => by
  refine tX_imp ?_ (be_bind (k := fun b _ h => .ok (!b) h) hw)
  rintro v H1 ⟨c, rfl, h⟩
  refine ⟨c, rfl, ?_⟩
  obtain ⟨ρ, h0, G, w, R, W⟩ := h
  exact W.fin0 R (RT.bool _)
/-- any value as a truth value -/
theorem se_b (h : SE X E e f) : SE X E e (fBE (fEB f)) := pe_imp h fun σ H Q hw => by
  obtain ⟨ρ, h0, G, w, R, W⟩ := hw
  refine ⟨ρ, h0, G, w, R, ?_⟩
  unfold fBE fEB at W
  cases hf : f ρ h0 with
  | bad => rw [hf] at W; exact W
  | exc x h' => rw [hf] at W; exact W
  | ok x h' =>
    rw [hf] at W
    cases x with
    | obj n => exact W.elim
    | scr n => exact W.elim
    | dat t => cases t <;> first | exact W | exact W.elim
theorem if_aux {α : Type} {rep : Rp α V} {ga gb : En → Hs → Res α} {σ : L2.St} {H : Hp} {Q : VK} (m : RpM rep) (hw : tX X.K E rep (fIf bc ga gb) σ H Q) : tIf (tX X.K E rpB bc) (tX X.K E rep ga) (tX X.K E rep gb) σ H Q :=
  tX_bind (f := bc) m hw fun ρ x h1 v H1 G0 G1 w0 w1 R1 T1 r1 W1 => by
    cases r1
    cases x with
    | true => exact iteT ⟨ρ, h1, G1, w1, R1, W1⟩
    | false => exact iteF ⟨ρ, h1, G1, w1, R1, W1⟩
theorem se_if {ga gb : FE} (hc : ST X E c bc) (ha : SE X E a ga) (hb : SE X E b gb) : SE X E (.IfExp c a b pos) (fIf bc ga gb) := pe_imp (pe_ifExp hc ha hb) fun σ H Q hw => if_aux rpD_m hw
theorem so_if {ga gb : FT} (hc : ST X E c bc) (ha : SO X E a ga) (hb : SO X E b gb) : SO X E (.IfExp c a b pos) (fIf bc ga gb) := pe_imp (pe_ifExp hc ha hb) fun σ H Q hw => if_aux rpO_m hw
/-- a list of one's own: the start is looked back at -/
theorem sr_if {ga gb : FR} (hc : ST X E c bc) (ha : SR X E a ga) (hb : SR X E b gb) : SR X E (.IfExp c a b pos) (fIf bc ga gb) := pe_imp (pe_ifExp hc ha hb) fun σ H Q hw => if_aux rpR_m hw
end
end Pf
set_option Elab.async false
set_option linter.all false
set_option maxRecDepth 100000
set_option maxHeartbeats 1000000
namespace Pf
open PySem PySem.Spec PyProof.Rows L2
/-! ### argument lists -/
def rpOs (K : Fr) : Rp (List T) (List V) := fun ρ σ _ _ ts vs _ G _ => ∀ h' H' G' w', Rel K ρ h' σ H' G' w' → Same G G' → Paired (fun v t => PkR H' G' v t) vs ts
theorem rpOs_m {K : Fr} : RpM (rpOs K) := fun _ _ _ _ _ _ _ _ _ _ _ _ _ _ h => h
abbrev SOs (X : Cx) (E : XK) (es : List Expr) (f : FL) : Prop := PA X es (tX X.K E (rpOs X.K) f)
def fANil : FA := fun _ h => .ok [] h
def fACons (f : FE) (g : FA) : FA := fun ρ h => (f ρ h).bind fun d h => (g ρ h).bind fun ds h => .ok (d :: ds) h
def fLNil : FL := fun _ h => .ok [] h
def fLCons (f : FT) (g : FL) : FL := fun ρ h => (f ρ h).bind fun d h => (g ρ h).bind fun ds h => .ok (d :: ds) h
def dats : List D → Option (List T)
  | [] => some []
  | .dat t :: ds => (dats ds).map (t :: ·)
  | _ :: _ => none
def fTup (f : FA) : FE := fun ρ h => (f ρ h).bind fun ds h => match dats ds with
  | some ts => if ts.length ≤ 1000 then .ok (.dat (.tuple ts)) h else .bad
  | none => .bad
def fLst (f : FA) : FR := fun ρ h => (f ρ h).bind fun ds h => match dats ds with
  | some ts => if ts.length ≤ 1000 then .ok (.own ts) h else .bad
  | none => .bad
def ixT : T → T → Option T
  | .list ts, .int i => atI ts i
  | .tuple ts, .int i => atI ts i
  | .str z, .int i => if z.length ≤ sizeLine then (atI z.cps.toList i).map fun c => .str ⟨#[c]⟩ else none
  | _, _ => none
def cutL {α : Type} (xs : List α) (lo hi : Option Int) : List α := (xs.drop (HT.sIx xs.length 0 lo)).take (HT.sIx xs.length xs.length hi - HT.sIx xs.length 0 lo)
abbrev FP := En → Hs → Res (Option Int)
def fPN : FP := fun _ h => .ok none h
def fPS (f : FT) : FP := fun ρ h => (f ρ h).bind fun t h => match t with
  | .int i => .ok (some i) h
  | _ => .bad
def slT : T → Option Int → Option Int → Option T
  | .list ts, lo, hi => some (.list (cutL ts lo hi))
  | .tuple ts, lo, hi => some (.tuple (cutL ts lo hi))
  | .str z, lo, hi => if z.length ≤ sizeLine then some (.str (cutS z lo hi)) else none
  | _, _, _ => none
def fSl (fa : FT) (lo hi : FP) : FE := fun ρ h => (fa ρ h).bind fun x h => (lo ρ h).bind fun l h => (hi ρ h).bind fun u h => lift h ((slT x l u).map D.dat)
def fRev (fa : FT) : FE := fun ρ h => (fa ρ h).bind fun x h => match x with
  | .list ts => .ok (.dat (.list ts.reverse)) h
  | _ => .bad
def fCB (g : List T → Option T) (f : FL) : FE := fun ρ h => (f ρ h).bind fun ts h => lift h ((g ts).map D.dat)
def rTs (g : List T → Option T) : List V → Hp → VK → Prop := fun xs H Q => ∃ G ts r, Same G H ∧ LenOk0 H ∧ Paired (fun v t => PkR H G v t) xs ts ∧ g ts = some r ∧ ∀ v H' G', New H G H' G' → RT G' r v → Q v H'
where LenOk0 (H : Hp) : Prop := True
section
variable {X : Cx} {E : XK} {e a b c d : Expr} {es : List Expr} {pos p p2 p3 : Pos} {fa fb fc fd : FT} {f : FE} {g : FA} {l : FL}
theorem sa_nil : SA X E [] fANil := pa_imp pa_nil fun σ H Q ⟨ρ, h0, G, w, R, W⟩ => W.fin0 R (.nil : RDs X.K G w [] [])
theorem sa_cons (ha : SE X E e f) (hb : SA X E es g) (hs : starEach (e :: es) X.env = (false, eval e X.env) :: starEach es X.env := by rfl) : SA X E (e :: es) (fACons f g) := pa_imp (pa_cons ha hb hs) fun σ H Q hw =>
  tX_bind (f := f) rpA_m hw fun ρ x h1 v H1 G0 G1 w0 w1 R1 T1 r1 W1 => wish_bind (f := g) rpA_m R1 W1 fun y h2 u H2 G2 w2 R2 T2 r2 W2 => W2.fin0 R2 (.cons (RD.mono T2 r1) r2)
theorem sl_nil : SOs X E [] fLNil := pa_imp pa_nil fun σ H Q ⟨ρ, h0, G, w, R, W⟩ => W.fin0 R fun _ _ _ _ _ _ => .nil
theorem sl_cons (ha : SO X E e fa) (hb : SOs X E es l) (hs : starEach (e :: es) X.env = (false, eval e X.env) :: starEach es X.env := by rfl) : SOs X E (e :: es) (fLCons fa l) := pa_imp (pa_cons ha hb hs) fun σ H Q hw =>
  tX_bind (f := fa) rpOs_m hw fun ρ x h1 v H1 G0 G1 w0 w1 R1 T1 r1 W1 => wish_bind (f := l) rpOs_m R1 W1 fun y h2 u H2 G2 w2 R2 T2 r2 W2 => W2.fin0 R2 fun h' H' G' w' R' g => .cons (r1 h' H' G' w' R' (T2.gm.trans g)) (r2 h' H' G' w' R' g)
theorem dats_ok {K : Fr} {G : Hp} {w : Wn} : ∀ {ds : List D} {vs : List V} {ts : List T}, RDs K G w ds vs → dats ds = some ts → RTs G ts vs
  | _, _, ts, .nil, h => by
    cases h
    exact .nil
  | d :: ds, v :: vs, ts, .cons r rs, h => by
    cases d with
    | obj n => cases h
    | scr n => cases h
    | dat t =>
      obtain ⟨us, h1, h2⟩ := Option.map_eq_some_iff.mp (show (dats ds).map (t :: ·) = some ts from h)
      subst h2
      exact .cons r (dats_ok rs h1)
theorem le_line {n : Nat} (h : n ≤ 1000) : n ≤ sizeLine := Nat.le_trans h (by decide)
theorem se_tup {x1} (h : SA X E es g) : SE X E (.Tuple es x1 pos) (fTup g) := pe_imp (pe_tup h) fun σ H Q hw =>
  tX_bind (f := g) rpD_m hw fun ρ ds h1 vs H1 G0 G1 w0 w1 R1 T1 r1 W1 => by
    cases hd : dats ds with
    | none => rw [hd] at W1; exact W1.elim
    | some ts =>
      rw [hd] at W1
      have r2 := dats_ok r1 hd
      by_cases hl : ts.length ≤ 1000
      · dsimp only at W1
        rw [if_pos hl] at W1
        refine ⟨by rw [r2.length]; exact le_line hl, fun p hp => W1.fin R1 (New.one R1.sub _ hp) ?_⟩
        exact RT.mkTup upd_same (r2.mono (same_upd (R1.sub.free hp)))
      · dsimp only at W1
        rw [if_neg hl] at W1
        exact W1.elim
/-- a new list of one's own, at p -/
theorem ownR_new {K : Fr} {ρ : En} {h : Hs} {σ : L2.St} {H G : Hp} {w : Wn} {ts : List T} {vs : List V} {p : Addr} (R : Rel K ρ h σ H G w) (r : RTs G ts vs) (hp : H p = none) : OwnR H w ts (.ref p) (upd H p (.lst vs)) G w :=
  ⟨p, vs, rfl, upd_same, r, R.sub.free hp, fun q z => (by
    obtain ⟨o, ho⟩ := R.there z
    rw [hp] at ho
    cases ho), .inr hp⟩
theorem sr_lst (h : SA X E es g) : SR X E (.List es pos) (fLst g) := pe_imp (pe_lst h) fun σ H Q hw =>
  tX_bind (f := g) rpR_m hw fun ρ ds h1 vs H1 G0 G1 w0 w1 R1 T1 r1 W1 => by
    cases hd : dats ds with
    | none => rw [hd] at W1; exact W1.elim
    | some ts =>
      rw [hd] at W1
      have r2 := dats_ok r1 hd
      by_cases hl : ts.length ≤ 1000
      · dsimp only at W1
        rw [if_pos hl] at W1
        exact ⟨by rw [r2.length]; exact le_line hl, fun p hp => W1.fin R1 (New.mute R1.sub _ hp) (ownR_new R1 r2 hp)⟩
      · dsimp only at W1
        rw [if_neg hl] at W1
        exact W1.elim
/-! ### subscripts -/
theorem strOk_of {x y : Str} (h : PyData.strOk x = true) (s : ∀ c ∈ y.cps.toList, c ∈ x.cps.toList) : PyData.strOk y = true := by
  unfold PyData.strOk at h ⊢
  rw [← Array.all_toList, List.all_eq_true] at h ⊢
  exact fun c hc => h c (s c hc)
theorem RTs.at {G : Hp} {ts : List T} {vs : List V} {i : Int} {t : T} (h : RTs G ts vs) (e : atI ts i = some t) : ∃ v, atI vs i = some v ∧ RT G t v := by
  unfold atI at e ⊢
  rw [h.length]
  cases hx : ixN ts.length i with
  | none => rw [hx] at e; cases e
  | some j =>
    rw [hx] at e
    exact h.get e
theorem ixr_ok : IxR X (rT2 ixT) := by
  intro value slice pins s σ H x y v u Q I rx ry ⟨G, tx, ty, r, sG, px, py, hg, k⟩ hs
  unfold ixT at hg
  split at hg
  · obtain ⟨a, vs, rfl, h1, h2⟩ := px.list sG
    obtain ⟨z, h3, h4⟩ := h2.at hg
    exact ix_list value slice pins s σ H _ _ v u Q I rx ry ⟨a, vs, _, z, rfl, py.int, SqL.of h1, h3, k _ _ _ (New.refl sG) h4⟩ hs
  · obtain ⟨a, vs, rfl, h1, h2⟩ := px.tuple sG
    obtain ⟨z, h3, h4⟩ := h2.at hg
    exact ix_tup value slice pins s σ H _ _ v u Q I rx ry ⟨a, vs, _, z, rfl, py.int, SqT.of h1, h3, k _ _ _ (New.refl sG) h4⟩ hs
  · split at hg
    · rename_i hz
      obtain ⟨c, h3, rfl⟩ := Option.map_eq_some_iff.mp hg
      refine ix_str value slice pins s σ H _ _ v u Q I rx ry ⟨_, _, c, px.str.1, py.int, hz, h3, k _ _ _ (New.refl sG) (RT.str ?_)⟩ hs
      refine strOk_of px.str.2 fun c' hc' => ?_
      have e : c' = c := by simpa using hc'
      rw [e]
      unfold atI at h3
      obtain ⟨j, _, hj⟩ := Option.bind_eq_some_iff.mp h3
      exact List.mem_of_getElem? hj
    · cases hg
  · cases hg
theorem se_ix (ha : SO X E a fa) (hb : SO X E b fb) (hs : PlainIx b) : SE X E (.Subscript a b pos) (fOp2 ixT fa fb) := pe_imp (pe_ix ixr_ok ha hb hs) fun σ H Q hw =>
  tX_bind (f := fa) rpD_m hw fun ρ x h1 v H1 G0 G1 w0 w1 R1 T1 r1 W1 => wish_bind (f := fb) rpD_m R1 W1 fun y h2 u H2 G2 w2 R2 T2 r2 W2 => by
    cases hg : ixT x y with
    | none => rw [hg] at W2; exact W2.elim
    | some r =>
      rw [hg] at W2
      exact ⟨G2, x, y, r, R2.sub, r1 _ _ _ _ R2 T2.gm, r2 _ _ _ _ R2 (Same.refl _), hg, fun v' H' G' n r' => W2.fin R2 n r'⟩
/-! ### slices -/
def rpP : Rp (Option Int) (Option Int) := fun _ _ _ _ a b _ _ _ => a = b
theorem rpP_m : RpM rpP := fun _ _ _ _ _ _ _ _ _ _ _ _ _ _ h => h
abbrev SPo (X : Cx) (E : XK) (o : Option Expr) (f : FP) : Prop := PO X o (tX X.K E rpP f)
theorem po_imp {o : Option Expr} {t t' : TO} (h : PO X o t) (i : ∀ σ H Q, t' σ H Q → t σ H Q) : PO X o t' := ⟨fun pins s σ H Q I hw => h.run pins s σ H Q I (i _ _ _ hw)⟩
theorem sp_none : SPo X E none fPN := po_imp po_none fun σ H Q ⟨ρ, h0, G, w, R, W⟩ => W.fin0 R rfl
theorem sp_some (h : SO X E e fa) : SPo X E (some e) (fPS fa) := po_imp (po_some h) fun σ H Q hw =>
  tX_bind (f := fa) rpP_m hw fun ρ x h1 v H1 G0 G1 w0 w1 R1 T1 r1 W1 => by
    cases x with
    | int i => exact ⟨i, (r1 _ _ _ _ R1 (Same.refl _)).int, W1.fin0 R1 rfl⟩
    | _ => exact W1.elim
theorem RTs.cut {G : Hp} {ts : List T} {vs : List V} (lo hi : Option Int) (h : RTs G ts vs) : RTs G (cutL ts lo hi) (cutV vs lo hi) := by
  unfold cutL cutV
  rw [h.length]
  exact (h.drop _).take _
theorem cutS_ok {z : Str} {lo hi : Option Int} (h : PyData.strOk z = true) : PyData.strOk (cutS z lo hi) = true := strOk_of h fun c hc => by
  unfold cutS at hc
  first | exact List.mem_of_mem_drop (List.mem_of_mem_take (by simpa using hc)) | (simp at hc; exact List.mem_of_mem_drop (List.mem_of_mem_take hc))
def rSlD : V → Option Int → Option Int → Hp → VK → Prop := fun x lo hi H Q => ∃ G tx r, Same G H ∧ PkR H G x tx ∧ slT tx lo hi = some r ∧ ∀ v H' G', New H G H' G' → RT G' r v → Q v H'
theorem slr_ok : SlR X rSlD := by
  intro pins s σ H x v vl vu lo hi sl Q I rx hs pl pu ⟨G, tx, r, sG, px, hg, k⟩
  unfold slT at hg
  split at hg
  · cases hg
    obtain ⟨a, vs, rfl, h1, h2⟩ := px.list sG
    exact sl_list pins s σ H _ v vl vu lo hi sl Q I rx hs pl pu ⟨a, vs, rfl, SqL.of h1, fun p hp => k _ _ _ (New.one sG _ hp) (RT.mkList upd_same ((h2.cut lo hi).mono (same_upd (sG.free hp))))⟩
  · cases hg
    obtain ⟨a, vs, rfl, h1, h2⟩ := px.tuple sG
    refine sl_tupA pins s σ H _ v vl vu lo hi sl Q I rx hs pl pu ⟨a, vs, rfl, SqT.of h1, fun hw => ?_, fun _ p hp => k _ _ _ (New.one sG _ hp) (RT.mkTup upd_same ((h2.cut lo hi).mono (same_upd (sG.free hp))))⟩
    refine k _ _ _ (New.refl sG) ?_
    rename_i ts
    have e : cutL ts lo hi = ts := by
      rw [h2.length] at hw
      unfold cutL
      rw [hw.1, hw.2]
      simp
    rw [e]
    rcases px with px | ⟨_, _, _, e3, _⟩
    · exact px
    · cases e3
  · split at hg
    · cases hg
      exact sl_str pins s σ H _ v vl vu lo hi sl Q I rx hs pl pu ⟨_, px.str.1, by assumption, k _ _ _ (New.refl sG) (RT.str (cutS_ok px.str.2))⟩
    · cases hg
  · cases hg
theorem se_sl {lo hi : Option Expr} {fl fh : FP} (ha : SO X E a fa) (hl : SPo X E lo fl) (hh : SPo X E hi fh) : SE X E (.Subscript a (.Slice lo hi none p2) pos) (fSl fa fl fh) := pe_imp (pe_slice slr_ok ha hl hh) fun σ H Q hw =>
  tX_bind (f := fa) rpD_m hw fun ρ x h1 v H1 G0 G1 w0 w1 R1 T1 r1 W1 => wish_bind (f := fl) rpD_m R1 W1 fun y h2 u H2 G2 w2 R2 T2 r2 W2 => wish_bind (f := fh) rpD_m R2 W2 fun z h3 u3 H3 G3 w3 R3 T3 r3 W3 => by
    cases r2
    cases r3
    cases hg : slT x y z with
    | none => rw [hg] at W3; exact W3.elim
    | some r =>
      rw [hg] at W3
      exact ⟨G3, x, r, R3.sub, r1 _ _ _ _ R3 (T2.gm.trans T3.gm), hg, fun v' H' G' n r' => W3.fin R3 n r'⟩
theorem se_rev {k p1} (ha : SO X E a fa) : SE X E (.Subscript a (.Slice none none (some (.UnaryOp .USub (.Constant (.int 1) k p1) p2)) p3) pos) (fRev fa) := pe_imp (pe_revL ha) fun σ H Q hw =>
  tX_bind (f := fa) rpD_m hw fun ρ x h1 v H1 G0 G1 w0 w1 R1 T1 r1 W1 => by
    cases x with
    | list ts =>
      obtain ⟨a, vs, rfl, h1, h2⟩ := (r1 _ _ _ _ R1 (Same.refl _)).list R1.sub
      exact ⟨a, vs, rfl, SqL.of h1, fun p hp => W1.fin R1 (New.one R1.sub _ hp) (RT.mkList upd_same (h2.rev.mono (same_upd (R1.sub.free hp))))⟩
    | _ => exact W1.elim
/-! ### built-in functions -/
theorem cb_aux {gg : List T → Option T} {σ : L2.St} {H : Hp} {Q : VK} (hw : tX X.K E (rpD X.K) (fCB gg l) σ H Q) : tX X.K E (rpOs X.K) l σ H fun vs H1 => rTs gg vs H1 Q :=
  tX_bind (f := l) rpD_m hw fun ρ ts h1 vs H1 G0 G1 w0 w1 R1 T1 r1 W1 => by
    cases hg : gg ts with
    | none => rw [hg] at W1; exact W1.elim
    | some r =>
      rw [hg] at W1
      exact ⟨G1, ts, r, R1.sub, trivial, r1 _ _ _ _ R1 (Same.refl _), hg, fun v' H' G' n r' => W1.fin R1 n r'⟩
theorem se_callB {id : String} {x : Str} {gg : List T → Option T} (hc : CallR X (.builtin id) (rTs gg)) (hg : Gl X x) (hm : X.mg x = none) (hv : bootBuiltins x = some (.builtin id)) (ha : SOs X E (e :: es) l) (hn : x ≠ "__name__" := by decide) (hdb : (x == ("__debug__" : Str)) = false := by decide)
    (he : starEach (e :: es) X.env = (false, eval e X.env) :: starEach es X.env := by rfl) (hpl : (backTo pos (starEach es X.env)).any (·.1) = false := by rfl) : SE X E (.Call (.Name x p) (e :: es) [] pos) (fCB gg l) := pe_imp (pe_callB hc hg hm hv ha hn hdb he hpl) fun σ H Q hw => cb_aux hw
theorem se_callTy {id : String} {x : Str} {gg : List T → Option T} (hc : CallR X (.type id) (rTs gg)) (hg : Gl X x) (hm : X.mg x = none) (hv : bootBuiltins x = some (.type id)) (ha : SOs X E (e :: es) l) (hn : x ≠ "__name__" := by decide) (hdb : (x == ("__debug__" : Str)) = false := by decide)
    (he : starEach (e :: es) X.env = (false, eval e X.env) :: starEach es X.env := by rfl) (hpl : (backTo pos (starEach es X.env)).any (·.1) = false := by rfl) : SE X E (.Call (.Name x p) (e :: es) [] pos) (fCB gg l) := pe_imp (pe_callTy hc hg hm hv ha hn hdb he hpl) fun σ H Q hw => cb_aux hw
theorem pr1 {α β : Type} {P : α → β → Prop} {xs : List α} {b : β} (h : Paired P xs [b]) : ∃ a, xs = [a] ∧ P a b := by
  cases h with
  | cons r t =>
    cases t
    exact ⟨_, rfl, r⟩
theorem pr2 {α β : Type} {P : α → β → Prop} {xs : List α} {b c : β} (h : Paired P xs [b, c]) : ∃ a a', xs = [a, a'] ∧ P a b ∧ P a' c := by
  cases h with
  | cons r t =>
    obtain ⟨a', rfl, r'⟩ := pr1 t
    exact ⟨_, _, rfl, r, r'⟩
def lenT : List T → Option T
  | [.list ts] => some (.int (ts.length : Nat))
  | [.tuple ts] => some (.int (ts.length : Nat))
  | [.str z] => if z.length ≤ sizeLine then some (.int (z.length : Nat)) else none
  | _ => none
theorem cr_len : CallR X (.builtin "len") (rTs lenT) := by
  intro pins s σ H xs us Q I r ⟨G, ts, r', sG, _, hp, hg, k⟩
  unfold lenT at hg
  split at hg
  · cases hg
    obtain ⟨v, rfl, px⟩ := pr1 hp
    obtain ⟨a, vs, rfl, h1, h2⟩ := px.list sG
    exact call_len pins s σ H _ us Q I r ⟨_, _, rfl, Or.inl ⟨vs, SqL.of h1, rfl⟩, by rw [h2.length]; exact k _ _ _ (New.refl sG) (RT.int _)⟩
  · cases hg
    obtain ⟨v, rfl, px⟩ := pr1 hp
    obtain ⟨a, vs, rfl, h1, h2⟩ := px.tuple sG
    exact call_len pins s σ H _ us Q I r ⟨_, _, rfl, Or.inr ⟨vs, SqT.of h1, rfl⟩, by rw [h2.length]; exact k _ _ _ (New.refl sG) (RT.int _)⟩
  · split at hg
    · cases hg
      obtain ⟨v, rfl, px⟩ := pr1 hp
      obtain ⟨rfl, hk⟩ := px.str
      exact call_len pins s σ H _ us Q I r ⟨_, _, rfl, ⟨by assumption, rfl⟩, k _ _ _ (New.refl sG) (RT.int _)⟩
    · cases hg
  · cases hg
def minT : List T → Option T
  | [.int i, .int j] => some (.int (if j < i then j else i))
  | _ => none
def maxT : List T → Option T
  | [.int i, .int j] => some (.int (if j > i then j else i))
  | _ => none
theorem cr_min (hc : X.calm = true) : CallR X (.builtin "min") (rTs minT) := by
  intro pins s σ H xs us Q I r ⟨G, ts, r', sG, _, hp, hg, k⟩
  unfold minT at hg
  split at hg
  · cases hg
    obtain ⟨v, v', rfl, px, py⟩ := pr2 hp
    rw [px.int, py.int] at r
    exact call_min2 hc pins s σ H _ us Q I r ⟨_, _, rfl, k _ _ _ (New.refl sG) (RT.int _)⟩
  · cases hg
theorem cr_max (hc : X.calm = true) : CallR X (.builtin "max") (rTs maxT) := by
  intro pins s σ H xs us Q I r ⟨G, ts, r', sG, _, hp, hg, k⟩
  unfold maxT at hg
  split at hg
  · cases hg
    obtain ⟨v, v', rfl, px, py⟩ := pr2 hp
    rw [px.int, py.int] at r
    exact call_max2 hc pins s σ H _ us Q I r ⟨_, _, rfl, k _ _ _ (New.refl sG) (RT.int _)⟩
  · cases hg
def intT : List T → Option T
  | [.int i] => some (.int i)
  | [.bool b] => some (.int (if b then 1 else 0))
  | [.str z] => if z.length ≤ 640 then (PySem.intText? z).map PyData.int else none
  | _ => none
theorem cr_int : CallR X (.type "int") (rTs intT) := by
  intro pins s σ H xs us Q I r ⟨G, ts, r', sG, _, hp, hg, k⟩
  unfold intT at hg
  split at hg
  · cases hg
    obtain ⟨v, rfl, px⟩ := pr1 hp
    rw [px.int] at r
    exact call_int1 pins s σ H _ us Q I r (.inl ⟨_, rfl, k _ _ _ (New.refl sG) (RT.int _)⟩)
  · cases hg
    obtain ⟨v, rfl, px⟩ := pr1 hp
    rw [px.bool] at r
    exact call_int1 pins s σ H _ us Q I r (.inr ⟨_, rfl, k _ _ _ (New.refl sG) (RT.int _)⟩)
  · split at hg
    · obtain ⟨n, hn, rfl⟩ := Option.map_eq_some_iff.mp hg
      obtain ⟨v, rfl, px⟩ := pr1 hp
      rw [px.str.1] at r
      exact call_int_str pins s σ H _ us Q I r ⟨_, n, rfl, hn, by assumption, k _ _ _ (New.refl sG) (RT.int _)⟩
    · cases hg
  · cases hg
def tupleT : List T → Option T
  | [.list ts] => some (.tuple ts)
  | [.tuple ts] => some (.tuple ts)
  | _ => none
theorem cr_tuple : CallR X (.type "tuple") (rTs tupleT) := by
  intro pins s σ H xs us Q I r ⟨G, ts, r', sG, _, hp, hg, k⟩
  unfold tupleT at hg
  split at hg
  · cases hg
    obtain ⟨v, rfl, px⟩ := pr1 hp
    obtain ⟨a, vs, rfl, h1, h2⟩ := px.list sG
    exact call_tuple_of pins s σ H _ us Q I r ⟨a, vs, rfl, .inl ⟨SqL.of h1, fun p hp => k _ _ _ (New.one sG _ hp) (RT.mkTup upd_same (h2.mono (same_upd (sG.free hp))))⟩⟩
  · cases hg
    obtain ⟨v, rfl, px⟩ := pr1 hp
    obtain ⟨a, vs, rfl, h1, h2⟩ := px.tuple sG
    refine call_tuple_of pins s σ H _ us Q I r ⟨a, vs, rfl, .inr ⟨SqT.of h1, k _ _ _ (New.refl sG) ?_⟩⟩
    rcases px with px | ⟨_, _, _, e3, _⟩
    · exact px
    · cases e3
  · cases hg
/-- list(x): a new list of one's own -/
def fListOf (f : FL) : FR := fun ρ h => (f ρ h).bind fun ts h => match ts with
  | [.list ts] => .ok (.own ts) h
  | [.tuple ts] => .ok (.own ts) h
  | _ => .bad
theorem sr_list {x : Str} (hx : x = "list") (hg : Gl X x) (hm : X.mg x = none) (hv : bootBuiltins x = some (.type "list")) (ha : SOs X E (e :: es) l) (hn : x ≠ "__name__" := by decide) (hdb : (x == ("__debug__" : Str)) = false := by decide)
    (he : starEach (e :: es) X.env = (false, eval e X.env) :: starEach es X.env := by rfl) (hpl : (backTo pos (starEach es X.env)).any (·.1) = false := by rfl) : SR X E (.Call (.Name x p) (e :: es) [] pos) (fListOf l) := pe_imp (pe_callTy call_list_of hg hm hv ha hn hdb he hpl) fun σ H Q hw =>
  tX_bind (f := l) rpR_m hw fun ρ ts h1 vs H1 G0 G1 w0 w1 R1 T1 r1 W1 => by
    have hp := r1 _ _ _ _ R1 (Same.refl _)
    split at W1
    · obtain ⟨v, rfl, px⟩ := pr1 hp
      obtain ⟨a, vs, rfl, h1, h2⟩ := px.list R1.sub
      exact ⟨a, vs, rfl, .inl (SqL.of h1), fun p hp => W1.fin R1 (New.mute R1.sub _ hp) (ownR_new R1 h2 hp)⟩
    · obtain ⟨v, rfl, px⟩ := pr1 hp
      obtain ⟨a, vs, rfl, h1, h2⟩ := px.tuple R1.sub
      exact ⟨a, vs, rfl, .inr (SqT.of h1), fun p hp => W1.fin R1 (New.mute R1.sub _ hp) (ownR_new R1 h2 hp)⟩
    · exact W1.elim
/-! ### isinstance -/
def tyN : T → String
  | .none => "NoneType"
  | .bool _ => "bool"
  | .int _ => "int"
  | .str _ => "str"
  | .list _ => "list"
  | .tuple _ => "tuple"
  | .dict _ => "dict"
def isiB (t : T) (ty : String) : Bool := tyN t == ty || (tyN t == "bool" && ty == "int")
def tys : List String := ["int", "bool", "str", "list", "tuple"]
theorem kit_ok : ∀ t : T, ∀ ty ∈ tys, kitB (tyN t) ty = some (isiB t ty) := by
  intro t ty h
  have h2 : ∀ n ∈ ["NoneType", "bool", "int", "str", "list", "tuple", "dict"], ∀ ty ∈ tys, kitB n ty = some (n == ty || (n == "bool" && ty == "int")) := by decide +kernel
  exact h2 (tyN t) (by cases t <;> simp [tyN]) ty h
theorem ty_ok {K : Fr} {H G : Hp} {v : V} {t : T} (s : Same G H) (h : PkR H G v t) : TyX K H v (.type (tyN t)) := by
  cases t with
  | none => rw [h.none]; exact .base .non
  | bool b => rw [h.bool]; exact .base (.bl b)
  | int i => rw [h.int]; exact .base (.int i)
  | str z => rw [h.str.1]; exact .base (.str z)
  | list ts => obtain ⟨a, vs, rfl, h1, h2⟩ := h.list s; exact .base (.lst h1)
  | tuple ts => obtain ⟨a, vs, rfl, h1, h2⟩ := h.tuple s; exact .base (.tup h1)
  | dict kvs =>
    rcases h with h | ⟨_, _, _, e3, _⟩
    · exact nomatch h.1
    · cases e3
def fIsi (ty : String) (f : FT) : FB := fun ρ h => (f ρ h).bind fun t h => .ok (isiB t ty) h
def fIsi2 (ty ty' : String) (f : FT) : FB := fun ρ h => (f ρ h).bind fun t h => .ok (isiB t ty || isiB t ty') h
theorem isi_aux {ty : String} (ht : ty ∈ tys) {σ : L2.St} {H : Hp} {Q : Bool → Hp → Prop} (hw : tX X.K E rpB (fIsi ty fa) σ H Q) : tX X.K E (rpO X.K) fa σ H fun v H1 => ∃ (t u : Value) (b : Bool), ClsV (.ty ty) u ∧ TyX X.K H1 v t ∧ PySem.W.kitOne X.K t u = some b ∧ Q b H1 :=
  tX_bind (f := fa) rpB_m hw fun ρ t h1 v H1 G0 G1 w0 w1 R1 T1 r1 W1 => ⟨_, _, _, .ty ty, ty_ok R1.sub (r1 _ _ _ _ R1 (Same.refl _)), kit_ty (kit_ok t ty ht), W1.fin0 R1 rfl⟩
/-- isinstance(e, ty) -/
theorem pe_isi {ty : String} {x y : Str} (ht : ty ∈ tys) (hx : x = "isinstance") (hg : Gl X x) (hm : X.mg x = none) (hgy : Gl X y) (hmy : X.mg y = none) (hv : bootBuiltins y = some (.type ty)) (ha : SO X E e fa) (hny : y ≠ "__name__" := by decide) (hdy : (y == ("__debug__" : Str)) = false := by decide)
    (he : starEach [e, .Name y p2] X.env = (false, eval e X.env) :: starEach [.Name y p2] X.env := by rfl) (he2 : starEach [.Name y p2] X.env = (false, eval (.Name y p2) X.env) :: starEach [] X.env := by rfl) (hpl : (backTo pos (starEach [.Name y p2] X.env)).any (·.1) = false := by rfl) :
    PE X (.Call (.Name x p) [e, .Name y p2] [] pos) fun σ H Q => tX X.K E rpB (fIsi ty fa) σ H fun b H' => Q (.bl b) H' := by
  subst hx
  refine pe_imp (pe_callB call_isi hg hm (show bootBuiltins "isinstance" = some (.builtin "isinstance") by decide +kernel) (pa_cons ha (pa_cons (pe_bltn hgy hmy hv (v := .ty ty) rfl hny hdy) pa_nil he2) he) (by decide) (by decide) he hpl) fun σ H Q hw => ?_
  refine tX_imp ?_ (isi_aux ht hw)
  rintro v H1 ⟨t, u, b, h1, h2, h3, h4⟩
  exact ⟨v, .ty ty, t, u, b, rfl, h1, h2, h3, h4⟩
theorem se_isi {ty : String} {x y : Str} (ht : ty ∈ tys) (hx : x = "isinstance") (hg : Gl X x) (hm : X.mg x = none) (hgy : Gl X y) (hmy : X.mg y = none) (hv : bootBuiltins y = some (.type ty)) (ha : SO X E e fa) (hny : y ≠ "__name__" := by decide) (hdy : (y == ("__debug__" : Str)) = false := by decide)
    (he : starEach [e, .Name y p2] X.env = (false, eval e X.env) :: starEach [.Name y p2] X.env := by rfl) (he2 : starEach [.Name y p2] X.env = (false, eval (.Name y p2) X.env) :: starEach [] X.env := by rfl) (hpl : (backTo pos (starEach [.Name y p2] X.env)).any (·.1) = false := by rfl) :
    SE X E (.Call (.Name x p) [e, .Name y p2] [] pos) (fBE (fIsi ty fa)) := pe_imp (pe_isi ht hx hg hm hgy hmy hv ha hny hdy he he2 hpl) fun σ H Q hw => be_aux hw
/-- isinstance(e, (ty, ty')) -/
theorem se_isi2 {ty ty' : String} {x y y' : Str} {k p3 p4} (ht : ty ∈ tys) (ht' : ty' ∈ tys) (hx : x = "isinstance") (hg : Gl X x) (hm : X.mg x = none) (hgy : Gl X y) (hmy : X.mg y = none) (hv : bootBuiltins y = some (.type ty)) (hgy' : Gl X y') (hmy' : X.mg y' = none) (hv' : bootBuiltins y' = some (.type ty')) (ha : SO X E e fa)
    (hny : y ≠ "__name__" := by decide) (hdy : (y == ("__debug__" : Str)) = false := by decide) (hny' : y' ≠ "__name__" := by decide) (hdy' : (y' == ("__debug__" : Str)) = false := by decide)
    (he : starEach [e, .Tuple [.Name y p2, .Name y' p3] k p4] X.env = (false, eval e X.env) :: starEach [.Tuple [.Name y p2, .Name y' p3] k p4] X.env := by rfl)
    (he2 : starEach [.Tuple [.Name y p2, .Name y' p3] k p4] X.env = (false, eval (.Tuple [.Name y p2, .Name y' p3] k p4) X.env) :: starEach [] X.env := by rfl) (hpl : (backTo pos (starEach [.Tuple [.Name y p2, .Name y' p3] k p4] X.env)).any (·.1) = false := by rfl)
    (he3 : starEach [.Name y p2, .Name y' p3] X.env = (false, eval (.Name y p2) X.env) :: starEach [.Name y' p3] X.env := by rfl) (he4 : starEach [.Name y' p3] X.env = (false, eval (.Name y' p3) X.env) :: starEach [] X.env := by rfl) :
    SE X E (.Call (.Name x p) [e, .Tuple [.Name y p2, .Name y' p3] k p4] [] pos) (fBE (fIsi2 ty ty' fa)) := by
  subst hx
  refine pe_imp (pe_callB call_isiT hg hm (show bootBuiltins "isinstance" = some (.builtin "isinstance") by decide +kernel) (pa_cons ha (pa_cons (pe_tup (pa_cons (pe_bltn hgy hmy hv (v := .ty ty) rfl hny hdy) (pa_cons (pe_bltn hgy' hmy' hv' (v := .ty ty') rfl hny' hdy') pa_nil he4) he3)) pa_nil he2) he) (by decide) (by decide) he hpl) fun σ H Q hw => ?_
  refine tX_bind (f := fa) rpB_m (be_aux hw) fun ρ t h1 v H1 G0 G1 w0 w1 R1 T1 r1 W1 => ?_
  refine ⟨by show 2 ≤ sizeLine; decide, fun tp hp => ?_⟩
  obtain ⟨R2, T2⟩ := R1.new (New.mute R1.sub (.tup [.ty ty, .ty ty']) hp)
  refine ⟨v, tp, _, _, _, isiB t ty || isiB t ty', rfl, upd_same, .cons (.ty ty) (.cons (.ty ty') .nil), ty_ok R2.sub (r1 _ _ _ _ R2 (Same.refl _)), ?_, W1 _ _ _ _ R2 T2 rfl⟩
  refine kitAny_cons (kit_ty (kit_ok t ty ht)) (fun h => ?_) (fun h => by rw [h]; rfl)
  rw [h, Bool.false_or]
  refine kitAny_cons (kit_ty (kit_ok t ty' ht')) (fun h => ?_) (fun h => h)
  rw [h]
  rfl
end
end Pf
set_option Elab.async false
set_option linter.all false
set_option maxRecDepth 100000
set_option maxHeartbeats 1000000
namespace Pf
open PySem PySem.Spec PyProof.Rows L2
/-! ### what is walked -/
def ItY (ts : List T) (G : Hp) : Nat → Hp → V → Hp → Prop := fun i H x H' => ∃ t, ts[i]? = some t ∧ ((H' = H ∧ RT G t x) ∨ ∃ p a b ta tb, x = .ref p ∧ H p = none ∧ H' = upd H p (.tup [a, b]) ∧ t = .tuple [ta, tb] ∧ RT G ta a ∧ RT G tb b)
def ItR (J : It) (ts : List T) (G : Hp) : Prop := ts.length ≤ sizeLine ∧ Walk J ts.length (fun H => Same G H) (ItY ts G)
def rpI (K : Fr) : Rp (List T) It := fun _ _ _ _ ts J _ G _ => ItR J ts G
theorem rpI_m {K : Fr} : RpM (rpI K) := fun _ _ _ _ _ _ _ _ _ _ _ _ _ _ h => h
abbrev SI (X : Cx) (E : XK) (tg e : Expr) (f : FL) : Prop := PI X tg e (tX X.K E (rpI X.K) f)
section
variable {X : Cx} {E : XK} {tg e a b c d : Expr} {es : List Expr} {pos p p2 p3 : Pos} {fa fb fc fd : FT} {f : FE} {g : FA} {l : FL}
theorem pi_imp {wi wi' : TI} (h : PI X tg e wi) (i : ∀ σ H R, wi' σ H R → wi σ H R) : PI X tg e wi' := ⟨fun pins s σ H R I hw => h.run pins s σ H R I (i _ _ _ hw)⟩
theorem pi_len {wi : TI} (h : PI X tg e wi) : PI X tg e (fun σ H R => wi σ H fun J H1 => LenOk X.K H1 → R J H1) := ⟨fun pins s σ H R I hw => thn (h.run pins s σ H _ I hw) fun v s1 h1 => thn h1 fun u s2 ⟨it, fp, tn, J, H', h1, h2, h3, h4, h5, h6⟩ => ⟨it, fp, tn, J, H', h1, h2, h3, h4, h5, h6 (inv_len h2)⟩⟩
theorem pi_or {wi wi' : TI} (h : PI X tg e wi) (h' : PI X tg e wi') : PI X tg e (fun σ H R => wi σ H R ∨ wi' σ H R) := ⟨fun pins s σ H R I hw => hw.elim (h.run pins s σ H R I) (h'.run pins s σ H R I)⟩
def fIt (f : FT) : FL := fun ρ h => (f ρ h).bind fun t h => match t with
  | .list ts => .ok ts h
  | .tuple ts => .ok ts h
  | _ => .bad
theorem walk_itL {K : Fr} {G : Hp} {q : Addr} {vs : List V} {ts : List T} (h1 : G q = some (.lst vs)) (h2 : RTs G ts vs) : Walk (Itl K q) ts.length (fun H => Same G H) (ItY ts G) := by
  have w := walk_list (K := K) (a := q) (xs := vs)
  rw [h2.length] at w
  refine w.mono (fun H s => SqL.of (s _ _ h1)) fun i H x H' hi s y => ?_
  obtain ⟨e, hx⟩ := y
  obtain ⟨t, ht, r⟩ := h2.getV hx
  exact ⟨t, ht, .inl ⟨e, r⟩⟩
theorem walk_itT {K : Fr} {G : Hp} {q : Addr} {vs : List V} {ts : List T} (h1 : G q = some (.tup vs)) (h2 : RTs G ts vs) : Walk (Itt K q) ts.length (fun H => Same G H) (ItY ts G) := by
  have w := walk_tup (K := K) (a := q) (xs := vs)
  rw [h2.length] at w
  refine w.mono (fun H s => SqT.of (s _ _ h1)) fun i H x H' hi s y => ?_
  obtain ⟨e, hx⟩ := y
  obtain ⟨t, ht, r⟩ := h2.getV hx
  exact ⟨t, ht, .inl ⟨e, r⟩⟩
/-- a list or a tuple -/
def fItD (f : FE) : FL := fun ρ h => (f ρ h).bind fun t h => match t with
  | .dat (.list ts) => .ok ts h
  | .dat (.tuple ts) => .ok ts h
  | _ => .bad
theorem si_seq (h : SE X E e f) : SI X E tg e (fItD f) := by
  refine pi_imp (pi_or (pi_len (pi_list (tg := tg) h)) (pi_len (pi_tup (tg := tg) h))) fun σ H R hw => ?_
  obtain ⟨ρ, h0, G, w, Rl, W⟩ := hw
  unfold fItD at W
  cases hf : f ρ h0 with
  | bad => rw [hf] at W; exact W.elim
  | exc x h' =>
    rw [hf] at W
    exact .inl ⟨ρ, h0, G, w, Rl, by rw [hf]; exact W⟩
  | ok d h' =>
    rw [hf] at W
    cases d with
    | obj n => exact W.elim
    | scr n => exact W.elim
    | dat t =>
      cases t with
      | list ts =>
        refine .inl ⟨ρ, h0, G, w, Rl, ?_⟩
        rw [hf]
        intro v H' G' w' R' T' r'
        obtain ⟨q, vs, rfl, h1, h2⟩ := RT.list r'
        refine ⟨q, rfl, ⟨vs, SqL.of (R'.sub _ _ h1)⟩, fun lo => ?_⟩
        exact W _ _ _ _ R' T' ⟨by rw [← h2.length]; exact lo.1 _ _ (SqL.of (R'.sub _ _ h1)), walk_itL h1 h2⟩
      | tuple ts =>
        refine .inr ⟨ρ, h0, G, w, Rl, ?_⟩
        rw [hf]
        intro v H' G' w' R' T' r'
        obtain ⟨q, vs, rfl, h1, h2⟩ := RT.tuple r'
        refine ⟨q, rfl, ⟨vs, SqT.of (R'.sub _ _ h1)⟩, fun lo => ?_⟩
        exact W _ _ _ _ R' T' ⟨by rw [← h2.length]; exact lo.2 _ _ (SqT.of (R'.sub _ _ h1)), walk_itT h1 h2⟩
      | _ => exact W.elim
/-- range -/
def rngT (lo : Int) (n : Nat) : List T := (List.range n).map fun k => PyData.int (lo + (k : Nat))
def rngOk (i j : Int) : Bool := decide (-1000000 ≤ i) && decide (i ≤ 1000000) && (decide (-1000000 ≤ j) && decide (j ≤ 1000000))
def fRng1 (fa : FT) : FL := fun ρ h => (fa ρ h).bind fun t h => match t with
  | .int j => if rngOk 0 j = true then .ok (rngT 0 j.toNat) h else .bad
  | _ => .bad
def fRng2 (fa fb : FT) : FL := fun ρ h => (fa ρ h).bind fun t h => (fb ρ h).bind fun u h => match t, u with
  | .int i, .int j => if rngOk i j = true then .ok (rngT i (j - i).toNat) h else .bad
  | _, _ => .bad
/-- i, i - 1, .. above j -/
def rngD (i : Int) (n : Nat) : List T := (List.range n).map fun k => PyData.int (i + (k : Nat) * (-1))
def fRngD (fa fb : FT) : FL := fun ρ h => (fa ρ h).bind fun t h => (fb ρ h).bind fun u h => match t, u with
  | .int i, .int j => if rngOk i j = true then .ok (rngD i (i - j).toNat) h else .bad
  | _, _ => .bad
theorem rngT_get {lo : Int} {n i : Nat} (h : i < n) : (rngT lo n)[i]? = some (.int (lo + (i : Nat))) := by
  unfold rngT
  rw [List.getElem?_map, List.getElem?_range h]
  rfl
theorem rngT_len {lo : Int} {n : Nat} : (rngT lo n).length = n := by
  unfold rngT
  rw [List.length_map, List.length_range]
theorem walk_itR {G : Hp} {lo : Int} {n : Nat} : Walk (Itr lo n) (rngT lo n).length (fun H => Same G H) (ItY (rngT lo n) G) := by
  rw [rngT_len]
  refine (walk_range (lo := lo) (n := n)).mono (fun _ _ => trivial) fun i H x H' hi s y => ?_
  obtain ⟨e, rfl⟩ := y
  exact ⟨_, rngT_get hi, .inl ⟨e, RT.int _⟩⟩
theorem rng_ok {i j : Int} (h : rngOk i j = true) : (-1000000 ≤ i ∧ i ≤ 1000000) ∧ -1000000 ≤ j ∧ j ≤ 1000000 := by
  unfold rngOk at h
  simp only [Bool.and_eq_true, decide_eq_true_eq] at h
  exact h
theorem big_line : 2000000 ≤ sizeLine := by decide
theorem si_rng1 {x : Str} (hx : x = "range") (hg : Gl X x) (hm : X.mg x = none) (ha : SO X E a fa) (hs : starEach [a] X.env = [(false, eval a X.env)] := by rfl) : SI X E tg (.Call (.Name x p) [a] [] pos) (fRng1 fa) := by
  subst hx
  refine pi_imp (pi_range1 hg hm (pa_cons ha pa_nil hs) hs) fun σ H R hw => tX_bind (f := fa) rpI_m hw fun ρ t h1 v H1 G0 G1 w0 w1 R1 T1 r1 W1 => ?_
  have px := r1 _ _ _ _ R1 (Same.refl _)
  cases t with
  | int j =>
    dsimp only at W1
    split at W1
    · rename_i hr
      have hr := rng_ok hr
      exact ⟨j, by rw [px.int], by omega, by omega, W1.fin0 R1 ⟨by rw [rngT_len]; have := big_line; omega, walk_itR⟩⟩
    · exact W1.elim
  | _ => exact W1.elim
theorem si_rng2 {x : Str} (hx : x = "range") (hg : Gl X x) (hm : X.mg x = none) (ha : SO X E a fa) (hb : SO X E b fb) (hs : starEach [a, b] X.env = [(false, eval a X.env), (false, eval b X.env)] := by rfl) (hs2 : starEach [b] X.env = [(false, eval b X.env)] := by rfl)
    (hs3 : starEach [a, b] X.env = (false, eval a X.env) :: starEach [b] X.env := by rfl) (hs4 : starEach [b] X.env = (false, eval b X.env) :: starEach [] X.env := by rfl) : SI X E tg (.Call (.Name x p) [a, b] [] pos) (fRng2 fa fb) := by
  subst hx
  refine pi_imp (pi_range2 hg hm (pa_cons ha (pa_cons hb pa_nil hs4) hs3) hs hs2) fun σ H R hw => tX_bind (f := fa) rpI_m hw fun ρ t h1 v H1 G0 G1 w0 w1 R1 T1 r1 W1 => wish_bind (f := fb) rpI_m R1 W1 fun u h2 v2 H2 G2 w2 R2 T2 r2 W2 => ?_
  have px := r1 _ _ _ _ R2 T2.gm
  have py := r2 _ _ _ _ R2 (Same.refl _)
  cases t with
  | int i =>
    cases u with
    | int j =>
      dsimp only at W2
      split at W2
      · rename_i hr
        have hr := rng_ok hr
        exact ⟨i, j, by rw [px.int, py.int], by omega, W2.fin0 R2 ⟨by rw [rngT_len]; have := big_line; omega, walk_itR⟩⟩
      · exact W2.elim
    | _ => exact W2.elim
  | _ => exact W2.elim
theorem rngD_get {lo : Int} {n i : Nat} (h : i < n) : (rngD lo n)[i]? = some (.int (lo + (i : Nat) * (-1))) := by
  unfold rngD
  rw [List.getElem?_map, List.getElem?_range h]
  rfl
theorem rngD_len {lo : Int} {n : Nat} : (rngD lo n).length = n := by
  unfold rngD
  rw [List.length_map, List.length_range]
theorem walk_itD {G : Hp} {lo : Int} {n : Nat} : Walk (Itc lo (-1) n) (rngD lo n).length (fun H => Same G H) (ItY (rngD lo n) G) := by
  rw [rngD_len]
  refine (walk_rangeC (lo := lo) (c := -1) (n := n)).mono (fun _ _ => trivial) fun i H x H' hi s y => ?_
  obtain ⟨e, rfl⟩ := y
  exact ⟨_, rngD_get hi, .inl ⟨e, RT.int _⟩⟩
theorem pe_neg1 {k p1} : PE X (.UnaryOp .USub (.Constant (.int 1) k p1) pos) (tC (.int (-1))) := pe_imp (pe_un un_neg pe_int) fun σ H Q hw => ⟨1, rfl, hw⟩
theorem se_neg1 {k p1} : SE X E (.UnaryOp .USub (.Constant (.int 1) k p1) pos) (fC (.int (-1))) := se_c pe_neg1 fun _ => RT.int _
theorem si_rngD {x : Str} {k p1 p4} (hx : x = "range") (hg : Gl X x) (hm : X.mg x = none) (ha : SO X E a fa) (hb : SO X E b fb)
    (hs3 : starEach [a, b, .UnaryOp .USub (.Constant (.int 1) k p1) p4] X.env = (false, eval a X.env) :: starEach [b, .UnaryOp .USub (.Constant (.int 1) k p1) p4] X.env := by rfl) (hs4 : starEach [b, .UnaryOp .USub (.Constant (.int 1) k p1) p4] X.env = (false, eval b X.env) :: starEach [.UnaryOp .USub (.Constant (.int 1) k p1) p4] X.env := by rfl)
    (hpl : (backTo pos (starEach [b, .UnaryOp .USub (.Constant (.int 1) k p1) p4] X.env)).any (·.1) = false := by rfl) :
    SI X E tg (.Call (.Name x p) [a, b, .UnaryOp .USub (.Constant (.int 1) k p1) p4] [] pos) (fRngD fa fb) := by
  subst hx
  refine pi_imp (pi_range3 hg hm (pa_cons ha (pa_cons hb (pa_cons pe_neg1 pa_nil rfl) hs4) hs3) hs3 hpl) fun σ H R hw => tX_bind (f := fa) rpI_m hw fun ρ t h1 v H1 G0 G1 w0 w1 R1 T1 r1 W1 => wish_bind (f := fb) rpI_m R1 W1 fun u h2 v2 H2 G2 w2 R2 T2 r2 W2 => ?_
  have px := r1 _ _ _ _ R2 T2.gm
  have py := r2 _ _ _ _ R2 (Same.refl _)
  cases t with
  | int i =>
    cases u with
    | int j =>
      dsimp only at W2
      split at W2
      · rename_i hr
        have hr := rng_ok hr
        exact ⟨i, j, -1, _, by rw [px.int, py.int], RgC.neg (by omega) (by omega) (by omega) (by omega), W2.fin0 R2 ⟨by rw [rngD_len]; have := big_line; omega, walk_itD⟩⟩
      · exact W2.elim
    | _ => exact W2.elim
  | _ => exact W2.elim
/-- the signs of a text -/
def sgnT (z : Str) : List T := z.cps.toList.map fun c => .str ⟨#[c]⟩
def fItS (f : FT) : FL := fun ρ h => (f ρ h).bind fun t h => match t with
  | .str z => if z.length ≤ 1000000 then .ok (sgnT z) h else .bad
  | _ => .bad
theorem si_str (h : SO X E e fa) : SI X E tg e (fItS fa) := pi_imp (pi_str h) fun σ H R hw => tX_bind (f := fa) rpI_m hw fun ρ t h1 v H1 G0 G1 w0 w1 R1 T1 r1 W1 => by
  cases t with
  | str z =>
    dsimp only at W1
    have px := (r1 _ _ _ _ R1 (Same.refl _)).str
    split at W1
    · rename_i hz
      have hl : (sgnT z).length = z.cps.size := by unfold sgnT; simp
      refine ⟨z, px.1, W1.fin0 R1 ⟨?_, ?_⟩⟩
      · rw [hl]
        have := big_line
        have e : z.cps.size = z.length := rfl
        omega
      · rw [hl]
        refine walk_str.mono (fun _ _ => trivial) fun i H x H' hi s y => ?_
        obtain ⟨e, c, hc, rfl⟩ := y
        refine ⟨.str ⟨#[c]⟩, ?_, .inl ⟨e, RT.str (strOk_of px.2 fun c' hc' => ?_)⟩⟩
        · unfold sgnT
          rw [List.getElem?_map]
          have : z.cps.toList[i]? = some c := by simpa using hc
          rw [this]
          rfl
        · have e : c' = c := by simpa using hc'
          rw [e]
          exact List.mem_of_getElem? (show z.cps.toList[i]? = some c by simpa using hc)
    · exact W1.elim
  | _ => exact W1.elim
/-- enumerate(list) -/
def enumT (ts : List T) : List T := ts.zipIdx.map fun p => .tuple [.int (p.2 : Nat), p.1]
def fEnum (f : FE) : FL := fun ρ h => (f ρ h).bind fun t h => match t with
  | .dat (.list ts) => .ok (enumT ts) h
  | _ => .bad
theorem enumT_len {ts : List T} : (enumT ts).length = ts.length := by unfold enumT; simp
theorem enumT_get {ts : List T} {i : Nat} {t : T} (h : ts[i]? = some t) : (enumT ts)[i]? = some (.tuple [.int (i : Nat), t]) := by
  unfold enumT
  rw [List.getElem?_map, List.getElem?_zipIdx, h]
  simp
theorem pa_len {t : TA} (h : PA X es t) : PA X es (fun σ H Q => t σ H fun v H1 => LenOk X.K H1 → Q v H1) := ⟨fun pos pins s σ H Q I hw => thn (h.run pos pins s σ H _ I hw) fun u s' ⟨v, H', I', r, q⟩ => ⟨v, H', I', r, q (inv_len I')⟩⟩
theorem si_enum {x : Str} {elts : List Expr} {kk : Nat} {tpos : Pos} (hx : x = "enumerate") (hg : Gl X x) (hm : X.mg x = none) (ha : SE X E a f) (hs : starEach [a] X.env = [(false, eval a X.env)] := by rfl) : SI X E (.Tuple elts kk tpos) (.Call (.Name x p) [a] [] pos) (fEnum f) := by
  subst hx
  refine pi_imp (pi_enum hg hm (pa_len (pa_cons ha pa_nil hs)) hs) fun σ H R hw => tX_bind (f := f) rpI_m hw fun ρ t h1 v H1 G0 G1 w0 w1 R1 T1 r1 W1 => ?_
  intro lo
  cases t with
  | obj n => exact W1.elim
  | scr n => exact W1.elim
  | dat t =>
    cases t with
    | list ts =>
      obtain ⟨q, vs, rfl, h1, h2⟩ := RT.list r1
      refine ⟨q, vs, rfl, SqL.of (R1.sub _ _ h1), W1.fin0 R1 ⟨?_, ?_⟩⟩
      · rw [enumT_len, ← h2.length]
        exact lo.1 _ _ (SqL.of (R1.sub _ _ h1))
      · have w := walk_enum (K := X.K) (a := q) (xs := vs)
        rw [h2.length] at w
        rw [enumT_len]
        refine w.mono (fun H s => SqL.of (s _ _ h1)) fun i H x H' hi s y => ?_
        obtain ⟨p, x1, x2, e1, e2, e3, e4, e5⟩ := y
        cases e4
        obtain ⟨t, ht, r⟩ := h2.getV e5
        exact ⟨_, enumT_get ht, .inr ⟨p, _, x2, _, t, e1, e2, e3, rfl, RT.int _, r⟩⟩
    | _ => exact W1.elim
/-- zip of two lists -/
def zipT (ts us : List T) : List T := (ts.zip us).map fun p => .tuple [p.1, p.2]
def fZip (f g : FE) : FL := fun ρ h => (f ρ h).bind fun t h => (g ρ h).bind fun u h => match t, u with
  | .dat (.list ts), .dat (.list us) => .ok (zipT ts us) h
  | _, _ => .bad
theorem si_zip {x : Str} {elts : List Expr} {kk : Nat} {tpos : Pos} {f2 : FE} (hx : x = "zip") (hg : Gl X x) (hm : X.mg x = none) (ha : SE X E a f) (hb : SE X E b f2) (hs3 : starEach [a, b] X.env = (false, eval a X.env) :: starEach [b] X.env := by rfl) (hs4 : starEach [b] X.env = (false, eval b X.env) :: starEach [] X.env := by rfl) (hpl : (backTo pos (starEach [b] X.env)).any (·.1) = false := by rfl) :
    SI X E (.Tuple elts kk tpos) (.Call (.Name x p) [a, b] [] pos) (fZip f f2) := by
  subst hx
  refine pi_imp (pi_zip hg hm (pa_len (pa_cons ha (pa_cons hb pa_nil hs4) hs3)) hs3 hpl) fun σ H R hw => tX_bind (f := f) rpI_m hw fun ρ t h1 v H1 G0 G1 w0 w1 R1 T1 r1 W1 => wish_bind (f := f2) rpI_m R1 W1 fun u h2 v2 H2 G2 w2 R2 T2 r2 W2 => ?_
  intro lo
  have r1 := RD.mono T2 r1
  cases t with
  | obj n => exact W2.elim
  | scr n => exact W2.elim
  | dat t =>
    cases t with
    | list ts =>
      cases u with
      | obj n => exact W2.elim
      | scr n => exact W2.elim
      | dat u =>
        cases u with
        | list us =>
          obtain ⟨q, vs, rfl, h1, h2⟩ := RT.list r1
          obtain ⟨q2, vs2, rfl, h3, h4⟩ := RT.list r2
          have hl : (zipT ts us).length = min vs.length vs2.length := by
            unfold zipT
            rw [List.length_map, List.length_zip, h2.length, h4.length]
          have hlo := lo.1 _ _ (SqL.of (R2.sub _ _ h1))
          refine ⟨q, q2, vs, vs2, rfl, SqL.of (R2.sub _ _ h1), SqL.of (R2.sub _ _ h3), W2.fin0 R2 ⟨by rw [hl]; omega, ?_⟩⟩
          refine (walk_zip (K := X.K) (a := q) (b := q2) (xs := vs) (ys := vs2) hl).mono (fun H s => ⟨SqL.of (s _ _ h1), SqL.of (s _ _ h3)⟩) fun i H x H' hi s y => ?_
          obtain ⟨p, x1, x2, e1, e2, e3, e4, e5⟩ := y
          obtain ⟨t, ht, r⟩ := h2.getV e4
          obtain ⟨u, hu, r'⟩ := h4.getV e5
          refine ⟨.tuple [t, u], ?_, .inr ⟨p, _, x2, _, u, e1, e2, e3, rfl, r, r'⟩⟩
          unfold zipT
          rw [List.getElem?_map, show (ts.zip us)[i]? = some (t, u) from List.getElem?_zip_eq_some.mpr ⟨ht, hu⟩]
          rfl
        | _ => exact W2.elim
    | _ => exact W2.elim
end
end Pf
set_option Elab.async false
set_option linter.all false
set_option maxRecDepth 100000
set_option maxHeartbeats 1000000
namespace Pf
open PySem PySem.Spec PyProof.Rows L2
/-! ### slots set -/
def clr (w : Wn) (i : Nat) : Wn := fun q => match q with
  | .s j => if j = i then none else w (.s j)
  | q => w q
theorem clr_some {w : Wn} {i : Nat} {q : Ow} {a : Addr} (h : clr w i q = some a) : w q = some a := by
  cases q with
  | s j =>
    by_cases e : j = i
    · rw [clr, if_pos e] at h; cases h
    · rw [clr, if_neg e] at h; exact h
  | o n => exact h
  | f n k => exact h
theorem clr_self {w : Wn} {i : Nat} : clr w i (.s i) = none := by rw [clr, if_pos rfl]
theorem clr_ne {w : Wn} {i j : Nat} (h : j ≠ i) : clr w i (.s j) = w (.s j) := by rw [clr, if_neg h]
theorem Tr.clr {G H : Hp} {w : Wn} (i : Nat) : Tr G H w G H (clr w i) := ⟨Same.refl _, fun _ _ h _ => h, fun _ h => .inl h, fun q b h => .inl ⟨q, clr_some h⟩, fun _ _ h => h⟩
theorem Tr.less {G H : Hp} {w : Wn} {G' H' : Hp} {w' w'' : Wn} (t : Tr G H w G' H' w') (h : ∀ q a, w'' q = some a → w' q = some a) (ho : ∀ n a, w' (.o n) = some a → w'' (.o n) = some a) : Tr G H w G' H' w'' := ⟨t.gm, t.fr, t.gn, fun q b z => t.wn q b (h q b z), fun n a z => ho n a (t.ob n a z)⟩
theorem get_set {α : Type} {l : List α} {i j : Nat} {x y : α} (h : (l.set i x)[j]? = some y) : (j = i ∧ i < l.length ∧ x = y) ∨ (j ≠ i ∧ l[j]? = some y) := by
  by_cases e : i = j
  · subst e
    have hi : i < l.length := by
      have := (List.getElem?_eq_some_iff.mp h).1
      rw [List.length_set] at this
      exact this
    rw [List.getElem?_set_self hi] at h
    exact .inl ⟨rfl, hi, Option.some.inj h⟩
  · rw [List.getElem?_set_ne e] at h
    exact .inr ⟨fun z => e z.symm, h⟩
/-- a slot gets a value -/
theorem Rel.setVal {K : Fr} {ρ : En} {h : Hs} {σ : L2.St} {H G : Hp} {w : Wn} (R : Rel K ρ h σ H G w) {i : Nat} {d : D} {v : V} (r : RD K G w d v) : Rel K (ρ.set i (.val d)) h (σ.set i (some v)) H G (clr w i) where
  sub := R.sub
  off := fun q a e => R.off q a (clr_some e)
  inj := fun q q' a e e' => R.inj q q' a (clr_some e) (clr_some e')
  len := by rw [List.length_set, List.length_set]; exact R.len
  env := fun j s hs => by
    rcases get_set hs with ⟨rfl, hi, rfl⟩ | ⟨hj, hs⟩
    · refine ⟨clr_self, v, by rw [List.getElem?_set_self (by rw [← R.len]; exact hi)], ?_⟩
      cases d with
      | dat t => exact r
      | obj n => exact r
      | scr ns => exact r
    · rw [List.getElem?_set_ne (Ne.symm hj)]
      exact (R.env j s hs).mono (Same.refl _) (clr_ne hj) (fun _ _ z => z) fun _ _ => rfl
  env0 := fun j hj => by
    rw [List.length_set] at hj
    by_cases e : j = i
    · subst e; exact clr_self
    · rw [clr_ne e]; exact R.env0 j hj
  obs := fun n o ho => (R.obs n o ho).mono (Same.refl _) rfl (fun _ => rfl) (fun _ _ => rfl) fun _ _ _ => rfl
  obs0 := R.obs0
/-- a slot is forgotten -/
theorem Rel.setUn {K : Fr} {ρ : En} {h : Hs} {σ : L2.St} {H G : Hp} {w : Wn} (R : Rel K ρ h σ H G w) (i : Nat) (ov : Option V) : Rel K (ρ.set i .un) h (σ.set i ov) H G (clr w i) where
  sub := R.sub
  off := fun q a e => R.off q a (clr_some e)
  inj := fun q q' a e e' => R.inj q q' a (clr_some e) (clr_some e')
  len := by rw [List.length_set, List.length_set]; exact R.len
  env := fun j s hs => by
    rcases get_set hs with ⟨rfl, hi, rfl⟩ | ⟨hj, hs⟩
    · exact clr_self
    · rw [List.getElem?_set_ne (Ne.symm hj)]
      exact (R.env j s hs).mono (Same.refl _) (clr_ne hj) (fun _ _ z => z) fun _ _ => rfl
  env0 := fun j hj => by
    rw [List.length_set] at hj
    by_cases e : j = i
    · subst e; exact clr_self
    · rw [clr_ne e]; exact R.env0 j hj
  obs := fun n o ho => (R.obs n o ho).mono (Same.refl _) rfl (fun _ => rfl) (fun _ _ => rfl) fun _ _ _ => rfl
  obs0 := R.obs0
/-- the slot is no list or dict of its own -/
def plainAt (ρ : En) (i : Nat) : Bool := match ρ[i]? with
  | some (.own _) => false
  | some (.dic _) => false
  | some (.fix _ _) => false
  | some (.pin _) => false
  | _ => true
def plainAll (ρ : En) : List Nat → Bool
  | [] => true
  | i :: is => plainAt ρ i && plainAll ρ is
def wipeE (ρ : En) : List Nat → En
  | [] => ρ
  | i :: is => (wipeE ρ is).set i .un
theorem wipeE_len (ρ : En) : ∀ is : List Nat, (wipeE ρ is).length = ρ.length
  | [] => rfl
  | i :: is => by rw [wipeE, List.length_set, wipeE_len ρ is]
theorem plain_none {K : Fr} {ρ : En} {h : Hs} {σ : L2.St} {H G : Hp} {w : Wn} (R : Rel K ρ h σ H G w) {i : Nat} (p : plainAt ρ i = true) : w (.s i) = none := by
  unfold plainAt at p
  cases e : ρ[i]? with
  | none => exact R.env0 i (List.getElem?_eq_none_iff.mp e)
  | some s =>
    have := R.env i s e
    rw [e] at p
    cases s with
    | un => exact this
    | val d => exact this.1
    | own ts => cases p
    | dic ts => cases p
    | fix v t => cases p
    | pin v => cases p
theorem Rel.wn_eq {K : Fr} {ρ : En} {h : Hs} {σ : L2.St} {H G : Hp} {w w' : Wn} (R : Rel K ρ h σ H G w) (e : w' = w) : Rel K ρ h σ H G w' := by rw [e]; exact R
theorem clr_id {w : Wn} {i : Nat} (h : w (.s i) = none) : clr w i = w := by
  funext q
  cases q with
  | s j =>
    by_cases e : j = i
    · subst e; rw [clr_self, h]
    · rw [clr_ne e]
  | o n => rfl
  | f n k => rfl
/-- slots wiped, as the layer wipes them -/
theorem Rel.wipe {K : Fr} {ρ : En} {h : Hs} {σ : L2.St} {H G : Hp} {w : Wn} (R : Rel K ρ h σ H G w) : ∀ (is : List Nat), plainAll ρ is = true → Rel K (wipeE ρ is) h (L2.wipe σ is) H G w
  | [], _ => R
  | i :: is, p => by
    rw [plainAll, Bool.and_eq_true] at p
    have R1 := R.wipe is p.2
    have e := plain_none R p.1
    exact (R1.setUn i none).wn_eq (clr_id e).symm
theorem wipeE_get {ρ : En} {j : Nat} : ∀ {is : List Nat}, j ∉ is → (wipeE ρ is)[j]? = ρ[j]?
  | [], _ => rfl
  | i :: is, h => by
    rw [List.mem_cons, not_or] at h
    rw [wipeE, List.getElem?_set_ne (fun z => h.1 z.symm)]
    exact wipeE_get h.2
theorem wipe_get {σ : L2.St} {j : Nat} : ∀ {is : List Nat}, j ∉ is → (L2.wipe σ is)[j]? = σ[j]?
  | [], _ => rfl
  | i :: is, h => by
    rw [List.mem_cons, not_or] at h
    rw [L2.wipe, List.getElem?_set_ne (fun z => h.1 z.symm)]
    exact wipe_get h.2
theorem plainAll_at {ρ : En} {j : Nat} : ∀ {is : List Nat}, plainAll ρ is = true → j ∈ is → plainAt ρ j = true
  | i :: is, p, h => by
    rw [plainAll, Bool.and_eq_true] at p
    rcases List.mem_cons.mp h with z | z
    · subst z; exact p.1
    · exact plainAll_at p.2 z
theorem wipeE_at {ρ : En} {j : Nat} : ∀ {is : List Nat}, j ∈ is → j < ρ.length → (wipeE ρ is)[j]? = some .un
  | i :: is, h, hl => by
    rw [wipeE]
    by_cases e : i = j
    · subst e
      rw [List.getElem?_set_self (by rw [wipeE_len]; exact hl)]
    · rw [List.getElem?_set_ne e]
      rcases List.mem_cons.mp h with z | z
      · exact absurd z.symm e
      · exact wipeE_at z hl
/-- behind a block: the wiped slots as they were -/
theorem Rel.unwipe {K : Fr} {ρ : En} {h h' : Hs} {σ : L2.St} {H G H' G' : Hp} {w w' : Wn} {is : List Nat} (R : Rel K ρ h σ H G w) (p : plainAll ρ is = true) (t : Tr G H w G' H' w') (R' : Rel K (wipeE ρ is) h' (L2.wipe σ is) H' G' w') : Rel K ρ h' σ H' G' w' where
  sub := R'.sub
  off := R'.off
  inj := R'.inj
  len := R.len
  env := fun j s hs => by
    by_cases hj : j ∈ is
    · have e := plain_none R (plainAll_at p hj)
      have e' : w' (.s j) = none := R'.env j .un (wipeE_at hj (List.getElem?_eq_some_iff.mp hs).1)
      have := R.env j s hs
      cases s with
      | un => exact e'
      | val d =>
        obtain ⟨_, v, h2, h3⟩ := this
        exact ⟨e', v, h2, h3.mono t⟩
      | own ts =>
        obtain ⟨a, _, h1, _⟩ := this
        rw [e] at h1; cases h1
      | dic ts =>
        obtain ⟨a, _, h1, _⟩ := this
        rw [e] at h1; cases h1
      | fix v t =>
        have := plainAll_at p hj
        unfold plainAt at this
        rw [hs] at this
        cases this
      | pin v =>
        have := plainAll_at p hj
        unfold plainAt at this
        rw [hs] at this
        cases this
    · have := R'.env j s (by rw [wipeE_get hj]; exact hs)
      rw [wipe_get hj] at this
      exact this
  env0 := fun j hj => R'.env0 j (by rw [wipeE_len]; exact hj)
  obs := R'.obs
  obs0 := R'.obs0
/-! ### targets -/
abbrev Tgt := T → En → Option En
def gN (i : Nat) : Tgt := fun t ρ => some (ρ.set i (.val (.dat t)))
def gN2 (i j : Nat) : Tgt := fun t ρ => match t with
  | .tuple [a, b] => some ((ρ.set i (.val (.dat a))).set j (.val (.dat b)))
  | _ => none
/-- a target tg sets the slots is; what it does is g -/
structure TgOk (K : Fr) (is : List Nat) (gt : Tgt) (g : TG) : Prop where
  run : ∀ (ρ ρ' : En) (h : Hs) (σ : L2.St) (H G : Hp) (w : Wn) (t : T) (v : V) (Q : L2.St → Hp → Prop), Rel K ρ h σ H G w → RT G t v → gt t ρ = some ρ' → (∀ σ' w', Rel K ρ' h σ' H G w' → Tr G H w G H w' → L2.wipe σ' is = L2.wipe σ is → wipeE ρ' is = wipeE ρ is → plainAll ρ' is = true → Q σ' H) → g v σ H Q
theorem plainAt_set {ρ : En} {i j : Nat} {d : D} (h : plainAt ρ j = true) : plainAt (ρ.set i (.val d)) j = true := by
  unfold plainAt at h ⊢
  cases e : (ρ.set i (.val d))[j]? with
  | none => rfl
  | some s =>
    rcases get_set e with ⟨rfl, _, rfl⟩ | ⟨_, e2⟩
    · rfl
    · rw [e2] at h
      exact h
theorem plainAt_self {ρ : En} {i : Nat} {d : D} : plainAt (ρ.set i (.val d)) i = true := by
  unfold plainAt
  cases e : (ρ.set i (.val d))[i]? with
  | none => rfl
  | some s =>
    rcases get_set e with ⟨_, _, rfl⟩ | ⟨hn, _⟩
    · rfl
    · exact absurd rfl hn
theorem tg_n {K : Fr} (i : Nat) : TgOk K [i] (gN i) (gName i) := ⟨fun ρ ρ' h σ H G w t v Q R r e k => by
  cases e
  exact k _ _ (R.setVal (d := .dat t) r) (Tr.clr i) (by show (σ.set i (some v)).set i none = σ.set i none; rw [List.set_set]) (by show (ρ.set i _).set i .un = ρ.set i .un; rw [List.set_set]) (by rw [plainAll, plainAt_self]; rfl)⟩
theorem set_set_comm {α : Type} {l : List α} {i j : Nat} {a b c : α} (h : i ≠ j) : (((l.set i a).set j b).set j c).set i c = (l.set j c).set i c := by
  rw [List.set_set, List.set_comm _ _ h, List.set_set]
theorem tg_n2 {K : Fr} {i j : Nat} (h : i ≠ j) : TgOk K [i, j] (gN2 i j) (gTup K 2 (gCons (gName i) (gCons (gName j) gNil))) := ⟨fun ρ ρ' hh σ H G w t v Q R r e k => by
  unfold gN2 at e
  split at e
  · rename_i ta tb
    cases e
    obtain ⟨p, vs, rfl, h1, h2⟩ := RT.tuple r
    obtain ⟨va, vs', rfl, ra, h3⟩ := h2.uncons
    obtain ⟨vb, vs'', rfl, rb, h4⟩ := h3.uncons
    cases h4.unnil
    refine ⟨p, _, rfl, SqT.of (R.sub _ _ h1), rfl, va, [vb], rfl, vb, [], rfl, rfl, ?_⟩
    have R1 := R.setVal (i := i) (d := .dat ta) ra
    have R2 := R1.setVal (i := j) (d := .dat tb) rb
    refine k _ _ R2 ((Tr.clr i).trans (Tr.clr j)) ?_ ?_ ?_
    · exact set_set_comm h
    · exact set_set_comm h
    · rw [plainAll, plainAll, plainAll, plainAt_self, plainAt_set plainAt_self]
      rfl
  · cases e⟩
/-! ### comprehensions -/
def noX {α : Type} (r : Res α) : Res α := match r with
  | .exc _ _ => .bad
  | r => r
@[simp] theorem noX_ok {α : Type} (a : α) (h : Hs) : noX (.ok a h) = .ok a h := rfl
def compL (gt : Tgt) (ρ : En) (fc : FB) (fe : FE) : List T → Hs → Res (List T)
  | [], h => .ok [] h
  | t :: ts, h => match gt t ρ with
    | none => .bad
    | some ρ1 => (noX (fc ρ1 h)).bind fun b h => match b with
      | true => (noX (fe ρ1 h)).bind fun d h => match d with
        | .dat u => (compL gt ρ fc fe ts h).bind fun us h => .ok (u :: us) h
        | _ => .bad
      | false => compL gt ρ fc fe ts h
def fComp (is : List Nat) (gt : Tgt) (fi : FL) (fc : FB) (fe : FE) : FR := fun ρ h => (fi ρ h).bind fun ts h => match plainAll ρ is with
  | true => (compL gt (wipeE ρ is) fc fe ts h).bind fun us h => .ok (.own us) h
  | false => .bad
def fYes : FB := fun _ h => .ok true h
abbrev EX0 : XK := fun _ _ _ => False
theorem ity_new {ts : List T} {G1 G H H' : Hp} {i : Nat} {x : V} (g : Same G1 G) (s : Same G H) (y : ItY ts G1 i H x H') : ∃ t G', ts[i]? = some t ∧ New H G H' G' ∧ RT G' t x := by
  obtain ⟨t, ht, ⟨rfl, r⟩ | ⟨p, a, b, ta, tb, rfl, hp, rfl, rfl, ra, rb⟩⟩ := y
  · exact ⟨t, G, ht, New.refl s, r.mono g⟩
  · refine ⟨_, upd G p (.tup [a, b]), ht, New.one s _ hp, RT.mkTup upd_same ?_⟩
    have g2 : Same G1 (upd G p (.tup [a, b])) := g.trans (same_upd (s.free hp))
    exact .cons (ra.mono g2) (.cons (rb.mono g2) .nil)
/-- an object that nothing holds or tells may change -/
theorem Rel.apart {K : Fr} {ρ : En} {h : Hs} {σ : L2.St} {H G : Hp} {w : Wn} {p : Addr} (R : Rel K ρ h σ H G w) (o : HO) (h4 : G p = none) (h5 : ∀ q, w q ≠ some p) : Rel K ρ h σ (upd H p o) G w := by
  have hk : ∀ q a, w q = some a → upd H p o a = H a := fun q a e => upd_ne fun z => h5 q (by rw [e, z])
  refine ⟨fun c u z => ?_, R.off, R.inj, R.len, fun i s hs => (R.env i s hs).mono (Same.refl _) rfl (fun _ _ z => z) fun a e => hk _ a e, R.env0, fun n u ho => (R.obs n u ho).mono (Same.refl _) rfl (fun _ => rfl) (fun a e => hk _ a e) fun k a e => hk _ a e, R.obs0⟩
  rw [upd_ne fun y : c = p => by rw [y, h4] at z; cases z]
  exact R.sub c u z
theorem Tr.apart {G H : Hp} {w : Wn} {G' H' : Hp} {w' : Wn} {p : Addr} (t : Tr G H w G' H' w') (o : HO) (h : H p = none) : Tr G H w G' (upd H' p o) w' := ⟨t.gm, fun b u e q => by
    rw [upd_ne (ne_of_none e h)]
    exact t.fr b u e q, t.gn, t.wn, t.ob⟩
/-- what is held by nothing and told nowhere stays so -/
theorem Tr.hold {G H : Hp} {w : Wn} {G' H' : Hp} {w' : Wn} {p : Addr} {o : HO} (t : Tr G H w G' H' w') (h2 : H p = some o) (h4 : G p = none) (h5 : ∀ q, w q ≠ some p) (hno : ∀ vs, o ≠ .tup vs := by intro _ z; cases z) : H' p = some o ∧ G' p = none ∧ ∀ q, w' q ≠ some p := by
  refine ⟨t.fr p o h2 h5, ?_, fun q z => ?_⟩
  · cases z : G' p with
    | none => rfl
    | some u =>
      rcases t.gn p (by rw [z]; exact fun y => by cases y) with y | y | ⟨q, y⟩ | ⟨vs, y⟩
      · exact absurd h4 y
      · rw [h2] at y; cases y
      · exact absurd y (h5 q)
      · rw [h2] at y
        exact absurd (Option.some.inj y) (hno vs)
  · rcases t.wn q p z with ⟨q', y⟩ | y
    · exact h5 q' y
    · rw [h2] at y; cases y
section
variable {X : Cx} {E : XK} {tg elt iter : Expr} {ifs : List Expr} {scope : Scope} {own : List (Str × Nat)} {pos : Pos} {fi : FL} {fc : FB} {fe : FE} {gt : Tgt} {g : TG}
theorem wipe_idem (σ : L2.St) (is : List Nat) : L2.wipe (L2.wipe σ is) is = L2.wipe σ is := by
  apply List.ext_getElem?
  intro j
  by_cases hj : j ∈ is
  · have hno : ∀ (τ : L2.St), ∀ v, (L2.wipe τ is)[j]? ≠ some (some v) := fun τ v z => (L2.wipe_some z).2 hj
    by_cases hl : j < σ.length
    · have l1 : j < (L2.wipe σ is).length := by rw [L2.wipe_length]; exact hl
      have l2 : j < (L2.wipe (L2.wipe σ is) is).length := by rw [L2.wipe_length]; exact l1
      have a1 := List.getElem?_eq_getElem l1
      have a2 := List.getElem?_eq_getElem l2
      rw [a1, a2]
      cases b1 : (L2.wipe σ is)[j] with
      | some v => rw [b1] at a1; exact absurd a1 (hno _ v)
      | none =>
        cases b2 : (L2.wipe (L2.wipe σ is) is)[j] with
        | some v => rw [b2] at a2; exact absurd a2 (hno _ v)
        | none => rfl
    · rw [List.getElem?_eq_none (by rw [L2.wipe_length, L2.wipe_length]; omega), List.getElem?_eq_none (by rw [L2.wipe_length]; omega)]
  · exact wipe_get hj
theorem wipeE_idem (ρ : En) (is : List Nat) : wipeE (wipeE ρ is) is = wipeE ρ is := by
  apply List.ext_getElem?
  intro j
  by_cases hj : j ∈ is
  · by_cases hl : j < ρ.length
    · rw [wipeE_at hj (by rw [wipeE_len]; exact hl), wipeE_at hj hl]
    · rw [List.getElem?_eq_none (by rw [wipeE_len, wipeE_len]; omega), List.getElem?_eq_none (by rw [wipeE_len]; omega)]
  · exact wipeE_get hj
theorem comp_aux {is : List Nat} {σ : L2.St} {H : Hp} {Q : VK} (tk : TgOk X.K is gt g) (hw : tX X.K E (rpR X.K) (fComp is gt fi fc fe) σ H Q) : tLc (tX X.K E (rpI X.K) fi) g (tX X.K EX0 rpB fc) (tX X.K EX0 (rpD X.K) fe) is σ H Q :=
  tX_bind0 (f := fi) rpR_m hw fun ρ ts h1 J H1 G0 G1 w0 w1 R1 T1 r1 W1 => by
    intro D hD
    cases hp : plainAll ρ is with
    | false => rw [hp] at W1; exact W1.elim
    | true =>
      rw [hp] at W1
      dsimp only at W1
      have nD : ∀ q, w1 q ≠ some D := fun q z => by
        obtain ⟨o, ho⟩ := R1.there z
        rw [hD] at ho; cases ho
      have nG : G1 D = none := R1.sub.free hD
      refine lc_it r1.2 (fun k H' => ∃ hk acc vs Gk wk, Rel X.K (wipeE ρ is) hk (L2.wipe σ is) H' Gk wk ∧ Tr G1 H1 w1 Gk H' wk ∧ H' D = some (.lst vs) ∧ RTs Gk acc vs ∧ Gk D = none ∧ (∀ q, wk q ≠ some D) ∧ acc.length ≤ k ∧
        compL gt (wipeE ρ is) fc fe ts h1 = (compL gt (wipeE ρ is) fc fe (ts.drop k) hk).bind fun us h => .ok (acc ++ us) h) ?_ ?_ ?_ ?_
      · obtain ⟨R2, T2⟩ := R1.new (New.mute R1.sub (.lst []) hD)
        refine ⟨h1, [], [], G1, w1, R2.wipe is hp, T2, upd_same, .nil, nG, nD, Nat.le_refl _, ?_⟩
        rw [List.drop_zero]
        cases compL gt (wipeE ρ is) fc fe ts h1 <;> rfl
      · rintro k H' hk ⟨hk', acc, vs, Gk, wk, Rk, Tk, _⟩
        exact Tk.gm.trans Rk.sub
      · rintro k x H' H'' hk ⟨hk', acc, vs, Gk, wk, Rk, Tk, hv, ra, gD, qD, hl, he⟩ y
        obtain ⟨t, G'', ht, hn, rx⟩ := ity_new Tk.gm Rk.sub y
        have hd : ts.drop k = t :: ts.drop (k + 1) := by
          rw [List.drop_eq_getElem_cons hk]
          congr 1
          have := List.getElem?_eq_getElem hk
          rw [ht] at this
          exact (Option.some.inj this).symm
        rw [hd, compL] at he
        cases hg : gt t (wipeE ρ is) with
        | none =>
          rw [hg] at he
          rw [he] at W1
          exact W1.elim
        | some ρ1 =>
          rw [hg] at he
          dsimp only at he
          obtain ⟨R2, T2⟩ := Rk.new hn
          refine tk.run _ ρ1 hk' _ _ _ _ t x _ R2 rx hg fun σ2 w2 R3 T3 e1 e2 e3 => ⟨?_, ?_⟩
          · rw [e1, wipe_idem]
          · refine ⟨ρ1, hk', G'', w2, R3, ?_⟩
            cases hb : fc ρ1 hk' with
            | bad => rw [hb] at he; rw [he] at W1; exact W1.elim
            | exc x h => rw [hb] at he; rw [he] at W1; exact W1.elim
            | ok b h3 =>
              rw [hb] at he
              dsimp only [noX, Res.bind] at he
              intro b' H3 G3 w3 R4 T4 r4
              cases r4
              have T34 := (T2.trans T3).trans T4
              obtain ⟨hv3, gD3, qD3⟩ := T34.hold hv gD qD
              cases b with
              | false =>
                refine iteF ⟨h3, acc, vs, G3, w3, ?_, Tk.trans T34, hv3, ra.mono T34.gm, gD3, qD3, by omega, he⟩
                have := R4.wipe is e3
                rw [e1, e2, wipe_idem, wipeE_idem] at this
                exact this
              | true =>
                refine iteT ⟨ρ1, h3, G3, w3, R4, ?_⟩
                dsimp only at he
                cases hf : fe ρ1 h3 with
                | bad => rw [hf] at he; rw [he] at W1; exact W1.elim
                | exc x h => rw [hf] at he; rw [he] at W1; exact W1.elim
                | ok d h4 =>
                  rw [hf] at he
                  cases d with
                  | obj n => rw [he] at W1; exact W1.elim
                  | scr n => rw [he] at W1; exact W1.elim
                  | dat u =>
                    dsimp only [noX, Res.bind] at he
                    intro v H4 G4 w4 R5 T5 r5
                    obtain ⟨hv4, gD4, qD4⟩ := T5.hold hv3 gD3 qD3
                    have ra4 := ra.mono (T34.trans T5).gm
                    refine ⟨vs, hv4, ?_, h4, acc ++ [u], vs ++ [v], G4, w4, ?_, ?_, upd_same, ra4.append (.cons r5 .nil), gD4, qD4, ?_, ?_⟩
                    · rw [ra.length]
                      have := r1.1
                      omega
                    · have := R5.wipe is e3
                      rw [e1, e2, wipe_idem, wipeE_idem] at this
                      exact this.apart _ gD4 qD4
                    · exact ((Tk.trans T34).trans T5).apart _ hD
                    · rw [List.length_append]
                      show acc.length + 1 ≤ k + 1
                      omega
                    · rw [he]
                      show _ = (compL gt (wipeE ρ is) fc fe (ts.drop (k + 1)) h4).bind _
                      cases compL gt (wipeE ρ is) fc fe (ts.drop (k + 1)) h4 with
                      | ok us h5 => simp [Res.bind]
                      | _ => rfl
      · rintro H' ⟨hk', acc, vs, Gk, wk, Rk, Tk, hv, ra, gD, qD, hl, he⟩
        rw [List.drop_length, compL] at he
        rw [he] at W1
        dsimp only [Res.bind] at W1
        rw [List.append_nil] at W1
        refine W1 _ _ _ _ (R1.unwipe hp Tk Rk) (T1.trans Tk) ⟨D, vs, rfl, hv, ra, gD, qD, (T1.back hD).symm⟩
/-- [elt for tg in iter if ..] -/
theorem sr_comp (hc : X.calm = true) (hN : X.N.Nodup) (hi : SI X E tg iter fi) (ok : BlkOk X.N X.env.scope scope own) (tk : TgOk X.K (own.map (·.2)) gt g)
    (hg : ∀ (s : Shared) (H : Hp) (C : Addr) (cl : List (Str × Addr)) (fp : List Addr), PG (X.blk s H scope (compEnvC scope cl C X.env) fp) tg g) (ht : ∀ (s : Shared) (H : Hp) (C : Addr) (cl : List (Str × Addr)) (fp : List Addr), PTs (X.blk s H scope (compEnvC scope cl C X.env) fp) ifs (tX X.K EX0 rpB fc))
    (he : ∀ (s : Shared) (H : Hp) (C : Addr) (cl : List (Str × Addr)) (fp : List Addr), SE (X.blk s H scope (compEnvC scope cl C X.env) fp) EX0 elt fe) (hs : ∀ x, foldedSetIterable iter X.env x = pure x := by intro _; rfl) :
    SR X E (.ListComp elt [⟨tg, iter, ifs, 0⟩] scope pos) (fComp (own.map (·.2)) gt fi fc fe) := pe_imp (pe_lc hc hN hi ok hg ht he hs) fun σ H Q hw => comp_aux tk hw
theorem pts_imp {t t' : TT} (h : PTs X ifs t) (i : ∀ σ H Q, t' σ H Q → t σ H Q) : PTs X ifs t' := ⟨fun pins s σ H Q I hw => h.run pins s σ H Q I (i _ _ _ hw)⟩
theorem st_yes : PTs X [] (tX X.K E rpB fYes) := pts_imp pts_nil fun σ H Q ⟨ρ, h0, G, w, R, W⟩ => W.fin0 R rfl
theorem st_one {c : Expr} (h : ST X E c fc) : PTs X [c] (tX X.K E rpB fc) := pts_one h
end
end Pf
set_option Elab.async false
set_option linter.all false
set_option maxRecDepth 100000
set_option maxHeartbeats 1000000
namespace Pf
open PySem PySem.Spec PyProof.Rows L2
/-! ### statements -/
def WishS (K : Fr) (E : XK) (r : Res Out) (H G : Hp) (w : Wn) (D : Ends) : Prop := match r with
  | .bad => False
  | .ok (.next ρ') h' => ∀ σ' H' G' w', Rel K ρ' h' σ' H' G' w' → Tr G H w G' H' w' → D.nx σ' H'
  | .ok (.ret r) h' => ∀ v H' G' w', Rel K [] h' [] H' G' w' → Tr G H w G' H' w' → rpR K [] [] H w r v H' G' w' → D.rt v H'
  | .exc x h' => ∀ c d H' G' w', Rel K [] h' [] H' G' w' → Tr G H w G' H' w' → ExcR K x c d H' G' → E c d H'
def tS (K : Fr) (E : XK) (f : FS) : TS := fun D σ H => ∃ ρ h G w, Rel K ρ h σ H G w ∧ WishS K E (f ρ h) H G w D
abbrev SS (X : Cx) (E : XK) (st : Stmt) (f : FS) : Prop := PS X st (tS X.K E f)
abbrev SSs (X : Cx) (E : XK) (st : List Stmt) (f : FS) : Prop := PSs X st (tS X.K E f)
theorem WishS.mono {K : Fr} {E : XK} {r : Res Out} {H G : Hp} {w : Wn} {H1 G1 : Hp} {w1 : Wn} {D : Ends} (t : Tr G H w G1 H1 w1) (W : WishS K E r H G w D) : WishS K E r H1 G1 w1 D := by
  cases r with
  | bad => exact W
  | exc x h' => exact fun c d H' G' w' R' T' r' => W c d H' G' w' R' (t.trans T') r'
  | ok o h' =>
    cases o with
    | next ρ' => exact fun σ' H' G' w' R' T' => W σ' H' G' w' R' (t.trans T')
    | ret r => exact fun v H' G' w' R' T' r' => W v H' G' w' R' (t.trans T') (rpR_m _ _ _ _ _ _ _ _ _ _ _ _ _ t r')
/-- an expression ahead of the rest of a statement -/
theorem tS_bind0 {α β : Type} {K : Fr} {E : XK} {rep : Rp α β} {f : En → Hs → Res α} {k : En → α → Hs → Res Out} {σ : L2.St} {H : Hp} {D : Ends} {C : β → Hp → Prop} (h : tS K E (fun ρ h => (f ρ h).bind (k ρ)) D σ H)
    (hC : ∀ ρ a h1 v H1 G0 G1 w0 w1, Rel K ρ h1 σ H1 G1 w1 → Tr G0 H w0 G1 H1 w1 → rep ρ σ H w0 a v H1 G1 w1 → WishS K E (k ρ a h1) H G0 w0 D → C v H1) : tX K E rep f σ H C := by
  obtain ⟨ρ, h0, G, w, R, W⟩ := h
  refine ⟨ρ, h0, G, w, R, ?_⟩
  dsimp only at W
  cases hf : f ρ h0 with
  | bad => rw [hf] at W; exact W
  | exc x h' => rw [hf] at W; exact W
  | ok a h' =>
    rw [hf] at W
    exact fun v H1 G1 w1 R1 T1 r1 => hC ρ a h' v H1 G G1 w w1 R1 T1 r1 W
theorem tS_bind {α β : Type} {K : Fr} {E : XK} {rep : Rp α β} {f : En → Hs → Res α} {k : En → α → Hs → Res Out} {σ : L2.St} {H : Hp} {D : Ends} {C : β → Hp → Prop} (h : tS K E (fun ρ h => (f ρ h).bind (k ρ)) D σ H)
    (hC : ∀ ρ a h1 v H1 G0 G1 w0 w1, Rel K ρ h1 σ H1 G1 w1 → Tr G0 H w0 G1 H1 w1 → rep ρ σ H w0 a v H1 G1 w1 → WishS K E (k ρ a h1) H1 G1 w1 D → C v H1) : tX K E rep f σ H C :=
  tS_bind0 h fun ρ a h1 v H1 G0 G1 w0 w1 R1 T1 r1 W1 => hC ρ a h1 v H1 G0 G1 w0 w1 R1 T1 r1 (W1.mono T1)
/-- the frame is left -/
def bare (w : Wn) : Wn := fun q => match q with
  | .s _ => none
  | q => w q
theorem bare_some {w : Wn} {q : Ow} {a : Addr} (h : bare w q = some a) : w q = some a := by
  cases q with
  | s i => cases h
  | o n => exact h
  | f n k => exact h
theorem Rel.drop {K : Fr} {ρ : En} {h : Hs} {σ : L2.St} {H G : Hp} {w : Wn} (R : Rel K ρ h σ H G w) : Rel K [] h [] H G (bare w) :=
  ⟨R.sub, fun q a e => R.off q a (bare_some e), fun q q' a e e' => R.inj q q' a (bare_some e) (bare_some e'), rfl, fun i s hs => by simp at hs, fun i _ => rfl, fun n o ho => (R.obs n o ho).mono (Same.refl _) rfl (fun _ => rfl) (fun _ _ => rfl) fun _ _ _ => rfl, R.obs0⟩
theorem Tr.bare {G H : Hp} {w : Wn} {G' H' : Hp} {w' : Wn} (t : Tr G H w G' H' w') : Tr G H w G' H' (bare w') := t.less (fun _ _ e => bare_some e) fun _ _ e => e
theorem rpR_bare {K : Fr} {ρ ρ' : En} {σ σ' : L2.St} {H0 : Hp} {w0 : Wn} {r : Ret} {v : V} {H G : Hp} {w : Wn} (h : rpR K ρ σ H0 w0 r v H G w) : rpR K ρ' σ' H0 w0 r v H G (bare w) := by
  cases r with
  | val d => cases d <;> exact h
  | own ts =>
    obtain ⟨a, vs, h1, h2, h3, h4, h5, h6⟩ := h
    exact ⟨a, vs, h1, h2, h3, h4, fun q z => h5 q (bare_some z), h6⟩
def fNext : FS := fun ρ h => .ok (.next ρ) h
def fSeq (f g : FS) : FS := fun ρ h => (f ρ h).bind fun o h => match o with
  | .next ρ' => g ρ' h
  | .ret r => .ok (.ret r) h
def fIfS (c : FB) (f g : FS) : FS := fun ρ h => (c ρ h).bind fun b h => match b with
  | true => f ρ h
  | false => g ρ h
def fRet (f : FR) : FS := fun ρ h => (f ρ h).bind fun r h => .ok (.ret r) h
def fRetN : FS := fun _ h => .ok (.ret (.val (.dat .none))) h
def fExp (f : FE) : FS := fun ρ h => (f ρ h).bind fun _ h => .ok (.next ρ) h
def fSet (i : Nat) (f : FE) : FS := fun ρ h => (f ρ h).bind fun d h => .ok (.next (ρ.set i (.val d))) h
def slotOf : Ret → Slot
  | .val d => .val d
  | .own ts => .own ts
def fSetR (i : Nat) (f : FR) : FS := fun ρ h => (f ρ h).bind fun r h => .ok (.next (ρ.set i (slotOf r))) h
def fBad : FS := fun _ _ => .bad
section
variable {X : Cx} {E : XK} {st : Stmt} {sts rest : List Stmt} {e a b c : Expr} {pos p : Pos} {f g : FS} {fc : FB} {fe : FE} {fr : FR}
theorem ss_nil : SSs X E [] fNext := pss_imp pss_nil fun D σ H ⟨ρ, h0, G, w, R, W⟩ => W σ H G w R Tr.refl
theorem ss_cons (h1 : SS X E st f) (h2 : SSs X E rest g) : SSs X E (st :: rest) (fSeq f g) := pss_imp (pss_cons h1 h2) fun D σ H ⟨ρ, h0, G, w, R, W⟩ => by
  refine ⟨ρ, h0, G, w, R, ?_⟩
  unfold fSeq at W
  cases hf : f ρ h0 with
  | bad => rw [hf] at W; exact W
  | exc x h' => rw [hf] at W; exact W
  | ok o h' =>
    rw [hf] at W
    cases o with
    | next ρ' => exact fun σ' H' G' w' R' T' => ⟨ρ', h', G', w', R', W.mono T'⟩
    | ret r => exact W
theorem ss_one (h1 : SS X E st f) : SSs X E [st] f := pss_one h1
theorem ss_bad : SS X E st fBad := ps_imp ps_never fun D σ H ⟨ρ, h0, G, w, R, W⟩ => W
theorem ss_pass : SS X E (.Pass pos) fNext := ps_imp ps_pass fun D σ H ⟨ρ, h0, G, w, R, W⟩ => W σ H G w R Tr.refl
theorem ss_if (hc : ST X E c fc) (ha : SSs X E sts f) (hb : SSs X E rest g) : SS X E (.If c sts rest pos) (fIfS fc f g) := ps_imp (ps_if hc ha hb) fun D σ H hw =>
  tS_bind (f := fc) hw fun ρ x h1 v H1 G0 G1 w0 w1 R1 T1 r1 W1 => by
    cases r1
    cases x with
    | true => exact iteT ⟨ρ, h1, G1, w1, R1, W1⟩
    | false => exact iteF ⟨ρ, h1, G1, w1, R1, W1⟩
theorem ss_ret (he : SR X E e fr) : SS X E (.Return (some e) pos) (fRet fr) := ps_imp (ps_ret he) fun D σ H hw =>
  tS_bind0 (f := fr) hw fun ρ x h1 v H1 G0 G1 w0 w1 R1 T1 r1 W1 => W1 _ _ _ _ R1.drop T1.bare (rpR_bare r1)
theorem ss_retN : SS X E (.Return none pos) fRetN := ps_imp ps_retN fun D σ H ⟨ρ, h0, G, w, R, W⟩ => W _ _ _ _ R.drop Tr.refl.bare (RT.none : RT G .none .non)
theorem ss_expr (he : SE X E e fe) (hs : swapsWith e none pos.line X.env = pure false := by rfl) : SS X E (.Expr e pos) (fExp fe) := ps_imp (ps_expr he hs) fun D σ H hw =>
  tS_bind (f := fe) hw fun ρ x h1 v H1 G0 G1 w0 w1 R1 T1 r1 W1 => W1 _ _ _ _ R1 Tr.refl
theorem ss_doc {x j} : SS X E (.Expr (.Constant (.str x) j pos) p) fNext := ps_imp ps_doc fun D σ H ⟨ρ, h0, G, w, R, W⟩ => W σ H G w R Tr.refl
/-! ### names -/
def put (w : Wn) (i : Nat) (a : Addr) : Wn := fun q => match q with
  | .s j => if j = i then some a else w (.s j)
  | q => w q
theorem put_some {w : Wn} {i : Nat} {a b : Addr} {q : Ow} (h : put w i a q = some b) : (q = .s i ∧ b = a) ∨ w q = some b := by
  cases q with
  | s j =>
    by_cases e : j = i
    · rw [put, if_pos e] at h
      exact .inl ⟨by rw [e], (Option.some.inj h).symm⟩
    · rw [put, if_neg e] at h; exact .inr h
  | o n => exact .inr h
  | f n k => exact .inr h
theorem put_self {w : Wn} {i : Nat} {a : Addr} : put w i a (.s i) = some a := by rw [put, if_pos rfl]
theorem put_ne {w : Wn} {i j : Nat} {a : Addr} (h : j ≠ i) : put w i a (.s j) = w (.s j) := by rw [put, if_neg h]
/-- a slot gets a list of its own -/
theorem Rel.setOwn {K : Fr} {ρ : En} {h : Hs} {σ : L2.St} {H G : Hp} {w : Wn} (R : Rel K ρ h σ H G w) {i : Nat} (hi : i < ρ.length) {ts : List T} {vs : List V} {p : Addr} (h2 : H p = some (.lst vs)) (h3 : RTs G ts vs) (h4 : G p = none) (h5 : ∀ q, w q ≠ some p) :
    Rel K (ρ.set i (.own ts)) h (σ.set i (some (.ref p))) H G (put w i p) where
  sub := R.sub
  off := fun q a e => by
    rcases put_some e with ⟨_, rfl⟩ | e
    · exact h4
    · exact R.off q a e
  inj := fun q q' a e e' => by
    rcases put_some e with ⟨z, rfl⟩ | z
    · rcases put_some e' with ⟨z', _⟩ | z'
      · rw [z, z']
      · exact absurd z' (h5 q')
    · rcases put_some e' with ⟨z', rfl⟩ | z'
      · exact absurd z (h5 q)
      · exact R.inj q q' a z z'
  len := by rw [List.length_set, List.length_set]; exact R.len
  env := fun j s hs => by
    rcases get_set hs with ⟨rfl, hi, rfl⟩ | ⟨hj, hs⟩
    · exact ⟨p, vs, put_self, by rw [List.getElem?_set_self (by rw [← R.len]; exact hi)], h2, h3⟩
    · rw [List.getElem?_set_ne (Ne.symm hj)]
      exact (R.env j s hs).mono (Same.refl _) (put_ne hj) (fun _ _ z => z) fun _ _ => rfl
  env0 := fun j hj => by
    rw [List.length_set] at hj
    rw [put_ne (by omega)]
    exact R.env0 j hj
  obs := fun n o ho => (R.obs n o ho).mono (Same.refl _) rfl (fun _ => rfl) (fun _ _ => rfl) fun _ _ _ => rfl
  obs0 := R.obs0
theorem Tr.put {G H : Hp} {w : Wn} {G' H' : Hp} {w' : Wn} {i : Nat} {p : Addr} (t : Tr G H w G' H' w') (h6 : (∃ q, w q = some p) ∨ H p = none) : Tr G H w G' H' (put w' i p) := ⟨t.gm, t.fr, t.gn, fun q b z => by
    rcases put_some z with ⟨_, rfl⟩ | z
    · exact h6
    · exact t.wn q b z, t.ob⟩
/-- .. where the slot lies beyond nothing is known -/
theorem Rel.setRet {K : Fr} {ρ ρ' : En} {hh : Hs} {σ σ' : L2.St} {H0 G0 : Hp} {w0 : Wn} {H G : Hp} {w : Wn} (R : Rel K ρ hh σ H G w) (t : Tr G0 H0 w0 G H w) {i : Nat} (hi : i < ρ.length) {r : Ret} {v : V} (h : rpR K ρ' σ' H0 w0 r v H G w) :
    ∃ w', Rel K (ρ.set i (slotOf r)) hh (σ.set i (some v)) H G w' ∧ Tr G0 H0 w0 G H w' ∧ ∀ q, q ≠ .s i → w' q = w q := by
  cases r with
  | val d => exact ⟨_, R.setVal h, t.trans (Tr.clr i), fun q hq => by
      cases q with
      | s j => exact clr_ne fun z => hq (by rw [z])
      | o n => rfl
      | f n k => rfl⟩
  | own ts =>
    obtain ⟨p, vs, rfl, h2, h3, h4, h5, h6⟩ := h
    exact ⟨_, R.setOwn hi h2 h3 h4 h5, t.put h6, fun q hq => by
      cases q with
      | s j => exact put_ne fun z => hq (by rw [z])
      | o n => rfl
      | f n k => rfl⟩
theorem pe_slots {e : Expr} {t : TE} (h : PE X e t) : PE X e (fun σ H Q => σ.length = X.N.length → t σ H Q) := ⟨fun pins s σ H Q I hw => h.run pins s σ H Q I (hw I.len)⟩
theorem ps_slots {st : Stmt} {t : TS} (h : PS X st t) : PS X st (fun D σ H => σ.length = X.N.length → t D σ H) := ⟨fun pins s σ H Q I hw => h.run pins s σ H Q I (hw I.len)⟩
theorem ss_set {i : Nat} {x : Str} {pos' : Pos} (hN : X.N.Nodup) (hi : X.N[i]? = some x) (hx : Loc X.env.scope x) (he : SE X E e fe) (hs : swapsWith e (some (.Name x pos')) pos.line X.env = pure false := by rfl) (hf : X.fn x = true ∨ X.env.scope.names.lookup x = some .local := by first | exact .inl rfl | exact .inr rfl | assumption) :
    SS X E (.Assign [.Name x pos'] e pos) (fSet i fe) := ps_imp (ps_set hN hi hx he hs hf) fun D σ H hw =>
  tS_bind (f := fe) hw fun ρ d h1 v H1 G0 G1 w0 w1 R1 T1 r1 W1 => W1 _ _ _ _ (R1.setVal r1) (Tr.clr i)
theorem setR_aux {i : Nat} {x : Str} {σ : L2.St} {H : Hp} {D : Ends} (hi : X.N[i]? = some x) (hw : tS X.K E (fSetR i fr) D σ H) (hl : σ.length = X.N.length) : tX X.K E (rpR X.K) fr σ H fun v H1 => D.nx (σ.set i (some v)) H1 :=
  tS_bind0 (f := fr) hw fun ρ r h1 v H1 G0 G1 w0 w1 R1 T1 r1 W1 => by
    obtain ⟨w', R2, T2, _⟩ := R1.setRet T1 (i := i) (by rw [R1.len, hl]; exact (List.getElem?_eq_some_iff.mp hi).1) r1
    exact W1 _ _ _ _ R2 T2
theorem ss_setR {i : Nat} {x : Str} {pos' : Pos} (hN : X.N.Nodup) (hi : X.N[i]? = some x) (hx : Loc X.env.scope x) (he : SR X E e fr) (hs : swapsWith e (some (.Name x pos')) pos.line X.env = pure false := by rfl) (hf : X.fn x = true ∨ X.env.scope.names.lookup x = some .local := by first | exact .inl rfl | exact .inr rfl | assumption) :
    SS X E (.Assign [.Name x pos'] e pos) (fSetR i fr) := ps_imp (ps_slots (ps_set hN hi hx he hs hf)) fun D σ H hw hl => setR_aux hi hw hl
/-- x = [..] of a comprehension, on one line, x no cell -/
theorem ss_setLc {i : Nat} {y : Str} {py : Pos} {elt tg iter : Expr} {ifs : List Expr} {scope : Scope} {own : List (Str × Nat)} {spos : Pos} {fi : FL} {ft : FB} {ge : FE} {gt : Tgt} {g : TG} (hc : X.calm = true) (hN : X.N.Nodup) (hy : X.N[i]? = some y) (hyl : X.env.scope.names.lookup y = some .local)
    (hsw : swapsWith (.ListComp elt [⟨tg, iter, ifs, 0⟩] scope pos) (some (.Name y py)) spos.line X.env = pure true) (hi : SI X E tg iter fi) (ok : BlkOk X.N X.env.scope scope own) (tk : TgOk X.K (own.map (·.2)) gt g)
    (hg : ∀ (s : Shared) (H : Hp) (C : Addr) (cl : List (Str × Addr)) (fp : List Addr), PG (X.blk s H scope (compEnvC scope cl C X.env) fp) tg g) (ht : ∀ (s : Shared) (H : Hp) (C : Addr) (cl : List (Str × Addr)) (fp : List Addr), PTs (X.blk s H scope (compEnvC scope cl C X.env) fp) ifs (tX X.K EX0 rpB ft))
    (he : ∀ (s : Shared) (H : Hp) (C : Addr) (cl : List (Str × Addr)) (fp : List Addr), SE (X.blk s H scope (compEnvC scope cl C X.env) fp) EX0 elt ge) (hs : ∀ x, foldedSetIterable iter X.env x = pure x := by intro _; rfl) :
    SS X E (.Assign [.Name y py] (.ListComp elt [⟨tg, iter, ifs, 0⟩] scope pos) spos) (fSetR i (fComp (own.map (·.2)) gt fi ft ge)) :=
  ps_imp (ps_slots (ps_setLc hc hN hy hyl hsw hi ok hg ht he hs)) fun D σ H hw hl => comp_aux tk (setR_aux hy hw hl)
/-- a list of one's own is told from now on -/
def fFrz (i : Nat) (f : FS) : FS := fun ρ h => match ρ[i]? with
  | some (.own ts) => f (ρ.set i (.val (.dat (.list ts)))) h
  | _ => f ρ h
theorem Rel.freeze {K : Fr} {ρ : En} {h : Hs} {σ : L2.St} {H G : Hp} {w : Wn} (R : Rel K ρ h σ H G w) {i : Nat} {ts : List T} (hs : ρ[i]? = some (.own ts)) : ∃ G', Rel K (ρ.set i (.val (.dat (.list ts)))) h σ H G' (clr w i) ∧ Tr G H w G' H (clr w i) := by
  obtain ⟨a, vs, h1, h2, h3, h4⟩ := R.env i _ hs
  have R1 := R.setUn i (some (.ref a))
  have hn : ∀ q, clr w i q ≠ some a := fun q z => by
    have := R.inj _ _ _ (clr_some z) h1
    subst this
    rw [clr_self] at z
    cases z
  have R2 := R1.tell h3 (R.off _ _ h1) hn
  have g := same_upd (o := HO.lst vs) (R.off _ _ h1)
  refine ⟨upd G a (.lst vs), ?_, (Tr.clr i).tell (R.off _ _ h1) (.inl ⟨_, h1⟩)⟩
  have R3 := R2.setVal (i := i) (d := .dat (.list ts)) (v := .ref a) (RT.mkList upd_same (h4.mono g))
  rw [List.set_set, List.set_set, clr_id clr_self] at R3
  have e : σ.set i (some (V.ref a)) = σ := by
    apply List.ext_getElem?
    intro j
    by_cases hj : i = j
    · subst hj
      rw [List.getElem?_set_self (List.getElem?_eq_some_iff.mp h2).1, h2]
    · rw [List.getElem?_set_ne hj]
  rw [e] at R3
  exact R3
theorem ss_frz (i : Nat) (h : SSs X E sts f) : SSs X E sts (fFrz i f) := pss_imp h fun D σ H ⟨ρ, h0, G, w, R, W⟩ => by
  unfold fFrz at W
  split at W
  · rename_i ts hs
    obtain ⟨G', R', T'⟩ := R.freeze hs
    exact ⟨_, h0, G', _, R', W.mono T'⟩
  · exact ⟨ρ, h0, G, w, R, W⟩
/-! ### append -/
def fApp (i : Nat) (f : FE) : FS := fun ρ h => match ρ[i]? with
  | some (.own ts) => (f ρ h).bind fun d h => match d with
    | .dat t => if ts.length < 100000 then .ok (.next (ρ.set i (.own (ts ++ [t])))) h else .bad
    | _ => .bad
  | _ => .bad
/-- the list of a slot is changed -/
theorem Rel.chg {K : Fr} {ρ : En} {h : Hs} {σ : L2.St} {H G : Hp} {w : Wn} (R : Rel K ρ h σ H G w) {i : Nat} {ts ts' : List T} {vs' : List V} {a : Addr} (hs : ρ[i]? = some (.own ts)) (ha : w (.s i) = some a) (r : RTs G ts' vs') : Rel K (ρ.set i (.own ts')) h σ (upd H a (.lst vs')) G w ∧ Tr G H w G (upd H a (.lst vs')) w := by
  have hk : ∀ q b, q ≠ .s i → w q = some b → upd H a (.lst vs') b = H b := fun q b hq e => upd_ne fun z => hq (R.inj _ _ _ e (by rw [z]; exact ha))
  have hsub : Same G (upd H a (.lst vs')) := fun c u z => by
    rw [upd_ne fun y : c = a => by rw [y, R.off _ _ ha] at z; cases z]
    exact R.sub c u z
  refine ⟨⟨hsub, R.off, R.inj, by rw [List.length_set]; exact R.len, fun j s hj => ?_, fun j hj => R.env0 j (by rw [List.length_set] at hj; exact hj), fun n u ho => (R.obs n u ho).mono (Same.refl _) rfl (fun _ => rfl) (fun b e => hk _ b (fun z => by cases z) e) fun k b e => hk _ b (fun z => by cases z) e, R.obs0⟩,
    ⟨Same.refl _, fun b o e hq => by rw [upd_ne fun z => hq _ (by rw [z]; exact ha)]; exact e, fun _ z => .inl z, fun q b z => .inl ⟨q, z⟩, fun _ _ z => z⟩⟩
  rcases get_set hj with ⟨rfl, _, rfl⟩ | ⟨hne, hj⟩
  · obtain ⟨b, vs, h1, h2, h3, h4⟩ := R.env j _ hs
    rw [ha] at h1
    cases h1
    exact ⟨a, vs', ha, h2, upd_same, r⟩
  · exact (R.env j s hj).mono (Same.refl _) rfl (fun _ _ z => z) fun b e => hk _ b (fun z => hne (by cases z; rfl)) e
theorem ss_app {i : Nat} {o : Expr} {apos : Pos} (ho : PE X o (tVar i)) (he : SE X E e fe) (hbase : attributeBase o "append" X.env (eval o X.env) = eval o X.env := by rfl)
    (hfew : ((backTo p (starEach [e] X.env)).all (fun x => !x.1) && (backToKw p (keywordEach [] X.env)).all (fun x => x.1.isSome) && decide ([e].length + ([] : List Keyword).length + (if ([] : List Keyword).isEmpty then 0 else 1) < 30)) = true := by rfl)
    (hline : (apos.endLine == p.line) = true := by rfl) (hs : starEach [e] X.env = (false, eval e X.env) :: starEach [] X.env := by rfl) (hplain : (backTo p (starEach [] X.env)).any (·.1) = false := by rfl) (hsw : swapsWith (.Call (.Attribute o "append" apos) [e] [] p) none pos.line X.env = pure false := by rfl) :
    SS X E (.Expr (.Call (.Attribute o "append" apos) [e] [] p) pos) (fApp i fe) := ps_imp (ps_expr (pe_bm PySem.F.plainAttrs_list PySem.F.slot_list_append PySem.F.type_list_append mt_append ho (pa_cons he pa_nil hs) hbase hfew hline hs hplain) hsw) fun D σ H hw => by
  obtain ⟨ρ, h0, G, w, R, W⟩ := hw
  unfold fApp at W
  split at W
  · rename_i ts hsl
    obtain ⟨a, vs, h1, h2, h3, h4⟩ := R.env i _ hsl
    refine ⟨_, h2, Or.inl ⟨rfl, vs, SqL.of h3⟩, ρ, h0, G, w, R, ?_⟩
    cases hf : fe ρ h0 with
    | bad => rw [hf] at W; exact W.elim
    | exc x h' => rw [hf] at W; exact W
    | ok d h' =>
      rw [hf] at W
      cases d with
      | obj n => exact W.elim
      | scr n => exact W.elim
      | dat t =>
        dsimp only [Res.bind] at W
        split at W
        · rename_i hl
          intro v H' G' w' R' T' r'
          obtain ⟨a', vs', h1', h2', h3', h4'⟩ := R'.env i _ hsl
          rw [h2] at h2'
          cases h2'
          obtain ⟨R2, T2⟩ := R'.chg hsl h1' (h4'.append (.cons r' .nil))
          refine ⟨a, vs', v, rfl, rfl, h3', ?_, W _ _ _ _ R2 (T'.trans T2)⟩
          rw [h4'.length]
          exact Nat.lt_of_lt_of_le hl (by decide)
        · exact W.elim
  · exact W.elim
end
end Pf
set_option Elab.async false
set_option linter.all false
set_option maxRecDepth 100000
set_option maxHeartbeats 1000000
namespace Pf
open PySem PySem.Spec PyProof.Rows L2
/-! ### for -/
def forL (gt : Tgt) (fb : FS) : List T → FS
  | [] => fNext
  | t :: ts => fun ρ h => match gt t ρ with
    | none => .bad
    | some ρ1 => fSeq fb (forL gt fb ts) ρ1 h
def fFor (gt : Tgt) (fi : FL) (fb : FS) : FS := fun ρ h => (fi ρ h).bind fun ts h => forL gt fb ts ρ h
section
variable {X : Cx} {E : XK} {tg iter e a b c : Expr} {body sts : List Stmt} {pos p : Pos} {fi : FL} {fb : FS} {gt : Tgt} {g : TG} {is : List Nat} {fe : FE} {fr : FR} {es : List Expr}
theorem ss_for (hp : PassesOwn (model X.prog X.w) X.A X.env X.xe) (hc : X.calm = true) (hi : SI X E tg iter fi) (tk : TgOk X.K is gt g) (hg : PG X tg g) (hb : SSs X E body fb) (hs : ∀ x, foldedSetIterable iter X.env x = pure x := by intro _; rfl) : SS X E (.For tg iter body [] pos) (fFor gt fi fb) :=
  ps_imp (ps_for hp hc hi hg hb hs) fun D σ H hw => tS_bind (f := fi) hw fun ρ ts h1 J H1 G0 G1 w0 w1 R1 T1 r1 W1 => by
    refine for_it r1.2 (fun k σ' H' => ∃ ρk hk Gk wk, Rel X.K ρk hk σ' H' Gk wk ∧ Tr G1 H1 w1 Gk H' wk ∧ WishS X.K E (forL gt fb (ts.drop k) ρk hk) H' Gk wk D) ⟨ρ, h1, G1, w1, R1, Tr.refl, W1⟩ ?_ ?_ ?_
    · rintro k σ' H' _ ⟨ρk, hk, Gk, wk, Rk, Tk, _⟩
      exact Tk.gm.trans Rk.sub
    · rintro k x σ' H' H'' hk ⟨ρk, hk', Gk, wk, Rk, Tk, Wk⟩ y
      obtain ⟨t, G'', ht, hn, rx⟩ := ity_new Tk.gm Rk.sub y
      have hd : ts.drop k = t :: ts.drop (k + 1) := by
        rw [List.drop_eq_getElem_cons hk]
        congr 1
        have := List.getElem?_eq_getElem hk
        rw [ht] at this
        exact (Option.some.inj this).symm
      rw [hd, forL] at Wk
      dsimp only at Wk
      cases hg : gt t ρk with
      | none => rw [hg] at Wk; exact Wk.elim
      | some ρ1 =>
        rw [hg] at Wk
        dsimp only [fSeq] at Wk
        obtain ⟨R2, T2⟩ := Rk.new hn
        refine tk.run _ ρ1 hk' _ _ _ _ t x _ R2 rx hg fun σ2 w2 R3 T3 e1 e2 e3 => ⟨ρ1, hk', G'', w2, R3, ?_⟩
        have Wk := Wk.mono (T2.trans T3)
        have T4 := Tk.trans (T2.trans T3)
        cases hf : fb ρ1 hk' with
        | bad => rw [hf] at Wk; exact Wk
        | exc x h' => rw [hf] at Wk; exact Wk
        | ok o h' =>
          rw [hf] at Wk
          cases o with
          | ret r => exact Wk
          | next ρ2 => exact fun σ3 H3 G3 w3 R4 T5 => ⟨ρ2, h', G3, w3, R4, T4.trans T5, Wk.mono T5⟩
    · rintro σ' H' ⟨ρk, hk, Gk, wk, Rk, Tk, Wk⟩
      rw [List.drop_length, forL] at Wk
      exact Wk _ _ _ _ Rk Tr.refl
/-! ### several targets -/
def gN3 (i j l : Nat) : Tgt := fun t ρ => match t with
  | .tuple [a, b, c] => some (((ρ.set i (.val (.dat a))).set j (.val (.dat b))).set l (.val (.dat c)))
  | _ => none
/-- a, b = e; the target as a whole -/
def fAsg (gt : Tgt) (f : FE) : FS := fun ρ h => (f ρ h).bind fun d h => match d with
  | .dat t => match gt t ρ with
    | some ρ' => .ok (.next ρ') h
    | none => .bad
  | _ => .bad
/-- a target by what it stores alone -/
structure TgS (K : Fr) (gt : Tgt) (g : TG) : Prop where
  run : ∀ (ρ ρ' : En) (h : Hs) (σ : L2.St) (H G : Hp) (w : Wn) (t : T) (v : V) (Q : L2.St → Hp → Prop), Rel K ρ h σ H G w → RT G t v → gt t ρ = some ρ' → (∀ σ' w', Rel K ρ' h σ' H G w' → Tr G H w G H w' → Q σ' H) → g v σ H Q
theorem TgOk.s {K : Fr} (h : TgOk K is gt g) : TgS K gt g := ⟨fun ρ ρ' hh σ H G w t v Q R r e k => h.run ρ ρ' hh σ H G w t v Q R r e fun σ' w' R' T' _ _ _ => k σ' w' R' T'⟩
theorem tg_n3 {K : Fr} {i j l : Nat} : TgS K (gN3 i j l) (gTup K 3 (gCons (gName i) (gCons (gName j) (gCons (gName l) gNil)))) := ⟨fun ρ ρ' hh σ H G w t v Q R r e k => by
  unfold gN3 at e
  split at e
  · rename_i ta tb tc
    cases e
    obtain ⟨p, vs, rfl, h1, h2⟩ := RT.tuple r
    obtain ⟨va, vs', rfl, ra, h3⟩ := h2.uncons
    obtain ⟨vb, vs'', rfl, rb, h4⟩ := h3.uncons
    obtain ⟨vc, vs''', rfl, rc, h5⟩ := h4.uncons
    cases h5.unnil
    refine ⟨p, _, rfl, SqT.of (R.sub _ _ h1), rfl, va, [vb, vc], rfl, vb, [vc], rfl, vc, [], rfl, rfl, ?_⟩
    have R1 := R.setVal (i := i) (d := .dat ta) ra
    have R2 := R1.setVal (i := j) (d := .dat tb) rb
    have R3 := R2.setVal (i := l) (d := .dat tc) rc
    exact k _ _ R3 (((Tr.clr i).trans (Tr.clr j)).trans (Tr.clr l))
  · cases e⟩
theorem ss_asg (he : SE X E e fe) (tk : TgS X.K gt g) (hg : PG X tg g) (hs : swapsWithSole [tg] e pos.line X.env = pure false := by rfl) (hw : swappedStores [tg] e X.env = pure none := by rfl) (h1 : (assignEach [tg] X.env).map (·.2) = [assign tg X.env] := by rfl) : SS X E (.Assign [tg] e pos) (fAsg gt fe) :=
  ps_imp (ps_asg he hg hs hw h1) fun D σ H hw => tS_bind (f := fe) hw fun ρ d h1 v H1 G0 G1 w0 w1 R1 T1 r1 W1 => by
    cases d with
    | obj n => exact W1.elim
    | scr n => exact W1.elim
    | dat t =>
      dsimp only at W1
      cases hgt : gt t ρ with
      | none => rw [hgt] at W1; exact W1.elim
      | some ρ' =>
        rw [hgt] at W1
        exact tk.run ρ ρ' _ _ _ _ _ t v _ R1 r1 hgt fun σ' w' R' T' => W1 _ _ _ _ R' T'
/-! ### parallel stores -/
abbrev FRs := En → Hs → Res (List Ret)
def NoOwn (v : V) : List Ret → List V → Prop
  | .own _ :: rs, v' :: vs => v' ≠ v ∧ NoOwn v rs vs
  | .val _ :: rs, _ :: vs => NoOwn v rs vs
  | _, _ => True
def RetsR (K : Fr) (H0 : Hp) (w0 : Wn) (H G : Hp) (w : Wn) : List Ret → List V → Prop
  | [], vs => vs = []
  | r :: rs, vs => ∃ v vs', vs = v :: vs' ∧ rpR K [] [] H0 w0 r v H G w ∧ RetsR K H0 w0 H G w rs vs' ∧ ∀ ts, r = .own ts → NoOwn v rs vs'
def rpRs (K : Fr) : Rp (List Ret) (List V) := fun _ _ H0 w0 rs vs H G w => RetsR K H0 w0 H G w rs vs
theorem rets_m {K : Fr} {G H : Hp} {w : Wn} {G1 H1 : Hp} {w1 : Wn} {H' G' : Hp} {w' : Wn} (t : Tr G H w G1 H1 w1) : ∀ {rs : List Ret} {vs : List V}, RetsR K H1 w1 H' G' w' rs vs → RetsR K H w H' G' w' rs vs
  | [], _, h => h
  | r :: rs, _, ⟨v, vs', e, h1, h2, h3⟩ => ⟨v, vs', e, rpR_m [] [] _ _ _ _ _ _ _ _ _ _ _ t h1, rets_m t h2, h3⟩
theorem rpRs_m {K : Fr} : RpM (rpRs K) := fun ρ σ G H w G1 H1 w1 r b H' G' w' t h => rets_m t h
abbrev SRs (X : Cx) (E : XK) (es : List Expr) (f : FRs) : Prop := PA X es (tX X.K E (rpRs X.K) f)
def fRNil : FRs := fun _ h => .ok [] h
def fRCons (f : FR) (g : FRs) : FRs := fun ρ h => (f ρ h).bind fun d h => (g ρ h).bind fun ds h => .ok (d :: ds) h
theorem sq_nil : SRs X E [] fRNil := pa_imp pa_nil fun σ H Q ⟨ρ, h0, G, w, R, W⟩ => W.fin0 R rfl
/-- a value that a list of one's own could not be -/
theorem rpR_step {K : Fr} {ρ ρ' : En} {σ σ' : L2.St} {H0 : Hp} {w0 : Wn} {r : Ret} {v : V} {H G : Hp} {w : Wn} {H' G' : Hp} {w' : Wn} (t : Tr G H w G' H' w') (h : rpR K ρ σ H0 w0 r v H G w) : rpR K ρ' σ' H0 w0 r v H' G' w' := by
  cases r with
  | val d => exact RD.mono t h
  | own ts => exact OwnR.step t h
theorem noOwn_of {K : Fr} {H1 : Hp} {w1 : Wn} {a : Addr} {o : HO} (h2 : H1 a = some o) (h5 : ∀ q, w1 q ≠ some a) {H G : Hp} {w : Wn} : ∀ {rs : List Ret} {vs : List V}, RetsR K H1 w1 H G w rs vs → NoOwn (.ref a) rs vs
  | [], vs, _ => by unfold NoOwn; trivial
  | .val d :: rs, _, ⟨v, vs', rfl, h1, h3, _⟩ => by
    show NoOwn (.ref a) rs vs'
    exact noOwn_of h2 h5 h3
  | .own ts :: rs, _, ⟨v, vs', rfl, h1, h3, _⟩ => by
    refine ⟨fun z => ?_, noOwn_of h2 h5 h3⟩
    obtain ⟨b, us, e, _, _, _, _, h6⟩ := h1
    rw [z] at e
    cases e
    rcases h6 with ⟨q, y⟩ | y
    · exact h5 q y
    · rw [h2] at y; cases y
theorem sq_cons {f : FR} {g : FRs} (ha : SR X E e f) (hb : SRs X E es g) (hs : starEach (e :: es) X.env = (false, eval e X.env) :: starEach es X.env := by rfl) : SRs X E (e :: es) (fRCons f g) := pa_imp (pa_cons ha hb hs) fun σ H Q hw =>
  tX_bind0 (f := f) rpRs_m hw fun ρ r h1 v H1 G0 G1 w0 w1 R1 T1 r1 W1 => by
    refine ⟨ρ, h1, G1, w1, R1, ?_⟩
    cases hg : g ρ h1 with
    | bad => rw [hg] at W1; exact W1
    | exc x h' => rw [hg] at W1; exact fun c d H' G' w' R' T' r' => W1 c d H' G' w' R' (T1.trans T') r'
    | ok rs h2 =>
      rw [hg] at W1
      intro vs H2 G2 w2 R2 T2 r2
      refine W1 _ _ _ _ R2 (T1.trans T2) ⟨v, vs, rfl, rpR_step T2 r1, rets_m T1 r2, fun ts e => ?_⟩
      subst e
      obtain ⟨a, us, rfl, h3, _, _, h5, _⟩ := r1
      exact noOwn_of h3 h5 r2
/-- stored one behind the other -/
def setAll : List (Nat × Ret) → En → En
  | [], ρ => ρ
  | (i, r) :: l, ρ => setAll l (ρ.set i (slotOf r))
theorem Rel.setRets {K : Fr} {hh : Hs} {H0 G0 : Hp} {w0 : Wn} {H G : Hp} : ∀ {is : List Nat} {rs : List Ret} {vs : List V} {ρ : En} {σ : L2.St} {w : Wn}, Rel K ρ hh σ H G w → Tr G0 H0 w0 G H w → RetsR K H0 w0 H G w rs vs → is.length = rs.length → (∀ i ∈ is, i < ρ.length) →
    ∃ w', Rel K (setAll (is.zip rs) ρ) hh ((is.zip vs).foldl (fun σ p => σ.set p.1 (some p.2)) σ) H G w' ∧ Tr G0 H0 w0 G H w' := by
  intro is
  induction is with
  | nil => exact fun R t _ _ _ => ⟨_, R, t⟩
  | cons i is ihh =>
    intro rs vs ρ σ w R t hR hl hi
    cases rs with
    | nil => cases hl
    | cons r rs =>
    obtain ⟨v, vs', rfl, h1, h2, h3⟩ := hR
    have hir : i < ρ.length := hi i (List.mem_cons_self ..)
    have key : ∀ (w' : Wn), (∀ q, q ≠ .s i → w' q = w q) → (∀ c, w' (.s i) = some c → v = .ref c ∧ ∃ ts, r = .own ts) → RetsR K H0 w0 H G w' rs vs' := by
      intro w' hw hc
      have aux : ∀ (rs : List Ret) (vs : List V), RetsR K H0 w0 H G w rs vs → (∀ ts, r = .own ts → NoOwn v rs vs) → RetsR K H0 w0 H G w' rs vs := by
        intro rs
        induction rs with
        | nil => exact fun vs h _ => h
        | cons r' rs ih =>
          rintro vs ⟨v', vs', rfl, g1, g2, g3⟩ hno
          refine ⟨v', vs', rfl, ?_, ih vs' g2 fun ts e => ?_, g3⟩
          · cases r' with
            | val d =>
              cases d with
              | dat t => exact g1
              | obj n =>
                obtain ⟨a, e, z⟩ := g1
                exact ⟨a, (hw (.o n) (fun z => by cases z)).trans e, z⟩
              | scr ns => exact g1
            | own ts =>
              obtain ⟨a, us, e, k1, k2, k3, k4, k5⟩ := g1
              refine ⟨a, us, e, k1, k2, k3, fun q z => ?_, k5⟩
              by_cases hq : q = .s i
              · subst hq
                obtain ⟨e1, ts', e2⟩ := hc a z
                exact (hno ts' e2).1 (by rw [e, e1])
              · rw [hw q hq] at z
                exact k4 q z
          · have := hno ts e
            cases r' with
            | val d => exact this
            | own _ => exact this.2
      exact aux rs vs' h2 h3
    cases r with
    | val d =>
      have R1 := R.setVal (i := i) h1
      obtain ⟨w', R2, T2⟩ := ihh (rs := rs) (vs := vs') R1 (t.trans (Tr.clr i)) (key _ (fun q hq => by
        cases q with
        | s j => exact clr_ne fun z => hq (by rw [z])
        | o n => rfl
        | f n k => rfl) fun c z => by rw [clr_self] at z; cases z) (by simpa using hl) fun j hj => by rw [List.length_set]; exact hi j (List.mem_cons_of_mem _ hj)
      exact ⟨w', R2, T2⟩
    | own ts =>
      obtain ⟨a, us, rfl, k1, k2, k3, k4, k5⟩ := h1
      have R1 := R.setOwn hir k1 k2 k3 k4
      obtain ⟨w', R2, T2⟩ := ihh (rs := rs) (vs := vs') R1 (t.put k5) (key _ (fun q hq => by
        cases q with
        | s j => exact put_ne fun z => hq (by rw [z])
        | o n => rfl
        | f n k => rfl) fun c z => by rw [put_self] at z; cases z; exact ⟨rfl, ts, rfl⟩) (by simpa using hl) fun j hj => by rw [List.length_set]; exact hi j (List.mem_cons_of_mem _ hj)
      exact ⟨w', R2, T2⟩
def fPar (is : List Nat) (g : FRs) : FS := fun ρ h => (g ρ h).bind fun rs h => if rs.length = is.length then .ok (.next (setAll (is.zip rs) ρ)) h else .bad
theorem rets_len {K : Fr} {H0 : Hp} {w0 : Wn} {H G : Hp} {w : Wn} : ∀ {rs : List Ret} {vs : List V}, RetsR K H0 w0 H G w rs vs → vs.length = rs.length
  | [], _, h => by rw [show _ = [] from h]; rfl
  | r :: rs, _, ⟨v, vs', rfl, _, h2, _⟩ => by simp [rets_len h2]
theorem par_aux {is : List Nat} {σ : L2.St} {H : Hp} {D : Ends} {g : FRs} (hi : ∀ i ∈ is, i < X.N.length) (hw : tS X.K E (fPar is g) D σ H) (hl : σ.length = X.N.length) : tX X.K E (rpRs X.K) g σ H fun vs H1 => vs.length = is.length ∧ D.nx ((is.zip vs).foldl (fun σ p => σ.set p.1 (some p.2)) σ) H1 :=
  tS_bind0 (f := g) hw fun ρ rs h1 vs H1 G0 G1 w0 w1 R1 T1 r1 W1 => by
    split at W1
    · rename_i hr
      obtain ⟨w', R2, T2⟩ := Rel.setRets (is := is) R1 T1 r1 hr.symm fun i h => by rw [R1.len, hl]; exact hi i h
      exact ⟨by rw [rets_len r1]; exact hr, W1 _ _ _ _ R2 T2⟩
    · exact W1.elim
theorem ix_lt {i : Nat} {x : Str} (h : X.N[i]? = some x) : i < X.N.length := (List.getElem?_eq_some_iff.mp h).1
theorem ss_par2 {i j : Nat} {x y : Str} {px py pt : Pos} {kt k2 pt2} {g : FRs} (hc : X.calm = true) (hN : X.N.Nodup) (hi : X.N[i]? = some x) (hj : X.N[j]? = some y) (hij : i ≠ j)
    (hx : X.env.scope.names.lookup x = some .local) (hy : X.env.scope.names.lookup y = some .local) (ha : SRs X E [a, b] g)
    (hw : swappedStores [.Tuple [.Name x px, .Name y py] kt pt] (.Tuple [a, b] k2 pt2) X.env = pure (some [x, y]))
    (hs : swapsWithSole [.Tuple [.Name x px, .Name y py] kt pt] (.Tuple [a, b] k2 pt2) pos.line X.env = pure false := by rfl) :
    SS X E (.Assign [.Tuple [.Name x px, .Name y py] kt pt] (.Tuple [a, b] k2 pt2) pos) (fPar [i, j] g) := ps_imp (ps_slots (ps_par hc hN hi hj hij hx hy ha hw hs)) fun D σ H hw hl => by
  refine tX_imp (fun vs H1 h => ?_) (par_aux (is := [i, j]) (fun k hk => by
    rcases List.mem_cons.mp hk with z | z
    · rw [z]; exact ix_lt hi
    · rw [List.mem_singleton.mp z]; exact ix_lt hj) hw hl)
  obtain ⟨h1, h2⟩ := h
  match vs, h1 with
  | [v, u], _ => exact ⟨v, u, rfl, h2⟩
theorem ss_par3 {i j l : Nat} {x y z : Str} {px py pz pt : Pos} {kt k2 pt2} {g : FRs} (hc : X.calm = true) (hN : X.N.Nodup) (hi : X.N[i]? = some x) (hj : X.N[j]? = some y) (hl : X.N[l]? = some z) (hij : i ≠ j) (hil : i ≠ l) (hjl : j ≠ l)
    (hx : X.env.scope.names.lookup x = some .local) (hy : X.env.scope.names.lookup y = some .local) (hz : X.env.scope.names.lookup z = some .local) (ha : SRs X E [a, b, c] g)
    (hw : swappedStores [.Tuple [.Name x px, .Name y py, .Name z pz] kt pt] (.Tuple [a, b, c] k2 pt2) X.env = pure (some [x, y, z]))
    (hs : swapsWithSole [.Tuple [.Name x px, .Name y py, .Name z pz] kt pt] (.Tuple [a, b, c] k2 pt2) pos.line X.env = pure false := by rfl) :
    SS X E (.Assign [.Tuple [.Name x px, .Name y py, .Name z pz] kt pt] (.Tuple [a, b, c] k2 pt2) pos) (fPar [i, j, l] g) := ps_imp (ps_slots (ps_par3 hc hN hi hj hl hij hil hjl hx hy hz ha hw hs)) fun D σ H hw hlen => by
  refine tX_imp (fun vs H1 h => ?_) (par_aux (is := [i, j, l]) (fun k hk => by
    rcases List.mem_cons.mp hk with z | z
    · rw [z]; exact ix_lt hi
    · rcases List.mem_cons.mp z with z | z
      · rw [z]; exact ix_lt hj
      · rw [List.mem_singleton.mp z]; exact ix_lt hl) hw hlen)
  obtain ⟨h1, h2⟩ := h
  match vs, h1 with
  | [v, u, t], _ => exact ⟨v, u, t, rfl, h2⟩
end
end Pf
set_option Elab.async false
set_option linter.all false
set_option maxRecDepth 100000
set_option maxHeartbeats 1000000
namespace Pf
open PySem PySem.Spec PyProof.Rows L2
/-! ### a def -/
def WishF (K : Fr) (E : XK) (r : Res Ret) (H G : Hp) (w : Wn) (Q : VK) : Prop := match r with
  | .bad => False
  | .ok r h' => ∀ v H' G' w', Rel K [] h' [] H' G' w' → Tr G H w G' H' w' → rpR K [] [] H w r v H' G' w' → Q v H'
  | .exc x h' => ∀ c d H' G' w', Rel K [] h' [] H' G' w' → Tr G H w G' H' w' → ExcR K x c d H' G' → E c d H'
def spD (K : Fr) (np : Nat) (s : Sem1) : Sp := fun vs H Q E => vs.length = np ∧ ∃ ds h G w, Rel K [] h [] H G w ∧ RDs K G w ds vs ∧ WishF K E (noX (s ds h)) H G w Q
theorem rds_len {K : Fr} {G : Hp} {w : Wn} {ds : List D} {vs : List V} (h : RDs K G w ds vs) : vs.length = ds.length := by
  induction h with
  | nil => rfl
  | cons _ _ ih => simp [ih]
/-- the slots of the one, the objects of the other -/
def joinW (w wc : Wn) : Wn := fun q => match q with
  | .s i => w (.s i)
  | q => wc q
section
variable {K : Fr} {ρ : En} {h h' : Hs} {σ : L2.St} {H G H' G' : Hp} {w wc : Wn}
theorem bare_sub {q : Ow} {a : Addr} (e : bare w q = some a) : w q = some a := bare_some e
theorem join_some {q : Ow} {a : Addr} (e : joinW w wc q = some a) : (∃ i, q = .s i ∧ w (.s i) = some a) ∨ wc q = some a := by
  cases q with
  | s i => exact .inl ⟨i, rfl, e⟩
  | o n => exact .inr e
  | f n k => exact .inr e
theorem slot_apart (R : Rel K ρ h σ H G w) {i : Nat} {a : Addr} (e : w (.s i) = some a) : ∀ q, bare w q ≠ some a := fun q z => by
  have := R.inj _ _ _ (bare_sub z) e
  subst this
  cases z
theorem Rel.join (R : Rel K ρ h σ H G w) (R' : Rel K [] h' [] H' G' wc) (t : Tr G H (bare w) G' H' wc) : Rel K ρ h' σ H' G' (joinW w wc) where
  sub := R'.sub
  off := fun q a e => by
    rcases join_some e with ⟨i, rfl, e⟩ | e
    · obtain ⟨o, ho, hno⟩ := R.there2 e
      exact (t.hold ho (R.off _ _ e) (slot_apart R e) hno).2.1
    · exact R'.off q a e
  inj := fun q q' a e e' => by
    have key : ∀ i q', w (.s i) = some a → wc q' = some a → False := fun i q' z z' => by
      obtain ⟨o, ho, hno⟩ := R.there2 z
      exact (t.hold ho (R.off _ _ z) (slot_apart R z) hno).2.2 q' z'
    rcases join_some e with ⟨i, rfl, e⟩ | e
    · rcases join_some e' with ⟨j, rfl, e'⟩ | e'
      · exact R.inj _ _ _ e e'
      · exact (key i q' e e').elim
    · rcases join_some e' with ⟨j, rfl, e'⟩ | e'
      · exact (key j q e' e).elim
      · exact R'.inj _ _ _ e e'
  len := R.len
  env := fun i s hs => by
    refine SlotR.mono (w := w) (w' := joinW w wc) (H := H) t.gm rfl (fun n a e => t.ob n a e) (fun a e => ?_) (R.env i s hs)
    obtain ⟨o, ho⟩ := R.there e
    rw [ho]
    exact t.fr a o ho (slot_apart R e)
  env0 := R.env0
  obs := fun n o ho => (R'.obs n o ho).mono (Same.refl _) rfl (fun _ => rfl) (fun _ _ => rfl) fun _ _ _ => rfl
  obs0 := R'.obs0
theorem Tr.join (t : Tr G H (Pf.bare w) G' H' wc) : Tr G H w G' H' (joinW w wc) := ⟨t.gm, fun b o e hq => t.fr b o e fun q z => hq q (bare_sub z), fun b z => (t.gn b z).imp id (Or.imp id (Or.imp (fun ⟨q, y⟩ => ⟨q, bare_sub y⟩) id)), fun q b z => by
    rcases join_some z with ⟨i, rfl, z⟩ | z
    · exact .inl ⟨_, z⟩
    · exact (t.wn q b z).imp (fun ⟨q, y⟩ => ⟨q, bare_sub y⟩) id, fun n a e => t.ob n a e⟩
theorem rpR_join (R : Rel K ρ h σ H G w) {r : Ret} {v : V} (hr : rpR K [] [] H (bare w) r v H' G' wc) : rpR K ρ σ H w r v H' G' (joinW w wc) := by
  cases r with
  | val d => cases d <;> exact hr
  | own ts =>
    obtain ⟨a, vs, h1, h2, h3, h4, h5, h6⟩ := hr
    refine ⟨a, vs, h1, h2, h3, h4, fun q z => ?_, h6.imp (fun ⟨q, y⟩ => ⟨q, bare_sub y⟩) id⟩
    rcases join_some z with ⟨i, rfl, z⟩ | z
    · rcases h6 with ⟨q, y⟩ | y
      · exact slot_apart R z q y
      · obtain ⟨o, ho⟩ := R.there z
        rw [y] at ho; cases ho
    · exact h5 q z
theorem rds_bare {ds : List D} {vs : List V} (hr : RDs K G w ds vs) : RDs K G (bare w) ds vs := paired_imp (fun d v z => by cases d <;> exact z) hr
end
def fCall (np : Nat) (s : Sem1) (g : FA) : FR := fun ρ h => (g ρ h).bind fun ds h => if ds.length = np then noX (s ds h) else .bad
section
variable {X : Cx} {E : XK} {e a b c : Expr} {pos p apos : Pos} {es : List Expr} {fe : FE} {fr : FR} {g : FA} {s : Sem1} {np k : Nat} {f C : Addr} {fd : FuncData} {ps : List Str} {x m : Str}
theorem call_wish {ρ : En} {h : Hs} {σ : L2.St} {H G : Hp} {w : Wn} {ds : List D} {vs : List V} {Q : VK} (R : Rel X.K ρ h σ H G w) (r : RDs X.K G w ds vs) (hn : ds.length = np) (W : Wish X.K E (rpR X.K) (noX (s ds h)) ρ σ H G w Q) : spD X.K np s vs H Q E0 := by
  refine ⟨by rw [rds_len r]; exact hn, ds, h, G, bare w, R.drop, rds_bare r, ?_⟩
  cases hs : s ds h with
  | bad => rw [hs] at W; exact W
  | exc x h' => rw [hs] at W; exact W
  | ok r h' =>
    rw [hs] at W
    intro v H' G' wc R' T' r'
    exact W v H' G' _ (R.join R' T') T'.join (rpR_join R r')
theorem sr_call (F : FnOk X.prog X.w X.K X.mg X.base CX0 k f fd ps (spD X.K np s)) (hr : Room k X.A) (hg : Gl X x) (hm : X.mg x = some (.ref f)) (hk : PySem.W.keepIn X.K (.ref f) = true) (hb : Binds X.K fd ps []) (ha : SA X E (e :: es) g)
    (hdb : (x == ("__debug__" : Str)) = false := by decide) (he : starEach (e :: es) X.env = (false, eval e X.env) :: starEach es X.env := by rfl) (hpl : (backTo pos (starEach es X.env)).any (·.1) = false := by rfl) :
    SR X E (.Call (.Name x p) (e :: es) [] pos) (fCall np s g) := pe_imp (pe_call F hr hg hm hk hb .nil pass0 ha hdb he hpl) fun σ H Q hw =>
  tX_bind (f := g) rpR_m hw fun ρ ds h1 vs H1 G0 G1 w0 w1 R1 T1 r1 W1 => by
    show spD X.K np s (vs ++ []) H1 Q E0
    rw [List.append_nil]
    split at W1
    · rename_i hn
      exact call_wish R1 r1 hn W1
    · exact W1.elim
theorem sr_call0 (F : FnOk X.prog X.w X.K X.mg X.base CX0 k f fd ps (spD X.K np s)) (hr : Room k X.A) (hg : Gl X x) (hm : X.mg x = some (.ref f)) (hk : PySem.W.keepIn X.K (.ref f) = true) (hb : Binds X.K fd ps [])
    (hdb : (x == ("__debug__" : Str)) = false := by decide) : SR X E (.Call (.Name x p) [] [] pos) (fCall np s fANil) := pe_imp (pe_call0 F hr hg hm hk hb .nil pass0 hdb) fun σ H Q ⟨ρ, h, G, w, R, W⟩ => by
  unfold fCall fANil at W
  rw [bind_ok] at W
  split at W
  · rename_i hn
    exact call_wish R (.nil : RDs X.K G w [] []) hn W
  · exact W.elim
end
/-! ### a def's body -/
def keepLen (r : Ret) : Bool := match r with
  | .val (.obj _) => false
  | _ => true
/-- behind a def: what it made is gone, if no object is handed back -/
def cutH (n : Nat) (r : Ret) (h : Hs) : Hs := match r with
  | .val (.obj _) => h
  | _ => h.take n
def bodyS (n : Nat) (f : FS) : Sem1 := fun ds h => (f (ds.map Slot.val ++ List.replicate (n - ds.length) Slot.un) h).bind fun o h' => match o with
  | .next _ => .ok (.val (.dat .none)) (h'.take h.length)
  | .ret r => .ok r (cutH h.length r h')
def cutW (n : Nat) (w : Wn) : Wn := fun q => match q with
  | .s i => w (.s i)
  | .o m => if m < n then w (.o m) else none
  | .f m k => if m < n then w (.f m k) else none
theorem cutW_some {n : Nat} {w : Wn} {q : Ow} {a : Addr} (h : cutW n w q = some a) : w q = some a := by
  cases q with
  | s i => exact h
  | o m => unfold cutW at h; dsimp only at h; split at h <;> first | exact h | cases h
  | f m k => unfold cutW at h; dsimp only at h; split at h <;> first | exact h | cases h
theorem Rel.cut {K : Fr} {ρ : En} {h : Hs} {σ : L2.St} {H G : Hp} {w : Wn} (R : Rel K ρ h σ H G w) (n : Nat) (hd : ∀ (i : Nat) (s : Slot), ρ[i]? = some s → ∀ m, s = Slot.val (D.obj m) → m < n) : Rel K ρ (h.take n) σ H G (cutW n w) where
  sub := R.sub
  off := fun q a e => R.off q a (cutW_some e)
  inj := fun q q' a e e' => R.inj q q' a (cutW_some e) (cutW_some e')
  len := R.len
  env := fun i s hs => by
    have := R.env i s hs
    cases s with
    | un => exact this
    | own ts => exact this
    | dic ts => exact this
    | fix v t => exact this
    | pin v => exact this
    | val d =>
      obtain ⟨h1, v, h2, h3⟩ := this
      refine ⟨h1, v, h2, ?_⟩
      cases d with
      | dat t => exact h3
      | scr ns => exact h3
      | obj m =>
        obtain ⟨a, e, r⟩ := h3
        exact ⟨a, by show (if m < n then w (.o m) else none) = some a; rw [if_pos (hd i _ hs m rfl)]; exact e, r⟩
  env0 := R.env0
  obs := fun m o ho => by
    have hm : m < n := by
      have := (List.getElem?_eq_some_iff.mp ho).1
      rw [List.length_take] at this
      omega
    rw [List.getElem?_take_of_lt hm] at ho
    exact (R.obs m o ho).mono (Same.refl _) (by show (if m < n then _ else _) = _; rw [if_pos hm]) (fun k => by show (if m < n then _ else _) = _; rw [if_pos hm]) (fun _ _ => rfl) fun _ _ _ => rfl
  obs0 := fun m hm => by
    rw [List.length_take] at hm
    by_cases h1 : m < n
    · have := R.obs0 m (by omega)
      refine ⟨by show (if m < n then _ else _) = _; rw [if_pos h1]; exact this.1, fun k => by show (if m < n then _ else _) = _; rw [if_pos h1]; exact this.2 k⟩
    · exact ⟨by show (if m < n then _ else _) = _; rw [if_neg h1], fun k => by show (if m < n then _ else _) = _; rw [if_neg h1]⟩
theorem Tr.cut {G H : Hp} {w : Wn} {G' H' : Hp} {w' : Wn} {n : Nat} (t : Tr G H w G' H' w') (ho : ∀ m a, w (.o m) = some a → m < n) : Tr G H w G' H' (cutW n w') := ⟨t.gm, t.fr, t.gn, fun q b z => t.wn q b (cutW_some z), fun m a e => by show (if m < n then w' (.o m) else none) = some a; rw [if_pos (ho m a e)]; exact t.ob m a e⟩
theorem start_rel {K : Fr} {h : Hs} {H G : Hp} {w : Wn} {N : List Str} {ds : List D} {vs : List V} (R : Rel K [] h [] H G w) (r : RDs K G w ds vs) : Rel K (ds.map Slot.val ++ List.replicate (N.length - ds.length) Slot.un) h (L2.start N vs) H G w where
  sub := R.sub
  off := R.off
  inj := R.inj
  len := by
    unfold L2.start
    rw [List.length_append, List.length_append, List.length_map, List.length_map, List.length_replicate, List.length_replicate, rds_len r]
  env := fun i s hs => by
    have hn : w (.s i) = none := R.env0 i (Nat.zero_le _)
    unfold L2.start
    by_cases hi : i < ds.length
    · rw [List.getElem?_append_left (by rw [List.length_map]; exact hi), List.getElem?_map] at hs
      rw [List.getElem?_append_left (by rw [List.length_map, rds_len r]; exact hi), List.getElem?_map]
      cases hd : ds[i]? with
      | none => rw [hd] at hs; cases hs
      | some d =>
        rw [hd] at hs
        cases hs
        obtain ⟨v, hv, rv⟩ := paired_get r hd
        rw [hv]
        exact ⟨hn, v, rfl, rv⟩
    · rw [List.getElem?_append_right (by rw [List.length_map]; omega)] at hs
      have : s = .un := by
        rw [List.getElem?_replicate] at hs
        split at hs
        · exact (Option.some.inj hs).symm
        · cases hs
      subst this
      exact hn
  env0 := fun i _ => R.env0 i (Nat.zero_le _)
  obs := R.obs
  obs0 := R.obs0
theorem Rel.objs {K : Fr} {ρ : En} {h : Hs} {σ : L2.St} {H G : Hp} {w : Wn} (R : Rel K ρ h σ H G w) {m : Nat} {a : Addr} (e : w (.o m) = some a) : m < h.length := by
  by_cases hm : m < h.length
  · exact hm
  · rw [(R.obs0 m (by omega)).1] at e
    cases e
theorem body_aux {K : Fr} {N : List Str} {f : FS} {vs : List V} {H : Hp} {Q : VK} {E : XK} {np : Nat} (h : spD K np (bodyS N.length f) vs H Q E) : tS K EX0 f { nx := fun _ H' => Q .non H', rt := Q } (L2.start N vs) H := by
  obtain ⟨_, ds, h0, G, w, R, r, W⟩ := h
  unfold bodyS at W
  cases hf : f (ds.map Slot.val ++ List.replicate (N.length - ds.length) Slot.un) h0 with
  | bad => rw [hf] at W; exact W.elim
  | exc x h' => rw [hf] at W; exact W.elim
  | ok o h' =>
    rw [hf] at W
    refine ⟨_, h0, G, w, start_rel R r, ?_⟩
    rw [hf]
    have ho : ∀ m a, w (.o m) = some a → m < h0.length := fun m a e => R.objs e
    cases o with
    | next ρ' =>
      intro σ' H' G' w' R' T'
      exact W _ _ _ _ (R'.drop.cut h0.length (fun i s hs => by simp at hs)) (T'.bare.cut ho) (RT.none : RT G' .none .non)
    | ret r =>
      intro v H' G' w' R' T' r'
      cases r with
      | val d =>
        cases d with
        | obj n => exact W _ _ _ _ R' T' r'
        | dat t => exact W _ _ _ _ (R'.cut h0.length (fun i s hs => by simp at hs)) (T'.cut ho) r'
        | scr ns => exact W _ _ _ _ (R'.cut h0.length (fun i s hs => by simp at hs)) (T'.cut ho) r'
      | own ts =>
        obtain ⟨a, us, h1, h2, h3, h4, h5, h6⟩ := r'
        exact W _ _ _ _ (R'.cut h0.length (fun i s hs => by simp at hs)) (T'.cut ho) ⟨a, us, h1, h2, h3, h4, fun q z => h5 q (cutW_some z), h6⟩
section
variable {P : Program} {w : World} {K : Fr} {mg : Str → Option Value} {base : Heap} {x qual : Str} {params : Arguments} {body : List Stmt} {scope : Scope} {dvs : List V} {kws : List (Str × V)} {f : Addr} {fd : FuncData}
/-- THE RULE: a def whose body is walked keeps its semantics -/
theorem fn_ok {N ps : List Str} {k : Nat} {fs : FS} (F : FunD K x qual params body scope dvs kws f fd) (S : FnScope N ps scope)
    (hb : ∀ (cdv : Value) (A : Around) (outer : List PySem.Env) (s : Shared) (H : Hp) (E : XK), Room k (A.deeper (envOfC qual scope s.heap.objs.size f cdv)) → SSs ((cxOf CX0 P w K mg base N qual scope f cdv A outer s H E).nox) EX0 body fs) : FnOk P w K mg base CX0 (k + 1) f fd ps (spD K ps.length (bodyS N.length fs)) :=
  F.ok S (fun vs H Q E h => h.1) fun cdv A outer s H vs Q E hr h => ⟨_, PSs.nox (hb cdv A outer s H E hr), body_aux h⟩
end
end Pf
set_option Elab.async false
set_option linter.all false
set_option maxRecDepth 100000
set_option maxHeartbeats 1000000
namespace Pf
open PySem PySem.Spec PyProof.Rows L2
/-! ### fields -/
def putA {α : Type} (f : Str) (v : α) : List (Str × α) → List (Str × α)
  | [] => [(f, v)]
  | (g, u) :: r => if g = f then (g, v) :: r else (g, u) :: putA f v r
theorem lookup_putA {α : Type} (f g : Str) (v : α) : ∀ fs : List (Str × α), (putA f v fs).lookup g = if g = f then some v else fs.lookup g
  | [] => by
    by_cases e : g = f
    · subst e; simp [putA]
    · have : (g == f) = false := by simpa using e
      simp [putA, e, this, List.lookup]
  | (k, u) :: r => by
    unfold putA
    by_cases hk : k = f
    · subst hk
      rw [if_pos rfl]
      by_cases e : g = k
      · subst e; simp [List.lookup]
      · have : (g == k) = false := by simpa using e
        simp [List.lookup, e, this]
    · rw [if_neg hk]
      by_cases e : g = k
      · subst e
        simp [List.lookup, hk]
      · have : (g == k) = false := by simpa using e
        simp only [List.lookup, this]
        exact lookup_putA f g v r
theorem putF_putA (f : Str) (v : V) : ∀ fs : List (Str × V), L2.putF f v fs = putA f v fs
  | [] => rfl
  | (k, u) :: r => by
    unfold L2.putF putA
    rw [putF_putA f v r]
theorem len_putA {α : Type} (f : Str) (v : α) : ∀ fs : List (Str × α), (putA f v fs).length = if (fs.lookup f).isSome then fs.length else fs.length + 1
  | [] => rfl
  | (k, u) :: r => by
    unfold putA
    by_cases hk : k = f
    · subst hk
      rw [if_pos rfl]
      simp [List.lookup]
    · rw [if_neg hk]
      have : (f == k) = false := by simpa using fun z => hk z.symm
      simp only [List.lookup, this, List.length_cons, len_putA f v r]
      split <;> rfl
/-- a field's owner -/
def setW (w : Wn) (n : Nat) (k : Str) (o : Option Addr) : Wn := fun q => match q with
  | .f m j => if m = n ∧ j = k then o else w (.f m j)
  | q => w q
theorem setW_some {w : Wn} {n : Nat} {k : Str} {o : Option Addr} {q : Ow} {a : Addr} (h : setW w n k o q = some a) : (q = .f n k ∧ o = some a) ∨ (q ≠ .f n k ∧ w q = some a) := by
  cases q with
  | s i => exact .inr ⟨fun z => (by cases z), h⟩
  | o m => exact .inr ⟨fun z => (by cases z), h⟩
  | f m j =>
    unfold setW at h
    dsimp only at h
    split at h
    · rename_i e
      exact .inl ⟨by rw [e.1, e.2], h⟩
    · rename_i e
      exact .inr ⟨fun z => (by cases z; exact e ⟨rfl, rfl⟩), h⟩
theorem setW_self {w : Wn} {n : Nat} {k : Str} {o : Option Addr} : setW w n k o (.f n k) = o := by unfold setW; dsimp only; rw [if_pos ⟨rfl, rfl⟩]
theorem setW_ne {w : Wn} {n m : Nat} {k j : Str} {o : Option Addr} (h : ¬ (m = n ∧ j = k)) : setW w n k o (.f m j) = w (.f m j) := by unfold setW; dsimp only; rw [if_neg h]
/-- what a field takes: its owner -/
def FldN (H G : Hp) (f : Fld) (v : V) (o : Option Addr) : Prop := match f with
  | .dat t => o = none ∧ RT G t v
  | .own ts => ∃ a vs, o = some a ∧ v = .ref a ∧ H a = some (.lst vs) ∧ RTs G ts vs
  | .dic kvs => ∃ a ls, o = some a ∧ v = .ref a ∧ H a = some (.dT ls) ∧ Paired (fun (p : List Key × V) (q : List Key × T) => p.1 = q.1 ∧ RT G q.2 p.2) ls kvs
theorem Rel.setFld {K : Fr} {ρ : En} {h : Hs} {σ : L2.St} {H G : Hp} {w : Wn} {n : Nat} {c k : Str} {fs : List (Str × Fld)} {f : Fld} {v : V} {o : Option Addr} {a dx : Addr} {vfs : List (Str × V)} (R : Rel K ρ h σ H G w) (hn : h[n]? = some (.ins c fs)) (ha : w (.o n) = some a) (hH : H a = some (.ins (He.ga K c) dx vfs))
    (hf : FldN H G f v o) (hg : ∀ b, o = some b → G b = none) (hq : ∀ b, o = some b → ∀ q, q ≠ .f n k → w q ≠ some b) :
    Rel K ρ (h.set n (.ins c (putA k f fs))) σ (upd H a (.ins (He.ga K c) dx (L2.putF k v vfs))) G (setW w n k o) := by
  have hoff : G a = none := R.off _ _ ha
  have hne : ∀ b, o = some b → b ≠ a := fun b e z => hq b e (.o n) (fun y => by cases y) (by rw [z]; exact ha)
  have hk : ∀ q b, q ≠ .o n → w q = some b → upd H a (.ins (He.ga K c) dx (L2.putF k v vfs)) b = H b := fun q b hq e => upd_ne fun z => hq (R.inj _ _ _ e (by rw [z]; exact ha))
  have hnl := (List.getElem?_eq_some_iff.mp hn).1
  refine ⟨fun b u z => ?_, fun q b e => ?_, fun q q' b e e' => ?_, R.len, fun i s hs => ?_, R.env0, fun m u hu => ?_, fun m hm => ?_⟩
  · rw [upd_ne fun y : b = a => by rw [y, hoff] at z; cases z]
    exact R.sub b u z
  · rcases setW_some e with ⟨_, e⟩ | ⟨_, e⟩
    · exact hg b e
    · exact R.off q b e
  · rcases setW_some e with ⟨z, e⟩ | ⟨z, e⟩
    · rcases setW_some e' with ⟨z', e'⟩ | ⟨z', e'⟩
      · rw [z, z']
      · exact absurd e' (hq b e q' z')
    · rcases setW_some e' with ⟨z', e'⟩ | ⟨z', e'⟩
      · exact absurd e (hq b e' q z)
      · exact R.inj _ _ _ e e'
  · exact SlotR.mono (w := w) (H := H) (Same.refl _) rfl (fun _ _ z => z) (fun b e => hk _ b (fun z => by cases z) e) (R.env i s hs)
  · rcases get_set hu with ⟨rfl, _, rfl⟩ | ⟨hm, hu⟩
    · obtain ⟨a', dx', vfs', h1, h2, h3, h4⟩ := R.obs m _ hn
      rw [ha] at h1
      cases h1
      rw [hH] at h2
      cases h2
      refine ⟨a, dx, _, ha, upd_same, ?_, fun j => ?_⟩
      · rw [putF_putA, len_putA, len_putA, h3]
        have := h4 k
        cases hl : fs.lookup k with
        | none => rw [hl] at this; rw [this.1]; rfl
        | some f' => rw [hl] at this; obtain ⟨v', e, _⟩ := this; rw [e]; rfl
      · rw [lookup_putA]
        by_cases hj : j = k
        · subst hj
          rw [if_pos rfl]
          refine ⟨v, by rw [putF_putA, lookup_putA, if_pos rfl], ?_⟩
          cases f with
          | dat t => exact ⟨setW_self.trans hf.1, hf.2⟩
          | own ts =>
            obtain ⟨b, vs, e1, e2, e3, e4⟩ := hf
            exact ⟨b, vs, setW_self.trans e1, e2, by rw [upd_ne (hne b e1)]; exact e3, e4⟩
          | dic kvs =>
            obtain ⟨b, vs, e1, e2, e3, e4⟩ := hf
            exact ⟨b, vs, setW_self.trans e1, e2, by rw [upd_ne (hne b e1)]; exact e3, e4⟩
        · rw [if_neg hj]
          have h5 := h4 j
          cases hl : fs.lookup j with
          | none =>
            rw [hl] at h5
            exact ⟨by rw [putF_putA, lookup_putA, if_neg hj]; exact h5.1, by rw [setW_ne fun z => hj z.2]; exact h5.2⟩
          | some f' =>
            rw [hl] at h5
            obtain ⟨v', e1, e2⟩ := h5
            refine ⟨v', by rw [putF_putA, lookup_putA, if_neg hj]; exact e1, ?_⟩
            exact FldR.mono (w := w) (H := H) (Same.refl _) (setW_ne fun z => hj z.2) (fun b e => hk _ b (fun z => by cases z) e) e2
    · exact ObjR.mono (w := w) (H := H) (Same.refl _) rfl (fun j => setW_ne fun z => hm z.1) (fun b e => hk _ b (fun z => hm (by cases z; rfl)) e) (fun j b e => hk _ b (fun z => by cases z) e) (R.obs m u hu)
  · rw [List.length_set] at hm
    have := R.obs0 m hm
    exact ⟨this.1, fun j => by rw [setW_ne fun z => by have := z.1; omega]; exact this.2 j⟩
theorem Tr.setFld {G H : Hp} {w : Wn} {n : Nat} {k : Str} {o : Option Addr} {a : Addr} {u : HO} (ha : w (.o n) = some a) (hf : ∀ b, o = some b → (∃ q, w q = some b) ∨ H b = none) : Tr G H w G (upd H a u) (setW w n k o) := ⟨Same.refl _, fun b u' e hq => by rw [upd_ne fun z => hq _ (by rw [z]; exact ha)]; exact e, fun _ z => .inl z, fun q b z => by
    rcases setW_some z with ⟨_, z⟩ | ⟨_, z⟩
    · exact hf b z
    · exact .inl ⟨q, z⟩, fun _ _ z => z⟩
theorem Tr.setFld1 {G H : Hp} {w : Wn} {G2 H2 : Hp} {w2 : Wn} {n : Nat} {k : Str} {o : Option Addr} {a : Addr} {u : HO} (t : Tr G H w G2 H2 w2) (ha : w2 (.o n) = some a) (hf : ∀ b, o = some b → (∃ q, w q = some b) ∨ H b = none) : Tr G H w G2 (upd H2 a u) (setW w2 n k o) := ⟨t.gm, fun b u' e hq => by
    rw [upd_ne fun z => by
      rcases t.wn _ a ha with ⟨q, y⟩ | y
      · exact hq q (by rw [z]; exact y)
      · rw [← z, e] at y; cases y]
    exact t.fr b u' e hq, t.gn, fun q b z => by
    rcases setW_some z with ⟨_, z⟩ | ⟨_, z⟩
    · exact hf b z
    · exact t.wn q b z, fun m b z => t.ob m b z⟩
/-- an object by its number -/
def fFld (cn k : Str) (fo : FE) : FE := fun ρ h => (fo ρ h).bind fun d h => match d with
  | .obj n => match h[n]? with
    | some (.ins c fs) => if c = cn then (match fs.lookup k with
      | some (.dat t) => .ok (.dat t) h
      | _ => .bad) else .bad
    | _ => .bad
  | _ => .bad
/-- o.k = e, e plain data -/
def fSFld (cn k : Str) (fo fe : FE) : FS := fun ρ h => (fe ρ h).bind fun d h => (fo ρ h).bind fun o h => match d, o with
  | .dat t, .obj n => match h[n]? with
    | some (.ins c fs) => if c = cn ∧ fs.length < 100 then .ok (.next ρ) (h.set n (.ins c (putA k (.dat t) fs))) else .bad
    | _ => .bad
  | _, _ => .bad
/-- o.k = {} -/
def fSFDic (cn k : Str) (fo : FE) : FS := fun ρ h => (fo ρ h).bind fun o h => match o with
  | .obj n => match h[n]? with
    | some (.ins c fs) => if c = cn ∧ fs.length < 100 then .ok (.next ρ) (h.set n (.ins c (putA k (.dic []) fs))) else .bad
    | _ => .bad
  | _ => .bad
section
variable {X : Cx} {E : XK} {e o a b c : Expr} {pos p apos pos' : Pos} {es : List Expr} {fe fo : FE} {g : FA} {s : Sem1} {np j : Nat} {f C : Addr} {fd : FuncData} {ps : List Str} {x m cn k : Str}
theorem se_fld (hc : Cls X.K (He.ga X.K cn)) (hn : NoAttr X.K (He.ga X.K cn) k) (ho : SE X E o fo) (hb : attributeBase o k X.env (eval o X.env) = eval o X.env := by rfl) : SE X E (.Attribute o k pos) (fFld cn k fo) := pe_imp (pe_fld ho hb) fun σ H Q hw =>
  tX_bind (f := fo) rpD_m hw fun ρ d h1 v H1 G0 G1 w0 w1 R1 T1 r1 W1 => by
    cases d with
    | dat t => exact W1.elim
    | scr t => exact W1.elim
    | obj n =>
      dsimp only at W1
      split at W1
      · rename_i c fs hno
        split at W1
        · rename_i hcn
          subst hcn
          obtain ⟨a, dx, vfs, h1, h2, h3, h4⟩ := R1.obs n _ hno
          obtain ⟨a', e1, rfl⟩ := r1
          rw [h1] at e1
          cases e1
          have h5 := h4 k
          split at W1
          · rename_i t ht
            rw [ht] at h5
            obtain ⟨v', e2, e3⟩ := h5
            exact ⟨a, _, dx, vfs, v', rfl, h2, hc, hn, e2, W1.fin0 R1 e3.2⟩
          · exact W1.elim
        · exact W1.elim
      · exact W1.elim
theorem ss_sfld (hc : Cls X.K (He.ga X.K cn)) (hn : NoAttr X.K (He.ga X.K cn) k) (ho : SE X E o fo) (he : SE X E e fe) (hs : swapsWith e (some (.Attribute o k pos')) pos.line X.env = pure false := by rfl) : SS X E (.Assign [.Attribute o k pos'] e pos) (fSFld cn k fo fe) := ps_imp (ps_fld ho he hs) fun D σ H hw =>
  tS_bind (f := fe) hw fun ρ d h1 v H1 G0 G1 w0 w1 R1 T1 r1 W1 => by
    refine ⟨ρ, h1, G1, w1, R1, ?_⟩
    cases hf : fo ρ h1 with
    | bad => rw [hf] at W1; exact W1
    | exc x h' => rw [hf] at W1; exact W1
    | ok d2 h2 =>
      rw [hf] at W1
      intro v2 H2 G2 w2 R2 T2 r2
      have W2 := WishS.mono T2 W1
      cases d with
      | obj n => exact W2.elim
      | scr n => exact W2.elim
      | dat t =>
        cases d2 with
        | dat t => exact W2.elim
        | scr t => exact W2.elim
        | obj n =>
          dsimp only [Res.bind] at W2
          split at W2
          · rename_i c fs hno
            split at W2
            · rename_i hcn
              obtain ⟨rfl, hl⟩ := hcn
              obtain ⟨a, dx, vfs, g1, g2, g3, g4⟩ := R2.obs n _ hno
              obtain ⟨a', e1, rfl⟩ := r2
              rw [g1] at e1
              cases e1
              refine ⟨a, _, dx, vfs, rfl, g2, hc, hn, by omega, W2 _ _ _ _ (R2.setFld hno g1 g2 (f := .dat t) (o := none) ⟨rfl, (RD.mono (d := .dat t) T2 r1)⟩ (fun _ z => by cases z) fun _ z => by cases z) (Tr.setFld g1 fun _ z => by cases z)⟩
            · exact W2.elim
          · exact W2.elim
theorem ss_sfdic (hc : Cls X.K (He.ga X.K cn)) (hn : NoAttr X.K (He.ga X.K cn) k) (ho : SE X E o fo) (hs : swapsWith (.Dict [] [] p) (some (.Attribute o k pos')) pos.line X.env = pure false := by rfl) : SS X E (.Assign [.Attribute o k pos'] (.Dict [] [] p) pos) (fSFDic cn k fo) := ps_imp (ps_fld ho pe_dnewT hs) fun D σ H hw => by
  obtain ⟨ρ, h0, G, w, R, W⟩ := hw
  intro q hq
  obtain ⟨R1, T1⟩ := R.new (New.mute R.sub (.dT []) hq)
  refine ⟨ρ, h0, G, w, R1, ?_⟩
  unfold fSFDic at W
  cases hf : fo ρ h0 with
  | bad => rw [hf] at W; exact W
  | exc x h' => rw [hf] at W; exact fun c d H' G' w' R' T' r' => W c d H' G' w' R' (T1.trans T') r'
  | ok d2 h2 =>
    rw [hf] at W
    intro v2 H2 G2 w2 R2 T2 r2
    have hgq : G q = none := R.sub.free hq
    have hwq : ∀ z, w z ≠ some q := fun z y => by
      obtain ⟨u, hu⟩ := R.there y
      rw [hq] at hu; cases hu
    obtain ⟨k1, k2, k3⟩ := T2.hold upd_same hgq hwq
    have T3 := T1.trans T2
    cases d2 with
    | dat t => exact W.elim
    | scr t => exact W.elim
    | obj n =>
      dsimp only [Res.bind] at W
      split at W
      · rename_i c fs hno
        split at W
        · rename_i hcn
          obtain ⟨rfl, hl⟩ := hcn
          obtain ⟨a, dx, vfs, g1, g2, g3, g4⟩ := R2.obs n _ hno
          obtain ⟨a', e1, rfl⟩ := r2
          rw [g1] at e1
          cases e1
          refine ⟨a, _, dx, vfs, rfl, g2, hc, hn, by omega, W _ _ _ _ (R2.setFld hno g1 g2 (f := .dic []) (o := some q) ⟨q, [], rfl, rfl, k1, .nil⟩ (fun b z => by cases z; exact k2) fun b z y _ => by cases z; exact k3 y) ?_⟩
          exact T3.setFld1 g1 fun b z => by cases z; exact .inr hq
        · exact W.elim
      · exact W.elim
/-! ### objects are made, their methods called -/
theorem spD_imp {K : Fr} {vs : List V} {H : Hp} {Q Q' : VK} (h : spD K np s vs H Q E) (hq : ∀ v H', Q v H' → Q' v H') : spD K np s vs H Q' E := by
  obtain ⟨h1, ds, h0, G, w, R, r, W⟩ := h
  refine ⟨h1, ds, h0, G, w, R, r, ?_⟩
  cases hs : s ds h0 with
  | bad => rw [hs] at W; exact W
  | exc x h' => rw [hs] at W; exact W
  | ok r h' =>
    rw [hs] at W
    exact fun v H' G' w' R' T' r' => hq _ _ (W v H' G' w' R' T' r')
def putO (w : Wn) (n : Nat) (a : Addr) : Wn := fun q => match q with
  | .o m => if m = n then some a else w (.o m)
  | q => w q
theorem putO_some {w : Wn} {n : Nat} {a b : Addr} {q : Ow} (h : putO w n a q = some b) : (q = .o n ∧ b = a) ∨ w q = some b := by
  cases q with
  | s i => exact .inr h
  | f m k => exact .inr h
  | o m =>
    by_cases e : m = n
    · subst e
      unfold putO at h
      dsimp only at h
      rw [if_pos rfl] at h
      exact .inl ⟨rfl, (Option.some.inj h).symm⟩
    · unfold putO at h
      dsimp only at h
      rw [if_neg e] at h
      exact .inr h
theorem putO_self {w : Wn} {n : Nat} {a : Addr} : putO w n a (.o n) = some a := by unfold putO; dsimp only; rw [if_pos rfl]
theorem putO_ne {w : Wn} {n m : Nat} {a : Addr} (h : m ≠ n) : putO w n a (.o m) = w (.o m) := by unfold putO; dsimp only; rw [if_neg h]
/-- a new object, not told -/
theorem Rel.addObj {K : Fr} {ρ : En} {h : Hs} {σ : L2.St} {H G H' : Hp} {w : Wn} {u : O} {a : Addr} (R : Rel K ρ h σ H G w) (hH : Same H H') (ha : H a = none) (ho : ∀ w' : Wn, w' (.o h.length) = some a → (∀ k, w' (.f h.length k) = none) → ObjR K H' G w' h.length u) :
    Rel K ρ (h ++ [u]) σ H' G (putO w h.length a) ∧ Tr G H w G H' (putO w h.length a) := by
  have hk : ∀ q b, w q = some b → H' b = H b := fun q b e => by
    obtain ⟨o, ho⟩ := R.there e
    rw [hH _ _ ho, ho]
  have hne : ∀ q, w q ≠ some a := fun q e => by
    obtain ⟨o, ho⟩ := R.there e
    rw [ha] at ho; cases ho
  have hkeep : ∀ m b, w (.o m) = some b → putO w h.length a (.o m) = some b := fun m b e => by
    have := R.objs e
    rw [putO_ne (by omega)]
    exact e
  refine ⟨⟨R.sub.trans hH, fun q b e => ?_, fun q q' b e e' => ?_, R.len, fun i s hs => SlotR.mono (w := w) (H := H) (Same.refl _) rfl hkeep (fun b e => hk _ b e) (R.env i s hs), R.env0, fun m o hm => ?_, fun m hm => ?_⟩,
    ⟨Same.refl _, fun b o e _ => hH b o e, fun _ z => .inl z, fun q b z => ?_, hkeep⟩⟩
  · rcases putO_some e with ⟨_, rfl⟩ | e
    · exact R.sub.free ha
    · exact R.off q b e
  · rcases putO_some e with ⟨z, rfl⟩ | y
    · rcases putO_some e' with ⟨z', _⟩ | y'
      · rw [z, z']
      · exact absurd y' (hne _)
    · rcases putO_some e' with ⟨z', rfl⟩ | y'
      · exact absurd y (hne _)
      · exact R.inj _ _ _ y y'
  · by_cases hl : m < h.length
    · rw [List.getElem?_append_left hl] at hm
      exact ObjR.mono (w := w) (H := H) (Same.refl _) (putO_ne (by omega)) (fun _ => rfl) (fun b e => hk _ b e) (fun k b e => hk _ b e) (R.obs m o hm)
    · have hm2 := (List.getElem?_eq_some_iff.mp hm).1
      rw [List.length_append, List.length_singleton] at hm2
      have e : m = h.length := by omega
      subst e
      rw [List.getElem?_append_right (Nat.le_refl _), Nat.sub_self] at hm
      cases hm
      exact ho _ putO_self fun k => (R.obs0 h.length (Nat.le_refl _)).2 k
  · rw [List.length_append, List.length_singleton] at hm
    have := R.obs0 m (by omega)
    exact ⟨by rw [putO_ne (by omega)]; exact this.1, this.2⟩
  · rcases putO_some z with ⟨_, rfl⟩ | z
    · exact .inr ha
    · exact .inl ⟨q, z⟩
def fMake (cn : Str) (np : Nat) (s : Sem1) (g : FA) : FE := fun ρ h => (g ρ h).bind fun ds h => if ds.length + 1 = np then (noX (s (.obj h.length :: ds) (h ++ [.ins cn []]))).bind fun r h' => (match r with
  | .val (.dat .none) => .ok (.obj h.length) h'
  | _ => .bad) else .bad
theorem se_make (M : Mk X.K (He.ga X.K cn) f) (F : FnOk X.prog X.w X.K X.mg X.base CX0 j f fd ps (spD X.K np s)) (hr : Room (j + 1) X.A) (hg : Gl X x) (hm : X.mg x = some (.ref (He.ga X.K cn))) (hb : Binds X.K fd ps []) (ha : SA X E (e :: es) g)
    (hdb : (x == ("__debug__" : Str)) = false := by decide) (he : starEach (e :: es) X.env = (false, eval e X.env) :: starEach es X.env := by rfl) (hpl : (backTo pos (starEach es X.env)).any (·.1) = false := by rfl) :
    SE X E (.Call (.Name x p) (e :: es) [] pos) (fMake cn np s g) := pe_imp (pe_make M F hr hg hm hb .nil pass0 ha hdb he hpl) fun σ H Q hw =>
  tX_bind (f := g) rpD_m hw fun ρ ds h1 vs H1 G0 G1 w0 w1 R1 T1 r1 W1 => by
    intro a dx hx hdx hne
    rw [List.append_nil]
    split at W1
    · rename_i hn
      have sm : Same H1 (upd (upd H1 dx (.own a)) a (.ins (He.ga X.K cn) dx [])) := (same_upd hdx).trans (same_upd (by rw [upd_ne hne.symm]; exact hx))
      obtain ⟨R2, T2⟩ := R1.addObj (u := .ins cn []) (a := a) sm hx fun w' e1 e2 => ⟨a, dx, [], e1, upd_same, rfl, fun k => ⟨rfl, e2 k⟩⟩
      refine spD_imp (call_wish R2 (ds := .obj h1.length :: ds) (vs := .ref a :: vs) (.cons ⟨a, putO_self, rfl⟩ (RDs.mono T2 r1)) hn ((W1.mono rpD_m T2).bind (rep := rpR X.K) rpD_m)) ?_
      rintro v H3 ⟨r, h3, G3, w3, R3, T3, r3, W3⟩
      split at W3
      · refine ⟨?_, W3 _ _ _ _ R3 T3 ⟨a, T3.ob _ _ putO_self, rfl⟩⟩
        obtain ⟨r3, _⟩ := r3
        cases r3
        rfl
      · exact W3.elim
    · exact W1.elim
def fMeth (cn m : Str) (np : Nat) (s : Sem1) (fo : FE) (g : FA) : FR := fun ρ h => (fo ρ h).bind fun d h => match d with
  | .obj n => match h[n]? with
    | some (.ins c fs) => if c = cn ∧ (fs.lookup m).isNone = true then (g ρ h).bind fun ds h => (if ds.length + 1 = np then noX (s (.obj n :: ds) h) else .bad) else .bad
    | _ => .bad
  | _ => .bad
theorem sr_meth {pl : Sem Bool} (ho : SE X E o fo) (c : Cls X.K (He.ga X.K cn)) (hm : Meth X.K (He.ga X.K cn) m f) (F : FnOk X.prog X.w X.K X.mg X.base CX0 j f fd ps (spD X.K np s)) (hr : Room j X.A) (hb : Binds X.K fd ps []) (ha : SA X E (e :: es) g)
    (hst : starEach (e :: es) X.env = (false, eval e X.env) :: starEach es X.env := by rfl) (hpl : (backTo pos (starEach es X.env)).any (·.1) = false := by rfl)
    (ht : eval (.Call (.Attribute o m apos) (e :: es) [] pos) X.env = (do
      let ov ← eval o X.env
      standAt apos.atName
      let (f, first) ← holding [ov] (getMethod ov m pl)
      callWith pos f first (backTo pos (starEach (e :: es) X.env)) (backToKw pos (keywordEach [] X.env))) := by rfl) :
    SR X E (.Call (.Attribute o m apos) (e :: es) [] pos) (fMeth cn m np s fo g) := pe_imp (pe_meth (pl := pl) ho c hm F hr hb .nil pass0 ha hst hpl ht) fun σ H Q hw =>
  tX_bind (f := fo) rpR_m hw fun ρ d h1 v H1 G0 G1 w0 w1 R1 T1 r1 W1 => by
    cases d with
    | dat t => exact W1.elim
    | scr t => exact W1.elim
    | obj n =>
      dsimp only at W1
      split at W1
      · rename_i c fs hno
        split at W1
        · rename_i hcn
          obtain ⟨rfl, hl⟩ := hcn
          obtain ⟨a, dx, vfs, g1, g2, g3, g4⟩ := R1.obs n _ hno
          obtain ⟨a', e1, rfl⟩ := r1
          rw [g1] at e1
          cases e1
          have g5 := g4 m
          refine ⟨a, dx, vfs, rfl, g2, ?_, wish_bind (f := g) rpR_m R1 W1 fun ds h2 vs H2 G2 w2 R2 T2 r2 W2 => ?_⟩
          · cases hk : fs.lookup m with
            | none => rw [hk] at g5; exact g5.1
            | some z => rw [hk] at hl; cases hl
          · rw [List.append_nil]
            split at W2
            · rename_i hn
              exact call_wish R2 (ds := .obj n :: ds) (.cons ⟨a, T2.ob _ _ g1, rfl⟩ r2) hn W2
            · exact W2.elim
        · exact W1.elim
      · exact W1.elim
end
end Pf
set_option Elab.async false
set_option linter.all false
set_option maxRecDepth 100000
set_option maxHeartbeats 1000000
namespace Pf
open PySem PySem.Spec PyProof.Rows L2
/-! ### the law's state: drawing -/
def mixF (m c : Int) : Int := (m * 48271 + c + 7) % 2147483647
def S_start : Sem1 := fun ds h => match ds with
  | [.scr ns] => .ok (.val (.obj h.length)) (h ++ [.stt ns 0 (ns.foldl mixF 1) 0])
  | _ => .bad
/-- what is drawn, and where drawing stands behind it -/
def drawV (ns : List Int) (i m l k : Int) : Int × Int × Int × Int :=
  if 0 < l then (l % k, i, m, l / k)
  else if i + 1 ≤ (ns.length : Int) then ((ns.getD i.toNat 0) % k, i + 1, m, if 1000000000000000000 ≤ ns.getD i.toNat 0 then (ns.getD i.toNat 0) / k else 0)
  else ((m * 48271 + 11) % 2147483647 / 7 % k, i + 1, (m * 48271 + 11) % 2147483647, l)
def S_drawn : Sem1 := fun ds h => match ds with
  | [.obj n, .dat (.int k)] => match h[n]? with
    | some (.stt ns i m l) => if 0 < k ∧ k < 1073741824 ∧ 0 ≤ i then .ok (.val (.dat (.int (drawV ns i m l k).1))) (h.set n (.stt ns (drawV ns i m l k).2.1 (drawV ns i m l k).2.2.1 (drawV ns i m l k).2.2.2)) else .bad
    | _ => .bad
  | _ => .bad
abbrev rAdd0 : R2 := rI0 fun i j => .int (i + j)
abbrev rSub0 : R2 := rI0 fun i j => .int (i - j)
abbrev rMul0 : R2 := rI CMul fun i j => .int (i * j)
abbrev rMod0 : R2 := rI (fun _ j => 0 < j) fun i j => .int (i % j)
abbrev rDiv0 : R2 := rI CDiv fun i j => .int (i / j)
def t_start (K : Fr) : TS := tSeq (tAsg (tC (.int 1)) (gName 1)) (tSeq (tFor (iList K (tVar 0)) (gName 2) (tAsg (tOp rMod0 (tOp rAdd0 (tOp rAdd0 (tOp rMul0 (tVar 1) (tC (.int 48271))) (tVar 2)) (tC (.int 7))) (tC (.int 2147483647))) (gName 1)))
  (tRet (tLst (tCons (tVar 0) (tCons (tC (.int 0)) (tCons (tVar 1) (tCons (tC (.int 0)) tNil)))))))
theorem read_start {K : Fr} {N : List Str} {vs : List V} {H : Hp} {Q : VK} {E : XK} (hN : N.length = 3) (h : spD K 1 S_start vs H Q E) : t_start K { nx := fun _ H' => Q .non H', rt := Q } (L2.start N vs) H := by
  obtain ⟨hl, ds, h0, G, w, R, r, W⟩ := h
  unfold S_start at W
  split at W
  · rename_i ns
    obtain ⟨v, rfl, rv⟩ : ∃ v, vs = [v] ∧ RD K G w (.scr ns) v := by
      cases r with
      | cons a b => cases b; exact ⟨_, rfl, a⟩
    obtain ⟨a, rfl, hs⟩ := rv
    have hS : SqL K H a (ns.map V.int) := R.sub.seq hs
    have e0 : L2.start N [V.ref a] = [some (.ref a), none, none] := by
      unfold L2.start
      rw [hN]
      rfl
    rw [e0]
    refine ⟨_, rfl, a, rfl, ⟨_, hS⟩, for_list (K := K) (a := a) (xs := ns.map V.int) (fun i σ H2 => H2 = H ∧ ∃ v, σ = [some (.ref a), some (.int ((ns.take i).foldl mixF 1)), v]) ⟨rfl, none, rfl⟩ (fun i σ H2 _ z => by rw [z.1]; exact hS) ?_ ?_⟩
    · rintro i y σ H2 hi ⟨rfl, v, rfl⟩
      rw [List.getElem?_map] at hi
      obtain ⟨z, hz, rfl⟩ := Option.map_eq_some_iff.mp hi
      refine ⟨_, rfl, _, _, rfl, rfl, .inr ⟨by decide, by decide⟩, _, rfl, _, _, rfl, rfl, _, _, rfl, rfl, _, _, rfl, rfl, (by show (0 : Int) < 2147483647; decide), rfl, some (.int z), ?_⟩
      have : (ns.take (i + 1)).foldl mixF 1 = mixF ((ns.take i).foldl mixF 1) z := by
        rw [List.take_succ, hz, List.foldl_append]
        rfl
      rw [this]
      rfl
    · rintro σ H2 ⟨rfl, v, rfl⟩
      have e : (ns.take (ns.map V.int).length) = ns := by rw [List.length_map, List.take_length]
      rw [e]
      refine ⟨_, rfl, _, rfl, by show 4 ≤ sizeLine; decide, fun p hp => ?_⟩
      obtain ⟨R2, T2⟩ := R.addObj (H' := upd H2 p (.lst [.ref a, .int 0, .int (ns.foldl mixF 1), .int 0])) (u := .stt ns 0 (ns.foldl mixF 1) 0) (a := p) (same_upd hp) hp fun w' e1 e2 => ⟨⟨p, a, e1, upd_same, hs⟩, e2⟩
      exact W _ _ _ _ R2 T2 ⟨p, putO_self, rfl⟩
  · exact W.elim
abbrev rGt0 : R2 := rI0 fun i j => .bl (decide (j < i))
abbrev rLe0 : R2 := rI0 fun i j => .bl (decide (i ≤ j))
abbrev rGe0 : R2 := rI0 fun i j => .bl (decide (j ≤ i))
abbrev rPow0 : R2 := rI CPow fun i j => .int (i ^ j.toNat)
abbrev rLen0 (K : Fr) : List V → Hp → VK → Prop := fun xs H Q => ∃ x n, xs = [x] ∧ LenV K x H n ∧ Q (.int n) H
abbrev tIxS (K : Fr) (j : Int) : TE := tOp (rIxL K) (tVar 0) (tC (.int j))
def t_drawn (K : Fr) : TS :=
  tSeq (tIfS (tTest (tOp rGt0 (tIxS K 3) (tC (.int 0)))) (tSeq (tAsg (tOp rMod0 (tIxS K 3) (tVar 1)) (gName 2)) (tSeq (tAsg (tOp rDiv0 (tIxS K 3) (tVar 1)) (gSub (tVar 0) (tC (.int 3)) rSetL)) (tRet (tVar 2)))) tNext)
  (tSeq (tAsg (tOp rAdd0 (tIxS K 1) (tC (.int 1))) (gSub (tVar 0) (tC (.int 1)) rSetL))
  (tSeq (tIfS (tTest (tOp rLe0 (tIxS K 1) (tCB (rLen0 K) (tCons (tIxS K 0) tNil)))) (tSeq (tAsg (tOp (rIxL K) (tIxS K 0) (tOp rSub0 (tIxS K 1) (tC (.int 1)))) (gName 3))
      (tSeq (tAsg (tIf (tTest (tOp rGe0 (tVar 3) (tOp rPow0 (tC (.int 10)) (tC (.int 18))))) (tOp rDiv0 (tVar 3) (tVar 1)) (tC (.int 0))) (gSub (tVar 0) (tC (.int 3)) rSetL)) (tRet (tOp rMod0 (tVar 3) (tVar 1))))) tNext)
  (tSeq (tAsg (tOp rMod0 (tOp rAdd0 (tOp rMul0 (tIxS K 2) (tC (.int 48271))) (tC (.int 11))) (tC (.int 2147483647))) (gSub (tVar 0) (tC (.int 2)) rSetL))
    (tRet (tOp rMod0 (tOp rDiv0 (tIxS K 2) (tC (.int 7))) (tVar 1))))))
/-- the state is written -/
theorem Rel.setStt {K : Fr} {ρ : En} {h : Hs} {σ : L2.St} {H G : Hp} {w : Wn} {n : Nat} {ns : List Int} {i m l i' m' l' : Int} {a b : Addr} {H' : Hp} (R : Rel K ρ h σ H G w) (hn : h[n]? = some (.stt ns i m l)) (ha : w (.o n) = some a) (hs : SqL K G b (ns.map V.int)) (hk : ∀ c, c ≠ a → H' c = H c) (hH : H' a = some (.lst [.ref b, .int i', .int m', .int l'])) :
    Rel K ρ (h.set n (.stt ns i' m' l')) σ H' G w ∧ Tr G H w G H' w := by
  have hoff : G a = none := R.off _ _ ha
  have hk2 : ∀ q b, q ≠ .o n → w q = some b → H' b = H b := fun q b hq e => hk b fun z => hq (R.inj _ _ _ e (by rw [z]; exact ha))
  refine ⟨⟨fun c u z => ?_, R.off, R.inj, R.len, fun j s hs => SlotR.mono (w := w) (H := H) (Same.refl _) rfl (fun _ _ z => z) (fun c e => hk2 _ c (fun z => by cases z) e) (R.env j s hs), R.env0, fun k u hu => ?_, fun k hk => R.obs0 k (by rw [List.length_set] at hk; exact hk)⟩,
    ⟨Same.refl _, fun c u e hq => by rw [hk c fun z => hq _ (by rw [z]; exact ha)]; exact e, fun _ z => .inl z, fun q c z => .inl ⟨q, z⟩, fun _ _ z => z⟩⟩
  · rw [hk c fun y => by rw [y, hoff] at z; cases z]
    exact R.sub c u z
  · rcases get_set hu with ⟨rfl, _, rfl⟩ | ⟨hm, hu⟩
    · exact ⟨⟨a, b, ha, hH, hs⟩, (R.obs k _ hn).2⟩
    · exact ObjR.mono (w := w) (H := H) (Same.refl _) rfl (fun _ => rfl) (fun c e => hk2 _ c (fun z => hm (by cases z; rfl)) e) (fun j c e => hk2 _ c (fun z => by cases z) e) (R.obs k u hu)
theorem read_drawn {K : Fr} {N : List Str} {vs : List V} {H : Hp} {Q : VK} {E : XK} (hN : N.length = 4) (h : spD K 2 S_drawn vs H Q E) : t_drawn K { nx := fun _ H' => Q .non H', rt := Q } (L2.start N vs) H := by
  obtain ⟨hl, ds, h0, G, w, R, r, W⟩ := h
  unfold S_drawn at W
  split at W
  · rename_i n k
    split at W
    · rename_i ns i m l hno
      split at W
      · rename_i hk
        obtain ⟨k0, k1, i0⟩ := hk
        obtain ⟨v, rfl, rv⟩ : ∃ v, vs = [v, .int k] ∧ RD K G w (.obj n) v := by
          cases r with
          | cons a b =>
            cases b with
            | cons c d =>
              cases d
              obtain ⟨c, _⟩ := c
              cases c
              exact ⟨_, rfl, a⟩
        obtain ⟨⟨a, b, g1, g2, g3⟩, g4⟩ := R.obs n _ hno
        obtain ⟨a', e1, rfl⟩ := rv
        rw [g1] at e1
        cases e1
        have e0 : L2.start N [V.ref a, V.int k] = [some (.ref a), some (.int k), none, none] := by
          unfold L2.start
          rw [hN]
          rfl
        rw [e0]
        have fin : ∀ (H' : Hp), (∀ c, c ≠ a → H' c = H c) → H' a = some (.lst [.ref b, .int (drawV ns i m l k).2.1, .int (drawV ns i m l k).2.2.1, .int (drawV ns i m l k).2.2.2]) → Q (.int (drawV ns i m l k).1) H' := fun H' h1 h2 => by
          obtain ⟨R2, T2⟩ := R.setStt hno g1 g3 h1 h2
          exact W _ _ _ _ R2 T2 (RT.int _)
        refine ⟨_, rfl, a, _, 3, _, rfl, rfl, SqL.of g2, rfl, _, _, rfl, rfl, _, rfl, ?_⟩
        by_cases hl : 0 < l
        · have ed : drawV ns i m l k = (l % k, i, m, l / k) := by unfold drawV; rw [if_pos hl]
          rw [ed] at fin
          rw [decide_eq_true hl]
          refine iteT ⟨_, rfl, a, _, 3, _, rfl, rfl, SqL.of g2, rfl, _, rfl, _, _, rfl, rfl, k0, ?_⟩
          refine ⟨_, rfl, a, _, 3, _, rfl, rfl, SqL.of g2, rfl, _, rfl, _, _, rfl, rfl, ⟨k0, k1⟩, _, rfl, a, _, 3, 3, rfl, rfl, g2, rfl, _, rfl, ?_⟩
          exact fin _ (fun c hc => upd_ne hc) upd_same
        · rw [decide_eq_false hl]
          refine iteF ?_
          refine ⟨_, rfl, a, _, 1, _, rfl, rfl, SqL.of g2, rfl, _, _, rfl, rfl, _, rfl, a, _, 1, 1, rfl, rfl, g2, rfl, ?_⟩
          have g5 : (upd H a (.lst [.ref b, .int (i + 1), .int m, .int l])) a = some (.lst [.ref b, .int (i + 1), .int m, .int l]) := upd_same
          have hnb : ∀ o, SqL K (upd H a o) b (ns.map V.int) := fun o => by
            have hs : Same G (upd H a o) := fun c u z => by
              rw [upd_ne fun y : c = a => by rw [y, R.off _ _ g1] at z; cases z]
              exact R.sub c u z
            exact hs.seq g3
          refine ⟨_, rfl, a, _, 1, _, rfl, rfl, SqL.of g5, rfl, _, rfl, a, _, 0, _, rfl, rfl, SqL.of g5, rfl, _, _, rfl, .inl ⟨_, hnb _, rfl⟩, _, _, rfl, rfl, _, rfl, ?_⟩
          rw [List.length_map]
          by_cases hi : i + 1 ≤ (ns.length : Int)
          · rw [decide_eq_true hi]
            have hi2 : i.toNat < ns.length := by omega
            have ed : drawV ns i m l k = ((ns.getD i.toNat 0) % k, i + 1, m, if 1000000000000000000 ≤ ns.getD i.toNat 0 then (ns.getD i.toNat 0) / k else 0) := by unfold drawV; rw [if_neg hl, if_pos hi]
            have eat : atI (ns.map V.int) (i + 1 - 1) = some (.int (ns.getD i.toNat 0)) := by
              have e2 : i + 1 - 1 = ((i.toNat : Nat) : Int) := by omega
              rw [e2]
              refine atI_nat ?_
              rw [List.getElem?_map, List.getElem?_eq_getElem hi2]
              simp [List.getD_eq_getElem?_getD, hi2]
            refine iteT ⟨_, rfl, a, _, 0, _, rfl, rfl, SqL.of g5, rfl, _, rfl, a, _, 1, _, rfl, rfl, SqL.of g5, rfl, _, _, rfl, rfl, b, _, _, _, rfl, rfl, hnb _, eat, ?_⟩
            generalize ns.getD i.toNat 0 = c at ed
            rw [ed] at fin
            refine ⟨_, rfl, _, _, rfl, rfl, ⟨by decide, by decide, by decide⟩, _, _, rfl, rfl, _, rfl, ?_⟩
            have e18 : (10 : Int) ^ (18 : Int).toNat = 1000000000000000000 := by decide
            rw [e18]
            by_cases hc : (1000000000000000000 : Int) ≤ c
            · rw [decide_eq_true hc]
              rw [if_pos hc] at fin
              refine iteT ⟨_, rfl, _, rfl, _, _, rfl, rfl, ⟨k0, k1⟩, _, rfl, a, _, 3, 3, rfl, rfl, g5, rfl, _, rfl, _, rfl, _, _, rfl, rfl, k0, ?_⟩
              exact fin _ (fun c hc => by rw [upd_ne hc, upd_ne hc]) upd_same
            · rw [decide_eq_false hc]
              rw [if_neg hc] at fin
              refine iteF ⟨_, rfl, a, _, 3, 3, rfl, rfl, g5, rfl, _, rfl, _, rfl, _, _, rfl, rfl, k0, ?_⟩
              exact fin _ (fun c hc => by rw [upd_ne hc, upd_ne hc]) upd_same
          · rw [decide_eq_false hi]
            have ed : drawV ns i m l k = ((m * 48271 + 11) % 2147483647 / 7 % k, i + 1, (m * 48271 + 11) % 2147483647, l) := by unfold drawV; rw [if_neg hl, if_neg hi]
            rw [ed] at fin
            refine iteF ⟨_, rfl, a, _, 2, _, rfl, rfl, SqL.of g5, rfl, _, _, rfl, rfl, .inr ⟨by decide, by decide⟩, _, _, rfl, rfl, _, _, rfl, rfl, (by show (0 : Int) < 2147483647; decide), _, rfl, a, _, 2, 2, rfl, rfl, g5, rfl, ?_⟩
            refine ⟨_, rfl, a, _, 2, _, rfl, rfl, SqL.of upd_same, rfl, _, _, rfl, rfl, ⟨by decide, by decide⟩, _, rfl, _, _, rfl, rfl, k0, ?_⟩
            exact fin _ (fun c hc => by rw [upd_ne hc, upd_ne hc]) upd_same
      · exact W.elim
    · exact W.elim
  · exact W.elim
end Pf
set_option Elab.async false
set_option linter.all false
set_option maxRecDepth 100000
set_option maxHeartbeats 2000000
/-! ### enumerate(tuple) -/
namespace Pf
open PySem PySem.Spec PyProof.Rows L2
section
variable {prog : Program} {w : World} {A : Around} {E : Value → Shared → Prop} {s : Shared}
theorem nextOf_tup {j b : Addr} {i : Nat} {ys : Array Value} {x : Value} {Q : Value → Shared → Prop} (hj : s.heap.IsTupleIter j b i) (hb : s.heap.IsTuple b ys) (hx : ys[i]? = some x)
    (hQ : ∀ h', h'.IsTupleIter j b (i + 1) → Heap.SameBut j s.heap h' → Q x { s with heap := h' }) : wpAny (model prog w) A (Builtin.SmallTypes.nextOf (.ref j)) Q E s := by
  obtain ⟨oj, hoj, hcj, hdj⟩ := id hj
  obtain ⟨ob, hob, _, nb, hdb⟩ := hb
  unfold Builtin.SmallTypes.nextOf
  refine wpAny_bind (wpAny_callSpecial?_slot (name := Str.ofString "__next__") hj.typeIs F.slot_tuple_iterator_next (wpAny_call_entry F.slot_tuple_iterator_next hj.typeIs F.entry_tuple_iterator_next ?_ (F.args_tuple_iterator_next_1 _)))
  show wpAny _ _ (field (.ref j) 0 >>= _) _ _ s
  refine wpAny_bind (wpAny_field hoj hdj (x := .ref b) rfl ?_)
  show wpAny _ _ (if (Value.ref b == Value.none) = true then _ else _) _ _ s
  rw [if_neg (show ¬ ((Value.ref b == Value.none) = true) from Bool.false_ne_true)]
  show wpAny _ _ (field (.ref j) 1 >>= _) _ _ s
  refine wpAny_bind (wpAny_field hoj hdj (x := .int i 0) rfl ?_)
  show wpAny _ _ (seqItems? (.ref b) >>= _) _ _ s
  refine wpAny_bind (wpAny_seqItems hob hdb ?_)
  simp only [Int.toNat_natCast, hx]
  refine wpAny_bind (wpAny_setField hoj hdj (by simp) (wpAny_pure ⟨x, rfl, wpAny_pure (hQ _ ?_ (Heap.SameBut.update ..))⟩))
  exact ⟨_, Heap.get?_update_self _ hoj (Obj.isFreed_of_fields (Obj.data_mapFields hdj _)), (Obj.cls_mapFields ..).trans hcj, by rw [Obj.data_mapFields hdj]; simp [rawInt]⟩
theorem nextOf_tup_end {j b : Addr} {i : Nat} {ys : Array Value} {Q : Value → Shared → Prop} (hh : A.handled = none) (hj : s.heap.IsTupleIter j b i) (hb : s.heap.IsTuple b ys) (hx : ys[i]? = none)
    (hE : ∀ h' e, Heap.ExtBut j s.heap h' → (∃ o, h'.get? e = some o ∧ o.cls = .type "StopIteration") → E (.ref e) { s with heap := h' }) : wpAny (model prog w) A (Builtin.SmallTypes.nextOf (.ref j)) Q E s := by
  obtain ⟨oj, hoj, hcj, hdj⟩ := id hj
  obtain ⟨ob, hob, _, nb, hdb⟩ := hb
  unfold Builtin.SmallTypes.nextOf
  refine wpAny_bind (wpAny_callSpecial?_slot (name := Str.ofString "__next__") hj.typeIs F.slot_tuple_iterator_next (wpAny_call_entry F.slot_tuple_iterator_next hj.typeIs F.entry_tuple_iterator_next ?_ (F.args_tuple_iterator_next_1 _)))
  show wpAny _ _ (field (.ref j) 0 >>= _) _ _ s
  refine wpAny_bind (wpAny_field hoj hdj (x := .ref b) rfl ?_)
  show wpAny _ _ (if (Value.ref b == Value.none) = true then _ else _) _ _ s
  rw [if_neg (show ¬ ((Value.ref b == Value.none) = true) from Bool.false_ne_true)]
  show wpAny _ _ (field (.ref j) 1 >>= _) _ _ s
  refine wpAny_bind (wpAny_field hoj hdj (x := .int i 0) rfl ?_)
  show wpAny _ _ (seqItems? (.ref b) >>= _) _ _ s
  refine wpAny_bind (wpAny_seqItems hob hdb ?_)
  simp only [Int.toNat_natCast, hx]
  refine wpAny_bind (wpAny_rule (wpAny_bind (wpAny_setField hoj hdj (by simp) ?_)))
  show wpAny _ _ (newExc (.type "StopIteration") [] >>= _) _ _ _
  refine wpAny_bind ?_
  simp only [newExc, newTuple]
  refine wpAny_bind (wpAny_newObj_type ?_ (by size_fits))
  refine wpAny_bind (m := firstArgMember _ _) (wpAny_of_eq (a := Value.none) (by first | rfl | (simp only [firstArgMember]; rfl)) ?_)
  refine wpAny_newObj_type ?_ (by size_fits)
  simp only [raiseNew]
  refine wpAny_bind (wpAny_handled ?_)
  first | rw [show A.in1.handled = none from hh] | rw [hh]
  exact wpAny_bind (wpAny_pure (wpAny_throw (hE _ _ (((Heap.SameBut.update ..).extBut.push _).push _) ⟨_, Heap.get?_push_size _ rfl, rfl⟩)))
theorem draws_tup (hh : A.handled = none) (j b : Addr) (hne : b ≠ j) (ys : Array Value) : Draws prog w A j [j, b] ys.size (fun i v => ys[i]? = some v) (fun i h => h.IsTupleIter j b i ∧ h.IsTuple b ys) where
  live := fun _ _ st => let ⟨o, ho, _⟩ := st.1; ⟨o, ho⟩
  frame := fun _ _ _ st hk => let ⟨⟨o1, h1, r1⟩, o2, h2, r2⟩ := st; ⟨⟨o1, hk j (by simp) o1 h1, r1⟩, o2, hk b (by simp) o2 h2, r2⟩
  item := fun i s Q E hi st hQ => nextOf_tup st.1 st.2 (x := ys[i]) (by simp [hi]) fun h' a c => hQ _ h' s.toks (by simp [hi]) ⟨a, st.2.extBut c.extBut hne⟩ c
  done := fun s Q E st hE => nextOf_tup_end hh st.1 st.2 (by simp) hE
end
open AutoSeq1 (wpAny_loadPart') in
theorem meets_enumT (b : Addr) (ys : Array Value) (n : Nat) (dct : Option Addr) (sl : Array (Option Value)) :
    Meets (Builtin.«enumerate.__new__» ⟨[.type "enumerate", .ref b], []⟩) (fun _ R s => s.heap.get? b = some { cls := .type "tuple", dict := dct, data := .seq ys n, slots := sl } ∧
      R (.ok (.ret (.ref (s.heap.push { cls := .type "tuple_iterator", data := .fields #[.ref b, .int 0 0] }).objs.size)))
        { s with heap := (s.heap.push { cls := .type "tuple_iterator", data := .fields #[.ref b, .int 0 0] }).push { cls := .type "enumerate", data := .fields #[.none, .bool false, .ref s.heap.objs.size, rawInt 0, .none, .none] } }) :=
  .of_wp fun prog w A R s h => by
    obtain ⟨hp, g, d, tk, os⟩ := s
    obtain ⟨hl, h⟩ := h
    have hsub := sub_enumerate
    have hT : Heap.IsTuple (Shared.heap ⟨hp, g, d, tk, os⟩) b ys := ⟨_, hl, rfl, n, rfl⟩
    wp_walk using wpAny_loadPart' hl
    refine wpAny_stack_any fun st => wpAny_pure ?_
    split
    · rename_i c _ _ _ _ _
      cases (c == Value.type "enumerate")
      · wp_walk using wpAny_loadPart' hl, wpAny_pyIter_tuple hT
        exact ⟨_, rfl, h⟩
      · wp_walk using wpAny_loadPart' hl, wpAny_pyIter_tuple hT
        exact ⟨_, rfl, h⟩
    · wp_walk using wpAny_loadPart' hl, wpAny_pyIter_tuple hT
      exact ⟨_, rfl, h⟩
theorem call_enumT {prog : Program} {w : World} {A : Around} {E : Value → Shared → Prop} {s : Shared} {b : Addr} {ys : Array Value} {Q : Value → Shared → Prop} (hT : s.heap.IsTuple b ys)
    (h : ∀ h', IsEnum h' (s.heap.objs.size + 1) s.heap.objs.size 0 .none → h'.IsTupleIter s.heap.objs.size b 0 → h'.objs.size = s.heap.objs.size + 2 → (∀ b o, s.heap.get? b = some o → h'.get? b = some o) → Q (.ref (s.heap.objs.size + 1)) { s with heap := h' }) :
    wpAny (model prog w) A (call (.type "enumerate") [.ref b]) Q E s := by
  obtain ⟨⟨c, dct, dt, sl⟩, hl, hc, n, hd⟩ := hT
  replace hc : c = .type "tuple" := hc
  replace hd : dt = .seq ys n := hd
  subst hc hd
  refine callType_new F.called_enumerate (by decide) (F.typeCall_enumerate_1 _) (F.newCall_enumerate_1 _) (fun obj => F.args_object_init_2 obj _) F.entry_enumerate_new (meets_enumT b ys n dct sl) ⟨hl, ?_⟩
  have hz : (s.heap.push { cls := .type "tuple_iterator", data := .fields #[.ref b, .int 0 0] }).objs.size = s.heap.objs.size + 1 := Heap.size_push ..
  show _ ∧ _
  rw [hz]
  have he : IsEnum ((s.heap.push { cls := .type "tuple_iterator", data := .fields #[.ref b, .int 0 0] }).push { cls := .type "enumerate", data := .fields #[.none, .bool false, .ref s.heap.objs.size, rawInt 0, .none, .none] }) (s.heap.objs.size + 1) s.heap.objs.size 0 .none := by
    have := Heap.get?_push_size (s.heap.push { cls := .type "tuple_iterator", data := .fields #[.ref b, .int 0 0] }) (o := { cls := .type "enumerate", data := .fields #[.none, .bool false, .ref s.heap.objs.size, rawInt 0, .none, .none] }) rfl
    rw [hz] at this
    exact this
  exact ⟨⟨_, he, rfl⟩, h _ he ⟨_, Heap.get?_push_of_some _ (Heap.get?_push_size _ rfl), rfl, rfl⟩ (by rw [Heap.size_push, hz]) fun b o x => Heap.get?_push_of_some _ (Heap.get?_push_of_some _ x)⟩
/-- the tuple at a, each item in a new pair -/
def ItE (K : Fr) (a : Addr) : It :=
  ⟨fun i H => ∃ (xs : List V) (x : V), SqT K H a xs ∧ xs[i]? = some x, fun i H v H' => ∃ p x, v = .ref p ∧ H p = none ∧ H' = upd H p (.tup [.int (i : Nat), x]) ∧ ∀ xs, SqT K H a xs → xs[i]? = some x, fun i H => ∃ xs : List V, SqT K H a xs ∧ xs.length ≤ i⟩
theorem turn_enumT {P : Program} {w : World} {K : Fr} {elts : List Expr} {kk : Nat} {tpos : Pos} (a e j : Addr) :
    Turn P w K (.Tuple elts kk tpos) (ItE K a) [e, j] e (fun i h => (∃ old, IsEnum h e j ((i : Nat) : Int) old) ∧ h.IsTupleIter j a i ∧ e ≠ j ∧ a ≠ j ∧ a ≠ e) where
  mem := by simp
  obj := fun i h st b hb => by
    obtain ⟨⟨old, he⟩, ⟨o, ho, hc, hd⟩, _⟩ := st
    have e' : b = e ∨ b = j := by simpa using hb
    rcases e' with z | z
    · rw [z]; exact ⟨_, he, fun v q => nomatch q⟩
    · rw [z]; exact ⟨o, ho, fun v q => by rw [hd] at q; cases q⟩
  keep := fun i h h' st k => let ⟨⟨old, he⟩, ⟨o, ho, r⟩, hne⟩ := st; ⟨⟨old, k e (by simp) _ he⟩, ⟨o, k j (by simp) o ho, r⟩, hne⟩
  item := by
    intro X hP hw hK hc i pins s σ H E I hf st hg
    subst hP hw hK
    obtain ⟨⟨old, he⟩, hit, hne, hn2, hn3⟩ := st
    obtain ⟨xs, x, hq, hx⟩ := hg
    obtain ⟨its, rv, p, hz⟩ := I.tuple hq
    obtain ⟨u, hu, ru⟩ := rv.get hx
    have hel : e < s.heap.objs.size := Heap.lt_size he
    have hil : j < s.heap.objs.size := by obtain ⟨_, q, _⟩ := hit; exact Heap.lt_size q
    have hlt : i < its.toArray.size := by
      have := (List.getElem?_eq_some_iff.mp hu).1
      simpa using this
    refine wpAny_pyNext_enum_itemD (draws_tup (A := X.A.in1) (by have := I.ok.hd hc; exact this) j a hn2 its.toArray) he ⟨hit, p⟩ hlt hne (by simp [hne, hn3.symm]) fun y h' tk hy ho hst hT hsz hk => ?_
    obtain rfl : y = u := by
      have : its.toArray[i]? = some u := by simpa using hu
      rw [this] at hy
      exact (Option.some.inj hy).symm
    refine ⟨_, rfl, wpAny_letOwnedTupleGo_enum (s := { s with heap := h', toks := tk + 1 }) ho fun h'' he' sb => ?_⟩
    have hT2 : h''.get? s.heap.objs.size = some { cls := .type "tuple", data := .seq #[.int i tk, y] } := (sb.2 _ (Nat.ne_of_gt hel)).trans hT
    have new : ObjOk X.prog X.w (upd H s.heap.objs.size (.tup [.int (i : Nat), x])) h'' s.heap.objs.size (.tup [.int (i : Nat), x]) :=
      ⟨by show 2 ≤ sizeLine; decide, [.int i tk, y], .cons ⟨_, rfl⟩ (.cons ru .nil), ⟨_, hT2, rfl, _, rfl⟩⟩
    have I1 : Inv X pins σ (upd H s.heap.objs.size (.tup [.int (i : Nat), x])) { s with heap := h'', toks := tk + 1 } :=
      I.turnedNew (ch := [e, j]) (fun b ob hb q => (sb.2 b (fun z => hb (by simp [z]))).trans (hk b ob (fun z => hb (by simp [z])) (fun z => hb (by simp [z])) q)) hf (Nat.le_refl _) new
    refine ⟨.ref s.heap.objs.size, _, I1, rfl, ⟨_, x, rfl, I.hok.fresh (Nat.le_refl _), rfl, fun ys hy => by rw [I.tuple_inj hy hq]; exact hx⟩, ⟨⟨y, ?_⟩, ?_, hne, hn2, hn3⟩, fun b hb => ?_⟩
    · have e1 : ((i + 1 : Nat) : Int) = (i : Int) + 1 := by omega
      rw [e1]; exact he'
    · obtain ⟨⟨o, ho2, r⟩, _⟩ := hst
      exact ⟨o, (sb.2 j (Ne.symm hne)).trans ho2, r⟩
    · have hb' : b < s.heap.objs.size := by
        have e' : b = e ∨ b = j := by simpa using hb
        rcases e' with z | z
        · rw [z]; exact hel
        · rw [z]; exact hil
      rw [upd_ne (Nat.ne_of_lt hb')]
      exact (hf b hb).1
  done := by
    intro X hP hw hK hc i pins s σ H E I hf st hg
    subst hP hw hK
    obtain ⟨⟨old, he⟩, hit, hne, hn2, hn3⟩ := st
    obtain ⟨xs, hq, hx⟩ := hg
    obtain ⟨its, rv, p, hz⟩ := I.tuple hq
    obtain ⟨f0, f1, f2, f3, f4, f5⟩ := hf j (by simp)
    have hl := rv.length
    have hT : s.TypeIs (.ref e) "enumerate" := ⟨_, he, rfl⟩
    unfold pyNext
    refine wpAny_bind (wpAny_attempt (wpAny_callSpecial?_slot (name := Str.ofString "__next__") hT F.slot_enumerate_next (wpAny_call_entry F.slot_enumerate_next hT F.entry_enumerate_next ?_ (F.args_enumerate_next_1 _))))
    show wpAny _ _ (field (.ref e) 2 >>= _) _ _ _
    refine wpAny_bind (wpAny_field he rfl (x := .ref j) rfl ?_)
    refine wpAny_bind (nextOf_tup_end (A := X.A.in1) (by have := I.ok.hd hc; exact this) hit p (by simp; omega) fun h' x he' hx' => ?_)
    obtain ⟨o, ho, hc⟩ := hx'
    refine wpAny_bind (wpAny_isInstance (T := "StopIteration") (b := true) ⟨o, ho, hc⟩ isSubtype_stop ?_)
    exact wpAny_pure ⟨rfl, I.turned (t' := s.toks) (fun b o hb q => he' b o hb q) f0 f1 f3 f4 f5⟩
  self := fun A i s Q E st h => let ⟨⟨_, he⟩, _⟩ := st; wpAny_pyIter_enum he h
def iEnumT (K : Fr) (ta : TA) : TI := fun σ H R => ta σ H fun vs H1 => ∃ a xs, vs = [.ref a] ∧ SqT K H1 a xs ∧ R (ItE K a) H1
theorem pi_enumT {X : Cx} {e : Expr} {ta : TA} {p pos tpos : Pos} {elts : List Expr} {kk : Nat} (hg : Gl X "enumerate") (hm : X.mg "enumerate" = none) (ha : PA X [e] ta) (hs : starEach [e] X.env = [(false, eval e X.env)] := by rfl) :
    PI X (.Tuple elts kk tpos) (.Call (.Name "enumerate" p) [e] [] pos) (iEnumT X.K ta) := by
  refine ⟨fun pins s σ H R I h => ?_⟩
  refine Call_ (ld_blt I hg hm boot_enumerate (PyProof.Rows.callWith_type1 (thn (ha.run pos pins s σ H _ I h) fun us s1 ⟨vs, H1, I1, r1, q1⟩ => ?_) hs rfl))
  obtain ⟨a, xs, ex, hq, q⟩ := q1
  subst ex
  cases r1 with
  | cons r rr =>
    cases rr
    cases r
    obtain ⟨its, rv, p', hz⟩ := I1.tuple hq
    have ha : a < s1.heap.objs.size := by obtain ⟨o, ho, _⟩ := p'; exact Heap.lt_size ho
    refine call_enumT p' fun h' he hit hsz hk => wpAny_pyIter_enum he ?_
    have I2 : Inv X pins σ H1 { s1 with heap := h' } := I1.kept (t' := s1.toks) hk
    refine ⟨s1.heap.objs.size + 1, [s1.heap.objs.size + 1, s1.heap.objs.size], _, _, H1, rfl, I2, turn_enumT a (s1.heap.objs.size + 1) s1.heap.objs.size, ⟨⟨.none, he⟩, hit, Nat.succ_ne_self _, Nat.ne_of_lt ha, Nat.ne_of_lt (Nat.lt_succ_of_lt ha)⟩, fun b hb => ?_, q⟩
    have e' : b = s1.heap.objs.size + 1 ∨ b = s1.heap.objs.size := by simpa using hb
    have hle : s1.heap.objs.size ≤ b := by
      rcases e' with z | z
      · rw [z]; exact Nat.le_add_right _ _
      · rw [z]; exact Nat.le_refl _
    exact I1.fpOk hle (I1.hok.fresh hle)
theorem walk_enumT {K : Fr} {a : Addr} {xs : List V} : Walk (ItE K a) xs.length (fun H => SqT K H a xs) (YPair (fun i => some (.int (i : Nat))) (fun i => xs[i]?)) := by
  refine ⟨fun i H hi p => ⟨xs, xs[i], p, by simp [hi]⟩, fun H p => ⟨xs, p, Nat.le_refl _⟩, fun i H v H' hi p y => ?_⟩
  obtain ⟨q, x, e1, e2, e3, e4⟩ := y
  exact ⟨q, _, x, e1, e2, e3, rfl, e4 xs p⟩
def fEnumT (f : FE) : FL := fun ρ h => (f ρ h).bind fun t h => match t with
  | .dat (.tuple ts) => .ok (enumT ts) h
  | _ => .bad
theorem si_enumT {X : Cx} {E : XK} {a : Expr} {f : FE} {p pos : Pos} {x : Str} {elts : List Expr} {kk : Nat} {tpos : Pos} (hx : x = "enumerate") (hg : Gl X x) (hm : X.mg x = none) (ha : SE X E a f) (hs : starEach [a] X.env = [(false, eval a X.env)] := by rfl) : SI X E (.Tuple elts kk tpos) (.Call (.Name x p) [a] [] pos) (fEnumT f) := by
  subst hx
  refine pi_imp (pi_enumT hg hm (pa_len (pa_cons ha pa_nil hs)) hs) fun σ H R hw => tX_bind (f := f) rpI_m hw fun ρ t h1 v H1 G0 G1 w0 w1 R1 T1 r1 W1 => ?_
  intro lo
  cases t with
  | obj n => exact W1.elim
  | scr n => exact W1.elim
  | dat t =>
    cases t with
    | tuple ts =>
      obtain ⟨q, vs, rfl, h1, h2⟩ := RT.tuple r1
      refine ⟨q, vs, rfl, SqT.of (R1.sub _ _ h1), W1.fin0 R1 ⟨?_, ?_⟩⟩
      · rw [enumT_len, ← h2.length]
        exact lo.2 _ _ (SqT.of (R1.sub _ _ h1))
      · have w := walk_enumT (K := X.K) (a := q) (xs := vs)
        rw [h2.length] at w
        rw [enumT_len]
        refine w.mono (fun H s => SqT.of (s _ _ h1)) fun i H x H' hi s y => ?_
        obtain ⟨p, x1, x2, e1, e2, e3, e4, e5⟩ := y
        cases e4
        obtain ⟨t, ht, r⟩ := h2.getV e5
        exact ⟨_, enumT_get ht, .inr ⟨p, _, x2, _, t, e1, e2, e3, rfl, RT.int _, r⟩⟩
    | _ => exact W1.elim
/-! ### a def's list handed back; several stores by a tuple; what is never reached -/
def fRetV (i : Nat) : FS := fun ρ h => match ρ[i]? with
  | some (.own ts) => .ok (.ret (.own ts)) h
  | some (.val d) => .ok (.ret (.val d)) h
  | _ => .bad
section
variable {X : Cx} {E : XK} {e tg : Expr} {es : List Expr} {sts : List Stmt} {pos : Pos}
theorem ss_retV (i : Nat) (h : PE X e (tVar i)) : SS X E (.Return (some e) pos) (fRetV i) := ps_imp (ps_ret h) fun D σ H ⟨ρ, h0, G, w, R, W⟩ => by
  unfold fRetV at W
  split at W
  · rename_i ts hd
    obtain ⟨a, vs, h1, h2, h3, h4⟩ := R.env i _ hd
    exact ⟨_, h2, W _ _ _ _ R.drop Tr.refl.bare ⟨a, vs, rfl, h3, h4, R.off _ _ h1, slot_apart R h1, .inl ⟨_, h1⟩⟩⟩
  · rename_i d hd
    obtain ⟨_, v, hv, r⟩ := R.env i _ hd
    exact ⟨v, hv, W _ _ _ _ R.drop Tr.refl.bare (rpR_bare (ρ := ρ) (σ := σ) (r := .val d) (w0 := w) (H0 := H) r)⟩
  · exact W.elim
theorem ss_badAll : SSs X E sts fBad := ⟨fun pins s σ H D I hw => by
  obtain ⟨ρ, h0, G, w, R, W⟩ := hw
  exact W.elim⟩
def gAll : List Nat → TGs
  | [] => gNil
  | i :: is => gCons (gName i) (gAll is)
theorem gAll_ok {H : Hp} {Q : L2.St → Hp → Prop} : ∀ {is : List Nat} {vs : List V} {σ : L2.St}, vs.length = is.length → Q ((is.zip vs).foldl (fun σ p => σ.set p.1 (some p.2)) σ) H → gAll is vs σ H Q
  | [], [], _, _, q => ⟨rfl, q⟩
  | i :: is, v :: vs, σ, hl, q => ⟨v, vs, rfl, gAll_ok (by simpa using hl) q⟩
theorem rets_step {K : Fr} {H0 : Hp} {w0 : Wn} {H G : Hp} {w : Wn} {H' G' : Hp} {w' : Wn} (t : Tr G H w G' H' w') : ∀ {rs : List Ret} {vs : List V}, RetsR K H0 w0 H G w rs vs → RetsR K H0 w0 H' G' w' rs vs
  | [], _, h => h
  | r :: rs, _, ⟨v, vs', e, h1, h2, h3⟩ => ⟨v, vs', e, rpR_step t h1, rets_step t h2, h3⟩
theorem ss_parT {is : List Nat} {g : FRs} {n : Nat} {k pt} (ha : SRs X E es g) (hg : PG X tg (gTup X.K n (gAll is))) (hk : is.length = n ∧ is.length ≤ 1000) (hi : is.all (fun i => decide (i < X.N.length)) = true := by rfl) (hs : swapsWithSole [tg] (.Tuple es k pt) pos.line X.env = pure false := by rfl) (hw : swappedStores [tg] (.Tuple es k pt) X.env = pure none := by rfl)
    (h1 : (assignEach [tg] X.env).map (·.2) = [assign tg X.env] := by rfl) : SS X E (.Assign [tg] (.Tuple es k pt) pos) (fPar is g) := ps_imp (ps_slots (ps_asg (pe_tup ha) hg hs hw h1)) fun D σ H hw hl =>
  tS_bind0 (f := g) hw fun ρ rs h1 vs H1 G0 G1 w0 w1 R1 T1 r1 W1 => by
    split at W1
    · rename_i hr
      have hv : vs.length = is.length := by rw [rets_len r1]; exact hr
      refine ⟨by rw [hv]; exact le_line hk.2, fun p hp => ?_⟩
      obtain ⟨R2, T2⟩ := R1.new (New.mute R1.sub (.tup vs) hp)
      obtain ⟨w', R3, T3⟩ := Rel.setRets (is := is) R2 (T1.trans T2) (rets_step T2 r1) hr.symm fun i h => by
        rw [R2.len, hl]
        exact of_decide_eq_true (List.all_eq_true.mp hi i h)
      exact ⟨p, vs, rfl, SqT.of upd_same, by rw [hv]; exact hk.1, gAll_ok hv (W1 _ _ _ _ R3 T3)⟩
    · exact W1.elim
end
theorem hu70 {k : Nat} {A : Around} (r : Room k A) : A.units + 70 < cLine := by have := r.un; omega
end Pf
set_option Elab.async false
set_option linter.all false
set_option maxRecDepth 100000
set_option maxHeartbeats 2000000
namespace Pf
open PySem PySem.Spec PyProof.Rows L2
/-! ### with exceptions, or without -/
def nx {α : Type} (x : Bool) (r : Res α) : Res α := match x with
  | true => r
  | false => noX r
@[simp] theorem nx_ok {α : Type} (x : Bool) (a : α) (h : Hs) : nx x (.ok a h) = .ok a h := by cases x <;> rfl
@[simp] theorem nx_bad {α : Type} (x : Bool) : nx x (.bad : Res α) = .bad := by cases x <;> rfl
def fCallF (x : Bool) (np : Nat) (s : Sem1) (g : FA) : FR := match x with
  | false => fCall np s g
  | true => fun ρ h => (g ρ h).bind fun ds h => if ds.length = np then s ds h else .bad
def fMakeF (x : Bool) (cn : Str) (np : Nat) (s : Sem1) (g : FA) : FE := match x with
  | false => fMake cn np s g
  | true => fun ρ h => (g ρ h).bind fun ds h => if ds.length + 1 = np then (s (.obj h.length :: ds) (h ++ [.ins cn []])).bind fun r h' => (match r with
    | .val (.dat .none) => .ok (.obj h.length) h'
    | _ => .bad) else .bad
def fMethF (x : Bool) (cn m : Str) (np : Nat) (s : Sem1) (fo : FE) (g : FA) : FR := match x with
  | false => fMeth cn m np s fo g
  | true => fun ρ h => (fo ρ h).bind fun d h => match d with
    | .obj n => match h[n]? with
      | some (.ins c fs) => if c = cn ∧ (fs.lookup m).isNone = true then (g ρ h).bind fun ds h => (if ds.length + 1 = np then s (.obj n :: ds) h else .bad) else .bad
      | _ => .bad
    | _ => .bad
def fRaise (x : Bool) (cls : Str) (f : Option Str) (g : FA) : FS := match x with
  | false => fBad
  | true => fun ρ h => (g ρ h).bind fun ds h => match f, ds with
    | none, _ => .exc ⟨cls, none⟩ h
    | some f, [.dat t] => .exc ⟨cls, some (f, t)⟩ h
    | _, _ => .bad
theorem fCallF_def (x : Bool) (np : Nat) (s : Sem1) (g : FA) (ρ : En) (h : Hs) : fCallF x np s g ρ h = (g ρ h).bind fun ds h => if ds.length = np then nx x (s ds h) else .bad := by cases x <;> rfl
theorem fMakeF_def (x : Bool) (cn : Str) (np : Nat) (s : Sem1) (g : FA) (ρ : En) (h : Hs) : fMakeF x cn np s g ρ h = (g ρ h).bind fun ds h => if ds.length + 1 = np then (nx x (s (.obj h.length :: ds) (h ++ [.ins cn []]))).bind fun r h' => (match r with
    | .val (.dat .none) => .ok (.obj h.length) h'
    | _ => .bad) else .bad := by cases x <;> rfl
theorem fMethF_def (x : Bool) (cn m : Str) (np : Nat) (s : Sem1) (fo : FE) (g : FA) (ρ : En) (h : Hs) : fMethF x cn m np s fo g ρ h = (fo ρ h).bind fun d h => match d with
    | .obj n => match h[n]? with
      | some (.ins c fs) => if c = cn ∧ (fs.lookup m).isNone = true then (g ρ h).bind fun ds h => (if ds.length + 1 = np then nx x (s (.obj n :: ds) h) else .bad) else .bad
      | _ => .bad
    | _ => .bad := by cases x <;> rfl
section
variable {X : Cx} {E : XK} {e o a b c : Expr} {pos p apos pos' : Pos} {es : List Expr} {fe fo : FE} {g : FA} {s : Sem1} {np j : Nat} {f C : Addr} {fd : FuncData} {ps : List Str} {x m cn k : Str}
theorem sr_meth0 {pl : Sem Bool} (ho : SE X E o fo) (c : Cls X.K (He.ga X.K cn)) (hm : Meth X.K (He.ga X.K cn) m f) (F : FnOk X.prog X.w X.K X.mg X.base CX0 j f fd ps (spD X.K np s)) (hr : Room j X.A) (hb : Binds X.K fd ps [])
    (ht : eval (.Call (.Attribute o m apos) [] [] pos) X.env = (do
      let ov ← eval o X.env
      standAt apos.atName
      let (f, first) ← holding [ov] (getMethod ov m pl)
      callWith pos f first (backTo pos (starEach [] X.env)) (backToKw pos (keywordEach [] X.env))) := by rfl) :
    SR X E (.Call (.Attribute o m apos) [] [] pos) (fMeth cn m np s fo fANil) := pe_imp (pe_meth0 (pl := pl) ho c hm F hr hb .nil pass0 ht) fun σ H Q hw =>
  tX_bind (f := fo) rpR_m hw fun ρ d h1 v H1 G0 G1 w0 w1 R1 T1 r1 W1 => by
    cases d with
    | dat t => exact W1.elim
    | scr t => exact W1.elim
    | obj n =>
      dsimp only at W1
      split at W1
      · rename_i c fs hno
        split at W1
        · rename_i hcn
          obtain ⟨rfl, hl⟩ := hcn
          obtain ⟨a, dx, vfs, g1, g2, g3, g4⟩ := R1.obs n _ hno
          obtain ⟨a', e1, rfl⟩ := r1
          rw [g1] at e1
          cases e1
          have g5 := g4 m
          refine ⟨a, dx, vfs, rfl, g2, ?_, ?_⟩
          · cases hk : fs.lookup m with
            | none => rw [hk] at g5; exact g5.1
            | some z => rw [hk] at hl; cases hl
          · unfold fANil at W1
            rw [bind_ok] at W1
            split at W1
            · rename_i hn
              exact call_wish R1 (ds := [.obj n]) (.cons ⟨a, g1, rfl⟩ .nil) hn W1
            · exact W1.elim
        · exact W1.elim
      · exact W1.elim
end
end Pf
set_option Elab.async false
set_option linter.all false
set_option maxRecDepth 100000
set_option maxHeartbeats 2000000
namespace Pf
open PySem PySem.Spec PyProof.Rows L2
/-! ### sorted, min, max, sum of lists of data -/
def isTup1 : T → Bool
  | .tuple (_ :: _) => true
  | _ => false
def isOth : T → Bool
  | .none => false
  | .tuple _ => false
  | _ => true
def alikes (ts : List T) : Bool := ts.all fun a => ts.all fun b => PySem.W.alike a b
def flat60 (ts : List T) : Bool := ts.all fun a => decide (a.depth ≤ 60)
def sortOk (ts : List T) : Bool := alikes ts && ((ts.all isTup1 || ts.all isOth) && flat60 ts)
def sortD (ts : List T) : List T := ts.mergeSort (PySem.W.dataLe false fun x => x)
theorem alikes_ok {ts : List T} (h : alikes ts = true) : PySem.W.AllAlike ts := fun d hd d' hd' => List.all_eq_true.mp (List.all_eq_true.mp h d hd) d' hd'
theorem sortOk_ok {ts : List T} (h : sortOk ts = true) : PySem.W.AllAlike ts ∧ PySem.W.Sortable ts ∧ ∀ d ∈ ts, d.depth ≤ 60 := by
  unfold sortOk at h
  rw [Bool.and_eq_true, Bool.and_eq_true, Bool.or_eq_true] at h
  refine ⟨alikes_ok h.1, ?_, fun d hd => of_decide_eq_true (List.all_eq_true.mp h.2.2 d hd)⟩
  rcases h.2.1 with z | z
  · refine .inl fun d hd => ?_
    have := List.all_eq_true.mp z d hd
    unfold isTup1 at this
    split at this
    · exact ⟨_, _, rfl⟩
    · cases this
  · refine .inr fun d hd => ?_
    have := List.all_eq_true.mp z d hd
    unfold isOth at this
    split at this
    · cases this
    · cases this
    · rename_i h1 h2
      exact ⟨h1, fun xs e => h2 xs e⟩
/-- a value of the machine that stands for a told datum -/
def Tells (G : Hp) (v : Value) (t : T) : Prop := ∃ x, RT G t x ∧ RelV x v
theorem tells_each {G : Hp} : ∀ {ts : List T} {xs : List V} {vs : List Value}, RTs G ts xs → Vals xs vs → PySem.W.EachIs (Tells G) vs ts
  | [], xs, vs, h, r => by
    rw [h.unnil] at r
    cases r
    exact .nil
  | t :: ts, xs, vs, h, r => by
    obtain ⟨x, xs', rfl, h1, h2⟩ := h.uncons
    cases r with
    | cons a b => exact .cons ⟨x, h1, a⟩ (tells_each h2 b)
theorem each_tells {G : Hp} : ∀ {ts : List T} {vs : List Value}, PySem.W.EachIs (Tells G) vs ts → ∃ xs, RTs G ts xs ∧ Vals xs vs
  | [], _, .nil => ⟨[], .nil, .nil⟩
  | t :: ts, _, .cons ⟨x, h1, a⟩ h => by
    obtain ⟨xs, h2, b⟩ := each_tells h
    exact ⟨x :: xs, .cons h1 h2, .cons a b⟩
def rSortD : List V → Hp → VK → Prop := fun vs H Q => ∃ G v ts, vs = [v] ∧ Same G H ∧ PkR H G v (.list ts) ∧ sortOk ts = true ∧ ∀ p us, H p = none → RTs G (sortD ts) us → Q (.ref p) (upd H p (.lst us))
section
variable {X : Cx} {E : XK} {e : Expr} {es : List Expr} {pos p : Pos} {l : FL}
theorem cr_sortD (hu : X.A.units + 70 < cLine) : CallR X (.builtin "sorted") rSortD := by
  intro pins s σ H vs us Q I r h
  obtain ⟨G, v, ts, rfl, sG, px, hok, q⟩ := h
  obtain ⟨a, xs, rfl, h1, h2⟩ := px.list sG
  obtain ⟨its, rv, hl, hz⟩ := I.list (SqL.of h1)
  rw [Vals.ref1 r]
  obtain ⟨k1, k2, k3⟩ := sortOk_ok hok
  have e1 := tells_each h2 rv
  have hlen : ts.length ≤ sizeLine := by rw [← h2.length]; exact hz
  refine PySem.W.sorted_data (enc := fun x => x) (bs := ts) hl.isList e1 (e1.mono fun v t ⟨x, hx, rx⟩ => Dp.reads I t x v (dq_dp sG t x hx.1) rx) (by simpa using k1) (by simpa using k2) hlen (fun b hb => by have := k3 b hb; omega) fun out ho eo => ?_
  obtain ⟨ys, y1, y2⟩ := each_tells eo
  obtain ⟨ep, he'⟩ := PyProof.Rows.sortedAll_at s.heap its out.toArray
  have hyl : ys.length ≤ sizeLine := by rw [Vals.length y2, ho]; exact hlen
  exact ⟨.ref _, upd H (s.heap.objs.size + 1) (.lst ys), I.laid (t' := s.toks) (fun _ _ => PyProof.Rows.sortedAll_old) (Nat.le_succ _) ⟨hyl, out, ep, y2, he'⟩, rfl, q _ _ (I.hok.fresh (Nat.le_succ _)) y1⟩
def fSorted (f : FL) : FR := fun ρ h => (f ρ h).bind fun ts h => match ts with
  | [.list ts] => if sortOk ts = true then .ok (.own (sortD ts)) h else .bad
  | _ => .bad
theorem sr_sorted {x : Str} (hu : X.A.units + 70 < cLine) (hx : x = "sorted") (hg : Gl X x) (hm : X.mg x = none) (ha : SOs X E (e :: es) l) (hv : bootBuiltins x = some (.builtin "sorted") := by decide +kernel) (hn : x ≠ "__name__" := by decide) (hdb : (x == ("__debug__" : Str)) = false := by decide)
    (he : starEach (e :: es) X.env = (false, eval e X.env) :: starEach es X.env := by rfl) (hpl : (backTo pos (starEach es X.env)).any (·.1) = false := by rfl) : SR X E (.Call (.Name x p) (e :: es) [] pos) (fSorted l) := pe_imp (pe_callB (cr_sortD hu) hg hm hv ha hn hdb he hpl) fun σ H Q hw =>
  tX_bind (f := l) rpR_m hw fun ρ ts h1 vs H1 G0 G1 w0 w1 R1 T1 r1 W1 => by
    have hp := r1 _ _ _ _ R1 (Same.refl _)
    split at W1
    · split at W1
      · rename_i ts hok
        obtain ⟨v, rfl, px⟩ := pr1 hp
        exact ⟨G1, v, ts, rfl, R1.sub, px, hok, fun p us hp2 r2 => W1.fin R1 (New.mute R1.sub _ hp2) (ownR_new R1 r2 hp2)⟩
      · exact W1.elim
    · exact W1.elim
/-! min, max, sum -/
def noNone (ts : List T) : Bool := ts.all fun a => !isNone a
def minL : List T → Option T
  | [.list (t :: ts)] => if (alikes (t :: ts) && (noNone (t :: ts) && flat60 (t :: ts))) = true then some (PySem.W.minD t ts) else none
  | _ => none
def maxL : List T → Option T
  | [.list (t :: ts)] => if (alikes (t :: ts) && (noNone (t :: ts) && flat60 (t :: ts))) = true then some (PySem.W.maxD t ts) else none
  | [.tuple (t :: ts)] => if (alikes (t :: ts) && (noNone (t :: ts) && flat60 (t :: ts))) = true then some (PySem.W.maxD t ts) else none
  | _ => none
theorem depthAll_of {n : Nat} : ∀ {ts : List T}, (∀ t ∈ ts, t.depth ≤ n) → PyData.depthAll ts ≤ n
  | [], _ => by rw [PyData.depthAll]; omega
  | t :: ts, h => by
    rw [PyData.depthAll]
    have h1 := h t (List.mem_cons_self ..)
    have h2 := depthAll_of (ts := ts) fun u hu => h u (List.mem_cons_of_mem _ hu)
    omega
theorem best_ok {ts : List T} (h : (alikes ts && (noNone ts && flat60 ts)) = true) : PySem.W.AlikeAll ts ∧ PyData.depthAll ts ≤ 60 := by
  rw [Bool.and_eq_true, Bool.and_eq_true] at h
  refine ⟨⟨alikes_ok h.1, fun x hx e => ?_⟩, depthAll_of fun t ht => of_decide_eq_true (List.all_eq_true.mp h.2.2 t ht)⟩
  have := List.all_eq_true.mp h.2.1 x hx
  rw [e] at this
  cases this
theorem vals_at : ∀ {xs : List V} {us : List Value} {i : Nat} {u : Value}, Vals xs us → us[i]? = some u → ∃ x, xs[i]? = some x ∧ RelV x u
  | _, _, i, u, .nil, e => by simp at e
  | _, _, 0, u, .cons a b, e => by
    simp at e
    subst e
    exact ⟨_, rfl, a⟩
  | _, _, i + 1, u, .cons a b, e => by
    obtain ⟨x, h1, h2⟩ := vals_at (i := i) b (by simpa using e)
    exact ⟨x, by simpa using h1, h2⟩
theorem best_fin {pins : List (Addr × Obj)} {s : Shared} {σ : L2.St} {H G : Hp} {Q : VK} {its : List Value} {xs : List V} {ts : List T} {r : T} (I : Inv X pins σ H s) (sG : Same G H) (h2 : RTs G ts xs) (rv : Vals xs its) (k : ∀ v H' G', New H G H' G' → RT G' r v → Q v H')
    (i : Nat) (v : Value) (h' : Heap) (tk : Tok) (bs : List Addr) (hv : its.toArray[i]? = some v) (hr : Reads h' v r bs) (hk : ∀ b o, s.heap.get? b = some o → h'.get? b = some o) : EP X pins σ Q v { s with heap := h', toks := tk } := by
  obtain ⟨x, hx, rx⟩ := vals_at rv (by simpa using hv)
  obtain ⟨t, ht, rt⟩ := h2.getV hx
  have I2 : Inv X pins σ H { s with heap := h', toks := tk } := I.kept hk
  obtain ⟨as, ra⟩ := Dp.reads I2 t x v (dq_dp sG t x rt.1) rx
  have e : t = r := PySem.SeqAt.Reads.unique t r v as bs rt.2 ra hr
  subst e
  exact ⟨x, H, I2, rx, k x H G (New.refl sG) rt⟩
theorem cr_minL (hc : X.calm = true) (hu : X.A.units + 70 < cLine) : CallR X (.builtin "min") (rTs minL) := by
  intro pins s σ H xs us Q I r ⟨G, ts, r', sG, _, hp, hg, k⟩
  unfold minL at hg
  split at hg
  · split at hg
    · rename_i t ts hok
      cases hg
      obtain ⟨v, rfl, px⟩ := pr1 hp
      obtain ⟨a, vs, rfl, h1, h2⟩ := px.list sG
      obtain ⟨its, rv, hl, hz⟩ := I.list (SqL.of h1)
      rw [Vals.ref1 r]
      obtain ⟨b1, b2⟩ := best_ok hok
      obtain ⟨as, ra⟩ := Dp.readsAll I (t :: ts) vs its (dqAll_dp sG _ _ h2.1) rv
      exact PySem.W.min_list_data (I.ok.hd hc) hl.isList (by simpa using ra) b1 (by omega) fun i v h' tk bs hv hr hk => best_fin I sG h2 rv k i v h' tk bs hv hr hk
    · cases hg
  · cases hg
theorem cr_maxL (hc : X.calm = true) (hu : X.A.units + 70 < cLine) : CallR X (.builtin "max") (rTs maxL) := by
  intro pins s σ H xs us Q I r ⟨G, ts, r', sG, _, hp, hg, k⟩
  unfold maxL at hg
  split at hg
  · split at hg
    · rename_i t ts hok
      cases hg
      obtain ⟨v, rfl, px⟩ := pr1 hp
      obtain ⟨a, vs, rfl, h1, h2⟩ := px.list sG
      obtain ⟨its, rv, hl, hz⟩ := I.list (SqL.of h1)
      rw [Vals.ref1 r]
      obtain ⟨b1, b2⟩ := best_ok hok
      obtain ⟨as, ra⟩ := Dp.readsAll I (t :: ts) vs its (dqAll_dp sG _ _ h2.1) rv
      exact PySem.W.max_list_data (I.ok.hd hc) hl.isList (by simpa using ra) b1 (by omega) fun i v h' tk bs hv hr hk => best_fin I sG h2 rv k i v h' tk bs hv hr hk
    · cases hg
  · split at hg
    · rename_i t ts hok
      cases hg
      obtain ⟨v, rfl, px⟩ := pr1 hp
      obtain ⟨a, vs, rfl, h1, h2⟩ := px.tuple sG
      obtain ⟨its, rv, hl, hz⟩ := I.tuple (SqT.of h1)
      rw [Vals.ref1 r]
      obtain ⟨b1, b2⟩ := best_ok hok
      obtain ⟨as, ra⟩ := Dp.readsAll I (t :: ts) vs its (dqAll_dp sG _ _ h2.1) rv
      exact PySem.W.max_tuple_data (I.ok.hd hc) hl (by simpa using ra) b1 (by omega) fun i v h' tk bs hv hr hk => best_fin I sG h2 rv k i v h' tk bs hv hr hk
    · cases hg
  · cases hg
def intsOf : List T → Option (List Int)
  | [] => some []
  | .int i :: ts => (intsOf ts).map (i :: ·)
  | _ :: _ => none
theorem intsOf_ok {G : Hp} : ∀ {ts : List T} {vs : List V} {ns : List Int}, RTs G ts vs → intsOf ts = some ns → vs = ns.map V.int
  | [], vs, ns, h, e => by
    cases e
    rw [h.unnil]
    rfl
  | t :: ts, vs, ns, h, e => by
    obtain ⟨v, vs', rfl, h1, h2⟩ := h.uncons
    cases t with
    | int i =>
      obtain ⟨ms, e1, rfl⟩ := Option.map_eq_some_iff.mp (show (intsOf ts).map (i :: ·) = some ns from e)
      obtain ⟨h1, _⟩ := h1
      cases h1
      rw [intsOf_ok h2 e1]
      rfl
    | _ => cases e
def sumT : List T → Option T
  | [.list ts] => (intsOf ts).map fun ns => .int ns.sum
  | [.tuple ts] => (intsOf ts).map fun ns => .int ns.sum
  | _ => none
def sumL : List T → Option T
  | [.list ts] => (intsOf ts).map fun ns => .int ns.sum
  | _ => none
theorem cr_sumL (hc : X.calm = true) : CallR X (.builtin "sum") (rTs sumL) := by
  intro pins s σ H xs us Q I r ⟨G, ts, r', sG, _, hp, hg, k⟩
  unfold sumL at hg
  split at hg
  · obtain ⟨ns, hn, rfl⟩ := Option.map_eq_some_iff.mp hg
    obtain ⟨v, rfl, px⟩ := pr1 hp
    obtain ⟨a, vs, rfl, h1, h2⟩ := px.list sG
    have e := intsOf_ok h2 hn
    subst e
    exact L2.cr_sum hc pins s σ H _ us Q I r ⟨a, ns, rfl, SqL.of h1, k _ _ _ (New.refl sG) (RT.int _)⟩
  · cases hg
end
end Pf
set_option Elab.async false
set_option linter.all false
set_option maxRecDepth 100000
set_option maxHeartbeats 2000000
namespace Pf
open PySem PySem.Spec PyProof.Rows L2
/-! ### dicts by tuples -/
def keysOf : List T → Option (List Key)
  | [] => some []
  | .int i :: ts => (keysOf ts).map (Sum.inl i :: ·)
  | .str z :: ts => (keysOf ts).map (Sum.inr z :: ·)
  | _ :: _ => none
def keyT : T → Option (List Key)
  | .tuple ts => keysOf ts
  | _ => none
theorem keysOf_ok {G : Hp} : ∀ {ts : List T} {vs : List V} {k : List Key}, RTs G ts vs → keysOf ts = some k → vs = k.map kV
  | [], vs, k, h, e => by
    cases e
    rw [h.unnil]
    rfl
  | t :: ts, vs, k, h, e => by
    obtain ⟨v, vs', rfl, h1, h2⟩ := h.uncons
    obtain ⟨h1, _⟩ := h1
    cases t with
    | int i =>
      obtain ⟨ms, e1, rfl⟩ := Option.map_eq_some_iff.mp (show (keysOf ts).map (Sum.inl i :: ·) = some k from e)
      cases h1
      rw [keysOf_ok h2 e1]
      rfl
    | str i =>
      obtain ⟨ms, e1, rfl⟩ := Option.map_eq_some_iff.mp (show (keysOf ts).map (Sum.inr i :: ·) = some k from e)
      cases h1
      rw [keysOf_ok h2 e1]
      rfl
    | _ => cases e
theorem keyT_ok {H G : Hp} (sG : Same G H) {t : T} {v : V} {k : List Key} (h : PkR H G v t) (e : keyT t = some k) : ∃ b, v = .ref b ∧ H b = some (.tup (k.map kV)) := by
  cases t with
  | tuple ts =>
    obtain ⟨b, vs, rfl, h1, h2⟩ := h.tuple sG
    exact ⟨b, rfl, by rw [h1, keysOf_ok h2 e]⟩
  | _ => cases e
def valT (kvs : List (List Key × T)) (k : List Key) : Option T := (kvs.find? fun kv => decide (kv.1 = k)).map (·.2)
def putT (kvs : List (List Key × T)) (k : List Key) (t : T) : List (List Key × T) :=
  if (kvs.any fun kv => decide (kv.1 = k)) = true then kvs.map (fun kv => if kv.1 = k then (kv.1, t) else kv) else kvs ++ [(k, t)]
def DicR (G : Hp) (ls : List (List Key × V)) (kvs : List (List Key × T)) : Prop := Paired (fun (p : List Key × V) (q : List Key × T) => p.1 = q.1 ∧ RT G q.2 p.2) ls kvs
theorem dic_val {G : Hp} {k : List Key} : ∀ {ls : List (List Key × V)} {kvs : List (List Key × T)}, DicR G ls kvs → (valT kvs k = none → valV ls k = none) ∧ ∀ t, valT kvs k = some t → ∃ v, valV ls k = some v ∧ RT G t v
  | _, _, .nil => ⟨fun _ => rfl, fun t e => by cases e⟩
  | p :: ls, q :: kvs, .cons ⟨e1, r⟩ h => by
    have ih := dic_val (k := k) h
    by_cases hk : q.1 = k
    · have e2 : valT (q :: kvs) k = some q.2 := by simp [valT, List.find?_cons, hk]
      have e3 : valV (p :: ls) k = some p.2 := valV_pos (e1.trans hk)
      rw [e2, e3]
      exact ⟨fun z => (nomatch z), fun t z => ⟨p.2, rfl, (Option.some.inj z) ▸ r⟩⟩
    · have e2 : valT (q :: kvs) k = valT kvs k := by simp [valT, List.find?_cons, hk]
      have e3 : valV (p :: ls) k = valV ls k := valV_neg (fun z => hk (e1 ▸ z))
      rw [e2, e3]
      exact ih
theorem dic_any {G : Hp} {k : List Key} : ∀ {ls : List (List Key × V)} {kvs : List (List Key × T)}, DicR G ls kvs → (ls.any fun kv => decide (kv.1 = k)) = kvs.any fun kv => decide (kv.1 = k)
  | _, _, .nil => rfl
  | p :: ls, q :: kvs, .cons ⟨e1, r⟩ h => by
    rw [List.any_cons, List.any_cons, dic_any h, e1]
theorem dic_map {G : Hp} {k : List Key} {v : V} {t : T} (r : RT G t v) : ∀ {ls : List (List Key × V)} {kvs : List (List Key × T)}, DicR G ls kvs → DicR G (ls.map fun kv => if kv.1 = k then (kv.1, v) else kv) (kvs.map fun kv => if kv.1 = k then (kv.1, t) else kv)
  | _, _, .nil => .nil
  | p :: ls, q :: kvs, .cons ⟨e1, r'⟩ h => by
    refine .cons ?_ (dic_map r h)
    dsimp only
    by_cases hk : q.1 = k
    · rw [if_pos hk, if_pos (e1.trans hk)]
      exact ⟨e1, r⟩
    · rw [if_neg hk, if_neg (fun z => hk (e1 ▸ z))]
      exact ⟨e1, r'⟩
theorem dic_app {G : Hp} {k : List Key} {v : V} {t : T} (r : RT G t v) : ∀ {ls : List (List Key × V)} {kvs : List (List Key × T)}, DicR G ls kvs → DicR G (ls ++ [(k, v)]) (kvs ++ [(k, t)])
  | _, _, .nil => .cons ⟨rfl, r⟩ .nil
  | _, _, .cons a h => .cons a (dic_app r h)
theorem dic_put {G : Hp} {ls : List (List Key × V)} {kvs : List (List Key × T)} {k : List Key} {v : V} {t : T} (h : DicR G ls kvs) (r : RT G t v) : DicR G (putK ls k v) (putT kvs k t) := by
  unfold putK putT
  rw [dic_any h]
  split
  · exact dic_map r h
  · exact dic_app r h
theorem dic_len {G : Hp} {ls : List (List Key × V)} {kvs : List (List Key × T)} (h : DicR G ls kvs) : ls.length = kvs.length := Paired.length h
/-- what a field owns is changed -/
theorem Rel.chgFld {K : Fr} {ρ : En} {h : Hs} {σ : L2.St} {H G : Hp} {w : Wn} {n : Nat} {c k : Str} {fs : List (Str × Fld)} {f f' : Fld} {d : Addr} {o' : HO} (R : Rel K ρ h σ H G w) (hn : h[n]? = some (.ins c fs)) (hl : fs.lookup k = some f) (hd : w (.f n k) = some d)
    (hf : ∀ v, FldR K H G w n k f v → FldR K (upd H d o') G w n k f' v) : Rel K ρ (h.set n (.ins c (putA k f' fs))) σ (upd H d o') G w ∧ Tr G H w G (upd H d o') w := by
  have hoff : G d = none := R.off _ _ hd
  have hk : ∀ q b, q ≠ .f n k → w q = some b → upd H d o' b = H b := fun q b hq e => upd_ne fun z => hq (R.inj _ _ _ e (by rw [z]; exact hd))
  have hsub : Same G (upd H d o') := fun b u z => by
    rw [upd_ne fun y : b = d => by rw [y, hoff] at z; cases z]
    exact R.sub b u z
  refine ⟨⟨hsub, R.off, R.inj, R.len, fun i s hs => SlotR.mono (w := w) (H := H) (Same.refl _) rfl (fun _ _ z => z) (fun b e => hk _ b (fun z => by cases z) e) (R.env i s hs), R.env0, fun m u hu => ?_, fun m hm => R.obs0 m (by rw [List.length_set] at hm; exact hm)⟩,
    ⟨Same.refl _, fun b u e hq => by rw [upd_ne fun z => hq _ (by rw [z]; exact hd)]; exact e, fun _ z => .inl z, fun q b z => .inl ⟨q, z⟩, fun _ _ z => z⟩⟩
  rcases get_set hu with ⟨rfl, _, rfl⟩ | ⟨hm, hu⟩
  · obtain ⟨a, dx, vfs, h1, h2, h3, h4⟩ := R.obs m _ hn
    refine ⟨a, dx, vfs, h1, (hk _ a (fun z => by cases z) h1).trans h2, ?_, fun j => ?_⟩
    · rw [len_putA, hl]
      exact h3
    · rw [lookup_putA]
      have h5 := h4 j
      by_cases hj : j = k
      · subst hj
        rw [if_pos rfl]
        rw [hl] at h5
        obtain ⟨v, e1, e2⟩ := h5
        exact ⟨v, e1, hf v e2⟩
      · rw [if_neg hj]
        cases hl2 : fs.lookup j with
        | none =>
          rw [hl2] at h5
          exact h5
        | some f2 =>
          rw [hl2] at h5
          obtain ⟨v, e1, e2⟩ := h5
          exact ⟨v, e1, FldR.mono (w := w) (H := H) (Same.refl _) rfl (fun b e => hk _ b (fun z => hj (by cases z; rfl)) e) e2⟩
  · exact ObjR.mono (w := w) (H := H) (Same.refl _) rfl (fun _ => rfl) (fun b e => hk _ b (fun z => by cases z) e) (fun j b e => hk _ b (fun z => hm (by cases z; rfl)) e) (R.obs m u hu)
/-- the dict in a field of the object n -/
def dicAt (h : Hs) (cn k : Str) (n : Nat) : Option (List (List Key × T)) := match h[n]? with
  | some (.ins c fs) => if c = cn then (match fs.lookup k with
    | some (.dic kvs) => some kvs
    | _ => none) else none
  | _ => none
/-- the key in a slot -/
def keyS (ρ : En) (j : Nat) : Option (List Key) := match ρ[j]? with
  | some (.val (.dat t)) => keyT t
  | _ => none
/-- o.k[x] -/
def fDGet (cn k : Str) (fo : FE) (j : Nat) : FE := fun ρ h => (fo ρ h).bind fun d h => match d with
  | .obj n => match dicAt h cn k n, keyS ρ j with
    | some kvs, some q => (match valT kvs q with
      | some u => .ok (.dat u) h
      | none => .bad)
    | _, _ => .bad
  | _ => .bad
/-- x not in o.k -/
def fDNin (cn k : Str) (j : Nat) (fo : FE) : FB := fun ρ h => match keyS ρ j with
  | none => .bad
  | some q => (fo ρ h).bind fun d h => match d with
    | .obj n => (match dicAt h cn k n with
      | some kvs => .ok (!(valT kvs q).isSome) h
      | none => .bad)
    | _ => .bad
/-- o.k[x] = v -/
def fDPut (cn k : Str) (fo : FE) (j : Nat) (fv : FE) : FS := fun ρ h => (fv ρ h).bind fun d h => (fo ρ h).bind fun o h => match d, o with
  | .dat u, .obj n => match dicAt h cn k n, keyS ρ j, h[n]? with
    | some kvs, some q, some (.ins c fs) => if kvs.length < 1000000 then .ok (.next ρ) (h.set n (.ins c (putA k (.dic (putT kvs q u)) fs))) else .bad
    | _, _, _ => .bad
  | _, _ => .bad
section
variable {X : Cx} {E : XK} {e o i value : Expr} {pos pos' apos : Pos} {fe fo fv : FE} {fk : FT} {cn k : Str}
theorem dicAt_ok {h : Hs} {n : Nat} {kvs : List (List Key × T)} (e : dicAt h cn k n = some kvs) : ∃ fs, h[n]? = some (.ins cn fs) ∧ fs.lookup k = some (.dic kvs) := by
  unfold dicAt at e
  split at e
  · split at e
    · rename_i c fs hn hc
      subst hc
      split at e
      · rename_i hl
        cases e
        exact ⟨fs, hn, hl⟩
      · cases e
    · cases e
  · cases e
theorem dic_rel {K : Fr} {ρ : En} {h : Hs} {σ : L2.St} {H G : Hp} {w : Wn} {n : Nat} {kvs : List (List Key × T)} (R : Rel K ρ h σ H G w) (e : dicAt h cn k n = some kvs) : ∃ fs a dx vfs d ls, h[n]? = some (.ins cn fs) ∧ fs.lookup k = some (.dic kvs) ∧ w (.o n) = some a ∧ H a = some (.ins (He.ga K cn) dx vfs) ∧ vfs.lookup k = some (.ref d) ∧ w (.f n k) = some d ∧ H d = some (.dT ls) ∧ DicR G ls kvs := by
  obtain ⟨fs, hn, hl⟩ := dicAt_ok e
  obtain ⟨a, dx, vfs, h1, h2, h3, h4⟩ := R.obs n _ hn
  have h5 := h4 k
  rw [hl] at h5
  obtain ⟨v, e1, d, ls, e2, rfl, e3, e4⟩ := h5
  exact ⟨fs, a, dx, vfs, d, ls, hn, hl, h1, h2, e1, e2, e3, e4⟩
theorem keyS_ok {K : Fr} {ρ : En} {h : Hs} {σ : L2.St} {H G : Hp} {w : Wn} {j : Nat} {q : List Key} (R : Rel K ρ h σ H G w) (e : keyS ρ j = some q) : ∃ b, σ[j]? = some (some (.ref b)) ∧ H b = some (.tup (q.map kV)) := by
  unfold keyS at e
  split at e
  · rename_i t hs
    obtain ⟨_, v, hv, r⟩ := R.env j _ hs
    obtain ⟨b, rfl, hb⟩ := keyT_ok R.sub (.inl r) e
    exact ⟨b, hv, hb⟩
  · cases e
theorem se_dget {j : Nat} (hu : X.A.units + 70 < cLine) (hc : Cls X.K (He.ga X.K cn)) (hn : NoAttr X.K (He.ga X.K cn) k) (ho : SE X E o fo) (hk : PE X i (tVar j)) (hs : NoSl i) (hb : attributeBase o k X.env (eval o X.env) = eval o X.env := by rfl) : SE X E (.Subscript (.Attribute o k apos) i pos) (fDGet cn k fo j) :=
  pe_imp (pe_dget (by omega) (pe_fld ho hb) hk hs) fun σ H Q hw => tX_bind (f := fo) rpD_m hw fun ρ d h1 v H1 G0 G1 w0 w1 R1 T1 r1 W1 => by
    cases d with
    | dat t => exact W1.elim
    | scr t => exact W1.elim
    | obj n =>
      dsimp only at W1
      split at W1
      · rename_i kvs q hd hq
        split at W1
        · rename_i u hv
          obtain ⟨fs, a, dx, vfs, d, ls, g1, g2, g3, g4, g5, g6, g7, g8⟩ := dic_rel R1 hd
          obtain ⟨b, k1, k2⟩ := keyS_ok R1 hq
          obtain ⟨a', e1, rfl⟩ := r1
          rw [g3] at e1
          cases e1
          obtain ⟨z, hz, rz⟩ := (dic_val (k := q) g8).2 u hv
          exact ⟨a, _, dx, vfs, _, rfl, g4, hc, hn, g5, _, k1, d, z, rfl, hz ▸ DGet.t g7 k2, W1.fin0 R1 rz⟩
        · exact W1.elim
      · exact W1.elim
theorem st_dnin {j : Nat} (hu : X.A.units + 70 < cLine) (hc : Cls X.K (He.ga X.K cn)) (hn : NoAttr X.K (He.ga X.K cn) k) (hk : PE X i (tVar j)) (ho : SE X E o fo) (hm : behindInMarks .NotIn (.Attribute o k apos) = false := by rfl) (hb : attributeBase o k X.env (eval o X.env) = eval o X.env := by rfl) : ST X E (.Compare i [.NotIn] [.Attribute o k apos] pos) (fDNin cn k j fo) :=
  pt_imp (pt_cmp (pc_dnotin (by omega) hk (pe_fld ho hb)) hm) fun σ H Q hw => by
    obtain ⟨ρ, h0, G, w, R, W⟩ := hw
    unfold fDNin at W
    cases hq : keyS ρ j with
    | none => rw [hq] at W; exact W.elim
    | some q =>
      rw [hq] at W
      obtain ⟨b, k1, _⟩ := keyS_ok R hq
      refine ⟨_, k1, wish_bind (f := fo) rpB_m R W fun d h1 v H1 G1 w1 R1 T1 r1 W1 => ?_⟩
      cases d with
      | dat t => exact W1.elim
      | scr t => exact W1.elim
      | obj n =>
        dsimp only at W1
        split at W1
        · rename_i kvs hd
          obtain ⟨fs, a, dx, vfs, d, ls, g1, g2, g3, g4, g5, g6, g7, g8⟩ := dic_rel R1 hd
          obtain ⟨b', k1', k2⟩ := keyS_ok R1 hq
          rw [k1] at k1'
          cases k1'
          obtain ⟨a', e1, rfl⟩ := r1
          rw [g3] at e1
          cases e1
          refine ⟨a, _, dx, vfs, _, rfl, g4, hc, hn, g5, d, valV ls q, rfl, DGet.t g7 k2, _, rfl, ?_⟩
          have e : (valV ls q).isSome = (valT kvs q).isSome := by
            cases hv : valT kvs q with
            | none => rw [(dic_val (k := q) g8).1 hv]; rfl
            | some t =>
              obtain ⟨z, hz, _⟩ := (dic_val (k := q) g8).2 t hv
              rw [hz]; rfl
          rw [e]
          exact W1.fin0 R1 rfl
        · exact W1.elim
theorem ss_dput {j : Nat} (hu : X.A.units + 70 < cLine) (hc : Cls X.K (He.ga X.K cn)) (hn : NoAttr X.K (He.ga X.K cn) k) (ho : SE X E o fo) (hk : PE X i (tVar j)) (hv : SE X E value fv) (hs : swapsWith value (some (.Subscript (.Attribute o k apos) i pos')) pos.line X.env = pure false := by rfl) (hb : attributeBase o k X.env (eval o X.env) = eval o X.env := by rfl) :
    SS X E (.Assign [.Subscript (.Attribute o k apos) i pos'] value pos) (fDPut cn k fo j fv) := ps_imp (ps_dput (by omega) (pe_fld ho hb) hk hv hs) fun D σ H hw =>
  tS_bind (f := fv) hw fun ρ d h1 v H1 G0 G1 w0 w1 R1 T1 r1 W1 => by
    refine ⟨ρ, h1, G1, w1, R1, ?_⟩
    cases hf : fo ρ h1 with
    | bad => rw [hf] at W1; exact W1
    | exc x h' => rw [hf] at W1; exact W1
    | ok d2 h2 =>
      rw [hf] at W1
      intro v2 H2 G2 w2 R2 T2 r2
      have W2 := WishS.mono T2 W1
      cases d with
      | obj n => exact W2.elim
      | scr n => exact W2.elim
      | dat u =>
        cases d2 with
        | dat t => exact W2.elim
        | scr t => exact W2.elim
        | obj n =>
          dsimp only [Res.bind] at W2
          split at W2
          · rename_i kvs q c fs hd hq hno
            split at W2
            · rename_i hl
              obtain ⟨fs', a, dx, vfs, d, ls, g1, g2, g3, g4, g5, g6, g7, g8⟩ := dic_rel R2 hd
              rw [hno] at g1
              cases g1
              obtain ⟨b, k1, k2⟩ := keyS_ok R2 hq
              obtain ⟨a', e1, rfl⟩ := r2
              rw [g3] at e1
              cases e1
              have ru : RT G2 u v := (RD.mono (d := .dat u) T2 r1)
              obtain ⟨R3, T3⟩ := R2.chgFld (f' := .dic (putT kvs q u)) (o' := .dT (putK ls q v)) hno g2 g6 fun z hz => by
                obtain ⟨d', ls', q1, q2, q3, q4⟩ := hz
                rw [g6] at q1
                cases q1
                exact ⟨d, putK ls q v, g6, q2, upd_same, dic_put g8 ru⟩
              exact ⟨a, _, dx, vfs, _, rfl, g4, hc, hn, g5, _, k1, d, _, rfl, DPut.t g7 k2 (by rw [dic_len g8]; exact Nat.lt_of_lt_of_le hl (by decide)), W2 _ _ _ _ R3 T3⟩
            · exact W2.elim
          · exact W2.elim
/-! ### a def's own dict -/
/-- x = {} -/
def fSetDic (i : Nat) : FS := fun ρ h => .ok (.next (ρ.set i (.dic []))) h
/-- x[y] = v, all of them names of the def -/
def fDPutS (i j : Nat) (fv : FE) : FS := fun ρ h => (fv ρ h).bind fun d h => match d, ρ[i]?, keyS ρ j with
  | .dat u, some (.dic kvs), some q => if kvs.length < 1000000 then .ok (.next (ρ.set i (.dic (putT kvs q u)))) h else .bad
  | _, _, _ => .bad
theorem Rel.setDic {K : Fr} {ρ : En} {h : Hs} {σ : L2.St} {H G : Hp} {w : Wn} (R : Rel K ρ h σ H G w) {i : Nat} {ls : List (List Key × V)} {kvs : List (List Key × T)} {p : Addr} (h2 : H p = some (.dT ls)) (h3 : DicR G ls kvs) (h4 : G p = none) (h5 : ∀ q, w q ≠ some p) (hi : i < ρ.length) :
    Rel K (ρ.set i (.dic kvs)) h (σ.set i (some (.ref p))) H G (put w i p) where
  sub := R.sub
  off := fun q a e => by
    rcases put_some e with ⟨_, rfl⟩ | e
    · exact h4
    · exact R.off q a e
  inj := fun q q' a e e' => by
    rcases put_some e with ⟨z, rfl⟩ | z
    · rcases put_some e' with ⟨z', _⟩ | z'
      · rw [z, z']
      · exact absurd z' (h5 q')
    · rcases put_some e' with ⟨z', rfl⟩ | z'
      · exact absurd z (h5 q)
      · exact R.inj q q' a z z'
  len := by rw [List.length_set, List.length_set]; exact R.len
  env := fun j s hs => by
    rcases get_set hs with ⟨rfl, hi, rfl⟩ | ⟨hj, hs⟩
    · exact ⟨p, ls, put_self, by rw [List.getElem?_set_self (by rw [← R.len]; exact hi)], h2, h3⟩
    · rw [List.getElem?_set_ne (Ne.symm hj)]
      exact (R.env j s hs).mono (Same.refl _) (put_ne hj) (fun _ _ z => z) fun _ _ => rfl
  env0 := fun j hj => by
    rw [List.length_set] at hj
    rw [put_ne (by omega)]
    exact R.env0 j hj
  obs := fun n o ho => (R.obs n o ho).mono (Same.refl _) rfl (fun _ => rfl) (fun _ _ => rfl) fun _ _ _ => rfl
  obs0 := R.obs0
theorem ss_setDic {i : Nat} {x : Str} {p : Pos} (hN : X.N.Nodup) (hi : X.N[i]? = some x) (hx : Loc X.env.scope x) (hs : swapsWith (.Dict [] [] p) (some (.Name x pos')) pos.line X.env = pure false := by rfl) (hf : X.fn x = true ∨ X.env.scope.names.lookup x = some .local := by first | exact .inl rfl | exact .inr rfl | assumption) :
    SS X E (.Assign [.Name x pos'] (.Dict [] [] p) pos) (fSetDic i) := ps_imp (ps_slots (ps_set hN hi hx pe_dnewT hs hf)) fun D σ H hw hl => by
  obtain ⟨ρ, h0, G, w, R, W⟩ := hw
  intro q hq
  obtain ⟨R1, T1⟩ := R.new (New.mute R.sub (.dT []) hq)
  have hw : ∀ z, w z ≠ some q := fun z y => by
    obtain ⟨u, hu⟩ := R.there y
    rw [hq] at hu; cases hu
  exact W _ _ _ _ (R1.setDic (i := i) upd_same .nil (R.sub.free hq) hw (by rw [R1.len, hl]; exact ix_lt hi)) (T1.put (.inr hq))
theorem Rel.chgDic {K : Fr} {ρ : En} {h : Hs} {σ : L2.St} {H G : Hp} {w : Wn} (R : Rel K ρ h σ H G w) {i : Nat} {kvs kvs' : List (List Key × T)} {ls' : List (List Key × V)} {a : Addr} (hs : ρ[i]? = some (.dic kvs)) (ha : w (.s i) = some a) (r : DicR G ls' kvs') : Rel K (ρ.set i (.dic kvs')) h σ (upd H a (.dT ls')) G w ∧ Tr G H w G (upd H a (.dT ls')) w := by
  have hk : ∀ q b, q ≠ .s i → w q = some b → upd H a (.dT ls') b = H b := fun q b hq e => upd_ne fun z => hq (R.inj _ _ _ e (by rw [z]; exact ha))
  have hsub : Same G (upd H a (.dT ls')) := fun c u z => by
    rw [upd_ne fun y : c = a => by rw [y, R.off _ _ ha] at z; cases z]
    exact R.sub c u z
  refine ⟨⟨hsub, R.off, R.inj, by rw [List.length_set]; exact R.len, fun j s hj => ?_, fun j hj => R.env0 j (by rw [List.length_set] at hj; exact hj), fun n u ho => (R.obs n u ho).mono (Same.refl _) rfl (fun _ => rfl) (fun b e => hk _ b (fun z => by cases z) e) fun k b e => hk _ b (fun z => by cases z) e, R.obs0⟩,
    ⟨Same.refl _, fun b o e hq => by rw [upd_ne fun z => hq _ (by rw [z]; exact ha)]; exact e, fun _ z => .inl z, fun q b z => .inl ⟨q, z⟩, fun _ _ z => z⟩⟩
  rcases get_set hj with ⟨rfl, _, rfl⟩ | ⟨hne, hj⟩
  · obtain ⟨b, vs, h1, h2, h3, h4⟩ := R.env j _ hs
    rw [ha] at h1
    cases h1
    exact ⟨a, ls', ha, h2, upd_same, r⟩
  · exact (R.env j s hj).mono (Same.refl _) rfl (fun _ _ z => z) fun b e => hk _ b (fun z => hne (by cases z; rfl)) e
theorem ss_dputS {a j : Nat} (hu : X.A.units + 70 < cLine) (ho : PE X o (tVar a)) (hk : PE X i (tVar j)) (hv : SE X E value fv) (hs : swapsWith value (some (.Subscript o i pos')) pos.line X.env = pure false := by rfl) :
    SS X E (.Assign [.Subscript o i pos'] value pos) (fDPutS a j fv) := ps_imp (ps_dput (by omega) ho hk hv hs) fun D σ H hw =>
  tS_bind (f := fv) hw fun ρ d h1 v H1 G0 G1 w0 w1 R1 T1 r1 W1 => by
    split at W1
    · rename_i u kvs q hs hq
      split at W1
      · rename_i hl
        obtain ⟨d, ls, g1, g2, g3, g4⟩ := R1.env a _ hs
        obtain ⟨b, k1, k2⟩ := keyS_ok R1 hq
        obtain ⟨R3, T3⟩ := R1.chgDic hs g1 (dic_put (k := q) g4 r1)
        exact ⟨_, g2, _, k1, d, _, rfl, DPut.t g3 k2 (by rw [dic_len g4]; exact Nat.lt_of_lt_of_le hl (by decide)), W1 _ _ _ _ R3 T3⟩
      · exact W1.elim
    · exact W1.elim
end
end Pf
set_option Elab.async false
set_option linter.all false
set_option maxRecDepth 100000
set_option maxHeartbeats 2000000
namespace Pf
open PySem PySem.Spec PyProof.Rows L2
/-! ### sorted(d), d a dict by tuples of ints -/
def intK : List Key → Option (List Int)
  | [] => some []
  | .inl i :: k => (intK k).map (i :: ·)
  | .inr _ :: _ => none
theorem intK_ok : ∀ {k : List Key} {ns : List Int}, intK k = some ns → k.map kV = ns.map V.int
  | [], ns, e => by cases e; rfl
  | .inl i :: k, ns, e => by
    obtain ⟨ms, e1, rfl⟩ := Option.map_eq_some_iff.mp (show (intK k).map (i :: ·) = some ns from e)
    rw [List.map_cons, intK_ok e1]
    rfl
  | .inr _ :: _, ns, e => by cases e
def tupI (ns : List Int) : T := .tuple (ns.map PyData.int)
def keysI : List (List Key × T) → Option (List (List Int))
  | [] => some []
  | (k, _) :: r => match intK k, keysI r with
    | some ns, some l => some (ns :: l)
    | _, _ => none
/-- x is the tuple of these ints, somewhere in H -/
def IsTI (H : Hp) (x : V) (ns : List Int) : Prop := ∃ b, x = .ref b ∧ H b = some (.tup (ns.map V.int))
theorem isTI_keys {H G : Hp} : ∀ {ls : List (List Key × V)} {kvs : List (List Key × T)} {bs : List Addr} {l : List (List Int)}, IsKeys H ls bs → DicR G ls kvs → keysI kvs = some l → Paired (IsTI H) (bs.map V.ref) l
  | _, _, _, l, .nil, .nil, e => by cases e; exact .nil
  | p :: ls, q :: kvs, b :: bs, l, .cons h1 h2, .cons ⟨e1, _⟩ h4, e => by
    obtain ⟨k, t⟩ := q
    unfold keysI at e
    split at e
    · rename_i ns m hk hm
      cases e
      refine .cons ⟨b, rfl, ?_⟩ (isTI_keys h2 h4 hm)
      have e1 : p.1 = k := e1
      rw [h1, e1, intK_ok hk]
    · cases e
def rSortK (G : Hp) : List V → Hp → VK → Prop := fun vs H Q => ∃ d ls kvs l, vs = [.ref d] ∧ H d = some (.dT ls) ∧ DicR G ls kvs ∧ keysI kvs = some l ∧ sortOk (l.map tupI) = true ∧ ∀ p us, H p = none → Paired (IsTI H) us (l.mergeSort (PySem.W.dataLe false tupI)) → Q (.ref p) (upd H p (.lst us))
theorem reads_ints {h : Heap} : ∀ {ns : List Int} {us : List Value}, Vals (ns.map V.int) us → ReadsAll h us (ns.map PyData.int) []
  | [], us, r => by cases r; exact .nil
  | n :: ns, us, r => by
    cases r with
    | cons a b =>
      obtain ⟨t, rfl⟩ := a
      exact .cons (as := []) (bs := []) (.int n t) (reads_ints b)
section
variable {X : Cx} {E : XK} {e : Expr} {es : List Expr} {pos p : Pos} {l : FL}
/-- a value of the machine that is such a tuple -/
def TellsI (H : Hp) (v : Value) (ns : List Int) : Prop := ∃ x, IsTI H x ns ∧ RelV x v
theorem tellsI_reads {pins : List (Addr × Obj)} {s : Shared} {σ : L2.St} {H : Hp} (I : Inv X pins σ H s) {v : Value} {ns : List Int} (h : TellsI H v ns) : Reads s.heap v (tupI ns) [] := by
  obtain ⟨x, ⟨b, rfl, hb⟩, rx⟩ := h
  cases rx
  obtain ⟨its, rv, ht, _⟩ := I.tuple (SqT.of hb)
  obtain ⟨o, ho, hc, n, hd⟩ := ht
  exact .tuple ho hc hd (by simpa using reads_ints rv)
theorem each_of {R : Value → List Int → Prop} : ∀ {vs : List Value} {ls : List (List Int)}, vs.length = ls.length → (∀ (i : Nat) v, vs[i]? = some v → ∃ n, ls[i]? = some n ∧ R v n) → PySem.W.EachIs R vs ls
  | [], [], _, _ => .nil
  | [], _ :: _, h, _ => by simp at h
  | _ :: _, [], h, _ => by simp at h
  | v :: vs, n :: ls, h, k => by
    obtain ⟨m, e, r⟩ := k 0 v rfl
    simp at e
    subst e
    exact .cons r (each_of (by simpa using h) fun i v e => by
      obtain ⟨m, e1, r⟩ := k (i + 1) v (by simpa using e)
      exact ⟨m, by simpa using e1, r⟩)
theorem each_back {H : Hp} : ∀ {vs : List Value} {ls : List (List Int)}, PySem.W.EachIs (TellsI H) vs ls → ∃ xs, Paired (IsTI H) xs ls ∧ Vals xs vs
  | [], _, .nil => ⟨[], .nil, .nil⟩
  | _, _, .cons ⟨x, h1, a⟩ h => by
    obtain ⟨xs, h2, b⟩ := each_back h
    exact ⟨x :: xs, .cons h1 h2, .cons a b⟩
theorem cr_sortK {G : Hp} (hc : X.calm = true) (hu : X.A.units + 70 < cLine) : CallR X (.builtin "sorted") (rSortK G) := by
  intro pins s σ H xs us Q I r h
  obtain ⟨d, kvs, kvs', l, rfl, hd, dr, hks, hok, q⟩ := h
  obtain ⟨u, rfl, rx⟩ := vals1 r
  cases rx
  obtain ⟨z, hs, ks, pr, o, es, ep, ho, hx, hdt, he, hn⟩ := (show ObjOk X.prog X.w H s.heap d (.dT kvs) from I.hok _ _ hd)
  have l1 : es.size = ks.length := size_of_entries he
  have l2 : kvs.length = ks.length := Paired.length pr
  obtain ⟨k1, k2, k3⟩ := sortOk_ok hok
  refine Calls.call_function_entry PyProof.Rows.kind_sorted PyProof.Rows.plain_sorted PyProof.Rows.entry_sorted (PyProof.Rows.args_sorted1 _) ?_
  unfold Builtin.«sorted»
  refine wpAny_bind (m := checkCount "sorted" 1 1 _) (wpAny_pure ?_)
  refine wpAny_bind (PySem.W.kdu_collect (A := X.A.in1) (kdl_raw hs hx hdt) (I.ok.hd hc) ho (by omega) fun h' tk acc hk hacc => ?_)
  have I1 : Inv X pins σ H { s with heap := h', toks := tk } := I.kept hk
  have hT := isTI_keys (G := G) (isKeys_of pr) dr hks
  have ll : l.length = ks.length := by
    have := Paired.length hT
    rw [List.length_map, List.length_map] at this
    exact this.symm
  have hal : acc.toList.length = l.length := by rw [Array.length_toList, hacc.1, l1, ll]
  have e1 : PySem.W.EachIs (TellsI H) acc.toList l := each_of hal fun j v ev => by
    obtain ⟨en, hen, hv⟩ := hacc.2 j v (by rw [← Array.getElem?_toList]; exact ev)
    have qe := entry_at he j
    rw [hen] at qe
    cases hb : ks[j]? with
    | none =>
      rw [hb] at qe
      exact nomatch (show some en = none from qe)
    | some b =>
      rw [hb] at qe
      have e2 : en = entryOfKey (tupleKind (mixKind X.prog X.w)) b := Option.some.inj qe
      have hx2 : ((ks.map fun x => x.2.1).map V.ref)[j]? = some (.ref b.2.1) := by simp [hb]
      obtain ⟨n, hn2, rn⟩ := paired_get hT hx2
      refine ⟨n, hn2, .ref b.2.1, rn, ?_⟩
      rw [hv, e2]
      rfl
  have hlen : acc.toList.length ≤ sizeLine := by rw [hal, ll]; omega
  refine wpAny_bind (wpAny_newList ?_ hlen)
  have hoL : (h'.push (seqObj "list" acc.toList.toArray 0)).get? h'.objs.size = some (seqObj "list" acc.toList.toArray 0) := Heap.get?_push_size _ rfl
  show wpAny _ _ _ _ _ { s with heap := h'.push (seqObj "list" acc.toList.toArray 0), toks := tk }
  refine wpAny_bind (wpAny_holding (PySem.W.list_sort_data (s := { s with heap := h'.push (seqObj "list" acc.toList.toArray 0), toks := tk }) (A := X.A.in1) (enc := tupI) (bs := l) hoL e1 (e1.mono fun v n hv => ⟨[], PyProof.Rows.Reads.keeps (fun b o e => Heap.get?_push_of_some _ e) (tellsI_reads I1 hv), by simp⟩) k1 k2 (by rw [← hal]; exact hlen) (fun b hb => ?_) fun out ho2 eo => ?_))
  · have := k3 (tupI b) (List.mem_map.mpr ⟨b, hb, rfl⟩)
    have hu2 : X.A.in1.units = X.A.units + 1 := rfl
    omega
  · obtain ⟨ys, y1, y2⟩ := each_back eo
    obtain ⟨e', he'⟩ := PyProof.Rows.sortedHeap_at (vs := acc.toList) (out := out.toArray) hoL
    have hyl : ys.length ≤ sizeLine := by rw [Vals.length y2, ho2, ← hal]; exact hlen
    refine wpAny_pure ⟨_, rfl, .ref h'.objs.size, upd H h'.objs.size (.lst ys), I1.laid (t' := tk) (fun b u e => ?_) (Nat.le_refl _) (show ObjOk X.prog X.w _ _ _ (.lst ys) from ⟨hyl, out, e', y2, he'⟩), rfl, q _ _ (I1.hok.fresh (Nat.le_refl _)) y1⟩
    have hb : b < h'.objs.size := Heap.lt_size e
    rw [PyProof.Rows.sortedHeap_old (Nat.ne_of_lt hb) (by rw [size_push']; exact Nat.lt_succ_of_lt hb)]
    exact Heap.get?_push_of_some _ e
/-- tuples of ints that stand somewhere are told from now on -/
theorem Rel.tellTups {K : Fr} {ρ : En} {h : Hs} {σ : L2.St} {H : Hp} {w : Wn} : ∀ {us : List V} {ls : List (List Int)} {G : Hp}, Rel K ρ h σ H G w → Paired (IsTI H) us ls → ∃ G', Rel K ρ h σ H G' w ∧ Tr G H w G' H w ∧ RTs G' (ls.map tupI) us
  | _, _, G, R, .nil => ⟨G, R, Tr.refl, .nil⟩
  | _, ns :: ls, G, R, .cons ⟨b, e, hb⟩ ps => by
    subst e
    obtain ⟨G1, R1, T1, r1⟩ := Rel.tellTups R ps
    have intsR : ∀ (G : Hp) (ns : List Int), RTs G (ns.map PyData.int) (ns.map V.int) := fun G ns => by
      induction ns with
      | nil => exact .nil
      | cons n ns ih => exact .cons (RT.int n) ih
    cases hg : G1 b with
    | some o =>
      have ho := R1.sub _ _ hg
      rw [hb] at ho
      cases ho
      exact ⟨G1, R1, T1, .cons (RT.mkTup hg (intsR _ _)) r1⟩
    | none =>
      have hw : ∀ q, w q ≠ some b := fun q z => by
        obtain ⟨o, ho, hno⟩ := R1.there2 z
        rw [hb] at ho
        cases ho
        exact hno _ rfl
      have T2 : Tr G1 H w (upd G1 b (.tup (ns.map V.int))) H w := ⟨same_upd hg, fun _ _ e _ => e, fun c z => by
        by_cases hc : c = b
        · subst hc
          exact .inr (.inr (.inr ⟨_, hb⟩))
        · rw [upd_ne hc] at z
          exact .inl z, fun q c z => .inl ⟨q, z⟩, fun _ _ z => z⟩
      exact ⟨_, R1.tell hb hg hw, T1.trans T2, .cons (RT.mkTup upd_same (intsR _ _)) (r1.mono (same_upd hg))⟩
def fSortDic (i : Nat) : FR := fun ρ h => match ρ[i]? with
  | some (.dic kvs) => match keysI kvs with
    | some l => if sortOk (l.map tupI) = true then .ok (.own ((l.mergeSort (PySem.W.dataLe false tupI)).map tupI)) h else .bad
    | none => .bad
  | _ => .bad
theorem pe_or {t t' : TE} (h : PE X e t) (h' : ∀ σ H Q, t' σ H Q → ∃ t2, PE X e t2 ∧ t2 σ H Q) : PE X e t' := ⟨fun pins s σ H Q I hw => by
  obtain ⟨t2, k, z⟩ := h' σ H Q hw
  exact k.run pins s σ H Q I z⟩
theorem sr_sortDic {i : Nat} {x : Str} {o : Expr} (hc : X.calm = true) (hu : X.A.units + 70 < cLine) (hx : x = "sorted") (hg : Gl X x) (hm : X.mg x = none) (ho : PE X o (tVar i)) (hv : bootBuiltins x = some (.builtin "sorted") := by decide +kernel) (hn : x ≠ "__name__" := by decide) (hdb : (x == ("__debug__" : Str)) = false := by decide)
    (he : starEach [o] X.env = (false, eval o X.env) :: starEach [] X.env := by rfl) : SR X E (.Call (.Name x p) [o] [] pos) (fSortDic i) := pe_or (pe_callB (cr_sortK (G := fun _ => none) hc hu) hg hm hv (pa_cons ho pa_nil he) hn hdb he rfl) fun σ H Q hw => by
  obtain ⟨ρ, h0, G, w, R, W⟩ := hw
  refine ⟨_, pe_callB (cr_sortK (G := G) hc hu) hg hm hv (pa_cons ho pa_nil he) hn hdb he rfl, ?_⟩
  unfold fSortDic at W
  split at W
  · rename_i kvs hs
    split at W
    · rename_i l hl
      split at W
      · rename_i hok
        obtain ⟨d, ls, g1, g2, g3, g4⟩ := R.env i _ hs
        refine ⟨_, g2, d, ls, kvs, l, rfl, g3, g4, hl, hok, fun p us hp r2 => ?_⟩
        obtain ⟨G2, R2, T2, t2⟩ := R.tellTups r2
        obtain ⟨R3, T3⟩ := R2.new (New.mute R2.sub (.lst us) hp)
        exact W _ _ _ _ R3 (T2.trans T3) (ownR_new R2 t2 hp)
      · exact W.elim
    · exact W.elim
  · exact W.elim
end
end Pf
set_option Elab.async false
set_option linter.all false
set_option maxRecDepth 100000
set_option maxHeartbeats 4000000
namespace Pf
open PySem PySem.Spec PyProof.Rows L2
/-! ### set(xs), xs a list: any way of adding -/
section
variable {P : Program} {w : World} {A : Around} {E : Value → Shared → Prop} {s : Shared}
abbrev newSetO (w : World) : Obj := { cls := .type "set", dict := none, data := .set #[] 0 (.fresh 0 0 (!w.params.followText "set-order")) }
structure Adds (P : Program) (w : World) (S : Addr) (h0 : Heap) (items : Array Value) (J : Nat → Heap → Prop) : Prop where
  start : ∀ h, h.get? S = some (newSetO w) → (∀ b o, h0.get? b = some o → h.get? b = some o) → J 0 h
  keep : ∀ i h h', J i h → (∀ o, h.get? S = some o → h'.get? S = some o) → (∀ b o, h0.get? b = some o → h'.get? b = some o) → J i h'
  add : ∀ (i : Nat) (v : Value) (A : Around) (E : Value → Shared → Prop) (s : Shared) (Q : Bool → Shared → Prop), items[i]? = some v → A.units < cLine → (∀ b o, h0.get? b = some o → s.heap.get? b = some o) → J i s.heap →
    (∀ b h' tk, Heap.SameBut S s.heap h' → s.toks ≤ tk → J (i + 1) h' → Q b { s with heap := h', toks := tk }) → wpAny (model P w) A (setAdd S v) Q E s
theorem upd_loop {I : Addr} {fp wr : List Addr} {G : Array GenState → Array GenState → Prop} {items : Array Value} {St : Nat → Shared → Prop} {R : Result → Shared → Prop} {J : Nat → Heap → Prop} {h0 : Heap}
    (W : WalksS P w A.in1 I fp wr G items.size (fun i v => items[i]? = some v) St) (S : Addr) (hSf : S ∉ fp) (D : Adds P w S h0 items J) (hS0 : h0.get? S = none) (hw0 : ∀ b ∈ wr, h0.get? b = none) (hu : A.in1.units < cLine) :
    ∀ (k i : Nat) (s : Shared), items.size - i = k → i ≤ items.size → St i s → (∀ b o, h0.get? b = some o → s.heap.get? b = some o) → J i s.heap →
    (∀ s', Moved (S :: wr) G s s' → J items.size s'.heap → (∀ b o, h0.get? b = some o → s'.heap.get? b = some o) → R (.ok (.ret .none)) s') → codeAny (model P w) A (.builtin "set.update.loop" ⟨[.ref S, .ref I], []⟩) R s
  | k, i, s, hk, hi, hst, kp, hJ, hR => by
    have out : S ∉ wr := fun z => hSf (W.sub _ z)
    have more : ∀ b ∈ wr, b ∈ S :: wr := fun b z => List.mem_cons_of_mem _ z
    have mv : ∀ {s1 : Shared}, Moved wr G s s1 → (∀ b o, h0.get? b = some o → s1.heap.get? b = some o) ∧ J i s1.heap := fun {s1} m => by
      have a : ∀ b o, h0.get? b = some o → s1.heap.get? b = some o := fun b o e => m.heap b o (fun z => by rw [hw0 b z] at e; cases e) (kp b o e)
      exact ⟨a, D.keep i _ _ hJ (fun o e => m.heap S o out e) a⟩
    refine codeAny_builtin F.entry_set_update_loop ?_
    rw [Around.under_plainId F.plain_set_update_loop _]
    show wpAny _ A.in1 (pyNext (.ref I) >>= _) _ _ s
    rcases Nat.eq_or_lt_of_le hi with e | hlt
    · subst e
      refine wpAny_bind (W.done s _ _ hst fun s1 m => ?_)
      show wpAny _ A.in1 (ret Value.none) _ _ s1
      exact wpAny_pure (hR s1 (m.mono more) (mv m).2 (mv m).1)
    · refine wpAny_bind (W.item i s _ _ hlt hst fun v s1 hv st1 m => ?_)
      show wpAny _ A.in1 (holding [v] (setAdd S v) >>= _) _ _ s1
      refine wpAny_bind (wpAny_holding (D.add i v _ _ s1 _ hv hu (mv m).1 (mv m).2 fun b h' tk sb htk J2 => ?_))
      have kp2 : ∀ b o, h0.get? b = some o → h'.get? b = some o := fun b o e => (sb.2 b (fun z => by rw [z, hS0] at e; cases e)).trans ((mv m).1 b o e)
      match k, hk with
      | k + 1, hk =>
        refine wpAny_pure ⟨plainId_quiet F.plain_set_update_loop _, upd_loop W S hSf D hS0 hw0 hu k (i + 1) _ (by omega) hlt (W.frame _ s1 _ _ st1 htk fun b hb o e => ?_) kp2 J2 fun s2 m2 J3 kp3 => ?_⟩
        · rw [sb.2 b (fun z : b = S => hSf (z ▸ hb))]; exact e
        · refine hR s2 (Moved.trans W.gtrans ((m.mono more).then_heap htk fun b o hb e => ?_) m2) J3 kp3
          rw [sb.2 b (fun z : b = S => hb (z ▸ List.mem_cons_self))]; exact e
      | 0, hk => omega
/-- set(xs) -/
theorem call_setL {l : Addr} {items : Array Value} {J : Nat → Heap → Prop} {Q : Value → Shared → Prop} (hh : A.handled = none) (hl : s.heap.IsList l items) (D : Adds P w s.heap.objs.size s.heap items J) (hu : A.units + 5 < cLine)
    (h : ∀ (h' : Heap) (tk : Nat), J items.size h' → (∀ b o, s.heap.get? b = some o → h'.get? b = some o) → Q (.ref s.heap.objs.size) { s with heap := h', toks := tk }) :
    wpAny (model P w) A (call (.type "set") [.ref l]) Q E s := by
  obtain ⟨c, tl, hmro⟩ := F.called_set.mro
  have hmade := F.called_set.made
  have hsub := F.called_set.sub
  refine wpAny_call (codeAny_of_tree ?_)
  show wpAny _ _ (callAny (.type "set") _) _ _ _
  refine wpAny_pure ⟨Code.quiet_builtin _ (by decide +kernel), codeAny_builtin F.entry_type_call ?_⟩
  rw [Around.under_plain (weight_type_call_type "set" [.ref l] []) rfl]
  have h1 := F.called_set.notType
  have h2 := F.called_set.canCreate
  have hct := F.typeCall_set_1 (.ref l)
  repeat (any_goals (first | assumption | wp_step))
  have free : ∀ b, s.heap.objs.size ≤ b → s.heap.get? b = none := fun b z => by
    cases q : s.heap.get? b with
    | none => rfl
    | some o => exact absurd (Nat.lt_of_lt_of_le (Heap.lt_size q) z) (Nat.lt_irrefl _)
  refine codeAny_mono (code_set_led1 (.ref l) (E := E) (Q₁ := fun obj s₁ => obj = .ref s.heap.objs.size ∧ s₁ = { s with heap := s.heap.push (newSetO w) }) ⟨rfl, rfl⟩) fun r s₁ hr => ?_
  cases r with
  | error e => exact hr
  | ok fl =>
    cases fl with
    | ret obj =>
      obtain ⟨rfl, rfl⟩ := hr
      have hS : (s.heap.push (newSetO w)).get? s.heap.objs.size = some (newSetO w) := Heap.get?_push_size _ rfl
      have hT : Shared.TypeIs { s with heap := s.heap.push (newSetO w) } (.ref s.heap.objs.size) "set" := ⟨_, hS, rfl⟩
      have hli := F.called_set.init.lookup
      have hbi := F.called_set.init.bind (.ref s.heap.objs.size)
      repeat (any_goals (first | assumption | wp_step))
      refine codeAny_mono (codeAny_call_builtin (R := wants (fun r s₂ => r = .none ∧ ∃ h' tk, s₂ = { s with heap := h', toks := tk } ∧ J items.size h' ∧ (∀ b o, s.heap.get? b = some o → h'.get? b = some o)) E) F.called_set.init.plain F.entry_set_init (check_set_init_1 hT ?_)) fun r₂ s₂ hr₂ => ?_
      · obtain ⟨ol, hol, hcl, nl, hdl⟩ := hl
        obtain ⟨ocls, odict, odata, oslots⟩ := ol
        simp only at hcl hdl
        subst hcl; subst hdl
        have hol' := Heap.get?_push_of_some (newSetO w) hol
        have hsls := F.sub_list_set
        have hslf := F.sub_list_frozenset
        have hne : (Value.type "list" == Value.type "dict") = false := by decide
        have hl1 : (s.heap.push (newSetO w)).IsList l items := ⟨_, hol', rfl, nl, rfl⟩
        unfold Builtin.«set.__init__» noKeywords Builtin.Frozenset.updateFrom
        generalize hPI : pyIter = PI
        wp_walk
        subst hPI
        refine wpAny_pyIter_list hl1 ?_
        refine wpAny_bind (wpAny_runValue ?_)
        have hlS : l < s.heap.objs.size := Heap.lt_size hol
        have hz1 : (s.heap.push (newSetO w)).objs.size = s.heap.objs.size + 1 := Heap.size_push ..
        refine upd_loop ((Walks.list (A := A.in1.in1.in1) (by simp [hh]) _ l (by rw [hz1]; exact Nat.ne_of_lt (Nat.lt_succ_of_lt hlS)) items).toS) s.heap.objs.size (by
            rw [hz1]
            simp only [List.mem_cons, List.mem_singleton, List.not_mem_nil, or_false, not_or]
            exact ⟨Nat.ne_of_lt (Nat.lt_succ_self _), Nat.ne_of_gt hlS⟩) D (free _ (Nat.le_refl _)) (fun b hb => free b (by
            rw [List.mem_singleton.mp hb, hz1]
            omega)) (by show A.units + 3 < cLine; omega) (items.size - 0) 0 _ rfl (Nat.zero_le _)
          ⟨⟨_, Heap.get?_push_size _ rfl, rfl, rfl⟩, (hl1.push _)⟩ (fun b o e => Heap.get?_push_of_some _ (Heap.get?_push_of_some _ e)) (D.start _ (Heap.get?_push_of_some _ hS) (fun b o e => Heap.get?_push_of_some _ (Heap.get?_push_of_some _ e))) ?_
        intro s2 hm J2 kp
        obtain ⟨h', g2, d', tk', os'⟩ := s2
        have eg : g2 = s.gens := hm.gens
        have ed : d' = s.drawn := hm.drawn
        have eo : os' = s.os := hm.os
        subst eg; subst ed; subst eo
        show wpAny _ _ _ _ _ _
        refine wpAny_pure ?_
        show wpAny _ _ (ret Value.none) _ _ _
        exact wpAny_pure ⟨rfl, h', tk', rfl, J2, kp⟩
      · cases r₂ with
        | error e => exact hr₂
        | ok fl₂ =>
          cases fl₂ with
          | ret r =>
            obtain ⟨rfl, h', tk, rfl, J2, kp⟩ := hr₂
            repeat (any_goals (first | assumption | wp_step))
            exact h _ _ J2 kp
          | _ => exact hr₂.elim
    | _ => exact hr.elim
end
end Pf
set_option Elab.async false
set_option linter.all false
namespace Pf
/-! ### sets as strictly rising lists -/
structure OrdU {α : Type} (lt : α → α → Bool) : Prop where
  irr : ∀ a, lt a a = false
  tr : ∀ a b c, lt a b = true → lt b c = true → lt a c = true
  tri : ∀ a b, lt a b = false → lt b a = false → a = b
def insU {α : Type} (lt : α → α → Bool) (x : α) : List α → List α
  | [] => [x]
  | y :: ys => if lt x y = true then x :: y :: ys else if lt y x = true then y :: insU lt x ys else y :: ys
def setU {α : Type} (lt : α → α → Bool) (l : List α) : List α := l.foldr (insU lt) []
def SortU {α : Type} (lt : α → α → Bool) (l : List α) : Prop := l.Pairwise fun a b => lt a b = true
section
variable {α : Type} {lt : α → α → Bool}
theorem mem_insU (o : OrdU lt) {x z : α} : ∀ {l : List α}, z ∈ insU lt x l ↔ z = x ∨ z ∈ l
  | [] => by simp [insU]
  | y :: ys => by
    unfold insU
    split
    · simp
    · rename_i h1
      split
      · rename_i h2
        simp only [List.mem_cons, mem_insU o (l := ys)]
        constructor
        · rintro (h | h | h)
          · exact .inr (.inl h)
          · exact .inl h
          · exact .inr (.inr h)
        · rintro (h | h | h)
          · exact .inr (.inl h)
          · exact .inl h
          · exact .inr (.inr h)
      · rename_i h2
        have e := o.tri x y (by simpa using h1) (by simpa using h2)
        subst e
        simp
theorem sort_insU (o : OrdU lt) {x : α} : ∀ {l : List α}, SortU lt l → SortU lt (insU lt x l)
  | [], _ => by simp [insU, SortU]
  | y :: ys, h => by
    obtain ⟨h1, h2⟩ := List.pairwise_cons.mp h
    unfold insU
    split
    · rename_i c
      refine List.pairwise_cons.mpr ⟨fun z hz => ?_, h⟩
      rcases List.mem_cons.mp hz with e | hz
      · rw [e]; exact c
      · exact o.tr _ _ _ c (h1 z hz)
    · split
      · rename_i c
        refine List.pairwise_cons.mpr ⟨fun z hz => ?_, sort_insU o h2⟩
        rcases (mem_insU o).mp hz with e | hz
        · rw [e]; exact c
        · exact h1 z hz
      · exact h
theorem mem_setU (o : OrdU lt) {z : α} : ∀ {l : List α}, z ∈ setU lt l ↔ z ∈ l
  | [] => by simp [setU]
  | y :: ys => by
    show z ∈ insU lt y (setU lt ys) ↔ _
    rw [mem_insU o, mem_setU o, List.mem_cons]
theorem sort_setU (o : OrdU lt) : ∀ {l : List α}, SortU lt (setU lt l)
  | [] => List.Pairwise.nil
  | y :: ys => sort_insU o (sort_setU o)
theorem sortU_ext (o : OrdU lt) : ∀ {l m : List α}, SortU lt l → SortU lt m → (∀ z, z ∈ l ↔ z ∈ m) → l = m
  | [], [], _, _, _ => rfl
  | [], y :: ys, _, _, h => absurd ((h y).mpr (List.mem_cons_self ..)) (by simp)
  | y :: ys, [], _, _, h => absurd ((h y).mp (List.mem_cons_self ..)) (by simp)
  | x :: xs, y :: ys, hl, hm, h => by
    obtain ⟨l1, l2⟩ := List.pairwise_cons.mp hl
    obtain ⟨m1, m2⟩ := List.pairwise_cons.mp hm
    have e : x = y := by
      rcases List.mem_cons.mp ((h x).mp (List.mem_cons_self ..)) with e | hx
      · exact e
      · rcases List.mem_cons.mp ((h y).mpr (List.mem_cons_self ..)) with e | hy
        · exact e.symm
        · have a := o.tr _ _ _ (l1 y hy) (m1 x hx)
          rw [o.irr] at a
          cases a
    subst e
    have e2 : xs = ys := sortU_ext o l2 m2 fun z => by
      constructor
      · intro hz
        rcases List.mem_cons.mp ((h z).mp (List.mem_cons_of_mem _ hz)) with e | hy
        · have a := l1 z hz
          rw [e, o.irr] at a
          cases a
        · exact hy
      · intro hz
        rcases List.mem_cons.mp ((h z).mpr (List.mem_cons_of_mem _ hz)) with e | hy
        · have a := m1 z hz
          rw [e, o.irr] at a
          cases a
        · exact hy
    rw [e2]
theorem sortU_nodup (o : OrdU lt) {l : List α} (h : SortU lt l) : l.Nodup := List.Pairwise.imp (fun {a b} c e => by rw [e, o.irr] at c; cases c) h
end
theorem nodup_len {α : Type} [DecidableEq α] : ∀ {l m : List α}, l.Nodup → (∀ x ∈ l, x ∈ m) → l.length ≤ m.length
  | [], _, _, _ => by simp
  | x :: xs, m, h, s => by
    obtain ⟨h1, h2⟩ := List.nodup_cons.mp h
    have hx := s x (List.mem_cons_self ..)
    have hm : 0 < m.length := List.length_pos_of_mem hx
    have := nodup_len (l := xs) (m := m.erase x) h2 fun y hy => (List.mem_erase_of_ne (fun e : y = x => h1 (by rw [← e]; exact hy))).mpr (s y (List.mem_cons_of_mem _ hy))
    rw [List.length_erase_of_mem hx] at this
    simp only [List.length_cons]
    omega
def ltN (a b : Int) : Bool := decide (a < b)
def ltP (a b : Int × Int) : Bool := decide (a.1 < b.1 ∨ (a.1 = b.1 ∧ a.2 < b.2))
theorem ordN : OrdU ltN := ⟨fun a => by simp [ltN], fun a b c h k => by simp only [ltN, decide_eq_true_eq] at *; omega, fun a b h k => by simp only [ltN, decide_eq_false_iff_not] at *; omega⟩
theorem ordP : OrdU ltP := ⟨fun a => by simp [ltP], fun a b c h k => by simp only [ltP, decide_eq_true_eq] at *; omega, fun a b h k => by
  simp only [ltP, decide_eq_false_iff_not] at *
  obtain ⟨a1, a2⟩ := a
  obtain ⟨b1, b2⟩ := b
  simp only at h k
  have e1 : a1 = b1 := by omega
  have e2 : a2 = b2 := by omega
  rw [e1, e2]⟩
abbrev setN (l : List Int) : List Int := setU ltN l
abbrev setP (l : List (Int × Int)) : List (Int × Int) := setU ltP l
end Pf
set_option Elab.async false
set_option linter.all false
set_option maxRecDepth 100000
set_option maxHeartbeats 4000000
namespace Pf
open PySem PySem.Spec PyProof.Rows L2
/-! ### the two ways -/
section
variable {P : Program} {w : World}
theorem adds_ints {S : Addr} {h0 : Heap} {items : Array Value} {ns : List Int} (hit : IntsAre items.toList ns) (hb : ns.length + 1 < scanBound) :
    Adds P w S h0 items fun i h => ∃ c, c ≤ i ∧ SetR w h S (fun j => decide (j ∈ ns.take i)) c := ⟨fun h hs _ => ⟨0, Nat.le_refl _, setR_new_at hs⟩, fun i h h' ⟨c, h1, h2⟩ hS _ => ⟨c, h1, h2.at hS⟩, fun i v A E s Q hv hu hk ⟨c, hc, R⟩ q => by
  have hsz : items.size = ns.length := by rw [← Array.length_toList]; exact IntsAre.length hit
  have hi : i < ns.length := by rw [← hsz]; exact (Array.getElem?_eq_some_iff.mp hv).1
  obtain ⟨t, e⟩ := PyProof.Rows.IntsAre.int_at hit i v (by rw [Array.getElem?_toList]; exact hv)
  have hz : ns[i]? = some (ns.getD i 0) := by rw [List.getD_eq_getElem?_getD, List.getElem?_eq_getElem hi] <;> rfl
  generalize ns.getD i 0 = z at e hz
  subst e
  unfold setAdd
  refine wpAny_holding (wpAny_bind ((intKind P w).pyHash (k := z) (intKind_is _ _ _ _) ?_))
  refine setR_add_hashed (s := { s with toks := s.toks + 1 }) R (by omega) fun h' sb R2 => q _ h' _ sb (Nat.le_succ _) ⟨_, ?_, R2.congr fun j => ?_⟩
  · split <;> omega
  · rw [List.take_add_one, hz]
    simp [List.mem_append]⟩
theorem adds_tups {S : Addr} {h0 : Heap} {items : Array Value} {ks : List (Addr × List Int)} {D : List (List Int)} (hit : items.toList = ks.map fun p => Value.ref p.1) (hk : ∀ p ∈ ks, IsT P w h0 p.2 p.1) (hD : ∀ p ∈ ks, p.2 ∈ D) (hl : D.length ≤ 62) :
    Adds P w S h0 items fun i h => ∃ L es ep t, SetTR P w h S L es ep t ∧ Got ks i L := ⟨fun h hs _ => ⟨[], #[], 0, _, setTR_fresh hs, Got.zero ks⟩, fun i h h' ⟨L, es, ep, t, R, g⟩ hS hkp => ⟨L, es, ep, t, R.keep hS fun p hp => isT_keep (hk p (List.mem_of_mem_take (g.sub p hp))) hkp, g⟩, fun i v A E s Q hv hu hkp ⟨L, es, ep, t, R, g⟩ q => by
  have hv2 : items.toList[i]? = some v := by rw [Array.getElem?_toList]; exact hv
  rw [hit, List.getElem?_map] at hv2
  obtain ⟨p, hp, rfl⟩ := Option.map_eq_some_iff.mp hv2
  have hx : IsT P w s.heap p.2 p.1 := isT_keep (hk p (List.mem_of_getElem? hp)) hkp
  have few : L.length ≤ 62 := by
    have := nodup_len R.nd fun x hx => by
      obtain ⟨r, hr, rfl⟩ := List.mem_map.mp hx
      exact hD r (List.mem_of_mem_take (g.sub r hr))
    rw [List.length_map] at this
    omega
  unfold setAdd
  refine wpAny_holding (wpAny_bind (wpAny_pyHash_tuple hu hx ?_))
  refine add_at (s := { s with toks := s.toks + (p.2.length + 1) }) R hx hu (by omega) fun b h' L' es' ep' t' sb R2 c1 c2 => q b h' _ sb (Nat.le_add_right _ _) ⟨L', es', ep', t', R2, ?_⟩
  rcases Classical.em (p.2 ∈ L.map (·.2)) with c | c
  · rw [c1 c]; exact g.same hp c
  · exact g.more hp (c2 c)⟩
end
/-! ### sorted(set(xs)), len(set(xs)) -/
def pairOf : T → Option (Int × Int)
  | .tuple [.int a, .int b] => some (a, b)
  | _ => none
def pairsOf : List T → Option (List (Int × Int))
  | [] => some []
  | t :: ts => match pairOf t, pairsOf ts with
    | some p, some ps => some (p :: ps)
    | _, _ => none
def pT (p : Int × Int) : T := .tuple [.int p.1, .int p.2]
def lP (p : Int × Int) : List Int := [p.1, p.2]
def setOf (ts : List T) : Option (List T) := match intsOf ts with
  | some ns => if (decide (ns.length ≤ 4000) && decide ((setN ns).length < 64)) = true then some ((setN ns).map PyData.int) else none
  | none => match pairsOf ts with
    | some ps => if (decide ((setP ps).length ≤ 62) && ps.all fun p => decide (0 ≤ p.1) && decide (0 ≤ p.2)) = true then some ((setP ps).map pT) else none
    | none => none
def lenSet (ts : List T) : Option T := match intsOf ts with
  | some ns => if ns.length ≤ 4000 then some (.int ((setN ns).length : Nat)) else none
  | none => none
theorem pairsOf_ok {G : Hp} : ∀ {ts : List T} {vs : List V} {ps : List (Int × Int)}, RTs G ts vs → pairsOf ts = some ps → ∃ ks : List (Addr × List Int), vs = ks.map (fun p => V.ref p.1) ∧ ks.map (·.2) = ps.map lP ∧ ∀ p ∈ ks, G p.1 = some (.tup (p.2.map V.int))
  | [], vs, ps, h, e => by
    cases e
    rw [h.unnil]
    exact ⟨[], rfl, rfl, fun p hp => by cases hp⟩
  | t :: ts, vs, ps, h, e => by
    obtain ⟨v, vs', rfl, h1, h2⟩ := h.uncons
    unfold pairsOf at e
    split at e
    · rename_i p qs hp hq
      cases e
      obtain ⟨ks, k1, k2, k3⟩ := pairsOf_ok h2 hq
      unfold pairOf at hp
      split at hp
      · rename_i a b
        cases hp
        obtain ⟨c, us, rfl, hc, hu⟩ := h1.tuple
        obtain ⟨u1, us1, rfl, r1, hu⟩ := hu.uncons
        obtain ⟨u2, us2, rfl, r2, hu⟩ := hu.uncons
        rw [hu.unnil] at hc
        obtain ⟨r1, _⟩ := r1
        obtain ⟨r2, _⟩ := r2
        cases r1
        cases r2
        refine ⟨(c, [a, b]) :: ks, by rw [k1]; rfl, by simp [k2, lP], fun p hp => ?_⟩
        rcases List.mem_cons.mp hp with e | hp
        · rw [e]; exact hc
        · exact k3 p hp
      · cases hp
    · cases e
def rSortSet : List V → Hp → VK → Prop := fun vs H Q => ∃ G v ts us, vs = [v] ∧ Same G H ∧ PkR H G v (.list ts) ∧ setOf ts = some us ∧ ∀ p ws, H p = none → RTs G us ws → Q (.ref p) (upd H p (.lst ws))
def rLenSet : List V → Hp → VK → Prop := fun vs H Q => ∃ G v ts r, vs = [v] ∧ Same G H ∧ PkR H G v (.list ts) ∧ lenSet ts = some r ∧ ∀ x, RT G r x → Q x H
theorem boot_sorted2 : bootBuiltins "sorted" = some (.builtin "sorted") := by decide +kernel
theorem bdMax : ∀ (ps : List (Int × Int)), (∀ p ∈ ps, 0 ≤ p.1 ∧ 0 ≤ p.2) → ∃ B : Int, ∀ p ∈ ps, TS.Bd B (lP p)
  | [], _ => ⟨0, fun p hp => by cases hp⟩
  | p :: ps, h => by
    obtain ⟨B, hB⟩ := bdMax ps fun q hq => h q (List.mem_cons_of_mem _ hq)
    have hp := h p (List.mem_cons_self ..)
    refine ⟨max B (max p.1 p.2 + 1), fun q hq => ?_⟩
    rcases List.mem_cons.mp hq with e | hq
    · subst e
      intro z hz
      simp only [lP, List.mem_cons, List.not_mem_nil, or_false] at hz
      rcases hz with e | e <;> subst e <;> omega
    · intro z hz
      have := hB q hq z hz
      omega
section
variable {X : Cx} {E : XK} {a : Expr} {p p2 q pos : Pos} {t : TA} {l : FL}
theorem fin_list {pins : List (Addr × Obj)} {s s' : Shared} {σ : L2.St} {H : Hp} {Q : VK} {p : Addr} {out : Array Value} {c : Nat} {ws : List V} (I : Inv X pins σ H s) (k : ∀ b o, s.heap.get? b = some o → s'.heap.get? b = some o) (g : s'.gens = s.gens) (o : s'.os = s.os) (hp : s.heap.objs.size ≤ p)
    (hg : s'.heap.get? p = some (seqObj "list" out c)) (hv : Vals ws out.toList) (hlen : ws.length ≤ sizeLine) (q : H p = none → Q (.ref p) (upd H p (.lst ws))) : EP X pins σ Q (.ref p) s' := by
  have hn : H p = none := I.hok.fresh hp
  have J : Inv X pins σ (upd H p (.lst ws)) { s with heap := s'.heap, gens := s'.gens, drawn := s'.drawn, toks := s'.toks } := I.call (ch := []) (Un.laid k hp hn) (I.hok.laid k hp ⟨hlen, out.toList, c, hv, hg⟩) (by rw [g]; exact I.bare) (fun _ z => nomatch z)
  have e : s' = { s with heap := s'.heap, gens := s'.gens, drawn := s'.drawn, toks := s'.toks } := by
    cases s'
    cases s
    cases o
    rfl
  rw [e]
  exact ⟨.ref p, _, J, rfl, q hn⟩
theorem vals_ints : ∀ {us : List Value} {ns : List Int}, IntsAre us ns → Vals (ns.map V.int) us
  | _, _, .nil => .nil
  | _, _, .cons n t h => .cons ⟨t, rfl⟩ (vals_ints h)
theorem sort_ints {pins : List (Addr × Obj)} {s : Shared} {σ : L2.St} {H : Hp} {Q : VK} {A : Addr} {ns : List Int} {c : Nat} {h0 : Heap} {tk : Nat} {xe : Value → Shared → Prop} (hc : X.calm = true) (I : Inv X pins σ H s) (hk : ∀ b o, s.heap.get? b = some o → h0.get? b = some o) (R : SetR X.w h0 A (fun j => decide (j ∈ ns)) c) (hl : (setN ns).length < 64) (q : ∀ p, H p = none → Q (.ref p) (upd H p (.lst ((setN ns).map V.int)))) :
    wpAny (model X.prog X.w) X.A (call (.builtin "sorted") [.ref A]) (EP X pins σ Q) xe { s with heap := h0, toks := tk } := by
  have I1 : Inv X pins σ H { s with heap := h0, toks := tk } := I.kept hk
  have hcn : c = (setN ns).length := by
    obtain ⟨o, es, ep, t, ho, hex, hd, g, nd, hm, hb, hf, hn, hr, hl⟩ := R
    have l1 : (es.toList.map keyOf).length = c := by rw [List.length_map, Array.length_toList]; exact hn
    have sub1 := nodup_len nd (m := setN ns) fun x hx => (mem_setU ordN).mpr (of_decide_eq_true ((hm x).mpr hx))
    have sub2 := nodup_len (l := setN ns) (m := es.toList.map keyOf) (sortU_nodup ordN (sort_setU ordN)) fun x hx => (hm x).mp (decide_eq_true ((mem_setU ordN).mp hx))
    omega
  refine sorted_set R (I1.ok.hd hc) (by omega) fun s' p out c2 ms k g o hp hg hi pw hm hln => ?_
  have e : ms = setN ns := sortU_ext ordN (List.Pairwise.imp (fun {a b} h => decide_eq_true h) pw) (sort_setU ordN) fun z => by rw [hm z, decide_eq_true_eq, mem_setU ordN]
  subst e
  exact fin_list I1 k g o hp hg (vals_ints hi) (by rw [List.length_map, sizeLine_eq]; omega) (q p)
theorem sort_pairs {pins : List (Addr × Obj)} {s : Shared} {σ : L2.St} {H G : Hp} {Q : VK} {A : Addr} {ks L : List (Addr × List Int)} {ps : List (Int × Int)} {es : Array (Int × Value)} {ep : Nat} {t : SetTable} {h0 : Heap} {tk : Nat} {xe : Value → Shared → Prop} (hc : X.calm = true) (I : Inv X pins σ H s) (hk : ∀ b o, s.heap.get? b = some o → h0.get? b = some o)
    (e2 : ks.map (·.2) = ps.map lP) (hG : ∀ p ∈ ks, G p.1 = some (.tup (p.2.map V.int))) (h0p : ∀ p ∈ ps, 0 ≤ p.1 ∧ 0 ≤ p.2) (R : SetTR X.prog X.w h0 A L es ep t) (g : Got ks ks.length L) (q : ∀ p ws, H p = none → RTs G ((setP ps).map pT) ws → Q (.ref p) (upd H p (.lst ws))) :
    wpAny (model X.prog X.w) X.A (call (.builtin "sorted") [.ref A]) (EP X pins σ Q) xe { s with heap := h0, toks := tk } := by
  have I1 : Inv X pins σ H { s with heap := h0, toks := tk } := I.kept hk
  obtain ⟨B, hB⟩ := bdMax ps h0p
  have sub : ∀ r ∈ L, r ∈ ks := fun r hr => List.mem_of_mem_take (g.sub r hr)
  have isp : ∀ r ∈ ks, ∃ p ∈ ps, r.2 = lP p := fun r hr => by
    have : r.2 ∈ ps.map lP := by rw [← e2]; exact List.mem_map.mpr ⟨r, hr, rfl⟩
    obtain ⟨p, hp, e⟩ := List.mem_map.mp this
    exact ⟨p, hp, e.symm⟩
  refine sorted_setT (s := { s with heap := h0, toks := tk }) R (I1.ok.hd hc) (d := 2) (B := B) (by decide) (fun r hr => by
    obtain ⟨p, hp, e⟩ := isp r (sub r hr)
    rw [e]
    exact ⟨rfl, hB p hp⟩) fun s' p out c2 L' k g2 o hp hg hout pm pw => ?_
  have sub2 : ∀ r ∈ L', r ∈ ks := fun r hr => sub r (pm.mem_iff.mp hr)
  -- the pairs
  let m : Addr × List Int → Int × Int := fun r => match r.2 with
    | [x, y] => (x, y)
    | _ => (0, 0)
  have hm : ∀ r ∈ ks, lP (m r) = r.2 ∧ m r ∈ ps := fun r hr => by
    obtain ⟨p, hp, e⟩ := isp r hr
    have : m r = p := by show (match r.2 with | [x, y] => (x, y) | _ => (0, 0)) = p; rw [e]; rfl
    rw [this, e]
    exact ⟨rfl, hp⟩
  have nd2 : (L'.map (·.2)).Nodup := (pm.map (·.2)).nodup_iff.mpr R.nd
  have e3 : L'.map m = setP ps := by
    refine sortU_ext ordP ?_ (sort_setU ordP) fun z => ?_
    · refine List.pairwise_map.mpr ?_
      refine List.Pairwise.imp_of_mem (fun {r r'} hr hr' h => ?_) (List.Pairwise.and pw (List.pairwise_map.mp nd2))
      obtain ⟨h1, h2⟩ := h
      obtain ⟨a1, a2⟩ := hm r (sub2 r hr)
      obtain ⟨b1, b2⟩ := hm r' (sub2 r' hr')
      rw [← a1, ← b1] at h1 h2
      have z := code_lex (hB _ a2) (hB _ b2) h1
      refine decide_eq_true ?_
      rcases z with z | ⟨z1, z2⟩
      · exact .inl z
      · refine .inr ⟨z1, ?_⟩
        have : (m r).2 ≠ (m r').2 := fun e => h2 (by unfold lP; rw [z1, e])
        omega
    · rw [mem_setU ordP, List.mem_map]
      constructor
      · rintro ⟨r, hr, rfl⟩
        exact (hm r (sub2 r hr)).2
      · intro hz
        have : lP z ∈ ks.map (·.2) := by rw [e2]; exact List.mem_map.mpr ⟨z, hz, rfl⟩
        obtain ⟨r, hr, er⟩ := List.mem_map.mp this
        have := g.all r (by rw [List.take_length]; exact hr)
        obtain ⟨r', hr', er'⟩ := List.mem_map.mp this
        refine ⟨r', pm.mem_iff.mpr hr', ?_⟩
        have hz2 := (hm r' (sub r' hr')).1
        rw [er', er] at hz2
        unfold lP at hz2
        simp only [List.cons.injEq, and_true] at hz2
        exact Prod.ext hz2.1 hz2.2
  have rt : ∀ {L2 : List (Addr × List Int)}, (∀ r ∈ L2, r ∈ ks) → RTs G (L2.map fun r => pT (m r)) (L2.map fun r => V.ref r.1) := fun {L2} => by
    induction L2 with
    | nil => exact fun _ => .nil
    | cons r L2 ih =>
      intro hs
      have hr := hs r (List.mem_cons_self ..)
      refine .cons (RT.mkTup (hG r hr) ?_) (ih fun x hx => hs x (List.mem_cons_of_mem _ hx))
      rw [← (hm r hr).1]
      exact .cons (RT.int _) (.cons (RT.int _) .nil)
  have few := R.few
  refine fin_list I1 k g2 o hp hg (ws := L'.map fun r => V.ref r.1) (by rw [hout]; exact vals_of_refs L') (by rw [List.length_map, pm.length_eq, sizeLine_eq]; omega) fun hn => q p _ hn ?_
  rw [← e3, List.map_map]
  exact rt sub2
def tSortSet (t : TA) : TE := fun σ H Q => t σ H fun vs H1 => rSortSet vs H1 Q
def tLenSet (t : TA) : TE := fun σ H Q => t σ H fun vs H1 => rLenSet vs H1 Q
theorem pe_sortSet (hc : X.calm = true) (hu : X.A.units + 70 < cLine) (hg : Gl X "sorted") (hm : X.mg "sorted" = none) (hg2 : Gl X "set") (hm2 : X.mg "set" = none) (ha : PA X [a] t) (hs : starEach [a] X.env = [(false, eval a X.env)] := by rfl) : PE X (.Call (.Name "sorted" p) [.Call (.Name "set" p2) [a] [] q] [] pos) (tSortSet t) := by
  refine ⟨fun pins s σ H Q I h => ?_⟩
  refine Call_ (ld_blt I hg hm boot_sorted2 ?_)
  refine PyProof.Rows.callWith_builtin1 (PyProof.Rows.args_cons ?_ rfl) rfl rfl
  refine Call_ (ld_blt I hg2 hm2 boot_set ?_)
  refine PyProof.Rows.callWith_type1 (thn (ha.run q pins s σ H _ I h) fun us s1 ⟨vs, H1, I1, r1, q1⟩ => ?_) hs rfl
  obtain ⟨G, v, ts, rs, rfl, sG, px, hset, k⟩ := q1
  obtain ⟨l, xs, rfl, h1, h2⟩ := px.list sG
  obtain ⟨its, rv, pl, hz⟩ := I1.list (SqL.of h1)
  rw [Vals.ref1 r1]
  unfold setOf at hset
  split at hset
  · rename_i ns hns
    split at hset
    · rename_i hb
      cases hset
      rw [Bool.and_eq_true, decide_eq_true_eq, decide_eq_true_eq] at hb
      have e := intsOf_ok h2 hns
      subst e
      have hi : IntsAre its.toArray.toList ns := ints_of_vals rv
      have hlen : its.toArray.size = ns.length := by rw [List.size_toArray, ← rv.length, List.length_map]
      refine call_setL (I1.ok.hd hc) pl.isList (adds_ints hi (by unfold scanBound; omega)) (by omega) fun h' tk J kp => PyProof.Rows.args_nil ?_
      obtain ⟨c, _, R⟩ := J
      rw [hlen] at R
      refine sort_ints hc I1 kp (R.congr fun j => by rw [List.take_length]) hb.2 fun p hp => k p _ hp ?_
      clear R k
      induction setN ns with
      | nil => exact .nil
      | cons n l ih => exact .cons (RT.int n) ih
    · cases hset
  · rename_i hns
    split at hset
    · rename_i ps hps
      split at hset
      · rename_i hb
        cases hset
        rw [Bool.and_eq_true, decide_eq_true_eq] at hb
        obtain ⟨ks, e1, e2, hG⟩ := pairsOf_ok h2 hps
        subst e1
        have hlen : its.toArray.size = ks.length := by rw [List.size_toArray, ← rv.length, List.length_map]
        refine call_setL (I1.ok.hd hc) pl.isList (adds_tups (ks := ks) (D := (setP ps).map lP) (by simpa using refs_of_vals rv) (fun r hr => I1.isT (SqT.of (sG _ _ (hG r hr)))) (fun r hr => ?_) (by rw [List.length_map]; exact hb.1)) (by omega) fun h' tk J kp => PyProof.Rows.args_nil ?_
        · have : r.2 ∈ ps.map lP := by rw [← e2]; exact List.mem_map.mpr ⟨r, hr, rfl⟩
          obtain ⟨p, hp, e⟩ := List.mem_map.mp this
          exact List.mem_map.mpr ⟨p, (mem_setU ordP).mpr hp, e⟩
        · obtain ⟨L, es, ep, t, R, g⟩ := J
          rw [hlen] at g
          exact sort_pairs hc I1 kp e2 hG (fun p hp => by
            have := List.all_eq_true.mp hb.2 p hp
            rw [Bool.and_eq_true, decide_eq_true_eq, decide_eq_true_eq] at this
            exact this) R g k
      · cases hset
    · cases hset
theorem pe_lenSet (hc : X.calm = true) (hu : X.A.units + 70 < cLine) (hg : Gl X "len") (hm : X.mg "len" = none) (hg2 : Gl X "set") (hm2 : X.mg "set" = none) (ha : PA X [a] t) (hs : starEach [a] X.env = [(false, eval a X.env)] := by rfl) : PE X (.Call (.Name "len" p) [.Call (.Name "set" p2) [a] [] q] [] pos) (tLenSet t) := by
  refine ⟨fun pins s σ H Q I h => ?_⟩
  refine Call_ (ld_blt I hg hm boot_len ?_)
  refine PyProof.Rows.callWith_builtin1 (PyProof.Rows.args_cons ?_ rfl) rfl rfl
  refine Call_ (ld_blt I hg2 hm2 boot_set ?_)
  refine PyProof.Rows.callWith_type1 (thn (ha.run q pins s σ H _ I h) fun us s1 ⟨vs, H1, I1, r1, q1⟩ => ?_) hs rfl
  obtain ⟨G, v, ts, rs, rfl, sG, px, hset, k⟩ := q1
  obtain ⟨l, xs, rfl, h1, h2⟩ := px.list sG
  obtain ⟨its, rv, pl, hz⟩ := I1.list (SqL.of h1)
  rw [Vals.ref1 r1]
  unfold lenSet at hset
  split at hset
  · rename_i ns hns
    split at hset
    · rename_i hb
      cases hset
      have e := intsOf_ok h2 hns
      subst e
      have hi : IntsAre its.toArray.toList ns := ints_of_vals rv
      have hlen : its.toArray.size = ns.length := by rw [List.size_toArray, ← rv.length, List.length_map]
      refine call_setL (I1.ok.hd hc) pl.isList (adds_ints hi (by unfold scanBound; omega)) (by omega) fun h' tk J kp => PyProof.Rows.args_nil ?_
      obtain ⟨c, _, R⟩ := J
      rw [hlen] at R
      have R := R.congr (S' := fun j => decide (j ∈ ns)) fun j => by rw [List.take_length]
      obtain ⟨o, es, ep, t, ho, hex, hd, g, nd, hm, hb2, hf, hn, hr, hl⟩ := R
      have hcn : c = (setN ns).length := by
        have l1 : (es.toList.map keyOf).length = c := by rw [List.length_map, Array.length_toList]; exact hn
        have sub1 := nodup_len nd (m := setN ns) fun x hx => (mem_setU ordN).mpr (of_decide_eq_true ((hm x).mpr hx))
        have sub2 := nodup_len (l := setN ns) (m := es.toList.map keyOf) (sortU_nodup ordN (sort_setU ordN)) fun x hx => (hm x).mp (decide_eq_true ((mem_setU ordN).mp hx))
        omega
      have I2 : Inv X pins σ H1 { s1 with heap := h', toks := tk } := I1.kept kp
      exact call_len_set ho hex hd hf (by unfold scanBound at hb2; omega) ⟨.int (setN ns).length, H1, I2.tok _, ⟨_, by rw [hn, hcn]⟩, k _ (RT.int _)⟩
    · cases hset
  · cases hset
def fSortSet (f : FL) : FR := fun ρ h => (f ρ h).bind fun ts h => match ts with
  | [.list ts] => match setOf ts with
    | some us => .ok (.own us) h
    | none => .bad
  | _ => .bad
def fLenSet (f : FL) : FE := fun ρ h => (f ρ h).bind fun ts h => match ts with
  | [.list ts] => match lenSet ts with
    | some r => .ok (.dat r) h
    | none => .bad
  | _ => .bad
theorem sr_sortSet (hc : X.calm = true) (hu : X.A.units + 70 < cLine) (hg : Gl X "sorted") (hm : X.mg "sorted" = none) (hg2 : Gl X "set") (hm2 : X.mg "set" = none) (ha : SOs X E [a] l) (hs : starEach [a] X.env = [(false, eval a X.env)] := by rfl) : SR X E (.Call (.Name "sorted" p) [.Call (.Name "set" p2) [a] [] q] [] pos) (fSortSet l) := pe_imp (pe_sortSet hc hu hg hm hg2 hm2 ha hs) fun σ H Q hw =>
  tX_bind (f := l) rpR_m hw fun ρ ts h1 vs H1 G0 G1 w0 w1 R1 T1 r1 W1 => by
    have hp := r1 _ _ _ _ R1 (Same.refl _)
    split at W1
    · split at W1
      · rename_i ts _ us hok
        obtain ⟨v, rfl, px⟩ := pr1 hp
        exact ⟨G1, v, ts, us, rfl, R1.sub, px, hok, fun p us hp2 r2 => W1.fin R1 (New.mute R1.sub _ hp2) (ownR_new R1 r2 hp2)⟩
      · exact W1.elim
    · exact W1.elim
theorem se_lenSet (hc : X.calm = true) (hu : X.A.units + 70 < cLine) (hg : Gl X "len") (hm : X.mg "len" = none) (hg2 : Gl X "set") (hm2 : X.mg "set" = none) (ha : SOs X E [a] l) (hs : starEach [a] X.env = [(false, eval a X.env)] := by rfl) : SE X E (.Call (.Name "len" p) [.Call (.Name "set" p2) [a] [] q] [] pos) (fLenSet l) := pe_imp (pe_lenSet hc hu hg hm hg2 hm2 ha hs) fun σ H Q hw =>
  tX_bind (f := l) rpD_m hw fun ρ ts h1 vs H1 G0 G1 w0 w1 R1 T1 r1 W1 => by
    have hp := r1 _ _ _ _ R1 (Same.refl _)
    split at W1
    · split at W1
      · rename_i ts _ us hok
        obtain ⟨v, rfl, px⟩ := pr1 hp
        exact ⟨G1, v, ts, us, rfl, R1.sub, px, hok, fun x r2 => W1.fin0 R1 r2⟩
      · exact W1.elim
    · exact W1.elim
end
end Pf
set_option Elab.async false
set_option linter.all false
set_option maxRecDepth 100000
set_option maxHeartbeats 2000000
namespace Pf
open PySem PySem.Spec PyProof.Rows L2
/-! ### lending: a test, or a value that is no list, made with lists of one's own as if they were told -/
def lendS : Slot → Slot
  | .own ts => .val (.dat (.list ts))
  | .val (.dat t) => .val (.dat t)
  | .val (.scr ns) => .val (.scr ns)
  | .fix _ t => .val (.dat t)
  | _ => .un
def flatR : T → Bool
  | .none => true
  | .bool _ => true
  | .int _ => true
  | _ => false
def fLendB (f : FB) : FB := fun ρ h => match f (ρ.map lendS) [] with
  | .ok b _ => .ok b h
  | _ => .bad
def fLend (f : FE) : FE := fun ρ h => match f (ρ.map lendS) [] with
  | .ok (.dat t) _ => if flatR t = true then .ok (.dat t) h else .bad
  | _ => .bad
def noW : Wn := fun _ => none
theorem Rel.lend {K : Fr} {ρ : En} {h : Hs} {σ : L2.St} {H G : Hp} {w : Wn} (R : Rel K ρ h σ H G w) : Rel K (ρ.map lendS) [] σ H H noW where
  sub := Same.refl _
  off := fun q a e => by cases e
  inj := fun q q' a e => by cases e
  len := by rw [List.length_map]; exact R.len
  env := fun i s e => by
    rw [List.getElem?_map] at e
    obtain ⟨s0, e0, rfl⟩ := Option.map_eq_some_iff.mp e
    have r := R.env i s0 e0
    cases s0 with
    | un => exact rfl
    | own ts =>
      obtain ⟨a, vs, h1, h2, h3, h4⟩ := r
      exact ⟨rfl, _, h2, RT.mkList h3 (h4.mono R.sub)⟩
    | dic kvs => exact rfl
    | fix v t =>
      obtain ⟨h1, h2, h3⟩ := r
      exact ⟨rfl, v, h2, RT.mono R.sub h3⟩
    | pin v => exact rfl
    | val d =>
      obtain ⟨h1, v, h2, h3⟩ := r
      cases d with
      | dat t => exact ⟨rfl, v, h2, RT.mono R.sub h3⟩
      | obj n => exact rfl
      | scr ns =>
        obtain ⟨a, e, r⟩ := h3
        exact ⟨rfl, v, h2, a, e, R.sub.seq r⟩
  env0 := fun _ _ => rfl
  obs := fun n o e => by simp at e
  obs0 := fun _ _ => ⟨rfl, fun _ => rfl⟩
theorem Tr.lent {G H G' H' : Hp} {w' : Wn} (t : Tr G H noW G' H' w') : Same H H' := fun a o e => t.fr a o e fun q z => by cases z
theorem Rel.grow {K : Fr} {ρ : En} {h : Hs} {σ : L2.St} {H G H' : Hp} {w : Wn} (R : Rel K ρ h σ H G w) (s : Same H H') : Rel K ρ h σ H' G w ∧ Tr G H w G H' w := by
  exact R.new ⟨s, Same.refl _, R.sub.trans s, fun _ h => .inl h⟩
section
variable {X : Cx} {E : XK} {e : Expr} {f : FB} {g : FE}
theorem st_lend (hf : ST X E e f) : ST X E e (fLendB f) := pt_imp hf fun σ H Q hw => by
  obtain ⟨ρ, h0, G, w, R, W⟩ := hw
  refine ⟨_, [], H, noW, R.lend, ?_⟩
  unfold fLendB at W
  cases hr : f (ρ.map lendS) [] with
  | bad => rw [hr] at W; exact W.elim
  | exc x h => rw [hr] at W; exact W.elim
  | ok b h1 =>
    rw [hr] at W
    intro v H' G' w' R' T' r'
    obtain ⟨R1, T1⟩ := R.grow T'.lent
    exact W v H' G w R1 T1 r'
theorem se_lend (hf : SE X E e g) : SE X E e (fLend g) := pe_imp hf fun σ H Q hw => by
  obtain ⟨ρ, h0, G, w, R, W⟩ := hw
  refine ⟨_, [], H, noW, R.lend, ?_⟩
  unfold fLend at W
  cases hr : g (ρ.map lendS) [] with
  | bad => rw [hr] at W; exact W.elim
  | exc x h => rw [hr] at W; exact W.elim
  | ok d h1 =>
    rw [hr] at W
    cases d with
    | obj n => exact W.elim
    | scr n => exact W.elim
    | dat t =>
      simp only at W
      split at W
      · rename_i hfl
        intro v H' G' w' R' T' r'
        obtain ⟨R1, T1⟩ := R.grow T'.lent
        refine W v H' G w R1 T1 ?_
        have r' : RT G' t v := r'
        show RT G t v
        obtain ⟨r1, r2⟩ := r'
        cases t with
        | none => cases r1; exact RT.none
        | bool b => cases r1; exact RT.bool b
        | int i => cases r1; exact RT.int i
        | _ => cases hfl
      · exact W.elim
end
end Pf
set_option Elab.async false
set_option linter.all false
set_option maxRecDepth 100000
set_option maxHeartbeats 2000000
namespace Pf
open PySem PySem.Spec PyProof.Rows L2
/-! ### xs[i] = e for a list of one's own; list(range(..)) -/
def fSetI (i : Nat) (fk : FT) (fv : FE) : FS := fun ρ h => match ρ[i]? with
  | some (.own ts) => (fv ρ h).bind fun d h => (fk ρ h).bind fun t h => match d, t with
    | .dat u, .int k => (match ixN ts.length k with
      | some j => .ok (.next (ρ.set i (.own (ts.set j u)))) h
      | none => .bad)
    | _, _ => .bad
  | _ => .bad
section
variable {X : Cx} {E : XK} {a b o idx value : Expr} {p p2 pos pos' : Pos} {fa fb fk : FT} {fv : FE}
theorem ss_setI {i : Nat} (ho : PE X o (tVar i)) (hk : SO X E idx fk) (hv : SE X E value fv) (hs : swapsWithSole [.Subscript o idx pos'] value pos.line X.env = pure false := by rfl) (hw : swappedStores [.Subscript o idx pos'] value X.env = pure none := by rfl)
    (h1 : (assignEach [.Subscript o idx pos'] X.env).map (·.2) = [assign (.Subscript o idx pos') X.env] := by rfl) (ha : ∀ v, assign (.Subscript o idx pos') X.env v = (do
      let ov ← holding [v] (eval o X.env)
      let iv ← holding [v, ov] (eval idx X.env)
      standAt pos'
      holding [v, ov, iv] (setItem ov iv v)
      release [v, ov, iv] []) := by intro _; rfl) :
    SS X E (.Assign [.Subscript o idx pos'] value pos) (fSetI i fk fv) := ps_imp (ps_asg hv (pg_sub ho hk set_list ha) hs hw h1) fun D σ H hwi => by
  obtain ⟨ρ, h0, G, w, R, W⟩ := hwi
  unfold fSetI at W
  split at W
  · rename_i ts hsl
    obtain ⟨a, vs, a1, a2, a3, a4⟩ := R.env i _ hsl
    refine ⟨ρ, h0, G, w, R, ?_⟩
    cases hf : fv ρ h0 with
    | bad => rw [hf] at W; exact W.elim
    | exc x h' => rw [hf] at W; exact W
    | ok d h1 =>
      rw [hf] at W
      intro v H1 G1 w1 R1 T1 r1
      refine ⟨_, a2, ρ, h1, G1, w1, R1, ?_⟩
      dsimp only [Res.bind] at W
      cases hg : fk ρ h1 with
      | bad => rw [hg] at W; exact W.elim
      | exc x h' =>
        rw [hg] at W
        exact fun c d H' G' w' R' T' r' => W c d H' G' w' R' (T1.trans T') r'
      | ok t h2 =>
        rw [hg] at W
        intro k H2 G2 w2 R2 T2 r2
        have pk := r2 _ _ _ _ R2 (Same.refl _)
        dsimp only [Res.bind] at W
        cases d with
        | obj n => exact W.elim
        | scr n => exact W.elim
        | dat u =>
          cases t with
          | int z =>
            dsimp only at W
            split at W
            · rename_i j hj
              obtain ⟨a', vs', b1, b2, b3, b4⟩ := R2.env i _ hsl
              rw [a2] at b2
              cases b2
              obtain ⟨R3, T3⟩ := R2.chg hsl b1 (b4.set (i := j) (RT.mono T2.gm r1))
              refine ⟨a, vs', z, j, rfl, pk.int, b3, by rw [b4.length]; exact hj, W _ _ _ _ R3 ((T1.trans T2).trans T3)⟩
            · exact W.elim
          | _ => exact W.elim
  · exact W.elim
/-! list(range(..)) -/
def fLRg1 (fa : FT) : FR := fun ρ h => (fa ρ h).bind fun t h => match t with
  | .int n => if rngOk 0 n = true then .ok (.own (rngT 0 n.toNat)) h else .bad
  | _ => .bad
def fLRg2 (fa fb : FT) : FR := fun ρ h => (fa ρ h).bind fun t h => (fb ρ h).bind fun u h => match t, u with
  | .int m, .int n => if rngOk m n = true then .ok (.own (rngT m (n - m).toNat)) h else .bad
  | _, _ => .bad
theorem rgV_R {G : Hp} (m n : Int) : RTs G (rngT m (n - m).toNat) (rgV m n) := by
  unfold rngT rgV
  generalize (n - m).toNat = k
  induction k with
  | zero => exact .nil
  | succ k ih =>
    rw [List.range_succ, List.map_append, List.map_append]
    exact ih.append (.cons (RT.int _) .nil)
theorem sr_lrg1 {x y : Str} (hx : x = "list") (hy : y = "range") (hc : X.calm = true) (hg : Gl X x) (hm : X.mg x = none) (hg2 : Gl X y) (hm2 : X.mg y = none) (ha : SO X E a fa) (na : starEach [a] X.env = (false, eval a X.env) :: starEach [] X.env := by rfl) (ne : starEach [.Call (.Name y p2) [a] [] pos'] X.env = (false, eval (.Call (.Name y p2) [a] [] pos') X.env) :: starEach [] X.env := by rfl) :
    SR X E (.Call (.Name x p) [.Call (.Name y p2) [a] [] pos'] [] pos) (fLRg1 fa) := by
  subst hx hy
  refine pe_imp (pe_listRg hc hg hm (prg_1 hg2 hm2 ha na) ne) fun σ H Q hw => tX_bind (f := fa) rpR_m hw fun ρ t h1 v H1 G0 G1 w0 w1 R1 T1 r1 W1 => ?_
  have px := r1 _ _ _ _ R1 (Same.refl _)
  cases t with
  | int j =>
    dsimp only at W1
    split at W1
    · rename_i hr
      have hr := rng_ok hr
      refine ⟨j, by rw [px.int], ⟨by omega, by omega, by omega, by omega, by omega⟩, fun q hq => ?_⟩
      have e := rgV_R (G := G1) 0 j
      rw [Int.sub_zero] at e
      exact W1.fin R1 (New.mute R1.sub _ hq) (ownR_new R1 e hq)
    · exact W1.elim
  | _ => exact W1.elim
theorem sr_lrg2 {x y : Str} (hx : x = "list") (hy : y = "range") (hc : X.calm = true) (hg : Gl X x) (hm : X.mg x = none) (hg2 : Gl X y) (hm2 : X.mg y = none) (ha : SO X E a fa) (hb : SO X E b fb) (na : starEach [a, b] X.env = (false, eval a X.env) :: starEach [b] X.env := by rfl) (nb : starEach [b] X.env = (false, eval b X.env) :: starEach [] X.env := by rfl)
    (hp : (backTo pos' (starEach [b] X.env)).any (·.1) = false := by rfl) (ne : starEach [.Call (.Name y p2) [a, b] [] pos'] X.env = (false, eval (.Call (.Name y p2) [a, b] [] pos') X.env) :: starEach [] X.env := by rfl) :
    SR X E (.Call (.Name x p) [.Call (.Name y p2) [a, b] [] pos'] [] pos) (fLRg2 fa fb) := by
  subst hx hy
  refine pe_imp (pe_listRg hc hg hm (prg_2 hg2 hm2 ha hb na nb hp) ne) fun σ H Q hw => tX_bind (f := fa) rpR_m hw fun ρ t h1 v H1 G0 G1 w0 w1 R1 T1 r1 W1 => wish_bind (f := fb) rpR_m R1 W1 fun u h2 v2 H2 G2 w2 R2 T2 r2 W2 => ?_
  have px := r1 _ _ _ _ R2 T2.gm
  have py := r2 _ _ _ _ R2 (Same.refl _)
  cases t with
  | int i =>
    cases u with
    | int j =>
      dsimp only at W2
      split at W2
      · rename_i hr
        have hr := rng_ok hr
        exact ⟨i, j, by rw [px.int], by rw [py.int], ⟨by omega, by omega, by omega, by omega, by omega⟩, fun q hq => W2.fin R2 (New.mute R2.sub _ hq) (ownR_new R2 (rgV_R i j) hq)⟩
      · exact W2.elim
    | _ => exact W2.elim
  | _ => exact W2.elim
/-! [..] * n, a new list -/
def fRep (fa fb : FT) : FR := fun ρ h => (fa ρ h).bind fun x h => (fb ρ h).bind fun y h => match x, y with
  | .list xs, .int n => if (decide (0 ≤ n) && decide (n ≤ 1000) && decide (xs.length ≤ 1000)) = true then .ok (.own (List.replicate n.toNat xs).flatten) h else .bad
  | _, _ => .bad
theorem sr_rep (ha : SO X E a fa) (hb : SO X E b fb) : SR X E (.BinOp a .Mult b pos) (fRep fa fb) := pe_imp (pe_op op_rep ha hb) fun σ H Q hw =>
  tX_bind (f := fa) rpR_m hw fun ρ x h1 v H1 G0 G1 w0 w1 R1 T1 r1 W1 => wish_bind (f := fb) rpR_m R1 W1 fun y h2 u H2 G2 w2 R2 T2 r2 W2 => by
    have px := r1 _ _ _ _ R2 T2.gm
    have py := r2 _ _ _ _ R2 (Same.refl _)
    cases x with
    | list xs =>
      cases y with
      | int n =>
        dsimp only at W2
        split at W2
        · rename_i hc
          simp only [Bool.and_eq_true, decide_eq_true_eq] at hc
          obtain ⟨a, vs, rfl, g1, g2⟩ := px.list R2.sub
          have hz : (1000 : Nat) * 1000 ≤ sizeLine := by decide
          refine ⟨a, _, vs, rfl, py.int, g1, by omega, by omega, ?_, fun p hp => W2.fin R2 (New.mute R2.sub _ hp) (ownR_new R2 (g2.flat _) hp)⟩
          rw [g2.length]
          exact Nat.le_trans (Nat.mul_le_mul hc.2 (by omega)) hz
        · exact W2.elim
      | _ => exact W2.elim
    | _ => exact W2.elim
end
end Pf
set_option Elab.async false
set_option linter.all false
set_option maxRecDepth 100000
set_option maxHeartbeats 2000000
namespace Pf
open PySem PySem.Spec PyProof.Rows L2
/-! ### hiding: a loop over a list of one's own, whose body sees told data alone -/
def hideS (v : V) : Slot → Slot
  | .val (.dat t) => .fix v t
  | .fix v' t => .fix v' t
  | .pin v' => .pin v'
  | .un => .un
  | _ => .pin v
def hideU : Slot → Slot
  | .val (.dat t) => .val (.dat t)
  | .fix _ t => .val (.dat t)
  | _ => .un
def hideE (U : List Nat) (τ : Nat → V) : Nat → En → En
  | _, [] => []
  | k, s :: ρ => (if k ∈ U then hideU s else hideS (τ k) s) :: hideE U τ (k + 1) ρ
def keepS : Slot → Slot
  | .val (.dat t) => .val (.dat t)
  | .own ts => .own ts
  | .dic kvs => .dic kvs
  | _ => .un
def outE (U Kp : List Nat) : Nat → En → En → En
  | k, s :: ρ, s' :: ρ' => (if k ∈ U then (if k ∈ Kp then keepS s' else .un) else s) :: outE U Kp (k + 1) ρ ρ'
  | _, _, _ => []
def offE (U : List Nat) : Nat → En → En
  | _, [] => []
  | k, s :: ρ => (if k ∈ U then .un else s) :: offE U (k + 1) ρ
theorem hideE_len (U : List Nat) (τ : Nat → V) : ∀ (k : Nat) (ρ : En), (hideE U τ k ρ).length = ρ.length
  | _, [] => rfl
  | k, s :: ρ => by rw [hideE, List.length_cons, List.length_cons, hideE_len U τ (k + 1) ρ]
theorem offE_len (U : List Nat) : ∀ (k : Nat) (ρ : En), (offE U k ρ).length = ρ.length
  | _, [] => rfl
  | k, s :: ρ => by rw [offE, List.length_cons, List.length_cons, offE_len U (k + 1) ρ]
theorem hideE_get (U : List Nat) (τ : Nat → V) : ∀ (k : Nat) (ρ : En) (j : Nat), (hideE U τ k ρ)[j]? = ρ[j]?.map fun s => if k + j ∈ U then hideU s else hideS (τ (k + j)) s
  | _, [], j => by simp [hideE]
  | k, s :: ρ, 0 => by simp [hideE]
  | k, s :: ρ, j + 1 => by
    rw [hideE, List.getElem?_cons_succ, List.getElem?_cons_succ, hideE_get U τ (k + 1) ρ j]
    have : k + 1 + j = k + (j + 1) := by omega
    rw [this]
theorem offE_get (U : List Nat) : ∀ (k : Nat) (ρ : En) (j : Nat), k + j ∉ U → (offE U k ρ)[j]? = ρ[j]?
  | _, [], j, _ => by simp [offE]
  | k, s :: ρ, 0, h => by
    rw [offE, if_neg (by simpa using h)]
    rfl
  | k, s :: ρ, j + 1, h => by
    rw [offE, List.getElem?_cons_succ, List.getElem?_cons_succ]
    exact offE_get U (k + 1) ρ j (by
      have : k + 1 + j = k + (j + 1) := by omega
      rw [this]; exact h)
theorem outE_len (U Kp : List Nat) : ∀ (k : Nat) (ρ ρ' : En), ρ.length = ρ'.length → (outE U Kp k ρ ρ').length = ρ.length
  | _, [], [], _ => rfl
  | _, [], _ :: _, h => by cases h
  | _, _ :: _, [], h => by cases h
  | k, s :: ρ, s' :: ρ', h => by rw [outE, List.length_cons, List.length_cons, outE_len U Kp (k + 1) ρ ρ' (by simpa using h)]
theorem outE_get (U Kp : List Nat) : ∀ (k : Nat) (ρ ρ' : En) (j : Nat) (s : Slot), (outE U Kp k ρ ρ')[j]? = some s → (k + j ∈ U ∧ k + j ∈ Kp ∧ ∃ s', ρ'[j]? = some s' ∧ s = keepS s') ∨ (k + j ∈ U ∧ k + j ∉ Kp ∧ s = .un) ∨ (k + j ∉ U ∧ ρ[j]? = some s)
  | _, [], [], j, s, h => by simp [outE] at h
  | _, [], _ :: _, j, s, h => by simp [outE] at h
  | _, _ :: _, [], j, s, h => by simp [outE] at h
  | k, a :: ρ, b :: ρ', 0, s, h => by
    rw [outE, List.getElem?_cons_zero] at h
    by_cases hk : k ∈ U
    · rw [if_pos hk] at h
      by_cases hp : k ∈ Kp
      · rw [if_pos hp] at h
        exact .inl ⟨by simpa using hk, by simpa using hp, b, rfl, (Option.some.inj h).symm⟩
      · rw [if_neg hp] at h
        exact .inr (.inl ⟨by simpa using hk, by simpa using hp, (Option.some.inj h).symm⟩)
    · rw [if_neg hk] at h
      exact .inr (.inr ⟨by simpa using hk, h⟩)
  | k, a :: ρ, b :: ρ', j + 1, s, h => by
    rw [outE, List.getElem?_cons_succ] at h
    have := outE_get U Kp (k + 1) ρ ρ' j s h
    have e : k + 1 + j = k + (j + 1) := by omega
    rw [e] at this
    simpa using this
def valAt (σ : L2.St) (j : Nat) : V := match σ[j]? with
  | some (some v) => v
  | _ => .non
theorem Rel.hide (U : List Nat) {K : Fr} {ρ : En} {h : Hs} {σ : L2.St} {H G : Hp} {w : Wn} (R : Rel K ρ h σ H G w) : Rel K (hideE U (valAt σ) 0 ρ) [] σ H G noW where
  sub := R.sub
  off := fun q a e => by cases e
  inj := fun q q' a e => by cases e
  len := by rw [hideE_len]; exact R.len
  env := fun i s e => by
    rw [hideE_get] at e
    obtain ⟨s0, e0, rfl⟩ := Option.map_eq_some_iff.mp e
    rw [Nat.zero_add]
    have r := R.env i s0 e0
    have key : ∀ v, σ[i]? = some (some v) → valAt σ i = v := fun v hv => by unfold valAt; rw [hv]
    by_cases hu : i ∈ U
    · simp only [hu, if_true]
      cases s0 with
      | un => exact rfl
      | own ts => exact rfl
      | dic kvs => exact rfl
      | fix v t => exact ⟨rfl, v, r.2.1, r.2.2⟩
      | pin v => exact rfl
      | val d =>
        obtain ⟨h1, v, h2, h3⟩ := r
        cases d with
        | dat t => exact ⟨rfl, v, h2, h3⟩
        | obj n => exact rfl
        | scr ns => exact rfl
    simp only [hu, if_false]
    cases s0 with
    | un => exact rfl
    | own ts =>
      obtain ⟨a, vs, h1, h2, h3, h4⟩ := r
      exact ⟨rfl, by rw [key _ h2]; exact h2⟩
    | dic kvs =>
      obtain ⟨a, vs, h1, h2, h3, h4⟩ := r
      exact ⟨rfl, by rw [key _ h2]; exact h2⟩
    | fix v t => exact ⟨rfl, r.2.1, r.2.2⟩
    | pin v => exact ⟨rfl, r.2⟩
    | val d =>
      obtain ⟨h1, v, h2, h3⟩ := r
      cases d with
      | dat t => exact ⟨rfl, by rw [key _ h2]; exact h2, by rw [key _ h2]; exact h3⟩
      | obj n => exact ⟨rfl, by rw [key _ h2]; exact h2⟩
      | scr ns => exact ⟨rfl, by rw [key _ h2]; exact h2⟩
  env0 := fun _ _ => rfl
  obs := fun n o e => by simp at e
  obs0 := fun _ _ => ⟨rfl, fun _ => rfl⟩
def unW (U Kp : List Nat) (w w' : Wn) : Wn := fun q => match q with
  | .s j => if j ∈ U then (if j ∈ Kp then w' (.s j) else none) else w (.s j)
  | q => w q
theorem unW_some {U Kp : List Nat} {w w' : Wn} {q : Ow} {a : Addr} (h : unW U Kp w w' q = some a) : (∃ j, q = .s j ∧ j ∈ U ∧ w' (.s j) = some a) ∨ w q = some a := by
  cases q with
  | s j =>
    unfold unW at h
    dsimp only at h
    split at h
    · rename_i hj
      split at h
      · exact .inl ⟨j, rfl, hj, h⟩
      · cases h
    · exact .inr h
  | o n => exact .inr h
  | f n k => exact .inr h
/-- what was hidden is seen again -/
theorem Rel.unhide {K : Fr} {U : List Nat} (Kp : List Nat) {ρ ρ' : En} {h h' : Hs} {σ σ' : L2.St} {H G H' G' : Hp} {w w' : Wn} (R : Rel K ρ h σ H G w) (R' : Rel K ρ' h' σ' H' G' w') (t : Tr G H noW G' H' w') (ho : offE U 0 ρ' = offE U 0 (hideE U (valAt σ) 0 ρ)) :
    Rel K (outE U Kp 0 ρ ρ') h σ' H' G' (unW U Kp w w') ∧ Tr G H w G' H' (unW U Kp w w') := by
  have hl : ρ'.length = ρ.length := by
    have := congrArg List.length ho
    rwa [offE_len, offE_len, hideE_len] at this
  have hold : ∀ q a, w q = some a → H' a = H a ∧ G' a = none ∧ ∀ q', w' q' ≠ some a := fun q a e => by
    obtain ⟨o, h1, h2⟩ := R.there2 e
    obtain ⟨k1, k2, k3⟩ := t.hold h1 (R.off q a e) (fun q z => by cases z) h2
    exact ⟨k1.trans h1.symm, k2, k3⟩
  have hsame : ∀ q, (∀ j, q = .s j → j ∉ U) → unW U Kp w w' q = w q := fun q hq => by
    cases q with
    | s j => unfold unW; dsimp only; rw [if_neg (hq j rfl)]
    | o n => rfl
    | f n k => rfl
  refine ⟨⟨R'.sub, fun q a e => ?_, fun q q' a e e' => ?_, ?_, fun j s hs => ?_, fun j hj => ?_, fun n o hn => ?_, R.obs0⟩, ⟨t.gm, fun b o e hq => t.fr b o e fun q z => (by cases z), fun b z => ?_, fun q b z => ?_, fun n a e => e⟩⟩
  · rcases unW_some e with ⟨j, rfl, _, e⟩ | e
    · exact R'.off _ _ e
    · exact (hold q a e).2.1
  · rcases unW_some e with ⟨j, rfl, hj, e1⟩ | e1
    · rcases unW_some e' with ⟨i, rfl, hi, e2⟩ | e2
      · exact R'.inj _ _ _ e1 e2
      · exact absurd e1 ((hold q' a e2).2.2 _)
    · rcases unW_some e' with ⟨i, rfl, hi, e2⟩ | e2
      · exact absurd e2 ((hold q a e1).2.2 _)
      · exact R.inj _ _ _ e1 e2
  · rw [outE_len U Kp 0 ρ ρ' hl.symm, ← hl]
    exact R'.len
  · rcases outE_get U Kp 0 ρ ρ' j s hs with ⟨hj, hp, s', hs', rfl⟩ | ⟨hj, hp, rfl⟩ | ⟨hj, hs⟩
    · rw [Nat.zero_add] at hj hp
      have r := R'.env j s' hs'
      have ew : unW U Kp w w' (.s j) = w' (.s j) := by unfold unW; dsimp only; rw [if_pos hj, if_pos hp]
      cases s' with
      | un => exact ew.trans r
      | own ts =>
        obtain ⟨a, vs, h1, h2, h3, h4⟩ := r
        exact ⟨a, vs, ew.trans h1, h2, h3, h4⟩
      | dic kvs =>
        obtain ⟨a, vs, h1, h2, h3, h4⟩ := r
        exact ⟨a, vs, ew.trans h1, h2, h3, h4⟩
      | fix v t => exact ew.trans r.1
      | pin v => exact ew.trans r.1
      | val d =>
        obtain ⟨h1, v, h2, h3⟩ := r
        cases d with
        | dat t => exact ⟨ew.trans h1, v, h2, h3⟩
        | obj n => exact ew.trans h1
        | scr ns => exact ew.trans h1
    · rw [Nat.zero_add] at hj hp
      show unW U Kp w w' (.s j) = none
      unfold unW
      dsimp only
      rw [if_pos hj, if_neg hp]
    · rw [Nat.zero_add] at hj
      have r := R.env j s hs
      have ew : unW U Kp w w' (.s j) = w (.s j) := by unfold unW; dsimp only; rw [if_neg hj]
      have e1 : ρ'[j]? = some (hideS (valAt σ j) s) := by
        rw [← offE_get U 0 ρ' j (by rwa [Nat.zero_add]), ho, offE_get U 0 _ j (by rwa [Nat.zero_add]), hideE_get, hs, Nat.zero_add]
        simp [hj]
      have r' := R'.env j _ e1
      have key : ∀ v, σ[j]? = some (some v) → valAt σ j = v := fun v hv => by unfold valAt; rw [hv]
      have es : s ≠ .un → σ'[j]? = σ[j]? := fun hu => by
        cases s with
        | un => exact absurd rfl hu
        | own ts =>
          obtain ⟨a, vs, h1, h2, h3, h4⟩ := r
          rw [h2]
          rw [key _ h2] at r'
          exact r'.2
        | dic kvs =>
          obtain ⟨a, vs, h1, h2, h3, h4⟩ := r
          rw [h2]
          rw [key _ h2] at r'
          exact r'.2
        | fix v t => rw [r.2.1]; exact r'.2.1
        | pin v => rw [r.2]; exact r'.2
        | val d =>
          obtain ⟨h1, v, h2, h3⟩ := r
          rw [h2]
          cases d with
          | dat t => rw [key _ h2] at r'; exact r'.2.1
          | obj n => rw [key _ h2] at r'; exact r'.2
          | scr ns => rw [key _ h2] at r'; exact r'.2
      by_cases hu : s = .un
      · subst hu
        exact ew.trans r
      · rw [es hu]
        exact SlotR.mono (w := w) (H := H) t.gm ew (fun n a e => e) (fun a e => (hold _ a e).1) r
  · have h1 : j ∉ U ∨ j ∈ U := Classical.em _ |>.symm
    rw [outE_len U Kp 0 ρ ρ' hl.symm] at hj
    unfold unW
    dsimp only
    split
    · split
      · exact R'.env0 j (by rw [hl]; exact hj)
      · rfl
    · exact R.env0 j hj
  · exact ObjR.mono (w := w) (H := H) t.gm rfl (fun _ => rfl) (fun a e => (hold _ a e).1) (fun k a e => (hold _ a e).1) (R.obs n o hn)
  · rcases t.gn b z with y | y | ⟨q, y⟩ | y
    · exact .inl y
    · exact .inr (.inl y)
    · cases y
    · exact .inr (.inr (.inr y))
  · rcases unW_some z with ⟨j, rfl, _, z⟩ | z
    · rcases t.wn _ b z with ⟨q', y⟩ | y
      · cases y
      · exact .inr y
    · exact .inl ⟨q, z⟩
/-! what is walked: a list that may be one's own -/
def rpH (K : Fr) : Rp (List T) It := fun _ _ _ _ ts J H G _ => ts.length ≤ sizeLine ∧ Walk J ts.length (fun H' => Same H H') (ItY ts G)
theorem rpH_m {K : Fr} : RpM (rpH K) := fun _ _ _ _ _ _ _ _ _ _ _ _ _ _ h => h
abbrev SIH (X : Cx) (E : XK) (tg e : Expr) (f : FL) : Prop := PI X tg e (tX X.K E (rpH X.K) f)
def fPk (f : FT) : FL := fun ρ h => (f ρ h).bind fun t h => match t with
  | .list ts => .ok ts h
  | _ => .bad
def fZipP (l : FL) : FL := fun ρ h => (l ρ h).bind fun us h => match us with
  | [.list ts, .list us] => .ok (zipT ts us) h
  | _ => .bad
def ForOk (U Kp : List Nat) (gt : Tgt) (fb : FS) (ts : List T) (ρ ρo : En) : Prop := ∀ τ : Nat → V, ∃ ρ' h', forL gt fb ts (hideE U τ 0 ρ) [] = .ok (.next ρ') h' ∧ offE U 0 ρ' = offE U 0 (hideE U τ 0 ρ) ∧ outE U Kp 0 ρ ρ' = ρo
open Classical in
noncomputable def forH (U Kp : List Nat) (gt : Tgt) (fb : FS) (ts : List T) : FS := fun ρ h => if H : ∃ ρo, ForOk U Kp gt fb ts ρ ρo then .ok (.next H.choose) h else .bad
noncomputable def fForH (U Kp : List Nat) (gt : Tgt) (fi : FL) (fb : FS) : FS := fun ρ h => (fi ρ h).bind fun ts h => forH U Kp gt fb ts ρ h
theorem forH_of {U Kp : List Nat} {gt : Tgt} {fb : FS} {ts : List T} {ρ ρo : En} (h : Hs) (hk : ForOk U Kp gt fb ts ρ ρo) : forH U Kp gt fb ts ρ h = .ok (.next ρo) h := by
  have hex : ∃ ρo, ForOk U Kp gt fb ts ρ ρo := ⟨ρo, hk⟩
  unfold forH
  rw [dif_pos hex]
  obtain ⟨ρ1, h1, e1, _, e2⟩ := hk fun _ => .non
  obtain ⟨ρ2, h2, e3, _, e4⟩ := hex.choose_spec fun _ => .non
  rw [e1] at e3
  cases e3
  rw [← e4, e2]
section
variable {X : Cx} {E : XK} {tg iter e a b c : Expr} {body sts : List Stmt} {pos p : Pos} {fi : FL} {fb : FS} {gt : Tgt} {g : TG} {is : List Nat} {fa : FT} {es : List Expr}
theorem sih_pk (h : SO X E e fa) : SIH X E tg e (fPk fa) := by
  refine pi_imp (pi_len (pi_list (tg := tg) h)) fun σ H R hw => tX_bind (f := fa) rpH_m hw fun ρ t h1 v H1 G0 G1 w0 w1 R1 T1 r1 W1 => ?_
  cases t with
  | list ts =>
    obtain ⟨q, vs, rfl, g1, g2⟩ := (r1 _ _ _ _ R1 (Same.refl _)).list R1.sub
    refine ⟨q, rfl, ⟨vs, SqL.of g1⟩, fun lo => W1.fin0 R1 ⟨by rw [← g2.length]; exact lo.1 _ _ (SqL.of g1), ?_⟩⟩
    have w := walk_list (K := X.K) (a := q) (xs := vs)
    rw [g2.length] at w
    refine w.mono (fun H s => SqL.of (s _ _ g1)) fun i H x H' hi s y => ?_
    obtain ⟨e, hx⟩ := y
    obtain ⟨t, ht, r⟩ := g2.getV hx
    exact ⟨t, ht, .inl ⟨e, r⟩⟩
  | _ => exact W1.elim
theorem sih_zip {x : Str} {elts : List Expr} {kk : Nat} {tpos : Pos} {l : FL} (hx : x = "zip") (hg : Gl X x) (hm : X.mg x = none) (ha : SOs X E [a, b] l) (hs3 : starEach [a, b] X.env = (false, eval a X.env) :: starEach [b] X.env := by rfl) (hpl : (backTo pos (starEach [b] X.env)).any (·.1) = false := by rfl) :
    SIH X E (.Tuple elts kk tpos) (.Call (.Name x p) [a, b] [] pos) (fZipP l) := by
  subst hx
  refine pi_imp (pi_zip hg hm (pa_len ha) hs3 hpl) fun σ H R hw => tX_bind (f := l) rpH_m hw fun ρ us h1 vv H1 G0 G1 w0 w1 R1 T1 r1 W1 => ?_
  intro lo
  replace r1 := r1 _ _ _ _ R1 (Same.refl _)
  have key : ∃ ts us', us = [.list ts, .list us'] := by
    split at W1
    · exact ⟨_, _, rfl⟩
    · exact W1.elim
  obtain ⟨ts, us', rfl⟩ := key
  · cases r1 with
    | cons ra rb =>
      cases rb with
      | cons rb rc =>
        cases rc
        obtain ⟨q, vs, rfl, h1, h2⟩ := ra.list R1.sub
        obtain ⟨q2, vs2, rfl, h3, h4⟩ := rb.list R1.sub
        have hl : (zipT ts us').length = min vs.length vs2.length := by
          unfold zipT
          rw [List.length_map, List.length_zip, h2.length, h4.length]
        have hlo := lo.1 _ _ (SqL.of h1)
        refine ⟨q, q2, vs, vs2, rfl, SqL.of h1, SqL.of h3, W1.fin0 R1 ⟨by rw [hl]; omega, ?_⟩⟩
        refine (walk_zip (K := X.K) (a := q) (b := q2) (xs := vs) (ys := vs2) hl).mono (fun H s => ⟨SqL.of (s _ _ h1), SqL.of (s _ _ h3)⟩) fun i H x H' hi s y => ?_
        obtain ⟨p, x1, x2, e1, e2, e3, e4, e5⟩ := y
        obtain ⟨t, ht, r⟩ := h2.getV e4
        obtain ⟨u, hu, r'⟩ := h4.getV e5
        refine ⟨.tuple [t, u], ?_, .inr ⟨p, _, x2, _, u, e1, e2, e3, rfl, r, r'⟩⟩
        unfold zipT
        rw [List.getElem?_map, show (ts.zip us')[i]? = some (t, u) from List.getElem?_zip_eq_some.mpr ⟨ht, hu⟩]
        rfl
theorem ss_forH {U Kp : List Nat} (hp : PassesOwn (model X.prog X.w) X.A X.env X.xe) (hc : X.calm = true) (hi : SIH X E tg iter fi) (tk : TgOk X.K is gt g) (hg : PG X tg g) (hb : SSs X E body fb) (hs : ∀ x, foldedSetIterable iter X.env x = pure x := by intro _; rfl) : SS X E (.For tg iter body [] pos) (fForH U Kp gt fi fb) :=
  ps_imp (ps_for hp hc hi hg hb hs) fun D σ H hw => tS_bind (f := fi) hw fun ρ ts h1 J H1 G0 G1 w0 w1 R1 T1 r1 W1 => by
    unfold forH at W1
    split at W1
    · rename_i hex
      obtain ⟨ρe, he, e1, e2, e3⟩ := hex.choose_spec (valAt σ)
      let D' : Ends := { D with nx := fun σ' H' => ∃ G' w', Rel X.K ρe he σ' H' G' w' ∧ Tr G1 H1 noW G' H' w' }
      refine for_it r1.2 (fun k σ' H' => ∃ ρk hk Gk wk, Rel X.K ρk hk σ' H' Gk wk ∧ Tr G1 H1 noW Gk H' wk ∧ WishS X.K E (forL gt fb (ts.drop k) ρk hk) H' Gk wk D') ⟨hideE U (valAt σ) 0 ρ, [], G1, noW, R1.hide U, Tr.refl, ?_⟩ ?_ ?_ ?_
      · rw [List.drop_zero, e1]
        exact fun σ' H' G' w' R' T' => ⟨G', w', R', T'⟩
      · rintro k σ' H' _ ⟨ρk, hk, Gk, wk, Rk, Tk, _⟩
        exact Tk.lent
      · rintro k x σ' H' H'' hk ⟨ρk, hk', Gk, wk, Rk, Tk, Wk⟩ y
        obtain ⟨t, G'', ht, hn, rx⟩ := ity_new Tk.gm Rk.sub y
        have hd : ts.drop k = t :: ts.drop (k + 1) := by
          rw [List.drop_eq_getElem_cons hk]
          congr 1
          have := List.getElem?_eq_getElem hk
          rw [ht] at this
          exact (Option.some.inj this).symm
        rw [hd, forL] at Wk
        dsimp only at Wk
        cases hgt : gt t ρk with
        | none => rw [hgt] at Wk; exact Wk.elim
        | some ρ1 =>
          rw [hgt] at Wk
          dsimp only [fSeq] at Wk
          obtain ⟨R2, T2⟩ := Rk.new hn
          refine tk.run _ ρ1 hk' _ _ _ _ t x _ R2 rx hgt fun σ2 w2 R3 T3 _ _ _ => ⟨ρ1, hk', G'', w2, R3, ?_⟩
          have Wk := Wk.mono (T2.trans T3)
          have T4 := Tk.trans (T2.trans T3)
          cases hf : fb ρ1 hk' with
          | bad => rw [hf] at Wk; exact Wk
          | exc x h' => rw [hf] at Wk; exact Wk
          | ok o h' =>
            rw [hf] at Wk
            cases o with
            | ret r => exact Wk
            | next ρ2 => exact fun σ3 H3 G3 w3 R4 T5 => ⟨ρ2, h', G3, w3, R4, T4.trans T5, Wk.mono T5⟩
      · rintro σ' H' ⟨ρk, hk, Gk, wk, Rk, Tk, Wk⟩
        rw [List.drop_length, forL] at Wk
        obtain ⟨G', w', R', T'⟩ := Wk _ _ _ _ Rk Tr.refl
        obtain ⟨R2, T2⟩ := R1.unhide Kp R' T' e2
        rw [e3] at R2
        exact W1 _ _ _ _ R2 T2
    · exact W1.elim
end
end Pf
set_option Elab.async false
set_option linter.all false
set_option maxRecDepth 100000
set_option maxHeartbeats 2000000
/-! ### the combinators, applied: for simp -/
namespace Pf
open PySem
-- printed by gen_ev.py
@[simp] theorem ev_fC (t : T) (ρ : En) (h : Hs) : fC t ρ h = (.ok (.dat t) h) := rfl
@[simp] theorem ev_fV (i : Nat) (ρ : En) (h : Hs) : fV i ρ h = (match ρ[i]? with
  | some (.val d) => .ok d h
  | some (.fix _ t) => .ok (.dat t) h
  | _ => .bad) := rfl
@[simp] theorem ev_fP (i : Nat) (ρ : En) (h : Hs) : fP i ρ h = (match ρ[i]? with
  | some (.val (.dat t)) => .ok t h
  | some (.own ts) => .ok (.list ts) h
  | some (.fix _ t) => .ok t h
  | _ => .bad) := rfl
def kOp2b (g : T → T → Option T) (x : T) : T → Hs → Res D := fun y h => lift h ((g x y).map D.dat)
@[simp] theorem kOp2b_ap (g : T → T → Option T) (x : T) (y : T) (h : Hs) : kOp2b g x y h = (lift h ((g x y).map D.dat)) := rfl
def kOp2 (g : T → T → Option T) (fb : FT) (ρ : En) : T → Hs → Res D := fun x h => (fb ρ h).bind (kOp2b g x)
@[simp] theorem kOp2_ap (g : T → T → Option T) (fb : FT) (ρ : En) (x : T) (h : Hs) : kOp2 g fb ρ x h = ((fb ρ h).bind (kOp2b g x)) := rfl
@[simp] theorem ev_fOp2 (g : T → T → Option T) (fa : FT) (fb : FT) (ρ : En) (h : Hs) : fOp2 g fa fb ρ h = ((fa ρ h).bind (kOp2 g fb ρ)) := rfl
def kCmpb (g : T → T → Option Bool) (x : T) : T → Hs → Res Bool := fun y h => lift h (g x y)
@[simp] theorem kCmpb_ap (g : T → T → Option Bool) (x : T) (y : T) (h : Hs) : kCmpb g x y h = (lift h (g x y)) := rfl
def kCmp (g : T → T → Option Bool) (fb : FT) (ρ : En) : T → Hs → Res Bool := fun x h => (fb ρ h).bind (kCmpb g x)
@[simp] theorem kCmp_ap (g : T → T → Option Bool) (fb : FT) (ρ : En) (x : T) (h : Hs) : kCmp g fb ρ x h = ((fb ρ h).bind (kCmpb g x)) := rfl
@[simp] theorem ev_fCmp (g : T → T → Option Bool) (fa : FT) (fb : FT) (ρ : En) (h : Hs) : fCmp g fa fb ρ h = ((fa ρ h).bind (kCmp g fb ρ)) := rfl
def kBE  : Bool → Hs → Res D := fun b h => .ok (.dat (.bool b)) h
@[simp] theorem kBE_ap  (b : Bool) (h : Hs) : kBE  b h = (.ok (.dat (.bool b)) h) := rfl
@[simp] theorem ev_fBE (f : FB) (ρ : En) (h : Hs) : fBE f ρ h = ((f ρ h).bind kBE) := rfl
def kEB  : D → Hs → Res Bool := fun d h => match d with
  | .dat (.bool b) => .ok b h
  | _ => .bad
@[simp] theorem kEB_ap  (d : D) (h : Hs) : kEB  d h = (match d with
  | .dat (.bool b) => .ok b h
  | _ => .bad) := rfl
@[simp] theorem ev_fEB (f : FE) (ρ : En) (h : Hs) : fEB f ρ h = ((f ρ h).bind kEB) := rfl
def kCh3 (g' : T → T → Option Bool) (y : T) : T → Hs → Res Bool := fun z h => lift h (g' y z)
@[simp] theorem kCh3_ap (g' : T → T → Option Bool) (y : T) (z : T) (h : Hs) : kCh3 g' y z h = (lift h (g' y z)) := rfl
def kCh2 (g' : T → T → Option Bool) (fc : FT) (ρ : En) (y : T) : Bool → Hs → Res Bool := fun r h => match r with
  | true => (fc ρ h).bind (kCh3 g' y)
  | false => .ok false h
@[simp] theorem kCh2_ap (g' : T → T → Option Bool) (fc : FT) (ρ : En) (y : T) (r : Bool) (h : Hs) : kCh2 g' fc ρ y r h = (match r with
  | true => (fc ρ h).bind (kCh3 g' y)
  | false => .ok false h) := rfl
def kCh1 (g : T → T → Option Bool) (g' : T → T → Option Bool) (fc : FT) (ρ : En) (x : T) : T → Hs → Res Bool := fun y h => (lift h (g x y)).bind (kCh2 g' fc ρ y)
@[simp] theorem kCh1_ap (g : T → T → Option Bool) (g' : T → T → Option Bool) (fc : FT) (ρ : En) (x : T) (y : T) (h : Hs) : kCh1 g g' fc ρ x y h = ((lift h (g x y)).bind (kCh2 g' fc ρ y)) := rfl
def kCh0 (g : T → T → Option Bool) (g' : T → T → Option Bool) (fb : FT) (fc : FT) (ρ : En) : T → Hs → Res Bool := fun x h => (fb ρ h).bind (kCh1 g g' fc ρ x)
@[simp] theorem kCh0_ap (g : T → T → Option Bool) (g' : T → T → Option Bool) (fb : FT) (fc : FT) (ρ : En) (x : T) (h : Hs) : kCh0 g g' fb fc ρ x h = ((fb ρ h).bind (kCh1 g g' fc ρ x)) := rfl
@[simp] theorem ev_fChain (g : T → T → Option Bool) (g' : T → T → Option Bool) (fa : FT) (fb : FT) (fc : FT) (ρ : En) (h : Hs) : fChain g g' fa fb fc ρ h = ((fa ρ h).bind (kCh0 g g' fb fc ρ)) := rfl
def kC35 (g'' : T → T → Option Bool) (z : T) : T → Hs → Res Bool := fun u h => lift h (g'' z u)
@[simp] theorem kC35_ap (g'' : T → T → Option Bool) (z : T) (u : T) (h : Hs) : kC35 g'' z u h = (lift h (g'' z u)) := rfl
def kC34 (g'' : T → T → Option Bool) (fd : FT) (ρ : En) (z : T) : Bool → Hs → Res Bool := fun r h => match r with
  | true => (fd ρ h).bind (kC35 g'' z)
  | false => .ok false h
@[simp] theorem kC34_ap (g'' : T → T → Option Bool) (fd : FT) (ρ : En) (z : T) (r : Bool) (h : Hs) : kC34 g'' fd ρ z r h = (match r with
  | true => (fd ρ h).bind (kC35 g'' z)
  | false => .ok false h) := rfl
def kC33 (g' : T → T → Option Bool) (g'' : T → T → Option Bool) (fd : FT) (ρ : En) (y : T) : T → Hs → Res Bool := fun z h => (lift h (g' y z)).bind (kC34 g'' fd ρ z)
@[simp] theorem kC33_ap (g' : T → T → Option Bool) (g'' : T → T → Option Bool) (fd : FT) (ρ : En) (y : T) (z : T) (h : Hs) : kC33 g' g'' fd ρ y z h = ((lift h (g' y z)).bind (kC34 g'' fd ρ z)) := rfl
def kC32 (g' : T → T → Option Bool) (g'' : T → T → Option Bool) (fc : FT) (fd : FT) (ρ : En) (y : T) : Bool → Hs → Res Bool := fun r h => match r with
  | true => (fc ρ h).bind (kC33 g' g'' fd ρ y)
  | false => .ok false h
@[simp] theorem kC32_ap (g' : T → T → Option Bool) (g'' : T → T → Option Bool) (fc : FT) (fd : FT) (ρ : En) (y : T) (r : Bool) (h : Hs) : kC32 g' g'' fc fd ρ y r h = (match r with
  | true => (fc ρ h).bind (kC33 g' g'' fd ρ y)
  | false => .ok false h) := rfl
def kC31 (g : T → T → Option Bool) (g' : T → T → Option Bool) (g'' : T → T → Option Bool) (fc : FT) (fd : FT) (ρ : En) (x : T) : T → Hs → Res Bool := fun y h => (lift h (g x y)).bind (kC32 g' g'' fc fd ρ y)
@[simp] theorem kC31_ap (g : T → T → Option Bool) (g' : T → T → Option Bool) (g'' : T → T → Option Bool) (fc : FT) (fd : FT) (ρ : En) (x : T) (y : T) (h : Hs) : kC31 g g' g'' fc fd ρ x y h = ((lift h (g x y)).bind (kC32 g' g'' fc fd ρ y)) := rfl
def kC30 (g : T → T → Option Bool) (g' : T → T → Option Bool) (g'' : T → T → Option Bool) (fb : FT) (fc : FT) (fd : FT) (ρ : En) : T → Hs → Res Bool := fun x h => (fb ρ h).bind (kC31 g g' g'' fc fd ρ x)
@[simp] theorem kC30_ap (g : T → T → Option Bool) (g' : T → T → Option Bool) (g'' : T → T → Option Bool) (fb : FT) (fc : FT) (fd : FT) (ρ : En) (x : T) (h : Hs) : kC30 g g' g'' fb fc fd ρ x h = ((fb ρ h).bind (kC31 g g' g'' fc fd ρ x)) := rfl
@[simp] theorem ev_fChain3 (g : T → T → Option Bool) (g' : T → T → Option Bool) (g'' : T → T → Option Bool) (fa : FT) (fb : FT) (fc : FT) (fd : FT) (ρ : En) (h : Hs) : fChain3 g g' g'' fa fb fc fd ρ h = ((fa ρ h).bind (kC30 g g' g'' fb fc fd ρ)) := rfl
def kAnd (fb : FB) (ρ : En) : Bool → Hs → Res Bool := fun b h => match b with
  | true => fb ρ h
  | false => .ok false h
@[simp] theorem kAnd_ap (fb : FB) (ρ : En) (b : Bool) (h : Hs) : kAnd fb ρ b h = (match b with
  | true => fb ρ h
  | false => .ok false h) := rfl
@[simp] theorem ev_fAnd (fa : FB) (fb : FB) (ρ : En) (h : Hs) : fAnd fa fb ρ h = ((fa ρ h).bind (kAnd fb ρ)) := rfl
def kOr (fb : FB) (ρ : En) : Bool → Hs → Res Bool := fun b h => match b with
  | true => .ok true h
  | false => fb ρ h
@[simp] theorem kOr_ap (fb : FB) (ρ : En) (b : Bool) (h : Hs) : kOr fb ρ b h = (match b with
  | true => .ok true h
  | false => fb ρ h) := rfl
@[simp] theorem ev_fOr (fa : FB) (fb : FB) (ρ : En) (h : Hs) : fOr fa fb ρ h = ((fa ρ h).bind (kOr fb ρ)) := rfl
def kNot  : Bool → Hs → Res Bool := fun b h => .ok (!b) h
@[simp] theorem kNot_ap  (b : Bool) (h : Hs) : kNot  b h = (.ok (!b) h) := rfl
@[simp] theorem ev_fNot (fa : FB) (ρ : En) (h : Hs) : fNot fa ρ h = ((fa ρ h).bind kNot) := rfl
def kIf {α : Type} (fa fb : En → Hs → Res α) (ρ : En) : Bool → Hs → Res α := fun b h => match b with
  | true => fa ρ h
  | false => fb ρ h
@[simp] theorem kIf_t {α : Type} (fa fb : En → Hs → Res α) (ρ : En) (h : Hs) : kIf fa fb ρ true h = fa ρ h := rfl
@[simp] theorem kIf_f {α : Type} (fa fb : En → Hs → Res α) (ρ : En) (h : Hs) : kIf fa fb ρ false h = fb ρ h := rfl
@[simp] theorem ev_fIf {α : Type} (fc : FB) (fa fb : En → Hs → Res α) (ρ : En) (h : Hs) : fIf fc fa fb ρ h = (fc ρ h).bind (kIf fa fb ρ) := rfl
@[simp] theorem ev_fIfS (c : FB) (f g : FS) (ρ : En) (h : Hs) : fIfS c f g ρ h = (c ρ h).bind (kIf f g ρ) := rfl
def kO  : D → Hs → Res T := fun d h => match d with
  | .dat t => .ok t h
  | _ => .bad
@[simp] theorem kO_ap  (d : D) (h : Hs) : kO  d h = (match d with
  | .dat t => .ok t h
  | _ => .bad) := rfl
@[simp] theorem ev_toO (f : FE) (ρ : En) (h : Hs) : toO f ρ h = ((f ρ h).bind kO) := rfl
def kR  : D → Hs → Res Ret := fun d h => .ok (.val d) h
@[simp] theorem kR_ap  (d : D) (h : Hs) : kR  d h = (.ok (.val d) h) := rfl
@[simp] theorem ev_toR (f : FE) (ρ : En) (h : Hs) : toR f ρ h = ((f ρ h).bind kR) := rfl
def kD  : Ret → Hs → Res D := fun r h => match r with
  | .val d => .ok d h
  | .own ts => .ok (.dat (.list ts)) h
@[simp] theorem kD_ap  (r : Ret) (h : Hs) : kD  r h = (match r with
  | .val d => .ok d h
  | .own ts => .ok (.dat (.list ts)) h) := rfl
@[simp] theorem ev_ofR (f : FR) (ρ : En) (h : Hs) : ofR f ρ h = ((f ρ h).bind kD) := rfl
def kCons {α : Type} (d : α) : List α → Hs → Res (List α) := fun ds h => .ok (d :: ds) h
@[simp] theorem kCons_ap {α : Type} (d : α) (ds : List α) (h : Hs) : kCons d ds h = .ok (d :: ds) h := rfl
def kAC (g : FA) (ρ : En) : D → Hs → Res (List D) := fun d h => (g ρ h).bind (kCons d)
@[simp] theorem kAC_ap (g : FA) (ρ : En) (d : D) (h : Hs) : kAC g ρ d h = ((g ρ h).bind (kCons d)) := rfl
@[simp] theorem ev_fACons (f : FE) (g : FA) (ρ : En) (h : Hs) : fACons f g ρ h = ((f ρ h).bind (kAC g ρ)) := rfl
@[simp] theorem ev_fANil  (ρ : En) (h : Hs) : fANil  ρ h = (.ok [] h) := rfl
def kLC (g : FL) (ρ : En) : T → Hs → Res (List T) := fun d h => (g ρ h).bind (kCons d)
@[simp] theorem kLC_ap (g : FL) (ρ : En) (d : T) (h : Hs) : kLC g ρ d h = ((g ρ h).bind (kCons d)) := rfl
@[simp] theorem ev_fLCons (f : FT) (g : FL) (ρ : En) (h : Hs) : fLCons f g ρ h = ((f ρ h).bind (kLC g ρ)) := rfl
@[simp] theorem ev_fLNil  (ρ : En) (h : Hs) : fLNil  ρ h = (.ok [] h) := rfl
def kRC (g : FRs) (ρ : En) : Ret → Hs → Res (List Ret) := fun d h => (g ρ h).bind (kCons d)
@[simp] theorem kRC_ap (g : FRs) (ρ : En) (d : Ret) (h : Hs) : kRC g ρ d h = ((g ρ h).bind (kCons d)) := rfl
@[simp] theorem ev_fRCons (f : FR) (g : FRs) (ρ : En) (h : Hs) : fRCons f g ρ h = ((f ρ h).bind (kRC g ρ)) := rfl
@[simp] theorem ev_fRNil  (ρ : En) (h : Hs) : fRNil  ρ h = (.ok [] h) := rfl
def kTup  : (List D) → Hs → Res D := fun ds h => match dats ds with
  | some ts => if ts.length ≤ 1000 then .ok (.dat (.tuple ts)) h else .bad
  | none => .bad
@[simp] theorem kTup_ap  (ds : (List D)) (h : Hs) : kTup  ds h = (match dats ds with
  | some ts => if ts.length ≤ 1000 then .ok (.dat (.tuple ts)) h else .bad
  | none => .bad) := rfl
@[simp] theorem ev_fTup (f : FA) (ρ : En) (h : Hs) : fTup f ρ h = ((f ρ h).bind kTup) := rfl
def kLst  : (List D) → Hs → Res Ret := fun ds h => match dats ds with
  | some ts => if ts.length ≤ 1000 then .ok (.own ts) h else .bad
  | none => .bad
@[simp] theorem kLst_ap  (ds : (List D)) (h : Hs) : kLst  ds h = (match dats ds with
  | some ts => if ts.length ≤ 1000 then .ok (.own ts) h else .bad
  | none => .bad) := rfl
@[simp] theorem ev_fLst (f : FA) (ρ : En) (h : Hs) : fLst f ρ h = ((f ρ h).bind kLst) := rfl
@[simp] theorem ev_fPN  (ρ : En) (h : Hs) : fPN  ρ h = (.ok none h) := rfl
def kPS  : T → Hs → Res (Option Int) := fun t h => match t with
  | .int i => .ok (some i) h
  | _ => .bad
@[simp] theorem kPS_ap  (t : T) (h : Hs) : kPS  t h = (match t with
  | .int i => .ok (some i) h
  | _ => .bad) := rfl
@[simp] theorem ev_fPS (f : FT) (ρ : En) (h : Hs) : fPS f ρ h = ((f ρ h).bind kPS) := rfl
def kSl2 (x : T) (l : Option Int) : (Option Int) → Hs → Res D := fun u h => lift h ((slT x l u).map D.dat)
@[simp] theorem kSl2_ap (x : T) (l : Option Int) (u : (Option Int)) (h : Hs) : kSl2 x l u h = (lift h ((slT x l u).map D.dat)) := rfl
def kSl1 (hi : FP) (ρ : En) (x : T) : (Option Int) → Hs → Res D := fun l h => (hi ρ h).bind (kSl2 x l)
@[simp] theorem kSl1_ap (hi : FP) (ρ : En) (x : T) (l : (Option Int)) (h : Hs) : kSl1 hi ρ x l h = ((hi ρ h).bind (kSl2 x l)) := rfl
def kSl0 (lo : FP) (hi : FP) (ρ : En) : T → Hs → Res D := fun x h => (lo ρ h).bind (kSl1 hi ρ x)
@[simp] theorem kSl0_ap (lo : FP) (hi : FP) (ρ : En) (x : T) (h : Hs) : kSl0 lo hi ρ x h = ((lo ρ h).bind (kSl1 hi ρ x)) := rfl
@[simp] theorem ev_fSl (fa : FT) (lo : FP) (hi : FP) (ρ : En) (h : Hs) : fSl fa lo hi ρ h = ((fa ρ h).bind (kSl0 lo hi ρ)) := rfl
def kRev  : T → Hs → Res D := fun x h => match x with
  | .list ts => .ok (.dat (.list ts.reverse)) h
  | _ => .bad
@[simp] theorem kRev_ap  (x : T) (h : Hs) : kRev  x h = (match x with
  | .list ts => .ok (.dat (.list ts.reverse)) h
  | _ => .bad) := rfl
@[simp] theorem ev_fRev (fa : FT) (ρ : En) (h : Hs) : fRev fa ρ h = ((fa ρ h).bind kRev) := rfl
def kCB (g : List T → Option T) : (List T) → Hs → Res D := fun ts h => lift h ((g ts).map D.dat)
@[simp] theorem kCB_ap (g : List T → Option T) (ts : (List T)) (h : Hs) : kCB g ts h = (lift h ((g ts).map D.dat)) := rfl
@[simp] theorem ev_fCB (g : List T → Option T) (f : FL) (ρ : En) (h : Hs) : fCB g f ρ h = ((f ρ h).bind (kCB g)) := rfl
def kLo  : (List T) → Hs → Res Ret := fun ts h => match ts with
  | [.list ts] => .ok (.own ts) h
  | [.tuple ts] => .ok (.own ts) h
  | _ => .bad
@[simp] theorem kLo_ap  (ts : (List T)) (h : Hs) : kLo  ts h = (match ts with
  | [.list ts] => .ok (.own ts) h
  | [.tuple ts] => .ok (.own ts) h
  | _ => .bad) := rfl
@[simp] theorem ev_fListOf (f : FL) (ρ : En) (h : Hs) : fListOf f ρ h = ((f ρ h).bind kLo) := rfl
def kIsi (ty : String) : T → Hs → Res Bool := fun t h => .ok (isiB t ty) h
@[simp] theorem kIsi_ap (ty : String) (t : T) (h : Hs) : kIsi ty t h = (.ok (isiB t ty) h) := rfl
@[simp] theorem ev_fIsi (ty : String) (f : FT) (ρ : En) (h : Hs) : fIsi ty f ρ h = ((f ρ h).bind (kIsi ty)) := rfl
def kIsi2 (ty : String) (ty' : String) : T → Hs → Res Bool := fun t h => .ok (isiB t ty || isiB t ty') h
@[simp] theorem kIsi2_ap (ty : String) (ty' : String) (t : T) (h : Hs) : kIsi2 ty ty' t h = (.ok (isiB t ty || isiB t ty') h) := rfl
@[simp] theorem ev_fIsi2 (ty : String) (ty' : String) (f : FT) (ρ : En) (h : Hs) : fIsi2 ty ty' f ρ h = ((f ρ h).bind (kIsi2 ty ty')) := rfl
def kItD  : D → Hs → Res (List T) := fun t h => match t with
  | .dat (.list ts) => .ok ts h
  | .dat (.tuple ts) => .ok ts h
  | _ => .bad
theorem kItD_ap  (t : D) (h : Hs) : kItD  t h = (match t with
  | .dat (.list ts) => .ok ts h
  | .dat (.tuple ts) => .ok ts h
  | _ => .bad) := rfl
@[simp] theorem kItD_l (ts : List T) (h : Hs) : kItD (.dat (.list ts)) h = .ok ts h := rfl
@[simp] theorem kItD_t (ts : List T) (h : Hs) : kItD (.dat (.tuple ts)) h = .ok ts h := rfl
@[simp] theorem ev_fItD (f : FE) (ρ : En) (h : Hs) : fItD f ρ h = ((f ρ h).bind kItD) := rfl
def kRng1  : T → Hs → Res (List T) := fun t h => match t with
  | .int j => if rngOk 0 j = true then .ok (rngT 0 j.toNat) h else .bad
  | _ => .bad
@[simp] theorem kRng1_ap  (t : T) (h : Hs) : kRng1  t h = (match t with
  | .int j => if rngOk 0 j = true then .ok (rngT 0 j.toNat) h else .bad
  | _ => .bad) := rfl
@[simp] theorem ev_fRng1 (fa : FT) (ρ : En) (h : Hs) : fRng1 fa ρ h = ((fa ρ h).bind kRng1) := rfl
def kRng2b (t : T) : T → Hs → Res (List T) := fun u h => match t, u with
  | .int i, .int j => if rngOk i j = true then .ok (rngT i (j - i).toNat) h else .bad
  | _, _ => .bad
@[simp] theorem kRng2b_ap (t : T) (u : T) (h : Hs) : kRng2b t u h = (match t, u with
  | .int i, .int j => if rngOk i j = true then .ok (rngT i (j - i).toNat) h else .bad
  | _, _ => .bad) := rfl
def kRng2 (fb : FT) (ρ : En) : T → Hs → Res (List T) := fun t h => (fb ρ h).bind (kRng2b t)
@[simp] theorem kRng2_ap (fb : FT) (ρ : En) (t : T) (h : Hs) : kRng2 fb ρ t h = ((fb ρ h).bind (kRng2b t)) := rfl
@[simp] theorem ev_fRng2 (fa : FT) (fb : FT) (ρ : En) (h : Hs) : fRng2 fa fb ρ h = ((fa ρ h).bind (kRng2 fb ρ)) := rfl
def kRngDb (t : T) : T → Hs → Res (List T) := fun u h => match t, u with
  | .int i, .int j => if rngOk i j = true then .ok (rngD i (i - j).toNat) h else .bad
  | _, _ => .bad
@[simp] theorem kRngDb_ap (t : T) (u : T) (h : Hs) : kRngDb t u h = (match t, u with
  | .int i, .int j => if rngOk i j = true then .ok (rngD i (i - j).toNat) h else .bad
  | _, _ => .bad) := rfl
def kRngD (fb : FT) (ρ : En) : T → Hs → Res (List T) := fun t h => (fb ρ h).bind (kRngDb t)
@[simp] theorem kRngD_ap (fb : FT) (ρ : En) (t : T) (h : Hs) : kRngD fb ρ t h = ((fb ρ h).bind (kRngDb t)) := rfl
@[simp] theorem ev_fRngD (fa : FT) (fb : FT) (ρ : En) (h : Hs) : fRngD fa fb ρ h = ((fa ρ h).bind (kRngD fb ρ)) := rfl
def kItS  : T → Hs → Res (List T) := fun t h => match t with
  | .str z => if z.length ≤ 1000000 then .ok (sgnT z) h else .bad
  | _ => .bad
@[simp] theorem kItS_ap  (t : T) (h : Hs) : kItS  t h = (match t with
  | .str z => if z.length ≤ 1000000 then .ok (sgnT z) h else .bad
  | _ => .bad) := rfl
@[simp] theorem ev_fItS (f : FT) (ρ : En) (h : Hs) : fItS f ρ h = ((f ρ h).bind kItS) := rfl
def kEnum  : D → Hs → Res (List T) := fun t h => match t with
  | .dat (.list ts) => .ok (enumT ts) h
  | _ => .bad
@[simp] theorem kEnum_ap  (t : D) (h : Hs) : kEnum  t h = (match t with
  | .dat (.list ts) => .ok (enumT ts) h
  | _ => .bad) := rfl
@[simp] theorem ev_fEnum (f : FE) (ρ : En) (h : Hs) : fEnum f ρ h = ((f ρ h).bind kEnum) := rfl
def kEnumT  : D → Hs → Res (List T) := fun t h => match t with
  | .dat (.tuple ts) => .ok (enumT ts) h
  | _ => .bad
@[simp] theorem kEnumT_ap  (t : D) (h : Hs) : kEnumT  t h = (match t with
  | .dat (.tuple ts) => .ok (enumT ts) h
  | _ => .bad) := rfl
@[simp] theorem ev_fEnumT (f : FE) (ρ : En) (h : Hs) : fEnumT f ρ h = ((f ρ h).bind kEnumT) := rfl
def kZipb (t : D) : D → Hs → Res (List T) := fun u h => match t, u with
  | .dat (.list ts), .dat (.list us) => .ok (zipT ts us) h
  | _, _ => .bad
@[simp] theorem kZipb_ap (t : D) (u : D) (h : Hs) : kZipb t u h = (match t, u with
  | .dat (.list ts), .dat (.list us) => .ok (zipT ts us) h
  | _, _ => .bad) := rfl
def kZip (g : FE) (ρ : En) : D → Hs → Res (List T) := fun t h => (g ρ h).bind (kZipb t)
@[simp] theorem kZip_ap (g : FE) (ρ : En) (t : D) (h : Hs) : kZip g ρ t h = ((g ρ h).bind (kZipb t)) := rfl
@[simp] theorem ev_fZip (f : FE) (g : FE) (ρ : En) (h : Hs) : fZip f g ρ h = ((f ρ h).bind (kZip g ρ)) := rfl
@[simp] theorem ev_fYes  (ρ : En) (h : Hs) : fYes  ρ h = (.ok true h) := rfl
def kOwn  : (List T) → Hs → Res Ret := fun us h => .ok (.own us) h
@[simp] theorem kOwn_ap  (us : (List T)) (h : Hs) : kOwn  us h = (.ok (.own us) h) := rfl
def kComp (is : List Nat) (gt : Tgt) (fc : FB) (fe : FE) (ρ : En) : (List T) → Hs → Res Ret := fun ts h => match plainAll ρ is with
  | true => (compL gt (wipeE ρ is) fc fe ts h).bind kOwn
  | false => .bad
@[simp] theorem kComp_ap (is : List Nat) (gt : Tgt) (fc : FB) (fe : FE) (ρ : En) (ts : (List T)) (h : Hs) : kComp is gt fc fe ρ ts h = (match plainAll ρ is with
  | true => (compL gt (wipeE ρ is) fc fe ts h).bind kOwn
  | false => .bad) := rfl
@[simp] theorem ev_fComp (is : List Nat) (gt : Tgt) (fi : FL) (fc : FB) (fe : FE) (ρ : En) (h : Hs) : fComp is gt fi fc fe ρ h = ((fi ρ h).bind (kComp is gt fc fe ρ)) := rfl
@[simp] theorem ev_fNext  (ρ : En) (h : Hs) : fNext  ρ h = (.ok (.next ρ) h) := rfl
def kSeq (g : FS) : Out → Hs → Res Out := fun o h => match o with
  | .next ρ => g ρ h
  | .ret r => .ok (.ret r) h
@[simp] theorem kSeq_n (g : FS) (ρ : En) (h : Hs) : kSeq g (.next ρ) h = g ρ h := rfl
@[simp] theorem kSeq_r (g : FS) (r : Ret) (h : Hs) : kSeq g (.ret r) h = .ok (.ret r) h := rfl
@[simp] theorem ev_fSeq (f : FS) (g : FS) (ρ : En) (h : Hs) : fSeq f g ρ h = ((f ρ h).bind (kSeq g)) := rfl
def kRet  : Ret → Hs → Res Out := fun r h => .ok (.ret r) h
@[simp] theorem kRet_ap  (r : Ret) (h : Hs) : kRet  r h = (.ok (.ret r) h) := rfl
@[simp] theorem ev_fRet (f : FR) (ρ : En) (h : Hs) : fRet f ρ h = ((f ρ h).bind kRet) := rfl
@[simp] theorem ev_fRetN  (ρ : En) (h : Hs) : fRetN  ρ h = (.ok (.ret (.val (.dat .none))) h) := rfl
def kExp (ρ : En) : D → Hs → Res Out := fun d h => .ok (.next ρ) h
@[simp] theorem kExp_ap (ρ : En) (d : D) (h : Hs) : kExp ρ d h = (.ok (.next ρ) h) := rfl
@[simp] theorem ev_fExp (f : FE) (ρ : En) (h : Hs) : fExp f ρ h = ((f ρ h).bind (kExp ρ)) := rfl
def kSet (i : Nat) (ρ : En) : D → Hs → Res Out := fun d h => .ok (.next (ρ.set i (.val d))) h
@[simp] theorem kSet_ap (i : Nat) (ρ : En) (d : D) (h : Hs) : kSet i ρ d h = (.ok (.next (ρ.set i (.val d))) h) := rfl
@[simp] theorem ev_fSet (i : Nat) (f : FE) (ρ : En) (h : Hs) : fSet i f ρ h = ((f ρ h).bind (kSet i ρ)) := rfl
def kSetR (i : Nat) (ρ : En) : Ret → Hs → Res Out := fun r h => .ok (.next (ρ.set i (slotOf r))) h
@[simp] theorem kSetR_ap (i : Nat) (ρ : En) (r : Ret) (h : Hs) : kSetR i ρ r h = (.ok (.next (ρ.set i (slotOf r))) h) := rfl
@[simp] theorem ev_fSetR (i : Nat) (f : FR) (ρ : En) (h : Hs) : fSetR i f ρ h = ((f ρ h).bind (kSetR i ρ)) := rfl
@[simp] theorem ev_fBad  (ρ : En) (h : Hs) : fBad  ρ h = (.bad) := rfl
@[simp] theorem ev_fFrz (i : Nat) (f : FS) (ρ : En) (h : Hs) : fFrz i f ρ h = (match ρ[i]? with
  | some (.own ts) => f (ρ.set i (.val (.dat (.list ts)))) h
  | _ => f ρ h) := rfl
def kApp (i : Nat) (ρ : En) (ts : List T) : D → Hs → Res Out := fun d h => match d with
  | .dat t => if ts.length < 100000 then .ok (.next (ρ.set i (.own (ts ++ [t])))) h else .bad
  | _ => .bad
@[simp] theorem kApp_ap (i : Nat) (ρ : En) (ts : List T) (d : D) (h : Hs) : kApp i ρ ts d h = (match d with
  | .dat t => if ts.length < 100000 then .ok (.next (ρ.set i (.own (ts ++ [t])))) h else .bad
  | _ => .bad) := rfl
@[simp] theorem ev_fApp (i : Nat) (f : FE) (ρ : En) (h : Hs) : fApp i f ρ h = (match ρ[i]? with
  | some (.own ts) => (f ρ h).bind (kApp i ρ ts)
  | _ => .bad) := rfl
def kFor (gt : Tgt) (fb : FS) (ρ : En) : (List T) → Hs → Res Out := fun ts h => forL gt fb ts ρ h
@[simp] theorem kFor_ap (gt : Tgt) (fb : FS) (ρ : En) (ts : (List T)) (h : Hs) : kFor gt fb ρ ts h = (forL gt fb ts ρ h) := rfl
@[simp] theorem ev_fFor (gt : Tgt) (fi : FL) (fb : FS) (ρ : En) (h : Hs) : fFor gt fi fb ρ h = ((fi ρ h).bind (kFor gt fb ρ)) := rfl
def kAsg (gt : Tgt) (ρ : En) : D → Hs → Res Out := fun d h => match d with
  | .dat t => (match gt t ρ with
    | some ρ' => .ok (.next ρ') h
    | none => .bad)
  | _ => .bad
@[simp] theorem kAsg_ap (gt : Tgt) (ρ : En) (d : D) (h : Hs) : kAsg gt ρ d h = (match d with
  | .dat t => (match gt t ρ with
    | some ρ' => .ok (.next ρ') h
    | none => .bad)
  | _ => .bad) := rfl
@[simp] theorem ev_fAsg (gt : Tgt) (f : FE) (ρ : En) (h : Hs) : fAsg gt f ρ h = ((f ρ h).bind (kAsg gt ρ)) := rfl
def kPar (is : List Nat) (ρ : En) : (List Ret) → Hs → Res Out := fun rs h => if rs.length = is.length then .ok (.next (setAll (is.zip rs) ρ)) h else .bad
@[simp] theorem kPar_ap (is : List Nat) (ρ : En) (rs : (List Ret)) (h : Hs) : kPar is ρ rs h = (if rs.length = is.length then .ok (.next (setAll (is.zip rs) ρ)) h else .bad) := rfl
@[simp] theorem ev_fPar (is : List Nat) (g : FRs) (ρ : En) (h : Hs) : fPar is g ρ h = ((g ρ h).bind (kPar is ρ)) := rfl
@[simp] theorem ev_fRetV (i : Nat) (ρ : En) (h : Hs) : fRetV i ρ h = (match ρ[i]? with
  | some (.own ts) => .ok (.ret (.own ts)) h
  | some (.val d) => .ok (.ret (.val d)) h
  | _ => .bad) := rfl
def kCall (x : Bool) (np : Nat) (s : Sem1) : (List D) → Hs → Res Ret := fun ds h => if ds.length = np then nx x (s ds h) else .bad
@[simp] theorem kCall_ap (x : Bool) (np : Nat) (s : Sem1) (ds : (List D)) (h : Hs) : kCall x np s ds h = (if ds.length = np then nx x (s ds h) else .bad) := rfl
@[simp] theorem ev_fCallF (x : Bool) (np : Nat) (s : Sem1) (g : FA) (ρ : En) (h : Hs) : fCallF x np s g ρ h = ((g ρ h).bind (kCall x np s)) := fCallF_def x np s g ρ h
def kMake2 (n : Nat) : Ret → Hs → Res D := fun r h => match r with
  | .val (.dat .none) => .ok (.obj n) h
  | _ => .bad
@[simp] theorem kMake2_ap (n : Nat) (r : Ret) (h : Hs) : kMake2 n r h = (match r with
  | .val (.dat .none) => .ok (.obj n) h
  | _ => .bad) := rfl
def kMake (x : Bool) (cn : Str) (np : Nat) (s : Sem1) : (List D) → Hs → Res D := fun ds h => if ds.length + 1 = np then (nx x (s (.obj h.length :: ds) (h ++ [.ins cn []]))).bind (kMake2 h.length) else .bad
@[simp] theorem kMake_ap (x : Bool) (cn : Str) (np : Nat) (s : Sem1) (ds : (List D)) (h : Hs) : kMake x cn np s ds h = (if ds.length + 1 = np then (nx x (s (.obj h.length :: ds) (h ++ [.ins cn []]))).bind (kMake2 h.length) else .bad) := rfl
@[simp] theorem ev_fMakeF (x : Bool) (cn : Str) (np : Nat) (s : Sem1) (g : FA) (ρ : En) (h : Hs) : fMakeF x cn np s g ρ h = ((g ρ h).bind (kMake x cn np s)) := fMakeF_def x cn np s g ρ h
def kMeth2 (x : Bool) (np : Nat) (s : Sem1) (n : Nat) : (List D) → Hs → Res Ret := fun ds h => if ds.length + 1 = np then nx x (s (.obj n :: ds) h) else .bad
@[simp] theorem kMeth2_ap (x : Bool) (np : Nat) (s : Sem1) (n : Nat) (ds : (List D)) (h : Hs) : kMeth2 x np s n ds h = (if ds.length + 1 = np then nx x (s (.obj n :: ds) h) else .bad) := rfl
def kMeth (x : Bool) (cn : Str) (m : Str) (np : Nat) (s : Sem1) (g : FA) (ρ : En) : D → Hs → Res Ret := fun d h => match d with
  | .obj n => (match h[n]? with
    | some (.ins c fs) => if c = cn ∧ (fs.lookup m).isNone = true then (g ρ h).bind (kMeth2 x np s n) else .bad
    | _ => .bad)
  | _ => .bad
theorem kMeth_ap (x : Bool) (cn : Str) (m : Str) (np : Nat) (s : Sem1) (g : FA) (ρ : En) (d : D) (h : Hs) : kMeth x cn m np s g ρ d h = (match d with
  | .obj n => (match h[n]? with
    | some (.ins c fs) => if c = cn ∧ (fs.lookup m).isNone = true then (g ρ h).bind (kMeth2 x np s n) else .bad
    | _ => .bad)
  | _ => .bad) := rfl
@[simp] theorem ev_fMethF (x : Bool) (cn : Str) (m : Str) (np : Nat) (s : Sem1) (fo : FE) (g : FA) (ρ : En) (h : Hs) : fMethF x cn m np s fo g ρ h = ((fo ρ h).bind (kMeth x cn m np s g ρ)) := fMethF_def x cn m np s fo g ρ h
def kFld (cn : Str) (k : Str) : D → Hs → Res D := fun d h => match d with
  | .obj n => (match h[n]? with
    | some (.ins c fs) => if c = cn then (match fs.lookup k with
      | some (.dat t) => .ok (.dat t) h
      | _ => .bad) else .bad
    | _ => .bad)
  | _ => .bad
theorem kFld_ap (cn : Str) (k : Str) (d : D) (h : Hs) : kFld cn k d h = (match d with
  | .obj n => (match h[n]? with
    | some (.ins c fs) => if c = cn then (match fs.lookup k with
      | some (.dat t) => .ok (.dat t) h
      | _ => .bad) else .bad
    | _ => .bad)
  | _ => .bad) := rfl
@[simp] theorem ev_fFld (cn : Str) (k : Str) (fo : FE) (ρ : En) (h : Hs) : fFld cn k fo ρ h = ((fo ρ h).bind (kFld cn k)) := rfl
def kSFld2 (cn : Str) (k : Str) (ρ : En) (d : D) : D → Hs → Res Out := fun o h => match d, o with
  | .dat t, .obj n => (match h[n]? with
    | some (.ins c fs) => if c = cn ∧ fs.length < 100 then .ok (.next ρ) (h.set n (.ins c (putA k (.dat t) fs))) else .bad
    | _ => .bad)
  | _, _ => .bad
@[simp] theorem kSFld2_ap (cn : Str) (k : Str) (ρ : En) (d : D) (o : D) (h : Hs) : kSFld2 cn k ρ d o h = (match d, o with
  | .dat t, .obj n => (match h[n]? with
    | some (.ins c fs) => if c = cn ∧ fs.length < 100 then .ok (.next ρ) (h.set n (.ins c (putA k (.dat t) fs))) else .bad
    | _ => .bad)
  | _, _ => .bad) := rfl
def kSFld (cn : Str) (k : Str) (fo : FE) (ρ : En) : D → Hs → Res Out := fun d h => (fo ρ h).bind (kSFld2 cn k ρ d)
@[simp] theorem kSFld_ap (cn : Str) (k : Str) (fo : FE) (ρ : En) (d : D) (h : Hs) : kSFld cn k fo ρ d h = ((fo ρ h).bind (kSFld2 cn k ρ d)) := rfl
@[simp] theorem ev_fSFld (cn : Str) (k : Str) (fo : FE) (fe : FE) (ρ : En) (h : Hs) : fSFld cn k fo fe ρ h = ((fe ρ h).bind (kSFld cn k fo ρ)) := rfl
def kSFDic (cn : Str) (k : Str) (ρ : En) : D → Hs → Res Out := fun o h => match o with
  | .obj n => (match h[n]? with
    | some (.ins c fs) => if c = cn ∧ fs.length < 100 then .ok (.next ρ) (h.set n (.ins c (putA k (.dic []) fs))) else .bad
    | _ => .bad)
  | _ => .bad
@[simp] theorem kSFDic_ap (cn : Str) (k : Str) (ρ : En) (o : D) (h : Hs) : kSFDic cn k ρ o h = (match o with
  | .obj n => (match h[n]? with
    | some (.ins c fs) => if c = cn ∧ fs.length < 100 then .ok (.next ρ) (h.set n (.ins c (putA k (.dic []) fs))) else .bad
    | _ => .bad)
  | _ => .bad) := rfl
@[simp] theorem ev_fSFDic (cn : Str) (k : Str) (fo : FE) (ρ : En) (h : Hs) : fSFDic cn k fo ρ h = ((fo ρ h).bind (kSFDic cn k ρ)) := rfl
def kBody (n : Nat) : Out → Hs → Res Ret := fun o h => match o with
  | .next _ => .ok (.val (.dat .none)) (h.take n)
  | .ret r => .ok r (cutH n r h)
@[simp] theorem kBody_ap (n : Nat) (o : Out) (h : Hs) : kBody n o h = (match o with
  | .next _ => .ok (.val (.dat .none)) (h.take n)
  | .ret r => .ok r (cutH n r h)) := rfl
@[simp] theorem bodyS_eq (n : Nat) (f : FS) (ds : List D) (h : Hs) : bodyS n f ds h = (f (ds.map Slot.val ++ List.replicate (n - ds.length) Slot.un) h).bind (kBody h.length) := rfl
def kRaise (cls : Str) (f : Option Str) : (List D) → Hs → Res Out := fun ds h => match f, ds with
  | none, _ => .exc ⟨cls, none⟩ h
  | some f, [.dat t] => .exc ⟨cls, some (f, t)⟩ h
  | _, _ => .bad
@[simp] theorem kRaise_ap (cls : Str) (f : Option Str) (ds : (List D)) (h : Hs) : kRaise cls f ds h = (match f, ds with
  | none, _ => .exc ⟨cls, none⟩ h
  | some f, [.dat t] => .exc ⟨cls, some (f, t)⟩ h
  | _, _ => .bad) := rfl
@[simp] theorem ev_fRaise_t (cls : Str) (f : Option Str) (g : FA) (ρ : En) (h : Hs) : fRaise true cls f g ρ h = (g ρ h).bind (kRaise cls f) := rfl
@[simp] theorem ev_fRaise_f (cls : Str) (f : Option Str) (g : FA) (ρ : En) (h : Hs) : fRaise false cls f g ρ h = .bad := rfl
@[simp] theorem dats_nil : dats [] = some [] := rfl
@[simp] theorem dats_cons (t : T) (ds : List D) : dats (.dat t :: ds) = (dats ds).map (t :: ·) := rfl
@[simp] theorem slotOf_val (d : D) : slotOf (.val d) = .val d := rfl
@[simp] theorem slotOf_own (ts : List T) : slotOf (.own ts) = .own ts := rfl
section
variable (ρ : En) (h : Hs)
@[simp] theorem ev_gN (i : Nat) (t : T) : gN i t ρ = some (ρ.set i (.val (.dat t))) := rfl
@[simp] theorem ev_gN2 (i j : Nat) (a b : T) : gN2 i j (.tuple [a, b]) ρ = some ((ρ.set i (.val (.dat a))).set j (.val (.dat b))) := rfl
@[simp] theorem ev_gN3 (i j l : Nat) (a b c : T) : gN3 i j l (.tuple [a, b, c]) ρ = some (((ρ.set i (.val (.dat a))).set j (.val (.dat b))).set l (.val (.dat c))) := rfl
@[simp] theorem setAll_nil : setAll [] ρ = ρ := rfl
@[simp] theorem setAll_cons (i : Nat) (r : Ret) (l : List (Nat × Ret)) : setAll ((i, r) :: l) ρ = setAll l (ρ.set i (slotOf r)) := rfl
end
abbrev vd (t : T) : Slot := .val (.dat t)
abbrev vi (i : Int) : Slot := .val (.dat (.int i))
/-- no list or dict of its own -/
def plS : Slot → Bool
  | .own _ => false
  | .dic _ => false
  | .fix _ _ => false
  | .pin _ => false
  | _ => true
@[simp] theorem plS_un : plS .un = true := rfl
@[simp] theorem plS_val (d : D) : plS (.val d) = true := rfl
@[simp] theorem wipeE_nil (ρ : En) : wipeE ρ [] = ρ := rfl
@[simp] theorem wipeE_cons (ρ : En) (i : Nat) (is : List Nat) : wipeE ρ (i :: is) = (wipeE ρ is).set i .un := rfl
@[simp] theorem plainAll_nil (ρ : En) : plainAll ρ [] = true := rfl
@[simp] theorem plainAll_cons (ρ : En) (i : Nat) (is : List Nat) : plainAll ρ (i :: is) = (plainAt ρ i && plainAll ρ is) := rfl
@[simp] theorem plainAt_def (ρ : En) (i : Nat) : plainAt ρ i = (match ρ[i]? with
  | some s => plS s
  | none => true) := by
  unfold plainAt
  cases ρ[i]? with
  | none => rfl
  | some s => cases s <;> rfl
/-! ### operators -/
section
variable (i j : Int) (xs ys : List T) (a b : T)
@[simp] theorem addT_i : addT (.int i) (.int j) = some (.int (i + j)) := rfl
@[simp] theorem addT_l : addT (.list xs) (.list ys) = if xs.length + ys.length ≤ sizeLine then some (.list (xs ++ ys)) else none := rfl
@[simp] theorem addT_t : addT (.tuple xs) (.tuple ys) = if xs.length + ys.length ≤ sizeLine then some (.tuple (xs ++ ys)) else none := rfl
@[simp] theorem addT_s (x y : Str) : addT (.str x) (.str y) = if x.length + y.length ≤ sizeLine then some (.str (x ++ y)) else none := rfl
@[simp] theorem subT_i : subT (.int i) (.int j) = some (.int (i - j)) := rfl
@[simp] theorem mulT_2 : mulT (.int 2) (.int j) = some (.int (2 * j)) := rfl
@[simp] theorem mulT_l : mulT (.list xs) (.int j) = if (decide (0 ≤ j) && decide (j ≤ 1000) && decide (xs.length ≤ 1000)) = true then some (.list (List.replicate j.toNat xs).flatten) else none := rfl
@[simp] theorem modT_i : modT (.int i) (.int j) = if 0 < j then some (.int (i % j)) else none := rfl
@[simp] theorem divT_i : divT (.int i) (.int j) = if 0 < j ∧ j < 1073741824 then some (.int (i / j)) else none := rfl
@[simp] theorem ltT_i : ltT (.int i) (.int j) = some (decide (i < j)) := rfl
@[simp] theorem leT_i : leT (.int i) (.int j) = some (decide (i ≤ j)) := rfl
@[simp] theorem gtT_i : gtT (.int i) (.int j) = some (decide (j < i)) := rfl
@[simp] theorem geT_i : geT (.int i) (.int j) = some (decide (j ≤ i)) := rfl
@[simp] theorem eqv_ii : PyData.eqv (.int i) (.int j) = decide (i = j) := rfl
@[simp] theorem eqT_i : eqT (.int i) (.int j) = some (decide (i = j)) := rfl
@[simp] theorem neT_i : neT (.int i) (.int j) = some (!decide (i = j)) := rfl
@[simp] theorem eqT_b (p q : Bool) : eqT (.bool p) (.bool q) = some (PyData.eqv (.bool p) (.bool q)) := rfl
@[simp] theorem neT_b (p q : Bool) : neT (.bool p) (.bool q) = some (!PyData.eqv (.bool p) (.bool q)) := rfl
@[simp] theorem isT_n : isT a .none = some (isNone a) := rfl
@[simp] theorem isntT_n : isntT a .none = some (!isNone a) := rfl
@[simp] theorem isNone_none : isNone .none = true := rfl
@[simp] theorem isNone_int : isNone (.int i) = false := rfl
@[simp] theorem isNone_list : isNone (.list xs) = false := rfl
@[simp] theorem isNone_tuple : isNone (.tuple xs) = false := rfl
@[simp] theorem isNone_str (z : Str) : isNone (.str z) = false := rfl
@[simp] theorem isNone_bool (z : Bool) : isNone (.bool z) = false := rfl
@[simp] theorem lenT_l : lenT [.list xs] = some (.int (xs.length : Nat)) := rfl
@[simp] theorem lenT_t : lenT [.tuple xs] = some (.int (xs.length : Nat)) := rfl
@[simp] theorem minT_i : minT [.int i, .int j] = some (.int (if j < i then j else i)) := rfl
@[simp] theorem maxT_i : maxT [.int i, .int j] = some (.int (if j > i then j else i)) := rfl
@[simp] theorem intT_b (z : Bool) : intT [.bool z] = some (.int (if z then 1 else 0)) := rfl
@[simp] theorem intT_i : intT [.int i] = some (.int i) := rfl
@[simp] theorem tupleT_l : tupleT [.list xs] = some (.tuple xs) := rfl
@[simp] theorem ixT_l : ixT (.list xs) (.int i) = L2.atI xs i := rfl
@[simp] theorem ixT_t : ixT (.tuple xs) (.int i) = L2.atI xs i := rfl
@[simp] theorem slT_l (lo hi : Option Int) : slT (.list xs) lo hi = some (.list (cutL xs lo hi)) := rfl
@[simp] theorem slT_t (lo hi : Option Int) : slT (.tuple xs) lo hi = some (.tuple (cutL xs lo hi)) := rfl
@[simp] theorem isi_int_i : isiB (.int i) "int" = true := rfl
@[simp] theorem isi_int_b : isiB (.int i) "bool" = false := rfl
@[simp] theorem isi_tup_t : isiB (.tuple xs) "tuple" = true := rfl
@[simp] theorem cutH_dat (n : Nat) (t : T) (h : Hs) : cutH n (.val (.dat t)) h = h.take n := rfl
@[simp] theorem cutH_own (n : Nat) (ts : List T) (h : Hs) : cutH n (.own ts) h = h.take n := rfl
@[simp] theorem cutH_obj (n m : Nat) (h : Hs) : cutH n (.val (.obj m)) h = h := rfl
end
theorem atI_at {xs : List T} {n : Nat} {t : T} (h : xs[n]? = some t) : L2.atI xs (n : Int) = some t := L2.atI_nat h
@[simp] theorem atI_0 (t : T) (xs : List T) : L2.atI (t :: xs) 0 = some t := L2.atI_nat (j := 0) rfl
@[simp] theorem atI_1 (t u : T) (xs : List T) : L2.atI (t :: u :: xs) 1 = some u := L2.atI_nat (j := 1) rfl
@[simp] theorem atI_2 (t u v : T) (xs : List T) : L2.atI (t :: u :: v :: xs) 2 = some v := L2.atI_nat (j := 2) rfl
@[simp] theorem atI_3 (t u v w : T) (xs : List T) : L2.atI (t :: u :: v :: w :: xs) 3 = some w := L2.atI_nat (j := 3) rfl
/-! ### names that differ -/
@[simp] theorem nq1 : (Str.ofString "blind" = Str.ofString "ended") = False := eq_false (by decide +kernel)
@[simp] theorem nb1 : (Str.ofString "blind" == Str.ofString "ended") = false := by decide +kernel
@[simp] theorem nq2 : (Str.ofString "blind" = Str.ofString "here") = False := eq_false (by decide +kernel)
@[simp] theorem nb2 : (Str.ofString "blind" == Str.ofString "here") = false := by decide +kernel
@[simp] theorem nq3 : (Str.ofString "blind" = Str.ofString "last") = False := eq_false (by decide +kernel)
@[simp] theorem nb3 : (Str.ofString "blind" == Str.ofString "last") = false := by decide +kernel
@[simp] theorem nq4 : (Str.ofString "blind" = Str.ofString "next") = False := eq_false (by decide +kernel)
@[simp] theorem nb4 : (Str.ofString "blind" == Str.ofString "next") = false := by decide +kernel
@[simp] theorem nq5 : (Str.ofString "blind" = Str.ofString "sheets") = False := eq_false (by decide +kernel)
@[simp] theorem nb5 : (Str.ofString "blind" == Str.ofString "sheets") = false := by decide +kernel
@[simp] theorem nq6 : (Str.ofString "count" = Str.ofString "rule") = False := eq_false (by decide +kernel)
@[simp] theorem nb6 : (Str.ofString "count" == Str.ofString "rule") = false := by decide +kernel
@[simp] theorem nq7 : (Str.ofString "count" = Str.ofString "sheets") = False := eq_false (by decide +kernel)
@[simp] theorem nb7 : (Str.ofString "count" == Str.ofString "sheets") = false := by decide +kernel
@[simp] theorem nq8 : (Str.ofString "count" = Str.ofString "taken") = False := eq_false (by decide +kernel)
@[simp] theorem nb8 : (Str.ofString "count" == Str.ofString "taken") = false := by decide +kernel
@[simp] theorem nq9 : (Str.ofString "count" = Str.ofString "ways") = False := eq_false (by decide +kernel)
@[simp] theorem nb9 : (Str.ofString "count" == Str.ofString "ways") = false := by decide +kernel
@[simp] theorem nq10 : (Str.ofString "end_run" = Str.ofString "blind") = False := eq_false (by decide +kernel)
@[simp] theorem nb10 : (Str.ofString "end_run" == Str.ofString "blind") = false := by decide +kernel
@[simp] theorem nq11 : (Str.ofString "end_run" = Str.ofString "ended") = False := eq_false (by decide +kernel)
@[simp] theorem nb11 : (Str.ofString "end_run" == Str.ofString "ended") = false := by decide +kernel
@[simp] theorem nq12 : (Str.ofString "end_run" = Str.ofString "here") = False := eq_false (by decide +kernel)
@[simp] theorem nb12 : (Str.ofString "end_run" == Str.ofString "here") = false := by decide +kernel
@[simp] theorem nq13 : (Str.ofString "end_run" = Str.ofString "last") = False := eq_false (by decide +kernel)
@[simp] theorem nb13 : (Str.ofString "end_run" == Str.ofString "last") = false := by decide +kernel
@[simp] theorem nq14 : (Str.ofString "end_run" = Str.ofString "next") = False := eq_false (by decide +kernel)
@[simp] theorem nb14 : (Str.ofString "end_run" == Str.ofString "next") = false := by decide +kernel
@[simp] theorem nq15 : (Str.ofString "end_run" = Str.ofString "sheets") = False := eq_false (by decide +kernel)
@[simp] theorem nb15 : (Str.ofString "end_run" == Str.ofString "sheets") = false := by decide +kernel
@[simp] theorem nq16 : (Str.ofString "ended" = Str.ofString "blind") = False := eq_false (by decide +kernel)
@[simp] theorem nb16 : (Str.ofString "ended" == Str.ofString "blind") = false := by decide +kernel
@[simp] theorem nq17 : (Str.ofString "ended" = Str.ofString "here") = False := eq_false (by decide +kernel)
@[simp] theorem nb17 : (Str.ofString "ended" == Str.ofString "here") = false := by decide +kernel
@[simp] theorem nq18 : (Str.ofString "ended" = Str.ofString "last") = False := eq_false (by decide +kernel)
@[simp] theorem nb18 : (Str.ofString "ended" == Str.ofString "last") = false := by decide +kernel
@[simp] theorem nq19 : (Str.ofString "ended" = Str.ofString "next") = False := eq_false (by decide +kernel)
@[simp] theorem nb19 : (Str.ofString "ended" == Str.ofString "next") = false := by decide +kernel
@[simp] theorem nq20 : (Str.ofString "ended" = Str.ofString "sheets") = False := eq_false (by decide +kernel)
@[simp] theorem nb20 : (Str.ofString "ended" == Str.ofString "sheets") = false := by decide +kernel
@[simp] theorem nq21 : (Str.ofString "feed" = Str.ofString "blind") = False := eq_false (by decide +kernel)
@[simp] theorem nb21 : (Str.ofString "feed" == Str.ofString "blind") = false := by decide +kernel
@[simp] theorem nq22 : (Str.ofString "feed" = Str.ofString "ended") = False := eq_false (by decide +kernel)
@[simp] theorem nb22 : (Str.ofString "feed" == Str.ofString "ended") = false := by decide +kernel
@[simp] theorem nq23 : (Str.ofString "feed" = Str.ofString "here") = False := eq_false (by decide +kernel)
@[simp] theorem nb23 : (Str.ofString "feed" == Str.ofString "here") = false := by decide +kernel
@[simp] theorem nq24 : (Str.ofString "feed" = Str.ofString "last") = False := eq_false (by decide +kernel)
@[simp] theorem nb24 : (Str.ofString "feed" == Str.ofString "last") = false := by decide +kernel
@[simp] theorem nq25 : (Str.ofString "feed" = Str.ofString "next") = False := eq_false (by decide +kernel)
@[simp] theorem nb25 : (Str.ofString "feed" == Str.ofString "next") = false := by decide +kernel
@[simp] theorem nq26 : (Str.ofString "feed" = Str.ofString "sheets") = False := eq_false (by decide +kernel)
@[simp] theorem nb26 : (Str.ofString "feed" == Str.ofString "sheets") = false := by decide +kernel
@[simp] theorem nq27 : (Str.ofString "firsts" = Str.ofString "rule") = False := eq_false (by decide +kernel)
@[simp] theorem nb27 : (Str.ofString "firsts" == Str.ofString "rule") = false := by decide +kernel
@[simp] theorem nq28 : (Str.ofString "firsts" = Str.ofString "sheets") = False := eq_false (by decide +kernel)
@[simp] theorem nb28 : (Str.ofString "firsts" == Str.ofString "sheets") = false := by decide +kernel
@[simp] theorem nq29 : (Str.ofString "firsts" = Str.ofString "taken") = False := eq_false (by decide +kernel)
@[simp] theorem nb29 : (Str.ofString "firsts" == Str.ofString "taken") = false := by decide +kernel
@[simp] theorem nq30 : (Str.ofString "firsts" = Str.ofString "ways") = False := eq_false (by decide +kernel)
@[simp] theorem nb30 : (Str.ofString "firsts" == Str.ofString "ways") = false := by decide +kernel
@[simp] theorem nq31 : (Str.ofString "here" = Str.ofString "blind") = False := eq_false (by decide +kernel)
@[simp] theorem nb31 : (Str.ofString "here" == Str.ofString "blind") = false := by decide +kernel
@[simp] theorem nq32 : (Str.ofString "here" = Str.ofString "ended") = False := eq_false (by decide +kernel)
@[simp] theorem nb32 : (Str.ofString "here" == Str.ofString "ended") = false := by decide +kernel
@[simp] theorem nq33 : (Str.ofString "here" = Str.ofString "last") = False := eq_false (by decide +kernel)
@[simp] theorem nb33 : (Str.ofString "here" == Str.ofString "last") = false := by decide +kernel
@[simp] theorem nq34 : (Str.ofString "here" = Str.ofString "next") = False := eq_false (by decide +kernel)
@[simp] theorem nb34 : (Str.ofString "here" == Str.ofString "next") = false := by decide +kernel
@[simp] theorem nq35 : (Str.ofString "here" = Str.ofString "sheets") = False := eq_false (by decide +kernel)
@[simp] theorem nb35 : (Str.ofString "here" == Str.ofString "sheets") = false := by decide +kernel
@[simp] theorem nq36 : (Str.ofString "jam" = Str.ofString "blind") = False := eq_false (by decide +kernel)
@[simp] theorem nb36 : (Str.ofString "jam" == Str.ofString "blind") = false := by decide +kernel
@[simp] theorem nq37 : (Str.ofString "jam" = Str.ofString "ended") = False := eq_false (by decide +kernel)
@[simp] theorem nb37 : (Str.ofString "jam" == Str.ofString "ended") = false := by decide +kernel
@[simp] theorem nq38 : (Str.ofString "jam" = Str.ofString "here") = False := eq_false (by decide +kernel)
@[simp] theorem nb38 : (Str.ofString "jam" == Str.ofString "here") = false := by decide +kernel
@[simp] theorem nq39 : (Str.ofString "jam" = Str.ofString "last") = False := eq_false (by decide +kernel)
@[simp] theorem nb39 : (Str.ofString "jam" == Str.ofString "last") = false := by decide +kernel
@[simp] theorem nq40 : (Str.ofString "jam" = Str.ofString "next") = False := eq_false (by decide +kernel)
@[simp] theorem nb40 : (Str.ofString "jam" == Str.ofString "next") = false := by decide +kernel
@[simp] theorem nq41 : (Str.ofString "jam" = Str.ofString "sheets") = False := eq_false (by decide +kernel)
@[simp] theorem nb41 : (Str.ofString "jam" == Str.ofString "sheets") = false := by decide +kernel
@[simp] theorem nq42 : (Str.ofString "last" = Str.ofString "blind") = False := eq_false (by decide +kernel)
@[simp] theorem nb42 : (Str.ofString "last" == Str.ofString "blind") = false := by decide +kernel
@[simp] theorem nq43 : (Str.ofString "last" = Str.ofString "ended") = False := eq_false (by decide +kernel)
@[simp] theorem nb43 : (Str.ofString "last" == Str.ofString "ended") = false := by decide +kernel
@[simp] theorem nq44 : (Str.ofString "last" = Str.ofString "here") = False := eq_false (by decide +kernel)
@[simp] theorem nb44 : (Str.ofString "last" == Str.ofString "here") = false := by decide +kernel
@[simp] theorem nq45 : (Str.ofString "last" = Str.ofString "next") = False := eq_false (by decide +kernel)
@[simp] theorem nb45 : (Str.ofString "last" == Str.ofString "next") = false := by decide +kernel
@[simp] theorem nq46 : (Str.ofString "last" = Str.ofString "sheets") = False := eq_false (by decide +kernel)
@[simp] theorem nb46 : (Str.ofString "last" == Str.ofString "sheets") = false := by decide +kernel
@[simp] theorem nq47 : (Str.ofString "need_sheets" = Str.ofString "blind") = False := eq_false (by decide +kernel)
@[simp] theorem nb47 : (Str.ofString "need_sheets" == Str.ofString "blind") = false := by decide +kernel
@[simp] theorem nq48 : (Str.ofString "need_sheets" = Str.ofString "ended") = False := eq_false (by decide +kernel)
@[simp] theorem nb48 : (Str.ofString "need_sheets" == Str.ofString "ended") = false := by decide +kernel
@[simp] theorem nq49 : (Str.ofString "need_sheets" = Str.ofString "here") = False := eq_false (by decide +kernel)
@[simp] theorem nb49 : (Str.ofString "need_sheets" == Str.ofString "here") = false := by decide +kernel
@[simp] theorem nq50 : (Str.ofString "need_sheets" = Str.ofString "last") = False := eq_false (by decide +kernel)
@[simp] theorem nb50 : (Str.ofString "need_sheets" == Str.ofString "last") = false := by decide +kernel
@[simp] theorem nq51 : (Str.ofString "need_sheets" = Str.ofString "next") = False := eq_false (by decide +kernel)
@[simp] theorem nb51 : (Str.ofString "need_sheets" == Str.ofString "next") = false := by decide +kernel
@[simp] theorem nq52 : (Str.ofString "need_sheets" = Str.ofString "sheets") = False := eq_false (by decide +kernel)
@[simp] theorem nb52 : (Str.ofString "need_sheets" == Str.ofString "sheets") = false := by decide +kernel
@[simp] theorem nq53 : (Str.ofString "next" = Str.ofString "blind") = False := eq_false (by decide +kernel)
@[simp] theorem nb53 : (Str.ofString "next" == Str.ofString "blind") = false := by decide +kernel
@[simp] theorem nq54 : (Str.ofString "next" = Str.ofString "ended") = False := eq_false (by decide +kernel)
@[simp] theorem nb54 : (Str.ofString "next" == Str.ofString "ended") = false := by decide +kernel
@[simp] theorem nq55 : (Str.ofString "next" = Str.ofString "here") = False := eq_false (by decide +kernel)
@[simp] theorem nb55 : (Str.ofString "next" == Str.ofString "here") = false := by decide +kernel
@[simp] theorem nq56 : (Str.ofString "next" = Str.ofString "last") = False := eq_false (by decide +kernel)
@[simp] theorem nb56 : (Str.ofString "next" == Str.ofString "last") = false := by decide +kernel
@[simp] theorem nq57 : (Str.ofString "next" = Str.ofString "sheets") = False := eq_false (by decide +kernel)
@[simp] theorem nb57 : (Str.ofString "next" == Str.ofString "sheets") = false := by decide +kernel
@[simp] theorem nq58 : (Str.ofString "pass_by" = Str.ofString "blind") = False := eq_false (by decide +kernel)
@[simp] theorem nb58 : (Str.ofString "pass_by" == Str.ofString "blind") = false := by decide +kernel
@[simp] theorem nq59 : (Str.ofString "pass_by" = Str.ofString "ended") = False := eq_false (by decide +kernel)
@[simp] theorem nb59 : (Str.ofString "pass_by" == Str.ofString "ended") = false := by decide +kernel
@[simp] theorem nq60 : (Str.ofString "pass_by" = Str.ofString "here") = False := eq_false (by decide +kernel)
@[simp] theorem nb60 : (Str.ofString "pass_by" == Str.ofString "here") = false := by decide +kernel
@[simp] theorem nq61 : (Str.ofString "pass_by" = Str.ofString "last") = False := eq_false (by decide +kernel)
@[simp] theorem nb61 : (Str.ofString "pass_by" == Str.ofString "last") = false := by decide +kernel
@[simp] theorem nq62 : (Str.ofString "pass_by" = Str.ofString "next") = False := eq_false (by decide +kernel)
@[simp] theorem nb62 : (Str.ofString "pass_by" == Str.ofString "next") = false := by decide +kernel
@[simp] theorem nq63 : (Str.ofString "pass_by" = Str.ofString "sheets") = False := eq_false (by decide +kernel)
@[simp] theorem nb63 : (Str.ofString "pass_by" == Str.ofString "sheets") = false := by decide +kernel
@[simp] theorem nq64 : (Str.ofString "put" = Str.ofString "blind") = False := eq_false (by decide +kernel)
@[simp] theorem nb64 : (Str.ofString "put" == Str.ofString "blind") = false := by decide +kernel
@[simp] theorem nq65 : (Str.ofString "put" = Str.ofString "ended") = False := eq_false (by decide +kernel)
@[simp] theorem nb65 : (Str.ofString "put" == Str.ofString "ended") = false := by decide +kernel
@[simp] theorem nq66 : (Str.ofString "put" = Str.ofString "here") = False := eq_false (by decide +kernel)
@[simp] theorem nb66 : (Str.ofString "put" == Str.ofString "here") = false := by decide +kernel
@[simp] theorem nq67 : (Str.ofString "put" = Str.ofString "last") = False := eq_false (by decide +kernel)
@[simp] theorem nb67 : (Str.ofString "put" == Str.ofString "last") = false := by decide +kernel
@[simp] theorem nq68 : (Str.ofString "put" = Str.ofString "next") = False := eq_false (by decide +kernel)
@[simp] theorem nb68 : (Str.ofString "put" == Str.ofString "next") = false := by decide +kernel
@[simp] theorem nq69 : (Str.ofString "put" = Str.ofString "sheets") = False := eq_false (by decide +kernel)
@[simp] theorem nb69 : (Str.ofString "put" == Str.ofString "sheets") = false := by decide +kernel
@[simp] theorem nq70 : (Str.ofString "read_page" = Str.ofString "blind") = False := eq_false (by decide +kernel)
@[simp] theorem nb70 : (Str.ofString "read_page" == Str.ofString "blind") = false := by decide +kernel
@[simp] theorem nq71 : (Str.ofString "read_page" = Str.ofString "ended") = False := eq_false (by decide +kernel)
@[simp] theorem nb71 : (Str.ofString "read_page" == Str.ofString "ended") = false := by decide +kernel
@[simp] theorem nq72 : (Str.ofString "read_page" = Str.ofString "here") = False := eq_false (by decide +kernel)
@[simp] theorem nb72 : (Str.ofString "read_page" == Str.ofString "here") = false := by decide +kernel
@[simp] theorem nq73 : (Str.ofString "read_page" = Str.ofString "last") = False := eq_false (by decide +kernel)
@[simp] theorem nb73 : (Str.ofString "read_page" == Str.ofString "last") = false := by decide +kernel
@[simp] theorem nq74 : (Str.ofString "read_page" = Str.ofString "next") = False := eq_false (by decide +kernel)
@[simp] theorem nb74 : (Str.ofString "read_page" == Str.ofString "next") = false := by decide +kernel
@[simp] theorem nq75 : (Str.ofString "read_page" = Str.ofString "sheets") = False := eq_false (by decide +kernel)
@[simp] theorem nb75 : (Str.ofString "read_page" == Str.ofString "sheets") = false := by decide +kernel
@[simp] theorem nq76 : (Str.ofString "rule" = Str.ofString "sheets") = False := eq_false (by decide +kernel)
@[simp] theorem nb76 : (Str.ofString "rule" == Str.ofString "sheets") = false := by decide +kernel
@[simp] theorem nq77 : (Str.ofString "rule" = Str.ofString "taken") = False := eq_false (by decide +kernel)
@[simp] theorem nb77 : (Str.ofString "rule" == Str.ofString "taken") = false := by decide +kernel
@[simp] theorem nq78 : (Str.ofString "rule" = Str.ofString "ways") = False := eq_false (by decide +kernel)
@[simp] theorem nb78 : (Str.ofString "rule" == Str.ofString "ways") = false := by decide +kernel
@[simp] theorem nq79 : (Str.ofString "run" = Str.ofString "blind") = False := eq_false (by decide +kernel)
@[simp] theorem nb79 : (Str.ofString "run" == Str.ofString "blind") = false := by decide +kernel
@[simp] theorem nq80 : (Str.ofString "run" = Str.ofString "ended") = False := eq_false (by decide +kernel)
@[simp] theorem nb80 : (Str.ofString "run" == Str.ofString "ended") = false := by decide +kernel
@[simp] theorem nq81 : (Str.ofString "run" = Str.ofString "here") = False := eq_false (by decide +kernel)
@[simp] theorem nb81 : (Str.ofString "run" == Str.ofString "here") = false := by decide +kernel
@[simp] theorem nq82 : (Str.ofString "run" = Str.ofString "last") = False := eq_false (by decide +kernel)
@[simp] theorem nb82 : (Str.ofString "run" == Str.ofString "last") = false := by decide +kernel
@[simp] theorem nq83 : (Str.ofString "run" = Str.ofString "next") = False := eq_false (by decide +kernel)
@[simp] theorem nb83 : (Str.ofString "run" == Str.ofString "next") = false := by decide +kernel
@[simp] theorem nq84 : (Str.ofString "run" = Str.ofString "sheets") = False := eq_false (by decide +kernel)
@[simp] theorem nb84 : (Str.ofString "run" == Str.ofString "sheets") = false := by decide +kernel
@[simp] theorem nq85 : (Str.ofString "runs" = Str.ofString "blind") = False := eq_false (by decide +kernel)
@[simp] theorem nb85 : (Str.ofString "runs" == Str.ofString "blind") = false := by decide +kernel
@[simp] theorem nq86 : (Str.ofString "runs" = Str.ofString "ended") = False := eq_false (by decide +kernel)
@[simp] theorem nb86 : (Str.ofString "runs" == Str.ofString "ended") = false := by decide +kernel
@[simp] theorem nq87 : (Str.ofString "runs" = Str.ofString "here") = False := eq_false (by decide +kernel)
@[simp] theorem nb87 : (Str.ofString "runs" == Str.ofString "here") = false := by decide +kernel
@[simp] theorem nq88 : (Str.ofString "runs" = Str.ofString "last") = False := eq_false (by decide +kernel)
@[simp] theorem nb88 : (Str.ofString "runs" == Str.ofString "last") = false := by decide +kernel
@[simp] theorem nq89 : (Str.ofString "runs" = Str.ofString "next") = False := eq_false (by decide +kernel)
@[simp] theorem nb89 : (Str.ofString "runs" == Str.ofString "next") = false := by decide +kernel
@[simp] theorem nq90 : (Str.ofString "runs" = Str.ofString "sheets") = False := eq_false (by decide +kernel)
@[simp] theorem nb90 : (Str.ofString "runs" == Str.ofString "sheets") = false := by decide +kernel
@[simp] theorem nq91 : (Str.ofString "sheets" = Str.ofString "blind") = False := eq_false (by decide +kernel)
@[simp] theorem nb91 : (Str.ofString "sheets" == Str.ofString "blind") = false := by decide +kernel
@[simp] theorem nq92 : (Str.ofString "sheets" = Str.ofString "ended") = False := eq_false (by decide +kernel)
@[simp] theorem nb92 : (Str.ofString "sheets" == Str.ofString "ended") = false := by decide +kernel
@[simp] theorem nq93 : (Str.ofString "sheets" = Str.ofString "here") = False := eq_false (by decide +kernel)
@[simp] theorem nb93 : (Str.ofString "sheets" == Str.ofString "here") = false := by decide +kernel
@[simp] theorem nq94 : (Str.ofString "sheets" = Str.ofString "last") = False := eq_false (by decide +kernel)
@[simp] theorem nb94 : (Str.ofString "sheets" == Str.ofString "last") = false := by decide +kernel
@[simp] theorem nq95 : (Str.ofString "sheets" = Str.ofString "next") = False := eq_false (by decide +kernel)
@[simp] theorem nb95 : (Str.ofString "sheets" == Str.ofString "next") = false := by decide +kernel
@[simp] theorem nq96 : (Str.ofString "sheets" = Str.ofString "rule") = False := eq_false (by decide +kernel)
@[simp] theorem nb96 : (Str.ofString "sheets" == Str.ofString "rule") = false := by decide +kernel
@[simp] theorem nq97 : (Str.ofString "sheets" = Str.ofString "taken") = False := eq_false (by decide +kernel)
@[simp] theorem nb97 : (Str.ofString "sheets" == Str.ofString "taken") = false := by decide +kernel
@[simp] theorem nq98 : (Str.ofString "sheets" = Str.ofString "ways") = False := eq_false (by decide +kernel)
@[simp] theorem nb98 : (Str.ofString "sheets" == Str.ofString "ways") = false := by decide +kernel
@[simp] theorem nq99 : (Str.ofString "slip" = Str.ofString "blind") = False := eq_false (by decide +kernel)
@[simp] theorem nb99 : (Str.ofString "slip" == Str.ofString "blind") = false := by decide +kernel
@[simp] theorem nq100 : (Str.ofString "slip" = Str.ofString "ended") = False := eq_false (by decide +kernel)
@[simp] theorem nb100 : (Str.ofString "slip" == Str.ofString "ended") = false := by decide +kernel
@[simp] theorem nq101 : (Str.ofString "slip" = Str.ofString "here") = False := eq_false (by decide +kernel)
@[simp] theorem nb101 : (Str.ofString "slip" == Str.ofString "here") = false := by decide +kernel
@[simp] theorem nq102 : (Str.ofString "slip" = Str.ofString "last") = False := eq_false (by decide +kernel)
@[simp] theorem nb102 : (Str.ofString "slip" == Str.ofString "last") = false := by decide +kernel
@[simp] theorem nq103 : (Str.ofString "slip" = Str.ofString "next") = False := eq_false (by decide +kernel)
@[simp] theorem nb103 : (Str.ofString "slip" == Str.ofString "next") = false := by decide +kernel
@[simp] theorem nq104 : (Str.ofString "slip" = Str.ofString "sheets") = False := eq_false (by decide +kernel)
@[simp] theorem nb104 : (Str.ofString "slip" == Str.ofString "sheets") = false := by decide +kernel
@[simp] theorem nq105 : (Str.ofString "steps" = Str.ofString "rule") = False := eq_false (by decide +kernel)
@[simp] theorem nb105 : (Str.ofString "steps" == Str.ofString "rule") = false := by decide +kernel
@[simp] theorem nq106 : (Str.ofString "steps" = Str.ofString "sheets") = False := eq_false (by decide +kernel)
@[simp] theorem nb106 : (Str.ofString "steps" == Str.ofString "sheets") = false := by decide +kernel
@[simp] theorem nq107 : (Str.ofString "steps" = Str.ofString "taken") = False := eq_false (by decide +kernel)
@[simp] theorem nb107 : (Str.ofString "steps" == Str.ofString "taken") = false := by decide +kernel
@[simp] theorem nq108 : (Str.ofString "steps" = Str.ofString "ways") = False := eq_false (by decide +kernel)
@[simp] theorem nb108 : (Str.ofString "steps" == Str.ofString "ways") = false := by decide +kernel
@[simp] theorem nq109 : (Str.ofString "take" = Str.ofString "blind") = False := eq_false (by decide +kernel)
@[simp] theorem nb109 : (Str.ofString "take" == Str.ofString "blind") = false := by decide +kernel
@[simp] theorem nq110 : (Str.ofString "take" = Str.ofString "ended") = False := eq_false (by decide +kernel)
@[simp] theorem nb110 : (Str.ofString "take" == Str.ofString "ended") = false := by decide +kernel
@[simp] theorem nq111 : (Str.ofString "take" = Str.ofString "here") = False := eq_false (by decide +kernel)
@[simp] theorem nb111 : (Str.ofString "take" == Str.ofString "here") = false := by decide +kernel
@[simp] theorem nq112 : (Str.ofString "take" = Str.ofString "last") = False := eq_false (by decide +kernel)
@[simp] theorem nb112 : (Str.ofString "take" == Str.ofString "last") = false := by decide +kernel
@[simp] theorem nq113 : (Str.ofString "take" = Str.ofString "next") = False := eq_false (by decide +kernel)
@[simp] theorem nb113 : (Str.ofString "take" == Str.ofString "next") = false := by decide +kernel
@[simp] theorem nq114 : (Str.ofString "take" = Str.ofString "sheets") = False := eq_false (by decide +kernel)
@[simp] theorem nb114 : (Str.ofString "take" == Str.ofString "sheets") = false := by decide +kernel
@[simp] theorem nq115 : (Str.ofString "taken" = Str.ofString "rule") = False := eq_false (by decide +kernel)
@[simp] theorem nb115 : (Str.ofString "taken" == Str.ofString "rule") = false := by decide +kernel
@[simp] theorem nq116 : (Str.ofString "taken" = Str.ofString "sheets") = False := eq_false (by decide +kernel)
@[simp] theorem nb116 : (Str.ofString "taken" == Str.ofString "sheets") = false := by decide +kernel
@[simp] theorem nq117 : (Str.ofString "taken" = Str.ofString "ways") = False := eq_false (by decide +kernel)
@[simp] theorem nb117 : (Str.ofString "taken" == Str.ofString "ways") = false := by decide +kernel
@[simp] theorem nq118 : (Str.ofString "twice" = Str.ofString "blind") = False := eq_false (by decide +kernel)
@[simp] theorem nb118 : (Str.ofString "twice" == Str.ofString "blind") = false := by decide +kernel
@[simp] theorem nq119 : (Str.ofString "twice" = Str.ofString "ended") = False := eq_false (by decide +kernel)
@[simp] theorem nb119 : (Str.ofString "twice" == Str.ofString "ended") = false := by decide +kernel
@[simp] theorem nq120 : (Str.ofString "twice" = Str.ofString "here") = False := eq_false (by decide +kernel)
@[simp] theorem nb120 : (Str.ofString "twice" == Str.ofString "here") = false := by decide +kernel
@[simp] theorem nq121 : (Str.ofString "twice" = Str.ofString "last") = False := eq_false (by decide +kernel)
@[simp] theorem nb121 : (Str.ofString "twice" == Str.ofString "last") = false := by decide +kernel
@[simp] theorem nq122 : (Str.ofString "twice" = Str.ofString "next") = False := eq_false (by decide +kernel)
@[simp] theorem nb122 : (Str.ofString "twice" == Str.ofString "next") = false := by decide +kernel
@[simp] theorem nq123 : (Str.ofString "twice" = Str.ofString "sheets") = False := eq_false (by decide +kernel)
@[simp] theorem nb123 : (Str.ofString "twice" == Str.ofString "sheets") = false := by decide +kernel
@[simp] theorem nq124 : (Str.ofString "waits" = Str.ofString "blind") = False := eq_false (by decide +kernel)
@[simp] theorem nb124 : (Str.ofString "waits" == Str.ofString "blind") = false := by decide +kernel
@[simp] theorem nq125 : (Str.ofString "waits" = Str.ofString "ended") = False := eq_false (by decide +kernel)
@[simp] theorem nb125 : (Str.ofString "waits" == Str.ofString "ended") = false := by decide +kernel
@[simp] theorem nq126 : (Str.ofString "waits" = Str.ofString "here") = False := eq_false (by decide +kernel)
@[simp] theorem nb126 : (Str.ofString "waits" == Str.ofString "here") = false := by decide +kernel
@[simp] theorem nq127 : (Str.ofString "waits" = Str.ofString "last") = False := eq_false (by decide +kernel)
@[simp] theorem nb127 : (Str.ofString "waits" == Str.ofString "last") = false := by decide +kernel
@[simp] theorem nq128 : (Str.ofString "waits" = Str.ofString "next") = False := eq_false (by decide +kernel)
@[simp] theorem nb128 : (Str.ofString "waits" == Str.ofString "next") = false := by decide +kernel
@[simp] theorem nq129 : (Str.ofString "waits" = Str.ofString "sheets") = False := eq_false (by decide +kernel)
@[simp] theorem nb129 : (Str.ofString "waits" == Str.ofString "sheets") = false := by decide +kernel
@[simp] theorem nq130 : (Str.ofString "ways" = Str.ofString "rule") = False := eq_false (by decide +kernel)
@[simp] theorem nb130 : (Str.ofString "ways" == Str.ofString "rule") = false := by decide +kernel
@[simp] theorem nq131 : (Str.ofString "ways" = Str.ofString "sheets") = False := eq_false (by decide +kernel)
@[simp] theorem nb131 : (Str.ofString "ways" == Str.ofString "sheets") = false := by decide +kernel
@[simp] theorem nq132 : (Str.ofString "ways" = Str.ofString "taken") = False := eq_false (by decide +kernel)
@[simp] theorem nb132 : (Str.ofString "ways" == Str.ofString "taken") = false := by decide +kernel
@[simp] theorem eqv_nn : PyData.eqv .none .none = true := rfl
@[simp] theorem eqv_ni (i : Int) : PyData.eqv .none (.int i) = false := rfl
@[simp] theorem eqv_in (i : Int) : PyData.eqv (.int i) .none = false := rfl
@[simp] theorem eqv_bb (p q : Bool) : PyData.eqv (.bool p) (.bool q) = (p == q) := rfl
@[simp] theorem eqv_ss (x y : Str) : PyData.eqv (.str x) (.str y) = (x == y) := rfl
@[simp] theorem eqv_ll (xs ys : List T) : PyData.eqv (.list xs) (.list ys) = PyData.eqvAll xs ys := by rw [PyData.eqv]
@[simp] theorem eqv_tt (xs ys : List T) : PyData.eqv (.tuple xs) (.tuple ys) = PyData.eqvAll xs ys := by rw [PyData.eqv]
@[simp] theorem eqvAll_nn : PyData.eqvAll [] [] = true := by rw [PyData.eqvAll]
@[simp] theorem eqvAll_cc (x y : T) (xs ys : List T) : PyData.eqvAll (x :: xs) (y :: ys) = (PyData.eqv x y && PyData.eqvAll xs ys) := by rw [PyData.eqvAll]
@[simp] theorem eqvAll_nc (y : T) (ys : List T) : PyData.eqvAll [] (y :: ys) = false := by rw [PyData.eqvAll]
@[simp] theorem eqvAll_cn (y : T) (ys : List T) : PyData.eqvAll (y :: ys) [] = false := by rw [PyData.eqvAll]
theorem eqvAll_nil (xs : List T) : PyData.eqvAll xs [] = xs.isEmpty := by cases xs <;> simp
theorem depth_nil : (PyData.list []).depth ≤ 60 := by decide
@[simp] theorem eqT_nil (xs : List T) : eqT (.list xs) (.list []) = some xs.isEmpty := by
  unfold eqT
  rw [if_pos (Nat.le_trans (Nat.min_le_right _ _) depth_nil), eqv_ll, eqvAll_nil]
@[simp] theorem neT_nil (xs : List T) : neT (.list xs) (.list []) = some (!xs.isEmpty) := by
  unfold neT
  rw [if_pos (Nat.le_trans (Nat.min_le_right _ _) depth_nil), eqv_ll, eqvAll_nil]
/-- no dict within -/
abbrev plainD (t : T) : Prop := PyData.plain t = true
theorem eqv_self {t : T} (h : plainD t) : PyData.eqv t t = true := PySem.SeqAt.eqv_refl_plain t h
/-! ### loops -/
section
variable {gt : Tgt} {fb : FS} {ts : List T} {ρ : En} {h : Hs}
@[simp] theorem forL_nil : forL gt fb [] ρ h = .ok (.next ρ) h := rfl
def kForL (gt : Tgt) (fb : FS) (ts : List T) : Out → Hs → Res Out := fun o h => match o with
  | .next ρ => forL gt fb ts ρ h
  | .ret r => .ok (.ret r) h
@[simp] theorem kForL_n (ρ : En) (h : Hs) : kForL gt fb ts (.next ρ) h = forL gt fb ts ρ h := rfl
@[simp] theorem kForL_r (r : Ret) (h : Hs) : kForL gt fb ts (.ret r) h = .ok (.ret r) h := rfl
@[simp] theorem forL_cons (t : T) : forL gt fb (t :: ts) ρ h = (match gt t ρ with
    | none => .bad
    | some ρ1 => (fb ρ1 h).bind (kForL gt fb ts)) := rfl
/-- one turn -/
def Turn1 (gt : Tgt) (fb : FS) (t : T) (ρ : En) (h : Hs) : Res Out := match gt t ρ with
  | none => .bad
  | some ρ1 => fb ρ1 h
theorem forL_turn (t : T) : forL gt fb (t :: ts) ρ h = (Turn1 gt fb t ρ h).bind fun o h => match o with
      | .next ρ' => forL gt fb ts ρ' h
      | .ret r => .ok (.ret r) h := by
  unfold Turn1
  rw [forL]
  dsimp only
  cases gt t ρ <;> rfl
/-- a loop by an invariant; J: what holds where it returns -/
theorem forL_inv (I : Nat → En → Hs → Prop) (J : Ret → Hs → Prop) (h0 : I 0 ρ h) (hs : ∀ k t ρ h, ts[k]? = some t → I k ρ h → ∃ o h', Turn1 gt fb t ρ h = .ok o h' ∧ (match o with
    | .next ρ' => I (k + 1) ρ' h'
    | .ret r => J r h')) : ∃ o h', forL gt fb ts ρ h = .ok o h' ∧ (match o with
    | .next ρ' => I ts.length ρ' h'
    | .ret r => J r h') := by
  induction ts generalizing ρ h I with
  | nil => exact ⟨.next ρ, h, rfl, h0⟩
  | cons t ts ih =>
    obtain ⟨o, h1, e1, q⟩ := hs 0 t ρ h rfl h0
    rw [forL_turn, e1]
    cases o with
    | ret r => exact ⟨.ret r, h1, rfl, q⟩
    | next ρ1 => exact ih (fun k => I (k + 1)) q fun k t ρ h e i => hs (k + 1) t ρ h (by simpa using e) i
/-- .. that never returns -/
theorem forL_go (I : Nat → En → Hs → Prop) (h0 : I 0 ρ h) (hs : ∀ k t ρ h, ts[k]? = some t → I k ρ h → ∃ ρ' h', Turn1 gt fb t ρ h = .ok (.next ρ') h' ∧ I (k + 1) ρ' h') : ∃ ρ' h', forL gt fb ts ρ h = .ok (.next ρ') h' ∧ I ts.length ρ' h' := by
  obtain ⟨o, h', e, q⟩ := forL_inv (gt := gt) (fb := fb) (ts := ts) I (fun _ _ => False) h0 fun k t ρ h e i => by
    obtain ⟨ρ', h', e1, q⟩ := hs k t ρ h e i
    exact ⟨.next ρ', h', e1, q⟩
  cases o with
  | next ρ' => exact ⟨ρ', h', e, q⟩
  | ret r => exact q.elim
/-- it ends, and Q holds -/
def WP {α : Type} (r : Res α) (Q : α → Hs → Prop) : Prop := ∃ a h, r = .ok a h ∧ Q a h
theorem wp_ok {α : Type} {a : α} {h : Hs} {Q : α → Hs → Prop} (q : Q a h) : WP (.ok a h) Q := ⟨a, h, rfl, q⟩
theorem forL_of {F : Res Out} (hF : forL gt fb ts ρ h = F) (I : Nat → En → Hs → Prop) (h0 : I 0 ρ h) (hs : ∀ k t ρ h, ts[k]? = some t → I k ρ h → ∀ Q : Out → Hs → Prop, (∀ ρ' h', I (k + 1) ρ' h' → Q (.next ρ') h') → WP (Turn1 gt fb t ρ h) Q) : ∃ ρ' h', F = .ok (.next ρ') h' ∧ I ts.length ρ' h' := by
  rw [← hF]
  refine forL_go I h0 fun k t ρ h e i => ?_
  obtain ⟨o, h', e1, ρ', rfl, q⟩ := hs k t ρ h e i (fun o h' => ∃ ρ', o = .next ρ' ∧ I (k + 1) ρ' h') fun ρ' h' q => ⟨ρ', rfl, q⟩
  exact ⟨ρ', h', e1, q⟩
theorem forL_ofR {F : Res Out} (hF : forL gt fb ts ρ h = F) (I : Nat → En → Hs → Prop) (J : Ret → Hs → Prop) (h0 : I 0 ρ h) (hs : ∀ k t ρ h, ts[k]? = some t → I k ρ h → ∀ Q : Out → Hs → Prop, (∀ ρ' h', I (k + 1) ρ' h' → Q (.next ρ') h') → (∀ r h', J r h' → Q (.ret r) h') → WP (Turn1 gt fb t ρ h) Q) :
    (∃ ρ' h', F = .ok (.next ρ') h' ∧ I ts.length ρ' h') ∨ ∃ r h', F = .ok (.ret r) h' ∧ J r h' := by
  rw [← hF]
  obtain ⟨o, h', e, q⟩ := forL_inv (gt := gt) (fb := fb) (ts := ts) I J h0 fun k t ρ h e i => by
    obtain ⟨o, h', e1, q⟩ := hs k t ρ h e i (fun o h' => match o with
      | .next ρ' => I (k + 1) ρ' h'
      | .ret r => J r h') (fun _ _ q => q) fun _ _ q => q
    exact ⟨o, h', e1, q⟩
  cases o with
  | next ρ' => exact .inl ⟨ρ', h', e, q⟩
  | ret r => exact .inr ⟨r, h', e, q⟩
end
section
variable {gt : Tgt} {fc : FB} {fe : FE} {ρ : En}
@[simp] theorem compL_nil {h : Hs} : compL gt ρ fc fe [] h = .ok [] h := rfl
def kCp3 (u : T) : List T → Hs → Res (List T) := fun us h => .ok (u :: us) h
def kCp2 (gt : Tgt) (ρ : En) (fc : FB) (fe : FE) (ts : List T) : D → Hs → Res (List T) := fun d h => match d with
  | .dat u => (compL gt ρ fc fe ts h).bind (kCp3 u)
  | _ => .bad
def kCp1 (gt : Tgt) (ρ : En) (fc : FB) (fe : FE) (ts : List T) (ρ1 : En) : Bool → Hs → Res (List T) := fun b h => match b with
  | true => (noX (fe ρ1 h)).bind (kCp2 gt ρ fc fe ts)
  | false => compL gt ρ fc fe ts h
@[simp] theorem kCp3_ap (u : T) (us : List T) (h : Hs) : kCp3 u us h = .ok (u :: us) h := rfl
@[simp] theorem kCp2_ap (ts : List T) (u : T) (h : Hs) : kCp2 gt ρ fc fe ts (.dat u) h = (compL gt ρ fc fe ts h).bind (kCp3 u) := rfl
@[simp] theorem kCp1_t (ts : List T) (ρ1 : En) (h : Hs) : kCp1 gt ρ fc fe ts ρ1 true h = (noX (fe ρ1 h)).bind (kCp2 gt ρ fc fe ts) := rfl
@[simp] theorem kCp1_f (ts : List T) (ρ1 : En) (h : Hs) : kCp1 gt ρ fc fe ts ρ1 false h = compL gt ρ fc fe ts h := rfl
@[simp] theorem compL_cons {h : Hs} (t : T) (ts : List T) : compL gt ρ fc fe (t :: ts) h = (match gt t ρ with
  | none => .bad
  | some ρ1 => (noX (fc ρ1 h)).bind (kCp1 gt ρ fc fe ts ρ1)) := rfl
/-- a comprehension that leaves the objects -/
theorem compL_pure {h : Hs} (p : T → Bool) (f : T → T) : ∀ {ts : List T}, (∀ t ∈ ts, ∃ ρ1, gt t ρ = some ρ1 ∧ fc ρ1 h = .ok (p t) h ∧ (p t = true → fe ρ1 h = .ok (.dat (f t)) h)) → compL gt ρ fc fe ts h = .ok ((ts.filter p).map f) h
  | [], _ => rfl
  | t :: ts, hs => by
    obtain ⟨ρ1, e1, e2, e3⟩ := hs t (List.mem_cons_self ..)
    have ih := compL_pure p f (ts := ts) fun t ht => hs t (List.mem_cons_of_mem _ ht)
    rw [compL, e1]
    dsimp only
    rw [e2]
    cases hp : p t with
    | false =>
      simp only [noX_ok, bind_ok]
      rw [ih, List.filter_cons_of_neg (by simp [hp])]
    | true =>
      rw [noX_ok, bind_ok]
      dsimp only
      rw [e3 hp]
      simp only [noX_ok, bind_ok]
      rw [ih, List.filter_cons_of_pos hp]
      rfl
/-- one that draws: by a relation -/
theorem compL_inv (I : Nat → List T → Hs → Prop) : ∀ {ts : List T} {h : Hs} (h0 : I 0 [] h) (hs : ∀ k t us h, ts[k]? = some t → I k us h → ∃ ρ1 b h1, gt t ρ = some ρ1 ∧ fc ρ1 h = .ok b h1 ∧ (match b with
    | false => I (k + 1) us h1
    | true => ∃ u h2, fe ρ1 h1 = .ok (.dat u) h2 ∧ I (k + 1) (us ++ [u]) h2)), ∃ us h', compL gt ρ fc fe ts h = .ok us h' ∧ I ts.length us h' := by
  intro ts
  have key : ∀ (ts : List T) (I : Nat → List T → Hs → Prop) (acc : List T) (h : Hs) (h0 : I 0 acc h) (hs : ∀ k t us h, ts[k]? = some t → I k us h → ∃ ρ1 b h1, gt t ρ = some ρ1 ∧ fc ρ1 h = .ok b h1 ∧ (match b with
    | false => I (k + 1) us h1
    | true => ∃ u h2, fe ρ1 h1 = .ok (.dat u) h2 ∧ I (k + 1) (us ++ [u]) h2)), ∃ us h', compL gt ρ fc fe ts h = .ok us h' ∧ I ts.length (acc ++ us) h' := by
    intro ts
    induction ts with
    | nil => exact fun I acc h h0 _ => ⟨[], h, rfl, by simpa using h0⟩
    | cons t ts ih =>
      intro I acc h h0 hs
      obtain ⟨ρ1, b, h1, e1, e2, q⟩ := hs 0 t acc h rfl h0
      rw [compL, e1]
      dsimp only
      rw [e2]
      simp only [noX_ok, bind_ok]
      cases b with
      | false => exact ih (fun k => I (k + 1)) acc h1 q fun k t us h e i => hs (k + 1) t us h (by simpa using e) i
      | true =>
        obtain ⟨u, h2, e3, q⟩ := q
        dsimp only
        rw [e3]
        obtain ⟨us, h', e4, q⟩ := ih (fun k => I (k + 1)) (acc ++ [u]) h2 q fun k t us h e i => hs (k + 1) t us h (by simpa using e) i
        refine ⟨u :: us, h', ?_, by simpa using q⟩
        simp only [noX_ok, bind_ok]
        rw [e4]
        rfl
  intro h h0 hs
  obtain ⟨us, h', e, q⟩ := key ts I [] h h0 hs
  exact ⟨us, h', e, by simpa using q⟩
theorem compL_of {ts : List T} {h : Hs} {F : Res (List T)} (hF : compL gt ρ fc fe ts h = F) (p : T → Bool) (f : T → T) (hs : ∀ t ∈ ts, ∃ ρ1, gt t ρ = some ρ1 ∧ fc ρ1 h = .ok (p t) h ∧ (p t = true → fe ρ1 h = .ok (.dat (f t)) h)) : F = .ok ((ts.filter p).map f) h := by
  rw [← hF]
  exact compL_pure p f hs
@[simp] theorem filter_yes {α : Type} (l : List α) : l.filter (fun _ => true) = l := List.filter_eq_self.mpr fun _ _ => rfl
/-- over encoded items -/
theorem compL_map {α : Type} {enc : α → T} {h : Hs} (p : α → Bool) (g : α → T) : ∀ {l : List α}, (∀ a ∈ l, ∃ ρ1, gt (enc a) ρ = some ρ1 ∧ fc ρ1 h = .ok (p a) h ∧ (p a = true → fe ρ1 h = .ok (.dat (g a)) h)) → compL gt ρ fc fe (l.map enc) h = .ok ((l.filter p).map g) h
  | [], _ => rfl
  | a :: l, hs => by
    obtain ⟨ρ1, e1, e2, e3⟩ := hs a (List.mem_cons_self ..)
    have ih := compL_map p g (l := l) fun t ht => hs t (List.mem_cons_of_mem _ ht)
    rw [List.map_cons, compL, e1]
    dsimp only
    rw [e2]
    cases hp : p a with
    | false =>
      simp only [noX_ok, bind_ok]
      rw [ih, List.filter_cons_of_neg (by simp [hp])]
    | true =>
      rw [noX_ok, bind_ok]
      dsimp only
      rw [e3 hp]
      simp only [noX_ok, bind_ok]
      rw [ih, List.filter_cons_of_pos hp]
      rfl
theorem compL_ofM {α : Type} {enc : α → T} {l : List α} {h : Hs} {F : Res (List T)} (hF : compL gt ρ fc fe (l.map enc) h = F) (p : α → Bool) (g : α → T) (hs : ∀ a ∈ l, ∃ ρ1, gt (enc a) ρ = some ρ1 ∧ fc ρ1 h = .ok (p a) h ∧ (p a = true → fe ρ1 h = .ok (.dat (g a)) h)) : F = .ok ((l.filter p).map g) h := by
  rw [← hF]
  exact compL_map p g hs
theorem compL_ofI {ts : List T} {h : Hs} {F : Res (List T)} (hF : compL gt ρ fc fe ts h = F) (I : Nat → List T → Hs → Prop) (h0 : I 0 [] h) (hs : ∀ k t us h, ts[k]? = some t → I k us h → ∃ ρ1, gt t ρ = some ρ1 ∧ ∀ Q : T → Hs → Prop, (∀ u h2, I (k + 1) (us ++ [u]) h2 → Q u h2) → fc ρ1 h = .ok true h ∧ WP (fe ρ1 h) fun d h => ∃ u, d = .dat u ∧ Q u h) : ∃ us h', F = .ok us h' ∧ I ts.length us h' := by
  rw [← hF]
  refine compL_inv I h0 fun k t us h e i => ?_
  obtain ⟨ρ1, e1, hq⟩ := hs k t us h e i
  obtain ⟨e2, d, h2, e3, u, rfl, q⟩ := hq (fun u h2 => I (k + 1) (us ++ [u]) h2) fun _ _ q => q
  exact ⟨ρ1, true, h, e1, e2, u, h2, e3, q⟩
end
theorem rngOk_0 (j : Int) : (rngOk 0 j = true) = (-1000000 ≤ j ∧ j ≤ 1000000) := by
  unfold rngOk
  simp
theorem rngOk_i (i j : Int) : (rngOk i j = true) = ((-1000000 ≤ i ∧ i ≤ 1000000) ∧ -1000000 ≤ j ∧ j ≤ 1000000) := by
  unfold rngOk
  simp
/-- a truth value that tells P -/
def RB (r : Res Ret) (h : Hs) (P : Prop) : Prop := ∃ b, r = .ok (.val (.dat (.bool b))) h ∧ (b = true ↔ P)
theorem RB_ok {b : Bool} {h : Hs} {P : Prop} (e : b = true ↔ P) : RB (.ok (.val (.dat (.bool b))) h) h P := ⟨b, rfl, e⟩
theorem RB_no {h : Hs} {P : Prop} (e : ¬ P) : RB (.ok (.val (.dat (.bool false))) h) h P := ⟨false, rfl, by simp [e]⟩
theorem rngOk_of {i j : Int} (h1 : -1000000 ≤ i) (h2 : i ≤ 1000000) (h3 : -1000000 ≤ j) (h4 : j ≤ 1000000) : rngOk i j = true := by
  rw [rngOk_i]
  exact ⟨⟨h1, h2⟩, h3, h4⟩
end Pf
set_option Elab.async false
set_option linter.all false
set_option maxRecDepth 100000
set_option maxHeartbeats 2000000
namespace Pf
open PySem PySem.Spec PyProof.Rows L2
/-! ### applied forms of the newer combinators -/
def lendBk (h : Hs) : Res Bool → Res Bool
  | .ok b _ => .ok b h
  | _ => .bad
@[simp] theorem lendBk_ok (h h' : Hs) (b : Bool) : lendBk h (.ok b h') = .ok b h := rfl
@[simp] theorem ev_fLendB (f : FB) (ρ : En) (h : Hs) : fLendB f ρ h = lendBk h (f (ρ.map lendS) []) := by
  unfold fLendB lendBk
  cases f (ρ.map lendS) [] <;> rfl
@[simp] theorem lendS_own (ts : List T) : lendS (.own ts) = .val (.dat (.list ts)) := rfl
@[simp] theorem lendS_dat (t : T) : lendS (.val (.dat t)) = .val (.dat t) := rfl
@[simp] theorem lendS_obj (n : Nat) : lendS (.val (.obj n)) = .un := rfl
@[simp] theorem lendS_scr (n : List Int) : lendS (.val (.scr n)) = .val (.scr n) := rfl
@[simp] theorem lendS_un : lendS .un = .un := rfl
@[simp] theorem lendS_vd (t : T) : lendS (vd t) = vd t := rfl
@[simp] theorem lendS_vi (t : Int) : lendS (vi t) = vi t := rfl
def kLRg1 : T → Hs → Res Ret := fun t h => match t with
  | .int n => if rngOk 0 n = true then .ok (.own (rngT 0 n.toNat)) h else .bad
  | _ => .bad
@[simp] theorem ev_fLRg1 (fa : FT) (ρ : En) (h : Hs) : fLRg1 fa ρ h = (fa ρ h).bind kLRg1 := rfl
@[simp] theorem kLRg1_ap (n : Int) (h : Hs) : kLRg1 (.int n) h = if rngOk 0 n = true then .ok (.own (rngT 0 n.toNat)) h else .bad := rfl
def kLRg2b (t : T) : T → Hs → Res Ret := fun u h => match t, u with
  | .int m, .int n => if rngOk m n = true then .ok (.own (rngT m (n - m).toNat)) h else .bad
  | _, _ => .bad
def kLRg2 (fb : FT) (ρ : En) : T → Hs → Res Ret := fun t h => (fb ρ h).bind (kLRg2b t)
@[simp] theorem ev_fLRg2 (fa fb : FT) (ρ : En) (h : Hs) : fLRg2 fa fb ρ h = (fa ρ h).bind (kLRg2 fb ρ) := rfl
@[simp] theorem kLRg2_ap (fb : FT) (ρ : En) (t : T) (h : Hs) : kLRg2 fb ρ t h = (fb ρ h).bind (kLRg2b t) := rfl
@[simp] theorem kLRg2b_ap (m n : Int) (h : Hs) : kLRg2b (.int m) (.int n) h = if rngOk m n = true then .ok (.own (rngT m (n - m).toNat)) h else .bad := rfl
def kSetIb (i : Nat) (ρ : En) (ts : List T) (d : D) : T → Hs → Res Out := fun t h => match d, t with
  | .dat u, .int k => (match L2.ixN ts.length k with
    | some j => .ok (.next (ρ.set i (.own (ts.set j u)))) h
    | none => .bad)
  | _, _ => .bad
def kSetI (i : Nat) (fk : FT) (ρ : En) (ts : List T) : D → Hs → Res Out := fun d h => (fk ρ h).bind (kSetIb i ρ ts d)
@[simp] theorem ev_fSetI (i : Nat) (fk : FT) (fv : FE) (ρ : En) (h : Hs) : fSetI i fk fv ρ h = (match ρ[i]? with
  | some (.own ts) => (fv ρ h).bind (kSetI i fk ρ ts)
  | _ => .bad) := rfl
@[simp] theorem kSetI_ap (i : Nat) (fk : FT) (ρ : En) (ts : List T) (d : D) (h : Hs) : kSetI i fk ρ ts d h = (fk ρ h).bind (kSetIb i ρ ts d) := rfl
theorem kSetIb_ap {i : Nat} {ρ : En} {ts : List T} {u : T} {k : Int} {j : Nat} (h : Hs) (e : L2.ixN ts.length k = some j) : kSetIb i ρ ts (.dat u) (.int k) h = .ok (.next (ρ.set i (.own (ts.set j u)))) h := by
  unfold kSetIb
  simp only [e]
def kRepb (x : T) : T → Hs → Res Ret := fun y h => match x, y with
  | .list xs, .int n => if (decide (0 ≤ n) && decide (n ≤ 1000) && decide (xs.length ≤ 1000)) = true then .ok (.own (List.replicate n.toNat xs).flatten) h else .bad
  | _, _ => .bad
def kRep (fb : FT) (ρ : En) : T → Hs → Res Ret := fun x h => (fb ρ h).bind (kRepb x)
@[simp] theorem ev_fRep (fa fb : FT) (ρ : En) (h : Hs) : fRep fa fb ρ h = (fa ρ h).bind (kRep fb ρ) := rfl
@[simp] theorem kRep_ap (fb : FT) (ρ : En) (x : T) (h : Hs) : kRep fb ρ x h = (fb ρ h).bind (kRepb x) := rfl
@[simp] theorem kRepb_ap (xs : List T) (n : Int) (h : Hs) : kRepb (.list xs) (.int n) h = if (decide (0 ≤ n) && decide (n ≤ 1000) && decide (xs.length ≤ 1000)) = true then .ok (.own (List.replicate n.toNat xs).flatten) h else .bad := rfl
def kSorted : List T → Hs → Res Ret := fun ts h => match ts with
  | [.list ts] => if sortOk ts = true then .ok (.own (sortD ts)) h else .bad
  | _ => .bad
@[simp] theorem ev_fSorted (f : FL) (ρ : En) (h : Hs) : fSorted f ρ h = (f ρ h).bind kSorted := rfl
theorem kSorted_ap {ts : List T} (h : Hs) (ok : sortOk ts = true) : kSorted [.list ts] h = .ok (.own (sortD ts)) h := by
  show (if sortOk ts = true then _ else _) = _
  rw [if_pos ok]
def kSortSet : List T → Hs → Res Ret := fun ts h => match ts with
  | [.list ts] => match setOf ts with
    | some us => .ok (.own us) h
    | none => .bad
  | _ => .bad
@[simp] theorem ev_fSortSet (f : FL) (ρ : En) (h : Hs) : fSortSet f ρ h = (f ρ h).bind kSortSet := rfl
theorem kSortSet_ap {ts us : List T} (h : Hs) (ok : setOf ts = some us) : kSortSet [.list ts] h = .ok (.own us) h := by
  show (match setOf ts with | some us => _ | none => _) = _
  rw [ok]
def kLenSet : List T → Hs → Res D := fun ts h => match ts with
  | [.list ts] => match lenSet ts with
    | some r => .ok (.dat r) h
    | none => .bad
  | _ => .bad
@[simp] theorem ev_fLenSet (f : FL) (ρ : En) (h : Hs) : fLenSet f ρ h = (f ρ h).bind kLenSet := rfl
theorem kLenSet_ap {ts : List T} {r : T} (h : Hs) (ok : lenSet ts = some r) : kLenSet [.list ts] h = .ok (.dat r) h := by
  show (match lenSet ts with | some r => _ | none => _) = _
  rw [ok]
@[simp] theorem ev_fSetDic (i : Nat) (ρ : En) (h : Hs) : fSetDic i ρ h = .ok (.next (ρ.set i (.dic []))) h := rfl
def kDPutS (i j : Nat) (ρ : En) : D → Hs → Res Out := fun d h => match d, ρ[i]?, keyS ρ j with
  | .dat u, some (.dic kvs), some q => if kvs.length < 1000000 then .ok (.next (ρ.set i (.dic (putT kvs q u)))) h else .bad
  | _, _, _ => .bad
@[simp] theorem ev_fDPutS (i j : Nat) (fv : FE) (ρ : En) (h : Hs) : fDPutS i j fv ρ h = (fv ρ h).bind (kDPutS i j ρ) := rfl
theorem kDPutS_ap {i j : Nat} {ρ : En} {u : T} {kvs : List (List Key × T)} {q : List Key} (h : Hs) (h1 : ρ[i]? = some (.dic kvs)) (h2 : keyS ρ j = some q) (h3 : kvs.length < 1000000) : kDPutS i j ρ (.dat u) h = .ok (.next (ρ.set i (.dic (putT kvs q u)))) h := by
  unfold kDPutS
  rw [h1, h2]
  exact if_pos h3
theorem fSortDic_ap {i : Nat} {ρ : En} {kvs : List (List Key × T)} {l : List (List Int)} (h : Hs) (h1 : ρ[i]? = some (.dic kvs)) (h2 : keysI kvs = some l) (h3 : sortOk (l.map tupI) = true) : fSortDic i ρ h = .ok (.own ((l.mergeSort (PySem.W.dataLe false tupI)).map tupI)) h := by
  unfold fSortDic
  rw [h1]
  simp only [h2]
  exact if_pos h3
def kDGet (cn k : Str) (j : Nat) (ρ : En) : D → Hs → Res D := fun d h => match d with
  | .obj n => match dicAt h cn k n, keyS ρ j with
    | some kvs, some q => (match valT kvs q with
      | some u => .ok (.dat u) h
      | none => .bad)
    | _, _ => .bad
  | _ => .bad
@[simp] theorem ev_fDGet (cn k : Str) (fo : FE) (j : Nat) (ρ : En) (h : Hs) : fDGet cn k fo j ρ h = (fo ρ h).bind (kDGet cn k j ρ) := by
  unfold fDGet
  congr 1
theorem kDGet_ap {cn k : Str} {j n : Nat} {ρ : En} {kvs : List (List Key × T)} {q : List Key} {u : T} (h : Hs) (h1 : dicAt h cn k n = some kvs) (h2 : keyS ρ j = some q) (h3 : valT kvs q = some u) : kDGet cn k j ρ (.obj n) h = .ok (.dat u) h := by
  unfold kDGet
  simp only [h1, h2, h3]
def kDNin (cn k : Str) (q : List Key) : D → Hs → Res Bool := fun d h => match d with
  | .obj n => (match dicAt h cn k n with
    | some kvs => .ok (!(valT kvs q).isSome) h
    | none => .bad)
  | _ => .bad
theorem ev_fDNin {cn k : Str} {j : Nat} {fo : FE} {ρ : En} {q : List Key} (h : Hs) (h1 : keyS ρ j = some q) : fDNin cn k j fo ρ h = (fo ρ h).bind (kDNin cn k q) := by
  unfold fDNin
  rw [h1]
  simp only
  congr 1
theorem kDNin_ap {cn k : Str} {q : List Key} {n : Nat} {kvs : List (List Key × T)} (h : Hs) (h1 : dicAt h cn k n = some kvs) : kDNin cn k q (.obj n) h = .ok (!(valT kvs q).isSome) h := by
  unfold kDNin
  simp only [h1]
def kDPutb (cn k : Str) (j : Nat) (ρ : En) (d : D) : D → Hs → Res Out := fun o h => match d, o with
  | .dat u, .obj n => match dicAt h cn k n, keyS ρ j, h[n]? with
    | some kvs, some q, some (.ins c fs) => if kvs.length < 1000000 then .ok (.next ρ) (h.set n (.ins c (putA k (.dic (putT kvs q u)) fs))) else .bad
    | _, _, _ => .bad
  | _, _ => .bad
def kDPut (cn k : Str) (fo : FE) (j : Nat) (ρ : En) : D → Hs → Res Out := fun d h => (fo ρ h).bind (kDPutb cn k j ρ d)
@[simp] theorem ev_fDPut (cn k : Str) (fo : FE) (j : Nat) (fv : FE) (ρ : En) (h : Hs) : fDPut cn k fo j fv ρ h = (fv ρ h).bind (kDPut cn k fo j ρ) := rfl
@[simp] theorem kDPut_ap (cn k : Str) (fo : FE) (j : Nat) (ρ : En) (d : D) (h : Hs) : kDPut cn k fo j ρ d h = (fo ρ h).bind (kDPutb cn k j ρ d) := rfl
theorem kDPutb_ap {cn k : Str} {j n : Nat} {ρ : En} {u : T} {kvs : List (List Key × T)} {q : List Key} {c : Str} {fs : List (Str × Fld)} (h : Hs) (h1 : dicAt h cn k n = some kvs) (h2 : keyS ρ j = some q) (h3 : h[n]? = some (.ins c fs)) (h4 : kvs.length < 1000000) : kDPutb cn k j ρ (.dat u) (.obj n) h = .ok (.next ρ) (h.set n (.ins c (putA k (.dic (putT kvs q u)) fs))) := by
  unfold kDPutb
  simp only [h1, h2, h3]
  exact if_pos h4
end Pf
set_option Elab.async false
set_option linter.all false
set_option maxRecDepth 100000
set_option maxHeartbeats 2000000
namespace Pf
open PySem PySem.Spec PyProof.Rows L2
/-! ### lists in the fields of an object -/
/-- the list of one's own in a field of the object n -/
def ownAt (h : Hs) (cn k : Str) (n : Nat) : Option (List T) := match h[n]? with
  | some (.ins c fs) => if c = cn then (match fs.lookup k with
    | some (.own ts) => some ts
    | _ => none) else none
  | _ => none
theorem ownAt_ok {h : Hs} {cn k : Str} {n : Nat} {ts : List T} (e : ownAt h cn k n = some ts) : ∃ fs, h[n]? = some (.ins cn fs) ∧ fs.lookup k = some (.own ts) := by
  unfold ownAt at e
  split at e
  · split at e
    · rename_i c fs hn hc
      subst hc
      split at e
      · rename_i hl
        cases e
        exact ⟨fs, hn, hl⟩
      · cases e
    · cases e
  · cases e
theorem own_rel {K : Fr} {ρ : En} {h : Hs} {σ : L2.St} {H G : Hp} {w : Wn} {n : Nat} {cn k : Str} {ts : List T} (R : Rel K ρ h σ H G w) (e : ownAt h cn k n = some ts) : ∃ fs a dx vfs d vs, h[n]? = some (.ins cn fs) ∧ fs.lookup k = some (.own ts) ∧ w (.o n) = some a ∧ H a = some (.ins (He.ga K cn) dx vfs) ∧ vfs.lookup k = some (.ref d) ∧ w (.f n k) = some d ∧ H d = some (.lst vs) ∧ RTs G ts vs := by
  obtain ⟨fs, hn, hl⟩ := ownAt_ok e
  obtain ⟨a, dx, vfs, h1, h2, h3, h4⟩ := R.obs n _ hn
  have h5 := h4 k
  rw [hl] at h5
  obtain ⟨v, e1, d, vs, e2, rfl, e3, e4⟩ := h5
  exact ⟨fs, a, dx, vfs, d, vs, hn, hl, h1, h2, e1, e2, e3, e4⟩
/-- the object in a slot -/
def objS (ρ : En) (i : Nat) : Option Nat := match ρ[i]? with
  | some (.val (.obj n)) => some n
  | _ => none
theorem objS_ok {K : Fr} {ρ : En} {h : Hs} {σ : L2.St} {H G : Hp} {w : Wn} {i n : Nat} (R : Rel K ρ h σ H G w) (e : objS ρ i = some n) : ∃ a, σ[i]? = some (some (.ref a)) ∧ w (.o n) = some a := by
  unfold objS at e
  split at e
  · rename_i m hs
    cases e
    obtain ⟨_, v, hv, a, ha, rfl⟩ := R.env i _ hs
    exact ⟨a, hv, ha⟩
  · cases e
/-- what a slot holds, as data -/
def datS (ρ : En) (i : Nat) : Option T := match ρ[i]? with
  | some (.val (.dat t)) => some t
  | _ => none
theorem datS_ok {K : Fr} {ρ : En} {h : Hs} {σ : L2.St} {H G : Hp} {w : Wn} {i : Nat} {t : T} (R : Rel K ρ h σ H G w) (e : datS ρ i = some t) : ∃ v, σ[i]? = some (some v) ∧ RT G t v := by
  unfold datS at e
  split at e
  · rename_i m hs
    cases e
    obtain ⟨_, v, hv, r⟩ := R.env i _ hs
    exact ⟨v, hv, r⟩
  · cases e
/-- x.k != [] -/
def fFldNe (cn k : Str) (i : Nat) : FB := fun ρ h => match objS ρ i with
  | some n => (match ownAt h cn k n with
    | some ts => .ok (!ts.isEmpty) h
    | none => .bad)
  | none => .bad
/-- x.k.append(y) -/
def fAppF (cn k : Str) (i j : Nat) : FS := fun ρ h => match objS ρ i, datS ρ j with
  | some n, some t => (match ownAt h cn k n, h[n]? with
    | some ts, some (.ins c fs) => if ts.length < 100000 then .ok (.next ρ) (h.set n (.ins c (putA k (.own (ts ++ [t])) fs))) else .bad
    | _, _ => .bad)
  | _, _ => .bad
/-- x.k.append(x.k2): what k2 holds is told from now on -/
def fAppZ (cn k k2 : Str) (i : Nat) : FS := fun ρ h => match objS ρ i with
  | some n => (match ownAt h cn k n, ownAt h cn k2 n, h[n]? with
    | some ts, some us, some (.ins c fs) => if ts.length < 100000 ∧ k ≠ k2 then .ok (.next ρ) (h.set n (.ins c (putA k (.own (ts ++ [.list us])) (putA k2 (.dat (.list us)) fs)))) else .bad
    | _, _, _ => .bad)
  | none => .bad
/-- x.k = [] -/
def fSFLst (cn k : Str) (i : Nat) : FS := fun ρ h => match objS ρ i with
  | some n => (match h[n]? with
    | some (.ins c fs) => if c = cn ∧ fs.length < 100 then .ok (.next ρ) (h.set n (.ins c (putA k (.own []) fs))) else .bad
    | _ => .bad)
  | none => .bad
/-- list(x.k) -/
def fListF (cn k : Str) (i : Nat) : FR := fun ρ h => match objS ρ i with
  | some n => (match ownAt h cn k n with
    | some ts => .ok (.own ts) h
    | none => .bad)
  | none => .bad
/-- x.k, walked -/
def fPkF (cn k : Str) (i : Nat) : FL := fun ρ h => match objS ρ i with
  | some n => (match ownAt h cn k n with
    | some ts => .ok ts h
    | none => .bad)
  | none => .bad
/-- the list in a field is told from now on -/
theorem Rel.frzFld {K : Fr} {ρ : En} {h : Hs} {σ : L2.St} {H G : Hp} {w : Wn} {n : Nat} {c k : Str} {fs : List (Str × Fld)} {us : List T} {d : Addr} {vs : List V} (R : Rel K ρ h σ H G w) (hn : h[n]? = some (.ins c fs)) (hl : fs.lookup k = some (.own us)) (hd : w (.f n k) = some d) (hH : H d = some (.lst vs)) (hr : RTs G us vs) :
    Rel K ρ (h.set n (.ins c (putA k (.dat (.list us)) fs))) σ H (upd G d (.lst vs)) (setW w n k none) ∧ Tr G H w (upd G d (.lst vs)) H (setW w n k none) := by
  have hoff : G d = none := R.off _ _ hd
  have g : Same G (upd G d (.lst vs)) := same_upd hoff
  have hsub : ∀ q b, setW w n k none q = some b → w q = some b ∧ b ≠ d := fun q b e => by
    rcases setW_some e with ⟨_, z⟩ | ⟨z, y⟩
    · cases z
    · exact ⟨y, fun e2 => z (R.inj _ _ _ y (by rw [e2]; exact hd))⟩
  refine ⟨⟨fun b u z => ?_, fun q b e => ?_, fun q q' b e e' => R.inj _ _ _ (hsub q b e).1 (hsub q' b e').1, R.len, fun j s hs => (R.env j s hs).mono g rfl (fun _ _ z => z) fun _ _ => rfl, R.env0, fun m u hu => ?_, fun m hm => ?_⟩,
    ⟨g, fun b o e _ => e, fun b z => ?_, fun q b e => .inl ⟨q, (hsub q b e).1⟩, fun _ _ e => e⟩⟩
  · by_cases hb : b = d
    · subst hb
      rw [upd_same] at z
      rw [hH]
      exact z
    · rw [upd_ne hb] at z
      exact R.sub b u z
  · obtain ⟨e1, e2⟩ := hsub q b e
    rw [upd_ne e2]
    exact R.off q b e1
  · rcases get_set hu with ⟨rfl, _, rfl⟩ | ⟨hm, hu⟩
    · obtain ⟨a, dx, vfs, h1, h2, h3, h4⟩ := R.obs m _ hn
      refine ⟨a, dx, vfs, h1, h2, ?_, fun j => ?_⟩
      · rw [len_putA, hl]
        exact h3
      · rw [lookup_putA]
        by_cases hj : j = k
        · subst hj
          rw [if_pos rfl]
          have h5 := h4 j
          rw [hl] at h5
          obtain ⟨v, e1, d', vs', e2, rfl, e3, e4⟩ := h5
          rw [hd] at e2
          cases e2
          exact ⟨_, e1, setW_self, RT.mkList upd_same (hr.mono g)⟩
        · rw [if_neg hj]
          have h5 := h4 j
          cases hlj : fs.lookup j with
          | none =>
            rw [hlj] at h5
            exact ⟨h5.1, by rw [setW_ne fun z => hj z.2]; exact h5.2⟩
          | some f' =>
            rw [hlj] at h5
            obtain ⟨v, e1, e2⟩ := h5
            exact ⟨v, e1, FldR.mono (w := w) (H := H) g (setW_ne fun z => hj z.2) (fun _ _ => rfl) e2⟩
    · exact ObjR.mono (w := w) (H := H) g rfl (fun j => setW_ne fun z => hm z.1) (fun _ _ => rfl) (fun _ _ _ => rfl) (R.obs m u hu)
  · rw [List.length_set] at hm
    have := R.obs0 m hm
    have hnl := (List.getElem?_eq_some_iff.mp hn).1
    exact ⟨this.1, fun j => by rw [setW_ne fun z => by have := z.1; omega]; exact this.2 j⟩
  · by_cases hb : b = d
    · subst hb
      exact .inr (.inr (.inl ⟨_, hd⟩))
    · rw [upd_ne hb] at z
      exact .inl z
/-- behind what owned nothing: all stands -/
theorem Rel.regain {K : Fr} {ρ : En} {h : Hs} {σ : L2.St} {H G H' G' : Hp} {w w' : Wn} (R : Rel K ρ h σ H G w) (t : Tr G H noW G' H' w') (s : Same G' H') : Rel K ρ h σ H' G' w ∧ Tr G H w G' H' w := by
  have hold : ∀ q a, w q = some a → H' a = H a ∧ G' a = none := fun q a e => by
    obtain ⟨o, h1, h2⟩ := R.there2 e
    obtain ⟨k1, k2, _⟩ := t.hold h1 (R.off q a e) (fun q z => by cases z) h2
    exact ⟨k1.trans h1.symm, k2⟩
  refine ⟨⟨s, fun q a e => (hold q a e).2, R.inj, R.len, fun i s hs => (R.env i s hs).mono t.gm rfl (fun _ _ z => z) fun a e => (hold _ a e).1, R.env0, fun n o ho => (R.obs n o ho).mono t.gm rfl (fun _ => rfl) (fun a e => (hold _ a e).1) fun k a e => (hold _ a e).1, R.obs0⟩,
    ⟨t.gm, fun b o e _ => t.fr b o e fun q z => (by cases z), fun b z => ?_, fun q b z => .inl ⟨q, z⟩, fun _ _ e => e⟩⟩
  rcases t.gn b z with y | y | ⟨q, y⟩ | y
  · exact .inl y
  · exact .inr (.inl y)
  · cases y
  · exact .inr (.inr (.inr y))
/-- a comprehension over a list that may be one's own: what it makes sees told data alone -/
def fCompH (is : List Nat) (gt : Tgt) (fi : FL) (fc : FB) (fe : FE) : FR := fun ρ h => (fi ρ h).bind fun ts h => match compL gt (wipeE (ρ.map hideU) is) fc fe ts [] with
  | .ok us _ => .ok (.own us) h
  | _ => .bad
theorem Rel.hideC {K : Fr} {ρ : En} {h : Hs} {σ : L2.St} {H G : Hp} {w : Wn} (R : Rel K ρ h σ H G w) : Rel K (ρ.map hideU) [] σ H G noW where
  sub := R.sub
  off := fun q a e => by cases e
  inj := fun q q' a e => by cases e
  len := by rw [List.length_map]; exact R.len
  env := fun i s e => by
    rw [List.getElem?_map] at e
    obtain ⟨s0, e0, rfl⟩ := Option.map_eq_some_iff.mp e
    have r := R.env i s0 e0
    cases s0 with
    | un => exact rfl
    | own ts => exact rfl
    | dic kvs => exact rfl
    | fix v t => exact ⟨rfl, v, r.2.1, r.2.2⟩
    | pin v => exact rfl
    | val d =>
      obtain ⟨h1, v, h2, h3⟩ := r
      cases d with
      | dat t => exact ⟨rfl, v, h2, h3⟩
      | obj n => exact rfl
      | scr ns => exact rfl
  env0 := fun _ _ => rfl
  obs := fun n o e => by simp at e
  obs0 := fun _ _ => ⟨rfl, fun _ => rfl⟩
theorem plain_hide (ρ : En) : ∀ is : List Nat, plainAll (ρ.map hideU) is = true
  | [] => rfl
  | i :: is => by
    show (plainAt _ i && plainAll _ is) = true
    rw [plain_hide ρ is, Bool.and_true]
    unfold plainAt
    rw [List.getElem?_map]
    cases ρ[i]? with
    | none => rfl
    | some s =>
      cases s with
      | val d => cases d <;> rfl
      | _ => rfl
section
variable {X : Cx} {E : XK} {e o : Expr} {pos p apos pos' lpos : Pos} {cn k k2 : Str} {i j : Nat} {tg : Expr}
theorem st_fldNe (hu : X.A.units + 70 < cLine) (hc : Cls X.K (He.ga X.K cn)) (hn : NoAttr X.K (He.ga X.K cn) k) (ho : PE X o (tVar i)) (hm : behindInMarks .NotEq (.List [] lpos) = false := by rfl) (hb : attributeBase o k X.env (eval o X.env) = eval o X.env := by rfl) : ST X E (.Compare (.Attribute o k apos) [.NotEq] [.List [] lpos] pos) (fFldNe cn k i) :=
  pt_imp (pt_cmpR (opr_ne hu) (pe_fld ho hb) (pe_lst pa_nil) hm) fun σ H Q hw => by
    obtain ⟨ρ, h0, G, w, R, W⟩ := hw
    unfold fFldNe at W
    split at W
    · rename_i n hi
      split at W
      · rename_i ts hts
        obtain ⟨fs, a, dx, vfs, d, vs, g1, g2, g3, g4, g5, g6, g7, g8⟩ := own_rel R hts
        obtain ⟨a', k1, k2⟩ := objS_ok R hi
        rw [g3] at k2
        cases k2
        refine ⟨_, k1, a, _, dx, vfs, _, rfl, g4, hc, hn, g5, by show 0 ≤ sizeLine; decide, fun q hq => ?_⟩
        have hs : Same H (upd H q (.lst [])) := same_upd hq
        have hdq : d ≠ q := fun z => by rw [z, hq] at g7; cases g7
        exact ⟨G, .list ts, .list [], !ts.isEmpty, R.sub.trans hs, .inr ⟨d, vs, ts, rfl, rfl, by rw [upd_ne hdq]; exact g7, g8⟩, .inr ⟨q, [], [], rfl, rfl, upd_same, .nil⟩, neT_nil ts, _, rfl, W.fin R (New.mute R.sub _ hq) rfl⟩
      · exact W.elim
    · exact W.elim
theorem ss_appF {y : Expr} (hc : Cls X.K (He.ga X.K cn)) (hn : NoAttr X.K (He.ga X.K cn) k) (ho : PE X o (tVar i)) (hy : PE X y (tVar j)) (hb : attributeBase o k X.env (eval o X.env) = eval o X.env := by rfl) (hbase : attributeBase (.Attribute o k apos) "append" X.env (eval (.Attribute o k apos) X.env) = eval (.Attribute o k apos) X.env := by rfl)
    (hfew : ((backTo p (starEach [y] X.env)).all (fun x => !x.1) && (backToKw p (keywordEach [] X.env)).all (fun x => x.1.isSome) && decide ([y].length + ([] : List Keyword).length + (if ([] : List Keyword).isEmpty then 0 else 1) < 30)) = true := by rfl)
    (hline : (lpos.endLine == p.line) = true := by rfl) (hs : starEach [y] X.env = (false, eval y X.env) :: starEach [] X.env := by rfl) (hplain : (backTo p (starEach [] X.env)).any (·.1) = false := by rfl) (hsw : swapsWith (.Call (.Attribute (.Attribute o k apos) "append" lpos) [y] [] p) none pos.line X.env = pure false := by rfl) :
    SS X E (.Expr (.Call (.Attribute (.Attribute o k apos) "append" lpos) [y] [] p) pos) (fAppF cn k i j) := ps_imp (ps_expr (pe_bm PySem.F.plainAttrs_list PySem.F.slot_list_append PySem.F.type_list_append mt_append (pe_fld ho hb) (pa_cons hy pa_nil hs) hbase hfew hline hs hplain) hsw) fun D σ H hw => by
  obtain ⟨ρ, h0, G, w, R, W⟩ := hw
  unfold fAppF at W
  split at W
  · rename_i n t hi hj
    split at W
    · rename_i ts c fs' hts hno
      split at W
      · rename_i hl
        obtain ⟨fs, a, dx, vfs, d, vs, g1, g2, g3, g4, g5, g6, g7, g8⟩ := own_rel R hts
        rw [hno] at g1
        cases g1
        obtain ⟨a', k1, k2⟩ := objS_ok R hi
        rw [g3] at k2
        cases k2
        obtain ⟨v, hv, rv⟩ := datS_ok R hj
        obtain ⟨R3, T3⟩ := R.chgFld (f' := .own (ts ++ [t])) (o' := .lst (vs ++ [v])) hno g2 g6 fun z hz => by
          obtain ⟨d', vs', q1, q2, q3, q4⟩ := hz
          rw [g6] at q1
          cases q1
          exact ⟨d, vs ++ [v], g6, q2, upd_same, g8.append (.cons rv .nil)⟩
        refine ⟨_, k1, a, _, dx, vfs, _, rfl, g4, hc, hn, g5, Or.inl ⟨rfl, vs, SqL.of g7⟩, v, hv, d, vs, v, rfl, rfl, g7, ?_, W _ _ _ _ R3 T3⟩
        rw [g8.length]
        exact Nat.lt_of_lt_of_le hl (by decide)
      · exact W.elim
    · exact W.elim
  · exact W.elim
theorem ss_appZ (hc : Cls X.K (He.ga X.K cn)) (hn : NoAttr X.K (He.ga X.K cn) k) (hn2 : NoAttr X.K (He.ga X.K cn) k2) (ho : PE X o (tVar i)) {o2 : Expr} {apos2 : Pos} (ho2 : PE X o2 (tVar i)) (hb : attributeBase o k X.env (eval o X.env) = eval o X.env := by rfl) (hb2 : attributeBase o2 k2 X.env (eval o2 X.env) = eval o2 X.env := by rfl) (hbase : attributeBase (.Attribute o k apos) "append" X.env (eval (.Attribute o k apos) X.env) = eval (.Attribute o k apos) X.env := by rfl)
    (hfew : ((backTo p (starEach [.Attribute o2 k2 apos2] X.env)).all (fun x => !x.1) && (backToKw p (keywordEach [] X.env)).all (fun x => x.1.isSome) && decide ([Expr.Attribute o2 k2 apos2].length + ([] : List Keyword).length + (if ([] : List Keyword).isEmpty then 0 else 1) < 30)) = true := by rfl)
    (hline : (lpos.endLine == p.line) = true := by rfl) (hs : starEach [.Attribute o2 k2 apos2] X.env = (false, eval (.Attribute o2 k2 apos2) X.env) :: starEach [] X.env := by rfl) (hplain : (backTo p (starEach [] X.env)).any (·.1) = false := by rfl) (hsw : swapsWith (.Call (.Attribute (.Attribute o k apos) "append" lpos) [.Attribute o2 k2 apos2] [] p) none pos.line X.env = pure false := by rfl) :
    SS X E (.Expr (.Call (.Attribute (.Attribute o k apos) "append" lpos) [.Attribute o2 k2 apos2] [] p) pos) (fAppZ cn k k2 i) := ps_imp (ps_expr (pe_bm PySem.F.plainAttrs_list PySem.F.slot_list_append PySem.F.type_list_append mt_append (pe_fld ho hb) (pa_cons (pe_fld ho2 hb2) pa_nil hs) hbase hfew hline hs hplain) hsw) fun D σ H hw => by
  obtain ⟨ρ, h0, G, w, R, W⟩ := hw
  unfold fAppZ at W
  split at W
  · rename_i n hi
    split at W
    · rename_i ts us c fs' hts hus hno
      split at W
      · rename_i hl
        obtain ⟨hl, hkk⟩ := hl
        obtain ⟨fs, a, dx, vfs, d, vs, g1, g2, g3, g4, g5, g6, g7, g8⟩ := own_rel R hts
        obtain ⟨fs2, a2, dx2, vfs2, d2, vs2, f1, f2, f3, f4, f5, f6, f7, f8⟩ := own_rel R hus
        rw [hno] at g1 f1
        cases g1
        cases f1
        rw [g3] at f3
        cases f3
        rw [g4] at f4
        cases f4
        obtain ⟨a', k1, k2'⟩ := objS_ok R hi
        rw [g3] at k2'
        cases k2'
        obtain ⟨R2, T2⟩ := R.frzFld hno f2 f6 f7 f8
        have hnl := (List.getElem?_eq_some_iff.mp hno).1
        have e6 : setW w n k2 none (.f n k) = some d := by rw [setW_ne fun z => hkk z.2]; exact g6
        obtain ⟨R3, T3⟩ := R2.chgFld (k := k) (f := .own ts) (f' := .own (ts ++ [.list us])) (d := d) (o' := .lst (vs ++ [.ref d2])) (by rw [List.getElem?_set_self hnl]) (by rw [lookup_putA, if_neg hkk]; exact g2) e6 fun z hz => by
          obtain ⟨d', vs', q1, q2, q3, q4⟩ := hz
          rw [e6] at q1
          cases q1
          rw [g7] at q3
          cases q3
          exact ⟨d, vs ++ [.ref d2], e6, q2, upd_same, q4.append (.cons (RT.mkList upd_same (f8.mono T2.gm)) .nil)⟩
        rw [List.set_set] at R3
        refine ⟨_, k1, a, _, dx, vfs, _, rfl, g4, hc, hn, g5, Or.inl ⟨rfl, vs, SqL.of g7⟩, _, k1, a, _, dx, vfs, _, rfl, g4, hc, hn2, f5, d, vs, _, rfl, rfl, g7, ?_, W _ _ _ _ R3 (T2.trans T3)⟩
        rw [g8.length]
        exact Nat.lt_of_lt_of_le hl (by decide)
      · exact W.elim
    · exact W.elim
  · exact W.elim
theorem ss_sflst (hc : Cls X.K (He.ga X.K cn)) (hn : NoAttr X.K (He.ga X.K cn) k) (ho : PE X o (tVar i)) (hs : swapsWith (.List [] p) (some (.Attribute o k pos')) pos.line X.env = pure false := by rfl) : SS X E (.Assign [.Attribute o k pos'] (.List [] p) pos) (fSFLst cn k i) := ps_imp (ps_fld ho (pe_lst pa_nil) hs) fun D σ H hw => by
  obtain ⟨ρ, h0, G, w, R, W⟩ := hw
  unfold fSFLst at W
  split at W
  · rename_i n hi
    split at W
    · rename_i c fs hno
      split at W
      · rename_i hcn
        obtain ⟨rfl, hl⟩ := hcn
        refine ⟨by show 0 ≤ sizeLine; decide, fun q hq => ?_⟩
        obtain ⟨R1, T1⟩ := R.new (New.mute R.sub (.lst []) hq)
        obtain ⟨a', k1, k2⟩ := objS_ok R hi
        obtain ⟨a, dx, vfs, g1, g2, g3, g4⟩ := R1.obs n _ hno
        rw [k2] at g1
        cases g1
        have hgq : G q = none := R.sub.free hq
        have hwq : ∀ z, w z ≠ some q := fun z y => by
          obtain ⟨u, hu⟩ := R.there y
          rw [hq] at hu; cases hu
        refine ⟨_, k1, a', _, dx, vfs, rfl, g2, hc, hn, by omega, W _ _ _ _ (R1.setFld hno k2 g2 (f := .own []) (o := some q) ⟨q, [], rfl, rfl, upd_same, .nil⟩ (fun b z => by cases z; exact hgq) fun b z y _ => by cases z; exact hwq y) ?_⟩
        exact T1.setFld1 k2 fun b z => by cases z; exact .inr hq
      · exact W.elim
    · exact W.elim
  · exact W.elim
theorem sr_listF {x : Str} (hx : x = "list") (hg : Gl X x) (hm : X.mg x = none) (hc : Cls X.K (He.ga X.K cn)) (hn : NoAttr X.K (He.ga X.K cn) k) (ho : PE X o (tVar i)) (hv : bootBuiltins x = some (.type "list") := by decide +kernel) (hb : attributeBase o k X.env (eval o X.env) = eval o X.env := by rfl) (hnn : x ≠ "__name__" := by decide) (hdb : (x == ("__debug__" : Str)) = false := by decide)
    (he : starEach [.Attribute o k apos] X.env = (false, eval (.Attribute o k apos) X.env) :: starEach [] X.env := by rfl) (hpl : (backTo pos (starEach [] X.env)).any (·.1) = false := by rfl) : SR X E (.Call (.Name x p) [.Attribute o k apos] [] pos) (fListF cn k i) := by
  subst hx
  refine pe_imp (pe_callTy call_list_of hg hm hv (pa_cons (pe_fld ho hb) pa_nil he) hnn hdb he hpl) fun σ H Q hw => ?_
  obtain ⟨ρ, h0, G, w, R, W⟩ := hw
  unfold fListF at W
  split at W
  · rename_i n hi
    split at W
    · rename_i ts hts
      obtain ⟨fs, a, dx, vfs, d, vs, g1, g2, g3, g4, g5, g6, g7, g8⟩ := own_rel R hts
      obtain ⟨a', k1, k2⟩ := objS_ok R hi
      rw [g3] at k2
      cases k2
      exact ⟨_, k1, a, _, dx, vfs, _, rfl, g4, hc, hn, g5, d, vs, rfl, .inl (SqL.of g7), fun q hq => W.fin R (New.mute R.sub _ hq) (ownR_new R g8 hq)⟩
    · exact W.elim
  · exact W.elim
theorem sih_fld (hc : Cls X.K (He.ga X.K cn)) (hn : NoAttr X.K (He.ga X.K cn) k) (ho : PE X o (tVar i)) (hb : attributeBase o k X.env (eval o X.env) = eval o X.env := by rfl) : SIH X E tg (.Attribute o k apos) (fPkF cn k i) := by
  refine pi_imp (pi_len (pi_list (tg := tg) (pe_fld ho hb))) fun σ H Rr hw => ?_
  obtain ⟨ρ, h0, G, w, R, W⟩ := hw
  unfold fPkF at W
  split at W
  · rename_i n hi
    split at W
    · rename_i ts hts
      obtain ⟨fs, a, dx, vfs, d, vs, g1, g2, g3, g4, g5, g6, g7, g8⟩ := own_rel R hts
      obtain ⟨a', k1, k2⟩ := objS_ok R hi
      rw [g3] at k2
      cases k2
      refine ⟨_, k1, a, _, dx, vfs, _, rfl, g4, hc, hn, g5, d, rfl, ⟨vs, SqL.of g7⟩, fun lo => W.fin0 R ⟨by rw [← g8.length]; exact lo.1 _ _ (SqL.of g7), ?_⟩⟩
      have w := walk_list (K := X.K) (a := d) (xs := vs)
      rw [g8.length] at w
      refine w.mono (fun H s => SqL.of (s _ _ g7)) fun i H x H' hi s y => ?_
      obtain ⟨e, hx⟩ := y
      obtain ⟨t, ht, r⟩ := g8.getV hx
      exact ⟨t, ht, .inl ⟨e, r⟩⟩
    · exact W.elim
  · exact W.elim
end
section
variable {X : Cx} {E : XK} {tg elt iter : Expr} {ifs : List Expr} {scope : Scope} {own : List (Str × Nat)} {pos : Pos} {fi : FL} {fc : FB} {fe : FE} {gt : Tgt} {g : TG}
theorem compH_aux {is : List Nat} {σ : L2.St} {H : Hp} {Q : VK} (tk : TgOk X.K is gt g) (hw : tX X.K E (rpR X.K) (fCompH is gt fi fc fe) σ H Q) : tLc (tX X.K E (rpH X.K) fi) g (tX X.K EX0 rpB fc) (tX X.K EX0 (rpD X.K) fe) is σ H Q :=
  tX_bind0 (f := fi) rpR_m hw fun ρ ts h1 J H1 G0 G1 w0 w1 R1 T1 r1 W1 => by
    intro D hD
    have nD : ∀ q, w1 q ≠ some D := fun q z => by
      obtain ⟨o, ho⟩ := R1.there z
      rw [hD] at ho; cases ho
    have nG : G1 D = none := R1.sub.free hD
    cases hcl : compL gt (wipeE (ρ.map hideU) is) fc fe ts [] with
    | bad => rw [hcl] at W1; exact W1.elim
    | exc x h => rw [hcl] at W1; exact W1.elim
    | ok us0 hz =>
    rw [hcl] at W1
    dsimp only at W1
    refine lc_it r1.2 (fun k H' => ∃ hk acc vs Gk wk, Rel X.K (wipeE (ρ.map hideU) is) hk (L2.wipe σ is) H' Gk wk ∧ Tr G1 H1 noW Gk H' wk ∧ H' D = some (.lst vs) ∧ RTs Gk acc vs ∧ Gk D = none ∧ (∀ q, wk q ≠ some D) ∧ acc.length ≤ k ∧
      Res.ok us0 hz = (compL gt (wipeE (ρ.map hideU) is) fc fe (ts.drop k) hk).bind fun us h => .ok (acc ++ us) h) ?_ ?_ ?_ ?_
    · obtain ⟨R2, T2⟩ := R1.hideC.new (New.mute R1.sub (.lst []) hD)
      refine ⟨[], [], [], G1, noW, R2.wipe is (plain_hide ρ is), T2, upd_same, .nil, nG, fun q z => (by cases z), Nat.le_refl _, ?_⟩
      rw [List.drop_zero, hcl]
      rfl
    · rintro k H' hk ⟨hk', acc, vs, Gk, wk, Rk, Tk, _⟩
      exact Tk.lent
    · rintro k x H' H'' hk ⟨hk', acc, vs, Gk, wk, Rk, Tk, hv, ra, gD, qD, hl, he⟩ y
      obtain ⟨t, G'', ht, hn, rx⟩ := ity_new Tk.gm Rk.sub y
      have hd : ts.drop k = t :: ts.drop (k + 1) := by
        rw [List.drop_eq_getElem_cons hk]
        congr 1
        have := List.getElem?_eq_getElem hk
        rw [ht] at this
        exact (Option.some.inj this).symm
      rw [hd, compL] at he
      cases hg : gt t (wipeE (ρ.map hideU) is) with
      | none => rw [hg] at he; cases he
      | some ρ1 =>
        rw [hg] at he
        dsimp only at he
        obtain ⟨R2, T2⟩ := Rk.new hn
        refine tk.run _ ρ1 hk' _ _ _ _ t x _ R2 rx hg fun σ2 w2 R3 T3 e1 e2 e3 => ⟨?_, ?_⟩
        · rw [e1, wipe_idem]
        · refine ⟨ρ1, hk', G'', w2, R3, ?_⟩
          cases hb : fc ρ1 hk' with
          | bad => rw [hb] at he; cases he
          | exc x h => rw [hb] at he; cases he
          | ok b h3 =>
            rw [hb] at he
            dsimp only [noX, Res.bind] at he
            intro b' H3 G3 w3 R4 T4 r4
            cases r4
            have T34 := (T2.trans T3).trans T4
            obtain ⟨hv3, gD3, qD3⟩ := T34.hold hv gD qD
            cases b with
            | false =>
              refine iteF ⟨h3, acc, vs, G3, w3, ?_, Tk.trans T34, hv3, ra.mono T34.gm, gD3, qD3, by omega, he⟩
              have := R4.wipe is e3
              rw [e1, e2, wipe_idem, wipeE_idem] at this
              exact this
            | true =>
              refine iteT ⟨ρ1, h3, G3, w3, R4, ?_⟩
              dsimp only at he
              cases hf : fe ρ1 h3 with
              | bad => rw [hf] at he; cases he
              | exc x h => rw [hf] at he; cases he
              | ok d h4 =>
                rw [hf] at he
                cases d with
                | obj n => cases he
                | scr n => cases he
                | dat u =>
                  dsimp only [noX, Res.bind] at he
                  intro v H4 G4 w4 R5 T5 r5
                  obtain ⟨hv4, gD4, qD4⟩ := T5.hold hv3 gD3 qD3
                  have ra4 := ra.mono (T34.trans T5).gm
                  refine ⟨vs, hv4, ?_, h4, acc ++ [u], vs ++ [v], G4, w4, ?_, ?_, upd_same, ra4.append (.cons r5 .nil), gD4, qD4, ?_, ?_⟩
                  · rw [ra.length]
                    have := r1.1
                    omega
                  · have := R5.wipe is e3
                    rw [e1, e2, wipe_idem, wipeE_idem] at this
                    exact this.apart _ gD4 qD4
                  · exact ((Tk.trans T34).trans T5).apart _ hD
                  · rw [List.length_append]
                    show acc.length + 1 ≤ k + 1
                    omega
                  · rw [he]
                    show _ = (compL gt (wipeE (ρ.map hideU) is) fc fe (ts.drop (k + 1)) h4).bind _
                    cases compL gt (wipeE (ρ.map hideU) is) fc fe (ts.drop (k + 1)) h4 with
                    | ok us h5 => simp [Res.bind]
                    | _ => rfl
    · rintro H' ⟨hk', acc, vs, Gk, wk, Rk, Tk, hv, ra, gD, qD, hl, he⟩
      rw [List.drop_length, compL] at he
      dsimp only [Res.bind] at he
      rw [List.append_nil] at he
      cases he
      obtain ⟨R9, T9⟩ := R1.regain Tk Rk.sub
      exact W1 _ _ _ _ R9 (T1.trans T9) ⟨D, vs, rfl, hv, ra, gD, nD, (T1.back hD).symm⟩
theorem sr_compH (hc : X.calm = true) (hN : X.N.Nodup) (hi : SIH X E tg iter fi) (ok : BlkOk X.N X.env.scope scope own) (tk : TgOk X.K (own.map (·.2)) gt g)
    (hg : ∀ (s : Shared) (H : Hp) (C : Addr) (cl : List (Str × Addr)) (fp : List Addr), PG (X.blk s H scope (compEnvC scope cl C X.env) fp) tg g) (ht : ∀ (s : Shared) (H : Hp) (C : Addr) (cl : List (Str × Addr)) (fp : List Addr), PTs (X.blk s H scope (compEnvC scope cl C X.env) fp) ifs (tX X.K EX0 rpB fc))
    (he : ∀ (s : Shared) (H : Hp) (C : Addr) (cl : List (Str × Addr)) (fp : List Addr), SE (X.blk s H scope (compEnvC scope cl C X.env) fp) EX0 elt fe) (hs : ∀ x, foldedSetIterable iter X.env x = pure x := by intro _; rfl) :
    SR X E (.ListComp elt [⟨tg, iter, ifs, 0⟩] scope pos) (fCompH (own.map (·.2)) gt fi fc fe) := pe_imp (pe_lc hc hN hi ok hg ht he hs) fun σ H Q hw => compH_aux tk hw
end
end Pf
set_option Elab.async false
set_option linter.all false
set_option maxRecDepth 100000
set_option maxHeartbeats 2000000
namespace Pf
open PySem PySem.Spec PyProof.Rows L2
noncomputable def kForH (U Kp : List Nat) (gt : Tgt) (fb : FS) (ρ : En) : List T → Hs → Res Out := fun ts h => forH U Kp gt fb ts ρ h
@[simp] theorem ev_fForH (U Kp : List Nat) (gt : Tgt) (fi : FL) (fb : FS) (ρ : En) (h : Hs) : fForH U Kp gt fi fb ρ h = (fi ρ h).bind (kForH U Kp gt fb ρ) := rfl
@[simp] theorem kForH_ap (U Kp : List Nat) (gt : Tgt) (fb : FS) (ρ : En) (ts : List T) (h : Hs) : kForH U Kp gt fb ρ ts h = forH U Kp gt fb ts ρ h := rfl
def kPk : T → Hs → Res (List T) := fun t h => match t with
  | .list ts => .ok ts h
  | _ => .bad
@[simp] theorem ev_fPk (f : FT) (ρ : En) (h : Hs) : fPk f ρ h = (f ρ h).bind kPk := rfl
@[simp] theorem kPk_ap (ts : List T) (h : Hs) : kPk (.list ts) h = .ok ts h := rfl
def kZipP : List T → Hs → Res (List T) := fun us h => match us with
  | [.list ts, .list us] => .ok (zipT ts us) h
  | _ => .bad
@[simp] theorem ev_fZipP (l : FL) (ρ : En) (h : Hs) : fZipP l ρ h = (l ρ h).bind kZipP := rfl
@[simp] theorem kZipP_ap (ts us : List T) (h : Hs) : kZipP [.list ts, .list us] h = .ok (zipT ts us) h := rfl
@[simp] theorem ev_fFldNe (cn k : Str) (i : Nat) (ρ : En) (h : Hs) : fFldNe cn k i ρ h = (match objS ρ i with
  | some n => (match ownAt h cn k n with
    | some ts => .ok (!ts.isEmpty) h
    | none => .bad)
  | none => .bad) := rfl
@[simp] theorem ev_fListF (cn k : Str) (i : Nat) (ρ : En) (h : Hs) : fListF cn k i ρ h = (match objS ρ i with
  | some n => (match ownAt h cn k n with
    | some ts => .ok (.own ts) h
    | none => .bad)
  | none => .bad) := rfl
@[simp] theorem ev_fPkF (cn k : Str) (i : Nat) (ρ : En) (h : Hs) : fPkF cn k i ρ h = (match objS ρ i with
  | some n => (match ownAt h cn k n with
    | some ts => .ok ts h
    | none => .bad)
  | none => .bad) := rfl
@[simp] theorem ev_fAppF (cn k : Str) (i j : Nat) (ρ : En) (h : Hs) : fAppF cn k i j ρ h = (match objS ρ i, datS ρ j with
  | some n, some t => (match ownAt h cn k n, h[n]? with
    | some ts, some (.ins c fs) => if ts.length < 100000 then .ok (.next ρ) (h.set n (.ins c (putA k (.own (ts ++ [t])) fs))) else .bad
    | _, _ => .bad)
  | _, _ => .bad) := rfl
@[simp] theorem ev_fAppZ (cn k k2 : Str) (i : Nat) (ρ : En) (h : Hs) : fAppZ cn k k2 i ρ h = (match objS ρ i with
  | some n => (match ownAt h cn k n, ownAt h cn k2 n, h[n]? with
    | some ts, some us, some (.ins c fs) => if ts.length < 100000 ∧ k ≠ k2 then .ok (.next ρ) (h.set n (.ins c (putA k (.own (ts ++ [.list us])) (putA k2 (.dat (.list us)) fs)))) else .bad
    | _, _, _ => .bad)
  | none => .bad) := rfl
@[simp] theorem ev_fSFLst (cn k : Str) (i : Nat) (ρ : En) (h : Hs) : fSFLst cn k i ρ h = (match objS ρ i with
  | some n => (match h[n]? with
    | some (.ins c fs) => if c = cn ∧ fs.length < 100 then .ok (.next ρ) (h.set n (.ins c (putA k (.own []) fs))) else .bad
    | _ => .bad)
  | none => .bad) := rfl
def ownK (h : Hs) : Res (List T) → Res Ret
  | .ok us _ => .ok (.own us) h
  | _ => .bad
def kCompH (is : List Nat) (gt : Tgt) (fc : FB) (fe : FE) (ρ : En) : List T → Hs → Res Ret := fun ts h => ownK h (compL gt (wipeE (ρ.map hideU) is) fc fe ts [])
@[simp] theorem ev_fCompH (is : List Nat) (gt : Tgt) (fi : FL) (fc : FB) (fe : FE) (ρ : En) (h : Hs) : fCompH is gt fi fc fe ρ h = (fi ρ h).bind (kCompH is gt fc fe ρ) := by
  unfold fCompH
  congr 1
@[simp] theorem kCompH_ap (is : List Nat) (gt : Tgt) (fc : FB) (fe : FE) (ρ : En) (ts : List T) (h : Hs) : kCompH is gt fc fe ρ ts h = ownK h (compL gt (wipeE (ρ.map hideU) is) fc fe ts []) := rfl
@[simp] theorem ownK_ok (h h' : Hs) (us : List T) : ownK h (.ok us h') = .ok (.own us) h := rfl
end Pf
set_option Elab.async false
set_option linter.all false
set_option maxRecDepth 100000
set_option maxHeartbeats 2000000
namespace Pf
open PySem PySem.Spec PyProof.Rows L2
/-! ### dicts with text keys, as objects -/
def valS (kvs : List (Key × T)) (k : Key) : Option T := (kvs.find? fun kv => decide (kv.1 = k)).map (·.2)
def putS (kvs : List (Key × T)) (k : Key) (t : T) : List (Key × T) :=
  if (kvs.any fun kv => decide (kv.1 = k)) = true then kvs.map (fun kv => if kv.1 = k then (kv.1, t) else kv) else kvs ++ [(k, t)]
def DctR (G : Hp) (ls : List (Key × V)) (kvs : List (Key × T)) : Prop := Paired (fun (p : Key × V) (q : Key × T) => p.1 = q.1 ∧ RT G q.2 p.2) ls kvs
theorem dct_val {G : Hp} {k : Key} : ∀ {ls : List (Key × V)} {kvs : List (Key × T)}, DctR G ls kvs → ∀ t, valS kvs k = some t → ∃ v, valV ls k = some v ∧ RT G t v
  | _, _, .nil => fun t e => by cases e
  | p :: ls, q :: kvs, .cons ⟨e1, r⟩ h => by
    have ih := dct_val (k := k) h
    by_cases hk : q.1 = k
    · have e2 : valS (q :: kvs) k = some q.2 := by simp [valS, List.find?_cons, hk]
      have e3 : valV (p :: ls) k = some p.2 := valV_pos (e1.trans hk)
      rw [e2, e3]
      exact fun t z => ⟨p.2, rfl, (Option.some.inj z) ▸ r⟩
    · have e2 : valS (q :: kvs) k = valS kvs k := by simp [valS, List.find?_cons, hk]
      have e3 : valV (p :: ls) k = valV ls k := valV_neg (fun z => hk (e1 ▸ z))
      rw [e2, e3]
      exact ih
theorem dct_any {G : Hp} {k : Key} : ∀ {ls : List (Key × V)} {kvs : List (Key × T)}, DctR G ls kvs → (ls.any fun kv => decide (kv.1 = k)) = kvs.any fun kv => decide (kv.1 = k)
  | _, _, .nil => rfl
  | p :: ls, q :: kvs, .cons ⟨e1, r⟩ h => by
    rw [List.any_cons, List.any_cons, dct_any h, e1]
theorem dct_map {G : Hp} {k : Key} {v : V} {t : T} (r : RT G t v) : ∀ {ls : List (Key × V)} {kvs : List (Key × T)}, DctR G ls kvs → DctR G (ls.map fun kv => if kv.1 = k then (kv.1, v) else kv) (kvs.map fun kv => if kv.1 = k then (kv.1, t) else kv)
  | _, _, .nil => .nil
  | p :: ls, q :: kvs, .cons ⟨e1, r'⟩ h => by
    refine .cons ?_ (dct_map r h)
    dsimp only
    by_cases hk : q.1 = k
    · rw [if_pos hk, if_pos (e1.trans hk)]
      exact ⟨e1, r⟩
    · rw [if_neg hk, if_neg (fun z => hk (e1 ▸ z))]
      exact ⟨e1, r'⟩
theorem dct_app {G : Hp} {k : Key} {v : V} {t : T} (r : RT G t v) : ∀ {ls : List (Key × V)} {kvs : List (Key × T)}, DctR G ls kvs → DctR G (ls ++ [(k, v)]) (kvs ++ [(k, t)])
  | _, _, .nil => .cons ⟨rfl, r⟩ .nil
  | _, _, .cons a h => .cons a (dct_app r h)
theorem dct_put {G : Hp} {ls : List (Key × V)} {kvs : List (Key × T)} {k : Key} {v : V} {t : T} (h : DctR G ls kvs) (r : RT G t v) : DctR G (putK ls k v) (putS kvs k t) := by
  unfold putK putS
  rw [dct_any h]
  split
  · exact dct_map r h
  · exact dct_app r h
/-- the dict object in a slot -/
def dctS (ρ : En) (h : Hs) (i : Nat) : Option (Nat × List (Key × T)) := match objS ρ i with
  | some n => (match h[n]? with
    | some (.dct kvs) => some (n, kvs)
    | _ => none)
  | none => none
theorem dctS_ok {K : Fr} {ρ : En} {h : Hs} {σ : L2.St} {H G : Hp} {w : Wn} {i n : Nat} {kvs : List (Key × T)} (R : Rel K ρ h σ H G w) (e : dctS ρ h i = some (n, kvs)) : h[n]? = some (.dct kvs) ∧ ∃ a ls, σ[i]? = some (some (.ref a)) ∧ w (.o n) = some a ∧ H a = some (.dK ls) ∧ DctR G ls kvs := by
  unfold dctS at e
  split at e
  · rename_i m hm
    split at e
    · rename_i kvs' hk
      cases e
      obtain ⟨a, k1, k2⟩ := objS_ok R hm
      obtain ⟨a', ls, g1, g2, g3, _⟩ := R.obs _ _ hk
      rw [k2] at g1
      cases g1
      exact ⟨hk, a, ls, k1, k2, g2, g3⟩
    · cases e
  · cases e
/-- x["k"] -/
def fDcG (i : Nat) (k : Str) : FE := fun ρ h => match dctS ρ h i with
  | some (_, kvs) => (match valS kvs (.inr k) with
    | some t => .ok (.dat t) h
    | none => .bad)
  | none => .bad
/-- x["k"] = e -/
def fDcP (i : Nat) (k : Str) (fe : FE) : FS := fun ρ h => (fe ρ h).bind fun d h => match d, dctS ρ h i with
  | .dat t, some (n, kvs) => if kvs.length < 1000 then .ok (.next ρ) (h.set n (.dct (putS kvs (.inr k) t))) else .bad
  | _, _ => .bad
theorem Rel.chgDct {K : Fr} {ρ : En} {h : Hs} {σ : L2.St} {H G : Hp} {w : Wn} {n : Nat} {kvs kvs' : List (Key × T)} {a : Addr} {ls' : List (Key × V)} (R : Rel K ρ h σ H G w) (hn : h[n]? = some (.dct kvs)) (ha : w (.o n) = some a) (r : DctR G ls' kvs') :
    Rel K ρ (h.set n (.dct kvs')) σ (upd H a (.dK ls')) G w ∧ Tr G H w G (upd H a (.dK ls')) w := by
  have hoff : G a = none := R.off _ _ ha
  have hk : ∀ q b, q ≠ .o n → w q = some b → upd H a (.dK ls') b = H b := fun q b hq e => upd_ne fun z => hq (R.inj _ _ _ e (by rw [z]; exact ha))
  refine ⟨⟨fun c u z => ?_, R.off, R.inj, R.len, fun j s hs => SlotR.mono (w := w) (H := H) (Same.refl _) rfl (fun _ _ z => z) (fun c e => hk _ c (fun z => by cases z) e) (R.env j s hs), R.env0, fun m u hu => ?_, fun m hm => R.obs0 m (by rw [List.length_set] at hm; exact hm)⟩,
    ⟨Same.refl _, fun c u e hq => by rw [upd_ne fun z => hq _ (by rw [z]; exact ha)]; exact e, fun _ z => .inl z, fun q c z => .inl ⟨q, z⟩, fun _ _ z => z⟩⟩
  · rw [upd_ne fun y : c = a => by rw [y, hoff] at z; cases z]
    exact R.sub c u z
  · rcases get_set hu with ⟨rfl, _, rfl⟩ | ⟨hm, hu⟩
    · obtain ⟨a', ls, g1, g2, g3, g4⟩ := R.obs m _ hn
      exact ⟨a, ls', ha, upd_same, r, g4⟩
    · exact ObjR.mono (w := w) (H := H) (Same.refl _) rfl (fun _ => rfl) (fun c e => hk _ c (fun z => hm (by cases z; rfl)) e) (fun j c e => hk _ c (fun z => by cases z) e) (R.obs m u hu)
section
variable {X : Cx} {E : XK} {o value : Expr} {pos p apos pos' : Pos} {fe : FE} {i : Nat} {k : Str}
theorem se_dcg {j} (hu : X.A.units + 70 < cLine) (ho : PE X o (tVar i)) : SE X E (.Subscript o (.Constant (.str k) j p) pos) (fDcG i k) := pe_imp (pe_dget (by omega) ho pe_str (fun _ _ => rfl)) fun σ H Q hw => by
  obtain ⟨ρ, h0, G, w, R, W⟩ := hw
  unfold fDcG at W
  split at W
  · rename_i n kvs hd
    split at W
    · rename_i t ht
      obtain ⟨g0, a, ls, g1, g2, g3, g4⟩ := dctS_ok R hd
      obtain ⟨v, hv, rv⟩ := dct_val g4 t ht
      exact ⟨_, g1, a, v, rfl, hv ▸ DGet.k (k := .inr k) g3, W.fin0 R rv⟩
    · exact W.elim
  · exact W.elim
theorem ss_dcp {j} (hu : X.A.units + 70 < cLine) (ho : PE X o (tVar i)) (hv : SE X E value fe) (hs : swapsWith value (some (.Subscript o (.Constant (.str k) j p) pos')) pos.line X.env = pure false := by rfl) : SS X E (.Assign [.Subscript o (.Constant (.str k) j p) pos'] value pos) (fDcP i k fe) := ps_imp (ps_dput (by omega) ho pe_str hv hs) fun D σ H hw =>
  tS_bind (f := fe) hw fun ρ d h1 v H1 G0 G1 w0 w1 R1 T1 r1 W1 => by
    split at W1
    · rename_i t n kvs hd
      split at W1
      · rename_i hl
        obtain ⟨g0, a, ls, g1, g2, g3, g4⟩ := dctS_ok R1 hd
        have r1 : RT G1 t v := r1
        obtain ⟨R2, T2⟩ := R1.chgDct (kvs' := putS kvs (.inr k) t) (ls' := putK ls (.inr k) v) g0 g2 (dct_put g4 r1)
        refine ⟨_, g1, a, _, rfl, DPut.k (k := .inr k) g3 ?_, W1 _ _ _ _ R2 T2⟩
        have := Paired.length g4
        rw [this]
        exact Nat.lt_of_lt_of_le hl (by decide)
      · exact W1.elim
    · exact W1.elim
end
theorem dctu {n : Nat} (h : n + 70 < cLine) : n + 1 < cLine := by omega
/-! several targets, names or keys -/
inductive Tg1 where
  | nm (i : Nat)
  | ky (i : Nat) (k : Str)
def stTgs : List Tg1 → List T → En → Hs → Option (En × Hs)
  | [], [], ρ, h => some (ρ, h)
  | .nm i :: tg, t :: ts, ρ, h => stTgs tg ts (ρ.set i (.val (.dat t))) h
  | .ky i k :: tg, t :: ts, ρ, h => match dctS ρ h i with
    | some (n, kvs) => if kvs.length < 1000 then stTgs tg ts ρ (h.set n (.dct (putS kvs (.inr k) t))) else none
    | none => none
  | _, _, _, _ => none
theorem stTgs_len : ∀ {tg : List Tg1} {ts : List T} {ρ : En} {h : Hs} {r : En × Hs}, stTgs tg ts ρ h = some r → ts.length = tg.length
  | [], [], _, _, _, _ => rfl
  | [], _ :: _, _, _, _, e => by cases e
  | .nm _ :: _, [], _, _, _, e => by cases e
  | .ky _ _ :: _, [], _, _, _, e => by cases e
  | .nm i :: tg, t :: ts, ρ, h, r, e => by
    have := stTgs_len (tg := tg) (ts := ts) (show stTgs tg ts (ρ.set i (.val (.dat t))) h = some r from e)
    simp [this]
  | .ky i k :: tg, t :: ts, ρ, h, r, e => by
    unfold stTgs at e
    split at e
    · split at e
      · have := stTgs_len e
        simp [this]
      · cases e
    · cases e
def fAsgX (tg : List Tg1) (f : FE) : FS := fun ρ h => (f ρ h).bind fun d h => match d with
  | .dat (.tuple ts) => (match stTgs tg ts ρ h with
    | some (ρ', h') => .ok (.next ρ') h'
    | none => .bad)
  | _ => .bad
structure TgX (K : Fr) (tg : List Tg1) (g : TGs) : Prop where
  run : ∀ (ρ ρ' : En) (h h' : Hs) (σ : L2.St) (H G : Hp) (w : Wn) (ts : List T) (vs : List V) (Q : L2.St → Hp → Prop), Rel K ρ h σ H G w → RTs G ts vs → stTgs tg ts ρ h = some (ρ', h') → (∀ σ' H' w', Rel K ρ' h' σ' H' G w' → Tr G H w G H' w' → Q σ' H') → g vs σ H Q
theorem tgx_nil {K : Fr} : TgX K [] gNil := ⟨fun ρ ρ' h h' σ H G w ts vs Q R r e q => by
  cases ts with
  | nil =>
    cases e
    exact ⟨r.unnil, q σ H w R Tr.refl⟩
  | cons t ts => cases e⟩
theorem tgx_nm {K : Fr} {i : Nat} {tg : List Tg1} {g : TGs} (hr : TgX K tg g) : TgX K (.nm i :: tg) (gCons (gName i) g) := ⟨fun ρ ρ' h h' σ H G w ts vs Q R r e q => by
  cases ts with
  | nil => cases e
  | cons t ts =>
    obtain ⟨v, vs', rfl, r1, r2⟩ := r.uncons
    have R1 := R.setVal (i := i) (d := .dat t) r1
    exact ⟨v, vs', rfl, hr.run _ ρ' h h' _ H G _ ts vs' Q R1 r2 e fun σ' H' w' R' T' => q σ' H' w' R' ((Tr.clr i).trans T')⟩⟩
theorem tgx_ky {K : Fr} {i : Nat} {k : Str} {tg : List Tg1} {g : TGs} (hr : TgX K tg g) : TgX K (.ky i k :: tg) (gCons (gSub (tVar i) (tC (.str k)) rSetD) g) := ⟨fun ρ ρ' h h' σ H G w ts vs Q R r e q => by
  cases ts with
  | nil => cases e
  | cons t ts =>
    obtain ⟨v, vs', rfl, r1, r2⟩ := r.uncons
    unfold stTgs at e
    split at e
    · rename_i n kvs hd
      split at e
      · rename_i hl
        obtain ⟨g0, a, ls, g1, g2, g3, g4⟩ := dctS_ok R hd
        obtain ⟨R2, T2⟩ := R.chgDct (kvs' := putS kvs (.inr k) t) (ls' := putK ls (.inr k) v) g0 g2 (dct_put g4 r1)
        refine ⟨v, vs', rfl, _, g1, a, _, rfl, DPut.k (k := .inr k) g3 ?_, hr.run _ ρ' _ h' _ _ G w ts vs' Q R2 r2 e fun σ' H' w' R' T' => q σ' H' w' R' (T2.trans T')⟩
        have := Paired.length g4
        rw [this]
        exact Nat.lt_of_lt_of_le hl (by decide)
      · cases e
    · cases e⟩
section
variable {X : Cx} {E : XK} {e : Expr} {es : List Expr} {kk : Nat} {pos tpos : Pos} {fe : FE} {tg : List Tg1} {g : TGs} {n : Nat}
theorem ss_asgX (hc : X.calm = true) (he : SE X E e fe) (tk : TgX X.K tg g) (hg : PGs X es g) (hn : (assignEach es X.env).length = n := by rfl) (htn : tg.length = n := by rfl) (hst : (assignEach es X.env).findIdx? (·.1) = none := by rfl) (hs : swapsWithSole [.Tuple es kk tpos] e pos.line X.env = pure false := by rfl) (hw : swappedStores [.Tuple es kk tpos] e X.env = pure none := by rfl) (h1 : (assignEach [.Tuple es kk tpos] X.env).map (·.2) = [assign (.Tuple es kk tpos) X.env] := by rfl) : SS X E (.Assign [.Tuple es kk tpos] e pos) (fAsgX tg fe) :=
  ps_imp (ps_asg he (pg_tup hc hg hn hst) hs hw h1) fun D σ H hw => tS_bind (f := fe) hw fun ρ d h1 v H1 G0 G1 w0 w1 R1 T1 r1 W1 => by
    split at W1
    · rename_i ts
      split at W1
      · rename_i ρ' h' hst
        obtain ⟨a, vs, rfl, k1, k2⟩ := RT.tuple r1
        refine ⟨a, vs, rfl, SqT.of (R1.sub _ _ k1), ?_, tk.run ρ ρ' _ h' _ _ G1 _ ts vs _ R1 k2 hst fun σ' H' w' R' T' => W1 _ _ _ _ R' T'⟩
        rw [k2.length, ← htn]
        exact stTgs_len hst
      · exact W1.elim
    · exact W1.elim
end
/-! ### a dict display, as an object -/
abbrev FK := En → Hs → Res (List (Key × T))
def fKNil : FK := fun _ h => .ok [] h
def fKCons (k : Str) (f : FE) (g : FK) : FK := fun ρ h => (f ρ h).bind fun d h => match d with
  | .dat t => (g ρ h).bind fun kts h => .ok ((.inr k, t) :: kts) h
  | _ => .bad
def rpK : Rp (List (Key × T)) (List (V × V)) := fun _ _ _ _ kts ps _ G _ => ∃ kvs : List (Key × V), ps = kvs.map (fun kv => (kV kv.1, kv.2)) ∧ DctR G kvs kts
theorem rpK_m : RpM rpK := fun _ _ _ _ _ _ _ _ _ _ _ _ _ _ h => h
def mergeS (kvs more : List (Key × T)) : List (Key × T) := more.foldl (fun acc kv => putS acc kv.1 kv.2) kvs
theorem dct_merge {G : Hp} : ∀ {ls : List (Key × V)} {kts : List (Key × T)}, DctR G ls kts → ∀ (ls0 : List (Key × V)) (k0 : List (Key × T)), DctR G ls0 k0 → DctR G (mergeK ls0 ls) (mergeS k0 kts)
  | _, _, .nil => fun _ _ h => h
  | p :: ls, q :: kts, .cons ⟨e1, r⟩ h => fun ls0 k0 h0 => by
    have e : DctR G (putK ls0 p.1 p.2) (putS k0 q.1 q.2) := by
      rw [e1]
      exact dct_put h0 r
    exact dct_merge h _ _ e
structure SK (X : Cx) (E : XK) (pos : Pos) (ks : List (Option Expr)) (vs : List Expr) (g : FK) : Prop where
  ex : ∃ trs, PPs X pos ks vs trs ∧ ∀ σ H Q, tX X.K E rpK g σ H Q → tPairs trs σ H Q
def fDcN (g : FK) : FE := fun ρ h => (g ρ h).bind fun kts h => if kts.length ≤ 15 then .ok (.obj h.length) (h ++ [.dct (mergeS [] kts)]) else .bad
theorem Rel.adopt {K : Fr} {ρ : En} {h : Hs} {σ : L2.St} {H G : Hp} {w : Wn} {u : O} {a : Addr} {o : HO} {H0 G0 : Hp} {w0 : Wn} (R : Rel K ρ h σ H G w) (T0 : Tr G0 H0 w0 G H w) (h0 : H0 a = none) (hg : G a = none) (hne : ∀ q, w q ≠ some a) (ho : ∀ w' : Wn, w' (.o h.length) = some a → (∀ k, w' (.f h.length k) = none) → ObjR K (upd H a o) G w' h.length u) :
    Rel K ρ (h ++ [u]) σ (upd H a o) G (putO w h.length a) ∧ Tr G0 H0 w0 G (upd H a o) (putO w h.length a) := by
  have hk : ∀ q b, w q = some b → upd H a o b = H b := fun q b e => upd_ne fun z => hne q (by rw [e, z])
  have hkeep : ∀ m b, w (.o m) = some b → putO w h.length a (.o m) = some b := fun m b e => by
    have := R.objs e
    rw [putO_ne (by omega)]
    exact e
  have Ra := R.apart o hg hne
  have Ta := T0.apart o h0
  refine ⟨⟨Ra.sub, fun q b e => ?_, fun q q' b e e' => ?_, R.len, fun i s hs => SlotR.mono (w := w) (H := H) (Same.refl _) rfl hkeep (fun b e => hk _ b e) (R.env i s hs), R.env0, fun m o hm => ?_, fun m hm => ?_⟩,
    ⟨Ta.gm, Ta.fr, Ta.gn, fun q b z => ?_, fun n b e => hkeep n b (T0.ob n b e)⟩⟩
  · rcases putO_some e with ⟨_, rfl⟩ | e
    · exact hg
    · exact R.off q b e
  · rcases putO_some e with ⟨z, rfl⟩ | y
    · rcases putO_some e' with ⟨z', _⟩ | y'
      · rw [z, z']
      · exact absurd y' (hne _)
    · rcases putO_some e' with ⟨z', rfl⟩ | y'
      · exact absurd y (hne _)
      · exact R.inj _ _ _ y y'
  · by_cases hl : m < h.length
    · rw [List.getElem?_append_left hl] at hm
      exact ObjR.mono (w := w) (H := H) (Same.refl _) (putO_ne (by omega)) (fun _ => rfl) (fun b e => hk _ b e) (fun k b e => hk _ b e) (R.obs m _ hm)
    · have hm2 := (List.getElem?_eq_some_iff.mp hm).1
      rw [List.length_append, List.length_singleton] at hm2
      have e : m = h.length := by omega
      subst e
      rw [List.getElem?_append_right (Nat.le_refl _), Nat.sub_self] at hm
      cases hm
      exact ho _ putO_self fun k => (R.obs0 h.length (Nat.le_refl _)).2 k
  · rw [List.length_append, List.length_singleton] at hm
    have := R.obs0 m (by omega)
    exact ⟨by rw [putO_ne (by omega)]; exact this.1, this.2⟩
  · rcases putO_some z with ⟨_, rfl⟩ | z
    · exact .inr h0
    · exact T0.wn q b z
section
variable {X : Cx} {E : XK} {e : Expr} {ks : List (Option Expr)} {vs : List Expr} {pos p : Pos} {f : FE} {g : FK} {k : Str}
theorem sk_nil : SK X E pos [] [] fKNil := ⟨[], pps_nil, fun σ H Q ⟨ρ, h0, G, w, R, W⟩ => W.fin0 R ⟨[], rfl, .nil⟩⟩
theorem sk_cons {j} (hf : SE X E e f) (hg : SK X E pos ks vs g) : SK X E pos (some (.Constant (.str k) j p) :: ks) (e :: vs) (fKCons k f g) := by
  obtain ⟨trs, h1, h2⟩ := hg.ex
  refine ⟨_, pps_cons pe_str hf h1, fun σ H Q hw => ?_⟩
  refine tX_bind (f := f) rpK_m hw fun ρ d h1 v H1 G0 G1 w0 w1 R1 T1 r1 W1 => h2 _ _ _ ?_
  split at W1
  · rename_i t
    have r1 : RT G1 t v := r1
    refine wish_bind (f := g) rpK_m R1 W1 fun kts h2 ps H2 G2 w2 R2 T2 r2 W2 => ?_
    obtain ⟨kvs, rfl, r2⟩ := r2
    exact W2.fin0 R2 ⟨(.inr k, v) :: kvs, rfl, .cons ⟨rfl, r1.mono T2.gm⟩ r2⟩
  · exact W1.elim
theorem se_dcn (hg : SK X E pos ks vs g) (hall : ks.all (·.isSome) = true := by rfl) (hl : ks.length = vs.length := by rfl) (h0 : ks ≠ [] := by intro z; cases z) (h15 : ks.length ≤ 15 := by decide) : SE X E (.Dict ks vs pos) (fDcN g) := by
  obtain ⟨trs, h1, h2⟩ := hg.ex
  refine pe_imp (pe_disp h1 hall hl h0 h15) fun σ H Q hw p hp => ?_
  obtain ⟨ρ, h0, G, w, R, W⟩ := hw
  have nD : ∀ q, w q ≠ some p := fun q z => by
    obtain ⟨o, ho⟩ := R.there z
    rw [hp] at ho; cases ho
  have nG : G p = none := R.sub.free hp
  obtain ⟨R1, T1⟩ := R.new (New.mute R.sub (.dK []) hp)
  refine h2 _ _ _ ⟨ρ, h0, G, w, R1, ?_⟩
  unfold fDcN at W
  cases hr : g ρ h0 with
  | bad => rw [hr] at W; exact W.elim
  | exc x h' =>
    rw [hr] at W
    exact fun c d H' G' w' R' T' r' => W c d H' G' w' R' (T1.trans T') r'
  | ok kts h' =>
    rw [hr] at W
    intro ps H' G' w' R' T' r'
    obtain ⟨kvs, rfl, r'⟩ := r'
    obtain ⟨a1, a2, a3⟩ := T'.hold upd_same nG nD
    dsimp only [Res.bind] at W
    split at W
    · rename_i hle
      refine ⟨a1, kvs, rfl, by rw [Paired.length r']; exact hle, ?_⟩
      obtain ⟨R2, T2⟩ := R'.adopt (u := .dct (mergeS [] kts)) (o := .dK (mergeK [] kvs)) (T1.trans T') hp a2 a3 fun w'' e1 e2 => ⟨p, _, e1, upd_same, dct_merge r' _ _ .nil, e2⟩
      exact W _ _ _ _ R2 T2 ⟨p, putO_self, rfl⟩
    · exact W.elim
end
end Pf
set_option Elab.async false
set_option linter.all false
set_option maxRecDepth 100000
set_option maxHeartbeats 2000000
namespace Pf
open PySem PySem.Spec PyProof.Rows L2
theorem dctS_at {ρ : En} {h : Hs} {i n : Nat} {kvs : List (Key × T)} (e : objS ρ i = some n) (e2 : h[n]? = some (.dct kvs)) : dctS ρ h i = some (n, kvs) := by
  unfold dctS
  rw [e]
  dsimp only
  rw [e2]
@[simp] theorem ev_fDcG (i : Nat) (k : Str) (ρ : En) (h : Hs) : fDcG i k ρ h = (match dctS ρ h i with
  | some (_, kvs) => (match valS kvs (.inr k) with
    | some t => .ok (.dat t) h
    | none => .bad)
  | none => .bad) := rfl
def kDcP (i : Nat) (k : Str) (ρ : En) : D → Hs → Res Out := fun d h => match d, dctS ρ h i with
  | .dat t, some (n, kvs) => if kvs.length < 1000 then .ok (.next ρ) (h.set n (.dct (putS kvs (.inr k) t))) else .bad
  | _, _ => .bad
@[simp] theorem ev_fDcP (i : Nat) (k : Str) (f : FE) (ρ : En) (h : Hs) : fDcP i k f ρ h = (f ρ h).bind (kDcP i k ρ) := rfl
@[simp] theorem kDcP_ap (i : Nat) (k : Str) (ρ : En) (t : T) (h : Hs) : kDcP i k ρ (.dat t) h = (match dctS ρ h i with
  | some (n, kvs) => if kvs.length < 1000 then .ok (.next ρ) (h.set n (.dct (putS kvs (.inr k) t))) else .bad
  | none => .bad) := by
  unfold kDcP
  cases dctS ρ h i <;> rfl
def kAsgX (tg : List Tg1) (ρ : En) : D → Hs → Res Out := fun d h => match d with
  | .dat (.tuple ts) => (match stTgs tg ts ρ h with
    | some (ρ', h') => .ok (.next ρ') h'
    | none => .bad)
  | _ => .bad
@[simp] theorem ev_fAsgX (tg : List Tg1) (f : FE) (ρ : En) (h : Hs) : fAsgX tg f ρ h = (f ρ h).bind (kAsgX tg ρ) := rfl
@[simp] theorem kAsgX_ap (tg : List Tg1) (ρ : En) (ts : List T) (h : Hs) : kAsgX tg ρ (.dat (.tuple ts)) h = (match stTgs tg ts ρ h with
    | some (ρ', h') => .ok (.next ρ') h'
    | none => .bad) := rfl
@[simp] theorem stTgs_nil (ρ : En) (h : Hs) : stTgs [] [] ρ h = some (ρ, h) := rfl
@[simp] theorem stTgs_nm (i : Nat) (tg : List Tg1) (t : T) (ts : List T) (ρ : En) (h : Hs) : stTgs (.nm i :: tg) (t :: ts) ρ h = stTgs tg ts (ρ.set i (.val (.dat t))) h := rfl
@[simp] theorem stTgs_ky (i : Nat) (k : Str) (tg : List Tg1) (t : T) (ts : List T) (ρ : En) (h : Hs) : stTgs (.ky i k :: tg) (t :: ts) ρ h = (match dctS ρ h i with
    | some (n, kvs) => if kvs.length < 1000 then stTgs tg ts ρ (h.set n (.dct (putS kvs (.inr k) t))) else none
    | none => none) := rfl
def kDcN : List (Key × T) → Hs → Res D := fun kts h => if kts.length ≤ 15 then .ok (.obj h.length) (h ++ [.dct (mergeS [] kts)]) else .bad
@[simp] theorem ev_fDcN (g : FK) (ρ : En) (h : Hs) : fDcN g ρ h = (g ρ h).bind kDcN := rfl
@[simp] theorem kDcN_ap (kts : List (Key × T)) (h : Hs) : kDcN kts h = if kts.length ≤ 15 then .ok (.obj h.length) (h ++ [.dct (mergeS [] kts)]) else .bad := rfl
@[simp] theorem ev_fKNil (ρ : En) (h : Hs) : fKNil ρ h = .ok [] h := rfl
def kKC2 (k : Str) (t : T) : List (Key × T) → Hs → Res (List (Key × T)) := fun kts h => .ok ((.inr k, t) :: kts) h
def kKC (k : Str) (g : FK) (ρ : En) : D → Hs → Res (List (Key × T)) := fun d h => match d with
  | .dat t => (g ρ h).bind (kKC2 k t)
  | _ => .bad
@[simp] theorem ev_fKCons (k : Str) (f : FE) (g : FK) (ρ : En) (h : Hs) : fKCons k f g ρ h = (f ρ h).bind (kKC k g ρ) := rfl
@[simp] theorem kKC_ap (k : Str) (g : FK) (ρ : En) (t : T) (h : Hs) : kKC k g ρ (.dat t) h = (g ρ h).bind (kKC2 k t) := rfl
@[simp] theorem kKC2_ap (k : Str) (t : T) (kts : List (Key × T)) (h : Hs) : kKC2 k t kts h = .ok ((.inr k, t) :: kts) h := rfl
/-- the law's own feeder -/
def wD (sheets blind wait run tru runs trues : T) : List (Key × T) := [(.inr "sheets", sheets), (.inr "blind", blind), (.inr "wait", wait), (.inr "run", run), (.inr "true", tru), (.inr "runs", runs), (.inr "trues", trues)]
section
variable (a b c d e f g t : T)
@[simp] theorem wD_len : (wD a b c d e f g).length = 7 := rfl
@[simp] theorem wD_sheets : valS (wD a b c d e f g) (.inr "sheets") = some a := rfl
@[simp] theorem wD_blind : valS (wD a b c d e f g) (.inr "blind") = some b := rfl
@[simp] theorem wD_wait : valS (wD a b c d e f g) (.inr "wait") = some c := rfl
@[simp] theorem wD_run : valS (wD a b c d e f g) (.inr "run") = some d := rfl
@[simp] theorem wD_true : valS (wD a b c d e f g) (.inr "true") = some e := rfl
@[simp] theorem wD_runs : valS (wD a b c d e f g) (.inr "runs") = some f := rfl
@[simp] theorem wD_trues : valS (wD a b c d e f g) (.inr "trues") = some g := rfl
@[simp] theorem pD_wait : putS (wD a b c d e f g) (.inr "wait") t = wD a b t d e f g := rfl
@[simp] theorem pD_run : putS (wD a b c d e f g) (.inr "run") t = wD a b c t e f g := rfl
@[simp] theorem pD_true : putS (wD a b c d e f g) (.inr "true") t = wD a b c d t f g := rfl
@[simp] theorem pD_runs : putS (wD a b c d e f g) (.inr "runs") t = wD a b c d e t g := rfl
@[simp] theorem pD_trues : putS (wD a b c d e f g) (.inr "trues") t = wD a b c d e f t := rfl
theorem wD_new : mergeS [] [(.inr "sheets", a), (.inr "blind", b), (.inr "wait", c), (.inr "run", d), (.inr "true", e), (.inr "runs", f), (.inr "trues", g)] = wD a b c d e f g := rfl
end
end Pf
set_option Elab.async false
set_option linter.all false
set_option maxRecDepth 100000
set_option maxHeartbeats 2000000
namespace Sm
open PySem PySem.Spec PyProof.Rows L2 Pf
noncomputable section
def F__law_rule (x : Bool) : FS := (fRet (toR (fTup (fACons (ofR (fCallF x 2 S_drawn (fACons (fV 0) (fACons (fC (.int 4)) fANil)))) (fACons (ofR (fCallF x 2 S_drawn (fACons (fV 0) (fACons (fC (.int 4)) fANil)))) fANil)))))
def S__law_rule (x : Bool) : Sem1 := bodyS 1 (F__law_rule x)
def F__law_same (x : Bool) (R : Sem1) : FS := (fSeq (fIfS (fEB (fBE (fIsi2 "tuple" "list" (fP 1)))) (fSeq (fIfS (fOr (fNot (fEB (fBE (fIsi2 "tuple" "list" (fP 0))))) (fCmp neT (toO (fBE (fIsi "list" (fP 0)))) (toO (fBE (fIsi "list" (fP 1)))))) (fRet (toR (fC (.bool false)))) fNext)
  (fSeq (fIfS (fCmp neT (toO (fCB lenT (fLCons (fP 0) fLNil))) (toO (fCB lenT (fLCons (fP 1) fLNil)))) (fRet (toR (fC (.bool false)))) fNext)
  (fRet (toR (fBE (fCmp eqT (toO (ofR (fComp [2] (gN 2) (fRng1 (toO (fCB lenT (fLCons (fP 1) fLNil)))) (fNot (fEB (ofR (fCallF x 2 R (fACons (fOp2 ixT (fP 0) (fP 2)) (fACons (fOp2 ixT (fP 1) (fP 2)) fANil)))))) (fV 2)))) (toO (ofR (fLst fANil))))))))) fNext)
  (fSeq (fIfS (fCmp isT (fP 1) (toO (fC .none))) (fRet (toR (fBE (fCmp isT (fP 0) (toO (fC .none)))))) fNext)
  (fSeq (fIfS (fEB (fBE (fIsi "str" (fP 1)))) (fRet (toR (fBE (fAnd (fIsi "str" (fP 0)) (fCmp eqT (fP 0) (fP 1)))))) fNext)
  (fSeq (fIfS (fOr (fEB (fBE (fIsi "bool" (fP 1)))) (fEB (fBE (fIsi "bool" (fP 0))))) (fRet (toR (fBE (fAnd (fIsi "bool" (fP 1)) (fAnd (fIsi "bool" (fP 0)) (fCmp eqT (fP 0) (fP 1))))))) fNext)
  (fRet (toR (fBE (fAnd (fIsi "int" (fP 0)) (fCmp eqT (fP 0) (fP 1))))))))))
def S__law_same (x : Bool) : Nat → Sem1
  | 0 => bodyS 3 fBad
  | n + 1 => bodyS 3 (F__law_same x (S__law_same x n))
def F_is_number (x : Bool) : FS := (fRet (toR (fBE (fAnd (fIsi "int" (fP 0)) (fAnd (fNot (fIsi "bool" (fP 0))) (fChain leT leT (fP 1) (fP 0) (fP 2)))))))
def S_is_number (x : Bool) : Sem1 := bodyS 3 (F_is_number x)
def F_need_book (x : Bool) : FS := (fIfS (fNot (fEB (ofR (fCallF x 3 (S_is_number x) (fACons (fV 0) (fACons (fC (.int 1)) (fACons (fC (.int 30)) fANil))))))) (fRaise x "BadBook" none fANil) fNext)
def S_need_book (x : Bool) : Sem1 := bodyS 1 (F_need_book x)
def F_need_rule (x : Bool) : FS := (fSeq (fIfS (fOr (fNot (fEB (fBE (fIsi "tuple" (fP 0))))) (fCmp neT (toO (fCB lenT (fLCons (fP 0) fLNil))) (toO (fC (.int 2))))) (fRaise x "BadRule" none fANil) fNext)
  (fIfS (fOr (fNot (fEB (ofR (fCallF x 3 (S_is_number x) (fACons (fOp2 ixT (fP 0) (toO (fC (.int 0)))) (fACons (fC (.int 0)) (fACons (fC (.int 3)) fANil))))))) (fNot (fEB (ofR (fCallF x 3 (S_is_number x) (fACons (fOp2 ixT (fP 0) (toO (fC (.int 1)))) (fACons (fC (.int 0)) (fACons (fC (.int 3)) fANil)))))))) (fRaise x "BadRule" none fANil) fNext))
def S_need_rule (x : Bool) : Sem1 := bodyS 1 (F_need_rule x)
def F_is_scan (x : Bool) : FS := (fSeq (fIfS (fOr (fNot (fEB (fBE (fIsi "tuple" (fP 1))))) (fCmp neT (toO (fCB lenT (fLCons (fP 1) fLNil))) (toO (fC (.int 2))))) (fRet (toR (fC (.bool false)))) fNext)
  (fSeq (fFor (gN2 2 3) (fEnumT (fV 1)) (fIfS (fAnd (fCmp isntT (fP 3) (toO (fC .none))) (fOr (fNot (fEB (ofR (fCallF x 3 (S_is_number x) (fACons (fV 3) (fACons (fC (.int 0)) (fACons (fOp2 subT (toO (fOp2 mulT (toO (fC (.int 2))) (fP 0))) (toO (fC (.int 1)))) fANil))))))) (fCmp neT (toO (fOp2 modT (fP 3) (toO (fC (.int 2))))) (fP 2)))) (fRet (toR (fC (.bool false)))) fNext))
  (fRet (toR (fC (.bool true))))))
def S_is_scan (x : Bool) : Sem1 := bodyS 4 (F_is_scan x)
def F_need_run (x : Bool) : FS := (fFor (gN2 2 3) (fEnum (fV 1)) (fIfS (fOr (fCmp eqT (fP 2) (toO (fC (.int 20)))) (fNot (fEB (ofR (fCallF x 2 (S_is_scan x) (fACons (fV 0) (fACons (fV 3) fANil))))))) (fRaise x "BadScan" (some "number") (fACons (fV 2) fANil)) fNext))
def S_need_run (x : Bool) : Sem1 := bodyS 4 (F_need_run x)
def F_Finder___init__ (x : Bool) : FS := (fSeq (fSFld "Finder" "sheets" (fV 0) (fV 1))
  (fSeq (fSFld "Finder" "rule" (fV 0) (fV 2))
  (fSeq (fSFld "Finder" "taken" (fV 0) (fV 3))
  (fSFDic "Finder" "ways" (fV 0)))))
def S_Finder___init__ (x : Bool) : Sem1 := bodyS 4 (F_Finder___init__ x)
def F_need_all (x : Bool) : FS := (fSeq (fExp (ofR (fCallF x 1 (S_need_book x) (fACons (fV 0) fANil))))
  (fSeq (fExp (ofR (fCallF x 1 (S_need_rule x) (fACons (fV 1) fANil))))
  (fSeq (fExp (ofR (fCallF x 2 (S_need_run x) (fACons (fV 0) (fACons (fV 2) fANil)))))
  (fRet (toR (fMakeF x "Finder" 4 (S_Finder___init__ x) (fACons (fV 0) (fACons (fV 1) (fACons (ofR (fListOf (fLCons (fP 2) fLNil))) fANil)))))))))
def S_need_all (x : Bool) : Sem1 := bodyS 3 (F_need_all x)
def F_does_show (x : Bool) : FS := (fRet (toR (fBE (fAnd (fCmp inT (toO (fOp2 ixT (fP 0) (toO (fC (.int 0))))) (toO (fTup (fACons (fC .none) (fACons (fOp2 mulT (toO (fC (.int 2))) (fP 1)) fANil))))) (fCmp inT (toO (fOp2 ixT (fP 0) (toO (fC (.int 1))))) (toO (fTup (fACons (fC .none) (fACons (fOp2 addT (toO (fOp2 mulT (toO (fC (.int 2))) (fP 2))) (toO (fC (.int 1)))) fANil)))))))))
def S_does_show (x : Bool) : Sem1 := bodyS 3 (F_does_show x)
def F_Finder_steps (x : Bool) : FS := (fSeq (fSetR 5 (fLst fANil))
  (fSeq (fFor (gN 6) (fRng1 (toO (fOp2 addT (fP 4) (toO (fC (.int 1)))))) (fSeq (fSet 7 (fOp2 addT (fP 2) (fP 6)))
  (fFor (gN 8) (fRng1 (toO (fOp2 addT (toO (fCB minT (fLCons (toO (fC (.int 1))) (fLCons (fP 3) fLNil)))) (toO (fC (.int 1)))))) (fSeq (fSet 9 (fOp2 addT (fP 7) (fP 8)))
  (fIfS (fAnd (fCmp ltT (fP 9) (toO (fFld "Finder" "sheets" (fV 0)))) (fEB (ofR (fCallF x 3 (S_does_show x) (fACons (fOp2 ixT (toO (fFld "Finder" "taken" (fV 0))) (fP 1)) (fACons (fV 7) (fACons (fV 9) fANil))))))) (fApp 5 (fTup (fACons (fV 7) (fACons (fV 9) (fACons (fOp2 subT (fP 3) (fP 8)) (fACons (fOp2 subT (fP 4) (fP 6)) fANil)))))) fNext)))))
  (fRetV 5)))
def S_Finder_steps (x : Bool) : Sem1 := bodyS 10 (F_Finder_steps x)
def F_Finder_firsts (x : Bool) : FS := (fSeq (fSetR 1 (fLst fANil))
  (fSeq (fFor (gN 2) (fRng1 (toO (fFld "Finder" "sheets" (fV 0)))) (fFor (gN 3) (fItD (ofR (fMethF x "Finder" "steps" 5 (S_Finder_steps x) (fV 0) (fACons (fC (.int 0)) (fACons (fV 2) (fACons (fOp2 ixT (toO (fFld "Finder" "rule" (fV 0))) (toO (fC (.int 0)))) (fACons (fC (.int 0)) fANil))))))) (fApp 1 (fTup (fACons (fOp2 ixT (fP 3) (toO (fC (.int 0)))) (fACons (fOp2 ixT (fP 3) (toO (fC (.int 1)))) (fACons (fOp2 ixT (fP 3) (toO (fC (.int 2)))) (fACons (fOp2 ixT (toO (fFld "Finder" "rule" (fV 0))) (toO (fC (.int 1)))) fANil))))))))
  (fRetV 1)))
def S_Finder_firsts (x : Bool) : Sem1 := bodyS 4 (F_Finder_firsts x)
def F_Finder_count (x : Bool) (R : Sem1) : FS := (fSeq (fIfS (fCmp eqT (fP 1) (toO (fCB lenT (fLCons (toO (fFld "Finder" "taken" (fV 0))) fLNil)))) (fRet (toR (fC (.int 1)))) fNext)
  (fSeq (fSet 5 (fTup (fACons (fV 1) (fACons (fV 2) (fACons (fV 3) (fACons (fV 4) fANil))))))
  (fSeq (fIfS (fDNin "Finder" "ways" 5 (fV 0)) (fSeq (fSetR 6 (fMethF x "Finder" "steps" 5 (S_Finder_steps x) (fV 0) (fACons (fV 1) (fACons (fV 2) (fACons (fV 3) (fACons (fV 4) fANil))))))
  (fFrz 6 (fDPut "Finder" "ways" (fV 0) 5 (fCB sumL (fLCons (toO (ofR (fComp [7] (gN 7) (fItD (fV 6)) fYes (ofR (fMethF x "Finder" "count" 5 R (fV 0) (fACons (fOp2 addT (fP 1) (toO (fC (.int 1)))) (fACons (fOp2 addT (toO (fOp2 ixT (fP 7) (toO (fC (.int 1))))) (toO (fC (.int 1)))) (fACons (fOp2 ixT (fP 7) (toO (fC (.int 2)))) (fACons (fOp2 ixT (fP 7) (toO (fC (.int 3)))) fANil))))))))) fLNil))))) fNext)
  (fRet (toR (fDGet "Finder" "ways" (fV 0) 5))))))
def S_Finder_count (x : Bool) : Nat → Sem1
  | 0 => bodyS 8 fBad
  | n + 1 => bodyS 8 (F_Finder_count x (S_Finder_count x n))
def F_all_ways (x : Bool) : FS := (fSeq (fSetR 1 (fLst fANil))
  (fSeq (fSetR 2 (fIf (fCmp neT (toO (fFld "Finder" "taken" (fV 0))) (toO (ofR (fLst fANil)))) (fMethF x "Finder" "firsts" 1 (S_Finder_firsts x) (fV 0) fANil) (fLst fANil)))
  (fSeq (fFor (gN 3) (fRng1 (toO (fCB lenT (fLCons (toO (fFld "Finder" "taken" (fV 0))) fLNil)))) (fFrz 2 (fSeq (fSetR 4 (fComp [6] (gN 6) (fItD (fV 2)) (fCmp gtT (toO (ofR (fMethF x "Finder" "count" 5 (S_Finder_count x 30) (fV 0) (fACons (fOp2 addT (fP 3) (toO (fC (.int 1)))) (fACons (fOp2 addT (toO (fOp2 ixT (fP 6) (toO (fC (.int 1))))) (toO (fC (.int 1)))) (fACons (fOp2 ixT (fP 6) (toO (fC (.int 2)))) (fACons (fOp2 ixT (fP 6) (toO (fC (.int 3)))) fANil))))))) (toO (fC (.int 0)))) (fV 6)))
  (fSeq (fIfS (fCmp eqT (fP 4) (toO (ofR (fLst fANil)))) (fRet (fLst fANil)) fNext)
  (fFrz 4 (fSeq (fApp 1 (fV 4))
  (fSeq (fSetDic 5)
  (fFrz 4 (fSeq (fFor (gN 6) (fItD (fV 4)) (fIfS (fCmp ltT (toO (fOp2 addT (fP 3) (toO (fC (.int 1))))) (toO (fCB lenT (fLCons (toO (fFld "Finder" "taken" (fV 0))) fLNil)))) (fFor (gN 7) (fItD (ofR (fMethF x "Finder" "steps" 5 (S_Finder_steps x) (fV 0) (fACons (fOp2 addT (fP 3) (toO (fC (.int 1)))) (fACons (fOp2 addT (toO (fOp2 ixT (fP 6) (toO (fC (.int 1))))) (toO (fC (.int 1)))) (fACons (fOp2 ixT (fP 6) (toO (fC (.int 2)))) (fACons (fOp2 ixT (fP 6) (toO (fC (.int 3)))) fANil))))))) (fDPutS 5 7 (fC (.bool true)))) fNext))
  (fSetR 2 (fSortDic 5)))))))))))
  (fRetV 1))))
def S_all_ways (x : Bool) : Sem1 := bodyS 8 (F_all_ways x)
def F_could (x : Bool) : FS := (fSeq (fSetR 3 (fCallF x 3 (S_need_all x) (fACons (fV 0) (fACons (fV 1) (fACons (fV 2) fANil)))))
  (fFrz 3 (fSeq (fIfS (fCmp eqT (toO (fCB lenT (fLCons (toO (fFld "Finder" "taken" (fV 3))) fLNil))) (toO (fC (.int 0)))) (fRet (fLst fANil)) fNext)
  (fFrz 3 (fSeq (fSetR 4 (fCallF x 1 (S_all_ways x) (fACons (fV 3) fANil)))
  (fFrz 4 (fRet (fIf (fCmp neT (fP 4) (toO (ofR (fLst fANil)))) (fComp [5] (gN 5) (fItD (fV 4)) fYes (ofR (fSortSet (fLCons (toO (ofR (fComp [6] (gN 6) (fItD (fV 5)) fYes (fSl (fP 6) fPN (fPS (toO (fC (.int 2)))))))) fLNil)))) (toR (fC .none))))))))))
def S_could (x : Bool) : Sem1 := bodyS 7 (F_could x)
def F_how_many (x : Bool) : FS := (fSeq (fSetR 3 (fCallF x 3 (S_need_all x) (fACons (fV 0) (fACons (fV 1) (fACons (fV 2) fANil)))))
  (fFrz 3 (fSeq (fIfS (fCmp eqT (toO (fCB lenT (fLCons (toO (fFld "Finder" "taken" (fV 3))) fLNil))) (toO (fC (.int 0)))) (fRet (toR (fC (.int 1)))) fNext)
  (fFrz 3 (fRet (toR (fCB sumL (fLCons (toO (ofR (fComp [4] (gN 4) (fItD (ofR (fMethF x "Finder" "firsts" 1 (S_Finder_firsts x) (fV 3) fANil))) fYes (ofR (fMethF x "Finder" "count" 5 (S_Finder_count x 30) (fV 3) (fACons (fC (.int 1)) (fACons (fOp2 addT (toO (fOp2 ixT (fP 4) (toO (fC (.int 1))))) (toO (fC (.int 1)))) (fACons (fOp2 ixT (fP 4) (toO (fC (.int 2)))) (fACons (fOp2 ixT (fP 4) (toO (fC (.int 3)))) fANil))))))))) fLNil))))))))
def S_how_many (x : Bool) : Sem1 := bodyS 5 (F_how_many x)
def F_is_pair (x : Bool) : FS := (fSeq (fIfS (fOr (fNot (fEB (fBE (fIsi "tuple" (fP 1))))) (fOr (fCmp neT (toO (fCB lenT (fLCons (fP 1) fLNil))) (toO (fC (.int 2)))) (fNot (fEB (ofR (fCallF x 3 (S_is_number x) (fACons (fOp2 ixT (fP 1) (toO (fC (.int 0)))) (fACons (fC (.int 0)) (fACons (fOp2 subT (fP 0) (toO (fC (.int 1)))) fANil))))))))) (fRet (toR (fC (.bool false)))) fNext)
  (fRet (fCallF x 3 (S_is_number x) (fACons (fOp2 ixT (fP 1) (toO (fC (.int 1)))) (fACons (fOp2 ixT (fP 1) (toO (fC (.int 0)))) (fACons (fCB minT (fLCons (toO (fOp2 subT (fP 0) (toO (fC (.int 1))))) (fLCons (toO (fOp2 addT (toO (fOp2 ixT (fP 1) (toO (fC (.int 0))))) (toO (fC (.int 1))))) fLNil))) fANil))))))
def S_is_pair (x : Bool) : Sem1 := bodyS 2 (F_is_pair x)
def F_fits (x : Bool) : FS := (fSeq (fExp (ofR (fCallF x 3 (S_need_all x) (fACons (fV 0) (fACons (fV 1) (fACons (fV 2) fANil))))))
  (fSeq (fFor (gN2 7 8) (fEnum (fV 3)) (fIfS (fOr (fCmp eqT (fP 7) (toO (fCB lenT (fLCons (fP 2) fLNil)))) (fNot (fEB (ofR (fCallF x 2 (S_is_pair x) (fACons (fV 0) (fACons (fV 8) fANil))))))) (fRaise x "BadReading" (some "number") (fACons (fV 7) fANil)) fNext))
  (fSeq (fIfS (fCmp ltT (toO (fCB lenT (fLCons (fP 3) fLNil))) (toO (fCB lenT (fLCons (fP 2) fLNil)))) (fRet (toR (fC (.bool false)))) fNext)
  (fSeq (fSet 4 (fCB lenT (fLCons (toO (ofR (fComp [8] (gN 8) (fItD (fV 3)) (fCmp ltT (toO (fOp2 ixT (fP 8) (toO (fC (.int 0))))) (toO (fOp2 ixT (fP 8) (toO (fC (.int 1)))))) (fV 8)))) fLNil)))
  (fSeq (fSet 5 (fC (.int 0)))
  (fSeq (fFor (gN 6) (fRng2 (toO (fC (.int 1))) (toO (fCB lenT (fLCons (fP 3) fLNil)))) (fSeq (fIfS (fCmp leT (toO (fOp2 ixT (toO (fOp2 ixT (fP 3) (fP 6))) (toO (fC (.int 0))))) (toO (fOp2 ixT (toO (fOp2 ixT (fP 3) (toO (fOp2 subT (fP 6) (toO (fC (.int 1))))))) (toO (fC (.int 1)))))) (fRet (toR (fC (.bool false)))) fNext)
  (fSet 5 (fOp2 subT (toO (fOp2 subT (toO (fOp2 addT (fP 5) (toO (fOp2 ixT (toO (fOp2 ixT (fP 3) (fP 6))) (toO (fC (.int 0))))))) (toO (fOp2 ixT (toO (fOp2 ixT (fP 3) (toO (fOp2 subT (fP 6) (toO (fC (.int 1))))))) (toO (fC (.int 1))))))) (toO (fC (.int 1)))))))
  (fSeq (fIfS (fOr (fCmp gtT (fP 4) (toO (fOp2 ixT (fP 1) (toO (fC (.int 0)))))) (fCmp gtT (fP 5) (toO (fOp2 ixT (fP 1) (toO (fC (.int 1))))))) (fRet (toR (fC (.bool false)))) fNext)
  (fRet (toR (fBE (fCmp eqT (toO (ofR (fComp [9] (gN 9) (fRng1 (toO (fCB lenT (fLCons (fP 2) fLNil)))) (fNot (fEB (ofR (fCallF x 3 (S_does_show x) (fACons (fOp2 ixT (fP 2) (fP 9)) (fACons (fOp2 ixT (toO (fOp2 ixT (fP 3) (fP 9))) (toO (fC (.int 0)))) (fACons (fOp2 ixT (toO (fOp2 ixT (fP 3) (fP 9))) (toO (fC (.int 1)))) fANil))))))) (fV 9)))) (toO (ofR (fLst fANil))))))))))))))
def S_fits (x : Bool) : Sem1 := bodyS 10 (F_fits x)
def F_pages_of (x : Bool) : FS := (fSeq (fSetR 2 (fRep (toO (ofR (fLst (fACons (fC .none) fANil)))) (toO (fOp2 mulT (toO (fC (.int 2))) (fP 0)))))
  (fSeq (fFor (gN2 3 4) (fEnum (fV 1)) (fFor (gN2 5 6) (fEnum (fV 4)) (fFor (gN 7) (fItD (fV 6)) (fIfS (fAnd (fCmp isntT (fP 7) (toO (fC .none))) (fCmp isT (toO (fOp2 ixT (fP 2) (fP 7))) (toO (fC .none)))) (fSetI 2 (fP 7) (fTup (fACons (fV 3) (fACons (fV 5) fANil)))) fNext))))
  (fRetV 2)))
def S_pages_of (x : Bool) : Sem1 := bodyS 8 (F_pages_of x)
def F_need_runs (x : Bool) : FS := (fFor (gN2 2 3) (fEnum (fV 1)) (fSeq (fIfS (fOr (fCmp eqT (fP 2) (toO (fC (.int 12)))) (fOr (fNot (fEB (fBE (fIsi "list" (fP 3))))) (fCmp gtT (toO (fCB lenT (fLCons (fP 3) fLNil))) (toO (fC (.int 20)))))) (fRaise x "BadRun" (some "number") (fACons (fV 2) fANil)) fNext)
  (fIfS (fCmp neT (toO (ofR (fComp [4] (gN 4) (fItD (fV 3)) (fNot (fEB (ofR (fCallF x 2 (S_is_scan x) (fACons (fV 0) (fACons (fV 4) fANil)))))) (fV 4)))) (toO (ofR (fLst fANil)))) (fRaise x "BadRun" (some "number") (fACons (fV 2) fANil)) fNext)))
def S_need_runs (x : Bool) : Sem1 := bodyS 5 (F_need_runs x)
def F_sure_of (x : Bool) : FS := (fSeq (fIfS (fCmp eqT (fP 2) (toO (ofR (fLst fANil)))) (fRet (fLst fANil)) fNext)
  (fSeq (fSetR 3 (fCallF x 1 (S_all_ways x) (fACons (fMakeF x "Finder" 4 (S_Finder___init__ x) (fACons (fV 0) (fACons (fV 1) (fACons (fV 2) fANil)))) fANil)))
  (fSeq (fIfS (fCmp eqT (fP 3) (toO (ofR (fLst fANil)))) (fRet (toR (fC .none))) fNext)
  (fSeq (fSetR 4 (fLst fANil))
  (fFrz 3 (fSeq (fFor (gN 5) (fItD (fV 3)) (fSeq (fPar [7, 8] (fRCons (fSortSet (fLCons (toO (ofR (fComp [9] (gN 9) (fItD (fV 5)) fYes (fOp2 ixT (fP 9) (toO (fC (.int 0))))))) fLNil)) (fRCons (fSortSet (fLCons (toO (ofR (fComp [9] (gN 9) (fItD (fV 5)) fYes (fOp2 ixT (fP 9) (toO (fC (.int 1))))))) fLNil)) fRNil)))
  (fSeq (fSet 6 (fIf (fCmp eqT (toO (fCB lenT (fLCons (fP 7) fLNil))) (toO (fC (.int 1)))) (fOp2 mulT (toO (fC (.int 2))) (toO (fOp2 ixT (fP 7) (toO (fC (.int 0)))))) (fC .none)))
  (fApp 4 (fTup (fACons (fV 6) (fACons (fIf (fCmp eqT (toO (fCB lenT (fLCons (fP 8) fLNil))) (toO (fC (.int 1)))) (fOp2 addT (toO (fOp2 mulT (toO (fC (.int 2))) (toO (fOp2 ixT (fP 8) (toO (fC (.int 0))))))) (toO (fC (.int 1)))) (fC .none)) fANil)))))))
  (fRetV 4)))))))
def S_sure_of (x : Bool) : Sem1 := bodyS 10 (F_sure_of x)
def F_need_all_runs (x : Bool) : FS := (fSeq (fExp (ofR (fCallF x 1 (S_need_book x) (fACons (fV 0) fANil))))
  (fSeq (fExp (ofR (fCallF x 1 (S_need_rule x) (fACons (fV 1) fANil))))
  (fSeq (fExp (ofR (fCallF x 2 (S_need_runs x) (fACons (fV 0) (fACons (fV 2) fANil)))))
  (fSeq (fSetR 3 (fComp [5] (gN 5) (fItD (fV 2)) fYes (ofR (fCallF x 3 (S_sure_of x) (fACons (fV 0) (fACons (fV 1) (fACons (fV 5) fANil)))))))
  (fSeq (fSetR 4 (fComp [6] (gN 6) (fRng1 (toO (fCB lenT (fLCons (fP 3) fLNil)))) (fCmp isT (toO (fOp2 ixT (fP 3) (fP 6))) (toO (fC .none))) (fV 6)))
  (fSeq (fIfS (fCmp neT (fP 4) (toO (ofR (fLst fANil)))) (fRaise x "BadRun" (some "number") (fACons (fOp2 ixT (fP 4) (toO (fC (.int 0)))) fANil)) fNext)
  (fRetV 3)))))))
def S_need_all_runs (x : Bool) : Sem1 := bodyS 7 (F_need_all_runs x)
def F_shown_by (x : Bool) : FS := (fRet (fCallF x 2 (S_pages_of x) (fACons (fV 0) (fACons (ofR (fCallF x 3 (S_need_all_runs x) (fACons (fV 0) (fACons (fV 1) (fACons (fV 2) fANil))))) fANil))))
def S_shown_by (x : Bool) : Sem1 := bodyS 3 (F_shown_by x)
def F_gaps (x : Bool) : FS := (fSeq (fSetR 3 (fCallF x 3 (S_shown_by x) (fACons (fV 0) (fACons (fV 1) (fACons (fV 2) fANil)))))
  (fSeq (fSetR 4 (fLst fANil))
  (fSeq (fFor (gN 5) (fRng1 (toO (fCB lenT (fLCons (fP 3) fLNil)))) (fIfS (fCmp isT (toO (fOp2 ixT (fP 3) (fP 5))) (toO (fC .none))) (fIfS (fAnd (fCmp neT (fP 4) (toO (ofR (fLst fANil)))) (fCmp eqT (toO (fOp2 ixT (toO (fOp2 ixT (fP 4) (toO (fC (.int (-1)))))) (toO (fC (.int 1))))) (toO (fOp2 subT (fP 5) (toO (fC (.int 1))))))) (fSetI 4 (toO (fC (.int (-1)))) (fTup (fACons (fOp2 ixT (toO (fOp2 ixT (fP 4) (toO (fC (.int (-1)))))) (toO (fC (.int 0)))) (fACons (fV 5) fANil)))) (fApp 4 (fTup (fACons (fV 5) (fACons (fV 5) fANil))))) fNext))
  (fRetV 4))))
def S_gaps (x : Bool) : Sem1 := bodyS 6 (F_gaps x)
def F_seen (x : Bool) : FS := (fSeq (fSetR 3 (fCallF x 3 (S_need_all_runs x) (fACons (fV 0) (fACons (fV 1) (fACons (fV 2) fANil)))))
  (fSeq (fSetR 4 (fRep (toO (ofR (fLst (fACons (fC (.int 0)) fANil)))) (toO (fOp2 mulT (toO (fC (.int 2))) (fP 0)))))
  (fFrz 3 (fSeq (fFor (gN 5) (fItD (fV 3)) (fFor (gN 6) (fItD (fV 5)) (fFor (gN 7) (fItD (fV 6)) (fIfS (fCmp isntT (fP 7) (toO (fC .none))) (fSetI 4 (fP 7) (fOp2 addT (toO (fOp2 ixT (fP 4) (fP 7))) (toO (fC (.int 1))))) fNext))))
  (fRetV 4)))))
def S_seen (x : Bool) : Sem1 := bodyS 8 (F_seen x)
def F_best_of (x : Bool) : FS := (fSeq (fSet 1 (fCB minL (fLCons (toO (ofR (fComp [2] (gN 2) (fItD (fV 0)) fYes (fSl (fP 2) fPN (fPS (toO (fC (.int 2)))))))) fLNil)))
  (fRet (toR (fCB maxL (fLCons (toO (ofR (fComp [2] (gN 2) (fItD (fV 0)) (fCmp eqT (toO (fSl (fP 2) fPN (fPS (toO (fC (.int 2)))))) (fP 1)) (fV 2)))) fLNil)))))
def S_best_of (x : Bool) : Sem1 := bodyS 3 (F_best_of x)
def F_least_reading (x : Bool) : FS := (fSeq (fSetR 3 (fCallF x 3 (S_need_all x) (fACons (fV 0) (fACons (fV 1) (fACons (fV 2) fANil)))))
  (fSeq (fIfS (fCmp eqT (toO (ofR (fCallF x 3 (S_how_many x) (fACons (fV 0) (fACons (fV 1) (fACons (fV 2) fANil)))))) (toO (fC (.int 0)))) (fRet (toR (fC .none))) fNext)
  (fSeq (fSetR 4 (fLst fANil))
  (fFrz 3 (fSeq (fFor (gN 5) (fRng1 (toO (fCB lenT (fLCons (toO (fFld "Finder" "taken" (fV 3))) fLNil)))) (fSeq (fIfS (fCmp eqT (fP 5) (toO (fC (.int 0)))) (fFrz 3 (fSetR 7 (fMethF x "Finder" "firsts" 1 (S_Finder_firsts x) (fV 3) fANil))) (fFrz 3 (fSetR 7 (fMethF x "Finder" "steps" 5 (S_Finder_steps x) (fV 3) (fACons (fV 5) (fACons (fOp2 addT (toO (fOp2 ixT (toO (fOp2 ixT (fP 4) (toO (fC (.int (-1)))))) (toO (fC (.int 1))))) (toO (fC (.int 1)))) (fACons (fOp2 ixT (toO (fOp2 ixT (fP 4) (toO (fC (.int (-1)))))) (toO (fC (.int 2)))) (fACons (fOp2 ixT (toO (fOp2 ixT (fP 4) (toO (fC (.int (-1)))))) (toO (fC (.int 3)))) fANil))))))))
  (fFrz 3 (fSeq (fSetR 6 (fComp [8] (gN 8) (fItD (ofR (fSorted (fLCons (fP 7) fLNil)))) (fCmp gtT (toO (ofR (fMethF x "Finder" "count" 5 (S_Finder_count x 30) (fV 3) (fACons (fOp2 addT (fP 5) (toO (fC (.int 1)))) (fACons (fOp2 addT (toO (fOp2 ixT (fP 8) (toO (fC (.int 1))))) (toO (fC (.int 1)))) (fACons (fOp2 ixT (fP 8) (toO (fC (.int 2)))) (fACons (fOp2 ixT (fP 8) (toO (fC (.int 3)))) fANil))))))) (toO (fC (.int 0)))) (fV 8)))
  (fFrz 6 (fApp 4 (ofR (fCallF x 1 (S_best_of x) (fACons (fV 6) fANil)))))))))
  (fFrz 4 (fRet (fComp [8] (gN 8) (fItD (fV 4)) fYes (fSl (fP 8) fPN (fPS (toO (fC (.int 2)))))))))))))
def S_least_reading (x : Bool) : Sem1 := bodyS 9 (F_least_reading x)
def F__law_fed (x : Bool) : FS := (fSeq (fPar [5, 6, 7] (fRCons (fCallF x 2 S_drawn (fACons (fV 0) (fACons (fV 1) fANil))) (fRCons (fLst fANil) (fRCons (fLst fANil) fRNil))))
  (fSeq (fPar [8, 9, 10] (fRCons (toR (fOp2 ixT (fP 2) (toO (fC (.int 0))))) (fRCons (toR (fOp2 ixT (fP 2) (toO (fC (.int 1))))) (fRCons (fCallF x 2 S_drawn (fACons (fV 0) (fACons (fC (.int 4)) fANil))) fRNil))))
  (fSeq (fFor (gN 4) (fRng1 (toO (fOp2 addT (toO (fC (.int 1))) (toO (ofR (fCallF x 2 S_drawn (fACons (fV 0) (fACons (fV 3) fANil)))))))) (fSeq (fSetR 11 (fIf (fAnd (fCmp neT (fP 6) (toO (ofR (fLst fANil)))) (fCmp eqT (toO (ofR (fCallF x 2 S_drawn (fACons (fV 0) (fACons (fC (.int 3)) fANil))))) (toO (fC (.int 0))))) (fCallF x 2 S_drawn (fACons (fV 0) (fACons (fOp2 addT (fP 9) (toO (fC (.int 1)))) fANil))) (toR (fC (.int 0)))))
  (fSeq (fSet 12 (fCB intT (fLCons (toO (fBE (fAnd (fCmp eqT (toO (ofR (fCallF x 2 S_drawn (fACons (fV 0) (fACons (fC (.int 4)) fANil))))) (toO (fC (.int 0)))) (fAnd (fCmp gtT (fP 8) (toO (fC (.int 0)))) (fCmp ltT (toO (fOp2 addT (toO (fOp2 addT (fP 5) (fP 11))) (toO (fC (.int 1))))) (fP 1)))))) fLNil)))
  (fIfS (fCmp ltT (toO (fOp2 addT (toO (fOp2 addT (fP 5) (fP 11))) (fP 12))) (fP 1)) (fSeq (fPar [9, 8] (fRCons (toR (fOp2 subT (fP 9) (fP 11))) (fRCons (toR (fOp2 subT (fP 8) (fP 12))) fRNil)))
  (fSeq (fSet 13 (fOp2 addT (fP 5) (fP 11)))
  (fSeq (fSetR 14 (fLst (fACons (fOp2 mulT (toO (fC (.int 2))) (fP 13)) (fACons (fOp2 addT (toO (fOp2 mulT (toO (fC (.int 2))) (toO (fOp2 addT (fP 13) (fP 12))))) (toO (fC (.int 1)))) fANil))))
  (fFrz 14 (fSeq (fApp 6 (fCB tupleT (fLCons (toO (ofR (fComp [15] (gN 15) (fItD (fV 14)) fYes (fIf (fCmp ltT (toO (ofR (fCallF x 2 S_drawn (fACons (fV 0) (fACons (fC (.int 4)) fANil))))) (fP 10)) (fC .none) (fV 15))))) fLNil)))
  (fSeq (fApp 7 (fTup (fACons (fV 13) (fACons (fOp2 addT (fP 13) (fP 12)) fANil))))
  (fSet 5 (fOp2 addT (toO (fOp2 addT (fP 13) (fP 12))) (toO (fC (.int 1))))))))))) fNext))))
  (fFrz 7 (fFrz 6 (fRet (toR (fTup (fACons (fV 6) (fACons (fV 7) fANil))))))))))
def S__law_fed (x : Bool) : Sem1 := bodyS 16 (F__law_fed x)
def F_stacks (x : Bool) : FS := (fSeq (fSetR 4 (fCallF x 3 (S_shown_by x) (fACons (fV 0) (fACons (fV 1) (fACons (fV 2) fANil)))))
  (fSeq (fIfS (fNot (fEB (ofR (fCallF x 3 (S_is_number x) (fACons (fV 3) (fACons (fC (.int 1)) (fACons (fV 0) fANil))))))) (fRaise x "BadSize" none fANil) fNext)
  (fSeq (fSetR 5 (fComp [7] (gN 7) (fRng1 (fP 0)) (fCmp inT (toO (fC .none)) (toO (fSl (fP 4) (fPS (toO (fOp2 mulT (toO (fC (.int 2))) (fP 7)))) (fPS (toO (fOp2 addT (toO (fOp2 mulT (toO (fC (.int 2))) (fP 7))) (toO (fC (.int 2))))))))) (fV 7)))
  (fSeq (fSetR 6 (fLst fANil))
  (fFrz 5 (fSeq (fFor (gN 7) (fItD (fV 5)) (fIfS (fAnd (fCmp neT (fP 6) (toO (ofR (fLst fANil)))) (fCmp ltT (fP 7) (toO (fOp2 addT (toO (fOp2 ixT (toO (fOp2 ixT (fP 6) (toO (fC (.int (-1)))))) (toO (fC (.int 0))))) (fP 3))))) (fSetI 6 (toO (fC (.int (-1)))) (fTup (fACons (fOp2 ixT (toO (fOp2 ixT (fP 6) (toO (fC (.int (-1)))))) (toO (fC (.int 0)))) (fACons (fV 7) fANil)))) (fApp 6 (fTup (fACons (fV 7) (fACons (fV 7) fANil))))))
  (fRetV 6)))))))
def S_stacks (x : Bool) : Sem1 := bodyS 8 (F_stacks x)
def F_Feeder___init__ (x : Bool) : FS := (fSeq (fExp (ofR (fCallF x 1 (S_need_book x) (fACons (fV 1) fANil))))
  (fSeq (fIfS (fNot (fEB (fBE (fIsi "tuple" (fP 2))))) (fRaise x "BadBlind" none fANil) fNext)
  (fSeq (fSet 3 (fOp2 subT (toO (fC (.int 0))) (toO (fC (.int 1)))))
  (fSeq (fFor (gN 4) (fItD (fV 2)) (fSeq (fIfS (fNot (fEB (ofR (fCallF x 3 (S_is_number x) (fACons (fV 4) (fACons (fOp2 addT (fP 3) (toO (fC (.int 1)))) (fACons (fOp2 subT (toO (fOp2 mulT (toO (fC (.int 2))) (fP 1))) (toO (fC (.int 1)))) fANil))))))) (fRaise x "BadBlind" none fANil) fNext)
  (fSet 3 (fV 4))))
  (fSeq (fSFld "Feeder" "sheets" (fV 0) (fV 1))
  (fSeq (fSFld "Feeder" "blind" (fV 0) (fV 2))
  (fSeq (fSFld "Feeder" "next" (fV 0) (fC (.int 0)))
  (fSeq (fSFld "Feeder" "last" (fV 0) (fOp2 subT (toO (fC (.int 0))) (toO (fC (.int 1)))))
  (fSeq (fSFLst "Feeder" "here" 0)
  (fSFLst "Feeder" "ended" 0))))))))))
def S_Feeder___init__ (x : Bool) : Sem1 := bodyS 5 (F_Feeder___init__ x)
def F_Feeder_put (x : Bool) : FS := (fSeq (fIfS (fOr (fNot (fEB (ofR (fCallF x 3 (S_is_number x) (fACons (fV 1) (fACons (fC (.int 0)) (fACons (fOp2 subT (toO (fFld "Feeder" "sheets" (fV 0))) (toO (fC (.int 1)))) fANil))))))) (fNot (fEB (ofR (fCallF x 3 (S_is_number x) (fACons (fV 2) (fACons (fV 1) (fACons (fOp2 subT (toO (fFld "Feeder" "sheets" (fV 0))) (toO (fC (.int 1)))) fANil)))))))) (fRaise x "BadStack" none fANil) fNext)
  (fSeq (fIfS (fCmp leT (toO (fFld "Feeder" "next" (fV 0))) (toO (fFld "Feeder" "last" (fV 0)))) (fRaise x "Busy" none fANil) fNext)
  (fSeq (fSFld "Feeder" "next" (fV 0) (fV 1))
  (fSFld "Feeder" "last" (fV 0) (fV 2)))))
def S_Feeder_put (x : Bool) : Sem1 := bodyS 3 (F_Feeder_put x)
def F_Feeder_need_sheets (x : Bool) : FS := (fIfS (fCmp ltT (toO (fOp2 addT (toO (fOp2 subT (toO (fFld "Feeder" "last" (fV 0))) (toO (fFld "Feeder" "next" (fV 0))))) (toO (fC (.int 1))))) (fP 1)) (fRaise x "NoSheet" none fANil) fNext)
def S_Feeder_need_sheets (x : Bool) : Sem1 := bodyS 2 (F_Feeder_need_sheets x)
def F_Feeder_end_run (x : Bool) : FS := (fSeq (fIfS (fFldNe "Feeder" "here" 0) (fAppZ "Feeder" "ended" "here" 0) fNext)
  (fSeq (fSFLst "Feeder" "here" 0)
  (fSeq (fSFld "Feeder" "next" (fV 0) (fC (.int 0)))
  (fSFld "Feeder" "last" (fV 0) (fOp2 subT (toO (fC (.int 0))) (toO (fC (.int 1))))))))
def S_Feeder_end_run (x : Bool) : Sem1 := bodyS 1 (F_Feeder_end_run x)
def F_Feeder_pass_by (x : Bool) : FS := (fSeq (fSFld "Feeder" "next" (fV 0) (fOp2 addT (toO (fFld "Feeder" "next" (fV 0))) (fP 1)))
  (fIfS (fCmp gtT (toO (fFld "Feeder" "next" (fV 0))) (toO (fFld "Feeder" "last" (fV 0)))) (fExp (ofR (fMethF x "Feeder" "end_run" 1 (S_Feeder_end_run x) (fV 0) fANil))) fNext))
def S_Feeder_pass_by (x : Bool) : Sem1 := bodyS 2 (F_Feeder_pass_by x)
def F_Feeder_read_page (x : Bool) : FS := (fRet (fIf (fCmp inT (fP 1) (toO (fFld "Feeder" "blind" (fV 0)))) (toR (fC .none)) (toR (fV 1))))
def S_Feeder_read_page (x : Bool) : Sem1 := bodyS 2 (F_Feeder_read_page x)
def F_Feeder_take (x : Bool) : FS := (fSeq (fExp (ofR (fMethF x "Feeder" "need_sheets" 2 (S_Feeder_need_sheets x) (fV 0) (fACons (fV 1) fANil))))
  (fSeq (fSet 2 (fFld "Feeder" "next" (fV 0)))
  (fSeq (fSet 3 (fTup (fACons (ofR (fMethF x "Feeder" "read_page" 2 (S_Feeder_read_page x) (fV 0) (fACons (fOp2 mulT (toO (fC (.int 2))) (fP 2)) fANil))) (fACons (ofR (fMethF x "Feeder" "read_page" 2 (S_Feeder_read_page x) (fV 0) (fACons (fOp2 addT (toO (fOp2 mulT (toO (fC (.int 2))) (toO (fOp2 subT (toO (fOp2 addT (fP 2) (fP 1))) (toO (fC (.int 1))))))) (toO (fC (.int 1)))) fANil))) fANil))))
  (fSeq (fAppF "Feeder" "here" 0 3)
  (fSeq (fExp (ofR (fMethF x "Feeder" "pass_by" 2 (S_Feeder_pass_by x) (fV 0) (fACons (fV 1) fANil))))
  (fRet (toR (fV 3))))))))
def S_Feeder_take (x : Bool) : Sem1 := bodyS 4 (F_Feeder_take x)
def F_Feeder_feed (x : Bool) : FS := (fRet (fMethF x "Feeder" "take" 2 (S_Feeder_take x) (fV 0) (fACons (fC (.int 1)) fANil)))
def S_Feeder_feed (x : Bool) : Sem1 := bodyS 1 (F_Feeder_feed x)
def F_Feeder_twice (x : Bool) : FS := (fRet (fMethF x "Feeder" "take" 2 (S_Feeder_take x) (fV 0) (fACons (fC (.int 2)) fANil)))
def S_Feeder_twice (x : Bool) : Sem1 := bodyS 1 (F_Feeder_twice x)
def F_Feeder_slip (x : Bool) : FS := (fSeq (fExp (ofR (fMethF x "Feeder" "need_sheets" 2 (S_Feeder_need_sheets x) (fV 0) (fACons (fC (.int 1)) fANil))))
  (fExp (ofR (fMethF x "Feeder" "pass_by" 2 (S_Feeder_pass_by x) (fV 0) (fACons (fC (.int 1)) fANil)))))
def S_Feeder_slip (x : Bool) : Sem1 := bodyS 1 (F_Feeder_slip x)
def F_Feeder_jam (x : Bool) : FS := (fSeq (fExp (ofR (fMethF x "Feeder" "need_sheets" 2 (S_Feeder_need_sheets x) (fV 0) (fACons (fC (.int 1)) fANil))))
  (fExp (ofR (fMethF x "Feeder" "end_run" 1 (S_Feeder_end_run x) (fV 0) fANil))))
def S_Feeder_jam (x : Bool) : Sem1 := bodyS 1 (F_Feeder_jam x)
def F_Feeder_waits (x : Bool) : FS := (fRet (fIf (fCmp leT (toO (fFld "Feeder" "next" (fV 0))) (toO (fFld "Feeder" "last" (fV 0)))) (toR (fTup (fACons (fFld "Feeder" "next" (fV 0)) (fACons (fFld "Feeder" "last" (fV 0)) fANil)))) (toR (fC .none))))
def S_Feeder_waits (x : Bool) : Sem1 := bodyS 1 (F_Feeder_waits x)
def F_Feeder_run (x : Bool) : FS := (fRet (fListF "Feeder" "here" 0))
def S_Feeder_run (x : Bool) : Sem1 := bodyS 1 (F_Feeder_run x)
def F_Feeder_runs (x : Bool) : FS := (fRet (fCompH [1] (gN 1) (fPkF "Feeder" "ended" 0) fYes (ofR (fListOf (fLCons (fP 1) fLNil)))))
def S_Feeder_runs (x : Bool) : Sem1 := bodyS 2 (F_Feeder_runs x)
def F_do (x : Bool) : FS := (fSeq (fSet 2 (fOp2 ixT (fP 1) (toO (fC (.int 0)))))
  (fSeq (fIfS (fCmp eqT (fP 2) (toO (fC (.str "put")))) (fRet (fMethF x "Feeder" "put" 3 (S_Feeder_put x) (fV 0) (fACons (fOp2 ixT (fP 1) (toO (fC (.int 1)))) (fACons (fOp2 ixT (fP 1) (toO (fC (.int 2)))) fANil)))) fNext)
  (fSeq (fIfS (fCmp eqT (fP 2) (toO (fC (.str "feed")))) (fRet (fMethF x "Feeder" "feed" 1 (S_Feeder_feed x) (fV 0) fANil)) fNext)
  (fSeq (fIfS (fCmp eqT (fP 2) (toO (fC (.str "twice")))) (fRet (fMethF x "Feeder" "twice" 1 (S_Feeder_twice x) (fV 0) fANil)) fNext)
  (fRet (fIf (fCmp eqT (fP 2) (toO (fC (.str "slip")))) (fMethF x "Feeder" "slip" 1 (S_Feeder_slip x) (fV 0) fANil) (fMethF x "Feeder" "jam" 1 (S_Feeder_jam x) (fV 0) fANil)))))))
def S_do (x : Bool) : Sem1 := bodyS 3 (F_do x)
def F__law_other (x : Bool) : FS := (fSeq (fPar [6, 7] (fRCons (fCallF x 2 S_drawn (fACons (fV 0) (fACons (fOp2 addT (toO (fCB lenT (fLCons (fP 1) fLNil))) (toO (fC (.int 1)))) fANil))) (fRCons (fCallF x 2 S_drawn (fACons (fV 0) (fACons (fC (.int 5)) fANil))) fRNil)))
  (fSeq (fSet 3 (fTup (fACons (fOp2 mulT (toO (fC (.int 2))) (toO (ofR (fCallF x 2 S_drawn (fACons (fV 0) (fACons (fV 2) fANil)))))) (fACons (fOp2 addT (toO (fOp2 mulT (toO (fC (.int 2))) (toO (ofR (fCallF x 2 S_drawn (fACons (fV 0) (fACons (fV 2) fANil))))))) (toO (fC (.int 1)))) fANil))))
  (fSeq (fIfS (fOr (fCmp eqT (fP 6) (toO (fCB lenT (fLCons (fP 1) fLNil)))) (fCmp eqT (fP 7) (toO (fC (.int 0))))) (fRet (toR (fSl (toO (fOp2 addT (toO (fOp2 addT (toO (fSl (fP 1) fPN (fPS (fP 6)))) (toO (ofR (fLst (fACons (fV 3) fANil)))))) (toO (fSl (fP 1) (fPS (fP 6)) fPN)))) fPN (fPS (toO (fC (.int 20))))))) fNext)
  (fSeq (fAsg (gN2 8 9) (fOp2 ixT (fP 1) (fP 6)))
  (fSeq (fPar [10, 11] (fRCons (toR (fSl (fP 1) fPN (fPS (fP 6)))) (fRCons (toR (fSl (fP 1) (fPS (toO (fOp2 addT (fP 6) (toO (fC (.int 1)))))) fPN)) fRNil)))
  (fSeq (fSet 4 (fRev (toO (fSl (fP 1) (fPS (fP 6)) (fPS (toO (fOp2 addT (fP 6) (toO (fC (.int 2))))))))))
  (fSeq (fSetR 5 (fLst (fACons (fOp2 addT (fP 10) (fP 11)) (fACons (fOp2 addT (toO (fOp2 addT (fP 10) (toO (ofR (fLst (fACons (fTup (fACons (fOp2 ixT (fP 3) (toO (fC (.int 0)))) (fACons (fV 9) fANil))) fANil)))))) (fP 11)) (fACons (fOp2 addT (toO (fOp2 addT (fP 10) (toO (ofR (fLst (fACons (fTup (fACons (fV 8) (fACons (fOp2 ixT (fP 3) (toO (fC (.int 1)))) fANil))) fANil)))))) (fP 11)) fANil)))))
  (fRet (toR (fOp2 ixT (toO (fOp2 addT (fP 5) (toO (ofR (fLst (fACons (fOp2 addT (toO (fOp2 addT (fP 10) (fP 4))) (toO (fSl (fP 1) (fPS (toO (fOp2 addT (fP 6) (toO (fC (.int 2)))))) fPN))) fANil)))))) (toO (fOp2 subT (fP 7) (toO (fC (.int 1)))))))))))))))
def S__law_other (x : Bool) : Sem1 := bodyS 12 (F__law_other x)
def F__law_bent (x : Bool) : FS := (fSeq (fPar [6, 7] (fRCons (toR (fOp2 ixT (toO (ofR (fLst (fACons (ofR (fCallF x 2 S_drawn (fACons (fV 0) (fACons (fCB lenT (fLCons (fP 1) fLNil)) fANil)))) (fACons (fOp2 subT (toO (fCB lenT (fLCons (fP 1) fLNil))) (toO (fC (.int 1)))) fANil))))) (toO (fOp2 divT (toO (ofR (fCallF x 2 S_drawn (fACons (fV 0) (fACons (fC (.int 3)) fANil))))) (toO (fC (.int 2))))))) (fRCons (fCallF x 2 S_drawn (fACons (fV 0) (fACons (fC (.int 6)) fANil))) fRNil)))
  (fSeq (fAsg (gN2 8 9) (fOp2 ixT (fP 1) (fP 6)))
  (fSeq (fSet 3 (fOp2 ixT (toO (ofR (fLst (fACons (fC (.int 1)) (fACons (fOp2 subT (toO (fC (.int 0))) (toO (fC (.int 1)))) fANil))))) (toO (ofR (fCallF x 2 S_drawn (fACons (fV 0) (fACons (fC (.int 2)) fANil)))))))
  (fSeq (fSetR 4 (fLst (fACons (fTup (fACons (fOp2 addT (fP 8) (fP 3)) (fACons (fOp2 addT (fP 9) (fP 3)) fANil))) (fACons (fTup (fACons (fV 8) (fACons (fOp2 subT (toO (fOp2 addT (toO (fOp2 mulT (toO (fC (.int 2))) (fP 8))) (toO (fC (.int 1))))) (fP 9)) fANil))) (fACons (fTup (fACons (fOp2 addT (fP 8) (fP 3)) (fACons (fOp2 addT (fP 8) (fP 3)) fANil))) (fACons (fTup (fACons (fV 9) (fACons (fV 9) fANil))) fANil))))))
  (fSeq (fSet 5 (fOp2 ixT (fP 4) (toO (fOp2 modT (fP 7) (toO (fC (.int 4)))))))
  (fSeq (fIfS (fNot (fChain3 leT leT ltT (toO (fC (.int 0))) (toO (fOp2 ixT (fP 5) (toO (fC (.int 0))))) (toO (fOp2 ixT (fP 5) (toO (fC (.int 1))))) (fP 2))) (fSet 5 (fTup (fACons (fC (.int 0)) (fACons (fC (.int 0)) fANil)))) fNext)
  (fSeq (fIfS (fCmp eqT (fP 7) (toO (fC (.int 4)))) (fRet (toR (fOp2 addT (toO (fSl (fP 1) fPN (fPS (fP 6)))) (toO (fSl (fP 1) (fPS (toO (fOp2 addT (fP 6) (toO (fC (.int 1)))))) fPN))))) fNext)
  (fSeq (fIfS (fCmp eqT (fP 7) (toO (fC (.int 5)))) (fRet (toR (fOp2 addT (toO (fSl (fP 1) fPN (fPS (fP 6)))) (toO (ofR (fComp [5] (gN 5) (fItD (fSl (fP 1) (fPS (fP 6)) fPN)) fYes (fTup (fACons (fCB minT (fLCons (toO (fOp2 subT (fP 2) (toO (fC (.int 1))))) (fLCons (toO (fOp2 addT (toO (fOp2 ixT (fP 5) (toO (fC (.int 0))))) (toO (fC (.int 1))))) fLNil))) (fACons (fCB minT (fLCons (toO (fOp2 subT (fP 2) (toO (fC (.int 1))))) (fLCons (toO (fOp2 addT (toO (fOp2 ixT (fP 5) (toO (fC (.int 1))))) (toO (fC (.int 1))))) fLNil))) fANil))))))))) fNext)
  (fRet (toR (fOp2 addT (toO (fOp2 addT (toO (fSl (fP 1) fPN (fPS (fP 6)))) (toO (ofR (fLst (fACons (fV 5) fANil)))))) (toO (fSl (fP 1) (fPS (toO (fOp2 addT (fP 6) (toO (fC (.int 1)))))) fPN)))))))))))))
def S__law_bent (x : Bool) : Sem1 := bodyS 10 (F__law_bent x)
def F__law_shows (x : Bool) : FS := (fRet (toR (fBE (fAnd (fCmp inT (toO (fOp2 ixT (fP 0) (toO (fC (.int 0))))) (toO (fTup (fACons (fC .none) (fACons (fOp2 mulT (toO (fC (.int 2))) (toO (fOp2 ixT (fP 1) (toO (fC (.int 0)))))) fANil))))) (fCmp inT (toO (fOp2 ixT (fP 0) (toO (fC (.int 1))))) (toO (fTup (fACons (fC .none) (fACons (fOp2 addT (toO (fOp2 mulT (toO (fC (.int 2))) (toO (fOp2 ixT (fP 1) (toO (fC (.int 1))))))) (toO (fC (.int 1)))) fANil)))))))))
def S__law_shows (x : Bool) : Sem1 := bodyS 2 (F__law_shows x)
def F__law_is_reading (x : Bool) : FS := (fSeq (fIfS (fCmp neT (toO (fCB lenT (fLCons (fP 3) fLNil))) (toO (fCB lenT (fLCons (fP 2) fLNil)))) (fRet (toR (fC (.bool false)))) fNext)
  (fSeq (fPar [5, 6] (fRCons (toR (fC (.int 0))) (fRCons (toR (fC (.int 0))) fRNil)))
  (fSeq (fFor (gN 4) (fRng1 (toO (fCB lenT (fLCons (fP 2) fLNil)))) (fSeq (fAsg (gN2 7 8) (fOp2 ixT (fP 3) (fP 4)))
  (fSeq (fSet 5 (fOp2 subT (toO (fOp2 addT (fP 5) (fP 8))) (fP 7)))
  (fSeq (fIfS (fCmp gtT (fP 4) (toO (fC (.int 0)))) (fSeq (fSet 9 (fOp2 subT (toO (fOp2 subT (fP 7) (toO (fOp2 ixT (toO (fOp2 ixT (fP 3) (toO (fOp2 subT (fP 4) (toO (fC (.int 1))))))) (toO (fC (.int 1))))))) (toO (fC (.int 1)))))
  (fSeq (fIfS (fCmp ltT (fP 9) (toO (fC (.int 0)))) (fRet (toR (fC (.bool false)))) fNext)
  (fSet 6 (fOp2 addT (fP 6) (fP 9))))) fNext)
  (fIfS (fNot (fEB (ofR (fCallF x 2 (S__law_shows x) (fACons (fOp2 ixT (fP 2) (fP 4)) (fACons (fOp2 ixT (fP 3) (fP 4)) fANil)))))) (fRet (toR (fC (.bool false)))) fNext)))))
  (fRet (toR (fBE (fAnd (fCmp leT (fP 5) (toO (fOp2 ixT (fP 1) (toO (fC (.int 0)))))) (fCmp leT (fP 6) (toO (fOp2 ixT (fP 1) (toO (fC (.int 1)))))))))))))
def S__law_is_reading (x : Bool) : Sem1 := bodyS 10 (F__law_is_reading x)
def F__law_readings (x : Bool) (R : Sem1) : FS := (fSeq (fIfS (fCmp eqT (fP 3) (toO (fCB lenT (fLCons (fP 2) fLNil)))) (fRet (fLst (fACons (ofR (fLst fANil)) fANil))) fNext)
  (fSeq (fSetR 6 (fLst fANil))
  (fSeq (fSetR 7 (fIf (fCmp isT (fP 4) (toO (fC .none))) (fLRg1 (fP 0)) (fLRg2 (fP 4) (toO (fCB minT (fLCons (fP 0) (fLCons (toO (fOp2 addT (toO (fOp2 addT (fP 4) (toO (fOp2 ixT (fP 5) (toO (fC (.int 1))))))) (toO (fC (.int 1))))) fLNil)))))))
  (fFrz 7 (fSeq (fFor (gN 8) (fItD (fV 7)) (fSeq (fSet 9 (fIf (fCmp isT (fP 4) (toO (fC .none))) (fC (.int 0)) (fOp2 subT (fP 8) (fP 4))))
  (fFor (gN 10) (fItD (ofR (fLst (fACons (fTup (fACons (fV 8) (fACons (fV 8) fANil))) (fACons (fTup (fACons (fV 8) (fACons (fOp2 addT (fP 8) (toO (fC (.int 1)))) fANil))) fANil))))) (fSeq (fSet 11 (fOp2 subT (toO (fOp2 ixT (fP 10) (toO (fC (.int 1))))) (fP 8)))
  (fIfS (fAnd (fCmp ltT (toO (fOp2 ixT (fP 10) (toO (fC (.int 1))))) (fP 0)) (fAnd (fCmp leT (fP 11) (toO (fOp2 ixT (fP 5) (toO (fC (.int 0)))))) (fEB (ofR (fCallF x 2 (S__law_shows x) (fACons (fOp2 ixT (fP 2) (fP 3)) (fACons (fV 10) fANil))))))) (fSeq (fSet 12 (fTup (fACons (fOp2 subT (toO (fOp2 ixT (fP 5) (toO (fC (.int 0))))) (fP 11)) (fACons (fOp2 subT (toO (fOp2 ixT (fP 5) (toO (fC (.int 1))))) (fP 9)) fANil))))
  (fSeq (fSetR 13 (fCallF x 6 R (fACons (fV 0) (fACons (fV 1) (fACons (fV 2) (fACons (fOp2 addT (fP 3) (toO (fC (.int 1)))) (fACons (fOp2 addT (toO (fOp2 ixT (fP 10) (toO (fC (.int 1))))) (toO (fC (.int 1)))) (fACons (fV 12) fANil))))))))
  (fFrz 13 (fSet 6 (fOp2 addT (fP 6) (toO (ofR (fComp [14] (gN 14) (fItD (fV 13)) fYes (fOp2 addT (toO (ofR (fLst (fACons (fV 10) fANil)))) (fP 14)))))))))) fNext)))))
  (fRetV 6))))))
def S__law_readings (x : Bool) : Nat → Sem1
  | 0 => bodyS 15 fBad
  | n + 1 => bodyS 15 (F__law_readings x (S__law_readings x n))
def F__law_next (x : Bool) : FS := (fSeq (fSetR 4 (fLst fANil))
  (fSeq (fFor (gN 5) (fRng1 (toO (fOp2 addT (toO (fOp2 ixT (fP 3) (toO (fC (.int 3))))) (toO (fC (.int 1)))))) (fSeq (fSet 6 (fOp2 addT (toO (fOp2 addT (toO (fOp2 ixT (fP 3) (toO (fC (.int 1))))) (toO (fC (.int 1))))) (fP 5)))
  (fFor (gN 7) (fItD (fTup (fACons (fV 6) (fACons (fOp2 addT (fP 6) (toO (fC (.int 1)))) fANil)))) (fSeq (fSet 8 (fTup (fACons (fOp2 addT (toO (fOp2 subT (toO (fOp2 ixT (fP 3) (toO (fC (.int 2))))) (fP 7))) (fP 6)) (fACons (fOp2 subT (toO (fOp2 ixT (fP 3) (toO (fC (.int 3))))) (fP 5)) fANil))))
  (fIfS (fAnd (fCmp ltT (fP 7) (fP 0)) (fAnd (fCmp geT (toO (fOp2 ixT (fP 8) (toO (fC (.int 0))))) (toO (fC (.int 0)))) (fEB (ofR (fCallF x 2 (S__law_shows x) (fACons (fOp2 ixT (fP 1) (fP 2)) (fACons (fTup (fACons (fV 6) (fACons (fV 7) fANil))) fANil))))))) (fApp 4 (fOp2 addT (toO (fTup (fACons (fV 6) (fACons (fV 7) fANil)))) (fP 8))) fNext)))))
  (fRetV 4)))
def S__law_next (x : Bool) : Sem1 := bodyS 9 (F__law_next x)
def F__law_is_more (x : Bool) : FS := (fSeq (fFor (gN2 2 3) (fZip (fV 0) (fV 1)) (fIfS (fCmp neT (toO (ofR (fComp [4] (gN 4) (fItD (fV 2)) (fCmp ninT (fP 4) (fP 3)) (fV 4)))) (toO (ofR (fLst fANil)))) (fRet (toR (fC (.bool false)))) fNext))
  (fRet (toR (fBE (fCmp eqT (toO (fCB lenT (fLCons (fP 0) fLNil))) (toO (fCB lenT (fLCons (fP 1) fLNil))))))))
def S__law_is_more (x : Bool) : Sem1 := bodyS 5 (F__law_is_more x)
def F__law_runs (x : Bool) : FS := (fSeq (fPar [4, 5] (fRCons (fLst fANil) (fRCons (fCallF x 2 S_drawn (fACons (fV 0) (fACons (fC (.int 3)) fANil))) fRNil)))
  (fSeq (fFor (gN 3) (fRng1 (toO (ofR (fCallF x 2 S_drawn (fACons (fV 0) (fACons (fOp2 ixT (toO (ofR (fLst (fACons (fC (.int 3)) (fACons (fC (.int 4)) (fACons (fC (.int 13)) fANil)))))) (fP 5)) fANil)))))) (fSeq (fSet 6 (fOp2 ixT (toO (ofR (fCallF x 4 (S__law_fed x) (fACons (fV 0) (fACons (fV 1) (fACons (fV 2) (fACons (fOp2 ixT (toO (ofR (fLst (fACons (fC (.int 20)) (fACons (fC (.int 6)) (fACons (fC (.int 3)) fANil)))))) (fP 5)) fANil))))))) (toO (fC (.int 0)))))
  (fApp 4 (ofR (fIf (fCmp gtT (toO (ofR (fCallF x 2 S_drawn (fACons (fV 0) (fACons (fC (.int 9)) fANil))))) (toO (fC (.int 0)))) (toR (fV 6)) (fLst fANil))))))
  (fRetV 4)))
def S__law_runs (x : Bool) : Sem1 := bodyS 7 (F__law_runs x)
def F__law_sure (x : Bool) : FS := (fSeq (fSetR 3 (fCallF x 3 (S_could x) (fACons (fV 0) (fACons (fV 1) (fACons (fV 2) fANil)))))
  (fSeq (fIfS (fCmp isT (fP 3) (toO (fC .none))) (fRet (toR (fC .none))) fNext)
  (fSeq (fSetR 4 (fLst fANil))
  (fFrz 3 (fSeq (fFor (gN 5) (fItD (fV 3)) (fSeq (fPar [7, 8] (fRCons (fComp [9] (gN 9) (fItD (fV 5)) fYes (fOp2 ixT (fP 9) (toO (fC (.int 0))))) (fRCons (fComp [9] (gN 9) (fItD (fV 5)) fYes (fOp2 ixT (fP 9) (toO (fC (.int 1))))) fRNil)))
  (fSeq (fSet 6 (fIf (fCmp eqT (toO (fLenSet (fLCons (fP 7) fLNil))) (toO (fC (.int 1)))) (fOp2 mulT (toO (fC (.int 2))) (toO (fOp2 ixT (fP 7) (toO (fC (.int 0)))))) (fC .none)))
  (fApp 4 (fTup (fACons (fV 6) (fACons (fIf (fCmp eqT (toO (fLenSet (fLCons (fP 8) fLNil))) (toO (fC (.int 1)))) (fOp2 addT (toO (fOp2 mulT (toO (fC (.int 2))) (toO (fOp2 ixT (fP 8) (toO (fC (.int 0))))))) (toO (fC (.int 1)))) (fC .none)) fANil)))))))
  (fRetV 4))))))
def S__law_sure (x : Bool) : Sem1 := bodyS 10 (F__law_sure x)
def F__law_fewest (x : Bool) : FS := (fSeq (fSetR 3 (fRep (toO (ofR (fLst (fACons (fC (.int 0)) fANil)))) (toO (fOp2 addT (toO (fOp2 addT (fP 1) (fP 2))) (toO (fC (.int 1)))))))
  (fSeq (fFor (gN 4) (fRngD (toO (fOp2 subT (fP 1) (toO (fC (.int 1))))) (toO (fC (.int (-1))))) (fSetI 3 (fP 4) (fIf (fCmp ninT (fP 4) (fP 0)) (fOp2 ixT (fP 3) (toO (fOp2 addT (fP 4) (toO (fC (.int 1)))))) (fOp2 addT (toO (fC (.int 1))) (toO (fOp2 ixT (fP 3) (toO (fOp2 addT (fP 4) (fP 2)))))))))
  (fRet (toR (fOp2 ixT (fP 3) (toO (fC (.int 0))))))))
def S__law_fewest (x : Bool) : Sem1 := bodyS 5 (F__law_fewest x)
def F__law_blind (x : Bool) : FS := (fSeq (fSetR 2 (fCallF x 2 S_drawn (fACons (fV 0) (fACons (fC (.int 5)) fANil))))
  (fRet (toR (fCB tupleT (fLCons (toO (ofR (fComp [3] (gN 3) (fRng1 (toO (fOp2 mulT (toO (fC (.int 2))) (fP 1)))) (fCmp ltT (toO (ofR (fCallF x 2 S_drawn (fACons (fV 0) (fACons (fC (.int 4)) fANil))))) (fP 2)) (fV 3)))) fLNil)))))
def S__law_blind (x : Bool) : Sem1 := bodyS 4 (F__law_blind x)
def F__law_step (x : Bool) : FS := (fSeq (fSetR 2 (fCallF x 2 S_drawn (fACons (fV 0) (fACons (fC (.int 10)) fANil))))
  (fSeq (fIfS (fCmp ltT (fP 2) (toO (fC (.int 3)))) (fSeq (fSetR 3 (fCallF x 2 S_drawn (fACons (fV 0) (fACons (fV 1) fANil))))
  (fFrz 3 (fRet (toR (fTup (fACons (fC (.str "put")) (fACons (fV 3) (fACons (fOp2 addT (fP 3) (toO (ofR (fCallF x 2 S_drawn (fACons (fV 0) (fACons (fOp2 addT (toO (fOp2 subT (fP 1) (fP 3))) (toO (fCB intT (fLCons (toO (fBE (fCmp eqT (fP 2) (toO (fC (.int 0)))))) fLNil)))) fANil)))))) fANil)))))))) fNext)
  (fRet (toR (fOp2 ixT (toO (ofR (fLst (fACons (fTup (fACons (fC (.str "feed")) fANil)) (fACons (fTup (fACons (fC (.str "feed")) fANil)) (fACons (fTup (fACons (fC (.str "feed")) fANil)) (fACons (fTup (fACons (fC (.str "twice")) fANil)) (fACons (fTup (fACons (fC (.str "slip")) fANil)) (fACons (fTup (fACons (fC (.str "jam")) fANil)) (fACons (fTup (fACons (fC (.str "feed")) fANil)) fANil)))))))))) (toO (fOp2 subT (fP 2) (toO (fC (.int 3))))))))))
def S__law_step (x : Bool) : Sem1 := bodyS 4 (F__law_step x)
def F__law_do (x : Bool) : FS := (fSeq (fSet 2 (fOp2 ixT (fP 1) (toO (fC (.int 0)))))
  (fSeq (fIfS (fCmp eqT (fP 2) (toO (fC (.str "put")))) (fRet (fMethF x "Feeder" "put" 3 (S_Feeder_put x) (fV 0) (fACons (fOp2 ixT (fP 1) (toO (fC (.int 1)))) (fACons (fOp2 ixT (fP 1) (toO (fC (.int 2)))) fANil)))) fNext)
  (fSeq (fIfS (fCmp eqT (fP 2) (toO (fC (.str "feed")))) (fRet (fMethF x "Feeder" "feed" 1 (S_Feeder_feed x) (fV 0) fANil)) fNext)
  (fSeq (fIfS (fCmp eqT (fP 2) (toO (fC (.str "twice")))) (fRet (fMethF x "Feeder" "twice" 1 (S_Feeder_twice x) (fV 0) fANil)) fNext)
  (fRet (fIf (fCmp eqT (fP 2) (toO (fC (.str "slip")))) (fMethF x "Feeder" "slip" 1 (S_Feeder_slip x) (fV 0) fANil) (fMethF x "Feeder" "jam" 1 (S_Feeder_jam x) (fV 0) fANil)))))))
def S__law_do (x : Bool) : Sem1 := bodyS 3 (F__law_do x)
def F__law_worst (x : Bool) : FS := (fSeq (fSetR 1 (fComp [3] (gN 3) (fItD (fV 0)) fYes (fCB lenT (fLCons (toO (ofR (fComp [4] (gN 4) (fItD (fV 3)) (fCmp ltT (toO (fOp2 ixT (fP 4) (toO (fC (.int 0))))) (toO (fOp2 ixT (fP 4) (toO (fC (.int 1)))))) (fV 4)))) fLNil))))
  (fSeq (fSetR 2 (fComp [3] (gN 3) (fItD (fV 0)) fYes (fCB sumL (fLCons (toO (ofR (fComp [5] (gN 5) (fRng2 (toO (fC (.int 1))) (toO (fCB lenT (fLCons (fP 3) fLNil)))) fYes (fOp2 subT (toO (fOp2 subT (toO (fOp2 ixT (toO (fOp2 ixT (fP 3) (fP 5))) (toO (fC (.int 0))))) (toO (fOp2 ixT (toO (fOp2 ixT (fP 3) (toO (fOp2 subT (fP 5) (toO (fC (.int 1))))))) (toO (fC (.int 1))))))) (toO (fC (.int 1))))))) fLNil))))
  (fRet (toR (fTup (fACons (fCB maxL (fLCons (toO (fOp2 addT (fP 1) (toO (ofR (fLst (fACons (fC (.int 0)) fANil)))))) fLNil)) (fACons (fCB maxL (fLCons (toO (fOp2 addT (fP 2) (toO (ofR (fLst (fACons (fC (.int 0)) fANil)))))) fLNil)) fANil)))))))
def S__law_worst (x : Bool) : Sem1 := bodyS 6 (F__law_worst x)
def F_troubles (x : Bool) : FS := (fSeq (fPar [2, 3, 4, 5] (fRCons (toR (fC (.int 0))) (fRCons (toR (fC (.int 0))) (fRCons (toR (fC .none)) (fRCons (toR (fTup (fACons (fC (.int 0)) (fACons (fC (.int 0)) fANil)))) fRNil)))))
  (fSeq (fFor (gN 1) (fItD (fV 0)) (fSeq (fIfS (fCmp inT (toO (fOp2 ixT (fP 1) (toO (fC (.int 0))))) (toO (fTup (fACons (fC (.str "put")) (fACons (fC (.str "jam")) fANil))))) (fPar [2, 3, 4] (fRCons (toR (fC (.int 0))) (fRCons (toR (fC (.int 0))) (fRCons (toR (fC .none)) fRNil)))) (fIfS (fCmp eqT (toO (fOp2 ixT (fP 1) (toO (fC (.int 0))))) (toO (fC (.str "slip")))) (fSet 4 (fIf (fCmp isntT (fP 4) (toO (fC .none))) (fOp2 addT (fP 4) (toO (fC (.int 1)))) (fC .none))) (fSeq (fSet 3 (fOp2 addT (fP 3) (fIf (fCmp isntT (fP 4) (toO (fC .none))) (fP 4) (toO (fC (.int 0))))))
  (fSeq (fSet 4 (fC (.int 0)))
  (fSet 2 (fOp2 addT (fP 2) (toO (fCB intT (fLCons (toO (fBE (fCmp eqT (toO (fOp2 ixT (fP 1) (toO (fC (.int 0))))) (toO (fC (.str "twice")))))) fLNil)))))))))
  (fSet 5 (fTup (fACons (fCB maxT (fLCons (toO (fOp2 ixT (fP 5) (toO (fC (.int 0))))) (fLCons (fP 2) fLNil))) (fACons (fCB maxT (fLCons (toO (fOp2 ixT (fP 5) (toO (fC (.int 1))))) (fLCons (fP 3) fLNil))) fANil))))))
  (fRet (toR (fV 5)))))
def S_troubles (x : Bool) : Sem1 := bodyS 6 (F_troubles x)
def F_side_of (x : Bool) : FS := (fSeq (fIfS (fCmp eqT (fP 0) (toO (fC (.str "-")))) (fRet (toR (fTup (fACons (fC .none) fANil)))) fNext)
  (fSeq (fIfS (fOr (fNot (fChain leT leT (toO (fC (.int 1))) (toO (fCB lenT (fLCons (fP 0) fLNil))) (toO (fC (.int 2))))) (fCmp neT (toO (ofR (fComp [1] (gN 1) (fItS (fP 0)) (fCmp ninT (fP 1) (toO (fC (.str "0123456789")))) (fV 1)))) (toO (ofR (fLst fANil))))) (fRet (toR (fTup fANil))) fNext)
  (fRet (fIf (fOr (fCmp eqT (fP 0) (toO (fC (.str "0")))) (fCmp neT (toO (fOp2 ixT (fP 0) (toO (fC (.int 0))))) (toO (fC (.str "0"))))) (toR (fTup (fACons (fCB intT (fLCons (fP 0) fLNil)) fANil))) (toR (fTup fANil))))))
def S_side_of (x : Bool) : Sem1 := bodyS 2 (F_side_of x)
def F__law_any (x : Bool) : FS := (fSeq (fSetR 1 (fLst fANil))
  (fSeq (fFor (gN 2) (fRng1 (toO (ofR (fCallF x 2 S_drawn (fACons (fV 0) (fACons (fOp2 ixT (toO (ofR (fLst (fACons (fC (.int 4)) (fACons (fC (.int 13)) fANil))))) (toO (ofR (fCallF x 2 S_drawn (fACons (fV 0) (fACons (fC (.int 2)) fANil)))))) fANil)))))) (fSeq (fSetR 3 (fLst fANil))
  (fSeq (fFor (gN 4) (fRng1 (toO (ofR (fCallF x 2 S_drawn (fACons (fV 0) (fACons (fOp2 ixT (toO (ofR (fLst (fACons (fC (.int 4)) (fACons (fC (.int 21)) fANil))))) (toO (ofR (fCallF x 2 S_drawn (fACons (fV 0) (fACons (fC (.int 2)) fANil)))))) fANil)))))) (fSeq (fSetR 5 (fLst fANil))
  (fSeq (fFor (gN 6) (fItD (fTup (fACons (fC (.int 0)) (fACons (fC (.int 1)) fANil)))) (fApp 5 (fOp2 ixT (toO (ofR (fLst (fACons (fC .none) (fACons (ofR (fCallF x 2 S_drawn (fACons (fV 0) (fACons (fC (.int 10)) fANil)))) (fACons (ofR (fCallF x 2 S_drawn (fACons (fV 0) (fACons (fC (.int 100)) fANil)))) fANil)))))) (toO (ofR (fCallF x 2 S_drawn (fACons (fV 0) (fACons (fC (.int 3)) fANil))))))))
  (fApp 3 (fCB tupleT (fLCons (fP 5) fLNil))))))
  (fFrz 3 (fApp 1 (fV 3))))))
  (fRetV 1)))
def S__law_any (x : Bool) : Sem1 := bodyS 7 (F__law_any x)
def F_filled (x : Bool) : FS := (fSeq (fSetR 3 (fCallF x 3 (S_could x) (fACons (fV 0) (fACons (fV 1) (fACons (fV 2) fANil)))))
  (fSeq (fIfS (fCmp isT (fP 3) (toO (fC .none))) (fRet (toR (fC .none))) fNext)
  (fSeq (fSetR 4 (fLst fANil))
  (fFrz 3 (fSeq (fFor (gN2 5 6) (fZip (fV 3) (fV 2)) (fSeq (fPar [8, 9] (fRCons (fSortSet (fLCons (toO (ofR (fComp [10] (gN 10) (fItD (fV 5)) fYes (fOp2 ixT (fP 10) (toO (fC (.int 0))))))) fLNil)) (fRCons (fSortSet (fLCons (toO (ofR (fComp [10] (gN 10) (fItD (fV 5)) fYes (fOp2 ixT (fP 10) (toO (fC (.int 1))))))) fLNil)) fRNil)))
  (fSeq (fSet 7 (fIf (fCmp eqT (toO (fCB lenT (fLCons (fP 8) fLNil))) (toO (fC (.int 1)))) (fOp2 mulT (toO (fC (.int 2))) (toO (fOp2 ixT (fP 8) (toO (fC (.int 0)))))) (fOp2 ixT (fP 6) (toO (fC (.int 0))))))
  (fApp 4 (fTup (fACons (fV 7) (fACons (fIf (fCmp eqT (toO (fCB lenT (fLCons (fP 9) fLNil))) (toO (fC (.int 1)))) (fOp2 addT (toO (fOp2 mulT (toO (fC (.int 2))) (toO (fOp2 ixT (fP 9) (toO (fC (.int 0))))))) (toO (fC (.int 1)))) (fOp2 ixT (fP 6) (toO (fC (.int 1))))) fANil)))))))
  (fRetV 4))))))
def S_filled (x : Bool) : Sem1 := bodyS 11 (F_filled x)
end
end Sm
set_option Elab.async false
set_option linter.all false
set_option maxRecDepth 100000
set_option maxHeartbeats 2000000
namespace Pl
open PySem Pf Sm
/-! ### data of the program -/
abbrev Scan := Option Int × Option Int
abbrev Pair := Int × Int
def pgT : Option Int → T
  | none => .none
  | some i => .int i
def scT (s : Scan) : T := .tuple [pgT s.1, pgT s.2]
def prT (p : Pair) : T := .tuple [.int p.1, .int p.2]
def runT (r : List Scan) : T := .list (r.map scT)
def rdT (r : List Pair) : T := .list (r.map prT)
@[simp] theorem pgT_none : pgT none = .none := rfl
@[simp] theorem pgT_some (i : Int) : pgT (some i) = .int i := rfl
def okPg (n side : Int) : Option Int → Bool
  | none => true
  | some p => decide (0 ≤ p) && decide (p ≤ 2 * n - 1) && decide (p % 2 = side)
def okSc (n : Int) (s : Scan) : Bool := okPg n 0 s.1 && okPg n 1 s.2
section
variable (x : Bool) (h : Hs)
theorem is_number_eq (i a b : Int) : S_is_number x [.dat (.int i), .dat (.int a), .dat (.int b)] h = .ok (.val (.dat (.bool (decide (a ≤ i) && decide (i ≤ b))))) h := by
  simp [S_is_number, F_is_number]
  by_cases h1 : a ≤ i <;> by_cases h2 : i ≤ b <;> simp [h1, h2]
theorem need_book_eq {n : Int} (h1 : 1 ≤ n) (h2 : n ≤ 30) : S_need_book x [.dat (.int n)] h = .ok (.val (.dat .none)) h := by
  simp [S_need_book, F_need_book, is_number_eq, h1, h2]
theorem need_rule_eq {r : Pair} (h1 : 0 ≤ r.1) (h2 : r.1 ≤ 3) (h3 : 0 ≤ r.2) (h4 : r.2 ≤ 3) : S_need_rule x [.dat (prT r)] h = .ok (.val (.dat .none)) h := by
  simp [S_need_rule, F_need_rule, is_number_eq, prT, h1, h2, h3, h4]
theorem is_scan_eq (n : Int) (s : Scan) : S_is_scan x [.dat (.int n), .dat (scT s)] h = .ok (.val (.dat (.bool (okSc n s)))) h := by
  obtain ⟨a, b⟩ := s
  have e : enumT [pgT a, pgT b] = [.tuple [.int 0, pgT a], .tuple [.int 1, pgT b]] := rfl
  simp [S_is_scan, F_is_scan, scT, e, okSc]
  cases a with
  | none =>
    cases b with
    | none => simp [okPg]
    | some b =>
      simp [okPg, is_number_eq]
      by_cases h1 : 0 ≤ b <;> by_cases h2 : b ≤ 2 * n - 1 <;> by_cases h3 : b % 2 = 1 <;> simp [h1, h2, h3]
  | some a =>
    simp [okPg, is_number_eq]
    by_cases h1 : 0 ≤ a <;> by_cases h2 : a ≤ 2 * n - 1 <;> by_cases h3 : a % 2 = 0 <;> simp [h1, h2, h3]
    cases b with
    | none => simp [okPg]
    | some b =>
      simp [okPg, is_number_eq]
      by_cases h1 : 0 ≤ b <;> by_cases h2 : b ≤ 2 * n - 1 <;> by_cases h3 : b % 2 = 1 <;> simp [h1, h2, h3]
def showsB (s : Scan) (f l : Int) : Bool := (s.1 == none || s.1 == some (2 * f)) && (s.2 == none || s.2 == some (2 * l + 1))
theorem does_show_eq (s : Scan) (f l : Int) : S_does_show x [.dat (scT s), .dat (.int f), .dat (.int l)] h = .ok (.val (.dat (.bool (showsB s f l)))) h := by
  obtain ⟨a, b⟩ := s
  simp [S_does_show, F_does_show, scT]
  cases a with
  | none =>
    cases b with
    | none => simp [inT, flatT, showsB]
    | some b =>
      simp [inT, flatT, showsB]
      exact decide_eq_decide.mpr eq_comm
  | some a =>
    by_cases h1 : 2 * f = a
    · subst h1
      cases b with
      | none => simp [inT, flatT, showsB]
      | some b =>
        simp [inT, flatT, showsB]
        exact decide_eq_decide.mpr eq_comm
    · have h2 : ¬ (a = 2 * f) := fun z => h1 z.symm
      simp [inT, flatT, showsB, h1, h2]
theorem enum_get {ts : List T} {k : Nat} {t : T} (e : (enumT ts)[k]? = some t) : ∃ u, ts[k]? = some u ∧ t = .tuple [.int (k : Nat), u] := by
  have hk : k < ts.length := by
    have := (List.getElem?_eq_some_iff.mp e).1
    rwa [enumT_len] at this
  refine ⟨ts[k], by simp [hk], ?_⟩
  rw [enumT_get (t := ts[k]) (by simp [hk])] at e
  exact (Option.some.inj e).symm
theorem map_get {α : Type} {f : α → T} {l : List α} {k : Nat} {t : T} (e : (l.map f)[k]? = some t) : ∃ a, l[k]? = some a ∧ t = f a := by
  rw [List.getElem?_map] at e
  obtain ⟨a, h1, h2⟩ := Option.map_eq_some_iff.mp e
  exact ⟨a, h1, h2.symm⟩
theorem rng_get {lo : Int} {n k : Nat} {t : T} (e : (rngT lo n)[k]? = some t) : k < n ∧ t = .int (lo + (k : Nat)) := by
  have hk : k < n := by
    have := (List.getElem?_eq_some_iff.mp e).1
    rwa [rngT_len] at this
  rw [rngT_get hk] at e
  exact ⟨hk, (Option.some.inj e).symm⟩
theorem need_run_eq {n : Int} {r : List Scan} (hl : r.length ≤ 20) (hr : ∀ s ∈ r, okSc n s = true) : S_need_run x [.dat (.int n), .dat (runT r)] h = .ok (.val (.dat .none)) h := by
  simp [S_need_run, F_need_run, runT]
  generalize hF : forL _ _ _ _ _ = F
  obtain ⟨ρ', h', rfl, rfl, _⟩ := forL_of hF (fun k ρ h' => h' = h ∧ ∃ a b, ρ = [.val (.dat (.int n)), .val (.dat (.list (r.map scT))), a, b]) ⟨rfl, _, _, rfl⟩ (by
      rintro k t ρ h' e ⟨rfl, a, b, rfl⟩ Q hn
      obtain ⟨u, e1, rfl⟩ := enum_get e
      obtain ⟨s, e2, rfl⟩ := map_get e1
      have hk2 : ¬ ((k : Int) = 20) := by
        have := (List.getElem?_eq_some_iff.mp e2).1
        omega
      have hs := hr s (List.mem_of_getElem? e2)
      simp [Turn1, is_scan_eq, hk2, hs]
      exact wp_ok (hn _ _ ⟨rfl, _, _, rfl⟩))
  simp
/-- the finder that is made -/
def finO (n : Int) (r : Pair) (run : List Scan) (w : List (List L2.Key × T)) : O := .ins "Finder" [("sheets", .dat (.int n)), ("rule", .dat (prT r)), ("taken", .dat (runT run)), ("ways", .dic w)]
structure Okay (n : Int) (r : Pair) (run : List Scan) : Prop where
  n1 : 1 ≤ n
  n2 : n ≤ 30
  d0 : 0 ≤ r.1
  d3 : r.1 ≤ 3
  s0 : 0 ≤ r.2
  s3 : r.2 ≤ 3
  len : run.length ≤ 20
  all : ∀ s ∈ run, okSc n s = true
theorem need_all_eq {n : Int} {r : Pair} {run : List Scan} (k : Okay n r run) : S_need_all x [.dat (.int n), .dat (prT r), .dat (runT run)] h = .ok (.val (.obj h.length)) (h ++ [finO n r run []]) := by
  simp [S_need_all, F_need_all, need_book_eq x h k.n1 k.n2, need_rule_eq x h k.d0 k.d3 k.s0 k.s3, need_run_eq x h k.len k.all]
  simp [runT, prT, S_Finder___init__, F_Finder___init__, finO, putA]
  exact List.take_of_length_le (by simp)
theorem atI_pos {xs : List T} {i : Int} (h : 0 ≤ i) : L2.atI xs i = xs[i.toNat]? := by
  unfold L2.atI L2.ixN
  rw [if_pos h]
  by_cases hi : i < xs.length
  · rw [if_pos hi]; rfl
  · rw [if_neg hi, List.getElem?_eq_none (by omega)]; rfl
end
end Pl
set_option Elab.async false
set_option linter.all false
set_option maxRecDepth 100000
set_option maxHeartbeats 2000000
namespace Pl
open PySem Pf Sm
/-! ### fits -/
def okPr (n : Int) (p : Pair) : Bool := decide (0 ≤ p.1) && decide (p.1 ≤ n - 1) && (decide (p.1 ≤ p.2) && decide (p.2 ≤ (if p.1 + 1 < n - 1 then p.1 + 1 else n - 1)))
theorem okPr_iff {n : Int} {p : Pair} : okPr n p = true ↔ 0 ≤ p.1 ∧ p.1 ≤ p.2 ∧ p.2 ≤ p.1 + 1 ∧ p.2 < n := by
  unfold okPr
  simp only [Bool.and_eq_true, decide_eq_true_eq]
  constructor
  · rintro ⟨⟨h1, h2⟩, h3, h4⟩
    split at h4 <;> omega
  · rintro ⟨h1, h2, h3, h4⟩
    refine ⟨⟨h1, by omega⟩, h2, ?_⟩
    split <;> omega
section
variable (x : Bool) (h : Hs)
theorem is_pair_eq (n : Int) (p : Pair) : S_is_pair x [.dat (.int n), .dat (prT p)] h = .ok (.val (.dat (.bool (okPr n p)))) h := by
  simp [S_is_pair, F_is_pair, prT, is_number_eq, okPr]
  by_cases h1 : 0 ≤ p.1 <;> by_cases h2 : p.1 ≤ n - 1 <;> simp [h1, h2, is_number_eq]
theorem prT_0 (p : Pair) : ixT (prT p) (.int 0) = some (.int p.1) := rfl
theorem prT_1 (p : Pair) : ixT (prT p) (.int 1) = some (.int p.2) := rfl
theorem scT_0 (p : Scan) : ixT (scT p) (.int 0) = some (pgT p.1) := rfl
theorem scT_1 (p : Scan) : ixT (scT p) (.int 1) = some (pgT p.2) := rfl
def dsum (rd : List Pair) : Int := (rd.map fun p => p.2 - p.1).sum
def slipsOf : List Pair → Int
  | p :: q :: l => (q.1 - p.2 - 1) + slipsOf (q :: l)
  | _ => 0
theorem slipsOf_snoc (p q : Pair) : ∀ l : List Pair, slipsOf (l ++ [p, q]) = slipsOf (l ++ [p]) + (q.1 - p.2 - 1)
  | [] => by simp [slipsOf]
  | [a] => by simp [slipsOf]
  | a :: b :: l => by
    have := slipsOf_snoc p q (b :: l)
    simp only [List.cons_append] at this ⊢
    rw [slipsOf, slipsOf, this]
    omega
theorem take_two {α : Type} {l : List α} {k : Nat} {a b : α} (h1 : l[k]? = some a) (h2 : l[k + 1]? = some b) : l.take (k + 2) = l.take k ++ [a, b] := by
  rw [List.take_add_one, List.take_add_one, h1, h2]
  simp
theorem take_one {α : Type} {l : List α} {k : Nat} {a : α} (h1 : l[k]? = some a) : l.take (k + 1) = l.take k ++ [a] := by
  rw [List.take_add_one, h1]
  simp
theorem slips_step {rd : List Pair} {k : Nat} {p q : Pair} (h1 : rd[k]? = some p) (h2 : rd[k + 1]? = some q) : slipsOf (rd.take (k + 2)) = slipsOf (rd.take (k + 1)) + (q.1 - p.2 - 1) := by
  rw [take_two h1 h2, take_one h1, slipsOf_snoc]
theorem dsum_step {rd : List Pair} {k : Nat} {p : Pair} (h1 : rd[k]? = some p) : dsum (rd.take (k + 1)) = dsum (rd.take k) + (p.2 - p.1) := by
  rw [take_one h1]
  simp [dsum]
/-- each first behind the last ahead -/
def RisesTo (rd : List Pair) (k : Nat) : Prop := ∀ j p q, j + 1 < k → rd[j]? = some p → rd[j + 1]? = some q → p.2 < q.1
def ShowsTo (run : List Scan) (rd : List Pair) (k : Nat) : Prop := ∀ j s p, j < k → run[j]? = some s → rd[j]? = some p → showsB s p.1 p.2 = true
/-- a reading of a run, by a rule -/
def Fit (r : Pair) (run : List Scan) (rd : List Pair) : Prop := rd.length = run.length ∧ RisesTo rd rd.length ∧ ShowsTo run rd rd.length ∧ dsum rd ≤ r.1 ∧ slipsOf rd ≤ r.2
theorem dbl_eq {n : Int} : ∀ {rd : List Pair}, (∀ p ∈ rd, okPr n p = true) → ((((rd.map prT).filter fun t => match t with | .tuple [.int a, .int b] => decide (a < b) | _ => false).map id).length : Int) = dsum rd
  | [], _ => rfl
  | p :: rd, hp => by
    have ih := dbl_eq (rd := rd) fun q hq => hp q (List.mem_cons_of_mem _ hq)
    have h1 := okPr_iff.mp (hp p (List.mem_cons_self ..))
    have e : dsum (p :: rd) = (p.2 - p.1) + dsum rd := rfl
    rw [e, ← ih, List.map_cons, List.filter_cons]
    by_cases hb : p.1 < p.2
    · simp [prT, hb]
      omega
    · simp [prT, hb]
      omega
theorem get_of_lt {α : Type} {l : List α} {k : Nat} (h : k < l.length) : ∃ a, l[k]? = some a := ⟨l[k], by simp [h]⟩
theorem fits_eq {n : Int} {r : Pair} {run : List Scan} {rd : List Pair} (k : Okay n r run) (hp : ∀ p ∈ rd, okPr n p = true) (hl : rd.length ≤ run.length) :
    RB (S_fits x [.dat (.int n), .dat (prT r), .dat (runT run), .dat (rdT rd)] h) h (Fit r run rd) := by
  have hlen := k.len
  simp [S_fits, F_fits, need_all_eq x h k]
  simp only [rdT, runT]
  simp
  generalize hF : forL _ _ _ _ _ = F
  obtain ⟨ρ', h', rfl, rfl, a1, a2, pl2, rfl⟩ := forL_of hF (fun k ρ h' => h' = h ++ [finO n r run []] ∧ ∃ a b, plS b = true ∧ ρ = [.val (.dat (.int n)), .val (.dat (prT r)), .val (.dat (.list (run.map scT))), .val (.dat (.list (rd.map prT))), .un, .un, .un, a, b, .un]) ⟨rfl, _, _, rfl, rfl⟩ (by
      rintro k t ρ h' e ⟨rfl, a, b, _, rfl⟩ Q hn
      obtain ⟨u, e1, rfl⟩ := enum_get e
      obtain ⟨s, e2, rfl⟩ := map_get e1
      have hk2 : ¬ ((k : Int) = (run.length : Int)) := by
        have := (List.getElem?_eq_some_iff.mp e2).1
        omega
      have hs := hp s (List.mem_of_getElem? e2)
      simp [Turn1, is_pair_eq, hk2, hs]
      exact wp_ok (hn _ _ ⟨rfl, _, _, rfl, rfl⟩))
  simp
  by_cases hlt : rd.length < run.length
  · simp [hlt]
    exact RB_no fun hf => by
      have := hf.1
      omega
  simp [hlt, pl2]
  have hle : rd.length = run.length := by omega
  generalize hF : compL _ _ _ _ _ _ = F
  have e1 := compL_of hF (fun t => match t with | .tuple [.int a, .int b] => decide (a < b) | _ => false) id (by
    intro t ht
    obtain ⟨p, _, rfl⟩ := List.mem_map.mp ht
    simp [prT])
  subst e1
  clear hF
  simp
  simp [rngOk_of (i := 1) (j := (rd.length : Int)) (by omega) (by omega) (by omega) (by omega)]
  have hd := dbl_eq hp
  simp only [List.map_id] at hd
  rw [hd]
  clear hd
  generalize hF : forL _ _ _ _ _ = F
  have hj := forL_ofR hF (fun k ρ h' => h' = h ++ [finO n r run []] ∧ RisesTo rd (k + 1) ∧ ∃ c, ρ = [vi n, vd (prT r), vd (.list (run.map scT)), vd (.list (rd.map prT)), vi (dsum rd), vi (slipsOf (rd.take (k + 1))), c, a1, a2, .un])
    (fun q h' => h' = h ++ [finO n r run []] ∧ q = .val (.dat (.bool false)) ∧ ¬ RisesTo rd rd.length) ⟨rfl, fun j p q hj => by omega, .un, by
      cases rd <;> simp [slipsOf]⟩ (by
      rintro k t ρ h' e ⟨rfl, hri, c, rfl⟩ Q hn hr
      obtain ⟨hk, rfl⟩ := rng_get e
      obtain ⟨p, hp1⟩ := get_of_lt (l := rd) (k := k) (by omega)
      obtain ⟨q, hq1⟩ := get_of_lt (l := rd) (k := k + 1) (by omega)
      have t1 : (1 + (k : Int)).toNat = k + 1 := by omega
      have t2 : (1 + (k : Int) - 1).toNat = k := by omega
      have s1 : L2.atI (rd.map prT) (1 + (k : Int)) = some (prT q) := by rw [atI_pos (by omega), t1]; simp [hq1]
      have s2 : L2.atI (rd.map prT) (1 + (k : Int) - 1) = some (prT p) := by rw [atI_pos (by omega), t2]; simp [hp1]
      simp [Turn1, s1, s2, prT_0, prT_1]
      by_cases hc : q.1 ≤ p.2
      · simp [hc]
        refine wp_ok (hr _ _ ⟨rfl, rfl, fun hR => ?_⟩)
        have := hR k p q (by have := (List.getElem?_eq_some_iff.mp hq1).1; omega) hp1 hq1
        omega
      · simp [hc, s1, s2, prT_0, prT_1]
        refine wp_ok (hn _ _ ⟨rfl, fun j p' q' hj h1 h2 => ?_, vi (1 + (k : Int)), ?_⟩)
        · by_cases hjk : j = k
          · subst hjk
            rw [hp1] at h1
            rw [hq1] at h2
            cases h1
            cases h2
            omega
          · exact hri j p' q' (by omega) h1 h2
        · rw [slips_step hp1 hq1]
          have : slipsOf (rd.take (k + 1)) + q.1 - p.2 - 1 = slipsOf (rd.take (k + 1)) + (q.1 - p.2 - 1) := by omega
          rw [this])
  rcases hj with ⟨ρ', h', rfl, rfl, hri, c, rfl⟩ | ⟨q, h', rfl, rfl, rfl, hno⟩
  · have hri2 : RisesTo rd rd.length := by
      rw [rngT_len] at hri
      intro j p q hj
      exact hri j p q (by omega)
    have esl : slipsOf (rd.take ((rngT 1 (rd.length - 1)).length + 1)) = slipsOf rd := by
      rw [rngT_len, List.take_of_length_le (by omega)]
    rw [esl]
    simp [prT_0, prT_1]
    by_cases hc1 : r.1 < dsum rd
    · simp [hc1]
      exact RB_no fun hf => by
        have := hf.2.2.2.1
        omega
    by_cases hc2 : r.2 < slipsOf rd
    · simp [hc1, hc2]
      exact RB_no fun hf => by
        have := hf.2.2.2.2
        omega
    simp [hc1, hc2, rngOk_of (i := 0) (j := (run.length : Int)) (by omega) (by omega) (by omega) (by omega)]
    generalize hF : compL _ _ _ _ _ _ = F
    have e1 := compL_of hF (fun t => match t with | .int j => !(match run[j.toNat]?, rd[j.toNat]? with | some s, some p => showsB s p.1 p.2 | _, _ => true) | _ => false) id (by
      intro t ht
      obtain ⟨k, hk⟩ := List.getElem?_of_mem ht
      obtain ⟨hk1, rfl⟩ := rng_get hk
      obtain ⟨s, hs⟩ := get_of_lt (l := run) (k := k) (by omega)
      obtain ⟨p, hp1⟩ := get_of_lt (l := rd) (k := k) (by omega)
      have s1 : L2.atI (run.map scT) (k : Int) = some (scT s) := by rw [atI_pos (by omega)]; simp [hs]
      have s3 : L2.atI (rd.map prT) (k : Int) = some (prT p) := by rw [atI_pos (by omega)]; simp [hp1]
      simp [s1, s3, prT_0, prT_1, does_show_eq, hs, hp1])
    subst e1
    clear hF
    simp
    refine RB_ok ?_
    rw [List.isEmpty_iff, List.filter_eq_nil_iff]
    constructor
    · intro hall
      refine ⟨hle, hri2, fun j s p hj hs hp1 => ?_, by omega, by omega⟩
      have := hall (.int (0 + (j : Nat))) (List.mem_of_getElem? (i := j) (rngT_get (by omega)))
      simpa [hs, hp1] using this
    · rintro ⟨_, _, hsh, _, _⟩ t ht
      obtain ⟨k, hk⟩ := List.getElem?_of_mem ht
      obtain ⟨hk1, rfl⟩ := rng_get hk
      obtain ⟨s, hs⟩ := get_of_lt (l := run) (k := k) (by omega)
      obtain ⟨p, hp1⟩ := get_of_lt (l := rd) (k := k) (by omega)
      simp [hs, hp1, hsh k s p (by omega) hs hp1]
  · simp
    exact RB_no fun hf => hno hf.2.1
end
end Pl
set_option Elab.async false
set_option linter.all false
set_option maxRecDepth 100000
set_option maxHeartbeats 2000000
namespace Pl
open PySem Pf Sm
/-! ### the law's own: same, shows, drawing -/
section
variable (x : Bool) (h : Hs)
theorem shows_eq (s : Scan) (p : Pair) : S__law_shows x [.dat (scT s), .dat (prT p)] h = .ok (.val (.dat (.bool (showsB s p.1 p.2)))) h := by
  have := does_show_eq x h s p.1 p.2
  simp [S_does_show, F_does_show] at this
  simp [S__law_shows, F__law_shows, prT_0, prT_1]
  exact this
def sameOk : Nat → T → Prop
  | 0, _ => False
  | _ + 1, .dict _ => False
  | n + 1, .list ts => ts.length ≤ 1000000 ∧ ∀ t ∈ ts, sameOk n t
  | n + 1, .tuple ts => ts.length ≤ 1000000 ∧ ∀ t ∈ ts, sameOk n t
  | _ + 1, _ => True
theorem same_refl : ∀ (n : Nat) (t : T), sameOk n t → S__law_same x n [.dat t, .dat t] h = .ok (.val (.dat (.bool true))) h
  | 0, _, hs => hs.elim
  | n + 1, t, hs => by
    have key : ∀ ts : List T, ts.length ≤ 1000000 → (∀ u ∈ ts, sameOk n u) → ∀ (v : T), (∀ i : Int, ixT v (.int i) = L2.atI ts i) → compL (gN 2) [vd v, vd v, .un] (fNot (fEB (ofR (fCallF x 2 (S__law_same x n) (fACons (fOp2 ixT (fP 0) (fP 2)) (fACons (fOp2 ixT (fP 1) (fP 2)) fANil)))))) (fV 2) (rngT 0 ts.length) h = .ok [] h := by
      intro ts hl hts v hv
      rw [compL_pure (fun _ => false) id (ts := rngT 0 ts.length) (h := h) ?_]
      · simp
      intro t ht
      obtain ⟨k, hk⟩ := List.getElem?_of_mem ht
      obtain ⟨hk1, rfl⟩ := rng_get hk
      obtain ⟨u, hu⟩ := get_of_lt hk1
      have s1 : L2.atI ts (k : Int) = some u := atI_at hu
      simp [hv, s1, same_refl n u (hts u (List.mem_of_getElem? hu))]
    cases t with
    | dict _ => exact hs.elim
    | none => simp [S__law_same, F__law_same, isiB, tyN]
    | bool b => simp [S__law_same, F__law_same, isiB, tyN]
    | int i => simp [S__law_same, F__law_same, isiB, tyN]
    | str z => simp [S__law_same, F__law_same, isiB, tyN, eqT, PyData.depth]
    | list ts =>
      obtain ⟨hl, hts⟩ := hs
      simp [S__law_same, F__law_same, isiB, tyN, rngOk_of (i := 0) (j := (ts.length : Int)) (by omega) (by omega) (by omega) (by omega)]
      rw [key ts hl hts (.list ts) fun i => rfl]
      simp
    | tuple ts =>
      obtain ⟨hl, hts⟩ := hs
      simp [S__law_same, F__law_same, isiB, tyN, rngOk_of (i := 0) (j := (ts.length : Int)) (by omega) (by omega) (by omega) (by omega)]
      rw [key ts hl hts (.tuple ts) fun i => rfl]
      simp
end
theorem depthAll_le {n : Nat} : ∀ {ts : List T}, (∀ t ∈ ts, t.depth ≤ n) → PyData.depthAll ts ≤ n
  | [], _ => by rw [PyData.depthAll]; omega
  | t :: ts, h => by
    rw [PyData.depthAll]
    have h1 := h t (List.mem_cons_self ..)
    have h2 := depthAll_le (ts := ts) fun u hu => h u (List.mem_cons_of_mem _ hu)
    omega
theorem sameOk_depth : ∀ {n : Nat} {t : T}, sameOk n t → t.depth ≤ n
  | 0, _, h => h.elim
  | n + 1, .none, _ => by simp [PyData.depth]
  | n + 1, .bool _, _ => by simp [PyData.depth]
  | n + 1, .int _, _ => by simp [PyData.depth]
  | n + 1, .str _, _ => by simp [PyData.depth]
  | n + 1, .list ts, h => by
    rw [PyData.depth]
    have := depthAll_le (ts := ts) fun u hu => sameOk_depth (h.2 u hu)
    omega
  | n + 1, .tuple ts, h => by
    rw [PyData.depth]
    have := depthAll_le (ts := ts) fun u hu => sameOk_depth (h.2 u hu)
    omega
  | n + 1, .dict _, h => h.elim
theorem plainAll_of : ∀ {ts : List T}, (∀ t ∈ ts, PyData.plain t = true) → PyData.plainAll ts = true
  | [], _ => rfl
  | t :: ts, h => by
    rw [PyData.plainAll, h t (List.mem_cons_self ..), plainAll_of fun u hu => h u (List.mem_cons_of_mem _ hu)]
    rfl
theorem sameOk_plain : ∀ {n : Nat} {t : T}, sameOk n t → PyData.plain t = true
  | 0, _, h => h.elim
  | n + 1, .none, _ => rfl
  | n + 1, .bool _, _ => rfl
  | n + 1, .int _, _ => rfl
  | n + 1, .str _, _ => rfl
  | n + 1, .list ts, h => by
    rw [PyData.plain]
    exact plainAll_of fun u hu => sameOk_plain (h.2 u hu)
  | n + 1, .tuple ts, h => by
    rw [PyData.plain]
    exact plainAll_of fun u hu => sameOk_plain (h.2 u hu)
  | n + 1, .dict _, h => h.elim
theorem eqT_self {n : Nat} {t : T} (h : sameOk n t) (hn : n ≤ 60) : eqT t t = some true := by
  unfold eqT
  rw [if_pos (by have := sameOk_depth h; omega), eqv_self (sameOk_plain h)]
theorem neT_self {n : Nat} {t : T} (h : sameOk n t) (hn : n ≤ 60) : neT t t = some false := by
  unfold neT
  rw [if_pos (by have := sameOk_depth h; omega), eqv_self (sameOk_plain h)]
  rfl
theorem sameOk_list {n : Nat} {ts : List T} (h1 : ts.length ≤ 1000000) (h2 : ∀ t ∈ ts, sameOk n t) : sameOk (n + 1) (.list ts) := ⟨h1, h2⟩
theorem sameOk_map {α : Type} {f : α → T} {n : Nat} {l : List α} (h1 : l.length ≤ 1000000) (h2 : ∀ a ∈ l, sameOk n (f a)) : sameOk (n + 1) (.list (l.map f)) := ⟨by simpa using h1, fun t ht => by
  obtain ⟨a, ha, rfl⟩ := List.mem_map.mp ht
  exact h2 a ha⟩
theorem sameOk_sc (n : Nat) (s : Scan) : sameOk (n + 2) (scT s) := ⟨by show 2 ≤ 1000000; decide, fun t ht => by
  simp at ht
  rcases ht with rfl | rfl
  · cases s.1 <;> trivial
  · cases s.2 <;> trivial⟩
theorem sameOk_pr (n : Nat) (s : Pair) : sameOk (n + 2) (prT s) := ⟨by show 2 ≤ 1000000; decide, fun t ht => by
  simp at ht
  rcases ht with rfl | rfl <;> trivial⟩
theorem sameOk_run (n : Nat) {r : List Scan} (h : r.length ≤ 1000000) : sameOk (n + 3) (.list (r.map scT)) := sameOk_map h fun a _ => sameOk_sc n a
theorem sameOk_rd (n : Nat) {r : List Pair} (h : r.length ≤ 1000000) : sameOk (n + 3) (.list (r.map prT)) := sameOk_map h fun a _ => sameOk_pr n a
/-! ### drawing -/
structure Dr where
  ns : List Int
  i : Nat
  m : Int
  l : Int
def stH (s : Dr) (tl : Hs) : Hs := .stt s.ns s.i s.m s.l :: tl
def dv (s : Dr) (k : Int) : Int := (drawV s.ns s.i s.m s.l k).1
def dn (s : Dr) (k : Int) : Dr := ⟨s.ns, (drawV s.ns s.i s.m s.l k).2.1.toNat, (drawV s.ns s.i s.m s.l k).2.2.1, (drawV s.ns s.i s.m s.l k).2.2.2⟩
theorem drawV_i (ns : List Int) (i : Nat) (m l k : Int) : 0 ≤ (drawV ns i m l k).2.1 := by
  unfold drawV
  split
  · simp
  · split <;> simp <;> omega
theorem dv_lo (s : Dr) {k : Int} (h : 0 < k) : 0 ≤ dv s k := by
  unfold dv drawV
  split
  · exact Int.emod_nonneg _ (by omega)
  · split <;> exact Int.emod_nonneg _ (by omega)
theorem dv_hi (s : Dr) {k : Int} (h : 0 < k) : dv s k < k := by
  unfold dv drawV
  split
  · exact Int.emod_lt_of_pos _ h
  · split <;> exact Int.emod_lt_of_pos _ h
theorem drawn_eq (s : Dr) (tl : Hs) {k : Int} (h1 : 0 < k) (h2 : k < 1073741824) : S_drawn [.obj 0, .dat (.int k)] (stH s tl) = .ok (.val (.dat (.int (dv s k)))) (stH (dn s k) tl) := by
  unfold S_drawn stH
  have h0 : (0 : Int) ≤ (s.i : Int) := by omega
  simp only [List.getElem?_cons_zero]
  rw [if_pos ⟨h1, h2, h0⟩]
  have e := drawV_i s.ns s.i s.m s.l k
  have e2 : (((drawV s.ns s.i s.m s.l k).2.1.toNat : Nat) : Int) = (drawV s.ns s.i s.m s.l k).2.1 := by omega
  simp only [List.set_cons_zero, dv, dn]
  rw [e2]
theorem start_eq (ns : List Int) : ∃ s, S_start [.scr ns] [] = .ok (.val (.obj 0)) (stH s []) := ⟨⟨ns, 0, _, 0⟩, rfl⟩
end Pl
set_option Elab.async false
set_option linter.all false
set_option maxRecDepth 100000
set_option maxHeartbeats 2000000
namespace Pl
open PySem Pf Sm
section
variable (x : Bool)
theorem rule_eq (s : Dr) (tl : Hs) : ∃ s' r, S__law_rule x [.obj 0] (stH s tl) = .ok (.val (.dat (prT r))) (stH s' tl) ∧ 0 ≤ r.1 ∧ r.1 ≤ 3 ∧ 0 ≤ r.2 ∧ r.2 ≤ 3 := by
  refine ⟨dn (dn s 4) 4, (dv s 4, dv (dn s 4) 4), ?_, dv_lo _ (by decide), ?_, dv_lo _ (by decide), ?_⟩
  · simp [S__law_rule, F__law_rule, drawn_eq, prT]
    simp [stH]
  · have := dv_hi s (k := 4) (by decide); show dv s 4 ≤ 3; omega
  · have := dv_hi (dn s 4) (k := 4) (by decide); show dv (dn s 4) 4 ≤ 3; omega
/-- what was fed, and its true reading -/
structure Fed (n : Int) (r : Pair) (run : List Scan) (rd : List Pair) : Prop where
  fit : Fit r run rd
  sc : ∀ s ∈ run, okSc n s = true
  pr : ∀ p ∈ rd, okPr n p = true
theorem risesTo_snoc {rd : List Pair} {q : Pair} (h : RisesTo rd rd.length) (hq : ∀ p, rd.getLast? = some p → p.2 < q.1) : RisesTo (rd ++ [q]) (rd ++ [q]).length := by
  intro j a b hj h1 h2
  rw [List.length_append, List.length_singleton] at hj
  by_cases hlast : j + 1 < rd.length
  · rw [List.getElem?_append_left (by omega)] at h1 h2
    exact h j a b hlast h1 h2
  · have e : j + 1 = rd.length := by omega
    rw [List.getElem?_append_left (by omega)] at h1
    rw [List.getElem?_append_right (by omega), e] at h2
    simp at h2
    subst h2
    refine hq a ?_
    rw [List.getLast?_eq_getElem?, ← e]
    simpa using h1
theorem showsTo_snoc {run : List Scan} {rd : List Pair} {s : Scan} {q : Pair} (hl : rd.length = run.length) (h : ShowsTo run rd rd.length) (hq : showsB s q.1 q.2 = true) : ShowsTo (run ++ [s]) (rd ++ [q]) (rd ++ [q]).length := by
  intro j a b hj h1 h2
  rw [List.length_append, List.length_singleton] at hj
  by_cases hlast : j < rd.length
  · rw [List.getElem?_append_left (by omega)] at h1 h2
    exact h j a b hlast h1 h2
  · have e : j = rd.length := by omega
    subst e
    rw [List.getElem?_append_right (by omega)] at h1 h2
    simp at h1 h2
    rw [hl] at h1
    simp at h1
    subst h1 h2
    exact hq
theorem slips_last {rd : List Pair} {p q : Pair} (h : rd.getLast? = some p) : slipsOf (rd ++ [q]) = slipsOf rd + (q.1 - p.2 - 1) := by
  obtain ⟨l, rfl⟩ := List.getLast?_eq_some_iff.mp h
  rw [List.append_assoc]
  exact slipsOf_snoc p q l
theorem okPr_mk {n f l : Int} (h1 : 0 ≤ f) (h2 : f ≤ l) (h3 : l ≤ f + 1) (h4 : l < n) : okPr n (f, l) = true := okPr_iff.mpr ⟨h1, h2, h3, h4⟩
def partOf (a : Option Int) (p : Int) : Prop := a = none ∨ a = some p
theorem okPg_0 {n f : Int} {a : Option Int} (h : partOf a (2 * f)) (h1 : 0 ≤ f) (h2 : f < n) : okPg n 0 a = true := by
  rcases h with rfl | rfl
  · rfl
  · unfold okPg
    simp
    omega
theorem okPg_1 {n f : Int} {a : Option Int} (h : partOf a (2 * f + 1)) (h1 : 0 ≤ f) (h2 : f < n) : okPg n 1 a = true := by
  rcases h with rfl | rfl
  · rfl
  · unfold okPg
    simp
    omega
theorem shows_part {a b : Option Int} {f l : Int} (h1 : partOf a (2 * f)) (h2 : partOf b (2 * l + 1)) : showsB (a, b) f l = true := by
  unfold showsB
  rcases h1 with rfl | rfl <;> rcases h2 with rfl | rfl <;> simp
theorem fed_eq (s : Dr) (tl : Hs) {n most : Int} {r : Pair} (n1 : 1 ≤ n) (n2 : n ≤ 30) (r0 : 0 ≤ r.1) (r2 : 0 ≤ r.2) (r3 : r.2 ≤ 3) (m1 : 1 ≤ most) (m2 : most ≤ 1000) :
    ∃ s' run rd, S__law_fed x [.obj 0, .dat (.int n), .dat (prT r), .dat (.int most)] (stH s tl) = .ok (.val (.dat (.tuple [runT run, rdT rd]))) (stH s' tl) ∧ Fed n r run rd ∧ 1 ≤ run.length ∧ (run.length : Int) ≤ most := by
  have hn : 0 < n := by omega
  have hn2 : n < 1073741824 := by omega
  have hm : 0 < most := by omega
  have hm2 : most < 1073741824 := by omega
  generalize hG : S__law_fed x _ _ = G
  simp [S__law_fed, F__law_fed, drawn_eq, hn, hn2, hm, hm2, prT_0, prT_1] at hG
  have d1 := dv_lo (dn (dn s n) 4) hm
  have d2 := dv_hi (dn (dn s n) 4) hm
  have d3 := dv_lo s hn
  have d4 := dv_hi s hn
  have d5 := dv_lo (dn s n) (k := 4) (by decide)
  generalize dv s n = low0 at *
  generalize dv (dn s n) 4 = hid at *
  generalize dv (dn (dn s n) 4) most = many at *
  generalize dn (dn (dn s n) 4) most = s1 at *
  simp [rngOk_of (i := 0) (j := 1 + many) (by omega) (by omega) (by omega) (by omega)] at hG
  generalize hF : forL _ _ _ _ _ = F at hG
  obtain ⟨ρ', h', rfl, q⟩ := forL_of hF (fun k ρ h' => ∃ s' run rd low dbl slp c4 c11 c12 c13 c14, h' = stH s' tl ∧ ρ = [.val (.obj 0), vi n, vd (prT r), vi most, c4, vi low, .own (run.map scT), .own (rd.map prT), vi dbl, vi slp, vi hid, c11, c12, c13, c14, .un] ∧
      rd.length = run.length ∧ run.length ≤ k ∧ (1 ≤ k → 1 ≤ run.length) ∧ 0 ≤ low ∧ (rd = [] → low < n) ∧ (∀ p, rd.getLast? = some p → low = p.2 + 1) ∧ dbl = r.1 - dsum rd ∧ 0 ≤ dbl ∧ slp = r.2 - slipsOf rd ∧ 0 ≤ slp ∧ slp ≤ 3 ∧ RisesTo rd rd.length ∧ ShowsTo run rd rd.length ∧ (∀ s ∈ run, okSc n s = true) ∧ (∀ p ∈ rd, okPr n p = true))
    ⟨s1, [], [], low0, r.1, r.2, _, _, _, _, _, rfl, rfl, rfl, Nat.le_refl _, fun z => by omega, d3, fun _ => d4, fun p z => by simp at z, by simp [dsum], r0, by simp [slipsOf], r2, r3, fun j p q hj => by simp at hj, fun j p q hj => by simp at hj, fun p z => by simp at z, fun p z => by simp at z⟩ (by
      rintro k t ρ h' e ⟨s', run, rd, low, dbl, slp, c4, c11, c12, c13, c14, rfl, rfl, i1, i2, i3, i4, i5, i6, i7, i8, i9, i10, i11, i12, i13, i14, i15⟩ Q hQ
      obtain ⟨hk, rfl⟩ := rng_get e
      simp only [Turn1, ev_gN, ev_fSeq]
      generalize hA : fSetR 11 _ _ _ = A
      obtain ⟨s2, g, rfl, g0, g1, g2⟩ : ∃ s2 g, A = .ok (.next [.val (.obj 0), vi n, vd (prT r), vi most, vi (0 + (k : Int)), vi low, .own (run.map scT), .own (rd.map prT), vi dbl, vi slp, vi hid, vi g, c12, c13, c14, .un]) (stH s2 tl) ∧ 0 ≤ g ∧ g ≤ slp ∧ (run = [] → g = 0) := by
        subst hA
        by_cases hr : run = []
        · subst hr
          simp
          exact ⟨s', 0, ⟨rfl, rfl⟩, by omega, by omega⟩
        · have hr2 : run.isEmpty = false := by simpa using hr
          by_cases hd : dv s' 3 = 0
          · have z1 := dv_lo (dn s' 3) (k := slp + 1) (by omega)
            have z2 := dv_hi (dn s' 3) (k := slp + 1) (by omega)
            simp [hr2, drawn_eq, hd, show (0 : Int) < slp + 1 by omega, show slp + 1 < 1073741824 by omega]
            exact ⟨_, _, ⟨rfl, rfl⟩, by omega, by omega, fun z => absurd z hr⟩
          · simp [hr2, drawn_eq, hd]
            exact ⟨_, 0, ⟨rfl, rfl⟩, by omega, by omega⟩
      rw [bind_ok, kSeq_n, ev_fSeq]
      generalize hA : fSet 12 _ _ _ = A
      obtain ⟨s3, m, rfl, m0, m1, m2⟩ : ∃ s3 m, A = .ok (.next [.val (.obj 0), vi n, vd (prT r), vi most, vi (0 + (k : Int)), vi low, .own (run.map scT), .own (rd.map prT), vi dbl, vi slp, vi hid, vi g, vi m, c13, c14, .un]) (stH s3 tl) ∧ 0 ≤ m ∧ m ≤ 1 ∧ (m = 1 → 0 < dbl ∧ low + g + 1 < n) := by
        subst hA
        by_cases hd : dv s2 4 = 0
        · by_cases h2 : 0 < dbl
          · by_cases h3 : low + g + 1 < n
            · simp [drawn_eq, hd, h2, h3]
              exact ⟨_, 1, ⟨rfl, rfl⟩, by omega, by omega⟩
            · simp [drawn_eq, hd, h2, h3]
              exact ⟨_, 0, ⟨rfl, rfl⟩, by omega, by omega, by omega⟩
          · simp [drawn_eq, hd, h2]
            exact ⟨_, 0, ⟨rfl, rfl⟩, by omega, by omega, by omega⟩
        · simp [drawn_eq, hd]
          exact ⟨_, 0, ⟨rfl, rfl⟩, by omega, by omega, by omega⟩
      clear hF
      simp
      by_cases hc : low + g + m < n
      · simp [hc, -compL_cons]
        generalize hA : compL _ _ _ _ _ _ = A
        obtain ⟨s4, a, b, rfl, pa, pb⟩ : ∃ s4 a b, A = .ok [pgT a, pgT b] (stH s4 tl) ∧ partOf a (2 * (low + g)) ∧ partOf b (2 * (low + g + m) + 1) := by
          subst hA
          by_cases q1 : dv s3 4 < hid <;> by_cases q2 : dv (dn s3 4) 4 < hid <;> simp [drawn_eq, q1, q2]
          · exact ⟨_, none, none, ⟨⟨rfl, rfl⟩, rfl⟩, .inl rfl, .inl rfl⟩
          · exact ⟨_, none, some _, ⟨⟨rfl, rfl⟩, rfl⟩, .inl rfl, .inr rfl⟩
          · exact ⟨_, some _, none, ⟨⟨rfl, rfl⟩, rfl⟩, .inr rfl, .inl rfl⟩
          · exact ⟨_, some _, some _, ⟨⟨rfl, rfl⟩, rfl⟩, .inr rfl, .inr rfl⟩
        have hl1 : run.length < 100000 := by omega
        have hl2 : rd.length < 100000 := by omega
        simp [hl1, hl2]
        have hf0 : 0 ≤ low + g := by omega
        have hmm : m = 1 → 0 < dbl := fun z => (m2 z).1
        have hdm : 0 ≤ dbl - m := by
          by_cases hm1 : m = 1
          · have := hmm hm1
            omega
          · omega
        have hlast : ∀ p, rd.getLast? = some p → p.2 < low + g := fun p hp => by
          have := i6 p hp
          omega
        have hsl : slipsOf (rd ++ [(low + g, low + g + m)]) = slipsOf rd + g := by
          cases hgl : rd.getLast? with
          | none =>
            have e1 : rd = [] := List.getLast?_eq_none_iff.mp hgl
            subst e1
            have e2 : run = [] := List.eq_nil_of_length_eq_zero (by rw [← i1]; rfl)
            have := g2 e2
            simp [slipsOf]
            omega
          | some p =>
            rw [slips_last hgl]
            have := i6 p hgl
            show slipsOf rd + (low + g - p.2 - 1) = _
            omega
        have hds : dsum (rd ++ [(low + g, low + g + m)]) = dsum rd + m := by
          simp [dsum]
          omega
        rw [show List.map scT run ++ [PyData.tuple [pgT a, pgT b]] = (run ++ [(a, b)]).map scT by simp [scT], show List.map prT rd ++ [PyData.tuple [PyData.int (low + g), PyData.int (low + g + m)]] = (rd ++ [(low + g, low + g + m)]).map prT by simp [prT]]
        refine wp_ok (hQ _ _ ⟨s4, run ++ [(a, b)], rd ++ [(low + g, low + g + m)], low + g + m + 1, dbl - m, slp - g, _, _, _, _, _, rfl, rfl, by simp [i1], by simp; omega, fun _ => by simp, by omega, fun z => by simp at z, fun p hp => ?_, by omega, hdm, by omega, by omega, by omega, risesTo_snoc i12 hlast, showsTo_snoc i1 i13 (shows_part pa pb), ?_, ?_⟩)
        · simp at hp
          subst hp
          rfl
        · intro s hs
          rcases List.mem_append.mp hs with hs | hs
          · exact i14 s hs
          · rw [List.mem_singleton.mp hs]
            unfold okSc
            rw [okPg_0 pa hf0 (by omega), okPg_1 pb (by omega) hc]
            rfl
        · intro p hp
          rcases List.mem_append.mp hp with hp | hp
          · exact i15 p hp
          · rw [List.mem_singleton.mp hp]
            exact okPr_mk hf0 (by omega) (by omega) hc
      · simp [hc]
        refine wp_ok (hQ _ _ ⟨s3, run, rd, low, dbl, slp, _, _, _, _, _, rfl, rfl, i1, by omega, fun _ => ?_, i4, i5, i6, i7, i8, i9, i10, i11, i12, i13, i14, i15⟩)
        by_cases hrd : run = []
        · exfalso
          have e1 : rd = [] := List.eq_nil_of_length_eq_zero (by rw [i1, hrd]; rfl)
          have := i5 e1
          have := g2 hrd
          by_cases hm1 : m = 1
          · have := m2 hm1
            omega
          · omega
        · have := List.length_pos_iff.mpr hrd
          omega)
  obtain ⟨s', run, rd, low, dbl, slp, c4, c11, c12, c13, c14, rfl, rfl, i1, i2, i3, i4, i5, i6, i7, i8, i9, i10, i11, i12, i13, i14, i15⟩ := q
  simp [stH] at hG
  rw [rngT_len] at i2 i3
  refine ⟨s', run, rd, ?_, ⟨⟨i1, i12, i13, by omega, by omega⟩, i14, i15⟩, i3 (by omega), by omega⟩
  rw [← hG]
  simp [stH, runT, rdT]
end
end Pl
set_option Elab.async false
set_option linter.all false
set_option maxRecDepth 100000
set_option maxHeartbeats 2000000
namespace Pl
open PySem Pf Sm
/-! ### slices -/
theorem cut_to {α : Type} {xs : List α} {i : Int} (h : 0 ≤ i) : cutL xs none (some i) = xs.take i.toNat := by
  unfold cutL
  rw [HT.sIx_none]
  unfold HT.sIx
  dsimp only
  rw [if_neg (by omega)]
  simp
theorem cut_from {α : Type} {xs : List α} {i : Int} (h : 0 ≤ i) : cutL xs (some i) none = xs.drop i.toNat := by
  unfold cutL
  rw [HT.sIx_none]
  unfold HT.sIx
  dsimp only
  rw [if_neg (by omega)]
  by_cases hi : i.toNat ≤ xs.length
  · rw [Nat.min_eq_left hi]
    exact List.take_of_length_le (by simp)
  · rw [List.drop_of_length_le (by omega), List.drop_of_length_le (by omega)]
    simp
theorem cut_mid {α : Type} {xs : List α} {i j : Int} (h : 0 ≤ i) (hj : i ≤ j) : cutL xs (some i) (some j) = (xs.drop i.toNat).take (j.toNat - i.toNat) := by
  unfold cutL HT.sIx
  dsimp only
  rw [if_neg (by omega), if_neg (by omega)]
  by_cases hi : i.toNat ≤ xs.length
  · rw [Nat.min_eq_left hi]
    rcases Nat.le_total j.toNat xs.length with hj2 | hj2
    · rw [Nat.min_eq_left hj2]
    · rw [Nat.min_eq_right hj2, List.take_of_length_le (by simp), List.take_of_length_le (by simp; omega)]
  · rw [List.drop_of_length_le (by omega), List.drop_of_length_le (by omega)]
    simp
theorem line_ok {n : Nat} (h : n ≤ 100000) : (n ≤ sizeLine) = True := eq_true (Nat.le_trans h (by decide))
theorem len_line {n : Nat} (h : n ≤ 100000) : n ≤ sizeLine := Nat.le_trans h (by decide)
section
variable (x : Bool)
theorem all_take {α : Type} {P : α → Prop} {l : List α} (h : ∀ s ∈ l, P s) (k : Nat) : ∀ s ∈ l.take k, P s := fun s hs => h s (List.mem_of_mem_take hs)
theorem all_drop {α : Type} {P : α → Prop} {l : List α} (h : ∀ s ∈ l, P s) (k : Nat) : ∀ s ∈ l.drop k, P s := fun s hs => h s (List.mem_of_mem_drop hs)
theorem all_app {α : Type} {P : α → Prop} {l m : List α} (h : ∀ s ∈ l, P s) (k : ∀ s ∈ m, P s) : ∀ s ∈ l ++ m, P s := fun s hs => (List.mem_append.mp hs).elim (h s) (k s)
theorem all_one {α : Type} {P : α → Prop} {a : α} (h : P a) : ∀ s ∈ [a], P s := fun s hs => by rw [List.mem_singleton.mp hs]; exact h
theorem okSc_mk {n f l : Int} (h1 : 0 ≤ f) (h2 : f < n) (h3 : 0 ≤ l) (h4 : l < n) {a b : Option Int} (ha : a = some (2 * f) ∨ okPg n 0 a = true) (hb : b = some (2 * l + 1) ∨ okPg n 1 b = true) : okSc n (a, b) = true := by
  unfold okSc
  have e1 : okPg n 0 a = true := ha.elim (fun z => okPg_0 (.inr z) h1 h2) id
  have e2 : okPg n 1 b = true := hb.elim (fun z => okPg_1 (.inr z) h3 h4) id
  rw [e1, e2]
  rfl
@[simp] theorem take_stH (s s1 : Dr) (tl : Hs) : List.take (List.length (stH s tl)) (stH s1 tl) = stH s1 tl := by simp [stH]
theorem runT_def (l : List Scan) : runT l = .list (l.map scT) := rfl
theorem other_eq (s : Dr) (tl : Hs) {n : Int} {run : List Scan} (n1 : 1 ≤ n) (n2 : n ≤ 30) (hl : run.length ≤ 20) (hr : ∀ s ∈ run, okSc n s = true) :
    ∃ s' run', S__law_other x [.obj 0, .dat (runT run), .dat (.int n)] (stH s tl) = .ok (.val (.dat (runT run'))) (stH s' tl) ∧ (∀ s ∈ run', okSc n s = true) ∧ run'.length ≤ 20 := by
  have hn : 0 < n := by omega
  have hn2 : n < 1073741824 := by omega
  have hl0 : (0 : Int) < (run.length : Int) + 1 := by omega
  have hl1 : (run.length : Int) + 1 < 1073741824 := by omega
  generalize hG : S__law_other x _ _ = G
  simp [S__law_other, F__law_other, runT, drawn_eq, hn, hn2, hl0, hl1] at hG
  have d1 := dv_lo s hl0
  have d2 := dv_hi s hl0
  have d3 := dv_lo (dn s ((run.length : Int) + 1)) (k := 5) (by decide)
  have d4 := dv_hi (dn s ((run.length : Int) + 1)) (k := 5) (by decide)
  have d5 := dv_lo (dn (dn s ((run.length : Int) + 1)) 5) hn
  have d6 := dv_hi (dn (dn s ((run.length : Int) + 1)) 5) hn
  have d7 := dv_lo (dn (dn (dn s ((run.length : Int) + 1)) 5) n) hn
  have d8 := dv_hi (dn (dn (dn s ((run.length : Int) + 1)) 5) n) hn
  generalize dv (dn (dn (dn s ((run.length : Int) + 1)) 5) n) n = q at *
  generalize dn (dn (dn (dn s ((run.length : Int) + 1)) 5) n) n = s1 at *
  generalize dv (dn (dn s ((run.length : Int) + 1)) 5) n = p at *
  generalize dv (dn s ((run.length : Int) + 1)) 5 = way at *
  generalize dv s ((run.length : Int) + 1) = at_ at *
  obtain ⟨k, rfl⟩ := Int.eq_ofNat_of_zero_le d1
  have hk : k ≤ run.length := by omega
  have c0 : (PyData.tuple [PyData.int (2 * p), PyData.int (2 * q + 1)]) = scT (some (2 * p), some (2 * q + 1)) := rfl
  have okn : okSc n (some (2 * p), some (2 * q + 1)) = true := okSc_mk d5 d6 d7 d8 (.inl rfl) (.inl rfl)
  have z1 : ∀ m : Nat, m ≤ 20 → m ≤ sizeLine := fun m hm => len_line (by omega)
  have run_map : ∀ l : List Scan, PyData.list (l.map scT) = runT l := fun _ => rfl
  by_cases hA : ((k : Int) = (run.length : Int)) ∨ way = 0
  · have e1 : (((run.map scT).take k ++ PyData.tuple [PyData.int (2 * p), PyData.int (2 * q + 1)] :: (run.map scT).drop k).take 20) = ((run.take k ++ (some (2 * p), some (2 * q + 1)) :: run.drop k).take 20).map scT := by
      rw [List.map_take, List.map_append, List.map_cons, List.map_take, List.map_drop]
      rfl
    refine ⟨s1, (run.take k ++ (some (2 * p), some (2 * q + 1)) :: run.drop k).take 20, ?_, all_take (all_app (all_take hr k) (all_app (all_one okn) (all_drop hr k))) 20, by simp; omega⟩
    rw [← hG]
    by_cases hA1 : (k : Int) = (run.length : Int)
    · have hk2 : k = run.length := by omega
      subst hk2
      simp
      repeat (simp (disch := omega) only [line_ok, cut_to, cut_from]; simp)
      rw [e1]
      simp [runT_def]
    · have hw : way = 0 := by omega
      subst hw
      simp [hA1]
      repeat (simp (disch := omega) only [line_ok, cut_to, cut_from]; simp)
      rw [e1]
      rfl
  · have hk2 : k < run.length := by omega
    have hA1 : ¬ ((k : Int) = (run.length : Int)) := by omega
    have hA2 : ¬ (way = 0) := by omega
    obtain ⟨⟨a, b⟩, hab⟩ := get_of_lt hk2
    have s1' : L2.atI (run.map scT) (k : Int) = some (.tuple [pgT a, pgT b]) := by rw [atI_pos (by omega)]; simp [hab, scT]
    have okab := hr _ (List.mem_of_getElem? hab)
    unfold okSc at okab
    rw [Bool.and_eq_true] at okab
    simp [hA1, hA2, s1'] at hG
    have hw : way = 1 ∨ way = 2 ∨ way = 3 ∨ way = 4 := by omega
    rcases hw with rfl | rfl | rfl | rfl
    · refine ⟨s1, run.take k ++ run.drop (k + 1), ?_, all_app (all_take hr _) (all_drop hr _), by simp; omega⟩
      rw [← hG]
      repeat (simp (disch := omega) only [line_ok, cut_to, cut_from, cut_mid]; simp)
      simp [runT_def]
    · refine ⟨s1, run.take k ++ (some (2 * p), b) :: run.drop (k + 1), ?_, all_app (all_take hr _) (all_app (all_one (P := fun s => okSc n s = true) (okSc_mk (l := q) d5 d6 d7 d8 (.inl rfl) (.inr okab.2))) (all_drop hr _)), by simp; omega⟩
      rw [← hG]
      repeat (simp (disch := omega) only [line_ok, cut_to, cut_from, cut_mid]; simp)
      simp [runT_def, scT]
    · refine ⟨s1, run.take k ++ (a, some (2 * q + 1)) :: run.drop (k + 1), ?_, all_app (all_take hr _) (all_app (all_one (P := fun s => okSc n s = true) (okSc_mk (f := p) d5 d6 d7 d8 (.inr okab.1) (.inl rfl))) (all_drop hr _)), by simp; omega⟩
      rw [← hG]
      repeat (simp (disch := omega) only [line_ok, cut_to, cut_from, cut_mid]; simp)
      simp [runT_def, scT]
    · refine ⟨s1, run.take k ++ (((run.drop k).take 2).reverse ++ run.drop (k + 2)), ?_, all_app (all_take hr _) (all_app (fun s hs => all_take (all_drop hr _) _ s (List.mem_reverse.mp hs)) (all_drop hr _)), by simp; omega⟩
      rw [← hG]
      repeat (simp (disch := omega) only [line_ok, cut_to, cut_from, cut_mid]; simp)
      have e2 : ((k : Int) + 2).toNat = k + 2 := by omega
      have e3 : k + 2 - k = 2 := by omega
      simp [runT_def, e2, e3]
end
end Pl
set_option Elab.async false
set_option linter.all false
set_option maxRecDepth 100000
set_option maxHeartbeats 2000000
namespace Pl
open PySem Pf
/-! ### readings, plain -/
structure St4 where
  f : Int
  l : Int
  d : Int
  s : Int
deriving DecidableEq
def St4.pr (o : St4) : Pair := (o.f, o.l)
def moreL (n : Int) (sc : Scan) (first d s : Int) : List St4 := ((List.range (min 1 d + 1).toNat).filter fun (m : Nat) => decide (first + (m : Int) < n) && showsB sc first (first + (m : Int))).map fun (m : Nat) => ⟨first, first + (m : Int), d - (m : Int), s⟩
def stepsL (n : Int) (sc : Scan) (sheet d s : Int) : List St4 := (List.range (s + 1).toNat).flatMap fun (g : Nat) => moreL n sc (sheet + (g : Int)) d (s - (g : Int))
def firstsL (n : Int) (r : Pair) (sc : Scan) : List St4 := (List.range n.toNat).flatMap fun (sh : Nat) => (stepsL n sc (sh : Int) r.1 0).map fun o => ⟨o.f, o.l, o.d, r.2⟩
/-- all the ways on from a sheet -/
def pathsP (n : Int) : List Scan → Int → Int → Int → List (List Pair)
  | [], _, _, _ => [[]]
  | sc :: rest, sheet, d, s => (stepsL n sc sheet d s).flatMap fun o => (pathsP n rest (o.l + 1) o.d o.s).map (o.pr :: ·)
def allR (n : Int) (r : Pair) : List Scan → List (List Pair)
  | [] => [[]]
  | sc :: rest => (firstsL n r sc).flatMap fun o => (pathsP n rest (o.l + 1) o.d o.s).map (o.pr :: ·)
def cnt (n : Int) : List Scan → Int → Int → Int → Int
  | [], _, _, _ => 1
  | sc :: rest, sheet, d, s => ((stepsL n sc sheet d s).map fun o => cnt n rest (o.l + 1) o.d o.s).sum
/-! what a step is -/
structure IsStep (n : Int) (sc : Scan) (sheet d s : Int) (o : St4) : Prop where
  low : sheet ≤ o.f
  sl : o.s = s - (o.f - sheet)
  s0 : 0 ≤ o.s
  le : o.f ≤ o.l
  ge : o.l ≤ o.f + 1
  dd : o.d = d - (o.l - o.f)
  d0 : 0 ≤ o.d
  top : o.l < n
  shows : showsB sc o.f o.l = true
theorem mem_moreL {n : Int} {sc : Scan} {first d s : Int} (hd : 0 ≤ d) {o : St4} : o ∈ moreL n sc first d s ↔ o.f = first ∧ o.s = s ∧ o.f ≤ o.l ∧ o.l ≤ o.f + 1 ∧ o.d = d - (o.l - o.f) ∧ 0 ≤ o.d ∧ o.l < n ∧ showsB sc o.f o.l = true := by
  unfold moreL
  simp only [List.mem_map, List.mem_filter, List.mem_range, Bool.and_eq_true, decide_eq_true_eq]
  constructor
  · rintro ⟨m, ⟨h1, h2, h3⟩, rfl⟩
    refine ⟨rfl, rfl, ?_, ?_, ?_, ?_, h2, h3⟩ <;> simp only <;> omega
  · obtain ⟨f, l, d', s'⟩ := o
    simp only
    rintro ⟨rfl, rfl, h1, h2, rfl, h3, h4, h5⟩
    have e : f + ((l - f).toNat : Int) = l := by omega
    refine ⟨(l - f).toNat, ⟨by omega, by omega, by rw [e]; exact h5⟩, ?_⟩
    rw [e]
    simp only [St4.mk.injEq, true_and, and_true]
    omega
theorem mem_stepsL {n : Int} {sc : Scan} {sheet d s : Int} (hd : 0 ≤ d) {o : St4} : o ∈ stepsL n sc sheet d s ↔ IsStep n sc sheet d s o := by
  unfold stepsL
  simp only [List.mem_flatMap, List.mem_range, mem_moreL hd]
  constructor
  · rintro ⟨g, hg, h1, h2, h3, h4, h5, h6, h7, h8⟩
    exact ⟨by omega, by omega, by omega, h3, h4, h5, h6, h7, h8⟩
  · intro h
    have h1 := h.low
    have h2 := h.sl
    have h3 := h.s0
    exact ⟨(o.f - sheet).toNat, by omega, by omega, by omega, h.le, h.ge, h.dd, h.d0, h.top, h.shows⟩
/-- no item twice, by a code -/
theorem nodup_flatMap {α β : Type} {f : α → List β} : ∀ {l : List α}, l.Nodup → (∀ a ∈ l, (f a).Nodup) → (∀ a ∈ l, ∀ b ∈ l, ∀ x, x ∈ f a → x ∈ f b → a = b) → (l.flatMap f).Nodup
  | [], _, _, _ => List.nodup_nil
  | a :: l, hn, h1, h2 => by
    obtain ⟨n1, n2⟩ := List.nodup_cons.mp hn
    rw [List.flatMap_cons]
    refine List.nodup_append.mpr ⟨h1 a (List.mem_cons_self ..), nodup_flatMap n2 (fun b hb => h1 b (List.mem_cons_of_mem _ hb)) fun b hb c hc x => h2 b (List.mem_cons_of_mem _ hb) c (List.mem_cons_of_mem _ hc) x, ?_⟩
    intro x hx y hy e
    subst e
    obtain ⟨b, hb, hx2⟩ := List.mem_flatMap.mp hy
    exact n1 (h2 a (List.mem_cons_self ..) b (List.mem_cons_of_mem _ hb) x hx hx2 ▸ hb)
theorem nodup_mapI {α β : Type} {f : α → β} {l : List α} (h : l.Nodup) (hi : ∀ a ∈ l, ∀ b ∈ l, f a = f b → a = b) : (l.map f).Nodup :=
  List.pairwise_map.mpr (List.Pairwise.imp_of_mem (fun {a b} ha hb hne e => hne (hi a ha b hb e)) h)
theorem nodup_moreL {n : Int} {sc : Scan} {first d s : Int} : (moreL n sc first d s).Nodup := by
  unfold moreL
  refine nodup_mapI (List.Nodup.sublist List.filter_sublist List.nodup_range) fun a _ b _ e => ?_
  simp only [St4.mk.injEq] at e
  omega
theorem nodup_stepsL {n : Int} {sc : Scan} {sheet d s : Int} (hd : 0 ≤ d) : (stepsL n sc sheet d s).Nodup := by
  unfold stepsL
  refine nodup_flatMap List.nodup_range (fun g _ => nodup_moreL) fun a _ b _ x h1 h2 => ?_
  have e1 := ((mem_moreL hd).mp h1).1
  have e2 := ((mem_moreL hd).mp h2).1
  omega
/-- by its pair a step is known -/
theorem IsStep.eq {n : Int} {sc : Scan} {sheet d s : Int} {o o' : St4} (h : IsStep n sc sheet d s o) (h' : IsStep n sc sheet d s o') (e : o.pr = o'.pr) : o = o' := by
  obtain ⟨f, l, dd, ss⟩ := o
  obtain ⟨f', l', dd', ss'⟩ := o'
  simp only [St4.pr, Prod.mk.injEq] at e
  have a1 := h.sl
  have a2 := h'.sl
  have a3 := h.dd
  have a4 := h'.dd
  simp only at a1 a2 a3 a4
  simp only [St4.mk.injEq]
  omega
structure IsFirst (n : Int) (r : Pair) (sc : Scan) (o : St4) : Prop where
  f0 : 0 ≤ o.f
  sl : o.s = r.2
  le : o.f ≤ o.l
  ge : o.l ≤ o.f + 1
  dd : o.d = r.1 - (o.l - o.f)
  d0 : 0 ≤ o.d
  top : o.l < n
  shows : showsB sc o.f o.l = true
theorem mem_firstsL {n : Int} {r : Pair} {sc : Scan} (hd : 0 ≤ r.1) {o : St4} : o ∈ firstsL n r sc ↔ IsFirst n r sc o := by
  unfold firstsL
  simp only [List.mem_flatMap, List.mem_range, List.mem_map, mem_stepsL hd]
  constructor
  · rintro ⟨g, hg, o, h, rfl⟩
    have h1 := h.low
    have h2 := h.sl
    have h3 := h.s0
    exact ⟨by simp only; omega, rfl, h.le, h.ge, h.dd, h.d0, h.top, h.shows⟩
  · intro h
    have h1 := h.f0
    have h2 := h.le
    have h3 := h.top
    obtain ⟨f, l, d, s⟩ := o
    simp only at h1 h2 h3
    refine ⟨f.toNat, by omega, ⟨f, l, d, 0⟩, ⟨by simp only; omega, by simp only; omega, by simp only; omega, h.le, h.ge, h.dd, h.d0, h.top, h.shows⟩, ?_⟩
    have := h.sl
    simp only at this
    simp only [St4.mk.injEq, true_and]
    exact this.symm
theorem IsFirst.eq {n : Int} {r : Pair} {sc : Scan} {o o' : St4} (h : IsFirst n r sc o) (h' : IsFirst n r sc o') (e : o.pr = o'.pr) : o = o' := by
  obtain ⟨f, l, dd, ss⟩ := o
  obtain ⟨f', l', dd', ss'⟩ := o'
  simp only [St4.pr, Prod.mk.injEq] at e
  have a1 := h.sl
  have a2 := h'.sl
  have a3 := h.dd
  have a4 := h'.dd
  simp only at a1 a2 a3 a4
  simp only [St4.mk.injEq]
  omega
theorem nodup_firstsL {n : Int} {r : Pair} {sc : Scan} (hd : 0 ≤ r.1) : (firstsL n r sc).Nodup := by
  unfold firstsL
  refine nodup_flatMap List.nodup_range (fun g _ => nodup_mapI (nodup_stepsL hd) fun a ha b hb e => ?_) fun a _ b _ x h1 h2 => ?_
  · have ha := (mem_stepsL hd).mp ha
    have hb := (mem_stepsL hd).mp hb
    refine ha.eq hb ?_
    simp only [St4.mk.injEq] at e
    unfold St4.pr
    rw [e.1, e.2.1]
  · obtain ⟨o1, m1, rfl⟩ := List.mem_map.mp h1
    obtain ⟨o2, m2, e⟩ := List.mem_map.mp h2
    have a1 := (mem_stepsL hd).mp m1
    have a2 := (mem_stepsL hd).mp m2
    simp only [St4.mk.injEq] at e
    have b1 := a1.low
    have b2 := a2.low
    have b3 := a1.sl
    have b4 := a2.sl
    have b5 := a1.s0
    have b6 := a2.s0
    omega
/-! the count is the number of ways -/
theorem sum_len {α β : Type} (f : α → List β) : ∀ l : List α, ((l.flatMap f).length : Int) = (l.map fun a => ((f a).length : Int)).sum
  | [] => rfl
  | a :: l => by
    rw [List.flatMap_cons, List.length_append, List.map_cons, List.sum_cons, ← sum_len f l]
    simp
theorem cnt_len (n : Int) : ∀ (run : List Scan) (sheet d s : Int), cnt n run sheet d s = ((pathsP n run sheet d s).length : Int)
  | [], _, _, _ => rfl
  | sc :: rest, sheet, d, s => by
    unfold cnt pathsP
    rw [sum_len]
    congr 1
    refine List.map_congr_left fun o _ => ?_
    rw [cnt_len n rest, List.length_map]
/-! a way on, by its pairs -/
def PathOk (n : Int) : List Scan → Int → Int → Int → List Pair → Prop
  | [], _, _, _, [] => True
  | sc :: rest, sheet, d, s, p :: ps => IsStep n sc sheet d s ⟨p.1, p.2, d - (p.2 - p.1), s - (p.1 - sheet)⟩ ∧ PathOk n rest (p.2 + 1) (d - (p.2 - p.1)) (s - (p.1 - sheet)) ps
  | _, _, _, _, _ => False
theorem IsStep.form {n : Int} {sc : Scan} {sheet d s : Int} {o : St4} (h : IsStep n sc sheet d s o) : o = ⟨o.f, o.l, d - (o.l - o.f), s - (o.f - sheet)⟩ := by
  obtain ⟨f, l, d', s'⟩ := o
  have a1 := h.sl
  have a2 := h.dd
  simp only at a1 a2
  simp only [St4.mk.injEq, true_and]
  exact ⟨a2, a1⟩
theorem mem_pathsP {n : Int} : ∀ {run : List Scan} {sheet d s : Int} {rd : List Pair}, 0 ≤ d → (rd ∈ pathsP n run sheet d s ↔ PathOk n run sheet d s rd)
  | [], _, _, _, rd, _ => by
    cases rd with
    | nil => simp [pathsP, PathOk]
    | cons p ps => simp [pathsP, PathOk]
  | sc :: rest, sheet, d, s, rd, hd => by
    unfold pathsP
    simp only [List.mem_flatMap, List.mem_map, mem_stepsL hd]
    constructor
    · rintro ⟨o, ho, ps, hps, rfl⟩
      have e := ho.form
      have e1 := ho.dd
      have e2 := ho.sl
      refine ⟨?_, ?_⟩
      · show IsStep n sc sheet d s ⟨o.f, o.l, d - (o.l - o.f), s - (o.f - sheet)⟩
        rw [← e]
        exact ho
      · show PathOk n rest (o.l + 1) (d - (o.l - o.f)) (s - (o.f - sheet)) ps
        rw [← e1, ← e2]
        exact (mem_pathsP ho.d0).mp hps
    · cases rd with
      | nil => exact fun h => h.elim
      | cons p ps =>
        rintro ⟨h1, h2⟩
        exact ⟨_, h1, ps, (mem_pathsP h1.d0).mpr h2, rfl⟩
theorem nodup_pathsP {n : Int} : ∀ {run : List Scan} {sheet d s : Int}, 0 ≤ d → (pathsP n run sheet d s).Nodup
  | [], _, _, _, _ => by simp [pathsP]
  | sc :: rest, sheet, d, s, hd => by
    unfold pathsP
    refine nodup_flatMap (nodup_stepsL hd) (fun o ho => nodup_mapI (nodup_pathsP ((mem_stepsL hd).mp ho).d0) fun a _ b _ e => (List.cons.inj e).2) fun a ha b hb x h1 h2 => ?_
    obtain ⟨u, _, rfl⟩ := List.mem_map.mp h1
    obtain ⟨v, _, e⟩ := List.mem_map.mp h2
    exact ((mem_stepsL hd).mp ha).eq ((mem_stepsL hd).mp hb) (List.cons.inj e).1.symm
theorem nodup_allR {n : Int} {r : Pair} (hd : 0 ≤ r.1) : ∀ {run : List Scan}, (allR n r run).Nodup
  | [] => by simp [allR]
  | sc :: rest => by
    unfold allR
    refine nodup_flatMap (nodup_firstsL hd) (fun o ho => nodup_mapI (nodup_pathsP ((mem_firstsL hd).mp ho).d0) fun a _ b _ e => (List.cons.inj e).2) fun a ha b hb x h1 h2 => ?_
    obtain ⟨u, _, rfl⟩ := List.mem_map.mp h1
    obtain ⟨v, _, e⟩ := List.mem_map.mp h2
    exact ((mem_firstsL hd).mp ha).eq ((mem_firstsL hd).mp hb) (List.cons.inj e).1.symm
/-- a reading, by its pairs -/
def ReadOk (n : Int) (r : Pair) : List Scan → List Pair → Prop
  | [], [] => True
  | sc :: rest, p :: ps => IsFirst n r sc ⟨p.1, p.2, r.1 - (p.2 - p.1), r.2⟩ ∧ PathOk n rest (p.2 + 1) (r.1 - (p.2 - p.1)) r.2 ps
  | _, _ => False
theorem mem_allR {n : Int} {r : Pair} (hd : 0 ≤ r.1) : ∀ {run : List Scan} {rd : List Pair}, rd ∈ allR n r run ↔ ReadOk n r run rd
  | [], rd => by cases rd <;> simp [allR, ReadOk]
  | sc :: rest, rd => by
    unfold allR
    simp only [List.mem_flatMap, List.mem_map, mem_firstsL hd]
    constructor
    · rintro ⟨o, ho, ps, hps, rfl⟩
      have e1 := ho.dd
      have e2 := ho.sl
      have e : o = ⟨o.f, o.l, r.1 - (o.l - o.f), r.2⟩ := by
        obtain ⟨f, l, d, s⟩ := o
        simp only at e1 e2
        simp only [St4.mk.injEq, true_and]
        exact ⟨e1, e2⟩
      refine ⟨?_, ?_⟩
      · show IsFirst n r sc ⟨o.f, o.l, r.1 - (o.l - o.f), r.2⟩
        rw [← e]
        exact ho
      · show PathOk n rest (o.l + 1) (r.1 - (o.l - o.f)) r.2 ps
        rw [← e1, ← e2]
        exact (mem_pathsP ho.d0).mp hps
    · cases rd with
      | nil => exact fun h => h.elim
      | cons p ps =>
        rintro ⟨h1, h2⟩
        exact ⟨_, h1, ps, (mem_pathsP h1.d0).mpr h2, rfl⟩
end Pl
set_option Elab.async false
set_option linter.all false
set_option maxRecDepth 100000
set_option maxHeartbeats 2000000
namespace Pl
open PySem Pf Sm
def st4T (o : St4) : T := .tuple [.int o.f, .int o.l, .int o.d, .int o.s]
theorem fld_sheets {n : Int} {r : Pair} {run : List Scan} {W : List (List L2.Key × T)} {j : Nat} {h : Hs} (hj : h[j]? = some (finO n r run W)) : kFld "Finder" "sheets" (.obj j) h = .ok (.dat (.int n)) h := by
  simp [kFld_ap, hj, finO]
theorem fld_rule {n : Int} {r : Pair} {run : List Scan} {W : List (List L2.Key × T)} {j : Nat} {h : Hs} (hj : h[j]? = some (finO n r run W)) : kFld "Finder" "rule" (.obj j) h = .ok (.dat (prT r)) h := by
  simp [kFld_ap, hj, finO]
  rfl
theorem fld_taken {n : Int} {r : Pair} {run : List Scan} {W : List (List L2.Key × T)} {j : Nat} {h : Hs} (hj : h[j]? = some (finO n r run W)) : kFld "Finder" "taken" (.obj j) h = .ok (.dat (runT run)) h := by
  simp [kFld_ap, hj, finO]
  rfl
theorem ixT_run {run : List Scan} {p : Nat} {sc : Scan} (hp : run[p]? = some sc) : ixT (runT run) (.int (p : Nat)) = some (scT sc) := by
  show L2.atI (run.map scT) (p : Int) = some (scT sc)
  rw [atI_pos (by omega)]
  simp [hp]
theorem len_moreL {n : Int} {sc : Scan} {first d s : Int} : (moreL n sc first d s).length ≤ 2 := by
  unfold moreL
  rw [List.length_map]
  refine Nat.le_trans (List.length_filter_le _ _) ?_
  rw [List.length_range]
  omega
theorem len_flat {α : Type} {f : Nat → List α} {b : Nat} (hb : ∀ a, (f a).length ≤ b) : ∀ k, ((List.range k).flatMap f).length ≤ b * k
  | 0 => by simp
  | k + 1 => by
    rw [List.range_succ, List.flatMap_append, List.length_append, List.flatMap_cons, List.flatMap_nil, List.append_nil]
    have := len_flat hb k
    have := hb k
    rw [Nat.mul_add]
    omega
section
variable (x : Bool)
theorem steps_eq {n : Int} {r : Pair} {run : List Scan} {W : List (List L2.Key × T)} {j p : Nat} {sc : Scan} {sheet d s : Int} {h : Hs} (hj : h[j]? = some (finO n r run W)) (hp : run[p]? = some sc) (hd0 : 0 ≤ d) (hd3 : d ≤ 3) (hs0 : 0 ≤ s) (hs3 : s ≤ 3) :
    S_Finder_steps x [.obj j, .dat (.int (p : Nat)), .dat (.int sheet), .dat (.int d), .dat (.int s)] h = .ok (.own ((stepsL n sc sheet d s).map st4T)) h := by
  simp [S_Finder_steps, F_Finder_steps]
  simp [rngOk_of (i := 0) (j := s + 1) (by omega) (by omega) (by omega) (by omega)]
  generalize hF : forL _ _ _ _ _ = F
  obtain ⟨ρ', h', rfl, rfl, acc, hacc, a, b, c, e, rfl⟩ := forL_of hF (fun k ρ h' => h' = h ∧ ∃ acc, acc = (List.range k).flatMap (fun (g : Nat) => moreL n sc (sheet + (g : Int)) d (s - (g : Int))) ∧ ∃ a b c e, ρ = [.val (.obj j), vi (p : Nat), vi sheet, vi d, vi s, .own (acc.map st4T), a, b, c, e]) ⟨rfl, [], rfl, _, _, _, _, rfl⟩ (by
      rintro k t ρ h' e ⟨rfl, acc, hacc, a, b, c, e', rfl⟩ Q hn
      obtain ⟨hk, rfl⟩ := rng_get e
      have l1 := len_flat (f := fun (g : Nat) => moreL n sc (sheet + (g : Int)) d (s - (g : Int))) (fun a => len_moreL) k
      rw [← hacc] at l1
      simp [Turn1]
      have em : (if d < 1 then d else 1) = min 1 d := by split <;> omega
      rw [em, rngOk_of (i := 0) (j := min 1 d + 1) (by omega) (by omega) (by omega) (by omega)]
      simp
      generalize hF : forL _ _ _ _ _ = F
      obtain ⟨ρ', h', rfl, rfl, acc2, hacc2, a, b, rfl⟩ := forL_of hF (fun m ρ h2 => h2 = h' ∧ ∃ acc2, acc2 = ((List.range m).filter fun (m : Nat) => decide (sheet + (k : Int) + (m : Int) < n) && showsB sc (sheet + (k : Int)) (sheet + (k : Int) + (m : Int))).map (fun (m : Nat) => (⟨sheet + (k : Int), sheet + (k : Int) + (m : Int), d - (m : Int), s - (k : Int)⟩ : St4)) ∧ ∃ a b, ρ = [.val (.obj j), vi (p : Nat), vi sheet, vi d, vi s, .own ((acc ++ acc2).map st4T), vi (k : Nat), vi (sheet + (k : Nat)), a, b]) ⟨rfl, [], rfl, c, e', by simp⟩ (by
        rintro m t ρ h2 e2 ⟨rfl, acc2, hacc2, a, b, rfl⟩ Q hn
        obtain ⟨hm, rfl⟩ := rng_get e2
        have l2 : acc2.length ≤ 2 := by
          rw [hacc2, List.length_map]
          refine Nat.le_trans (List.length_filter_le _ _) ?_
          rw [List.length_range]
          omega
        have l3 : acc.length + acc2.length < 100000 := by omega
        simp [Turn1, fld_sheets hj, fld_taken hj, ixT_run hp, does_show_eq]
        by_cases c1 : sheet + (k : Int) + (m : Int) < n
        · by_cases c2 : showsB sc (sheet + (k : Int)) (sheet + (k : Int) + (m : Int)) = true
          · simp [c1, c2, l3]
            refine wp_ok (hn _ _ ⟨rfl, acc2 ++ [⟨sheet + (k : Int), sheet + (k : Int) + (m : Int), d - (m : Int), s - (k : Int)⟩], ?_, vi (m : Nat), vi (sheet + (k : Int) + (m : Int)), ?_⟩)
            · rw [hacc2]
              simp [List.range_succ, List.filter_append, c1, c2]
            · simp [st4T]
          · simp [c1, c2]
            refine wp_ok (hn _ _ ⟨rfl, acc2, ?_, vi (m : Nat), vi (sheet + (k : Int) + (m : Int)), by simp⟩)
            rw [hacc2]
            simp [List.range_succ, List.filter_append, c1, c2]
        · simp [c1]
          refine wp_ok (hn _ _ ⟨rfl, acc2, ?_, vi (m : Nat), vi (sheet + (k : Int) + (m : Int)), by simp⟩)
          rw [hacc2]
          simp [List.range_succ, List.filter_append, c1])
      refine wp_ok (hn _ _ ⟨rfl, acc ++ acc2, ?_, _, _, _, _, rfl⟩)
      rw [hacc, hacc2, rngT_len]
      simp [List.range_succ, moreL])
  simp
  rw [hacc, rngT_len]
  rfl
end
end Pl
set_option Elab.async false
set_option linter.all false
set_option maxRecDepth 100000
set_option maxHeartbeats 2000000
namespace Pl
open PySem Pf Sm
/-! ### Finder.count -/
def key4 (a b c d : Int) : List L2.Key := [.inl a, .inl b, .inl c, .inl d]
theorem key4_inj {a b c d a' b' c' d' : Int} (h : key4 a b c d = key4 a' b' c' d') : a = a' ∧ b = b' ∧ c = c' ∧ d = d' := by
  simpa [key4] using h
structure Box (sheet d s : Int) : Prop where
  a0 : 0 ≤ sheet
  a1 : sheet ≤ 30
  d0 : 0 ≤ d
  d3 : d ≤ 3
  s0 : 0 ≤ s
  s3 : s ≤ 3
theorem Box.step {n : Int} {sc : Scan} {sheet d s : Int} {o : St4} (hn : n ≤ 30) (b : Box sheet d s) (h : IsStep n sc sheet d s o) : Box (o.l + 1) o.d o.s := by
  obtain ⟨a0, a1, d0, d3, s0, s3⟩ := b
  obtain ⟨h1, h2, h3, h4, h5, h6, h7, h8, _⟩ := h
  constructor <;> omega
theorem Box.first {n : Int} {r : Pair} {sc : Scan} {o : St4} (hn : n ≤ 30) (h3 : r.1 ≤ 3) (h4 : 0 ≤ r.2) (h5 : r.2 ≤ 3) (h : IsFirst n r sc o) : Box (o.l + 1) o.d o.s := by
  obtain ⟨h1, h2, h3, h4, h5, h6, h7, _⟩ := h
  constructor <;> omega
structure WOk (n : Int) (run : List Scan) (W : List (List L2.Key × T)) : Prop where
  nd : (W.map (·.1)).Nodup
  val : ∀ e ∈ W, ∃ (p : Nat) (sheet d s : Int), e = (key4 (p : Int) sheet d s, .int (cnt n (run.drop p) sheet d s)) ∧ p < run.length ∧ Box sheet d s
theorem WOk.nil {n : Int} {run : List Scan} : WOk n run [] := ⟨List.nodup_nil, fun e he => by cases he⟩
def code4 : List L2.Key → Nat
  | [.inl a, .inl b, .inl c, .inl d] => a.toNat + 32 * (b.toNat + 32 * (c.toNat + 4 * d.toNat))
  | _ => 0
theorem WOk.len {n : Int} {run : List Scan} {W : List (List L2.Key × T)} (h : WOk n run W) (hl : run.length ≤ 20) : W.length < 1000000 := by
  have h1 : (W.map fun e => code4 e.1).Nodup := by
    have : (W.map fun e => code4 e.1) = (W.map (·.1)).map code4 := by rw [List.map_map]; rfl
    rw [this]
    refine nodup_mapI h.nd fun a ha b hb e => ?_
    obtain ⟨u, hu, rfl⟩ := List.mem_map.mp ha
    obtain ⟨v, hv, rfl⟩ := List.mem_map.mp hb
    obtain ⟨p, sh, d, s, rfl, p1, b1⟩ := h.val u hu
    obtain ⟨p', sh', d', s', rfl, p1', b1'⟩ := h.val v hv
    obtain ⟨x1, x2, x3, x4, x5, x6⟩ := b1
    obtain ⟨y1, y2, y3, y4, y5, y6⟩ := b1'
    simp only [key4, code4] at e ⊢
    have e1 : (p : Int) = p' := by omega
    have e2 : sh = sh' := by omega
    have e3 : d = d' := by omega
    have e4 : s = s' := by omega
    rw [e1, e2, e3, e4]
  have := nodup_len (m := List.range 100000) h1 fun z hz => by
    obtain ⟨u, hu, rfl⟩ := List.mem_map.mp hz
    obtain ⟨p, sh, d, s, rfl, p1, b1⟩ := h.val u hu
    obtain ⟨x1, x2, x3, x4, x5, x6⟩ := b1
    rw [List.mem_range]
    simp only [key4, code4]
    omega
  rw [List.length_map, List.length_range] at this
  omega
theorem WOk.get {n : Int} {run : List Scan} {W : List (List L2.Key × T)} (h : WOk n run W) {p : Nat} {sheet d s : Int} {u : T} (e : valT W (key4 (p : Int) sheet d s) = some u) : u = .int (cnt n (run.drop p) sheet d s) := by
  unfold valT at e
  obtain ⟨kv, h1, rfl⟩ := Option.map_eq_some_iff.mp e
  have h2 := of_decide_eq_true (by simpa using List.find?_some h1 : decide (kv.1 = key4 (p : Int) sheet d s) = true)
  obtain ⟨p', sh', d', s', rfl, _⟩ := h.val kv (List.mem_of_find?_eq_some h1)
  obtain ⟨e1, e2, e3, e4⟩ := key4_inj h2
  have e1 : p' = p := by omega
  rw [e1, e2, e3, e4]
theorem valT_none {W : List (List L2.Key × T)} {k : List L2.Key} (h : valT W k = none) : ∀ e ∈ W, e.1 ≠ k := by
  unfold valT at h
  rw [Option.map_eq_none_iff, List.find?_eq_none] at h
  intro e he z
  exact h e he (decide_eq_true z)
theorem valT_app {W : List (List L2.Key × T)} {k : List L2.Key} {t : T} (h : valT W k = none) : putT W k t = W ++ [(k, t)] ∧ valT (W ++ [(k, t)]) k = some t := by
  have h1 := valT_none h
  constructor
  · unfold putT
    rw [if_neg]
    intro z
    obtain ⟨e, he, h2⟩ := List.any_eq_true.mp z
    exact h1 e he (of_decide_eq_true h2)
  · unfold valT
    rw [List.find?_append]
    have : W.find? (fun kv => decide (kv.1 = k)) = none := List.find?_eq_none.mpr fun e he z => h1 e he (of_decide_eq_true z)
    rw [this]
    simp
theorem WOk.put {n : Int} {run : List Scan} {W : List (List L2.Key × T)} (h : WOk n run W) {p : Nat} {sheet d s : Int} (e : valT W (key4 (p : Int) sheet d s) = none) (hp : p < run.length) (b : Box sheet d s) : WOk n run (W ++ [(key4 (p : Int) sheet d s, .int (cnt n (run.drop p) sheet d s))]) := by
  refine ⟨?_, fun z hz => ?_⟩
  · rw [List.map_append, List.nodup_append]
    refine ⟨h.nd, by simp, fun a ha b hb => ?_⟩
    obtain ⟨u, hu, rfl⟩ := List.mem_map.mp ha
    simp at hb
    rw [hb]
    exact valT_none e u hu
  · rcases List.mem_append.mp hz with z1 | z1
    · exact h.val z z1
    · rw [List.mem_singleton.mp z1]
      exact ⟨p, sheet, d, s, rfl, hp, b⟩
theorem WOk.putAny {n : Int} {run : List Scan} {W : List (List L2.Key × T)} (h : WOk n run W) {p : Nat} {sheet d s : Int} (hp : p < run.length) (b : Box sheet d s) : WOk n run (putT W (key4 (p : Int) sheet d s) (.int (cnt n (run.drop p) sheet d s))) ∧ valT (putT W (key4 (p : Int) sheet d s) (.int (cnt n (run.drop p) sheet d s))) (key4 (p : Int) sheet d s) = some (.int (cnt n (run.drop p) sheet d s)) := by
  cases hv : valT W (key4 (p : Int) sheet d s) with
  | none =>
    obtain ⟨q1, q2⟩ := valT_app (t := .int (cnt n (run.drop p) sheet d s)) hv
    rw [q1]
    exact ⟨h.put hv hp b, q2⟩
  | some u =>
    have e := h.get hv
    have : putT W (key4 (p : Int) sheet d s) (.int (cnt n (run.drop p) sheet d s)) = W := by
      unfold putT
      split
      · have : W.map (fun kv => if kv.1 = key4 (p : Int) sheet d s then (kv.1, PyData.int (cnt n (run.drop p) sheet d s)) else kv) = W.map id := List.map_congr_left fun kv hkv => by
          split
          · rename_i hk
            obtain ⟨p', sh', d', s', rfl, _⟩ := h.val kv hkv
            obtain ⟨e1, e2, e3, e4⟩ := key4_inj hk
            have e1 : p' = p := by omega
            subst e1 e2 e3 e4
            rfl
          · rfl
        rw [this, List.map_id]
      · rename_i hno
        exfalso
        unfold valT at hv
        obtain ⟨kv, h1, _⟩ := Option.map_eq_some_iff.mp hv
        exact hno (List.any_eq_true.mpr ⟨kv, List.mem_of_find?_eq_some h1, by simpa using List.find?_some h1⟩)
    rw [this]
    exact ⟨h, by rw [hv, e]⟩
theorem dicAt_fin {n : Int} {r : Pair} {run : List Scan} {W : List (List L2.Key × T)} {j : Nat} {h : Hs} (hj : h[j]? = some (finO n r run W)) : dicAt h "Finder" "ways" j = some W := by
  unfold dicAt
  rw [hj]
  rfl
theorem intsOf_map {α : Type} (f : α → Int) : ∀ l : List α, intsOf (l.map fun a => PyData.int (f a)) = some (l.map f)
  | [] => rfl
  | a :: l => by
    show (intsOf (l.map fun a => PyData.int (f a))).map (f a :: ·) = _
    rw [intsOf_map f l]
    rfl
theorem st4_0 (o : St4) : ixT (st4T o) (.int 0) = some (.int o.f) := rfl
theorem st4_1 (o : St4) : ixT (st4T o) (.int 1) = some (.int o.l) := rfl
theorem st4_2 (o : St4) : ixT (st4T o) (.int 2) = some (.int o.d) := rfl
theorem st4_3 (o : St4) : ixT (st4T o) (.int 3) = some (.int o.s) := rfl
theorem lenT_run (run : List Scan) : lenT [runT run] = some (.int (run.length : Nat)) := by simp [runT]
theorem keyS_4 {ρ : En} {j : Nat} {a b c d : Int} (h : ρ[j]? = some (.val (.dat (.tuple [.int a, .int b, .int c, .int d])))) : keyS ρ j = some (key4 a b c d) := by
  unfold keyS
  rw [h]
  rfl
theorem meth_steps {n : Int} {r : Pair} {run : List Scan} {W : List (List L2.Key × T)} {j : Nat} {h : Hs} {x : Bool} {np : Nat} {s : Sem1} {g : FA} {ρ : En} (hj : h[j]? = some (finO n r run W)) : kMeth x "Finder" "steps" np s g ρ (.obj j) h = (g ρ h).bind (kMeth2 x np s j) := by
  simp only [kMeth_ap, hj, finO]
  rfl
theorem meth_count {n : Int} {r : Pair} {run : List Scan} {W : List (List L2.Key × T)} {j : Nat} {h : Hs} {x : Bool} {np : Nat} {s : Sem1} {g : FA} {ρ : En} (hj : h[j]? = some (finO n r run W)) : kMeth x "Finder" "count" np s g ρ (.obj j) h = (g ρ h).bind (kMeth2 x np s j) := by
  simp only [kMeth_ap, hj, finO]
  rfl
theorem meth_firsts {n : Int} {r : Pair} {run : List Scan} {W : List (List L2.Key × T)} {j : Nat} {h : Hs} {x : Bool} {np : Nat} {s : Sem1} {g : FA} {ρ : En} (hj : h[j]? = some (finO n r run W)) : kMeth x "Finder" "firsts" np s g ρ (.obj j) h = (g ρ h).bind (kMeth2 x np s j) := by
  simp only [kMeth_ap, hj, finO]
  rfl
section
variable (x : Bool)
theorem count_eq {n : Int} {r : Pair} {run : List Scan} (hn : n ≤ 30) (hl : run.length ≤ 20) : ∀ (f : Nat) (p : Nat) (sheet d s : Int) (h : Hs) (j : Nat) (W : List (List L2.Key × T)), h[j]? = some (finO n r run W) → WOk n run W → p ≤ run.length → run.length < p + f → Box sheet d s →
    ∃ W', WOk n run W' ∧ S_Finder_count x f [.obj j, .dat (.int (p : Nat)), .dat (.int sheet), .dat (.int d), .dat (.int s)] h = .ok (.val (.dat (.int (cnt n (run.drop p) sheet d s)))) (h.set j (finO n r run W'))
  | 0, p, sheet, d, s, h, j, W, hj, wk, h1, h2, b => by omega
  | f + 1, p, sheet, d, s, h, j, W, hj, wk, h1, h2, b => by
    have hjl : j < h.length := (List.getElem?_eq_some_iff.mp hj).1
    have hself : h.set j (finO n r run W) = h := by
      apply List.ext_getElem?
      intro i
      by_cases e : i = j
      · subst e
        rw [List.getElem?_set_self hjl, hj]
      · rw [List.getElem?_set_ne (Ne.symm e)]
    simp [S_Finder_count, F_Finder_count, fld_taken hj]
    simp [lenT_run]
    by_cases c1 : p = run.length
    · simp [c1]
      refine ⟨W, wk, ?_⟩
      rw [hself]
      simp [cnt]
    have c1' : ¬ ((p : Int) = (run.length : Int)) := by omega
    obtain ⟨sc, hsc⟩ := get_of_lt (l := run) (k := p) (by omega)
    simp [c1']
    rw [ev_fDNin _ (keyS_4 rfl)]
    simp [kDNin_ap _ (dicAt_fin hj)]
    cases hv : valT W (key4 (p : Int) sheet d s) with
    | some u =>
      have hu := wk.get hv
      subst hu
      refine ⟨W, wk, ?_⟩
      rw [hself]
      simp
      rw [kDGet_ap _ (dicAt_fin hj) (keyS_4 rfl) hv]
      simp
    | none =>
      simp [meth_steps hj, steps_eq x hj hsc b.d0 b.d3 b.s0 b.s3]
      generalize hF : compL _ _ _ _ _ _ = F
      have hst : ∀ o ∈ stepsL n sc sheet d s, IsStep n sc sheet d s o := fun o ho => (mem_stepsL b.d0).mp ho
      obtain ⟨us, h', rfl, W2, wk2, rfl, hus⟩ := compL_ofI hF (fun k us h2 => ∃ W2, WOk n run W2 ∧ h2 = h.set j (finO n r run W2) ∧ us = ((stepsL n sc sheet d s).take k).map fun o => PyData.int (cnt n (run.drop (p + 1)) (o.l + 1) o.d o.s)) ⟨W, wk, hself.symm, rfl⟩ (by
        rintro k t us h2 e ⟨W2, wk2, rfl, rfl⟩
        obtain ⟨o, ho, rfl⟩ := map_get e
        have hs1 := hst o (List.mem_of_getElem? ho)
        have hj2 : (h.set j (finO n r run W2))[j]? = some (finO n r run W2) := List.getElem?_set_self hjl
        obtain ⟨W3, wk3, e3⟩ := count_eq hn hl f (p + 1) (o.l + 1) o.d o.s _ j W2 hj2 wk2 (by omega) (by omega) (b.step hn hs1)
        have ep : ((p + 1 : Nat) : Int) = (p : Int) + 1 := by omega
        rw [ep] at e3
        refine ⟨_, rfl, fun Q hq => ?_⟩
        simp [meth_count hj2, st4_1, st4_2, st4_3]
        rw [e3]
        simp
        refine wp_ok ⟨_, rfl, hq _ _ ⟨W3, wk3, by simp, ?_⟩⟩
        rw [take_one ho]
        simp)
      have hfull : us = (stepsL n sc sheet d s).map fun o => PyData.int (cnt n (run.drop (p + 1)) (o.l + 1) o.d o.s) := by
        rw [hus, List.length_map, List.take_length]
      have hdrop : run.drop p = sc :: run.drop (p + 1) := by
        obtain ⟨hlt, he⟩ := List.getElem?_eq_some_iff.mp hsc
        rw [List.drop_eq_getElem_cons hlt, he]
      have hsum : sumL [.list us] = some (.int (cnt n (run.drop p) sheet d s)) := by
        rw [hdrop]
        show (intsOf us).map _ = _
        rw [hfull, intsOf_map]
        rfl
      have hj2 : (h.set j (finO n r run W2))[j]? = some (finO n r run W2) := List.getElem?_set_self hjl
      simp [hsum]
      obtain ⟨q1, q2⟩ := wk2.putAny (p := p) (by omega) b
      rw [kDPutb_ap _ (dicAt_fin hj2) (keyS_4 rfl) hj2 (wk2.len hl)]
      refine ⟨_, q1, ?_⟩
      have hj3 : (h.set j (finO n r run (putT W2 (key4 (p : Int) sheet d s) (.int (cnt n (run.drop p) sheet d s)))))[j]? = some (finO n r run (putT W2 (key4 (p : Int) sheet d s) (.int (cnt n (run.drop p) sheet d s)))) := List.getElem?_set_self hjl
      have eo : (h.set j (finO n r run W2)).set j (O.ins "Finder" (putA "ways" (Fld.dic (putT W2 (key4 (p : Int) sheet d s) (.int (cnt n (run.drop p) sheet d s)))) [("sheets", Fld.dat (PyData.int n)), ("rule", Fld.dat (prT r)), ("taken", Fld.dat (runT run)), ("ways", Fld.dic W2)])) = h.set j (finO n r run (putT W2 (key4 (p : Int) sheet d s) (.int (cnt n (run.drop p) sheet d s)))) := by
        rw [List.set_set]
        rfl
      erw [eo]
      simp
      rw [kDGet_ap _ (dicAt_fin hj3) (keyS_4 rfl) q2]
      simp
      exact List.take_of_length_le (by simp)
/-! ### Finder.firsts, how_many -/
theorem len_stepsL {n : Int} {sc : Scan} {sheet d s : Int} (h : s ≤ 3) : (stepsL n sc sheet d s).length ≤ 8 := by
  have := len_flat (f := fun (g : Nat) => moreL n sc (sheet + (g : Int)) d (s - (g : Int))) (fun a => len_moreL) (s + 1).toNat
  unfold stepsL
  omega
theorem firsts_eq {n : Int} {r : Pair} {run : List Scan} {W : List (List L2.Key × T)} {j : Nat} {sc : Scan} {h : Hs} (hj : h[j]? = some (finO n r run W)) (hp : run[0]? = some sc) (hn0 : 0 ≤ n) (hn : n ≤ 30) (hd0 : 0 ≤ r.1) (hd3 : r.1 ≤ 3) :
    S_Finder_firsts x [.obj j] h = .ok (.own ((firstsL n r sc).map st4T)) h := by
  simp [S_Finder_firsts, F_Finder_firsts, fld_sheets hj]
  simp [rngOk_of (i := 0) (j := n) (by omega) (by omega) (by omega) (by omega)]
  generalize hF : forL _ _ _ _ _ = F
  obtain ⟨ρ', h', rfl, rfl, acc, hacc, a, b, rfl⟩ := forL_of hF (fun k ρ h' => h' = h ∧ ∃ acc, acc = (List.range k).flatMap (fun (sh : Nat) => (stepsL n sc (sh : Int) r.1 0).map fun o => (⟨o.f, o.l, o.d, r.2⟩ : St4)) ∧ ∃ a b, ρ = [.val (.obj j), .own (acc.map st4T), a, b]) ⟨rfl, [], rfl, _, _, rfl⟩ (by
      rintro k t ρ h' e ⟨rfl, acc, hacc, a, b, rfl⟩ Q hn2
      obtain ⟨hk, rfl⟩ := rng_get e
      have l1 := len_flat (f := fun (sh : Nat) => (stepsL n sc (sh : Int) r.1 0).map fun o => (⟨o.f, o.l, o.d, r.2⟩ : St4)) (b := 8) (fun a => by rw [List.length_map]; exact len_stepsL (by decide)) k
      rw [← hacc] at l1
      have hst := steps_eq (n := n) (r := r) (run := run) (p := 0) (sheet := (k : Int)) (d := r.1) (s := 0) x hj hp hd0 hd3 (by decide) (by decide)
      have z0 : ((0 : Nat) : Int) = 0 := rfl
      rw [z0] at hst
      simp [Turn1, meth_steps hj, fld_rule hj, prT_0, hst]
      have l0 := len_stepsL (n := n) (sc := sc) (sheet := (k : Int)) (d := r.1) (s := 0) (by decide)
      generalize hF : forL _ _ _ _ _ = F
      obtain ⟨ρ', h', rfl, rfl, acc2, hacc2, b, rfl⟩ := forL_of hF (fun m ρ h2 => h2 = h' ∧ ∃ acc2, acc2 = ((stepsL n sc (k : Int) r.1 0).take m).map (fun o => (⟨o.f, o.l, o.d, r.2⟩ : St4)) ∧ ∃ b, ρ = [.val (.obj j), .own ((acc ++ acc2).map st4T), vi (k : Nat), b]) ⟨rfl, [], rfl, b, by simp⟩ (by
        rintro m t ρ h2 e2 ⟨rfl, acc2, hacc2, b, rfl⟩ Q hn
        obtain ⟨o, ho, rfl⟩ := map_get e2
        have hm := (List.getElem?_eq_some_iff.mp ho).1
        have l2 : acc2.length ≤ 8 := by
          rw [hacc2, List.length_map, List.length_take]
          omega
        have l3 : acc.length + acc2.length < 100000 := by omega
        simp [Turn1, fld_rule hj, prT_0, prT_1, l3, st4_0, st4_1, st4_2]
        refine wp_ok (hn _ _ ⟨rfl, acc2 ++ [⟨o.f, o.l, o.d, r.2⟩], ?_, vd (st4T o), ?_⟩)
        · rw [hacc2, take_one ho]
          simp
        · simp [st4T])
      simp
      refine wp_ok (hn2 _ _ ⟨rfl, acc ++ acc2, ?_, vi (k : Nat), b, by simp⟩)
      rw [hacc, hacc2, List.length_map, List.take_length]
      simp [List.range_succ])
  simp
  rw [hacc, rngT_len]
  rfl
end
end Pl
set_option Elab.async false
set_option linter.all false
set_option maxRecDepth 100000
set_option maxHeartbeats 2000000
namespace Pl
open PySem Pf Sm
/-! ### how_many -/
theorem allR_len {n : Int} {r : Pair} {sc : Scan} {rest : List Scan} : ((allR n r (sc :: rest)).length : Int) = ((firstsL n r sc).map fun o => cnt n rest (o.l + 1) o.d o.s).sum := by
  unfold allR
  rw [sum_len]
  congr 1
  refine List.map_congr_left fun o _ => ?_
  rw [cnt_len, List.length_map]
theorem last_get {h : Hs} {o : O} : (h ++ [o])[h.length]? = some o := by simp
theorem last_set {h : Hs} {o o' : O} : (h ++ [o]).set h.length o' = h ++ [o'] := by simp
section
variable (x : Bool)
theorem how_many_eq {n : Int} {r : Pair} {run : List Scan} {h : Hs} (k : Okay n r run) : S_how_many x [.dat (.int n), .dat (prT r), .dat (runT run)] h = .ok (.val (.dat (.int ((allR n r run).length : Nat)))) h := by
  have hj : (h ++ [finO n r run []])[h.length]? = some (finO n r run []) := last_get
  simp [S_how_many, F_how_many, need_all_eq x h k, fld_taken hj]
  simp [lenT_run]
  cases run with
  | nil => simp [allR]
  | cons sc rest =>
    simp
    simp [meth_firsts hj, firsts_eq x hj rfl (by have := k.n1; omega) k.n2 k.d0 k.d3]
    generalize hF : compL _ _ _ _ _ _ = F
    obtain ⟨us, h', rfl, W2, wk2, rfl, hus⟩ := compL_ofI hF (fun i us h2 => ∃ W2, WOk n (sc :: rest) W2 ∧ h2 = h ++ [finO n r (sc :: rest) W2] ∧ us = ((firstsL n r sc).take i).map fun o => PyData.int (cnt n rest (o.l + 1) o.d o.s)) ⟨[], WOk.nil, rfl, rfl⟩ (by
        rintro i t us h2 e ⟨W2, wk2, rfl, rfl⟩
        obtain ⟨o, ho, rfl⟩ := map_get e
        have hs1 := (mem_firstsL k.d0).mp (List.mem_of_getElem? ho)
        have hj2 : (h ++ [finO n r (sc :: rest) W2])[h.length]? = some (finO n r (sc :: rest) W2) := last_get
        obtain ⟨W3, wk3, e3⟩ := count_eq x k.n2 k.len 30 1 (o.l + 1) o.d o.s _ h.length W2 hj2 wk2 (by simp) (by have := k.len; omega) (Box.first k.n2 k.d3 k.s0 k.s3 hs1)
        rw [last_set] at e3
        have ep : ((1 : Nat) : Int) = 1 := rfl
        rw [ep] at e3
        refine ⟨_, rfl, fun Q hq => ?_⟩
        simp [meth_count hj2, st4_1, st4_2, st4_3]
        rw [e3]
        simp
        refine wp_ok ⟨_, rfl, hq _ _ ⟨W3, wk3, rfl, ?_⟩⟩
        rw [take_one ho]
        simp)
    have hfull : us = (firstsL n r sc).map fun o => PyData.int (cnt n rest (o.l + 1) o.d o.s) := by
      rw [hus, List.length_map, List.take_length]
    have hsum : sumL [.list us] = some (.int ((allR n r (sc :: rest)).length : Nat)) := by
      rw [allR_len]
      show (intsOf us).map _ = _
      rw [hfull, intsOf_map]
      rfl
    simp [hsum]
end
end Pl
set_option Elab.async false
set_option linter.all false
set_option maxRecDepth 100000
set_option maxHeartbeats 2000000
namespace Pl
open PySem Pf
/-! ### the ways that go through a place -/
def ReachP (n : Int) (r : Pair) (run : List Scan) : Nat → St4 → List Pair → Prop
  | 0, o, pre => pre = [] ∧ ∃ sc, run[0]? = some sc ∧ IsFirst n r sc o
  | k + 1, o, pre => ∃ o0 pre0 sc, ReachP n r run k o0 pre0 ∧ pre = pre0 ++ [o0.pr] ∧ run[k + 1]? = some sc ∧ IsStep n sc (o0.l + 1) o0.d o0.s o
theorem ReachP.len {n : Int} {r : Pair} {run : List Scan} : ∀ {k : Nat} {o : St4} {pre : List Pair}, ReachP n r run k o pre → pre.length = k
  | 0, _, _, h => by rw [h.1]; rfl
  | k + 1, _, _, h => by
    obtain ⟨o0, pre0, sc, h1, rfl, _⟩ := h
    simp [ReachP.len h1]
theorem drop_cons {α : Type} {l : List α} {k : Nat} {a : α} (h : l[k]? = some a) : l.drop k = a :: l.drop (k + 1) := by
  obtain ⟨hlt, he⟩ := List.getElem?_eq_some_iff.mp h
  rw [List.drop_eq_getElem_cons hlt, he]
structure Good4 (n : Int) (o : St4) : Prop where
  f0 : 0 ≤ o.f
  le : o.f ≤ o.l
  ge : o.l ≤ o.f + 1
  top : o.l < n
  box : Box (o.l + 1) o.d o.s
theorem ReachP.good {n : Int} {r : Pair} {run : List Scan} (k : Okay n r run) : ∀ {i : Nat} {o : St4} {pre : List Pair}, ReachP n r run i o pre → Good4 n o
  | 0, o, pre, h => by
    obtain ⟨_, sc, _, h⟩ := h
    exact ⟨h.f0, h.le, h.ge, h.top, Box.first k.n2 k.d3 k.s0 k.s3 h⟩
  | i + 1, o, pre, h => by
    obtain ⟨o0, pre0, sc, h1, _, _, h2⟩ := h
    have g := ReachP.good k h1
    have := g.box.a0
    have := h2.low
    exact ⟨by omega, h2.le, h2.ge, h2.top, g.box.step k.n2 h2⟩
theorem decomp {n : Int} {r : Pair} {run : List Scan} (hd : 0 ≤ r.1) : ∀ {k : Nat}, k < run.length → ∀ {rd : List Pair}, (rd ∈ allR n r run ↔ ∃ o pre suf, ReachP n r run k o pre ∧ 0 ≤ o.d ∧ suf ∈ pathsP n (run.drop (k + 1)) (o.l + 1) o.d o.s ∧ rd = pre ++ o.pr :: suf)
  | 0, hk, rd => by
    cases run with
    | nil => simp at hk
    | cons sc rest =>
      unfold allR
      simp only [List.mem_flatMap, List.mem_map, mem_firstsL hd]
      constructor
      · rintro ⟨o, ho, ps, hps, rfl⟩
        exact ⟨o, [], ps, ⟨rfl, sc, rfl, ho⟩, ho.d0, by simpa using hps, rfl⟩
      · rintro ⟨o, pre, suf, ⟨rfl, sc', e, ho⟩, _, hs, rfl⟩
        simp at e
        subst e
        exact ⟨o, ho, suf, by simpa using hs, rfl⟩
  | k + 1, hk, rd => by
    rw [decomp hd (k := k) (by omega)]
    obtain ⟨sc, hsc⟩ := get_of_lt (l := run) (k := k + 1) hk
    rw [drop_cons hsc]
    constructor
    · rintro ⟨o, pre, suf, h1, h0, h2, rfl⟩
      unfold pathsP at h2
      simp only [List.mem_flatMap, List.mem_map, mem_stepsL h0] at h2
      obtain ⟨o', ho', ps, hps, rfl⟩ := h2
      exact ⟨o', pre ++ [o.pr], ps, ⟨o, pre, sc, h1, rfl, hsc, ho'⟩, ho'.d0, hps, by simp⟩
    · rintro ⟨o', pre', suf, ⟨o, pre, sc', h1, rfl, hsc', ho'⟩, h0, h2, rfl⟩
      rw [hsc] at hsc'
      cases hsc'
      have hod : 0 ≤ o.d := by
        have := ho'.dd
        have := ho'.le
        have := ho'.d0
        omega
      refine ⟨o, pre, o'.pr :: suf, h1, hod, ?_, by simp⟩
      unfold pathsP
      simp only [List.mem_flatMap, List.mem_map, mem_stepsL hod]
      exact ⟨o', ho', suf, h2, rfl⟩
/-- at the k-th place, with a way on -/
def View (n : Int) (r : Pair) (run : List Scan) (k : Nat) (o : St4) : Prop := (∃ pre, ReachP n r run k o pre) ∧ pathsP n (run.drop (k + 1)) (o.l + 1) o.d o.s ≠ []
theorem view_iff {n : Int} {r : Pair} {run : List Scan} (ok : Okay n r run) {k : Nat} (hk : k < run.length) {p : Pair} : (∃ o, View n r run k o ∧ o.pr = p) ↔ ∃ rd ∈ allR n r run, rd[k]? = some p := by
  constructor
  · rintro ⟨o, ⟨⟨pre, h1⟩, h2⟩, rfl⟩
    obtain ⟨suf, hs⟩ := List.exists_mem_of_ne_nil _ h2
    refine ⟨_, (decomp ok.d0 hk).mpr ⟨o, pre, suf, h1, (h1.good ok).box.d0, hs, rfl⟩, ?_⟩
    have := h1.len
    subst this
    simp
  · rintro ⟨rd, h, e⟩
    obtain ⟨o, pre, suf, h1, h0, h2, rfl⟩ := (decomp ok.d0 hk).mp h
    have := h1.len
    subst this
    simp at e
    exact ⟨o, ⟨⟨pre, h1⟩, List.ne_nil_of_mem h2⟩, e⟩
theorem view_next {n : Int} {r : Pair} {run : List Scan} {k : Nat} {o' : St4} (ok : Okay n r run) (hk : k + 1 < run.length) (h : View n r run (k + 1) o') : ∃ o sc, View n r run k o ∧ run[k + 1]? = some sc ∧ IsStep n sc (o.l + 1) o.d o.s o' := by
  obtain ⟨⟨pre', o, pre, sc, h1, rfl, hsc, ho'⟩, h2⟩ := h
  refine ⟨o, sc, ⟨⟨pre, h1⟩, ?_⟩, hsc, ho'⟩
  obtain ⟨suf, hs⟩ := List.exists_mem_of_ne_nil _ h2
  rw [drop_cons hsc]
  refine List.ne_nil_of_mem (a := o'.pr :: suf) ?_
  unfold pathsP
  simp only [List.mem_flatMap, List.mem_map, mem_stepsL (h1.good ok).box.d0]
  exact ⟨o', ho', suf, hs, rfl⟩
theorem view_some {n : Int} {r : Pair} {run : List Scan} (ok : Okay n r run) {k : Nat} (hk : k < run.length) : (∃ o, View n r run k o) ↔ allR n r run ≠ [] := by
  constructor
  · rintro ⟨o, h⟩
    obtain ⟨rd, h1, _⟩ := (view_iff ok hk).mp ⟨o, h, rfl⟩
    exact List.ne_nil_of_mem h1
  · intro h
    obtain ⟨rd, hr⟩ := List.exists_mem_of_ne_nil _ h
    obtain ⟨o, pre, suf, h1, _, h2, _⟩ := (decomp ok.d0 hk).mp hr
    exact ⟨o, ⟨pre, h1⟩, List.ne_nil_of_mem h2⟩
theorem cnt_pos {n : Int} {run : List Scan} {sheet d s : Int} : 0 < cnt n run sheet d s ↔ pathsP n run sheet d s ≠ [] := by
  rw [cnt_len]
  cases pathsP n run sheet d s <;> simp
/-- few, by a code -/
theorem len_good4 {n : Int} {l : List St4} (hn : n ≤ 30) (nd : l.Nodup) (h : ∀ o ∈ l, Good4 n o) : l.length ≤ 1000 := by
  have h1 : (l.map fun o : St4 => o.f.toNat * 32 + (o.l - o.f).toNat * 16 + o.d.toNat * 4 + o.s.toNat).Nodup := nodup_mapI nd fun a ha b hb e => by
    obtain ⟨a1, a2, a3, a4, ⟨_, _, a5, a6, a7, a8⟩⟩ := h a ha
    obtain ⟨b1, b2, b3, b4, ⟨_, _, b5, b6, b7, b8⟩⟩ := h b hb
    obtain ⟨f, l, d, s⟩ := a
    obtain ⟨f', l', d', s'⟩ := b
    simp only at *
    simp only [St4.mk.injEq]
    omega
  have := nodup_len (m := List.range 1000) h1 fun z hz => by
    obtain ⟨a, ha, rfl⟩ := List.mem_map.mp hz
    obtain ⟨a1, a2, a3, a4, ⟨_, _, a5, a6, a7, a8⟩⟩ := h a ha
    rw [List.mem_range]
    omega
  rwa [List.length_map, List.length_range] at this
end Pl
set_option Elab.async false
set_option linter.all false
set_option maxRecDepth 100000
set_option maxHeartbeats 2000000
namespace Pl
open PySem Pf Sm
def l4 (o : St4) : List Int := [o.f, o.l, o.d, o.s]
def b4 : List Int → St4
  | [a, b, c, d] => ⟨a, b, c, d⟩
  | _ => ⟨0, 0, 0, 0⟩
theorem b4_l4 (o : St4) : b4 (l4 o) = o := rfl
def k4 (o : St4) : List L2.Key := key4 o.f o.l o.d o.s
theorem k4_inj {o o' : St4} (h : k4 o = k4 o') : o = o' := by
  obtain ⟨e1, e2, e3, e4⟩ := key4_inj h
  obtain ⟨f, l, d, s⟩ := o
  obtain ⟨f', l', d', s'⟩ := o'
  simp only at e1 e2 e3 e4
  rw [e1, e2, e3, e4]
def laterD (M : List St4) : List (List L2.Key × T) := M.map fun o => (k4 o, .bool true)
theorem later_put {M : List St4} {o : St4} : putT (laterD M) (k4 o) (.bool true) = laterD (if o ∈ M then M else M ++ [o]) := by
  unfold putT
  by_cases h : o ∈ M
  · have hm : (k4 o, PyData.bool true) ∈ laterD M := List.mem_map.mpr ⟨o, h, rfl⟩
    rw [if_pos h, if_pos (List.any_eq_true.mpr ⟨_, hm, by simp⟩)]
    unfold laterD
    rw [List.map_map]
    refine List.map_congr_left fun a _ => ?_
    simp
  · rw [if_neg h, if_neg]
    · unfold laterD
      rw [List.map_append]
      rfl
    · intro z
      obtain ⟨e, he, h2⟩ := List.any_eq_true.mp z
      obtain ⟨a, ha, rfl⟩ := List.mem_map.mp he
      exact h (k4_inj (of_decide_eq_true h2) ▸ ha)
theorem keysI_later : ∀ M : List St4, keysI (laterD M) = some (M.map l4)
  | [] => rfl
  | o :: M => by
    have ih := keysI_later M
    show (match intK (k4 o), keysI (laterD M) with | some ns, some l => some (ns :: l) | _, _ => none) = _
    rw [ih]
    rfl
theorem sort_later {M : List St4} : ∃ M' : List St4, M'.Perm M ∧ (((M.map l4).mergeSort (PySem.W.dataLe false tupI)).map tupI) = M'.map st4T := by
  refine ⟨((M.map l4).mergeSort (PySem.W.dataLe false tupI)).map b4, ?_, ?_⟩
  · have h := (List.mergeSort_perm (M.map l4) (PySem.W.dataLe false tupI)).map b4
    rw [List.map_map] at h
    have e : M.map (b4 ∘ l4) = M := by
      have : (b4 ∘ l4) = id := funext b4_l4
      rw [this, List.map_id]
    rwa [e] at h
  · rw [List.map_map]
    refine List.map_congr_left fun l hl => ?_
    have := (List.mergeSort_perm (M.map l4) (PySem.W.dataLe false tupI)).mem_iff.mp hl
    obtain ⟨o, _, rfl⟩ := List.mem_map.mp this
    rfl
theorem sortOk_ints {l : List (List Int)} (h : ∀ k ∈ l, k ≠ []) : sortOk (l.map tupI) = true := by
  unfold sortOk
  rw [Bool.and_eq_true, Bool.and_eq_true, Bool.or_eq_true]
  refine ⟨?_, .inl ?_, ?_⟩
  · unfold alikes
    rw [List.all_eq_true]
    intro a ha
    rw [List.all_eq_true]
    intro b hb
    obtain ⟨u, _, rfl⟩ := List.mem_map.mp ha
    obtain ⟨v, _, rfl⟩ := List.mem_map.mp hb
    exact PySem.W.alike_ints u v
  · rw [List.all_eq_true]
    intro a ha
    obtain ⟨u, hu, rfl⟩ := List.mem_map.mp ha
    cases u with
    | nil => exact absurd rfl (h _ hu)
    | cons x u => rfl
  · unfold flat60
    rw [List.all_eq_true]
    intro a ha
    obtain ⟨u, hu, rfl⟩ := List.mem_map.mp ha
    refine decide_eq_true ?_
    show (PyData.tuple (u.map PyData.int)).depth ≤ 60
    rw [PyData.depth, PySem.W.depth_ints]
    decide
/-- a comprehension whose test changes what is kept -/
theorem compL_ofF {gt : Tgt} {fc : FB} {fe : FE} {ρ : En} {ts : List T} {h : Hs} {F : Res (List T)} (hF : compL gt ρ fc fe ts h = F) (I : Nat → List T → Hs → Prop) (h0 : I 0 [] h) (hs : ∀ k t us h, ts[k]? = some t → I k us h → ∃ ρ1, gt t ρ = some ρ1 ∧ ∃ b h1, fc ρ1 h = .ok b h1 ∧ (b = false → I (k + 1) us h1) ∧ (b = true → ∃ u h2, fe ρ1 h1 = .ok (.dat u) h2 ∧ I (k + 1) (us ++ [u]) h2)) : ∃ us h', F = .ok us h' ∧ I ts.length us h' := by
  rw [← hF]
  refine compL_inv I h0 fun k t us h e i => ?_
  obtain ⟨ρ1, e1, b, h1, e2, q1, q2⟩ := hs k t us h e i
  refine ⟨ρ1, b, h1, e1, e2, ?_⟩
  cases b with
  | false => exact q1 rfl
  | true => exact q2 rfl
section
variable (x : Bool)
theorem all_ways_eq {n : Int} {r : Pair} {run : List Scan} {h : Hs} {j : Nat} (hj : h[j]? = some (finO n r run [])) (ok : Okay n r run) (hne : run ≠ []) : ∃ W rows, WOk n run W ∧
    S_all_ways x [.obj j] h = .ok (.own (rows.map fun g => .list (g.map st4T))) (h.set j (finO n r run W)) ∧ (allR n r run = [] → rows = []) ∧ (allR n r run ≠ [] → rows.length = run.length ∧ ∀ (k : Nat) g, rows[k]? = some g → g.Nodup ∧ g ≠ [] ∧ ∀ o, o ∈ g ↔ View n r run k o) := by
  have hjl : j < h.length := (List.getElem?_eq_some_iff.mp hj).1
  obtain ⟨sc0, hsc0⟩ := get_of_lt (l := run) (k := 0) (by cases run with | nil => exact absurd rfl hne | cons a b => simp)
  have hlen := ok.len
  have hself : h.set j (finO n r run []) = h := by
    apply List.ext_getElem?
    intro i
    by_cases e : i = j
    · subst e
      rw [List.getElem?_set_self hjl, hj]
    · rw [List.getElem?_set_ne (Ne.symm e)]
  have hne2 : neT (runT run) (.list []) = some true := by
    unfold runT
    rw [neT_nil]
    cases run with
    | nil => exact absurd rfl hne
    | cons a b => rfl
  generalize hG : S_all_ways x [.obj j] h = G
  simp [S_all_ways, F_all_ways, fld_taken hj, hne2, meth_firsts hj, firsts_eq x hj hsc0 (by have := ok.n1; omega) ok.n2 ok.d0 ok.d3] at hG
  simp [lenT_run, rngOk_of (i := 0) (j := (run.length : Int)) (by omega) (by omega) (by omega) (by omega)] at hG
  generalize hF : forL _ _ _ _ _ = F at hG
  have key := forL_ofR hF (fun k ρ h' => (∃ W, WOk n run W ∧ h' = h.set j (finO n r run W)) ∧ ∃ (rows : List (List St4)) (L : List St4), rows.length = k ∧ (∀ (i : Nat) g, rows[i]? = some g → g.Nodup ∧ g ≠ [] ∧ ∀ o, o ∈ g ↔ View n r run i o) ∧ L.Nodup ∧ (k < run.length → (∀ o ∈ L, ∃ pre, ReachP n r run k o pre) ∧ ∀ o, View n r run k o → o ∈ L) ∧
      ∃ a b c d e, plS b = true ∧ plS d = true ∧ plS e = true ∧ ρ = [.val (.obj j), .own (rows.map fun g => .list (g.map st4T)), .own (L.map st4T), a, b, c, d, e])
    (fun q h' => (∃ W, WOk n run W ∧ h' = h.set j (finO n r run W)) ∧ q = .own [] ∧ allR n r run = [])
    ⟨⟨[], WOk.nil, hself.symm⟩, [], firstsL n r sc0, rfl, fun i g e => by simp at e, nodup_firstsL ok.d0, fun _ => ⟨fun o ho => ⟨[], rfl, sc0, hsc0, (mem_firstsL ok.d0).mp ho⟩, fun o ho => by
      obtain ⟨⟨pre, _, sc, e, hf⟩, _⟩ := ho
      rw [hsc0] at e
      cases e
      exact (mem_firstsL ok.d0).mpr hf⟩, _, _, _, _, _, rfl, rfl, rfl, rfl⟩ (by
      rintro k t ρ h' e ⟨⟨W, wk, rfl⟩, rows, L, hr1, hr2, hL, hL2, a, b, c, d, e', pb, pd, pe, rfl⟩ Q hn hr
      obtain ⟨hk, rfl⟩ := rng_get e
      have hj2 : (h.set j (finO n r run W))[j]? = some (finO n r run W) := List.getElem?_set_self hjl
      simp [Turn1, pb, pd, pe]
      have ep : ((k + 1 : Nat) : Int) = (k : Int) + 1 := by omega
      have hkl : k < run.length := by simpa using hk
      obtain ⟨hR, hC⟩ := hL2 hkl
      generalize hF2 : compL _ _ _ _ _ _ = F2
      obtain ⟨us, h2, rfl, W2, wk2, rfl, hus⟩ := compL_ofF hF2 (fun i us h2 => ∃ W2, WOk n run W2 ∧ h2 = h.set j (finO n r run W2) ∧ us = (((L.take i).filter fun o => decide (0 < cnt n (run.drop (k + 1)) (o.l + 1) o.d o.s)).map st4T)) ⟨W, wk, rfl, rfl⟩ (by
        rintro i t us h2 e2 ⟨W2, wk2, rfl, rfl⟩
        obtain ⟨o, ho, rfl⟩ := map_get e2
        obtain ⟨pre, hp⟩ := hR o (List.mem_of_getElem? ho)
        have hj3 : (h.set j (finO n r run W2))[j]? = some (finO n r run W2) := List.getElem?_set_self hjl
        obtain ⟨W3, wk3, e3⟩ := count_eq x ok.n2 ok.len 30 (k + 1) (o.l + 1) o.d o.s _ j W2 hj3 wk2 (by omega) (by omega) (hp.good ok).box
        rw [ep] at e3
        refine ⟨_, rfl, decide (0 < cnt n (run.drop (k + 1)) (o.l + 1) o.d o.s), h.set j (finO n r run W3), ?_, fun hb => ⟨W3, wk3, rfl, ?_⟩, fun hb => ⟨st4T o, h.set j (finO n r run W3), ?_, W3, wk3, rfl, ?_⟩⟩
        · simp [meth_count hj3, st4_1, st4_2, st4_3]
          rw [e3]
          simp
        · rw [take_one ho, List.filter_append]
          simp [hb]
        · simp
        · rw [take_one ho, List.filter_append]
          simp [hb])
      have hg : us = (L.filter fun o => decide (0 < cnt n (run.drop (k + 1)) (o.l + 1) o.d o.s)).map st4T := by
        rw [hus, List.length_map, List.take_length]
      clear hus hF2
      generalize hgd : (L.filter fun o => decide (0 < cnt n (run.drop (k + 1)) (o.l + 1) o.d o.s)) = g at hg
      have hgv : ∀ o, o ∈ g ↔ View n r run k o := fun o => by
        rw [← hgd, List.mem_filter, decide_eq_true_eq, cnt_pos]
        constructor
        · rintro ⟨h1, h2⟩
          exact ⟨hR o h1, h2⟩
        · exact fun hv => ⟨hC o hv, hv.2⟩
      have hgn : g.Nodup := by
        rw [← hgd]
        exact List.Nodup.sublist List.filter_sublist hL
      subst hg
      have hj3 : (h.set j (finO n r run W2))[j]? = some (finO n r run W2) := List.getElem?_set_self hjl
      simp [pb]
      cases g with
      | nil =>
        simp
        refine wp_ok (hr _ _ ⟨⟨W2, wk2, rfl⟩, rfl, ?_⟩)
        refine Classical.byContradiction fun hno => ?_
        obtain ⟨o, ho⟩ := (view_some ok hkl).mpr hno
        exact absurd ((hgv o).mpr ho) (by simp)
      | cons g0 gs =>
      have hgl := len_good4 ok.n2 hgn fun o ho => by
        obtain ⟨⟨pre, hp⟩, _⟩ := (hgv o).mp ho
        exact hp.good ok
      generalize hgg : g0 :: gs = g at *
      have hgne : g ≠ [] := by rw [← hgg]; simp
      have hge : (g.map st4T).isEmpty = false := by rw [← hgg]; rfl
      have hge2 : g.isEmpty = false := by rw [← hgg]; rfl
      have hrl : rows.length < 100000 := by omega
      simp [hge2, hrl]
      generalize hF3 : forL _ _ _ _ _ = F3
      obtain ⟨ρ3, h3, rfl, rfl, M, hM1, hM2, hM3, a3, b3, pa3, pb3, rfl⟩ := forL_of hF3 (fun m ρ h3 => h3 = h.set j (finO n r run W2) ∧ ∃ M : List St4, M.Nodup ∧ (∀ o' ∈ M, ∃ o ∈ g, ∃ sc, run[k + 1]? = some sc ∧ IsStep n sc (o.l + 1) o.d o.s o') ∧ (∀ (i : Nat), i < m → ∀ o, g[i]? = some o → ∀ sc, run[k + 1]? = some sc → ∀ o', IsStep n sc (o.l + 1) o.d o.s o' → o' ∈ M) ∧
          ∃ a b, plS a = true ∧ plS b = true ∧ ρ = [.val (.obj j), .own (rows.map (fun g => .list (g.map st4T)) ++ [.list (g.map st4T)]), vd (.list (L.map st4T)), vi (k : Nat), vd (.list (g.map st4T)), .dic (laterD M), a, b]) ⟨rfl, [], List.nodup_nil, fun o ho => (by cases ho), fun i hi => by omega, _, _, pd, pe, rfl⟩ (by
        rintro m t ρ h3 e3 ⟨rfl, M, hM1, hM2, hM3, a3, b3, pa3, pb3, rfl⟩ Q hn3
        obtain ⟨o, ho, rfl⟩ := map_get e3
        have hom := List.mem_of_getElem? ho
        obtain ⟨⟨pre, hp⟩, _⟩ := (hgv o).mp hom
        have hgo := hp.good ok
        simp [Turn1, fld_taken hj3, lenT_run]
        by_cases c1 : (k : Int) + 1 < (run.length : Int)
        · obtain ⟨sc, hsc⟩ := get_of_lt (l := run) (k := k + 1) (by omega)
          have hst := steps_eq (n := n) (r := r) (run := run) (p := k + 1) (sheet := o.l + 1) (d := o.d) (s := o.s) x hj3 hsc hgo.box.d0 hgo.box.d3 hgo.box.s0 hgo.box.s3
          rw [ep] at hst
          simp [c1, meth_steps hj3, st4_1, st4_2, st4_3, hst]
          have hgood : ∀ o' ∈ M, Good4 n o' := fun o' h' => by
            obtain ⟨o1, h1, sc1, h2, h3⟩ := hM2 o' h'
            obtain ⟨⟨pre1, hp1⟩, _⟩ := (hgv o1).mp h1
            exact ReachP.good (i := k + 1) ok ⟨o1, pre1, sc1, hp1, rfl, h2, h3⟩
          generalize hF4 : forL _ _ _ _ _ = F4
          obtain ⟨ρ4, h4, rfl, rfl, M4, hN1, hN2, hN3, b4, pb4, rfl⟩ := forL_of hF4 (fun i ρ h4 => h4 = h.set j (finO n r run W2) ∧ ∃ M4 : List St4, M4.Nodup ∧ (∀ o' ∈ M4, o' ∈ M ∨ IsStep n sc (o.l + 1) o.d o.s o') ∧ ((∀ o' ∈ M, o' ∈ M4) ∧ ∀ o' ∈ (stepsL n sc (o.l + 1) o.d o.s).take i, o' ∈ M4) ∧
              ∃ b, plS b = true ∧ ρ = [.val (.obj j), .own (rows.map (fun g => .list (g.map st4T)) ++ [.list (g.map st4T)]), vd (.list (L.map st4T)), vi (k : Nat), vd (.list (g.map st4T)), .dic (laterD M4), vd (st4T o), b]) ⟨rfl, M, hM1, fun o' h' => .inl h', ⟨fun o' h' => h', fun o' h' => by simp at h'⟩, b3, pb3, rfl⟩ (by
            rintro i t ρ h4 e4 ⟨rfl, M4, hN1, hN2, ⟨hN3, hN4⟩, b4, pb4, rfl⟩ Q hn4
            obtain ⟨o', ho', rfl⟩ := map_get e4
            have hst' := (mem_stepsL hgo.box.d0).mp (List.mem_of_getElem? ho')
            have hlM : M4.length ≤ 1000 := len_good4 ok.n2 hN1 fun o2 h2 => by
              rcases hN2 o2 h2 with z | z
              · exact hgood o2 z
              · exact ReachP.good (i := k + 1) ok ⟨o, pre, sc, hp, rfl, hsc, z⟩
            simp [Turn1]
            rw [kDPutS_ap (i := 5) (j := 7) (kvs := laterD M4) (q := k4 o') _ rfl (keyS_4 rfl) (by unfold laterD; rw [List.length_map]; omega), later_put]
            refine wp_ok (hn4 _ _ ⟨rfl, _, ?_, ?_, ⟨?_, ?_⟩, vd (st4T o'), rfl, by simp; rfl⟩)
            · split
              · exact hN1
              · rename_i hno
                rw [List.nodup_append]
                exact ⟨hN1, by simp, fun a ha b hb => by rw [List.mem_singleton.mp hb]; exact fun e => hno (e ▸ ha)⟩
            · intro o2 h2
              split at h2
              · exact hN2 o2 h2
              · rcases List.mem_append.mp h2 with z | z
                · exact hN2 o2 z
                · rw [List.mem_singleton.mp z]; exact .inr hst'
            · intro o2 h2
              split
              · exact hN3 o2 h2
              · exact List.mem_append_left _ (hN3 o2 h2)
            · intro o2 h2
              rw [take_one ho'] at h2
              split
              · rename_i hin
                rcases List.mem_append.mp h2 with z | z
                · exact hN4 o2 z
                · rw [List.mem_singleton.mp z]; exact hin
              · rcases List.mem_append.mp h2 with z | z
                · exact List.mem_append_left _ (hN4 o2 z)
                · exact List.mem_append_right _ z)
          refine wp_ok (hn3 _ _ ⟨rfl, M4, hN1, fun o' h' => ?_, fun i hi o1 h1 sc1 h2 o' h3 => ?_, _, _, rfl, pb4, rfl⟩)
          · rcases hN2 o' h' with z | z
            · exact hM2 o' z
            · exact ⟨o, hom, sc, hsc, z⟩
          · by_cases him : i = m
            · subst him
              rw [ho] at h1
              cases h1
              rw [hsc] at h2
              cases h2
              refine hN3.2 o' ?_
              rw [List.length_map, List.take_length]
              exact (mem_stepsL hgo.box.d0).mpr h3
            · exact hN3.1 o' (hM3 i (by omega) o1 h1 sc1 h2 o' h3)
        · simp [c1]
          refine wp_ok (hn3 _ _ ⟨rfl, M, hM1, hM2, fun i hi o1 h1 sc1 h2 o' h3 => ?_, vd (st4T o), b3, rfl, pb3, rfl⟩)
          have := (List.getElem?_eq_some_iff.mp h2).1
          omega)
      obtain ⟨M', hp', eM'⟩ := sort_later (M := M)
      simp
      rw [fSortDic_ap (i := 5) (kvs := laterD M) (l := M.map l4) _ rfl (keysI_later M) (sortOk_ints fun k hk => by
        obtain ⟨o, _, rfl⟩ := List.mem_map.mp hk
        simp [l4]), eM']
      simp
      refine wp_ok (hn _ _ ⟨⟨W2, wk2, rfl⟩, rows ++ [g], M', by simp [hr1], ?_, hp'.nodup_iff.mpr hM1, fun hk2 => ⟨fun o' h' => ?_, fun o' h' => ?_⟩, vi (k : Nat), vd (.list (g.map st4T)), .dic (laterD M), a3, b3, rfl, pa3, pb3, by simp⟩)
      · intro i g' e'
        rw [List.getElem?_append] at e'
        split at e'
        · exact hr2 i g' e'
        · rename_i hi
          have e0 : i = k := by
            have := (List.getElem?_eq_some_iff.mp e').1
            simp at this
            omega
          subst e0
          simp [hr1] at e'
          subst e'
          exact ⟨hgn, hgne, hgv⟩
      · obtain ⟨o, h1, sc, h2, h3⟩ := hM2 o' (hp'.mem_iff.mp h')
        obtain ⟨⟨pre1, hp1⟩, _⟩ := (hgv o).mp h1
        exact ⟨_, o, pre1, sc, hp1, rfl, h2, h3⟩
      · obtain ⟨o, sc, h1, h2, h3⟩ := view_next ok hk2 h'
        obtain ⟨i, hi⟩ := List.getElem?_of_mem ((hgv o).mpr h1)
        have := (List.getElem?_eq_some_iff.mp hi).1
        exact hp'.mem_iff.mpr (hM3 i (by simpa using this) o hi sc h2 o' h3))
  rcases key with ⟨ρ', h', rfl, ⟨W, wk, rfl⟩, rows, L, h1, h2, _, _, a, b, c, d, e, _, _, _, rfl⟩ | ⟨q, h', rfl, ⟨W, wk, rfl⟩, rfl, h1⟩
  · simp at hG
    subst hG
    refine ⟨W, rows, wk, by simp; exact List.take_of_length_le (by simp), fun he => ?_, fun _ => ⟨by rw [h1, rngT_len], h2⟩⟩
    exfalso
    obtain ⟨g, hg⟩ := get_of_lt (l := rows) (k := 0) (by rw [h1, rngT_len]; cases run with | nil => exact absurd rfl hne | cons a b => simp)
    obtain ⟨_, g2, g3⟩ := h2 0 g hg
    obtain ⟨o, ho⟩ := List.exists_mem_of_ne_nil _ g2
    exact (view_some ok (k := 0) (by cases run with | nil => exact absurd rfl hne | cons a b => simp)).mp ⟨o, (g3 o).mp ho⟩ he
  · simp at hG
    subst hG
    exact ⟨W, [], wk, by simp; exact List.take_of_length_le (by simp), fun _ => rfl, fun hno => absurd h1 hno⟩
end
end Pl
set_option Elab.async false
set_option linter.all false
set_option maxRecDepth 100000
set_option maxHeartbeats 2000000
namespace Pl
open PySem Pf Sm
/-! ### could -/
/-- what the readings tell at a place, in order -/
def rowR (n : Int) (r : Pair) (run : List Scan) (k : Nat) : List Pair := setP ((allR n r run).filterMap fun rd => rd[k]?)
def rowsR (n : Int) (r : Pair) (run : List Scan) : List (List Pair) := (List.range run.length).map (rowR n r run)
def rowsT (rs : List (List Pair)) : List T := rs.map fun g => .list (g.map prT)
def couldR (n : Int) (r : Pair) (run : List Scan) : Ret := if run = [] then .own [] else if allR n r run = [] then .val (.dat .none) else .own (rowsT (rowsR n r run))
theorem mem_rowR {n : Int} {r : Pair} {run : List Scan} {k : Nat} {p : Pair} : p ∈ rowR n r run k ↔ ∃ rd ∈ allR n r run, rd[k]? = some p := by
  unfold rowR
  rw [mem_setU ordP, List.mem_filterMap]
theorem sort_rowR {n : Int} {r : Pair} {run : List Scan} {k : Nat} : SortU ltP (rowR n r run k) := sort_setU ordP
theorem pairsOf_map : ∀ l : List Pair, pairsOf (l.map prT) = some l
  | [] => rfl
  | p :: l => by
    show (match pairOf (prT p), pairsOf (l.map prT) with | some p, some ps => some (p :: ps) | _, _ => none) = _
    rw [pairsOf_map l]
    rfl
theorem setOf_pairs {l : List Pair} (hne : l ≠ []) (hl : (setP l).length ≤ 62) (h0 : ∀ p ∈ l, 0 ≤ p.1 ∧ 0 ≤ p.2) : setOf (l.map prT) = some ((setP l).map prT) := by
  have e : intsOf (l.map prT) = none := by
    cases l with
    | nil => exact absurd rfl hne
    | cons p l => rfl
  unfold setOf
  rw [e]
  simp only [pairsOf_map]
  rw [if_pos]
  · rfl
  · rw [Bool.and_eq_true, decide_eq_true_eq, List.all_eq_true]
    exact ⟨hl, fun p hp => by
      have := h0 p hp
      simp [this]⟩
structure Good2 (n : Int) (p : Pair) : Prop where
  f0 : 0 ≤ p.1
  le : p.1 ≤ p.2
  ge : p.2 ≤ p.1 + 1
  top : p.2 < n
theorem len_good2 {n : Int} {l : List Pair} (hn : n ≤ 30) (nd : l.Nodup) (h : ∀ p ∈ l, Good2 n p) : l.length ≤ 60 := by
  have h1 : (l.map fun p : Pair => p.1.toNat * 2 + (p.2 - p.1).toNat).Nodup := nodup_mapI nd fun a ha b hb e => by
    obtain ⟨a1, a2, a3, a4⟩ := h a ha
    obtain ⟨b1, b2, b3, b4⟩ := h b hb
    obtain ⟨f, l⟩ := a
    obtain ⟨f', l'⟩ := b
    simp only at *
    simp only [Prod.mk.injEq]
    omega
  have := nodup_len (m := List.range 60) h1 fun z hz => by
    obtain ⟨a, ha, rfl⟩ := List.mem_map.mp hz
    obtain ⟨a1, a2, a3, a4⟩ := h a ha
    rw [List.mem_range]
    omega
  rwa [List.length_map, List.length_range] at this
theorem Good4.two {n : Int} {o : St4} (h : Good4 n o) : Good2 n o.pr := ⟨h.f0, h.le, h.ge, h.top⟩
theorem good_rowR {n : Int} {r : Pair} {run : List Scan} (ok : Okay n r run) {k : Nat} (hk : k < run.length) {p : Pair} (h : p ∈ rowR n r run k) : Good2 n p := by
  obtain ⟨o, ⟨⟨pre, hp⟩, _⟩, rfl⟩ := (view_iff ok hk).mpr (mem_rowR.mp h)
  exact (hp.good ok).two
theorem len_rowR {n : Int} {r : Pair} {run : List Scan} (ok : Okay n r run) {k : Nat} (hk : k < run.length) : (rowR n r run k).length ≤ 60 := len_good2 ok.n2 (sortU_nodup ordP sort_rowR) fun p hp => good_rowR ok hk hp
/-- the rows by their views -/
theorem row_of_view {n : Int} {r : Pair} {run : List Scan} (ok : Okay n r run) {k : Nat} (hk : k < run.length) {g : List St4} (h : ∀ o, o ∈ g ↔ View n r run k o) : setP (g.map St4.pr) = rowR n r run k := by
  refine sortU_ext ordP (sort_setU ordP) sort_rowR fun p => ?_
  rw [mem_setU ordP, mem_rowR, ← view_iff ok hk, List.mem_map]
  constructor
  · rintro ⟨o, ho, e⟩
    exact ⟨o, (h o).mp ho, e⟩
  · rintro ⟨o, ho, e⟩
    exact ⟨o, (h o).mpr ho, e⟩
section
variable (x : Bool)
theorem could_eq {n : Int} {r : Pair} {run : List Scan} {h : Hs} (ok : Okay n r run) : S_could x [.dat (.int n), .dat (prT r), .dat (runT run)] h = .ok (couldR n r run) h := by
  have hj : (h ++ [finO n r run []])[h.length]? = some (finO n r run []) := last_get
  simp [S_could, F_could, need_all_eq x h ok, fld_taken hj]
  simp [lenT_run]
  by_cases hne : run = []
  · subst hne
    simp [couldR]
  have hl0 : ¬ ((run.length : Int) = 0) := by
    cases run with
    | nil => exact absurd rfl hne
    | cons a b => simp; omega
  have hl1 : ¬ (run.length = 0) := by omega
  obtain ⟨W, rows, wk, e, q1, q2⟩ := all_ways_eq x hj ok hne
  rw [last_set] at e
  simp [hl0, hl1, hne, e]
  by_cases hR : allR n r run = []
  · rw [q1 hR]
    simp [couldR, hne, hR]
  obtain ⟨r1, r2⟩ := q2 hR
  have hre : rows.isEmpty = false := by
    cases rows with
    | nil => simp at r1; exact absurd r1.symm hl1
    | cons a b => rfl
  simp [hre]
  generalize hF : compL _ _ _ _ _ _ = F
  have e1 := compL_ofI hF (fun k us h2 => h2 = h ++ [finO n r run W] ∧ us = (List.range k).map (fun k => PyData.list ((rowR n r run k).map prT))) ⟨rfl, rfl⟩ (by
    rintro k t us h2 e ⟨rfl, rfl⟩
    obtain ⟨g, hg, rfl⟩ := map_get e
    have hk : k < run.length := by rw [← r1]; exact (List.getElem?_eq_some_iff.mp hg).1
    obtain ⟨g1, g2, g3⟩ := r2 k g hg
    have hrow := row_of_view ok hk g3
    have hs : setOf ((g.map St4.pr).map prT) = some ((rowR n r run k).map prT) := by
      rw [setOf_pairs (by simpa using g2) (by rw [hrow]; have := len_rowR ok hk; omega), hrow]
      intro p hp
      obtain ⟨o, ho, rfl⟩ := List.mem_map.mp hp
      obtain ⟨⟨pre, hp⟩, _⟩ := (g3 o).mp ho
      have := (hp.good ok).f0
      have := (hp.good ok).le
      simp only [St4.pr]
      omega
    refine ⟨_, rfl, fun Q hq => ⟨rfl, ?_⟩⟩
    simp
    generalize hF2 : compL _ _ _ _ _ _ = F2
    have e2 := compL_ofM hF2 (fun _ => true) (fun o => prT o.pr) (by
      intro o ho
      refine ⟨_, rfl, rfl, fun _ => ?_⟩
      simp [st4T]
      rfl)
    subst e2
    rw [List.map_map] at hs
    have hs : setOf (g.map fun o => prT o.pr) = some ((rowR n r run k).map prT) := hs
    simp
    rw [kSortSet_ap _ hs]
    simp
    refine wp_ok ⟨_, rfl, hq _ _ ⟨rfl, ?_⟩⟩
    simp [List.range_succ])
  obtain ⟨us, h', rfl, rfl, rfl⟩ := e1
  simp [couldR, hne, hR, rowsT, rowsR, r1]
end
end Pl
set_option Elab.async false
set_option linter.all false
set_option maxRecDepth 100000
set_option maxHeartbeats 2000000
namespace Pl
open PySem Pf
/-! ### the readings are what fits -/
def Chain : Int → List Pair → Prop
  | _, [] => True
  | sheet, p :: ps => sheet ≤ p.1 ∧ Chain (p.2 + 1) ps
def Shown : List Scan → List Pair → Prop
  | [], [] => True
  | sc :: run, p :: ps => showsB sc p.1 p.2 = true ∧ Shown run ps
  | _, _ => False
def slipsFrom : Int → List Pair → Int
  | _, [] => 0
  | sheet, p :: ps => (p.1 - sheet) + slipsFrom (p.2 + 1) ps
theorem slipsFrom_nn : ∀ {sheet : Int} {rd : List Pair}, Chain sheet rd → 0 ≤ slipsFrom sheet rd
  | _, [], _ => by simp [slipsFrom]
  | sheet, p :: ps, h => by
    have := slipsFrom_nn h.2
    have := h.1
    unfold slipsFrom
    omega
theorem dsum_cons (p : Pair) (ps : List Pair) : dsum (p :: ps) = (p.2 - p.1) + dsum ps := by simp [dsum]
theorem dsum_nn : ∀ {rd : List Pair}, (∀ p ∈ rd, p.1 ≤ p.2) → 0 ≤ dsum rd
  | [], _ => by simp [dsum]
  | p :: ps, h => by
    have := dsum_nn fun q hq => h q (List.mem_cons_of_mem _ hq)
    have := h p (List.mem_cons_self ..)
    rw [dsum_cons]
    omega
theorem path_iff {n : Int} : ∀ {run : List Scan} {sheet d s : Int} {rd : List Pair}, 0 ≤ d → 0 ≤ s → (PathOk n run sheet d s rd ↔ Shown run rd ∧ Chain sheet rd ∧ (∀ p ∈ rd, p.1 ≤ p.2 ∧ p.2 ≤ p.1 + 1 ∧ p.2 < n) ∧ dsum rd ≤ d ∧ slipsFrom sheet rd ≤ s)
  | [], sheet, d, s, [], hd, hs => by simp [PathOk, Shown, Chain, dsum, slipsFrom, hd, hs]
  | [], sheet, d, s, p :: ps, hd, hs => by simp [PathOk, Shown]
  | sc :: run, sheet, d, s, [], hd, hs => by simp [PathOk, Shown]
  | sc :: run, sheet, d, s, p :: ps, hd, hs => by
    unfold PathOk
    rw [dsum_cons]
    constructor
    · rintro ⟨h1, h2⟩
      have h2 := (path_iff (d := d - (p.2 - p.1)) (s := s - (p.1 - sheet)) h1.d0 h1.s0).mp h2
      obtain ⟨a1, a2, a3, a4, a5⟩ := h2
      refine ⟨⟨h1.shows, a1⟩, ⟨h1.low, a2⟩, fun q hq => ?_, by omega, by unfold slipsFrom; omega⟩
      rcases List.mem_cons.mp hq with e | hq
      · subst e
        exact ⟨h1.le, h1.ge, h1.top⟩
      · exact a3 q hq
    · rintro ⟨⟨b1, a1⟩, ⟨b2, a2⟩, a3, a4, a5⟩
      have hp := a3 p (List.mem_cons_self ..)
      have a3' := fun q (hq : q ∈ ps) => a3 q (List.mem_cons_of_mem _ hq)
      have n1 := dsum_nn fun q hq => (a3' q hq).1
      have n2 := slipsFrom_nn a2
      unfold slipsFrom at a5
      have d1 : 0 ≤ d - (p.2 - p.1) := by omega
      have s1 : 0 ≤ s - (p.1 - sheet) := by omega
      exact ⟨⟨b2, rfl, s1, hp.1, hp.2.1, rfl, d1, hp.2.2, b1⟩, (path_iff d1 s1).mpr ⟨a1, a2, a3', by omega, by omega⟩⟩
theorem read_iff {n : Int} {r : Pair} (hd : 0 ≤ r.1) (hs : 0 ≤ r.2) : ∀ {run : List Scan} {rd : List Pair}, ReadOk n r run rd ↔ Shown run rd ∧ Chain 0 rd ∧ (∀ p ∈ rd, p.1 ≤ p.2 ∧ p.2 ≤ p.1 + 1 ∧ p.2 < n) ∧ dsum rd ≤ r.1 ∧ slipsOf rd ≤ r.2
  | [], [] => by simp [ReadOk, Shown, Chain, dsum, slipsOf, hd, hs]
  | [], p :: ps => by simp [ReadOk, Shown]
  | sc :: run, [] => by simp [ReadOk, Shown]
  | sc :: run, p :: ps => by
    have esl : slipsOf (p :: ps) = slipsFrom (p.2 + 1) ps := by
      clear hd hs
      induction ps generalizing p with
      | nil => rfl
      | cons q ps ih =>
        unfold slipsOf slipsFrom
        rw [ih]
        omega
    unfold ReadOk
    rw [dsum_cons, esl]
    constructor
    · rintro ⟨h1, h2⟩
      have h2 := (path_iff (d := r.1 - (p.2 - p.1)) h1.d0 hs).mp h2
      obtain ⟨a1, a2, a3, a4, a5⟩ := h2
      refine ⟨⟨h1.shows, a1⟩, ⟨h1.f0, a2⟩, fun q hq => ?_, by omega, a5⟩
      rcases List.mem_cons.mp hq with e | hq
      · subst e
        exact ⟨h1.le, h1.ge, h1.top⟩
      · exact a3 q hq
    · rintro ⟨⟨b1, a1⟩, ⟨b2, a2⟩, a3, a4, a5⟩
      have hp := a3 p (List.mem_cons_self ..)
      have a3' := fun q (hq : q ∈ ps) => a3 q (List.mem_cons_of_mem _ hq)
      have n1 := dsum_nn fun q hq => (a3' q hq).1
      have d1 : 0 ≤ r.1 - (p.2 - p.1) := by omega
      exact ⟨⟨b2, rfl, hp.1, hp.2.1, rfl, d1, hp.2.2, b1⟩, (path_iff d1 hs).mpr ⟨a1, a2, a3', by omega, by omega⟩⟩
theorem shown_iff : ∀ {run : List Scan} {rd : List Pair}, Shown run rd ↔ rd.length = run.length ∧ ShowsTo run rd rd.length
  | [], [] => by simp [Shown, ShowsTo]
  | [], p :: ps => by simp [Shown]
  | sc :: run, [] => by simp [Shown]
  | sc :: run, p :: ps => by
    unfold Shown
    rw [shown_iff]
    constructor
    · rintro ⟨h1, h2, h3⟩
      refine ⟨by simp [h2], fun j s q hj e1 e2 => ?_⟩
      cases j with
      | zero =>
        simp at e1 e2
        subst e1 e2
        exact h1
      | succ j => exact h3 j s q (by simpa using hj) (by simpa using e1) (by simpa using e2)
    · rintro ⟨h2, h3⟩
      exact ⟨h3 0 sc p (by simp) rfl rfl, by simpa using h2, fun j s q hj e1 e2 => h3 (j + 1) s q (by simpa using hj) (by simpa using e1) (by simpa using e2)⟩
theorem chain_iff : ∀ {sheet : Int} {rd : List Pair}, Chain sheet rd ↔ (∀ p, rd[0]? = some p → sheet ≤ p.1) ∧ RisesTo rd rd.length
  | sheet, [] => by simp [Chain, RisesTo]
  | sheet, p :: ps => by
    unfold Chain
    rw [chain_iff]
    constructor
    · rintro ⟨h1, h2, h3⟩
      refine ⟨fun q e => by simp at e; subst e; exact h1, fun j a b hj e1 e2 => ?_⟩
      cases j with
      | zero =>
        simp at e1 e2
        subst e1
        have := h2 b e2
        omega
      | succ j => exact h3 j a b (by simpa using hj) (by simpa using e1) (by simpa using e2)
    · rintro ⟨h1, h2⟩
      refine ⟨h1 p rfl, fun q e => ?_, fun j a b hj e1 e2 => h2 (j + 1) a b (by simpa using hj) (by simpa using e1) (by simpa using e2)⟩
      have := h2 0 p q (by have := (List.getElem?_eq_some_iff.mp e).1; simp; omega) rfl (by simpa using e)
      omega
/-- a reading -/
structure IsRd (n : Int) (r : Pair) (run : List Scan) (rd : List Pair) : Prop where
  pr : ∀ p ∈ rd, okPr n p = true
  fit : Fit r run rd
theorem mem_allR_iff {n : Int} {r : Pair} {run : List Scan} {rd : List Pair} (hd : 0 ≤ r.1) (hs : 0 ≤ r.2) : rd ∈ allR n r run ↔ IsRd n r run rd := by
  rw [mem_allR hd, read_iff hd hs, shown_iff, chain_iff]
  constructor
  · rintro ⟨⟨a1, a2⟩, ⟨b1, b2⟩, c, d, e⟩
    refine ⟨fun p hp => ?_, a1, b2, a2, d, e⟩
    obtain ⟨c1, c2, c3⟩ := c p hp
    refine okPr_iff.mpr ⟨?_, c1, c2, c3⟩
    obtain ⟨i, hi⟩ := List.getElem?_of_mem hp
    clear hp
    induction i generalizing p with
    | zero => exact b1 p hi
    | succ i ih =>
      obtain ⟨q, hq⟩ := get_of_lt (l := rd) (k := i) (by have := (List.getElem?_eq_some_iff.mp hi).1; omega)
      have h1 := ih q (c q (List.mem_of_getElem? hq)).1 (c q (List.mem_of_getElem? hq)).2.1 (c q (List.mem_of_getElem? hq)).2.2 hq
      have h2 := b2 i q p (by have := (List.getElem?_eq_some_iff.mp hi).1; omega) hq hi
      have := (c q (List.mem_of_getElem? hq)).1
      omega
  · rintro ⟨h1, a1, b2, a2, d, e⟩
    exact ⟨⟨a1, a2⟩, ⟨fun p hp => (okPr_iff.mp (h1 p (List.mem_of_getElem? hp))).1, b2⟩, fun p hp => (okPr_iff.mp (h1 p hp)).2, d, e⟩
/-- more readings -/
theorem len_mono {n n' : Int} {r r' : Pair} {run run' : List Scan} (hd : 0 ≤ r.1) (hs : 0 ≤ r.2) (hd' : 0 ≤ r'.1) (hs' : 0 ≤ r'.2) (h : ∀ rd, IsRd n r run rd → IsRd n' r' run' rd) : (allR n r run).length ≤ (allR n' r' run').length :=
  nodup_len (nodup_allR hd) fun rd hrd => (mem_allR_iff hd' hs').mpr (h rd ((mem_allR_iff hd hs).mp hrd))
theorem mem_rowR_iff {n : Int} {r : Pair} {run : List Scan} {k : Nat} {p : Pair} (hd : 0 ≤ r.1) (hs : 0 ≤ r.2) : p ∈ rowR n r run k ↔ ∃ rd, IsRd n r run rd ∧ rd[k]? = some p := by
  rw [mem_rowR]
  constructor
  · rintro ⟨rd, h1, h2⟩
    exact ⟨rd, (mem_allR_iff hd hs).mp h1, h2⟩
  · rintro ⟨rd, h1, h2⟩
    exact ⟨rd, (mem_allR_iff hd hs).mpr h1, h2⟩
end Pl
set_option Elab.async false
set_option linter.all false
set_option maxRecDepth 100000
set_option maxHeartbeats 2000000
namespace Pl
open PySem Pf Sm
theorem eqv_pr (p q : Pair) : PyData.eqv (prT p) (prT q) = decide (p = q) := by
  obtain ⟨a, b⟩ := p
  obtain ⟨c, d⟩ := q
  simp [prT, PyData.eqvAll]
theorem inT_pr (p : Pair) (l : List Pair) : inT (prT p) (.list (l.map prT)) = some (decide (p ∈ l)) := by
  have e : (l.map prT).any (fun y => PyData.eqv y (prT p)) = decide (p ∈ l) := by
    induction l with
    | nil => simp
    | cons q l ih =>
      rw [List.map_cons, List.any_cons, ih, eqv_pr]
      by_cases h : q = p
      · simp [h]
      · have h' : ¬ (p = q) := fun e => h e.symm
        simp [h, h']
  have hdp : (prT p).depth ≤ 60 := by
    show (PyData.tuple ([p.1, p.2].map PyData.int)).depth ≤ 60
    rw [PyData.depth, PySem.W.depth_ints]
    decide
  show (if (prT p).depth ≤ 60 then some ((l.map prT).any fun z => PyData.eqv z (prT p)) else none) = _
  rw [if_pos hdp, e]
theorem zip_get {A B : List T} {k : Nat} {t : T} (e : (zipT A B)[k]? = some t) : ∃ a b, A[k]? = some a ∧ B[k]? = some b ∧ t = .tuple [a, b] := by
  unfold zipT at e
  obtain ⟨⟨a, b⟩, h1, rfl⟩ := map_get e
  rw [List.getElem?_zip_eq_some] at h1
  exact ⟨a, b, h1.1, h1.2, rfl⟩
@[simp] theorem kItD_run (run : List Scan) (h : Hs) : kItD (.dat (runT run)) h = .ok (run.map scT) h := rfl
theorem sl_to {run : List Scan} {i : Int} (h : 0 ≤ i) (hl : run.length ≤ 100000) : slT (runT run) none (some i) = some (runT (run.take i.toNat)) := by
  unfold runT
  simp [slT]
  repeat (simp (disch := omega) only [line_ok, cut_to, cut_from, cut_mid]; try simp)
theorem sl_from {run : List Scan} {i : Int} (h : 0 ≤ i) (hl : run.length ≤ 100000) : slT (runT run) (some i) none = some (runT (run.drop i.toNat)) := by
  unfold runT
  simp [slT]
  repeat (simp (disch := omega) only [line_ok, cut_to, cut_from, cut_mid]; try simp)
theorem add_run {a b : List Scan} (hl : a.length + b.length ≤ 100000) : addT (runT a) (runT b) = some (runT (a ++ b)) := by
  unfold runT
  simp [addT]
  exact len_line hl
section
variable (x : Bool)
theorem is_more_eq {A B : List (List Pair)} {h : Hs} (hl : A.length = B.length) (hl2 : A.length ≤ 1000) (hs : ∀ (k : Nat) a b, A[k]? = some a → B[k]? = some b → ∀ p ∈ a, p ∈ b) : S__law_is_more x [.dat (.list (rowsT A)), .dat (.list (rowsT B))] h = .ok (.val (.dat (.bool true))) h := by
  simp [S__law_is_more, F__law_is_more]
  generalize hF : forL _ _ _ _ _ = F
  obtain ⟨ρ', h', rfl, rfl, a, b, c, pc, rfl⟩ := forL_of hF (fun k ρ h' => h' = h ∧ ∃ a b c, plS c = true ∧ ρ = [vd (.list (rowsT A)), vd (.list (rowsT B)), a, b, c]) ⟨rfl, _, _, _, rfl, rfl⟩ (by
      rintro k t ρ h' e ⟨rfl, a, b, c, pc, rfl⟩ Q hn
      obtain ⟨u, v, e1, e2, rfl⟩ := zip_get e
      obtain ⟨g, hg, rfl⟩ := map_get e1
      obtain ⟨g', hg', rfl⟩ := map_get e2
      simp [Turn1, pc]
      generalize hF2 : compL _ _ _ _ _ _ = F2
      have e3 := compL_ofM hF2 (fun p => !decide (p ∈ g')) prT (by
        intro p hp
        refine ⟨_, rfl, ?_, fun _ => ?_⟩
        · simp [ninT, inT_pr]
        · simp)
      have e4 : g.filter (fun p => !decide (p ∈ g')) = [] := by
        rw [List.filter_eq_nil_iff]
        intro p hp
        simp [hs k g g' hg hg' p hp]
      rw [e4] at e3
      subst e3
      simp
      exact wp_ok (hn _ _ ⟨rfl, _, _, _, pc, rfl⟩))
  simp [rowsT, hl]
end
end Pl
set_option Elab.async false
set_option linter.all false
set_option maxRecDepth 100000
set_option maxHeartbeats 0
namespace Hd
open PySem PySem.Spec PyProof.Rows L2
def top (i : Nat) : Stmt := PySem.Challenge.pw_pagefeeder_k11_troubles_told.main.body.getD i (.Pass ⟨0, 0, 0, 0⟩)
abbrev s_BadScan___init__ : Stmt := (inClass (top 8) 0)
def d_BadScan___init__ : He.DefD := ⟨("BadScan", some "__init__"), "__init__", "BadScan.__init__", defArgs (inClass (top 8) 0), defBody (inClass (top 8) 0), defScope (inClass (top 8) 0), [], []⟩
abbrev s_is_number : Stmt := (top 14)
def d_is_number : He.DefD := ⟨("is_number", none), "is_number", "is_number", defArgs (top 14), defBody (top 14), defScope (top 14), [], []⟩
abbrev s_need_book : Stmt := (top 15)
def d_need_book : He.DefD := ⟨("need_book", none), "need_book", "need_book", defArgs (top 15), defBody (top 15), defScope (top 15), [], []⟩
abbrev s_need_rule : Stmt := (top 16)
def d_need_rule : He.DefD := ⟨("need_rule", none), "need_rule", "need_rule", defArgs (top 16), defBody (top 16), defScope (top 16), [], []⟩
abbrev s_is_scan : Stmt := (top 17)
def d_is_scan : He.DefD := ⟨("is_scan", none), "is_scan", "is_scan", defArgs (top 17), defBody (top 17), defScope (top 17), [], []⟩
abbrev s_need_run : Stmt := (top 18)
def d_need_run : He.DefD := ⟨("need_run", none), "need_run", "need_run", defArgs (top 18), defBody (top 18), defScope (top 18), [], []⟩
abbrev s_does_show : Stmt := (top 19)
def d_does_show : He.DefD := ⟨("does_show", none), "does_show", "does_show", defArgs (top 19), defBody (top 19), defScope (top 19), [], []⟩
abbrev s_Feeder___init__ : Stmt := (inClass (top 21) 0)
def d_Feeder___init__ : He.DefD := ⟨("Feeder", some "__init__"), "__init__", "Feeder.__init__", defArgs (inClass (top 21) 0), defBody (inClass (top 21) 0), defScope (inClass (top 21) 0), [], []⟩
abbrev s_Feeder_put : Stmt := (inClass (top 21) 1)
def d_Feeder_put : He.DefD := ⟨("Feeder", some "put"), "put", "Feeder.put", defArgs (inClass (top 21) 1), defBody (inClass (top 21) 1), defScope (inClass (top 21) 1), [], []⟩
abbrev s_Feeder_need_sheets : Stmt := (inClass (top 21) 2)
def d_Feeder_need_sheets : He.DefD := ⟨("Feeder", some "need_sheets"), "need_sheets", "Feeder.need_sheets", defArgs (inClass (top 21) 2), defBody (inClass (top 21) 2), defScope (inClass (top 21) 2), [], []⟩
abbrev s_Feeder_read_page : Stmt := (inClass (top 21) 3)
def d_Feeder_read_page : He.DefD := ⟨("Feeder", some "read_page"), "read_page", "Feeder.read_page", defArgs (inClass (top 21) 3), defBody (inClass (top 21) 3), defScope (inClass (top 21) 3), [], []⟩
abbrev s_Feeder_take : Stmt := (inClass (top 21) 4)
def d_Feeder_take : He.DefD := ⟨("Feeder", some "take"), "take", "Feeder.take", defArgs (inClass (top 21) 4), defBody (inClass (top 21) 4), defScope (inClass (top 21) 4), [], []⟩
abbrev s_Feeder_pass_by : Stmt := (inClass (top 21) 5)
def d_Feeder_pass_by : He.DefD := ⟨("Feeder", some "pass_by"), "pass_by", "Feeder.pass_by", defArgs (inClass (top 21) 5), defBody (inClass (top 21) 5), defScope (inClass (top 21) 5), [], []⟩
abbrev s_Feeder_end_run : Stmt := (inClass (top 21) 6)
def d_Feeder_end_run : He.DefD := ⟨("Feeder", some "end_run"), "end_run", "Feeder.end_run", defArgs (inClass (top 21) 6), defBody (inClass (top 21) 6), defScope (inClass (top 21) 6), [], []⟩
abbrev s_Feeder_feed : Stmt := (inClass (top 21) 7)
def d_Feeder_feed : He.DefD := ⟨("Feeder", some "feed"), "feed", "Feeder.feed", defArgs (inClass (top 21) 7), defBody (inClass (top 21) 7), defScope (inClass (top 21) 7), [], []⟩
abbrev s_Feeder_twice : Stmt := (inClass (top 21) 8)
def d_Feeder_twice : He.DefD := ⟨("Feeder", some "twice"), "twice", "Feeder.twice", defArgs (inClass (top 21) 8), defBody (inClass (top 21) 8), defScope (inClass (top 21) 8), [], []⟩
abbrev s_Feeder_slip : Stmt := (inClass (top 21) 9)
def d_Feeder_slip : He.DefD := ⟨("Feeder", some "slip"), "slip", "Feeder.slip", defArgs (inClass (top 21) 9), defBody (inClass (top 21) 9), defScope (inClass (top 21) 9), [], []⟩
abbrev s_Feeder_jam : Stmt := (inClass (top 21) 10)
def d_Feeder_jam : He.DefD := ⟨("Feeder", some "jam"), "jam", "Feeder.jam", defArgs (inClass (top 21) 10), defBody (inClass (top 21) 10), defScope (inClass (top 21) 10), [], []⟩
abbrev s_Feeder_waits : Stmt := (inClass (top 21) 11)
def d_Feeder_waits : He.DefD := ⟨("Feeder", some "waits"), "waits", "Feeder.waits", defArgs (inClass (top 21) 11), defBody (inClass (top 21) 11), defScope (inClass (top 21) 11), [], []⟩
abbrev s_Feeder_run : Stmt := (inClass (top 21) 12)
def d_Feeder_run : He.DefD := ⟨("Feeder", some "run"), "run", "Feeder.run", defArgs (inClass (top 21) 12), defBody (inClass (top 21) 12), defScope (inClass (top 21) 12), [], []⟩
abbrev s_Feeder_runs : Stmt := (inClass (top 21) 13)
def d_Feeder_runs : He.DefD := ⟨("Feeder", some "runs"), "runs", "Feeder.runs", defArgs (inClass (top 21) 13), defBody (inClass (top 21) 13), defScope (inClass (top 21) 13), [], []⟩
abbrev s_troubles : Stmt := (top 23)
def d_troubles : He.DefD := ⟨("troubles", none), "troubles", "troubles", defArgs (top 23), defBody (top 23), defScope (top 23), [], []⟩
abbrev s_Finder___init__ : Stmt := (inClass (top 25) 0)
def d_Finder___init__ : He.DefD := ⟨("Finder", some "__init__"), "__init__", "Finder.__init__", defArgs (inClass (top 25) 0), defBody (inClass (top 25) 0), defScope (inClass (top 25) 0), [], []⟩
abbrev s_Finder_steps : Stmt := (inClass (top 25) 1)
def d_Finder_steps : He.DefD := ⟨("Finder", some "steps"), "steps", "Finder.steps", defArgs (inClass (top 25) 1), defBody (inClass (top 25) 1), defScope (inClass (top 25) 1), [], []⟩
abbrev s_Finder_count : Stmt := (inClass (top 25) 2)
def d_Finder_count : He.DefD := ⟨("Finder", some "count"), "count", "Finder.count", defArgs (inClass (top 25) 2), defBody (inClass (top 25) 2), defScope (inClass (top 25) 2), [], []⟩
abbrev s_Finder_firsts : Stmt := (inClass (top 25) 3)
def d_Finder_firsts : He.DefD := ⟨("Finder", some "firsts"), "firsts", "Finder.firsts", defArgs (inClass (top 25) 3), defBody (inClass (top 25) 3), defScope (inClass (top 25) 3), [], []⟩
abbrev s_all_ways : Stmt := (top 26)
def d_all_ways : He.DefD := ⟨("all_ways", none), "all_ways", "all_ways", defArgs (top 26), defBody (top 26), defScope (top 26), [], []⟩
abbrev s_need_all : Stmt := (top 27)
def d_need_all : He.DefD := ⟨("need_all", none), "need_all", "need_all", defArgs (top 27), defBody (top 27), defScope (top 27), [], []⟩
abbrev s_could : Stmt := (top 28)
def d_could : He.DefD := ⟨("could", none), "could", "could", defArgs (top 28), defBody (top 28), defScope (top 28), [], []⟩
abbrev s__law_start : Stmt := (top 30)
def d__law_start : He.DefD := ⟨("_law_start", none), "_law_start", "_law_start", defArgs (top 30), defBody (top 30), defScope (top 30), [], []⟩
abbrev s__law_drawn : Stmt := (top 31)
def d__law_drawn : He.DefD := ⟨("_law_drawn", none), "_law_drawn", "_law_drawn", defArgs (top 31), defBody (top 31), defScope (top 31), [], []⟩
abbrev s__law_same : Stmt := (top 32)
def d__law_same : He.DefD := ⟨("_law_same", none), "_law_same", "_law_same", defArgs (top 32), defBody (top 32), defScope (top 32), [], []⟩
abbrev s__law_fed : Stmt := (top 33)
def d__law_fed : He.DefD := ⟨("_law_fed", none), "_law_fed", "_law_fed", defArgs (top 33), defBody (top 33), defScope (top 33), [], []⟩
abbrev s__law_rule : Stmt := (top 34)
def d__law_rule : He.DefD := ⟨("_law_rule", none), "_law_rule", "_law_rule", defArgs (top 34), defBody (top 34), defScope (top 34), [], []⟩
abbrev s__law_shows : Stmt := (top 35)
def d__law_shows : He.DefD := ⟨("_law_shows", none), "_law_shows", "_law_shows", defArgs (top 35), defBody (top 35), defScope (top 35), [], []⟩
abbrev s__law_other : Stmt := (top 36)
def d__law_other : He.DefD := ⟨("_law_other", none), "_law_other", "_law_other", defArgs (top 36), defBody (top 36), defScope (top 36), [], []⟩
abbrev s__law_blind : Stmt := (top 37)
def d__law_blind : He.DefD := ⟨("_law_blind", none), "_law_blind", "_law_blind", defArgs (top 37), defBody (top 37), defScope (top 37), [], []⟩
abbrev s__law_step : Stmt := (top 38)
def d__law_step : He.DefD := ⟨("_law_step", none), "_law_step", "_law_step", defArgs (top 38), defBody (top 38), defScope (top 38), [], []⟩
abbrev s__law_do : Stmt := (top 39)
def d__law_do : He.DefD := ⟨("_law_do", none), "_law_do", "_law_do", defArgs (top 39), defBody (top 39), defScope (top 39), [], []⟩
abbrev s__law_feeder : Stmt := (top 40)
def d__law_feeder : He.DefD := ⟨("_law_feeder", none), "_law_feeder", "_law_feeder", defArgs (top 40), defBody (top 40), defScope (top 40), [], []⟩
abbrev s__law_through : Stmt := (top 41)
def d__law_through : He.DefD := ⟨("_law_through", none), "_law_through", "_law_through", defArgs (top 41), defBody (top 41), defScope (top 41), [], []⟩
abbrev s__law_over : Stmt := (top 42)
def d__law_over : He.DefD := ⟨("_law_over", none), "_law_over", "_law_over", defArgs (top 42), defBody (top 42), defScope (top 42), [], []⟩
abbrev s__law_does : Stmt := (top 43)
def d__law_does : He.DefD := ⟨("_law_does", none), "_law_does", "_law_does", defArgs (top 43), defBody (top 43), defScope (top 43), [], []⟩
abbrev s__law_worst : Stmt := (top 44)
def d__law_worst : He.DefD := ⟨("_law_worst", none), "_law_worst", "_law_worst", defArgs (top 44), defBody (top 44), defScope (top 44), [], []⟩
abbrev s__law_told : Stmt := (top 45)
def d__law_told : He.DefD := ⟨("_law_told", none), "_law_told", "_law_told", defArgs (top 45), defBody (top 45), defScope (top 45), [], []⟩
abbrev s_law : Stmt := (top 46)
def d_law : He.DefD := ⟨("law", none), "law", "law", defArgs (top 46), defBody (top 46), defScope (top 46), [], []⟩
def fn_0 : List He.DefD := [d_BadScan___init__, d_is_number, d_need_book, d_need_rule, d_is_scan, d_need_run, d_does_show, d_Feeder___init__, d_Feeder_put, d_Feeder_need_sheets, d_Feeder_read_page, d_Feeder_take, d_Feeder_pass_by, d_Feeder_end_run, d_Feeder_feed, d_Feeder_twice, d_Feeder_slip, d_Feeder_jam, d_Feeder_waits, d_Feeder_run]
def fn_1 : List He.DefD := [d_Feeder_runs, d_troubles, d_Finder___init__, d_Finder_steps, d_Finder_count, d_Finder_firsts, d_all_ways, d_need_all, d_could, d__law_start, d__law_drawn, d__law_same, d__law_fed, d__law_rule, d__law_shows, d__law_other, d__law_blind, d__law_step, d__law_do, d__law_feeder]
def fn_2 : List He.DefD := [d__law_through, d__law_over, d__law_does, d__law_worst, d__law_told, d_law]
def fn : List He.DefD := fn_0 ++ fn_1 ++ fn_2
def fa_0 : List He.Fa := [.glo "is_number", .glo "need_book", .glo "need_rule", .glo "is_scan", .glo "need_run", .glo "does_show", .glo "troubles", .glo "all_ways", .glo "need_all", .glo "could", .glo "_law_start", .glo "_law_drawn", .glo "_law_same", .glo "_law_fed", .glo "_law_rule", .glo "_law_shows", .glo "_law_other", .glo "_law_blind", .glo "_law_step", .glo "_law_do"]
def fa_1 : List He.Fa := [.glo "_law_feeder", .glo "_law_through", .glo "_law_over", .glo "_law_does", .glo "_law_worst", .glo "_law_told", .glo "law", .glo "Feeder", .cls "Feeder", .mkr "Feeder", .noat "Feeder" "sheets", .noat "Feeder" "blind", .noat "Feeder" "next", .noat "Feeder" "last", .noat "Feeder" "here", .noat "Feeder" "ended", .meth "Feeder" "__init__", .meth "Feeder" "put", .meth "Feeder" "need_sheets", .meth "Feeder" "read_page"]
def fa_2 : List He.Fa := [.meth "Feeder" "take", .meth "Feeder" "pass_by", .meth "Feeder" "end_run", .meth "Feeder" "feed", .meth "Feeder" "twice", .meth "Feeder" "slip", .meth "Feeder" "jam", .meth "Feeder" "waits", .meth "Feeder" "run", .meth "Feeder" "runs", .glo "Finder", .cls "Finder", .mkr "Finder", .noat "Finder" "sheets", .noat "Finder" "rule", .noat "Finder" "taken", .noat "Finder" "ways", .meth "Finder" "__init__", .meth "Finder" "steps", .meth "Finder" "count"]
def fa_3 : List He.Fa := [.meth "Finder" "firsts", .glo "FeedError", .keep "FeedError", .glo "BadBook", .keep "BadBook", .glo "BadRule", .keep "BadRule", .glo "BadBlind", .keep "BadBlind", .glo "BadStack", .keep "BadStack", .glo "Busy", .keep "Busy", .glo "NoSheet", .keep "NoSheet", .glo "BadScan", .keep "BadScan", .int "MOST_SHEETS" 30, .int "MOST_SCANS" 20, .int "MOST_DOUBLES" 3]
def fa_4 : List He.Fa := [.int "MOST_SLIPS" 3, .free "ValueError", .free "bool", .free "enumerate", .free "int", .free "isinstance", .free "len", .free "list", .free "max", .free "min", .free "range", .free "set", .free "sorted", .free "str", .free "sum", .free "tuple", .free "zip"]
def fa : List He.Fa := fa_0 ++ fa_1 ++ fa_2 ++ fa_3 ++ fa_4
abbrev R : PySem.W.OpenRow := PySem.W.OpenLaw.row PySem.Challenge.rw_pagefeeder_k11_troubles_told
abbrev hk : PySem.W.Hook := He.hookD 6 fa fn
def ob (s : PySem.W.SharedT) : He.AlD := He.obsDG 6 fa fn (HandSHeadRun.getT s)
theorem ob_eq (s : PySem.W.SharedT) : ob s = hk.obs s.abs := He.obsDG_eq (HandSHeadRun.getT_eq s)
def loose_0 : List Str := ["FeedError", "BadBook", "BadRule", "BadBlind", "BadStack", "Busy", "NoSheet", "BadScan", "MOST_SHEETS", "MOST_SCANS", "MOST_DOUBLES", "MOST_SLIPS", "is_number", "need_book", "need_rule", "is_scan", "need_run", "does_show", "Feeder", "troubles"]
def loose_1 : List Str := ["Finder", "all_ways", "need_all", "could", "_law_start", "_law_drawn", "_law_same", "_law_fed", "_law_rule", "_law_shows", "_law_other", "_law_blind", "_law_step", "_law_do", "_law_feeder", "_law_through", "_law_over", "_law_does", "_law_worst", "_law_told"]
def loose : List Str := loose_0 ++ loose_1
theorem run (w : World) : HandSHeadRun.RunEq R (PySem.W.view R.prog [46]) hk ob 6000 loose w := by
  intro os
  kernel_rfl
end Hd
set_option Elab.async false
set_option linter.all false
set_option maxRecDepth 100000
set_option maxHeartbeats 2000000
namespace Lw
open PySem PySem.Spec PyProof.Rows L2 Pf Sm
noncomputable section
structure Hyp (K : Fr) (mg : Str → Option Value) where
  fd__law_start : FuncData
  F__law_start : FunD K "_law_start" "_law_start" (defArgs Hd.s__law_start) (defBody Hd.s__law_start) (defScope Hd.s__law_start) [] [] (He.fAd K ("_law_start", none)) fd__law_start
  b__law_start : Binds K fd__law_start ["_law_script"] []
  g__law_start : mg "_law_start" = some (.ref (He.fAd K ("_law_start", none)))
  fd__law_drawn : FuncData
  F__law_drawn : FunD K "_law_drawn" "_law_drawn" (defArgs Hd.s__law_drawn) (defBody Hd.s__law_drawn) (defScope Hd.s__law_drawn) [] [] (He.fAd K ("_law_drawn", none)) fd__law_drawn
  b__law_drawn : Binds K fd__law_drawn ["_law_state", "_law_many"] []
  g__law_drawn : mg "_law_drawn" = some (.ref (He.fAd K ("_law_drawn", none)))
  fd__law_worst : FuncData
  F__law_worst : FunD K "_law_worst" "_law_worst" (defArgs Hd.s__law_worst) (defBody Hd.s__law_worst) (defScope Hd.s__law_worst) [] [] (He.fAd K ("_law_worst", none)) fd__law_worst
  b__law_worst : Binds K fd__law_worst ["_law_trues"] []
  g__law_worst : mg "_law_worst" = some (.ref (He.fAd K ("_law_worst", none)))
  fd_is_number : FuncData
  F_is_number : FunD K "is_number" "is_number" (defArgs Hd.s_is_number) (defBody Hd.s_is_number) (defScope Hd.s_is_number) [] [] (He.fAd K ("is_number", none)) fd_is_number
  b_is_number : Binds K fd_is_number ["thing", "low", "high"] []
  g_is_number : mg "is_number" = some (.ref (He.fAd K ("is_number", none)))
  fd_need_book : FuncData
  F_need_book : FunD K "need_book" "need_book" (defArgs Hd.s_need_book) (defBody Hd.s_need_book) (defScope Hd.s_need_book) [] [] (He.fAd K ("need_book", none)) fd_need_book
  b_need_book : Binds K fd_need_book ["sheets"] []
  g_need_book : mg "need_book" = some (.ref (He.fAd K ("need_book", none)))
  fd_Feeder___init__ : FuncData
  F_Feeder___init__ : FunD K "__init__" "Feeder.__init__" (defArgs Hd.s_Feeder___init__) (defBody Hd.s_Feeder___init__) (defScope Hd.s_Feeder___init__) [] [] (He.fAd K ("Feeder", some "__init__")) fd_Feeder___init__
  b_Feeder___init__ : Binds K fd_Feeder___init__ ["self", "sheets", "blind"] []
  fd__law_feeder : FuncData
  F__law_feeder : FunD K "_law_feeder" "_law_feeder" (defArgs Hd.s__law_feeder) (defBody Hd.s__law_feeder) (defScope Hd.s__law_feeder) [] [] (He.fAd K ("_law_feeder", none)) fd__law_feeder
  b__law_feeder : Binds K fd__law_feeder ["_law_sheets", "_law_blind_here"] []
  g__law_feeder : mg "_law_feeder" = some (.ref (He.fAd K ("_law_feeder", none)))
  fd__law_over : FuncData
  F__law_over : FunD K "_law_over" "_law_over" (defArgs Hd.s__law_over) (defBody Hd.s__law_over) (defScope Hd.s__law_over) [] [] (He.fAd K ("_law_over", none)) fd__law_over
  b__law_over : Binds K fd__law_over ["_law_w"] []
  g__law_over : mg "_law_over" = some (.ref (He.fAd K ("_law_over", none)))
  fd__law_through : FuncData
  F__law_through : FunD K "_law_through" "_law_through" (defArgs Hd.s__law_through) (defBody Hd.s__law_through) (defScope Hd.s__law_through) [] [] (He.fAd K ("_law_through", none)) fd__law_through
  b__law_through : Binds K fd__law_through ["_law_w", "_law_many", "_law_is_read"] []
  g__law_through : mg "_law_through" = some (.ref (He.fAd K ("_law_through", none)))
  fd__law_does : FuncData
  F__law_does : FunD K "_law_does" "_law_does" (defArgs Hd.s__law_does) (defBody Hd.s__law_does) (defScope Hd.s__law_does) [] [] (He.fAd K ("_law_does", none)) fd__law_does
  b__law_does : Binds K fd__law_does ["_law_w", "_law_step_here"] []
  g__law_does : mg "_law_does" = some (.ref (He.fAd K ("_law_does", none)))
  fd_Feeder_runs : FuncData
  F_Feeder_runs : FunD K "runs" "Feeder.runs" (defArgs Hd.s_Feeder_runs) (defBody Hd.s_Feeder_runs) (defScope Hd.s_Feeder_runs) [] [] (He.fAd K ("Feeder", some "runs")) fd_Feeder_runs
  b_Feeder_runs : Binds K fd_Feeder_runs ["self"] []
  h_Feeder_runs : Meth K (He.ga K "Feeder") "runs" (He.fAd K ("Feeder", some "runs"))
  fd_Feeder_put : FuncData
  F_Feeder_put : FunD K "put" "Feeder.put" (defArgs Hd.s_Feeder_put) (defBody Hd.s_Feeder_put) (defScope Hd.s_Feeder_put) [] [] (He.fAd K ("Feeder", some "put")) fd_Feeder_put
  b_Feeder_put : Binds K fd_Feeder_put ["self", "low", "high"] []
  h_Feeder_put : Meth K (He.ga K "Feeder") "put" (He.fAd K ("Feeder", some "put"))
  fd_Feeder_need_sheets : FuncData
  F_Feeder_need_sheets : FunD K "need_sheets" "Feeder.need_sheets" (defArgs Hd.s_Feeder_need_sheets) (defBody Hd.s_Feeder_need_sheets) (defScope Hd.s_Feeder_need_sheets) [] [] (He.fAd K ("Feeder", some "need_sheets")) fd_Feeder_need_sheets
  b_Feeder_need_sheets : Binds K fd_Feeder_need_sheets ["self", "count"] []
  h_Feeder_need_sheets : Meth K (He.ga K "Feeder") "need_sheets" (He.fAd K ("Feeder", some "need_sheets"))
  fd_Feeder_end_run : FuncData
  F_Feeder_end_run : FunD K "end_run" "Feeder.end_run" (defArgs Hd.s_Feeder_end_run) (defBody Hd.s_Feeder_end_run) (defScope Hd.s_Feeder_end_run) [] [] (He.fAd K ("Feeder", some "end_run")) fd_Feeder_end_run
  b_Feeder_end_run : Binds K fd_Feeder_end_run ["self"] []
  h_Feeder_end_run : Meth K (He.ga K "Feeder") "end_run" (He.fAd K ("Feeder", some "end_run"))
  fd_Feeder_pass_by : FuncData
  F_Feeder_pass_by : FunD K "pass_by" "Feeder.pass_by" (defArgs Hd.s_Feeder_pass_by) (defBody Hd.s_Feeder_pass_by) (defScope Hd.s_Feeder_pass_by) [] [] (He.fAd K ("Feeder", some "pass_by")) fd_Feeder_pass_by
  b_Feeder_pass_by : Binds K fd_Feeder_pass_by ["self", "count"] []
  h_Feeder_pass_by : Meth K (He.ga K "Feeder") "pass_by" (He.fAd K ("Feeder", some "pass_by"))
  fd_Feeder_read_page : FuncData
  F_Feeder_read_page : FunD K "read_page" "Feeder.read_page" (defArgs Hd.s_Feeder_read_page) (defBody Hd.s_Feeder_read_page) (defScope Hd.s_Feeder_read_page) [] [] (He.fAd K ("Feeder", some "read_page")) fd_Feeder_read_page
  b_Feeder_read_page : Binds K fd_Feeder_read_page ["self", "page"] []
  h_Feeder_read_page : Meth K (He.ga K "Feeder") "read_page" (He.fAd K ("Feeder", some "read_page"))
  fd_Feeder_take : FuncData
  F_Feeder_take : FunD K "take" "Feeder.take" (defArgs Hd.s_Feeder_take) (defBody Hd.s_Feeder_take) (defScope Hd.s_Feeder_take) [] [] (He.fAd K ("Feeder", some "take")) fd_Feeder_take
  b_Feeder_take : Binds K fd_Feeder_take ["self", "count"] []
  h_Feeder_take : Meth K (He.ga K "Feeder") "take" (He.fAd K ("Feeder", some "take"))
  fd_Feeder_feed : FuncData
  F_Feeder_feed : FunD K "feed" "Feeder.feed" (defArgs Hd.s_Feeder_feed) (defBody Hd.s_Feeder_feed) (defScope Hd.s_Feeder_feed) [] [] (He.fAd K ("Feeder", some "feed")) fd_Feeder_feed
  b_Feeder_feed : Binds K fd_Feeder_feed ["self"] []
  h_Feeder_feed : Meth K (He.ga K "Feeder") "feed" (He.fAd K ("Feeder", some "feed"))
  fd_Feeder_twice : FuncData
  F_Feeder_twice : FunD K "twice" "Feeder.twice" (defArgs Hd.s_Feeder_twice) (defBody Hd.s_Feeder_twice) (defScope Hd.s_Feeder_twice) [] [] (He.fAd K ("Feeder", some "twice")) fd_Feeder_twice
  b_Feeder_twice : Binds K fd_Feeder_twice ["self"] []
  h_Feeder_twice : Meth K (He.ga K "Feeder") "twice" (He.fAd K ("Feeder", some "twice"))
  fd_Feeder_slip : FuncData
  F_Feeder_slip : FunD K "slip" "Feeder.slip" (defArgs Hd.s_Feeder_slip) (defBody Hd.s_Feeder_slip) (defScope Hd.s_Feeder_slip) [] [] (He.fAd K ("Feeder", some "slip")) fd_Feeder_slip
  b_Feeder_slip : Binds K fd_Feeder_slip ["self"] []
  h_Feeder_slip : Meth K (He.ga K "Feeder") "slip" (He.fAd K ("Feeder", some "slip"))
  fd_Feeder_jam : FuncData
  F_Feeder_jam : FunD K "jam" "Feeder.jam" (defArgs Hd.s_Feeder_jam) (defBody Hd.s_Feeder_jam) (defScope Hd.s_Feeder_jam) [] [] (He.fAd K ("Feeder", some "jam")) fd_Feeder_jam
  b_Feeder_jam : Binds K fd_Feeder_jam ["self"] []
  h_Feeder_jam : Meth K (He.ga K "Feeder") "jam" (He.fAd K ("Feeder", some "jam"))
  fd__law_do : FuncData
  F__law_do : FunD K "_law_do" "_law_do" (defArgs Hd.s__law_do) (defBody Hd.s__law_do) (defScope Hd.s__law_do) [] [] (He.fAd K ("_law_do", none)) fd__law_do
  b__law_do : Binds K fd__law_do ["_law_feeder_here", "_law_step_here"] []
  g__law_do : mg "_law_do" = some (.ref (He.fAd K ("_law_do", none)))
  fd__law_same : FuncData
  F__law_same : FunD K "_law_same" "_law_same" (defArgs Hd.s__law_same) (defBody Hd.s__law_same) (defScope Hd.s__law_same) [] [] (He.fAd K ("_law_same", none)) fd__law_same
  b__law_same : Binds K fd__law_same ["_law_found", "_law_due"] []
  g__law_same : mg "_law_same" = some (.ref (He.fAd K ("_law_same", none)))
  fd_troubles : FuncData
  F_troubles : FunD K "troubles" "troubles" (defArgs Hd.s_troubles) (defBody Hd.s_troubles) (defScope Hd.s_troubles) [] [] (He.fAd K ("troubles", none)) fd_troubles
  b_troubles : Binds K fd_troubles ["steps"] []
  g_troubles : mg "troubles" = some (.ref (He.fAd K ("troubles", none)))
  fd_need_rule : FuncData
  F_need_rule : FunD K "need_rule" "need_rule" (defArgs Hd.s_need_rule) (defBody Hd.s_need_rule) (defScope Hd.s_need_rule) [] [] (He.fAd K ("need_rule", none)) fd_need_rule
  b_need_rule : Binds K fd_need_rule ["rule"] []
  g_need_rule : mg "need_rule" = some (.ref (He.fAd K ("need_rule", none)))
  fd_is_scan : FuncData
  F_is_scan : FunD K "is_scan" "is_scan" (defArgs Hd.s_is_scan) (defBody Hd.s_is_scan) (defScope Hd.s_is_scan) [] [] (He.fAd K ("is_scan", none)) fd_is_scan
  b_is_scan : Binds K fd_is_scan ["sheets", "scan"] []
  g_is_scan : mg "is_scan" = some (.ref (He.fAd K ("is_scan", none)))
  fd_need_run : FuncData
  F_need_run : FunD K "need_run" "need_run" (defArgs Hd.s_need_run) (defBody Hd.s_need_run) (defScope Hd.s_need_run) [] [] (He.fAd K ("need_run", none)) fd_need_run
  b_need_run : Binds K fd_need_run ["sheets", "run"] []
  g_need_run : mg "need_run" = some (.ref (He.fAd K ("need_run", none)))
  fd_Finder___init__ : FuncData
  F_Finder___init__ : FunD K "__init__" "Finder.__init__" (defArgs Hd.s_Finder___init__) (defBody Hd.s_Finder___init__) (defScope Hd.s_Finder___init__) [] [] (He.fAd K ("Finder", some "__init__")) fd_Finder___init__
  b_Finder___init__ : Binds K fd_Finder___init__ ["self", "sheets", "rule", "run"] []
  fd_need_all : FuncData
  F_need_all : FunD K "need_all" "need_all" (defArgs Hd.s_need_all) (defBody Hd.s_need_all) (defScope Hd.s_need_all) [] [] (He.fAd K ("need_all", none)) fd_need_all
  b_need_all : Binds K fd_need_all ["sheets", "rule", "run"] []
  g_need_all : mg "need_all" = some (.ref (He.fAd K ("need_all", none)))
  fd_does_show : FuncData
  F_does_show : FunD K "does_show" "does_show" (defArgs Hd.s_does_show) (defBody Hd.s_does_show) (defScope Hd.s_does_show) [] [] (He.fAd K ("does_show", none)) fd_does_show
  b_does_show : Binds K fd_does_show ["scan", "first", "last"] []
  g_does_show : mg "does_show" = some (.ref (He.fAd K ("does_show", none)))
  fd_Finder_steps : FuncData
  F_Finder_steps : FunD K "steps" "Finder.steps" (defArgs Hd.s_Finder_steps) (defBody Hd.s_Finder_steps) (defScope Hd.s_Finder_steps) [] [] (He.fAd K ("Finder", some "steps")) fd_Finder_steps
  b_Finder_steps : Binds K fd_Finder_steps ["self", "place", "sheet", "doubles", "slips"] []
  h_Finder_steps : Meth K (He.ga K "Finder") "steps" (He.fAd K ("Finder", some "steps"))
  fd_Finder_firsts : FuncData
  F_Finder_firsts : FunD K "firsts" "Finder.firsts" (defArgs Hd.s_Finder_firsts) (defBody Hd.s_Finder_firsts) (defScope Hd.s_Finder_firsts) [] [] (He.fAd K ("Finder", some "firsts")) fd_Finder_firsts
  b_Finder_firsts : Binds K fd_Finder_firsts ["self"] []
  h_Finder_firsts : Meth K (He.ga K "Finder") "firsts" (He.fAd K ("Finder", some "firsts"))
  fd_Finder_count : FuncData
  F_Finder_count : FunD K "count" "Finder.count" (defArgs Hd.s_Finder_count) (defBody Hd.s_Finder_count) (defScope Hd.s_Finder_count) [] [] (He.fAd K ("Finder", some "count")) fd_Finder_count
  b_Finder_count : Binds K fd_Finder_count ["self", "place", "sheet", "doubles", "slips"] []
  h_Finder_count : Meth K (He.ga K "Finder") "count" (He.fAd K ("Finder", some "count"))
  fd_all_ways : FuncData
  F_all_ways : FunD K "all_ways" "all_ways" (defArgs Hd.s_all_ways) (defBody Hd.s_all_ways) (defScope Hd.s_all_ways) [] [] (He.fAd K ("all_ways", none)) fd_all_ways
  b_all_ways : Binds K fd_all_ways ["finder"] []
  g_all_ways : mg "all_ways" = some (.ref (He.fAd K ("all_ways", none)))
  fd_could : FuncData
  F_could : FunD K "could" "could" (defArgs Hd.s_could) (defBody Hd.s_could) (defScope Hd.s_could) [] [] (He.fAd K ("could", none)) fd_could
  b_could : Binds K fd_could ["sheets", "rule", "run"] []
  g_could : mg "could" = some (.ref (He.fAd K ("could", none)))
  fd__law_told : FuncData
  F__law_told : FunD K "_law_told" "_law_told" (defArgs Hd.s__law_told) (defBody Hd.s__law_told) (defScope Hd.s__law_told) [] [] (He.fAd K ("_law_told", none)) fd__law_told
  b__law_told : Binds K fd__law_told ["_law_steps", "_law_sheets"] []
  g__law_told : mg "_law_told" = some (.ref (He.fAd K ("_law_told", none)))
  fd__law_step : FuncData
  F__law_step : FunD K "_law_step" "_law_step" (defArgs Hd.s__law_step) (defBody Hd.s__law_step) (defScope Hd.s__law_step) [] [] (He.fAd K ("_law_step", none)) fd__law_step
  b__law_step : Binds K fd__law_step ["_law_state", "_law_sheets"] []
  g__law_step : mg "_law_step" = some (.ref (He.fAd K ("_law_step", none)))
  fd_law : FuncData
  F_law : FunD K "law" "law" (defArgs Hd.s_law) (defBody Hd.s_law) (defScope Hd.s_law) [] [] (He.fAd K ("law", none)) fd_law
  b_law : Binds K fd_law ["_law_script"] []
  g_law : mg "law" = some (.ref (He.fAd K ("law", none)))
  g_Feeder : mg "Feeder" = some (.ref (He.ga K "Feeder"))
  c_Feeder : Cls K (He.ga K "Feeder")
  m_Feeder : Mk K (He.ga K "Feeder") (He.fAd K ("Feeder", some "__init__"))
  n_Feeder_sheets : NoAttr K (He.ga K "Feeder") "sheets"
  n_Feeder_blind : NoAttr K (He.ga K "Feeder") "blind"
  n_Feeder_next : NoAttr K (He.ga K "Feeder") "next"
  n_Feeder_last : NoAttr K (He.ga K "Feeder") "last"
  n_Feeder_here : NoAttr K (He.ga K "Feeder") "here"
  n_Feeder_ended : NoAttr K (He.ga K "Feeder") "ended"
  g_Finder : mg "Finder" = some (.ref (He.ga K "Finder"))
  c_Finder : Cls K (He.ga K "Finder")
  m_Finder : Mk K (He.ga K "Finder") (He.fAd K ("Finder", some "__init__"))
  n_Finder_sheets : NoAttr K (He.ga K "Finder") "sheets"
  n_Finder_rule : NoAttr K (He.ga K "Finder") "rule"
  n_Finder_taken : NoAttr K (He.ga K "Finder") "taken"
  n_Finder_ways : NoAttr K (He.ga K "Finder") "ways"
  i_MOST_SHEETS : ∃ t, mg "MOST_SHEETS" = some (.int 30 t)
  i_MOST_SCANS : ∃ t, mg "MOST_SCANS" = some (.int 20 t)
  i_MOST_DOUBLES : ∃ t, mg "MOST_DOUBLES" = some (.int 3 t)
  i_MOST_SLIPS : ∃ t, mg "MOST_SLIPS" = some (.int 3 t)
  f_ValueError : mg "ValueError" = none
  f_bool : mg "bool" = none
  f_enumerate : mg "enumerate" = none
  f_int : mg "int" = none
  f_isinstance : mg "isinstance" = none
  f_len : mg "len" = none
  f_list : mg "list" = none
  f_max : mg "max" = none
  f_min : mg "min" = none
  f_range : mg "range" = none
  f_set : mg "set" = none
  f_sorted : mg "sorted" = none
  f_str : mg "str" = none
  f_sum : mg "sum" = none
  f_tuple : mg "tuple" = none
  f_zip : mg "zip" = none
theorem Hyp.of {K : Fr} {h : Heap} {mg : Str → Option Value} (X : K.In h) (G : h.Ns mainGlobals mg) (c : He.SaysD Hd.fa Hd.fn K) : Nonempty (Hyp K mg) := by
  obtain ⟨fd__law_start, F__law_start⟩ := c.def_ 29 (d := Hd.d__law_start) rfl
  have b__law_start : Binds K fd__law_start ["_law_script"] [] := FunD.bindsN (x := "_law_start") (qual := "_law_start") (params := defArgs Hd.s__law_start) (body := defBody Hd.s__law_start) (scope := defScope Hd.s__law_start) F__law_start fun _ _ _ _ _ _ us hl => match us, hl with | [_], _ => rfl
  obtain ⟨fd__law_drawn, F__law_drawn⟩ := c.def_ 30 (d := Hd.d__law_drawn) rfl
  have b__law_drawn : Binds K fd__law_drawn ["_law_state", "_law_many"] [] := FunD.bindsN (x := "_law_drawn") (qual := "_law_drawn") (params := defArgs Hd.s__law_drawn) (body := defBody Hd.s__law_drawn) (scope := defScope Hd.s__law_drawn) F__law_drawn fun _ _ _ _ _ _ us hl => match us, hl with | [_, _], _ => rfl
  obtain ⟨fd__law_worst, F__law_worst⟩ := c.def_ 43 (d := Hd.d__law_worst) rfl
  have b__law_worst : Binds K fd__law_worst ["_law_trues"] [] := FunD.bindsN (x := "_law_worst") (qual := "_law_worst") (params := defArgs Hd.s__law_worst) (body := defBody Hd.s__law_worst) (scope := defScope Hd.s__law_worst) F__law_worst fun _ _ _ _ _ _ us hl => match us, hl with | [_], _ => rfl
  obtain ⟨fd_is_number, F_is_number⟩ := c.def_ 1 (d := Hd.d_is_number) rfl
  have b_is_number : Binds K fd_is_number ["thing", "low", "high"] [] := FunD.bindsN (x := "is_number") (qual := "is_number") (params := defArgs Hd.s_is_number) (body := defBody Hd.s_is_number) (scope := defScope Hd.s_is_number) F_is_number fun _ _ _ _ _ _ us hl => match us, hl with | [_, _, _], _ => rfl
  obtain ⟨fd_need_book, F_need_book⟩ := c.def_ 2 (d := Hd.d_need_book) rfl
  have b_need_book : Binds K fd_need_book ["sheets"] [] := FunD.bindsN (x := "need_book") (qual := "need_book") (params := defArgs Hd.s_need_book) (body := defBody Hd.s_need_book) (scope := defScope Hd.s_need_book) F_need_book fun _ _ _ _ _ _ us hl => match us, hl with | [_], _ => rfl
  obtain ⟨fd_Feeder___init__, F_Feeder___init__⟩ := c.def_ 7 (d := Hd.d_Feeder___init__) rfl
  have b_Feeder___init__ : Binds K fd_Feeder___init__ ["self", "sheets", "blind"] [] := FunD.bindsN (x := "__init__") (qual := "Feeder.__init__") (params := defArgs Hd.s_Feeder___init__) (body := defBody Hd.s_Feeder___init__) (scope := defScope Hd.s_Feeder___init__) F_Feeder___init__ fun _ _ _ _ _ _ us hl => match us, hl with | [_, _, _], _ => rfl
  obtain ⟨fd__law_feeder, F__law_feeder⟩ := c.def_ 39 (d := Hd.d__law_feeder) rfl
  have b__law_feeder : Binds K fd__law_feeder ["_law_sheets", "_law_blind_here"] [] := FunD.bindsN (x := "_law_feeder") (qual := "_law_feeder") (params := defArgs Hd.s__law_feeder) (body := defBody Hd.s__law_feeder) (scope := defScope Hd.s__law_feeder) F__law_feeder fun _ _ _ _ _ _ us hl => match us, hl with | [_, _], _ => rfl
  obtain ⟨fd__law_over, F__law_over⟩ := c.def_ 41 (d := Hd.d__law_over) rfl
  have b__law_over : Binds K fd__law_over ["_law_w"] [] := FunD.bindsN (x := "_law_over") (qual := "_law_over") (params := defArgs Hd.s__law_over) (body := defBody Hd.s__law_over) (scope := defScope Hd.s__law_over) F__law_over fun _ _ _ _ _ _ us hl => match us, hl with | [_], _ => rfl
  obtain ⟨fd__law_through, F__law_through⟩ := c.def_ 40 (d := Hd.d__law_through) rfl
  have b__law_through : Binds K fd__law_through ["_law_w", "_law_many", "_law_is_read"] [] := FunD.bindsN (x := "_law_through") (qual := "_law_through") (params := defArgs Hd.s__law_through) (body := defBody Hd.s__law_through) (scope := defScope Hd.s__law_through) F__law_through fun _ _ _ _ _ _ us hl => match us, hl with | [_, _, _], _ => rfl
  obtain ⟨fd__law_does, F__law_does⟩ := c.def_ 42 (d := Hd.d__law_does) rfl
  have b__law_does : Binds K fd__law_does ["_law_w", "_law_step_here"] [] := FunD.bindsN (x := "_law_does") (qual := "_law_does") (params := defArgs Hd.s__law_does) (body := defBody Hd.s__law_does) (scope := defScope Hd.s__law_does) F__law_does fun _ _ _ _ _ _ us hl => match us, hl with | [_, _], _ => rfl
  obtain ⟨fd_Feeder_runs, F_Feeder_runs⟩ := c.def_ 20 (d := Hd.d_Feeder_runs) rfl
  have b_Feeder_runs : Binds K fd_Feeder_runs ["self"] [] := FunD.bindsN (x := "runs") (qual := "Feeder.runs") (params := defArgs Hd.s_Feeder_runs) (body := defBody Hd.s_Feeder_runs) (scope := defScope Hd.s_Feeder_runs) F_Feeder_runs fun _ _ _ _ _ _ us hl => match us, hl with | [_], _ => rfl
  obtain ⟨fd_Feeder_put, F_Feeder_put⟩ := c.def_ 8 (d := Hd.d_Feeder_put) rfl
  have b_Feeder_put : Binds K fd_Feeder_put ["self", "low", "high"] [] := FunD.bindsN (x := "put") (qual := "Feeder.put") (params := defArgs Hd.s_Feeder_put) (body := defBody Hd.s_Feeder_put) (scope := defScope Hd.s_Feeder_put) F_Feeder_put fun _ _ _ _ _ _ us hl => match us, hl with | [_, _, _], _ => rfl
  obtain ⟨fd_Feeder_need_sheets, F_Feeder_need_sheets⟩ := c.def_ 9 (d := Hd.d_Feeder_need_sheets) rfl
  have b_Feeder_need_sheets : Binds K fd_Feeder_need_sheets ["self", "count"] [] := FunD.bindsN (x := "need_sheets") (qual := "Feeder.need_sheets") (params := defArgs Hd.s_Feeder_need_sheets) (body := defBody Hd.s_Feeder_need_sheets) (scope := defScope Hd.s_Feeder_need_sheets) F_Feeder_need_sheets fun _ _ _ _ _ _ us hl => match us, hl with | [_, _], _ => rfl
  obtain ⟨fd_Feeder_end_run, F_Feeder_end_run⟩ := c.def_ 13 (d := Hd.d_Feeder_end_run) rfl
  have b_Feeder_end_run : Binds K fd_Feeder_end_run ["self"] [] := FunD.bindsN (x := "end_run") (qual := "Feeder.end_run") (params := defArgs Hd.s_Feeder_end_run) (body := defBody Hd.s_Feeder_end_run) (scope := defScope Hd.s_Feeder_end_run) F_Feeder_end_run fun _ _ _ _ _ _ us hl => match us, hl with | [_], _ => rfl
  obtain ⟨fd_Feeder_pass_by, F_Feeder_pass_by⟩ := c.def_ 12 (d := Hd.d_Feeder_pass_by) rfl
  have b_Feeder_pass_by : Binds K fd_Feeder_pass_by ["self", "count"] [] := FunD.bindsN (x := "pass_by") (qual := "Feeder.pass_by") (params := defArgs Hd.s_Feeder_pass_by) (body := defBody Hd.s_Feeder_pass_by) (scope := defScope Hd.s_Feeder_pass_by) F_Feeder_pass_by fun _ _ _ _ _ _ us hl => match us, hl with | [_, _], _ => rfl
  obtain ⟨fd_Feeder_read_page, F_Feeder_read_page⟩ := c.def_ 10 (d := Hd.d_Feeder_read_page) rfl
  have b_Feeder_read_page : Binds K fd_Feeder_read_page ["self", "page"] [] := FunD.bindsN (x := "read_page") (qual := "Feeder.read_page") (params := defArgs Hd.s_Feeder_read_page) (body := defBody Hd.s_Feeder_read_page) (scope := defScope Hd.s_Feeder_read_page) F_Feeder_read_page fun _ _ _ _ _ _ us hl => match us, hl with | [_, _], _ => rfl
  obtain ⟨fd_Feeder_take, F_Feeder_take⟩ := c.def_ 11 (d := Hd.d_Feeder_take) rfl
  have b_Feeder_take : Binds K fd_Feeder_take ["self", "count"] [] := FunD.bindsN (x := "take") (qual := "Feeder.take") (params := defArgs Hd.s_Feeder_take) (body := defBody Hd.s_Feeder_take) (scope := defScope Hd.s_Feeder_take) F_Feeder_take fun _ _ _ _ _ _ us hl => match us, hl with | [_, _], _ => rfl
  obtain ⟨fd_Feeder_feed, F_Feeder_feed⟩ := c.def_ 14 (d := Hd.d_Feeder_feed) rfl
  have b_Feeder_feed : Binds K fd_Feeder_feed ["self"] [] := FunD.bindsN (x := "feed") (qual := "Feeder.feed") (params := defArgs Hd.s_Feeder_feed) (body := defBody Hd.s_Feeder_feed) (scope := defScope Hd.s_Feeder_feed) F_Feeder_feed fun _ _ _ _ _ _ us hl => match us, hl with | [_], _ => rfl
  obtain ⟨fd_Feeder_twice, F_Feeder_twice⟩ := c.def_ 15 (d := Hd.d_Feeder_twice) rfl
  have b_Feeder_twice : Binds K fd_Feeder_twice ["self"] [] := FunD.bindsN (x := "twice") (qual := "Feeder.twice") (params := defArgs Hd.s_Feeder_twice) (body := defBody Hd.s_Feeder_twice) (scope := defScope Hd.s_Feeder_twice) F_Feeder_twice fun _ _ _ _ _ _ us hl => match us, hl with | [_], _ => rfl
  obtain ⟨fd_Feeder_slip, F_Feeder_slip⟩ := c.def_ 16 (d := Hd.d_Feeder_slip) rfl
  have b_Feeder_slip : Binds K fd_Feeder_slip ["self"] [] := FunD.bindsN (x := "slip") (qual := "Feeder.slip") (params := defArgs Hd.s_Feeder_slip) (body := defBody Hd.s_Feeder_slip) (scope := defScope Hd.s_Feeder_slip) F_Feeder_slip fun _ _ _ _ _ _ us hl => match us, hl with | [_], _ => rfl
  obtain ⟨fd_Feeder_jam, F_Feeder_jam⟩ := c.def_ 17 (d := Hd.d_Feeder_jam) rfl
  have b_Feeder_jam : Binds K fd_Feeder_jam ["self"] [] := FunD.bindsN (x := "jam") (qual := "Feeder.jam") (params := defArgs Hd.s_Feeder_jam) (body := defBody Hd.s_Feeder_jam) (scope := defScope Hd.s_Feeder_jam) F_Feeder_jam fun _ _ _ _ _ _ us hl => match us, hl with | [_], _ => rfl
  obtain ⟨fd__law_do, F__law_do⟩ := c.def_ 38 (d := Hd.d__law_do) rfl
  have b__law_do : Binds K fd__law_do ["_law_feeder_here", "_law_step_here"] [] := FunD.bindsN (x := "_law_do") (qual := "_law_do") (params := defArgs Hd.s__law_do) (body := defBody Hd.s__law_do) (scope := defScope Hd.s__law_do) F__law_do fun _ _ _ _ _ _ us hl => match us, hl with | [_, _], _ => rfl
  obtain ⟨fd__law_same, F__law_same⟩ := c.def_ 31 (d := Hd.d__law_same) rfl
  have b__law_same : Binds K fd__law_same ["_law_found", "_law_due"] [] := FunD.bindsN (x := "_law_same") (qual := "_law_same") (params := defArgs Hd.s__law_same) (body := defBody Hd.s__law_same) (scope := defScope Hd.s__law_same) F__law_same fun _ _ _ _ _ _ us hl => match us, hl with | [_, _], _ => rfl
  obtain ⟨fd_troubles, F_troubles⟩ := c.def_ 21 (d := Hd.d_troubles) rfl
  have b_troubles : Binds K fd_troubles ["steps"] [] := FunD.bindsN (x := "troubles") (qual := "troubles") (params := defArgs Hd.s_troubles) (body := defBody Hd.s_troubles) (scope := defScope Hd.s_troubles) F_troubles fun _ _ _ _ _ _ us hl => match us, hl with | [_], _ => rfl
  obtain ⟨fd_need_rule, F_need_rule⟩ := c.def_ 3 (d := Hd.d_need_rule) rfl
  have b_need_rule : Binds K fd_need_rule ["rule"] [] := FunD.bindsN (x := "need_rule") (qual := "need_rule") (params := defArgs Hd.s_need_rule) (body := defBody Hd.s_need_rule) (scope := defScope Hd.s_need_rule) F_need_rule fun _ _ _ _ _ _ us hl => match us, hl with | [_], _ => rfl
  obtain ⟨fd_is_scan, F_is_scan⟩ := c.def_ 4 (d := Hd.d_is_scan) rfl
  have b_is_scan : Binds K fd_is_scan ["sheets", "scan"] [] := FunD.bindsN (x := "is_scan") (qual := "is_scan") (params := defArgs Hd.s_is_scan) (body := defBody Hd.s_is_scan) (scope := defScope Hd.s_is_scan) F_is_scan fun _ _ _ _ _ _ us hl => match us, hl with | [_, _], _ => rfl
  obtain ⟨fd_need_run, F_need_run⟩ := c.def_ 5 (d := Hd.d_need_run) rfl
  have b_need_run : Binds K fd_need_run ["sheets", "run"] [] := FunD.bindsN (x := "need_run") (qual := "need_run") (params := defArgs Hd.s_need_run) (body := defBody Hd.s_need_run) (scope := defScope Hd.s_need_run) F_need_run fun _ _ _ _ _ _ us hl => match us, hl with | [_, _], _ => rfl
  obtain ⟨fd_Finder___init__, F_Finder___init__⟩ := c.def_ 22 (d := Hd.d_Finder___init__) rfl
  have b_Finder___init__ : Binds K fd_Finder___init__ ["self", "sheets", "rule", "run"] [] := FunD.bindsN (x := "__init__") (qual := "Finder.__init__") (params := defArgs Hd.s_Finder___init__) (body := defBody Hd.s_Finder___init__) (scope := defScope Hd.s_Finder___init__) F_Finder___init__ fun _ _ _ _ _ _ us hl => match us, hl with | [_, _, _, _], _ => rfl
  obtain ⟨fd_need_all, F_need_all⟩ := c.def_ 27 (d := Hd.d_need_all) rfl
  have b_need_all : Binds K fd_need_all ["sheets", "rule", "run"] [] := FunD.bindsN (x := "need_all") (qual := "need_all") (params := defArgs Hd.s_need_all) (body := defBody Hd.s_need_all) (scope := defScope Hd.s_need_all) F_need_all fun _ _ _ _ _ _ us hl => match us, hl with | [_, _, _], _ => rfl
  obtain ⟨fd_does_show, F_does_show⟩ := c.def_ 6 (d := Hd.d_does_show) rfl
  have b_does_show : Binds K fd_does_show ["scan", "first", "last"] [] := FunD.bindsN (x := "does_show") (qual := "does_show") (params := defArgs Hd.s_does_show) (body := defBody Hd.s_does_show) (scope := defScope Hd.s_does_show) F_does_show fun _ _ _ _ _ _ us hl => match us, hl with | [_, _, _], _ => rfl
  obtain ⟨fd_Finder_steps, F_Finder_steps⟩ := c.def_ 23 (d := Hd.d_Finder_steps) rfl
  have b_Finder_steps : Binds K fd_Finder_steps ["self", "place", "sheet", "doubles", "slips"] [] := FunD.bindsN (x := "steps") (qual := "Finder.steps") (params := defArgs Hd.s_Finder_steps) (body := defBody Hd.s_Finder_steps) (scope := defScope Hd.s_Finder_steps) F_Finder_steps fun _ _ _ _ _ _ us hl => match us, hl with | [_, _, _, _, _], _ => rfl
  obtain ⟨fd_Finder_firsts, F_Finder_firsts⟩ := c.def_ 25 (d := Hd.d_Finder_firsts) rfl
  have b_Finder_firsts : Binds K fd_Finder_firsts ["self"] [] := FunD.bindsN (x := "firsts") (qual := "Finder.firsts") (params := defArgs Hd.s_Finder_firsts) (body := defBody Hd.s_Finder_firsts) (scope := defScope Hd.s_Finder_firsts) F_Finder_firsts fun _ _ _ _ _ _ us hl => match us, hl with | [_], _ => rfl
  obtain ⟨fd_Finder_count, F_Finder_count⟩ := c.def_ 24 (d := Hd.d_Finder_count) rfl
  have b_Finder_count : Binds K fd_Finder_count ["self", "place", "sheet", "doubles", "slips"] [] := FunD.bindsN (x := "count") (qual := "Finder.count") (params := defArgs Hd.s_Finder_count) (body := defBody Hd.s_Finder_count) (scope := defScope Hd.s_Finder_count) F_Finder_count fun _ _ _ _ _ _ us hl => match us, hl with | [_, _, _, _, _], _ => rfl
  obtain ⟨fd_all_ways, F_all_ways⟩ := c.def_ 26 (d := Hd.d_all_ways) rfl
  have b_all_ways : Binds K fd_all_ways ["finder"] [] := FunD.bindsN (x := "all_ways") (qual := "all_ways") (params := defArgs Hd.s_all_ways) (body := defBody Hd.s_all_ways) (scope := defScope Hd.s_all_ways) F_all_ways fun _ _ _ _ _ _ us hl => match us, hl with | [_], _ => rfl
  obtain ⟨fd_could, F_could⟩ := c.def_ 28 (d := Hd.d_could) rfl
  have b_could : Binds K fd_could ["sheets", "rule", "run"] [] := FunD.bindsN (x := "could") (qual := "could") (params := defArgs Hd.s_could) (body := defBody Hd.s_could) (scope := defScope Hd.s_could) F_could fun _ _ _ _ _ _ us hl => match us, hl with | [_, _, _], _ => rfl
  obtain ⟨fd__law_told, F__law_told⟩ := c.def_ 44 (d := Hd.d__law_told) rfl
  have b__law_told : Binds K fd__law_told ["_law_steps", "_law_sheets"] [] := FunD.bindsN (x := "_law_told") (qual := "_law_told") (params := defArgs Hd.s__law_told) (body := defBody Hd.s__law_told) (scope := defScope Hd.s__law_told) F__law_told fun _ _ _ _ _ _ us hl => match us, hl with | [_, _], _ => rfl
  obtain ⟨fd__law_step, F__law_step⟩ := c.def_ 37 (d := Hd.d__law_step) rfl
  have b__law_step : Binds K fd__law_step ["_law_state", "_law_sheets"] [] := FunD.bindsN (x := "_law_step") (qual := "_law_step") (params := defArgs Hd.s__law_step) (body := defBody Hd.s__law_step) (scope := defScope Hd.s__law_step) F__law_step fun _ _ _ _ _ _ us hl => match us, hl with | [_, _], _ => rfl
  obtain ⟨fd_law, F_law⟩ := c.def_ 45 (d := Hd.d_law) rfl
  have b_law : Binds K fd_law ["_law_script"] [] := FunD.bindsN (x := "law") (qual := "law") (params := defArgs Hd.s_law) (body := defBody Hd.s_law) (scope := defScope Hd.s_law) F_law fun _ _ _ _ _ _ us hl => match us, hl with | [_], _ => rfl
  exact ⟨⟨fd__law_start,
    F__law_start,
    b__law_start,
    (He.glo_ok X G (c.fact 10 (f := .glo "_law_start") rfl)),
    fd__law_drawn,
    F__law_drawn,
    b__law_drawn,
    (He.glo_ok X G (c.fact 11 (f := .glo "_law_drawn") rfl)),
    fd__law_worst,
    F__law_worst,
    b__law_worst,
    (He.glo_ok X G (c.fact 24 (f := .glo "_law_worst") rfl)),
    fd_is_number,
    F_is_number,
    b_is_number,
    (He.glo_ok X G (c.fact 0 (f := .glo "is_number") rfl)),
    fd_need_book,
    F_need_book,
    b_need_book,
    (He.glo_ok X G (c.fact 1 (f := .glo "need_book") rfl)),
    fd_Feeder___init__,
    F_Feeder___init__,
    b_Feeder___init__,
    fd__law_feeder,
    F__law_feeder,
    b__law_feeder,
    (He.glo_ok X G (c.fact 20 (f := .glo "_law_feeder") rfl)),
    fd__law_over,
    F__law_over,
    b__law_over,
    (He.glo_ok X G (c.fact 22 (f := .glo "_law_over") rfl)),
    fd__law_through,
    F__law_through,
    b__law_through,
    (He.glo_ok X G (c.fact 21 (f := .glo "_law_through") rfl)),
    fd__law_does,
    F__law_does,
    b__law_does,
    (He.glo_ok X G (c.fact 23 (f := .glo "_law_does") rfl)),
    fd_Feeder_runs,
    F_Feeder_runs,
    b_Feeder_runs,
    (He.meth_ok (c.fact 49 (f := .meth "Feeder" "runs") rfl)),
    fd_Feeder_put,
    F_Feeder_put,
    b_Feeder_put,
    (He.meth_ok (c.fact 37 (f := .meth "Feeder" "put") rfl)),
    fd_Feeder_need_sheets,
    F_Feeder_need_sheets,
    b_Feeder_need_sheets,
    (He.meth_ok (c.fact 38 (f := .meth "Feeder" "need_sheets") rfl)),
    fd_Feeder_end_run,
    F_Feeder_end_run,
    b_Feeder_end_run,
    (He.meth_ok (c.fact 42 (f := .meth "Feeder" "end_run") rfl)),
    fd_Feeder_pass_by,
    F_Feeder_pass_by,
    b_Feeder_pass_by,
    (He.meth_ok (c.fact 41 (f := .meth "Feeder" "pass_by") rfl)),
    fd_Feeder_read_page,
    F_Feeder_read_page,
    b_Feeder_read_page,
    (He.meth_ok (c.fact 39 (f := .meth "Feeder" "read_page") rfl)),
    fd_Feeder_take,
    F_Feeder_take,
    b_Feeder_take,
    (He.meth_ok (c.fact 40 (f := .meth "Feeder" "take") rfl)),
    fd_Feeder_feed,
    F_Feeder_feed,
    b_Feeder_feed,
    (He.meth_ok (c.fact 43 (f := .meth "Feeder" "feed") rfl)),
    fd_Feeder_twice,
    F_Feeder_twice,
    b_Feeder_twice,
    (He.meth_ok (c.fact 44 (f := .meth "Feeder" "twice") rfl)),
    fd_Feeder_slip,
    F_Feeder_slip,
    b_Feeder_slip,
    (He.meth_ok (c.fact 45 (f := .meth "Feeder" "slip") rfl)),
    fd_Feeder_jam,
    F_Feeder_jam,
    b_Feeder_jam,
    (He.meth_ok (c.fact 46 (f := .meth "Feeder" "jam") rfl)),
    fd__law_do,
    F__law_do,
    b__law_do,
    (He.glo_ok X G (c.fact 19 (f := .glo "_law_do") rfl)),
    fd__law_same,
    F__law_same,
    b__law_same,
    (He.glo_ok X G (c.fact 12 (f := .glo "_law_same") rfl)),
    fd_troubles,
    F_troubles,
    b_troubles,
    (He.glo_ok X G (c.fact 6 (f := .glo "troubles") rfl)),
    fd_need_rule,
    F_need_rule,
    b_need_rule,
    (He.glo_ok X G (c.fact 2 (f := .glo "need_rule") rfl)),
    fd_is_scan,
    F_is_scan,
    b_is_scan,
    (He.glo_ok X G (c.fact 3 (f := .glo "is_scan") rfl)),
    fd_need_run,
    F_need_run,
    b_need_run,
    (He.glo_ok X G (c.fact 4 (f := .glo "need_run") rfl)),
    fd_Finder___init__,
    F_Finder___init__,
    b_Finder___init__,
    fd_need_all,
    F_need_all,
    b_need_all,
    (He.glo_ok X G (c.fact 8 (f := .glo "need_all") rfl)),
    fd_does_show,
    F_does_show,
    b_does_show,
    (He.glo_ok X G (c.fact 5 (f := .glo "does_show") rfl)),
    fd_Finder_steps,
    F_Finder_steps,
    b_Finder_steps,
    (He.meth_ok (c.fact 58 (f := .meth "Finder" "steps") rfl)),
    fd_Finder_firsts,
    F_Finder_firsts,
    b_Finder_firsts,
    (He.meth_ok (c.fact 60 (f := .meth "Finder" "firsts") rfl)),
    fd_Finder_count,
    F_Finder_count,
    b_Finder_count,
    (He.meth_ok (c.fact 59 (f := .meth "Finder" "count") rfl)),
    fd_all_ways,
    F_all_ways,
    b_all_ways,
    (He.glo_ok X G (c.fact 7 (f := .glo "all_ways") rfl)),
    fd_could,
    F_could,
    b_could,
    (He.glo_ok X G (c.fact 9 (f := .glo "could") rfl)),
    fd__law_told,
    F__law_told,
    b__law_told,
    (He.glo_ok X G (c.fact 25 (f := .glo "_law_told") rfl)),
    fd__law_step,
    F__law_step,
    b__law_step,
    (He.glo_ok X G (c.fact 18 (f := .glo "_law_step") rfl)),
    fd_law,
    F_law,
    b_law,
    (He.glo_ok X G (c.fact 26 (f := .glo "law") rfl)),
    (He.glo_ok X G (c.fact 27 (f := .glo "Feeder") rfl)),
    (He.cls_ok (c.fact 28 (f := .cls "Feeder") rfl)),
    (He.mkr_ok (c.fact 29 (f := .mkr "Feeder") rfl)),
    (He.noat_ok (c.fact 30 (f := .noat "Feeder" "sheets") rfl)),
    (He.noat_ok (c.fact 31 (f := .noat "Feeder" "blind") rfl)),
    (He.noat_ok (c.fact 32 (f := .noat "Feeder" "next") rfl)),
    (He.noat_ok (c.fact 33 (f := .noat "Feeder" "last") rfl)),
    (He.noat_ok (c.fact 34 (f := .noat "Feeder" "here") rfl)),
    (He.noat_ok (c.fact 35 (f := .noat "Feeder" "ended") rfl)),
    (He.glo_ok X G (c.fact 50 (f := .glo "Finder") rfl)),
    (He.cls_ok (c.fact 51 (f := .cls "Finder") rfl)),
    (He.mkr_ok (c.fact 52 (f := .mkr "Finder") rfl)),
    (He.noat_ok (c.fact 53 (f := .noat "Finder" "sheets") rfl)),
    (He.noat_ok (c.fact 54 (f := .noat "Finder" "rule") rfl)),
    (He.noat_ok (c.fact 55 (f := .noat "Finder" "taken") rfl)),
    (He.noat_ok (c.fact 56 (f := .noat "Finder" "ways") rfl)),
    (He.int_ok X G (c.fact 77 (f := .int "MOST_SHEETS" 30) rfl)),
    (He.int_ok X G (c.fact 78 (f := .int "MOST_SCANS" 20) rfl)),
    (He.int_ok X G (c.fact 79 (f := .int "MOST_DOUBLES" 3) rfl)),
    (He.int_ok X G (c.fact 80 (f := .int "MOST_SLIPS" 3) rfl)),
    (He.free_ok X G (c.fact 81 (f := .free "ValueError") rfl)),
    (He.free_ok X G (c.fact 82 (f := .free "bool") rfl)),
    (He.free_ok X G (c.fact 83 (f := .free "enumerate") rfl)),
    (He.free_ok X G (c.fact 84 (f := .free "int") rfl)),
    (He.free_ok X G (c.fact 85 (f := .free "isinstance") rfl)),
    (He.free_ok X G (c.fact 86 (f := .free "len") rfl)),
    (He.free_ok X G (c.fact 87 (f := .free "list") rfl)),
    (He.free_ok X G (c.fact 88 (f := .free "max") rfl)),
    (He.free_ok X G (c.fact 89 (f := .free "min") rfl)),
    (He.free_ok X G (c.fact 90 (f := .free "range") rfl)),
    (He.free_ok X G (c.fact 91 (f := .free "set") rfl)),
    (He.free_ok X G (c.fact 92 (f := .free "sorted") rfl)),
    (He.free_ok X G (c.fact 93 (f := .free "str") rfl)),
    (He.free_ok X G (c.fact 94 (f := .free "sum") rfl)),
    (He.free_ok X G (c.fact 95 (f := .free "tuple") rfl)),
    (He.free_ok X G (c.fact 96 (f := .free "zip") rfl))⟩⟩
def F__law_feeder (x : Bool) : FS := (fRet (toR (fDcN (fKCons "sheets" (fV 0) (fKCons "blind" (fV 1) (fKCons "wait" (ofR (fLst fANil)) (fKCons "run" (ofR (fLst fANil)) (fKCons "true" (ofR (fLst fANil)) (fKCons "runs" (ofR (fLst fANil)) (fKCons "trues" (ofR (fLst fANil)) fKNil))))))))))
def S__law_feeder (x : Bool) : Sem1 := bodyS 2 (F__law_feeder x)
def F__law_over (x : Bool) : FS := (fSeq (fIfS (fCmp neT (toO (fDcG 0 "run")) (toO (ofR (fLst fANil)))) (fAsgX [.ky 0 "runs", .ky 0 "trues"] (fTup (fACons (fOp2 addT (toO (fDcG 0 "runs")) (toO (ofR (fLst (fACons (fDcG 0 "run") fANil))))) (fACons (fOp2 addT (toO (fDcG 0 "trues")) (toO (ofR (fLst (fACons (fDcG 0 "true") fANil))))) fANil)))) fNext)
  (fAsgX [.ky 0 "wait", .ky 0 "run", .ky 0 "true"] (fTup (fACons (ofR (fLst fANil)) (fACons (ofR (fLst fANil)) (fACons (ofR (fLst fANil)) fANil))))))
def S__law_over (x : Bool) : Sem1 := bodyS 1 (F__law_over x)
def F__law_through (x : Bool) : FS := (fSeq (fAsgX [.nm 3, .ky 0 "wait"] (fTup (fACons (fSl (toO (fDcG 0 "wait")) fPN (fPS (fP 1))) (fACons (fSl (toO (fDcG 0 "wait")) (fPS (fP 1)) fPN) fANil))))
  (fSeq (fPar [4, 5] (fRCons (fLst (fACons (fOp2 mulT (toO (fC (.int 2))) (toO (fOp2 ixT (fP 3) (toO (fC (.int 0)))))) (fACons (fOp2 addT (toO (fOp2 mulT (toO (fC (.int 2))) (toO (fOp2 ixT (fP 3) (toO (fC (.int (-1)))))))) (toO (fC (.int 1)))) fANil))) (fRCons (toR (fC .none)) fRNil)))
  (fSeq (fIfS (fEB (fV 2)) (fFrz 4 (fSeq (fSet 5 (fCB tupleT (fLCons (toO (ofR (fComp [6] (gN 6) (fItD (fV 4)) fYes (fIf (fCmp inT (fP 6) (toO (fDcG 0 "blind"))) (fC .none) (fV 6))))) fLNil)))
  (fSeq (fDcP 0 "run" (fOp2 addT (toO (fDcG 0 "run")) (toO (ofR (fLst (fACons (fV 5) fANil))))))
  (fDcP 0 "true" (fOp2 addT (toO (fDcG 0 "true")) (toO (ofR (fLst (fACons (fTup (fACons (fOp2 ixT (fP 3) (toO (fC (.int 0)))) (fACons (fOp2 ixT (fP 3) (toO (fC (.int (-1))))) fANil))) fANil))))))))) fNext)
  (fSeq (fIfS (fCmp eqT (toO (fDcG 0 "wait")) (toO (ofR (fLst fANil)))) (fExp (ofR (fCallF x 1 (S__law_over x) (fACons (fV 0) fANil)))) fNext)
  (fRet (toR (fV 5)))))))
def S__law_through (x : Bool) : Sem1 := bodyS 7 (F__law_through x)
def F__law_does (x : Bool) : FS := (fSeq (fSet 2 (fOp2 ixT (fP 1) (toO (fC (.int 0)))))
  (fSeq (fIfS (fCmp eqT (fP 2) (toO (fC (.str "put")))) (fSeq (fIfS (fNot (fChain3 leT leT ltT (toO (fC (.int 0))) (toO (fOp2 ixT (fP 1) (toO (fC (.int 1))))) (toO (fOp2 ixT (fP 1) (toO (fC (.int 2))))) (toO (fDcG 0 "sheets")))) (fRet (toR (fTup (fACons (fC (.str "BadStack")) (fACons (fC (.int 0)) fANil))))) fNext)
  (fSeq (fIfS (fCmp neT (toO (fDcG 0 "wait")) (toO (ofR (fLst fANil)))) (fRet (toR (fTup (fACons (fC (.str "Busy")) (fACons (fC (.int 0)) fANil))))) fNext)
  (fSeq (fDcP 0 "wait" (ofR (fLRg2 (toO (fOp2 ixT (fP 1) (toO (fC (.int 1))))) (toO (fOp2 addT (toO (fOp2 ixT (fP 1) (toO (fC (.int 2))))) (toO (fC (.int 1))))))))
  (fRet (toR (fC .none)))))) fNext)
  (fSeq (fSet 3 (fOp2 addT (toO (fC (.int 1))) (toO (fCB intT (fLCons (toO (fBE (fCmp eqT (fP 2) (toO (fC (.str "twice")))))) fLNil)))))
  (fSeq (fIfS (fCmp ltT (toO (fCB lenT (fLCons (toO (fDcG 0 "wait")) fLNil))) (fP 3)) (fRet (toR (fTup (fACons (fC (.str "NoSheet")) (fACons (fC (.int 0)) fANil))))) fNext)
  (fSeq (fIfS (fCmp eqT (fP 2) (toO (fC (.str "jam")))) (fRet (fCallF x 1 (S__law_over x) (fACons (fV 0) fANil))) fNext)
  (fRet (fCallF x 3 (S__law_through x) (fACons (fV 0) (fACons (fV 3) (fACons (fBE (fCmp neT (fP 2) (toO (fC (.str "slip"))))) fANil))))))))))
def S__law_does (x : Bool) : Sem1 := bodyS 4 (F__law_does x)
def F__law_told (x : Bool) : FS := (fSeq (fPar [5, 6, 7] (fRCons (toR (fMakeF x "Feeder" 3 (S_Feeder___init__ x) (fACons (fV 1) (fACons (fTup fANil) fANil)))) (fRCons (fCallF x 2 (S__law_feeder x) (fACons (fV 1) (fACons (fTup fANil) fANil))) (fRCons (fLst fANil) fRNil))))
  (fSeq (fFor (gN 2) (fItD (fV 0)) (fFrz 6 (fSeq (fSetR 8 (fCallF x 2 (S__law_does x) (fACons (fV 6) (fACons (fV 2) fANil))))
  (fIfS (fCmp ninT (fP 8) (toO (ofR (fLst (fACons (fTup (fACons (fC (.str "BadStack")) (fACons (fC (.int 0)) fANil))) (fACons (fTup (fACons (fC (.str "Busy")) (fACons (fC (.int 0)) fANil))) (fACons (fTup (fACons (fC (.str "NoSheet")) (fACons (fC (.int 0)) fANil))) fANil))))))) (fSeq (fExp (ofR (fCallF x 2 (S__law_do x) (fACons (fV 5) (fACons (fV 2) fANil)))))
  (fApp 7 (fV 2))) fNext))))
  (fSeq (fSetR 3 (fCallF x 1 (S__law_worst x) (fACons (fOp2 addT (toO (fDcG 6 "trues")) (toO (ofR (fLst (fACons (fDcG 6 "true") fANil))))) fANil)))
  (fSeq (fSetR 4 (fListOf (fLCons (fP 7) fLNil)))
  (fFrz 3 (fFrz 4 (fSeq (fIfS (fOr (fNot (fEB (ofR (fCallF x 2 (S__law_same x 6) (fACons (ofR (fCallF x 1 (S_troubles x) (fACons (fV 4) fANil))) (fACons (fV 3) fANil)))))) (fCmp neT (fP 4) (fP 7))) (fRet (toR (fC (.bool false)))) fNext)
  (fSeq (fFor (gN2 9 10) (fZip (ofR (fMethF x "Feeder" "runs" 1 (S_Feeder_runs x) (fV 5) fANil)) (fDcG 6 "trues")) (fFrz 3 (fIfS (fAnd (fCmp ltT (toO (fCB maxL (fLCons (fP 3) fLNil))) (toO (fC (.int 4)))) (fAnd (fCmp ltT (toO (fCB lenT (fLCons (fP 9) fLNil))) (toO (fC (.int 21)))) (fCmp neT (toO (ofR (fCallF x 3 (S_could x) (fACons (fV 1) (fACons (fV 3) (fACons (fV 9) fANil)))))) (toO (ofR (fComp [11] (gN 11) (fItD (fV 10)) fYes (ofR (fLst (fACons (fV 11) fANil))))))))) (fRet (toR (fC (.bool false)))) fNext)))
  (fRet (toR (fC (.bool true))))))))))))
def S__law_told (x : Bool) : Sem1 := bodyS 12 (F__law_told x)
def F_law (x : Bool) : FS := (fSeq (fSetR 1 (fCallF x 1 S_start (fACons (fV 0) fANil)))
  (fSeq (fFor (gN 2) (fRng1 (toO (fC (.int 2)))) (fFrz 1 (fSeq (fSet 5 (fOp2 addT (toO (fC (.int 2))) (toO (ofR (fCallF x 2 S_drawn (fACons (fV 1) (fACons (fC (.int 29)) fANil)))))))
  (fFrz 1 (fSeq (fSetR 4 (fComp [6] (gN 6) (fRng1 (toO (ofR (fCallF x 2 S_drawn (fACons (fV 1) (fACons (fC (.int 81)) fANil)))))) fYes (ofR (fCallF x 2 (S__law_step x) (fACons (fV 1) (fACons (fV 5) fANil))))))
  (fFrz 4 (fIfS (fNot (fEB (ofR (fCallF x 2 (S__law_told x) (fACons (fV 4) (fACons (fV 5) fANil)))))) (fRet (toR (fC (.bool false)))) fNext)))))))
  (fFrz 1 (fSeq (fSet 3 (fOp2 addT (toO (fC (.int 1))) (toO (ofR (fCallF x 2 S_drawn (fACons (fV 1) (fACons (fC (.int 15)) fANil)))))))
  (fSeq (fSet 4 (fOp2 addT (toO (fOp2 addT (toO (ofR (fLst (fACons (fTup (fACons (fC (.str "put")) (fACons (fC (.int 0)) (fACons (fC (.int 29)) fANil)))) fANil)))) (toO (ofR (fRep (toO (ofR (fLst (fACons (fTup (fACons (fC (.str "twice")) fANil)) fANil)))) (fP 3)))))) (toO (ofR (fRep (toO (ofR (fLst (fACons (fTup (fACons (fC (.str "slip")) fANil)) (fACons (fTup (fACons (fC (.str "feed")) fANil)) fANil))))) (toO (fOp2 subT (toO (fC (.int 15))) (fP 3))))))))
  (fFrz 4 (fRet (toR (fBE (fAnd (fCmp eqT (toO (ofR (fCallF x 1 (S_troubles x) (fACons (ofR (fLst fANil)) fANil)))) (toO (fTup (fACons (fC (.int 0)) (fACons (fC (.int 0)) fANil))))) (fEB (ofR (fCallF x 2 (S__law_told x) (fACons (fV 4) (fACons (fC (.int 30)) fANil)))))))))))))))
def S_law (x : Bool) : Sem1 := bodyS 7 (F_law x)
section
variable {P : Program} {w : World} {K : Fr} {mg : Str → Option Value} {base : Heap}
theorem sc__law_start : FnScope ["_law_script", "_law_mixed", "_law_cell"] ["_law_script"] (defScope Hd.s__law_start) := ⟨rfl, rfl, rfl, by decide +kernel, rfl, by decide +kernel, by decide +kernel⟩
theorem ok__law_start (Y : Hyp K mg) : FnOk P w K mg base CX0 1 (He.fAd K ("_law_start", none)) Y.fd__law_start ["_law_script"] (spD K 1 S_start) :=
  Y.F__law_start.ok sc__law_start (fun vs H Q E h => h.1) fun cdv A outer s H vs Q E hr h => ⟨t_start K, PSs.nox (by
    have nd := sc__law_start.nd
    exact pss_cons (ps_set (i := 1) nd rfl (Or.inl rfl) pe_int) (pss_cons (ps_for PassesOwn.never rfl (pi_list (pv 0)) (pg_name (i := 2) nd rfl (Or.inl rfl)) (pss_one (ps_set (i := 1) nd rfl (Or.inl rfl) (pe_op op_mod (pe_op op_add (pe_op op_add (pe_op op_mul (pv 1) pe_int) (pv 2)) pe_int) pe_int))))
      (pss_one (ps_ret (pe_lst (pa_cons (pv 0) (pa_cons pe_int (pa_cons (pv 1) (pa_cons pe_int pa_nil)))))))) ), read_start rfl h⟩
theorem sc__law_drawn : FnScope ["_law_state", "_law_many", "_law_found", "_law_cell"] ["_law_state", "_law_many"] (defScope Hd.s__law_drawn) := ⟨rfl, rfl, rfl, by decide +kernel, rfl, by decide +kernel, by decide +kernel⟩
theorem ok__law_drawn (Y : Hyp K mg) : FnOk P w K mg base CX0 1 (He.fAd K ("_law_drawn", none)) Y.fd__law_drawn ["_law_state", "_law_many"] (spD K 2 S_drawn) :=
  Y.F__law_drawn.ok sc__law_drawn (fun vs H Q E h => h.1) fun cdv A outer s H vs Q E hr h => ⟨t_drawn K, PSs.nox (by
    have nd := sc__law_drawn.nd
    exact pss_cons (ps_if (pt_cmpR op_gt (pe_ix ix_list (pv 0) pe_int (fun _ _ => rfl)) pe_int (nomark _)) (pss_cons (ps_set (i := 2) nd rfl (Or.inl rfl) (pe_op op_mod (pe_ix ix_list (pv 0) pe_int (fun _ _ => rfl)) (pv 1))) (pss_cons (ps_asg (pe_op op_fdiv (pe_ix ix_list (pv 0) pe_int (fun _ _ => rfl)) (pv 1)) (pg_sub (pv 0) pe_int set_list)) (pss_one (ps_ret (pv 2))))) pss_nil)
      (pss_cons (ps_asg (pe_op op_add (pe_ix ix_list (pv 0) pe_int (fun _ _ => rfl)) pe_int) (pg_sub (pv 0) pe_int set_list))
      (pss_cons (ps_if (pt_cmpR op_le (pe_ix ix_list (pv 0) pe_int (fun _ _ => rfl)) (pe_callB call_len rfl Y.f_len boot_len (pa_cons (pe_ix ix_list (pv 0) pe_int (fun _ _ => rfl)) pa_nil)) (nomark _)) (pss_cons (ps_set (i := 3) nd rfl (Or.inl rfl) (pe_ix ix_list (pe_ix ix_list (pv 0) pe_int (fun _ _ => rfl)) (pe_op op_sub (pe_ix ix_list (pv 0) pe_int (fun _ _ => rfl)) pe_int) (fun _ _ => rfl)))
        (pss_cons (ps_asg (pe_ifExp (pt_cmpR op_ge (pv 3) (pe_op op_pow pe_int pe_int) (nomark _)) (pe_op op_fdiv (pv 3) (pv 1)) pe_int) (pg_sub (pv 0) pe_int set_list)) (pss_one (ps_ret (pe_op op_mod (pv 3) (pv 1)))))) pss_nil)
      (pss_cons (ps_asg (pe_op op_mod (pe_op op_add (pe_op op_mul (pe_ix ix_list (pv 0) pe_int (fun _ _ => rfl)) pe_int) pe_int) pe_int) (pg_sub (pv 0) pe_int set_list))
      (pss_one (ps_ret (pe_op op_mod (pe_op op_fdiv (pe_ix ix_list (pv 0) pe_int (fun _ _ => rfl)) pe_int) (pv 1)))))))), read_drawn rfl h⟩
theorem sc__law_worst : FnScope ["_law_trues", "_law_doubles", "_law_slips", "_law_true", "_law_pair", "_law_k"] ["_law_trues"] (defScope Hd.s__law_worst) := ⟨rfl, rfl, rfl, by decide +kernel, rfl, by decide +kernel, by decide +kernel⟩
theorem ok__law_worst (Y : Hyp K mg) : FnOk P w K mg base CX0 1 (He.fAd K ("_law_worst", none)) Y.fd__law_worst ["_law_trues"] (spD K 1 (S__law_worst false)) := fn_ok (k := 0) Y.F__law_worst sc__law_worst fun cdv A outer s H E hr => by
  have hu := hu70 hr
  exact (ss_cons (ss_setLc (i := 1) rfl sc__law_worst.nd rfl rfl (sw_true rfl rfl rfl (by decide +kernel)) (si_seq (se_v 0 (pv 0))) (blkOk_by (own := [("_law_true", 3)]) (by exact rfl)) (tg_n 3) (fun _ _ _ _ _ => (pg_name (i := 3) sc__law_worst.nd rfl (by first | exact Or.inl rfl | exact Or.inr rfl))) (fun _ _ _ _ _ => st_yes) (fun _ _ _ _ _ => (se_callB cr_len (by rfl) Y.f_len (by decide +kernel) (sl_cons (so_of (se_ofR (sr_comp rfl sc__law_worst.nd (si_seq (se_v 3 (pv 3))) (blkOk_by (own := [("_law_pair", 4)]) (by exact rfl)) (tg_n 4) (fun _ _ _ _ _ => (pg_name (i := 4) sc__law_worst.nd rfl (by first | exact Or.inl rfl | exact Or.inr rfl))) (fun _ _ _ _ _ => (st_one (st_cmp opr_lt (so_of (se_ix (so_p 4 (pv 4)) (so_of se_int) (fun _ _ => rfl))) (so_of (se_ix (so_p 4 (pv 4)) (so_of se_int) (fun _ _ => rfl))) (nomark _)))) (fun _ _ _ _ _ => (se_v 4 (pv 4)))))) sl_nil))))
  (ss_cons (ss_setLc (i := 2) rfl sc__law_worst.nd rfl rfl (sw_true rfl rfl rfl (by decide +kernel)) (si_seq (se_v 0 (pv 0))) (blkOk_by (own := [("_law_true", 3)]) (by exact rfl)) (tg_n 3) (fun _ _ _ _ _ => (pg_name (i := 3) sc__law_worst.nd rfl (by first | exact Or.inl rfl | exact Or.inr rfl))) (fun _ _ _ _ _ => st_yes) (fun _ _ _ _ _ => (se_callB (cr_sumL rfl) (by rfl) Y.f_sum (by decide +kernel) (sl_cons (so_of (se_ofR (sr_comp rfl sc__law_worst.nd (si_rng2 rfl (by rfl) Y.f_range (so_of se_int) (so_of (se_callB cr_len (by rfl) Y.f_len (by decide +kernel) (sl_cons (so_p 3 (pv 3)) sl_nil)))) (blkOk_by (own := [("_law_k", 5)]) (by exact rfl)) (tg_n 5) (fun _ _ _ _ _ => (pg_name (i := 5) sc__law_worst.nd rfl (by first | exact Or.inl rfl | exact Or.inr rfl))) (fun _ _ _ _ _ => st_yes) (fun _ _ _ _ _ => (se_op2 opr_sub (so_of (se_op2 opr_sub (so_of (se_ix (so_of (se_ix (so_p 3 (pv 3)) (so_p 5 (pv 5)) (fun _ _ => rfl))) (so_of se_int) (fun _ _ => rfl))) (so_of (se_ix (so_of (se_ix (so_p 3 (pv 3)) (so_of (se_op2 opr_sub (so_p 5 (pv 5)) (so_of se_int))) (fun _ _ => rfl))) (so_of se_int) (fun _ _ => rfl))))) (so_of se_int)))))) sl_nil))))
  (ss_one (ss_ret (sr_of (se_tup (sa_cons (se_callB (cr_maxL rfl hu) (by rfl) Y.f_max (by decide +kernel) (sl_cons (so_of (se_op2 opr_add (so_p 1 (pv 1)) (so_of (se_ofR (sr_lst (sa_cons se_int sa_nil)))))) sl_nil)) (sa_cons (se_callB (cr_maxL rfl hu) (by rfl) Y.f_max (by decide +kernel) (sl_cons (so_of (se_op2 opr_add (so_p 2 (pv 2)) (so_of (se_ofR (sr_lst (sa_cons se_int sa_nil)))))) sl_nil)) sa_nil))))))))
theorem sc_is_number : FnScope ["thing", "low", "high"] ["thing", "low", "high"] (defScope Hd.s_is_number) := ⟨rfl, rfl, rfl, by decide +kernel, rfl, by decide +kernel, by decide +kernel⟩
theorem ok_is_number (Y : Hyp K mg) : FnOk P w K mg base CX0 1 (He.fAd K ("is_number", none)) Y.fd_is_number ["thing", "low", "high"] (spD K 3 (S_is_number false)) := fn_ok (k := 0) Y.F_is_number sc_is_number fun cdv A outer s H E hr => by
  have hu := hu70 hr
  exact (ss_one (ss_ret (sr_of (se_and (se_isi (ty := "int") (by decide) rfl (by rfl) Y.f_isinstance (by rfl) Y.f_int (by decide +kernel) (so_p 0 (pv 0))) (se_and (se_not (se_isi (ty := "bool") (by decide) rfl (by rfl) Y.f_isinstance (by rfl) Y.f_bool (by decide +kernel) (so_p 0 (pv 0)))) (se_one (se_chain opr_le opr_le (so_p 1 (pv 1)) (so_p 0 (pv 0)) (so_p 2 (pv 2)))))))))
theorem sc_need_book : FnScope ["sheets"] ["sheets"] (defScope Hd.s_need_book) := ⟨rfl, rfl, rfl, by decide +kernel, rfl, by decide +kernel, by decide +kernel⟩
theorem ok_need_book (Y : Hyp K mg) : FnOk P w K mg base CX0 2 (He.fAd K ("need_book", none)) Y.fd_need_book ["sheets"] (spD K 1 (S_need_book false)) := fn_ok (k := 1) Y.F_need_book sc_need_book fun cdv A outer s H E hr => by
  have hu := hu70 hr
  exact (ss_one (ss_if (st_not (st_val (se_ofR (sr_call (ok_is_number Y) (hr.mono (by decide)) (by rfl) Y.g_is_number Y.F_is_number.kp Y.b_is_number (sa_cons (se_v 0 (pv 0)) (sa_cons se_int (sa_cons (se_gint (by rfl) Y.i_MOST_SHEETS) sa_nil))))))) (ss_one ss_bad) ss_nil))
theorem sc_Feeder___init__ : FnScope ["self", "sheets", "blind", "before", "page"] ["self", "sheets", "blind"] (defScope Hd.s_Feeder___init__) := ⟨rfl, rfl, rfl, by decide +kernel, rfl, by decide +kernel, by decide +kernel⟩
theorem ok_Feeder___init__ (Y : Hyp K mg) : FnOk P w K mg base CX0 3 (He.fAd K ("Feeder", some "__init__")) Y.fd_Feeder___init__ ["self", "sheets", "blind"] (spD K 3 (S_Feeder___init__ false)) := fn_ok (k := 2) Y.F_Feeder___init__ sc_Feeder___init__ fun cdv A outer s H E hr => by
  have hu := hu70 hr
  exact (ss_cons (ss_expr (se_ofR (sr_call (ok_need_book Y) (hr.mono (by decide)) (by rfl) Y.g_need_book Y.F_need_book.kp Y.b_need_book (sa_cons (se_v 1 (pv 1)) sa_nil))))
  (ss_cons (ss_if (st_not (st_val (se_isi (ty := "tuple") (by decide) rfl (by rfl) Y.f_isinstance (by rfl) Y.f_tuple (by decide +kernel) (so_p 2 (pv 2))))) (ss_one ss_bad) ss_nil)
  (ss_cons (ss_set (i := 3) sc_Feeder___init__.nd rfl (by first | exact Or.inl rfl | exact Or.inr rfl) (se_op2 opr_sub (so_of se_int) (so_of se_int)))
  (ss_cons (ss_for PassesOwn.never rfl (si_seq (se_v 2 (pv 2))) (tg_n 4) (pg_name (i := 4) sc_Feeder___init__.nd rfl (by first | exact Or.inl rfl | exact Or.inr rfl)) (ss_cons (ss_if (st_not (st_val (se_ofR (sr_call (ok_is_number Y) (hr.mono (by decide)) (by rfl) Y.g_is_number Y.F_is_number.kp Y.b_is_number (sa_cons (se_v 4 (pv 4)) (sa_cons (se_op2 opr_add (so_p 3 (pv 3)) (so_of se_int)) (sa_cons (se_op2 opr_sub (so_of (se_op2 opr_mul (so_of se_int) (so_p 1 (pv 1)))) (so_of se_int)) sa_nil))))))) (ss_one ss_bad) ss_nil)
  (ss_one (ss_set (i := 3) sc_Feeder___init__.nd rfl (by first | exact Or.inl rfl | exact Or.inr rfl) (se_v 4 (pv 4))))))
  (ss_cons (ss_sfld Y.c_Feeder Y.n_Feeder_sheets (se_v 0 (pv 0)) (se_v 1 (pv 1)))
  (ss_cons (ss_sfld Y.c_Feeder Y.n_Feeder_blind (se_v 0 (pv 0)) (se_v 2 (pv 2)))
  (ss_cons (ss_sfld Y.c_Feeder Y.n_Feeder_next (se_v 0 (pv 0)) se_int)
  (ss_cons (ss_sfld Y.c_Feeder Y.n_Feeder_last (se_v 0 (pv 0)) (se_op2 opr_sub (so_of se_int) (so_of se_int)))
  (ss_cons (ss_sflst Y.c_Feeder Y.n_Feeder_here (pv 0))
  (ss_one (ss_sflst Y.c_Feeder Y.n_Feeder_ended (pv 0))))))))))))
theorem sc__law_feeder : FnScope ["_law_sheets", "_law_blind_here"] ["_law_sheets", "_law_blind_here"] (defScope Hd.s__law_feeder) := ⟨rfl, rfl, rfl, by decide +kernel, rfl, by decide +kernel, by decide +kernel⟩
theorem ok__law_feeder (Y : Hyp K mg) : FnOk P w K mg base CX0 1 (He.fAd K ("_law_feeder", none)) Y.fd__law_feeder ["_law_sheets", "_law_blind_here"] (spD K 2 (S__law_feeder false)) := fn_ok (k := 0) Y.F__law_feeder sc__law_feeder fun cdv A outer s H E hr => by
  have hu := hu70 hr
  exact (ss_one (ss_ret (sr_of (se_dcn (sk_cons (se_v 0 (pv 0)) (sk_cons (se_v 1 (pv 1)) (sk_cons (se_ofR (sr_lst sa_nil)) (sk_cons (se_ofR (sr_lst sa_nil)) (sk_cons (se_ofR (sr_lst sa_nil)) (sk_cons (se_ofR (sr_lst sa_nil)) (sk_cons (se_ofR (sr_lst sa_nil)) sk_nil)))))))))))
theorem sc__law_over : FnScope ["_law_w"] ["_law_w"] (defScope Hd.s__law_over) := ⟨rfl, rfl, rfl, by decide +kernel, rfl, by decide +kernel, by decide +kernel⟩
theorem ok__law_over (Y : Hyp K mg) : FnOk P w K mg base CX0 1 (He.fAd K ("_law_over", none)) Y.fd__law_over ["_law_w"] (spD K 1 (S__law_over false)) := fn_ok (k := 0) Y.F__law_over sc__law_over fun cdv A outer s H E hr => by
  have hu := hu70 hr
  exact (ss_cons (ss_if (st_cmp (opr_ne hu) (so_of (se_dcg hu (pv 0))) (so_of (se_ofR (sr_lst sa_nil))) (nomark _)) (ss_one (ss_asgX (by rfl) (se_tup (sa_cons (se_op2 opr_add (so_of (se_dcg hu (pv 0))) (so_of (se_ofR (sr_lst (sa_cons (se_dcg hu (pv 0)) sa_nil))))) (sa_cons (se_op2 opr_add (so_of (se_dcg hu (pv 0))) (so_of (se_ofR (sr_lst (sa_cons (se_dcg hu (pv 0)) sa_nil))))) sa_nil))) (tgx_ky (tgx_ky tgx_nil)) (pgs_cons (pg_sub (pv 0) pe_str (set_dict (dctu hu))) (pgs_cons (pg_sub (pv 0) pe_str (set_dict (dctu hu))) pgs_nil)))) ss_nil)
  (ss_one (ss_asgX (by rfl) (se_tup (sa_cons (se_ofR (sr_lst sa_nil)) (sa_cons (se_ofR (sr_lst sa_nil)) (sa_cons (se_ofR (sr_lst sa_nil)) sa_nil)))) (tgx_ky (tgx_ky (tgx_ky tgx_nil))) (pgs_cons (pg_sub (pv 0) pe_str (set_dict (dctu hu))) (pgs_cons (pg_sub (pv 0) pe_str (set_dict (dctu hu))) (pgs_cons (pg_sub (pv 0) pe_str (set_dict (dctu hu))) pgs_nil))))))
theorem sc__law_through : FnScope ["_law_w", "_law_many", "_law_is_read", "_law_gone", "_law_pages", "_law_scan", "_law_page"] ["_law_w", "_law_many", "_law_is_read"] (defScope Hd.s__law_through) := ⟨rfl, rfl, rfl, by decide +kernel, rfl, by decide +kernel, by decide +kernel⟩
theorem ok__law_through (Y : Hyp K mg) : FnOk P w K mg base CX0 2 (He.fAd K ("_law_through", none)) Y.fd__law_through ["_law_w", "_law_many", "_law_is_read"] (spD K 3 (S__law_through false)) := fn_ok (k := 1) Y.F__law_through sc__law_through fun cdv A outer s H E hr => by
  have hu := hu70 hr
  exact (ss_cons (ss_asgX (by rfl) (se_tup (sa_cons (se_sl (so_of (se_dcg hu (pv 0))) sp_none (sp_some (so_p 1 (pv 1)))) (sa_cons (se_sl (so_of (se_dcg hu (pv 0))) (sp_some (so_p 1 (pv 1))) sp_none) sa_nil))) (tgx_nm (tgx_ky tgx_nil)) (pgs_cons (pg_name (i := 3) sc__law_through.nd rfl (by first | exact Or.inl rfl | exact Or.inr rfl)) (pgs_cons (pg_sub (pv 0) pe_str (set_dict (dctu hu))) pgs_nil)))
  (ss_cons (ss_par2 (i := 4) (j := 5) rfl sc__law_through.nd rfl rfl (by decide) rfl rfl (sq_cons (sr_lst (sa_cons (se_op2 opr_mul (so_of se_int) (so_of (se_ix (so_p 3 (pv 3)) (so_of se_int) (fun _ _ => rfl)))) (sa_cons (se_op2 opr_add (so_of (se_op2 opr_mul (so_of se_int) (so_of (se_ix (so_p 3 (pv 3)) (so_of se_neg1) (fun _ _ => rfl))))) (so_of se_int)) sa_nil))) (sq_cons (sr_of se_non) sq_nil)) (by rfl))
  (ss_cons (ss_if (st_val (se_v 2 (pv 2))) (ss_frz 4 (ss_cons (ss_set (i := 5) sc__law_through.nd rfl (by first | exact Or.inl rfl | exact Or.inr rfl) (se_callTy cr_tuple (by rfl) Y.f_tuple (by decide +kernel) (sl_cons (so_of (se_ofR (sr_comp rfl sc__law_through.nd (si_seq (se_v 4 (pv 4))) (blkOk_by (own := [("_law_page", 6)]) (by exact rfl)) (tg_n 6) (fun _ _ _ _ _ => (pg_name (i := 6) sc__law_through.nd rfl (by first | exact Or.inl rfl | exact Or.inr rfl))) (fun _ _ _ _ _ => st_yes) (fun _ _ _ _ _ => (se_if (st_cmp (opr_in hu) (so_p 6 (pv 6)) (so_of (se_dcg hu (pv 0))) (by with_unfolding_all rfl)) se_non (se_v 6 (pv 6))))))) sl_nil)))
  (ss_cons (ss_dcp hu (pv 0) (se_op2 opr_add (so_of (se_dcg hu (pv 0))) (so_of (se_ofR (sr_lst (sa_cons (se_v 5 (pv 5)) sa_nil))))))
  (ss_one (ss_dcp hu (pv 0) (se_op2 opr_add (so_of (se_dcg hu (pv 0))) (so_of (se_ofR (sr_lst (sa_cons (se_tup (sa_cons (se_ix (so_p 3 (pv 3)) (so_of se_int) (fun _ _ => rfl)) (sa_cons (se_ix (so_p 3 (pv 3)) (so_of se_neg1) (fun _ _ => rfl)) sa_nil))) sa_nil)))))))))) ss_nil)
  (ss_cons (ss_if (st_cmp (opr_eq hu) (so_of (se_dcg hu (pv 0))) (so_of (se_ofR (sr_lst sa_nil))) (nomark _)) (ss_one (ss_expr (se_ofR (sr_call (ok__law_over Y) (hr.mono (by decide)) (by rfl) Y.g__law_over Y.F__law_over.kp Y.b__law_over (sa_cons (se_v 0 (pv 0)) sa_nil))))) ss_nil)
  (ss_one (ss_ret (sr_of (se_v 5 (pv 5)))))))))
theorem sc__law_does : FnScope ["_law_w", "_law_step_here", "_law_word", "_law_many"] ["_law_w", "_law_step_here"] (defScope Hd.s__law_does) := ⟨rfl, rfl, rfl, by decide +kernel, rfl, by decide +kernel, by decide +kernel⟩
theorem ok__law_does (Y : Hyp K mg) : FnOk P w K mg base CX0 3 (He.fAd K ("_law_does", none)) Y.fd__law_does ["_law_w", "_law_step_here"] (spD K 2 (S__law_does false)) := fn_ok (k := 2) Y.F__law_does sc__law_does fun cdv A outer s H E hr => by
  have hu := hu70 hr
  exact (ss_cons (ss_set (i := 2) sc__law_does.nd rfl (by first | exact Or.inl rfl | exact Or.inr rfl) (se_ix (so_p 1 (pv 1)) (so_of se_int) (fun _ _ => rfl)))
  (ss_cons (ss_if (st_cmp (opr_eq hu) (so_p 2 (pv 2)) (so_of (se_str (by decide +kernel))) (nomark _)) (ss_cons (ss_if (st_not (pt_chain3 opr_le opr_le opr_lt (so_of se_int) (so_of (se_ix (so_p 1 (pv 1)) (so_of se_int) (fun _ _ => rfl))) (so_of (se_ix (so_p 1 (pv 1)) (so_of se_int) (fun _ _ => rfl))) (so_of (se_dcg hu (pv 0))))) (ss_one (ss_ret (sr_of (se_tup (sa_cons (se_str (by decide +kernel)) (sa_cons se_int sa_nil)))))) ss_nil)
  (ss_cons (ss_if (st_cmp (opr_ne hu) (so_of (se_dcg hu (pv 0))) (so_of (se_ofR (sr_lst sa_nil))) (nomark _)) (ss_one (ss_ret (sr_of (se_tup (sa_cons (se_str (by decide +kernel)) (sa_cons se_int sa_nil)))))) ss_nil)
  (ss_cons (ss_dcp hu (pv 0) (se_ofR (sr_lrg2 rfl rfl rfl (by rfl) Y.f_list (by rfl) Y.f_range (so_of (se_ix (so_p 1 (pv 1)) (so_of se_int) (fun _ _ => rfl))) (so_of (se_op2 opr_add (so_of (se_ix (so_p 1 (pv 1)) (so_of se_int) (fun _ _ => rfl))) (so_of se_int))))))
  (ss_one (ss_ret (sr_of se_non)))))) ss_nil)
  (ss_cons (ss_set (i := 3) sc__law_does.nd rfl (by first | exact Or.inl rfl | exact Or.inr rfl) (se_op2 opr_add (so_of se_int) (so_of (se_callTy cr_int (by rfl) Y.f_int (by decide +kernel) (sl_cons (so_of (se_cmp (opr_eq hu) (so_p 2 (pv 2)) (so_of (se_str (by decide +kernel))) (nomark _))) sl_nil)))))
  (ss_cons (ss_if (st_cmp opr_lt (so_of (se_callB cr_len (by rfl) Y.f_len (by decide +kernel) (sl_cons (so_of (se_dcg hu (pv 0))) sl_nil))) (so_p 3 (pv 3)) (nomark _)) (ss_one (ss_ret (sr_of (se_tup (sa_cons (se_str (by decide +kernel)) (sa_cons se_int sa_nil)))))) ss_nil)
  (ss_cons (ss_if (st_cmp (opr_eq hu) (so_p 2 (pv 2)) (so_of (se_str (by decide +kernel))) (nomark _)) (ss_one (ss_ret (sr_call (ok__law_over Y) (hr.mono (by decide)) (by rfl) Y.g__law_over Y.F__law_over.kp Y.b__law_over (sa_cons (se_v 0 (pv 0)) sa_nil)))) ss_nil)
  (ss_one (ss_ret (sr_call (ok__law_through Y) (hr.mono (by decide)) (by rfl) Y.g__law_through Y.F__law_through.kp Y.b__law_through (sa_cons (se_v 0 (pv 0)) (sa_cons (se_v 3 (pv 3)) (sa_cons (se_cmp (opr_ne hu) (so_p 2 (pv 2)) (so_of (se_str (by decide +kernel))) (nomark _)) sa_nil)))))))))))
theorem sc_Feeder_runs : FnScope ["self", "run"] ["self"] (defScope Hd.s_Feeder_runs) := ⟨rfl, rfl, rfl, by decide +kernel, rfl, by decide +kernel, by decide +kernel⟩
theorem ok_Feeder_runs (Y : Hyp K mg) : FnOk P w K mg base CX0 1 (He.fAd K ("Feeder", some "runs")) Y.fd_Feeder_runs ["self"] (spD K 1 (S_Feeder_runs false)) := fn_ok (k := 0) Y.F_Feeder_runs sc_Feeder_runs fun cdv A outer s H E hr => by
  have hu := hu70 hr
  exact (ss_one (ss_ret (sr_compH rfl sc_Feeder_runs.nd (sih_fld Y.c_Feeder Y.n_Feeder_ended (pv 0)) (blkOk_by (own := [("run", 1)]) (by exact rfl)) (tg_n 1) (fun _ _ _ _ _ => (pg_name (i := 1) sc_Feeder_runs.nd rfl (by first | exact Or.inl rfl | exact Or.inr rfl))) (fun _ _ _ _ _ => st_yes) (fun _ _ _ _ _ => (se_ofR (sr_list rfl (by rfl) Y.f_list (by decide +kernel) (sl_cons (so_p 1 (pv 1)) sl_nil)))))))
theorem sc_Feeder_put : FnScope ["self", "low", "high"] ["self", "low", "high"] (defScope Hd.s_Feeder_put) := ⟨rfl, rfl, rfl, by decide +kernel, rfl, by decide +kernel, by decide +kernel⟩
theorem ok_Feeder_put (Y : Hyp K mg) : FnOk P w K mg base CX0 2 (He.fAd K ("Feeder", some "put")) Y.fd_Feeder_put ["self", "low", "high"] (spD K 3 (S_Feeder_put false)) := fn_ok (k := 1) Y.F_Feeder_put sc_Feeder_put fun cdv A outer s H E hr => by
  have hu := hu70 hr
  exact (ss_cons (ss_if (st_w (sw_or (st_not (st_val (se_ofR (sr_call (ok_is_number Y) (hr.mono (by decide)) (by rfl) Y.g_is_number Y.F_is_number.kp Y.b_is_number (sa_cons (se_v 1 (pv 1)) (sa_cons se_int (sa_cons (se_op2 opr_sub (so_of (se_fld Y.c_Feeder Y.n_Feeder_sheets (se_v 0 (pv 0)))) (so_of se_int)) sa_nil))))))) (sw_or1 (st_not (st_val (se_ofR (sr_call (ok_is_number Y) (hr.mono (by decide)) (by rfl) Y.g_is_number Y.F_is_number.kp Y.b_is_number (sa_cons (se_v 2 (pv 2)) (sa_cons (se_v 1 (pv 1)) (sa_cons (se_op2 opr_sub (so_of (se_fld Y.c_Feeder Y.n_Feeder_sheets (se_v 0 (pv 0)))) (so_of se_int)) sa_nil)))))))))) (ss_one ss_bad) ss_nil)
  (ss_cons (ss_if (st_cmp opr_le (so_of (se_fld Y.c_Feeder Y.n_Feeder_next (se_v 0 (pv 0)))) (so_of (se_fld Y.c_Feeder Y.n_Feeder_last (se_v 0 (pv 0)))) (nomark _)) (ss_one ss_bad) ss_nil)
  (ss_cons (ss_sfld Y.c_Feeder Y.n_Feeder_next (se_v 0 (pv 0)) (se_v 1 (pv 1)))
  (ss_one (ss_sfld Y.c_Feeder Y.n_Feeder_last (se_v 0 (pv 0)) (se_v 2 (pv 2)))))))
theorem sc_Feeder_need_sheets : FnScope ["self", "count"] ["self", "count"] (defScope Hd.s_Feeder_need_sheets) := ⟨rfl, rfl, rfl, by decide +kernel, rfl, by decide +kernel, by decide +kernel⟩
theorem ok_Feeder_need_sheets (Y : Hyp K mg) : FnOk P w K mg base CX0 1 (He.fAd K ("Feeder", some "need_sheets")) Y.fd_Feeder_need_sheets ["self", "count"] (spD K 2 (S_Feeder_need_sheets false)) := fn_ok (k := 0) Y.F_Feeder_need_sheets sc_Feeder_need_sheets fun cdv A outer s H E hr => by
  have hu := hu70 hr
  exact (ss_one (ss_if (st_cmp opr_lt (so_of (se_op2 opr_add (so_of (se_op2 opr_sub (so_of (se_fld Y.c_Feeder Y.n_Feeder_last (se_v 0 (pv 0)))) (so_of (se_fld Y.c_Feeder Y.n_Feeder_next (se_v 0 (pv 0)))))) (so_of se_int))) (so_p 1 (pv 1)) (nomark _)) (ss_one ss_bad) ss_nil))
theorem sc_Feeder_end_run : FnScope ["self"] ["self"] (defScope Hd.s_Feeder_end_run) := ⟨rfl, rfl, rfl, by decide +kernel, rfl, by decide +kernel, by decide +kernel⟩
theorem ok_Feeder_end_run (Y : Hyp K mg) : FnOk P w K mg base CX0 1 (He.fAd K ("Feeder", some "end_run")) Y.fd_Feeder_end_run ["self"] (spD K 1 (S_Feeder_end_run false)) := fn_ok (k := 0) Y.F_Feeder_end_run sc_Feeder_end_run fun cdv A outer s H E hr => by
  have hu := hu70 hr
  exact (ss_cons (ss_if (st_fldNe hu Y.c_Feeder Y.n_Feeder_here (pv 0)) (ss_one (ss_appZ Y.c_Feeder Y.n_Feeder_ended Y.n_Feeder_here (pv 0) (pv 0))) ss_nil)
  (ss_cons (ss_sflst Y.c_Feeder Y.n_Feeder_here (pv 0))
  (ss_cons (ss_sfld Y.c_Feeder Y.n_Feeder_next (se_v 0 (pv 0)) se_int)
  (ss_one (ss_sfld Y.c_Feeder Y.n_Feeder_last (se_v 0 (pv 0)) (se_op2 opr_sub (so_of se_int) (so_of se_int)))))))
theorem sc_Feeder_pass_by : FnScope ["self", "count"] ["self", "count"] (defScope Hd.s_Feeder_pass_by) := ⟨rfl, rfl, rfl, by decide +kernel, rfl, by decide +kernel, by decide +kernel⟩
theorem ok_Feeder_pass_by (Y : Hyp K mg) : FnOk P w K mg base CX0 2 (He.fAd K ("Feeder", some "pass_by")) Y.fd_Feeder_pass_by ["self", "count"] (spD K 2 (S_Feeder_pass_by false)) := fn_ok (k := 1) Y.F_Feeder_pass_by sc_Feeder_pass_by fun cdv A outer s H E hr => by
  have hu := hu70 hr
  exact (ss_cons (ss_sfld Y.c_Feeder Y.n_Feeder_next (se_v 0 (pv 0)) (se_op2 opr_add (so_of (se_fld Y.c_Feeder Y.n_Feeder_next (se_v 0 (pv 0)))) (so_p 1 (pv 1))))
  (ss_one (ss_if (st_cmp opr_gt (so_of (se_fld Y.c_Feeder Y.n_Feeder_next (se_v 0 (pv 0)))) (so_of (se_fld Y.c_Feeder Y.n_Feeder_last (se_v 0 (pv 0)))) (nomark _)) (ss_one (ss_expr (se_ofR (sr_meth0 (se_v 0 (pv 0)) Y.c_Feeder Y.h_Feeder_end_run (ok_Feeder_end_run Y) (hr.mono (by decide)) Y.b_Feeder_end_run)))) ss_nil)))
theorem sc_Feeder_read_page : FnScope ["self", "page"] ["self", "page"] (defScope Hd.s_Feeder_read_page) := ⟨rfl, rfl, rfl, by decide +kernel, rfl, by decide +kernel, by decide +kernel⟩
theorem ok_Feeder_read_page (Y : Hyp K mg) : FnOk P w K mg base CX0 1 (He.fAd K ("Feeder", some "read_page")) Y.fd_Feeder_read_page ["self", "page"] (spD K 2 (S_Feeder_read_page false)) := fn_ok (k := 0) Y.F_Feeder_read_page sc_Feeder_read_page fun cdv A outer s H E hr => by
  have hu := hu70 hr
  exact (ss_one (ss_ret (sr_if (st_cmp (opr_in hu) (so_p 1 (pv 1)) (so_of (se_fld Y.c_Feeder Y.n_Feeder_blind (se_v 0 (pv 0)))) (by with_unfolding_all rfl)) (sr_of se_non) (sr_of (se_v 1 (pv 1))))))
theorem sc_Feeder_take : FnScope ["self", "count", "low", "scan"] ["self", "count"] (defScope Hd.s_Feeder_take) := ⟨rfl, rfl, rfl, by decide +kernel, rfl, by decide +kernel, by decide +kernel⟩
theorem ok_Feeder_take (Y : Hyp K mg) : FnOk P w K mg base CX0 3 (He.fAd K ("Feeder", some "take")) Y.fd_Feeder_take ["self", "count"] (spD K 2 (S_Feeder_take false)) := fn_ok (k := 2) Y.F_Feeder_take sc_Feeder_take fun cdv A outer s H E hr => by
  have hu := hu70 hr
  exact (ss_cons (ss_expr (se_ofR (sr_meth (se_v 0 (pv 0)) Y.c_Feeder Y.h_Feeder_need_sheets (ok_Feeder_need_sheets Y) (hr.mono (by decide)) Y.b_Feeder_need_sheets (sa_cons (se_v 1 (pv 1)) sa_nil))))
  (ss_cons (ss_set (i := 2) sc_Feeder_take.nd rfl (by first | exact Or.inl rfl | exact Or.inr rfl) (se_fld Y.c_Feeder Y.n_Feeder_next (se_v 0 (pv 0))))
  (ss_cons (ss_set (i := 3) sc_Feeder_take.nd rfl (by first | exact Or.inl rfl | exact Or.inr rfl) (se_tup (sa_cons (se_ofR (sr_meth (se_v 0 (pv 0)) Y.c_Feeder Y.h_Feeder_read_page (ok_Feeder_read_page Y) (hr.mono (by decide)) Y.b_Feeder_read_page (sa_cons (se_op2 opr_mul (so_of se_int) (so_p 2 (pv 2))) sa_nil))) (sa_cons (se_ofR (sr_meth (se_v 0 (pv 0)) Y.c_Feeder Y.h_Feeder_read_page (ok_Feeder_read_page Y) (hr.mono (by decide)) Y.b_Feeder_read_page (sa_cons (se_op2 opr_add (so_of (se_op2 opr_mul (so_of se_int) (so_of (se_op2 opr_sub (so_of (se_op2 opr_add (so_p 2 (pv 2)) (so_p 1 (pv 1)))) (so_of se_int))))) (so_of se_int)) sa_nil))) sa_nil))))
  (ss_cons (ss_appF Y.c_Feeder Y.n_Feeder_here (pv 0) (pv 3))
  (ss_cons (ss_expr (se_ofR (sr_meth (se_v 0 (pv 0)) Y.c_Feeder Y.h_Feeder_pass_by (ok_Feeder_pass_by Y) (hr.mono (by decide)) Y.b_Feeder_pass_by (sa_cons (se_v 1 (pv 1)) sa_nil))))
  (ss_one (ss_ret (sr_of (se_v 3 (pv 3))))))))))
theorem sc_Feeder_feed : FnScope ["self"] ["self"] (defScope Hd.s_Feeder_feed) := ⟨rfl, rfl, rfl, by decide +kernel, rfl, by decide +kernel, by decide +kernel⟩
theorem ok_Feeder_feed (Y : Hyp K mg) : FnOk P w K mg base CX0 4 (He.fAd K ("Feeder", some "feed")) Y.fd_Feeder_feed ["self"] (spD K 1 (S_Feeder_feed false)) := fn_ok (k := 3) Y.F_Feeder_feed sc_Feeder_feed fun cdv A outer s H E hr => by
  have hu := hu70 hr
  exact (ss_one (ss_ret (sr_meth (se_v 0 (pv 0)) Y.c_Feeder Y.h_Feeder_take (ok_Feeder_take Y) (hr.mono (by decide)) Y.b_Feeder_take (sa_cons se_int sa_nil))))
theorem sc_Feeder_twice : FnScope ["self"] ["self"] (defScope Hd.s_Feeder_twice) := ⟨rfl, rfl, rfl, by decide +kernel, rfl, by decide +kernel, by decide +kernel⟩
theorem ok_Feeder_twice (Y : Hyp K mg) : FnOk P w K mg base CX0 4 (He.fAd K ("Feeder", some "twice")) Y.fd_Feeder_twice ["self"] (spD K 1 (S_Feeder_twice false)) := fn_ok (k := 3) Y.F_Feeder_twice sc_Feeder_twice fun cdv A outer s H E hr => by
  have hu := hu70 hr
  exact (ss_one (ss_ret (sr_meth (se_v 0 (pv 0)) Y.c_Feeder Y.h_Feeder_take (ok_Feeder_take Y) (hr.mono (by decide)) Y.b_Feeder_take (sa_cons se_int sa_nil))))
theorem sc_Feeder_slip : FnScope ["self"] ["self"] (defScope Hd.s_Feeder_slip) := ⟨rfl, rfl, rfl, by decide +kernel, rfl, by decide +kernel, by decide +kernel⟩
theorem ok_Feeder_slip (Y : Hyp K mg) : FnOk P w K mg base CX0 3 (He.fAd K ("Feeder", some "slip")) Y.fd_Feeder_slip ["self"] (spD K 1 (S_Feeder_slip false)) := fn_ok (k := 2) Y.F_Feeder_slip sc_Feeder_slip fun cdv A outer s H E hr => by
  have hu := hu70 hr
  exact (ss_cons (ss_expr (se_ofR (sr_meth (se_v 0 (pv 0)) Y.c_Feeder Y.h_Feeder_need_sheets (ok_Feeder_need_sheets Y) (hr.mono (by decide)) Y.b_Feeder_need_sheets (sa_cons se_int sa_nil))))
  (ss_one (ss_expr (se_ofR (sr_meth (se_v 0 (pv 0)) Y.c_Feeder Y.h_Feeder_pass_by (ok_Feeder_pass_by Y) (hr.mono (by decide)) Y.b_Feeder_pass_by (sa_cons se_int sa_nil))))))
theorem sc_Feeder_jam : FnScope ["self"] ["self"] (defScope Hd.s_Feeder_jam) := ⟨rfl, rfl, rfl, by decide +kernel, rfl, by decide +kernel, by decide +kernel⟩
theorem ok_Feeder_jam (Y : Hyp K mg) : FnOk P w K mg base CX0 2 (He.fAd K ("Feeder", some "jam")) Y.fd_Feeder_jam ["self"] (spD K 1 (S_Feeder_jam false)) := fn_ok (k := 1) Y.F_Feeder_jam sc_Feeder_jam fun cdv A outer s H E hr => by
  have hu := hu70 hr
  exact (ss_cons (ss_expr (se_ofR (sr_meth (se_v 0 (pv 0)) Y.c_Feeder Y.h_Feeder_need_sheets (ok_Feeder_need_sheets Y) (hr.mono (by decide)) Y.b_Feeder_need_sheets (sa_cons se_int sa_nil))))
  (ss_one (ss_expr (se_ofR (sr_meth0 (se_v 0 (pv 0)) Y.c_Feeder Y.h_Feeder_end_run (ok_Feeder_end_run Y) (hr.mono (by decide)) Y.b_Feeder_end_run)))))
theorem sc__law_do : FnScope ["_law_feeder_here", "_law_step_here", "_law_word"] ["_law_feeder_here", "_law_step_here"] (defScope Hd.s__law_do) := ⟨rfl, rfl, rfl, by decide +kernel, rfl, by decide +kernel, by decide +kernel⟩
theorem ok__law_do (Y : Hyp K mg) : FnOk P w K mg base CX0 5 (He.fAd K ("_law_do", none)) Y.fd__law_do ["_law_feeder_here", "_law_step_here"] (spD K 2 (S__law_do false)) := fn_ok (k := 4) Y.F__law_do sc__law_do fun cdv A outer s H E hr => by
  have hu := hu70 hr
  exact (ss_cons (ss_set (i := 2) sc__law_do.nd rfl (by first | exact Or.inl rfl | exact Or.inr rfl) (se_ix (so_p 1 (pv 1)) (so_of se_int) (fun _ _ => rfl)))
  (ss_cons (ss_if (st_cmp (opr_eq hu) (so_p 2 (pv 2)) (so_of (se_str (by decide +kernel))) (nomark _)) (ss_one (ss_ret (sr_meth (se_v 0 (pv 0)) Y.c_Feeder Y.h_Feeder_put (ok_Feeder_put Y) (hr.mono (by decide)) Y.b_Feeder_put (sa_cons (se_ix (so_p 1 (pv 1)) (so_of se_int) (fun _ _ => rfl)) (sa_cons (se_ix (so_p 1 (pv 1)) (so_of se_int) (fun _ _ => rfl)) sa_nil))))) ss_nil)
  (ss_cons (ss_if (st_cmp (opr_eq hu) (so_p 2 (pv 2)) (so_of (se_str (by decide +kernel))) (nomark _)) (ss_one (ss_ret (sr_meth0 (se_v 0 (pv 0)) Y.c_Feeder Y.h_Feeder_feed (ok_Feeder_feed Y) (hr.mono (by decide)) Y.b_Feeder_feed))) ss_nil)
  (ss_cons (ss_if (st_cmp (opr_eq hu) (so_p 2 (pv 2)) (so_of (se_str (by decide +kernel))) (nomark _)) (ss_one (ss_ret (sr_meth0 (se_v 0 (pv 0)) Y.c_Feeder Y.h_Feeder_twice (ok_Feeder_twice Y) (hr.mono (by decide)) Y.b_Feeder_twice))) ss_nil)
  (ss_one (ss_ret (sr_if (st_cmp (opr_eq hu) (so_p 2 (pv 2)) (so_of (se_str (by decide +kernel))) (nomark _)) (sr_meth0 (se_v 0 (pv 0)) Y.c_Feeder Y.h_Feeder_slip (ok_Feeder_slip Y) (hr.mono (by decide)) Y.b_Feeder_slip) (sr_meth0 (se_v 0 (pv 0)) Y.c_Feeder Y.h_Feeder_jam (ok_Feeder_jam Y) (hr.mono (by decide)) Y.b_Feeder_jam))))))))
theorem sc__law_same : FnScope ["_law_found", "_law_due", "_law_k"] ["_law_found", "_law_due"] (defScope Hd.s__law_same) := ⟨rfl, rfl, rfl, by decide +kernel, rfl, by decide +kernel, by decide +kernel⟩
theorem ok__law_same (Y : Hyp K mg) : ∀ n : Nat, FnOk P w K mg base CX0 (1 + n) (He.fAd K ("_law_same", none)) Y.fd__law_same ["_law_found", "_law_due"] (spD K 2 (S__law_same false n))
  | 0 => fn_ok (k := 0) Y.F__law_same sc__law_same fun cdv A outer s H E hr => ss_badAll
  | n + 1 => fn_ok (k := 1 + n) Y.F__law_same sc__law_same fun cdv A outer s H E hr => by
    have ih := ok__law_same Y n
    have hu := hu70 hr
    exact (ss_cons (ss_if (st_val (se_isi2 (ty := "tuple") (ty' := "list") (by decide) (by decide) rfl (by rfl) Y.f_isinstance (by rfl) Y.f_tuple (by decide +kernel) (by rfl) Y.f_list (by decide +kernel) (so_p 1 (pv 1)))) (ss_cons (ss_if (st_w (sw_or (st_not (st_val (se_isi2 (ty := "tuple") (ty' := "list") (by decide) (by decide) rfl (by rfl) Y.f_isinstance (by rfl) Y.f_tuple (by decide +kernel) (by rfl) Y.f_list (by decide +kernel) (so_p 0 (pv 0))))) (sw_or1 (st_cmp (opr_ne hu) (so_of (se_isi (ty := "list") (by decide) rfl (by rfl) Y.f_isinstance (by rfl) Y.f_list (by decide +kernel) (so_p 0 (pv 0)))) (so_of (se_isi (ty := "list") (by decide) rfl (by rfl) Y.f_isinstance (by rfl) Y.f_list (by decide +kernel) (so_p 1 (pv 1)))) (nomark _))))) (ss_one (ss_ret (sr_of se_bl))) ss_nil)
      (ss_cons (ss_if (st_cmp (opr_ne hu) (so_of (se_callB cr_len (by rfl) Y.f_len (by decide +kernel) (sl_cons (so_p 0 (pv 0)) sl_nil))) (so_of (se_callB cr_len (by rfl) Y.f_len (by decide +kernel) (sl_cons (so_p 1 (pv 1)) sl_nil))) (nomark _)) (ss_one (ss_ret (sr_of se_bl))) ss_nil)
      (ss_one (ss_ret (sr_of (se_cmp (opr_eq hu) (so_of (se_ofR (sr_comp rfl sc__law_same.nd (si_rng1 rfl (by rfl) Y.f_range (so_of (se_callB cr_len (by rfl) Y.f_len (by decide +kernel) (sl_cons (so_p 1 (pv 1)) sl_nil)))) (blkOk_by (own := [("_law_k", 2)]) (by exact rfl)) (tg_n 2) (fun _ _ _ _ _ => (pg_name (i := 2) sc__law_same.nd rfl (by first | exact Or.inl rfl | exact Or.inr rfl))) (fun _ _ _ _ _ => (st_one (st_not (st_val (se_ofR (sr_call ih (hr.mono (by omega)) (by rfl) Y.g__law_same Y.F__law_same.kp Y.b__law_same (sa_cons (se_ix (so_p 0 (pv 0)) (so_p 2 (pv 2)) (fun _ _ => rfl)) (sa_cons (se_ix (so_p 1 (pv 1)) (so_p 2 (pv 2)) (fun _ _ => rfl)) sa_nil)))))))) (fun _ _ _ _ _ => (se_v 2 (pv 2)))))) (so_of (se_ofR (sr_lst sa_nil))) (nomark _))))))) ss_nil)
      (ss_cons (ss_if (st_cmp opr_is (so_p 1 (pv 1)) (so_of se_non) (nomark _)) (ss_one (ss_ret (sr_of (se_cmp opr_is (so_p 0 (pv 0)) (so_of se_non) (nomark _))))) ss_nil)
      (ss_cons (ss_if (st_val (se_isi (ty := "str") (by decide) rfl (by rfl) Y.f_isinstance (by rfl) Y.f_str (by decide +kernel) (so_p 1 (pv 1)))) (ss_one (ss_ret (sr_of (se_and (se_isi (ty := "str") (by decide) rfl (by rfl) Y.f_isinstance (by rfl) Y.f_str (by decide +kernel) (so_p 0 (pv 0))) (se_one (se_cmp (opr_eq hu) (so_p 0 (pv 0)) (so_p 1 (pv 1)) (nomark _))))))) ss_nil)
      (ss_cons (ss_if (st_w (sw_or (st_val (se_isi (ty := "bool") (by decide) rfl (by rfl) Y.f_isinstance (by rfl) Y.f_bool (by decide +kernel) (so_p 1 (pv 1)))) (sw_or1 (st_val (se_isi (ty := "bool") (by decide) rfl (by rfl) Y.f_isinstance (by rfl) Y.f_bool (by decide +kernel) (so_p 0 (pv 0))))))) (ss_one (ss_ret (sr_of (se_and (se_isi (ty := "bool") (by decide) rfl (by rfl) Y.f_isinstance (by rfl) Y.f_bool (by decide +kernel) (so_p 1 (pv 1))) (se_and (se_isi (ty := "bool") (by decide) rfl (by rfl) Y.f_isinstance (by rfl) Y.f_bool (by decide +kernel) (so_p 0 (pv 0))) (se_one (se_cmp (opr_eq hu) (so_p 0 (pv 0)) (so_p 1 (pv 1)) (nomark _)))))))) ss_nil)
      (ss_one (ss_ret (sr_of (se_and (se_isi (ty := "int") (by decide) rfl (by rfl) Y.f_isinstance (by rfl) Y.f_int (by decide +kernel) (so_p 0 (pv 0))) (se_one (se_cmp (opr_eq hu) (so_p 0 (pv 0)) (so_p 1 (pv 1)) (nomark _)))))))))))
theorem sc_troubles : FnScope ["steps", "step", "doubles", "slips", "waiting", "best"] ["steps"] (defScope Hd.s_troubles) := ⟨rfl, rfl, rfl, by decide +kernel, rfl, by decide +kernel, by decide +kernel⟩
theorem ok_troubles (Y : Hyp K mg) : FnOk P w K mg base CX0 1 (He.fAd K ("troubles", none)) Y.fd_troubles ["steps"] (spD K 1 (S_troubles false)) := fn_ok (k := 0) Y.F_troubles sc_troubles fun cdv A outer s H E hr => by
  have hu := hu70 hr
  exact (ss_cons (ss_parT (is := [2, 3, 4, 5]) (sq_cons (sr_of se_int) (sq_cons (sr_of se_int) (sq_cons (sr_of se_non) (sq_cons (sr_of (se_tup (sa_cons se_int (sa_cons se_int sa_nil)))) sq_nil)))) (pg_tup (by rfl) (pgs_cons (pg_name (i := 2) sc_troubles.nd rfl (by first | exact Or.inl rfl | exact Or.inr rfl)) (pgs_cons (pg_name (i := 3) sc_troubles.nd rfl (by first | exact Or.inl rfl | exact Or.inr rfl)) (pgs_cons (pg_name (i := 4) sc_troubles.nd rfl (by first | exact Or.inl rfl | exact Or.inr rfl)) (pgs_cons (pg_name (i := 5) sc_troubles.nd rfl (by first | exact Or.inl rfl | exact Or.inr rfl)) pgs_nil))))) ⟨rfl, by decide⟩)
  (ss_cons (ss_for PassesOwn.never rfl (si_seq (se_v 0 (pv 0))) (tg_n 1) (pg_name (i := 1) sc_troubles.nd rfl (by first | exact Or.inl rfl | exact Or.inr rfl)) (ss_cons (ss_if (st_cmp (opr_in hu) (so_of (se_ix (so_p 1 (pv 1)) (so_of se_int) (fun _ _ => rfl))) (so_of (se_tup (sa_cons (se_str (by decide +kernel)) (sa_cons (se_str (by decide +kernel)) sa_nil)))) (by with_unfolding_all rfl)) (ss_one (ss_parT (is := [2, 3, 4]) (sq_cons (sr_of se_int) (sq_cons (sr_of se_int) (sq_cons (sr_of se_non) sq_nil))) (pg_tup (by rfl) (pgs_cons (pg_name (i := 2) sc_troubles.nd rfl (by first | exact Or.inl rfl | exact Or.inr rfl)) (pgs_cons (pg_name (i := 3) sc_troubles.nd rfl (by first | exact Or.inl rfl | exact Or.inr rfl)) (pgs_cons (pg_name (i := 4) sc_troubles.nd rfl (by first | exact Or.inl rfl | exact Or.inr rfl)) pgs_nil)))) ⟨rfl, by decide⟩)) (ss_one (ss_if (st_cmp (opr_eq hu) (so_of (se_ix (so_p 1 (pv 1)) (so_of se_int) (fun _ _ => rfl))) (so_of (se_str (by decide +kernel))) (nomark _)) (ss_one (ss_set (i := 4) sc_troubles.nd rfl (by first | exact Or.inl rfl | exact Or.inr rfl) (se_if (st_cmp opr_isnt (so_p 4 (pv 4)) (so_of se_non) (nomark _)) (se_op2 opr_add (so_p 4 (pv 4)) (so_of se_int)) se_non))) (ss_cons (ss_set (i := 3) sc_troubles.nd rfl (by first | exact Or.inl rfl | exact Or.inr rfl) (se_op2 opr_add (so_p 3 (pv 3)) (so_if (st_cmp opr_isnt (so_p 4 (pv 4)) (so_of se_non) (nomark _)) (so_p 4 (pv 4)) (so_of se_int))))
  (ss_cons (ss_set (i := 4) sc_troubles.nd rfl (by first | exact Or.inl rfl | exact Or.inr rfl) se_int)
  (ss_one (ss_set (i := 2) sc_troubles.nd rfl (by first | exact Or.inl rfl | exact Or.inr rfl) (se_op2 opr_add (so_p 2 (pv 2)) (so_of (se_callTy cr_int (by rfl) Y.f_int (by decide +kernel) (sl_cons (so_of (se_cmp (opr_eq hu) (so_of (se_ix (so_p 1 (pv 1)) (so_of se_int) (fun _ _ => rfl))) (so_of (se_str (by decide +kernel))) (nomark _))) sl_nil)))))))))))
  (ss_one (ss_set (i := 5) sc_troubles.nd rfl (by first | exact Or.inl rfl | exact Or.inr rfl) (se_tup (sa_cons (se_callB (cr_max rfl) (by rfl) Y.f_max (by decide +kernel) (sl_cons (so_of (se_ix (so_p 5 (pv 5)) (so_of se_int) (fun _ _ => rfl))) (sl_cons (so_p 2 (pv 2)) sl_nil))) (sa_cons (se_callB (cr_max rfl) (by rfl) Y.f_max (by decide +kernel) (sl_cons (so_of (se_ix (so_p 5 (pv 5)) (so_of se_int) (fun _ _ => rfl))) (sl_cons (so_p 3 (pv 3)) sl_nil))) sa_nil)))))))
  (ss_one (ss_ret (sr_of (se_v 5 (pv 5)))))))
theorem sc_need_rule : FnScope ["rule"] ["rule"] (defScope Hd.s_need_rule) := ⟨rfl, rfl, rfl, by decide +kernel, rfl, by decide +kernel, by decide +kernel⟩
theorem ok_need_rule (Y : Hyp K mg) : FnOk P w K mg base CX0 2 (He.fAd K ("need_rule", none)) Y.fd_need_rule ["rule"] (spD K 1 (S_need_rule false)) := fn_ok (k := 1) Y.F_need_rule sc_need_rule fun cdv A outer s H E hr => by
  have hu := hu70 hr
  exact (ss_cons (ss_if (st_w (sw_or (st_not (st_val (se_isi (ty := "tuple") (by decide) rfl (by rfl) Y.f_isinstance (by rfl) Y.f_tuple (by decide +kernel) (so_p 0 (pv 0))))) (sw_or1 (st_cmp (opr_ne hu) (so_of (se_callB cr_len (by rfl) Y.f_len (by decide +kernel) (sl_cons (so_p 0 (pv 0)) sl_nil))) (so_of se_int) (nomark _))))) (ss_one ss_bad) ss_nil)
  (ss_one (ss_if (st_w (sw_or (st_not (st_val (se_ofR (sr_call (ok_is_number Y) (hr.mono (by decide)) (by rfl) Y.g_is_number Y.F_is_number.kp Y.b_is_number (sa_cons (se_ix (so_p 0 (pv 0)) (so_of se_int) (fun _ _ => rfl)) (sa_cons se_int (sa_cons (se_gint (by rfl) Y.i_MOST_DOUBLES) sa_nil))))))) (sw_or1 (st_not (st_val (se_ofR (sr_call (ok_is_number Y) (hr.mono (by decide)) (by rfl) Y.g_is_number Y.F_is_number.kp Y.b_is_number (sa_cons (se_ix (so_p 0 (pv 0)) (so_of se_int) (fun _ _ => rfl)) (sa_cons se_int (sa_cons (se_gint (by rfl) Y.i_MOST_SLIPS) sa_nil)))))))))) (ss_one ss_bad) ss_nil)))
theorem sc_is_scan : FnScope ["sheets", "scan", "side", "page"] ["sheets", "scan"] (defScope Hd.s_is_scan) := ⟨rfl, rfl, rfl, by decide +kernel, rfl, by decide +kernel, by decide +kernel⟩
theorem ok_is_scan (Y : Hyp K mg) : FnOk P w K mg base CX0 2 (He.fAd K ("is_scan", none)) Y.fd_is_scan ["sheets", "scan"] (spD K 2 (S_is_scan false)) := fn_ok (k := 1) Y.F_is_scan sc_is_scan fun cdv A outer s H E hr => by
  have hu := hu70 hr
  exact (ss_cons (ss_if (st_w (sw_or (st_not (st_val (se_isi (ty := "tuple") (by decide) rfl (by rfl) Y.f_isinstance (by rfl) Y.f_tuple (by decide +kernel) (so_p 1 (pv 1))))) (sw_or1 (st_cmp (opr_ne hu) (so_of (se_callB cr_len (by rfl) Y.f_len (by decide +kernel) (sl_cons (so_p 1 (pv 1)) sl_nil))) (so_of se_int) (nomark _))))) (ss_one (ss_ret (sr_of se_bl))) ss_nil)
  (ss_cons (ss_for PassesOwn.never rfl (si_enumT rfl (by rfl) Y.f_enumerate (se_v 1 (pv 1))) (tg_n2 (by decide)) (pg_tup (by rfl) (pgs_cons (pg_name (i := 2) sc_is_scan.nd rfl (by first | exact Or.inl rfl | exact Or.inr rfl)) (pgs_cons (pg_name (i := 3) sc_is_scan.nd rfl (by first | exact Or.inl rfl | exact Or.inr rfl)) pgs_nil))) (ss_one (ss_if (st_w (sw_and (st_cmp opr_isnt (so_p 3 (pv 3)) (so_of se_non) (nomark _)) (sw_and1 (st_w (sw_or (st_not (st_val (se_ofR (sr_call (ok_is_number Y) (hr.mono (by decide)) (by rfl) Y.g_is_number Y.F_is_number.kp Y.b_is_number (sa_cons (se_v 3 (pv 3)) (sa_cons se_int (sa_cons (se_op2 opr_sub (so_of (se_op2 opr_mul (so_of se_int) (so_p 0 (pv 0)))) (so_of se_int)) sa_nil))))))) (sw_or1 (st_cmp (opr_ne hu) (so_of (se_op2 opr_mod (so_p 3 (pv 3)) (so_of se_int))) (so_p 2 (pv 2)) (nomark _)))))))) (ss_one (ss_ret (sr_of se_bl))) ss_nil)))
  (ss_one (ss_ret (sr_of se_bl)))))
theorem sc_need_run : FnScope ["sheets", "run", "number", "scan"] ["sheets", "run"] (defScope Hd.s_need_run) := ⟨rfl, rfl, rfl, by decide +kernel, rfl, by decide +kernel, by decide +kernel⟩
theorem ok_need_run (Y : Hyp K mg) : FnOk P w K mg base CX0 3 (He.fAd K ("need_run", none)) Y.fd_need_run ["sheets", "run"] (spD K 2 (S_need_run false)) := fn_ok (k := 2) Y.F_need_run sc_need_run fun cdv A outer s H E hr => by
  have hu := hu70 hr
  exact (ss_one (ss_for PassesOwn.never rfl (si_enum rfl (by rfl) Y.f_enumerate (se_v 1 (pv 1))) (tg_n2 (by decide)) (pg_tup (by rfl) (pgs_cons (pg_name (i := 2) sc_need_run.nd rfl (by first | exact Or.inl rfl | exact Or.inr rfl)) (pgs_cons (pg_name (i := 3) sc_need_run.nd rfl (by first | exact Or.inl rfl | exact Or.inr rfl)) pgs_nil))) (ss_one (ss_if (st_w (sw_or (st_cmp (opr_eq hu) (so_p 2 (pv 2)) (so_of (se_gint (by rfl) Y.i_MOST_SCANS)) (nomark _)) (sw_or1 (st_not (st_val (se_ofR (sr_call (ok_is_scan Y) (hr.mono (by decide)) (by rfl) Y.g_is_scan Y.F_is_scan.kp Y.b_is_scan (sa_cons (se_v 0 (pv 0)) (sa_cons (se_v 3 (pv 3)) sa_nil))))))))) (ss_one ss_bad) ss_nil))))
theorem sc_Finder___init__ : FnScope ["self", "sheets", "rule", "run"] ["self", "sheets", "rule", "run"] (defScope Hd.s_Finder___init__) := ⟨rfl, rfl, rfl, by decide +kernel, rfl, by decide +kernel, by decide +kernel⟩
theorem ok_Finder___init__ (Y : Hyp K mg) : FnOk P w K mg base CX0 1 (He.fAd K ("Finder", some "__init__")) Y.fd_Finder___init__ ["self", "sheets", "rule", "run"] (spD K 4 (S_Finder___init__ false)) := fn_ok (k := 0) Y.F_Finder___init__ sc_Finder___init__ fun cdv A outer s H E hr => by
  have hu := hu70 hr
  exact (ss_cons (ss_sfld Y.c_Finder Y.n_Finder_sheets (se_v 0 (pv 0)) (se_v 1 (pv 1)))
  (ss_cons (ss_sfld Y.c_Finder Y.n_Finder_rule (se_v 0 (pv 0)) (se_v 2 (pv 2)))
  (ss_cons (ss_sfld Y.c_Finder Y.n_Finder_taken (se_v 0 (pv 0)) (se_v 3 (pv 3)))
  (ss_one (ss_sfdic Y.c_Finder Y.n_Finder_ways (se_v 0 (pv 0)))))))
theorem sc_need_all : FnScope ["sheets", "rule", "run"] ["sheets", "rule", "run"] (defScope Hd.s_need_all) := ⟨rfl, rfl, rfl, by decide +kernel, rfl, by decide +kernel, by decide +kernel⟩
theorem ok_need_all (Y : Hyp K mg) : FnOk P w K mg base CX0 4 (He.fAd K ("need_all", none)) Y.fd_need_all ["sheets", "rule", "run"] (spD K 3 (S_need_all false)) := fn_ok (k := 3) Y.F_need_all sc_need_all fun cdv A outer s H E hr => by
  have hu := hu70 hr
  exact (ss_cons (ss_expr (se_ofR (sr_call (ok_need_book Y) (hr.mono (by decide)) (by rfl) Y.g_need_book Y.F_need_book.kp Y.b_need_book (sa_cons (se_v 0 (pv 0)) sa_nil))))
  (ss_cons (ss_expr (se_ofR (sr_call (ok_need_rule Y) (hr.mono (by decide)) (by rfl) Y.g_need_rule Y.F_need_rule.kp Y.b_need_rule (sa_cons (se_v 1 (pv 1)) sa_nil))))
  (ss_cons (ss_expr (se_ofR (sr_call (ok_need_run Y) (hr.mono (by decide)) (by rfl) Y.g_need_run Y.F_need_run.kp Y.b_need_run (sa_cons (se_v 0 (pv 0)) (sa_cons (se_v 2 (pv 2)) sa_nil)))))
  (ss_one (ss_ret (sr_of (se_make Y.m_Finder (ok_Finder___init__ Y) (hr.mono (by decide)) (by rfl) Y.g_Finder Y.b_Finder___init__ (sa_cons (se_v 0 (pv 0)) (sa_cons (se_v 1 (pv 1)) (sa_cons (se_ofR (sr_list rfl (by rfl) Y.f_list (by decide +kernel) (sl_cons (so_p 2 (pv 2)) sl_nil))) sa_nil))))))))))
theorem sc_does_show : FnScope ["scan", "first", "last"] ["scan", "first", "last"] (defScope Hd.s_does_show) := ⟨rfl, rfl, rfl, by decide +kernel, rfl, by decide +kernel, by decide +kernel⟩
theorem ok_does_show (Y : Hyp K mg) : FnOk P w K mg base CX0 1 (He.fAd K ("does_show", none)) Y.fd_does_show ["scan", "first", "last"] (spD K 3 (S_does_show false)) := fn_ok (k := 0) Y.F_does_show sc_does_show fun cdv A outer s H E hr => by
  have hu := hu70 hr
  exact (ss_one (ss_ret (sr_of (se_and (se_cmp (opr_in hu) (so_of (se_ix (so_p 0 (pv 0)) (so_of se_int) (fun _ _ => rfl))) (so_of (se_tup (sa_cons se_non (sa_cons (se_op2 opr_mul (so_of se_int) (so_p 1 (pv 1))) sa_nil)))) (by with_unfolding_all rfl)) (se_one (se_cmp (opr_in hu) (so_of (se_ix (so_p 0 (pv 0)) (so_of se_int) (fun _ _ => rfl))) (so_of (se_tup (sa_cons se_non (sa_cons (se_op2 opr_add (so_of (se_op2 opr_mul (so_of se_int) (so_p 2 (pv 2)))) (so_of se_int)) sa_nil)))) (by with_unfolding_all rfl)))))))
theorem sc_Finder_steps : FnScope ["self", "place", "sheet", "doubles", "slips", "found", "gone", "first", "more", "last"] ["self", "place", "sheet", "doubles", "slips"] (defScope Hd.s_Finder_steps) := ⟨rfl, rfl, rfl, by decide +kernel, rfl, by decide +kernel, by decide +kernel⟩
theorem ok_Finder_steps (Y : Hyp K mg) : FnOk P w K mg base CX0 2 (He.fAd K ("Finder", some "steps")) Y.fd_Finder_steps ["self", "place", "sheet", "doubles", "slips"] (spD K 5 (S_Finder_steps false)) := fn_ok (k := 1) Y.F_Finder_steps sc_Finder_steps fun cdv A outer s H E hr => by
  have hu := hu70 hr
  exact (ss_cons (ss_setR (i := 5) sc_Finder_steps.nd rfl (by first | exact Or.inl rfl | exact Or.inr rfl) (sr_lst sa_nil))
  (ss_cons (ss_for PassesOwn.never rfl (si_rng1 rfl (by rfl) Y.f_range (so_of (se_op2 opr_add (so_p 4 (pv 4)) (so_of se_int)))) (tg_n 6) (pg_name (i := 6) sc_Finder_steps.nd rfl (by first | exact Or.inl rfl | exact Or.inr rfl)) (ss_cons (ss_set (i := 7) sc_Finder_steps.nd rfl (by first | exact Or.inl rfl | exact Or.inr rfl) (se_op2 opr_add (so_p 2 (pv 2)) (so_p 6 (pv 6))))
  (ss_one (ss_for PassesOwn.never rfl (si_rng1 rfl (by rfl) Y.f_range (so_of (se_op2 opr_add (so_of (se_callB (cr_min rfl) (by rfl) Y.f_min (by decide +kernel) (sl_cons (so_of se_int) (sl_cons (so_p 3 (pv 3)) sl_nil)))) (so_of se_int)))) (tg_n 8) (pg_name (i := 8) sc_Finder_steps.nd rfl (by first | exact Or.inl rfl | exact Or.inr rfl)) (ss_cons (ss_set (i := 9) sc_Finder_steps.nd rfl (by first | exact Or.inl rfl | exact Or.inr rfl) (se_op2 opr_add (so_p 7 (pv 7)) (so_p 8 (pv 8))))
  (ss_one (ss_if (st_w (sw_and (st_cmp opr_lt (so_p 9 (pv 9)) (so_of (se_fld Y.c_Finder Y.n_Finder_sheets (se_v 0 (pv 0)))) (nomark _)) (sw_and1 (st_val (se_ofR (sr_call (ok_does_show Y) (hr.mono (by decide)) (by rfl) Y.g_does_show Y.F_does_show.kp Y.b_does_show (sa_cons (se_ix (so_of (se_fld Y.c_Finder Y.n_Finder_taken (se_v 0 (pv 0)))) (so_p 1 (pv 1)) (fun _ _ => rfl)) (sa_cons (se_v 7 (pv 7)) (sa_cons (se_v 9 (pv 9)) sa_nil))))))))) (ss_one (ss_app (i := 5) (pv 5) (se_tup (sa_cons (se_v 7 (pv 7)) (sa_cons (se_v 9 (pv 9)) (sa_cons (se_op2 opr_sub (so_p 3 (pv 3)) (so_p 8 (pv 8))) (sa_cons (se_op2 opr_sub (so_p 4 (pv 4)) (so_p 6 (pv 6))) sa_nil))))))) ss_nil)))))))
  (ss_one (ss_retV 5 (pv 5)))))
theorem sc_Finder_firsts : FnScope ["self", "found", "sheet", "one"] ["self"] (defScope Hd.s_Finder_firsts) := ⟨rfl, rfl, rfl, by decide +kernel, rfl, by decide +kernel, by decide +kernel⟩
theorem ok_Finder_firsts (Y : Hyp K mg) : FnOk P w K mg base CX0 3 (He.fAd K ("Finder", some "firsts")) Y.fd_Finder_firsts ["self"] (spD K 1 (S_Finder_firsts false)) := fn_ok (k := 2) Y.F_Finder_firsts sc_Finder_firsts fun cdv A outer s H E hr => by
  have hu := hu70 hr
  exact (ss_cons (ss_setR (i := 1) sc_Finder_firsts.nd rfl (by first | exact Or.inl rfl | exact Or.inr rfl) (sr_lst sa_nil))
  (ss_cons (ss_for PassesOwn.never rfl (si_rng1 rfl (by rfl) Y.f_range (so_of (se_fld Y.c_Finder Y.n_Finder_sheets (se_v 0 (pv 0))))) (tg_n 2) (pg_name (i := 2) sc_Finder_firsts.nd rfl (by first | exact Or.inl rfl | exact Or.inr rfl)) (ss_one (ss_for PassesOwn.never rfl (si_seq (se_ofR (sr_meth (se_v 0 (pv 0)) Y.c_Finder Y.h_Finder_steps (ok_Finder_steps Y) (hr.mono (by decide)) Y.b_Finder_steps (sa_cons se_int (sa_cons (se_v 2 (pv 2)) (sa_cons (se_ix (so_of (se_fld Y.c_Finder Y.n_Finder_rule (se_v 0 (pv 0)))) (so_of se_int) (fun _ _ => rfl)) (sa_cons se_int sa_nil))))))) (tg_n 3) (pg_name (i := 3) sc_Finder_firsts.nd rfl (by first | exact Or.inl rfl | exact Or.inr rfl)) (ss_one (ss_app (i := 1) (pv 1) (se_tup (sa_cons (se_ix (so_p 3 (pv 3)) (so_of se_int) (fun _ _ => rfl)) (sa_cons (se_ix (so_p 3 (pv 3)) (so_of se_int) (fun _ _ => rfl)) (sa_cons (se_ix (so_p 3 (pv 3)) (so_of se_int) (fun _ _ => rfl)) (sa_cons (se_ix (so_of (se_fld Y.c_Finder Y.n_Finder_rule (se_v 0 (pv 0)))) (so_of se_int) (fun _ _ => rfl)) sa_nil))))))))))
  (ss_one (ss_retV 1 (pv 1)))))
theorem sc_Finder_count : FnScope ["self", "place", "sheet", "doubles", "slips", "key", "some", "one"] ["self", "place", "sheet", "doubles", "slips"] (defScope Hd.s_Finder_count) := ⟨rfl, rfl, rfl, by decide +kernel, rfl, by decide +kernel, by decide +kernel⟩
theorem ok_Finder_count (Y : Hyp K mg) : ∀ n : Nat, FnOk P w K mg base CX0 (3 + n) (He.fAd K ("Finder", some "count")) Y.fd_Finder_count ["self", "place", "sheet", "doubles", "slips"] (spD K 5 (S_Finder_count false n))
  | 0 => fn_ok (k := 2) Y.F_Finder_count sc_Finder_count fun cdv A outer s H E hr => ss_badAll
  | n + 1 => fn_ok (k := 3 + n) Y.F_Finder_count sc_Finder_count fun cdv A outer s H E hr => by
    have ih := ok_Finder_count Y n
    have hu := hu70 hr
    exact (ss_cons (ss_if (st_cmp (opr_eq hu) (so_p 1 (pv 1)) (so_of (se_callB cr_len (by rfl) Y.f_len (by decide +kernel) (sl_cons (so_of (se_fld Y.c_Finder Y.n_Finder_taken (se_v 0 (pv 0)))) sl_nil))) (nomark _)) (ss_one (ss_ret (sr_of se_int))) ss_nil)
      (ss_cons (ss_set (i := 5) sc_Finder_count.nd rfl (by first | exact Or.inl rfl | exact Or.inr rfl) (se_tup (sa_cons (se_v 1 (pv 1)) (sa_cons (se_v 2 (pv 2)) (sa_cons (se_v 3 (pv 3)) (sa_cons (se_v 4 (pv 4)) sa_nil))))))
      (ss_cons (ss_if (st_dnin hu Y.c_Finder Y.n_Finder_ways (pv 5) (se_v 0 (pv 0))) (ss_cons (ss_setR (i := 6) sc_Finder_count.nd rfl (by first | exact Or.inl rfl | exact Or.inr rfl) (sr_meth (se_v 0 (pv 0)) Y.c_Finder Y.h_Finder_steps (ok_Finder_steps Y) (hr.mono (by omega)) Y.b_Finder_steps (sa_cons (se_v 1 (pv 1)) (sa_cons (se_v 2 (pv 2)) (sa_cons (se_v 3 (pv 3)) (sa_cons (se_v 4 (pv 4)) sa_nil))))))
      (ss_frz 6 (ss_one (ss_dput hu Y.c_Finder Y.n_Finder_ways (se_v 0 (pv 0)) (pv 5) (se_callB (cr_sumL rfl) (by rfl) Y.f_sum (by decide +kernel) (sl_cons (so_of (se_ofR (sr_comp rfl sc_Finder_count.nd (si_seq (se_v 6 (pv 6))) (blkOk_by (own := [("one", 7)]) (by exact rfl)) (tg_n 7) (fun _ _ _ _ _ => (pg_name (i := 7) sc_Finder_count.nd rfl (by first | exact Or.inl rfl | exact Or.inr rfl))) (fun _ _ _ _ _ => st_yes) (fun _ _ _ _ _ => (se_ofR (sr_meth (se_v 0 (pv 0)) Y.c_Finder Y.h_Finder_count ih (hr.mono (by omega)) Y.b_Finder_count (sa_cons (se_op2 opr_add (so_p 1 (pv 1)) (so_of se_int)) (sa_cons (se_op2 opr_add (so_of (se_ix (so_p 7 (pv 7)) (so_of se_int) (fun _ _ => rfl))) (so_of se_int)) (sa_cons (se_ix (so_p 7 (pv 7)) (so_of se_int) (fun _ _ => rfl)) (sa_cons (se_ix (so_p 7 (pv 7)) (so_of se_int) (fun _ _ => rfl)) sa_nil)))))))))) sl_nil)))))) ss_nil)
      (ss_one (ss_ret (sr_of (se_dget hu Y.c_Finder Y.n_Finder_ways (se_v 0 (pv 0)) (pv 5) (fun _ _ => rfl))))))))
theorem sc_all_ways : FnScope ["finder", "found", "level", "place", "good", "later", "one", "step"] ["finder"] (defScope Hd.s_all_ways) := ⟨rfl, rfl, rfl, by decide +kernel, rfl, by decide +kernel, by decide +kernel⟩
theorem ok_all_ways (Y : Hyp K mg) : FnOk P w K mg base CX0 34 (He.fAd K ("all_ways", none)) Y.fd_all_ways ["finder"] (spD K 1 (S_all_ways false)) := fn_ok (k := 33) Y.F_all_ways sc_all_ways fun cdv A outer s H E hr => by
  have hu := hu70 hr
  exact (ss_cons (ss_setR (i := 1) sc_all_ways.nd rfl (by first | exact Or.inl rfl | exact Or.inr rfl) (sr_lst sa_nil))
  (ss_cons (ss_setR (i := 2) sc_all_ways.nd rfl (by first | exact Or.inl rfl | exact Or.inr rfl) (sr_if (st_cmp (opr_ne hu) (so_of (se_fld Y.c_Finder Y.n_Finder_taken (se_v 0 (pv 0)))) (so_of (se_ofR (sr_lst sa_nil))) (nomark _)) (sr_meth0 (se_v 0 (pv 0)) Y.c_Finder Y.h_Finder_firsts (ok_Finder_firsts Y) (hr.mono (by decide)) Y.b_Finder_firsts) (sr_lst sa_nil)))
  (ss_cons (ss_for PassesOwn.never rfl (si_rng1 rfl (by rfl) Y.f_range (so_of (se_callB cr_len (by rfl) Y.f_len (by decide +kernel) (sl_cons (so_of (se_fld Y.c_Finder Y.n_Finder_taken (se_v 0 (pv 0)))) sl_nil)))) (tg_n 3) (pg_name (i := 3) sc_all_ways.nd rfl (by first | exact Or.inl rfl | exact Or.inr rfl)) (ss_frz 2 (ss_cons (ss_setLc (i := 4) rfl sc_all_ways.nd rfl rfl (sw_true rfl rfl rfl (by decide +kernel)) (si_seq (se_v 2 (pv 2))) (blkOk_by (own := [("one", 6)]) (by exact rfl)) (tg_n 6) (fun _ _ _ _ _ => (pg_name (i := 6) sc_all_ways.nd rfl (by first | exact Or.inl rfl | exact Or.inr rfl))) (fun _ _ _ _ _ => (st_one (st_cmp opr_gt (so_of (se_ofR (sr_meth (se_v 0 (pv 0)) Y.c_Finder Y.h_Finder_count (ok_Finder_count Y 30) (hr.mono (by decide)) Y.b_Finder_count (sa_cons (se_op2 opr_add (so_p 3 (pv 3)) (so_of se_int)) (sa_cons (se_op2 opr_add (so_of (se_ix (so_p 6 (pv 6)) (so_of se_int) (fun _ _ => rfl))) (so_of se_int)) (sa_cons (se_ix (so_p 6 (pv 6)) (so_of se_int) (fun _ _ => rfl)) (sa_cons (se_ix (so_p 6 (pv 6)) (so_of se_int) (fun _ _ => rfl)) sa_nil))))))) (so_of se_int) (nomark _)))) (fun _ _ _ _ _ => (se_v 6 (pv 6))))
  (ss_cons (ss_if (st_cmp (opr_eq hu) (so_p 4 (pv 4)) (so_of (se_ofR (sr_lst sa_nil))) (nomark _)) (ss_one (ss_ret (sr_lst sa_nil))) ss_nil)
  (ss_frz 4 (ss_cons (ss_app (i := 1) (pv 1) (se_v 4 (pv 4)))
  (ss_cons (ss_setDic (i := 5) sc_all_ways.nd rfl (by first | exact Or.inl rfl | exact Or.inr rfl))
  (ss_frz 4 (ss_cons (ss_for PassesOwn.never rfl (si_seq (se_v 4 (pv 4))) (tg_n 6) (pg_name (i := 6) sc_all_ways.nd rfl (by first | exact Or.inl rfl | exact Or.inr rfl)) (ss_one (ss_if (st_cmp opr_lt (so_of (se_op2 opr_add (so_p 3 (pv 3)) (so_of se_int))) (so_of (se_callB cr_len (by rfl) Y.f_len (by decide +kernel) (sl_cons (so_of (se_fld Y.c_Finder Y.n_Finder_taken (se_v 0 (pv 0)))) sl_nil))) (nomark _)) (ss_one (ss_for PassesOwn.never rfl (si_seq (se_ofR (sr_meth (se_v 0 (pv 0)) Y.c_Finder Y.h_Finder_steps (ok_Finder_steps Y) (hr.mono (by decide)) Y.b_Finder_steps (sa_cons (se_op2 opr_add (so_p 3 (pv 3)) (so_of se_int)) (sa_cons (se_op2 opr_add (so_of (se_ix (so_p 6 (pv 6)) (so_of se_int) (fun _ _ => rfl))) (so_of se_int)) (sa_cons (se_ix (so_p 6 (pv 6)) (so_of se_int) (fun _ _ => rfl)) (sa_cons (se_ix (so_p 6 (pv 6)) (so_of se_int) (fun _ _ => rfl)) sa_nil))))))) (tg_n 7) (pg_name (i := 7) sc_all_ways.nd rfl (by first | exact Or.inl rfl | exact Or.inr rfl)) (ss_one (ss_dputS hu (pv 5) (pv 7) se_bl)))) ss_nil)))
  (ss_one (ss_setR (i := 2) sc_all_ways.nd rfl (by first | exact Or.inl rfl | exact Or.inr rfl) (sr_sortDic rfl hu rfl (by rfl) Y.f_sorted (pv 5)))))))))))))
  (ss_one (ss_retV 1 (pv 1))))))
theorem sc_could : FnScope ["sheets", "rule", "run", "finder", "rows", "row", "one"] ["sheets", "rule", "run"] (defScope Hd.s_could) := ⟨rfl, rfl, rfl, by decide +kernel, rfl, by decide +kernel, by decide +kernel⟩
theorem ok_could (Y : Hyp K mg) : FnOk P w K mg base CX0 35 (He.fAd K ("could", none)) Y.fd_could ["sheets", "rule", "run"] (spD K 3 (S_could false)) := fn_ok (k := 34) Y.F_could sc_could fun cdv A outer s H E hr => by
  have hu := hu70 hr
  exact (ss_cons (ss_setR (i := 3) sc_could.nd rfl (by first | exact Or.inl rfl | exact Or.inr rfl) (sr_call (ok_need_all Y) (hr.mono (by decide)) (by rfl) Y.g_need_all Y.F_need_all.kp Y.b_need_all (sa_cons (se_v 0 (pv 0)) (sa_cons (se_v 1 (pv 1)) (sa_cons (se_v 2 (pv 2)) sa_nil)))))
  (ss_frz 3 (ss_cons (ss_if (st_cmp (opr_eq hu) (so_of (se_callB cr_len (by rfl) Y.f_len (by decide +kernel) (sl_cons (so_of (se_fld Y.c_Finder Y.n_Finder_taken (se_v 3 (pv 3)))) sl_nil))) (so_of se_int) (nomark _)) (ss_one (ss_ret (sr_lst sa_nil))) ss_nil)
  (ss_frz 3 (ss_cons (ss_setR (i := 4) sc_could.nd rfl (by first | exact Or.inl rfl | exact Or.inr rfl) (sr_call (ok_all_ways Y) (hr.mono (by decide)) (by rfl) Y.g_all_ways Y.F_all_ways.kp Y.b_all_ways (sa_cons (se_v 3 (pv 3)) sa_nil)))
  (ss_frz 4 (ss_one (ss_ret (sr_if (st_cmp (opr_ne hu) (so_p 4 (pv 4)) (so_of (se_ofR (sr_lst sa_nil))) (nomark _)) (sr_comp rfl sc_could.nd (si_seq (se_v 4 (pv 4))) (blkOk_by (own := [("row", 5)]) (by exact rfl)) (tg_n 5) (fun _ _ _ _ _ => (pg_name (i := 5) sc_could.nd rfl (by first | exact Or.inl rfl | exact Or.inr rfl))) (fun _ _ _ _ _ => st_yes) (fun _ _ _ _ _ => (se_ofR (sr_sortSet rfl hu (by rfl) Y.f_sorted (by rfl) Y.f_set (sl_cons (so_of (se_ofR (sr_comp rfl sc_could.nd (si_seq (se_v 5 (pv 5))) (blkOk_by (own := [("one", 6)]) (by exact rfl)) (tg_n 6) (fun _ _ _ _ _ => (pg_name (i := 6) sc_could.nd rfl (by first | exact Or.inl rfl | exact Or.inr rfl))) (fun _ _ _ _ _ => st_yes) (fun _ _ _ _ _ => (se_sl (so_p 6 (pv 6)) sp_none (sp_some (so_of se_int))))))) sl_nil))))) (sr_of se_non))))))))))
theorem sc__law_told : FnScope ["_law_steps", "_law_sheets", "_law_step_here", "_law_due", "_law_handed", "_law_feeder_here", "_law_w", "_law_kept", "_law_told_here", "_law_run", "_law_true", "_law_pair"] ["_law_steps", "_law_sheets"] (defScope Hd.s__law_told) := ⟨rfl, rfl, rfl, by decide +kernel, rfl, by decide +kernel, by decide +kernel⟩
theorem ok__law_told (Y : Hyp K mg) : FnOk P w K mg base CX0 36 (He.fAd K ("_law_told", none)) Y.fd__law_told ["_law_steps", "_law_sheets"] (spD K 2 (S__law_told false)) := fn_ok (k := 35) Y.F__law_told sc__law_told fun cdv A outer s H E hr => by
  have hu := hu70 hr
  exact (ss_cons (ss_par3 (i := 5) (j := 6) (l := 7) rfl sc__law_told.nd rfl rfl rfl (by decide) (by decide) (by decide) rfl rfl rfl (sq_cons (sr_of (se_make Y.m_Feeder (ok_Feeder___init__ Y) (hr.mono (by decide)) (by rfl) Y.g_Feeder Y.b_Feeder___init__ (sa_cons (se_v 1 (pv 1)) (sa_cons (se_tup sa_nil) sa_nil)))) (sq_cons (sr_call (ok__law_feeder Y) (hr.mono (by decide)) (by rfl) Y.g__law_feeder Y.F__law_feeder.kp Y.b__law_feeder (sa_cons (se_v 1 (pv 1)) (sa_cons (se_tup sa_nil) sa_nil))) (sq_cons (sr_lst sa_nil) sq_nil))) (by rfl))
  (ss_cons (ss_for PassesOwn.never rfl (si_seq (se_v 0 (pv 0))) (tg_n 2) (pg_name (i := 2) sc__law_told.nd rfl (by first | exact Or.inl rfl | exact Or.inr rfl)) (ss_frz 6 (ss_cons (ss_setR (i := 8) sc__law_told.nd rfl (by first | exact Or.inl rfl | exact Or.inr rfl) (sr_call (ok__law_does Y) (hr.mono (by decide)) (by rfl) Y.g__law_does Y.F__law_does.kp Y.b__law_does (sa_cons (se_v 6 (pv 6)) (sa_cons (se_v 2 (pv 2)) sa_nil))))
  (ss_one (ss_if (st_cmp (opr_nin hu) (so_p 8 (pv 8)) (so_of (se_ofR (sr_lst (sa_cons (se_tup (sa_cons (se_str (by decide +kernel)) (sa_cons se_int sa_nil))) (sa_cons (se_tup (sa_cons (se_str (by decide +kernel)) (sa_cons se_int sa_nil))) (sa_cons (se_tup (sa_cons (se_str (by decide +kernel)) (sa_cons se_int sa_nil))) sa_nil)))))) (by with_unfolding_all rfl)) (ss_cons (ss_expr (se_ofR (sr_call (ok__law_do Y) (hr.mono (by decide)) (by rfl) Y.g__law_do Y.F__law_do.kp Y.b__law_do (sa_cons (se_v 5 (pv 5)) (sa_cons (se_v 2 (pv 2)) sa_nil)))))
  (ss_one (ss_app (i := 7) (pv 7) (se_v 2 (pv 2))))) ss_nil)))))
  (ss_cons (ss_setR (i := 3) sc__law_told.nd rfl (by first | exact Or.inl rfl | exact Or.inr rfl) (sr_call (ok__law_worst Y) (hr.mono (by decide)) (by rfl) Y.g__law_worst Y.F__law_worst.kp Y.b__law_worst (sa_cons (se_op2 opr_add (so_of (se_dcg hu (pv 6))) (so_of (se_ofR (sr_lst (sa_cons (se_dcg hu (pv 6)) sa_nil))))) sa_nil)))
  (ss_cons (ss_setR (i := 4) sc__law_told.nd rfl (by first | exact Or.inl rfl | exact Or.inr rfl) (sr_list rfl (by rfl) Y.f_list (by decide +kernel) (sl_cons (so_p 7 (pv 7)) sl_nil)))
  (ss_frz 3 (ss_frz 4 (ss_cons (ss_if (st_w (sw_or (st_not (st_val (se_ofR (sr_call (ok__law_same Y 6) (hr.mono (by decide)) (by rfl) Y.g__law_same Y.F__law_same.kp Y.b__law_same (sa_cons (se_ofR (sr_call (ok_troubles Y) (hr.mono (by decide)) (by rfl) Y.g_troubles Y.F_troubles.kp Y.b_troubles (sa_cons (se_v 4 (pv 4)) sa_nil))) (sa_cons (se_v 3 (pv 3)) sa_nil)))))) (sw_or1 (st_cmp (opr_ne hu) (so_p 4 (pv 4)) (so_p 7 (pv 7)) (nomark _))))) (ss_one (ss_ret (sr_of se_bl))) ss_nil)
  (ss_cons (ss_for PassesOwn.never rfl (si_zip rfl (by rfl) Y.f_zip (se_ofR (sr_meth0 (se_v 5 (pv 5)) Y.c_Feeder Y.h_Feeder_runs (ok_Feeder_runs Y) (hr.mono (by decide)) Y.b_Feeder_runs)) (se_dcg hu (pv 6))) (tg_n2 (by decide)) (pg_tup (by rfl) (pgs_cons (pg_name (i := 9) sc__law_told.nd rfl (by first | exact Or.inl rfl | exact Or.inr rfl)) (pgs_cons (pg_name (i := 10) sc__law_told.nd rfl (by first | exact Or.inl rfl | exact Or.inr rfl)) pgs_nil))) (ss_frz 3 (ss_one (ss_if (st_w (sw_and (st_cmp opr_lt (so_of (se_callB (cr_maxL rfl hu) (by rfl) Y.f_max (by decide +kernel) (sl_cons (so_p 3 (pv 3)) sl_nil))) (so_of se_int) (nomark _)) (sw_and (st_cmp opr_lt (so_of (se_callB cr_len (by rfl) Y.f_len (by decide +kernel) (sl_cons (so_p 9 (pv 9)) sl_nil))) (so_of se_int) (nomark _)) (sw_and1 (st_cmp (opr_ne hu) (so_of (se_ofR (sr_call (ok_could Y) (hr.mono (by decide)) (by rfl) Y.g_could Y.F_could.kp Y.b_could (sa_cons (se_v 1 (pv 1)) (sa_cons (se_v 3 (pv 3)) (sa_cons (se_v 9 (pv 9)) sa_nil)))))) (so_of (se_ofR (sr_comp rfl sc__law_told.nd (si_seq (se_v 10 (pv 10))) (blkOk_by (own := [("_law_pair", 11)]) (by exact rfl)) (tg_n 11) (fun _ _ _ _ _ => (pg_name (i := 11) sc__law_told.nd rfl (by first | exact Or.inl rfl | exact Or.inr rfl))) (fun _ _ _ _ _ => st_yes) (fun _ _ _ _ _ => (se_ofR (sr_lst (sa_cons (se_v 11 (pv 11)) sa_nil))))))) (nomark _)))))) (ss_one (ss_ret (sr_of se_bl))) ss_nil))))
  (ss_one (ss_ret (sr_of se_bl)))))))))))
theorem sc__law_step : FnScope ["_law_state", "_law_sheets", "_law_way", "_law_low"] ["_law_state", "_law_sheets"] (defScope Hd.s__law_step) := ⟨rfl, rfl, rfl, by decide +kernel, rfl, by decide +kernel, by decide +kernel⟩
theorem ok__law_step (Y : Hyp K mg) : FnOk P w K mg base CX0 2 (He.fAd K ("_law_step", none)) Y.fd__law_step ["_law_state", "_law_sheets"] (spD K 2 (S__law_step false)) := fn_ok (k := 1) Y.F__law_step sc__law_step fun cdv A outer s H E hr => by
  have hu := hu70 hr
  exact (ss_cons (ss_setR (i := 2) sc__law_step.nd rfl (by first | exact Or.inl rfl | exact Or.inr rfl) (sr_call (ok__law_drawn Y) (hr.mono (by decide)) (by rfl) Y.g__law_drawn Y.F__law_drawn.kp Y.b__law_drawn (sa_cons (se_v 0 (pv 0)) (sa_cons se_int sa_nil))))
  (ss_cons (ss_if (st_cmp opr_lt (so_p 2 (pv 2)) (so_of se_int) (nomark _)) (ss_cons (ss_setR (i := 3) sc__law_step.nd rfl (by first | exact Or.inl rfl | exact Or.inr rfl) (sr_call (ok__law_drawn Y) (hr.mono (by decide)) (by rfl) Y.g__law_drawn Y.F__law_drawn.kp Y.b__law_drawn (sa_cons (se_v 0 (pv 0)) (sa_cons (se_v 1 (pv 1)) sa_nil))))
  (ss_frz 3 (ss_one (ss_ret (sr_of (se_tup (sa_cons (se_str (by decide +kernel)) (sa_cons (se_v 3 (pv 3)) (sa_cons (se_op2 opr_add (so_p 3 (pv 3)) (so_of (se_ofR (sr_call (ok__law_drawn Y) (hr.mono (by decide)) (by rfl) Y.g__law_drawn Y.F__law_drawn.kp Y.b__law_drawn (sa_cons (se_v 0 (pv 0)) (sa_cons (se_op2 opr_add (so_of (se_op2 opr_sub (so_p 1 (pv 1)) (so_p 3 (pv 3)))) (so_of (se_callTy cr_int (by rfl) Y.f_int (by decide +kernel) (sl_cons (so_of (se_cmp (opr_eq hu) (so_p 2 (pv 2)) (so_of se_int) (nomark _))) sl_nil)))) sa_nil)))))) sa_nil))))))))) ss_nil)
  (ss_one (ss_ret (sr_of (se_ix (so_of (se_ofR (sr_lst (sa_cons (se_tup (sa_cons (se_str (by decide +kernel)) sa_nil)) (sa_cons (se_tup (sa_cons (se_str (by decide +kernel)) sa_nil)) (sa_cons (se_tup (sa_cons (se_str (by decide +kernel)) sa_nil)) (sa_cons (se_tup (sa_cons (se_str (by decide +kernel)) sa_nil)) (sa_cons (se_tup (sa_cons (se_str (by decide +kernel)) sa_nil)) (sa_cons (se_tup (sa_cons (se_str (by decide +kernel)) sa_nil)) (sa_cons (se_tup (sa_cons (se_str (by decide +kernel)) sa_nil)) sa_nil)))))))))) (so_of (se_op2 opr_sub (so_p 2 (pv 2)) (so_of se_int))) (fun _ _ => rfl)))))))
theorem sc_law : FnScope ["_law_script", "_law_state", "_law_turn", "_law_many", "_law_steps", "_law_sheets", "_law_k"] ["_law_script"] (defScope Hd.s_law) := ⟨rfl, rfl, rfl, by decide +kernel, rfl, by decide +kernel, by decide +kernel⟩
theorem ok_law (Y : Hyp K mg) : FnOk P w K mg base CX0 37 (He.fAd K ("law", none)) Y.fd_law ["_law_script"] (spD K 1 (S_law false)) := fn_ok (k := 36) Y.F_law sc_law fun cdv A outer s H E hr => by
  have hu := hu70 hr
  exact (ss_cons (ss_setR (i := 1) sc_law.nd rfl (by first | exact Or.inl rfl | exact Or.inr rfl) (sr_call (ok__law_start Y) (hr.mono (by decide)) (by rfl) Y.g__law_start Y.F__law_start.kp Y.b__law_start (sa_cons (se_v 0 (pv 0)) sa_nil)))
  (ss_cons (ss_for PassesOwn.never rfl (si_rng1 rfl (by rfl) Y.f_range (so_of se_int)) (tg_n 2) (pg_name (i := 2) sc_law.nd rfl (by first | exact Or.inl rfl | exact Or.inr rfl)) (ss_frz 1 (ss_cons (ss_set (i := 5) sc_law.nd rfl (by first | exact Or.inl rfl | exact Or.inr rfl) (se_op2 opr_add (so_of se_int) (so_of (se_ofR (sr_call (ok__law_drawn Y) (hr.mono (by decide)) (by rfl) Y.g__law_drawn Y.F__law_drawn.kp Y.b__law_drawn (sa_cons (se_v 1 (pv 1)) (sa_cons se_int sa_nil)))))))
  (ss_frz 1 (ss_cons (ss_setLc (i := 4) rfl sc_law.nd rfl rfl (sw_true rfl rfl rfl (by decide +kernel)) (si_rng1 rfl (by rfl) Y.f_range (so_of (se_ofR (sr_call (ok__law_drawn Y) (hr.mono (by decide)) (by rfl) Y.g__law_drawn Y.F__law_drawn.kp Y.b__law_drawn (sa_cons (se_v 1 (pv 1)) (sa_cons se_int sa_nil)))))) (blkOk_by (own := [("_law_k", 6)]) (by exact rfl)) (tg_n 6) (fun _ _ _ _ _ => (pg_name (i := 6) sc_law.nd rfl (by first | exact Or.inl rfl | exact Or.inr rfl))) (fun _ _ _ _ _ => st_yes) (fun _ _ _ _ _ => (se_ofR (sr_call (ok__law_step Y) (hr.mono (by decide)) (by rfl) Y.g__law_step Y.F__law_step.kp Y.b__law_step (sa_cons (se_v 1 (pv 1)) (sa_cons (se_v 5 (pv 5)) sa_nil))))))
  (ss_frz 4 (ss_one (ss_if (st_not (st_val (se_ofR (sr_call (ok__law_told Y) (hr.mono (by decide)) (by rfl) Y.g__law_told Y.F__law_told.kp Y.b__law_told (sa_cons (se_v 4 (pv 4)) (sa_cons (se_v 5 (pv 5)) sa_nil)))))) (ss_one (ss_ret (sr_of se_bl))) ss_nil))))))))
  (ss_frz 1 (ss_cons (ss_set (i := 3) sc_law.nd rfl (by first | exact Or.inl rfl | exact Or.inr rfl) (se_op2 opr_add (so_of se_int) (so_of (se_ofR (sr_call (ok__law_drawn Y) (hr.mono (by decide)) (by rfl) Y.g__law_drawn Y.F__law_drawn.kp Y.b__law_drawn (sa_cons (se_v 1 (pv 1)) (sa_cons se_int sa_nil)))))))
  (ss_cons (ss_set (i := 4) sc_law.nd rfl (by first | exact Or.inl rfl | exact Or.inr rfl) (se_op2 opr_add (so_of (se_op2 opr_add (so_of (se_ofR (sr_lst (sa_cons (se_tup (sa_cons (se_str (by decide +kernel)) (sa_cons se_int (sa_cons se_int sa_nil)))) sa_nil)))) (so_of (se_ofR (sr_rep (so_of (se_ofR (sr_lst (sa_cons (se_tup (sa_cons (se_str (by decide +kernel)) sa_nil)) sa_nil)))) (so_p 3 (pv 3))))))) (so_of (se_ofR (sr_rep (so_of (se_ofR (sr_lst (sa_cons (se_tup (sa_cons (se_str (by decide +kernel)) sa_nil)) (sa_cons (se_tup (sa_cons (se_str (by decide +kernel)) sa_nil)) sa_nil))))) (so_of (se_op2 opr_sub (so_of se_int) (so_p 3 (pv 3)))))))))
  (ss_frz 4 (ss_one (ss_ret (sr_of (se_and (se_cmp (opr_eq hu) (so_of (se_ofR (sr_call (ok_troubles Y) (hr.mono (by decide)) (by rfl) Y.g_troubles Y.F_troubles.kp Y.b_troubles (sa_cons (se_ofR (sr_lst sa_nil)) sa_nil)))) (so_of (se_tup (sa_cons se_int (sa_cons se_int sa_nil)))) (nomark _)) (se_one (se_b (se_ofR (sr_call (ok__law_told Y) (hr.mono (by decide)) (by rfl) Y.g__law_told Y.F__law_told.kp Y.b__law_told (sa_cons (se_v 4 (pv 4)) (sa_cons se_int sa_nil))))))))))))))))
end
end
end Lw
set_option Elab.async false
set_option linter.all false
set_option maxRecDepth 100000
set_option maxHeartbeats 2000000
namespace Pl
open PySem Pf Sm
/-! ### sure_of -/
def one? (l : List Int) : Option Int := match setN l with
  | [a] => some a
  | _ => none
def sureSc (row : List Pair) : Scan := ((one? (row.map (·.1))).map (fun a => 2 * a), (one? (row.map (·.2))).map (fun b => 2 * b + 1))
def sureR (n : Int) (r : Pair) (run : List Scan) : Ret := if run = [] then .own [] else if allR n r run = [] then .val (.dat .none) else .own ((rowsR n r run).map fun g => scT (sureSc g))
theorem setN_ext {l m : List Int} (h : ∀ z, z ∈ l ↔ z ∈ m) : setN l = setN m := sortU_ext ordN (sort_setU ordN) (sort_setU ordN) fun z => by rw [mem_setU ordN, mem_setU ordN, h]
theorem intsOf_ints : ∀ l : List Int, intsOf (l.map PyData.int) = some l
  | [] => rfl
  | a :: l => by
    show (intsOf (l.map PyData.int)).map (a :: ·) = _
    rw [intsOf_ints l]
    rfl
theorem setOf_ints {l : List Int} (h1 : l.length ≤ 4000) (h2 : (setN l).length < 64) : setOf (l.map PyData.int) = some ((setN l).map PyData.int) := by
  unfold setOf
  rw [intsOf_ints]
  simp [h1, h2]
theorem lenSet_ints {l : List Int} (h1 : l.length ≤ 4000) : lenSet (l.map PyData.int) = some (.int ((setN l).length : Nat)) := by
  unfold lenSet
  rw [intsOf_ints]
  simp [h1]
theorem setN_few {l : List Int} {b : Int} (h : ∀ z ∈ l, 0 ≤ z ∧ z < b) : (setN l).length ≤ b.toNat := by
  have nd : ((setN l).map Int.toNat).Nodup := nodup_mapI (sortU_nodup ordN (sort_setU ordN)) fun a ha c hc e => by
    have := h a ((mem_setU ordN).mp ha)
    have := h c ((mem_setU ordN).mp hc)
    omega
  have := nodup_len (m := List.range b.toNat) nd fun z hz => by
    obtain ⟨a, ha, rfl⟩ := List.mem_map.mp hz
    have := h a ((mem_setU ordN).mp ha)
    rw [List.mem_range]
    omega
  rwa [List.length_map, List.length_range] at this
theorem one_len {l : List Int} : ((setN l).length = 1 ↔ (one? l).isSome = true) ∧ ∀ a, one? l = some a → setN l = [a] := by
  unfold one?
  constructor
  · split <;> rename_i h
    · simp [h]
    · constructor
      · intro e
        exfalso
        match hm : setN l, e with
        | [a], _ => exact h a hm
      · intro e; cases e
  · intro a e
    split at e
    · rename_i b hb
      cases e
      exact hb
    · cases e
theorem eqT_run (run : List Scan) : eqT (runT run) (.list []) = some run.isEmpty := by
  unfold runT
  rw [eqT_nil]
  cases run <;> rfl
section
variable (x : Bool)
theorem init_fin {n : Int} {r : Pair} {run : List Scan} {h : Hs} : S_Finder___init__ x [.obj h.length, .dat (.int n), .dat (prT r), .dat (runT run)] (h ++ [.ins "Finder" []]) = .ok (.val (.dat .none)) (h ++ [finO n r run []]) := by
  simp [S_Finder___init__, F_Finder___init__, finO, putA]
  exact List.take_of_length_le (by simp)
theorem sure_of_eq {n : Int} {r : Pair} {run : List Scan} {h : Hs} (ok : Okay n r run) : S_sure_of x [.dat (.int n), .dat (prT r), .dat (runT run)] h = .ok (sureR n r run) h := by
  have hj : (h ++ [finO n r run []])[h.length]? = some (finO n r run []) := last_get
  by_cases hne : run = []
  · subst hne
    simp [S_sure_of, F_sure_of, eqT_run, sureR]
  have hemp : run.isEmpty = false := by cases run <;> first | exact absurd rfl hne | rfl
  obtain ⟨W, rows, wk, e, q1, q2⟩ := all_ways_eq x hj ok hne
  rw [last_set] at e
  generalize hG : S_sure_of x _ h = G
  have hlen := ok.len
  simp [S_sure_of, F_sure_of, eqT_run, hemp, init_fin, e] at hG
  by_cases hR : allR n r run = []
  · rw [q1 hR] at hG
    simp at hG
    subst hG
    simp [sureR, hne, hR]
  obtain ⟨r1, r2⟩ := q2 hR
  have hre : rows.isEmpty = false := by
    cases rows with
    | nil => simp at r1; exact absurd r1.symm (by simpa using hne)
    | cons a b => rfl
  simp [hre] at hG
  generalize hF : forL _ _ _ _ _ = F at hG
  obtain ⟨ρ', h', rfl, rfl, acc, hacc, a5, a6, a7, a8, a9, _, rfl⟩ := forL_of hF (fun k ρ h' => h' = h ++ [finO n r run W] ∧ ∃ acc, acc = ((rowsR n r run).take k).map sureSc ∧ ∃ a5 a6 a7 a8 a9, plS a9 = true ∧ ρ = [vi n, vd (prT r), vd (runT run), vd (.list (rows.map fun g => .list (g.map st4T))), .own (acc.map scT), a5, a6, a7, a8, a9]) ⟨rfl, [], rfl, _, _, _, _, _, rfl, rfl⟩ (by
      rintro k t ρ h' e ⟨rfl, acc, hacc, a5, a6, a7, a8, a9, p9, rfl⟩ Q hn
      obtain ⟨g, hg, rfl⟩ := map_get e
      have hk : k < run.length := by rw [← r1]; exact (List.getElem?_eq_some_iff.mp hg).1
      obtain ⟨g1, g2, g3⟩ := r2 k g hg
      have hgood : ∀ o ∈ g, Good4 n o := fun o ho => by
        obtain ⟨⟨pre, hp⟩, _⟩ := (g3 o).mp ho
        exact hp.good ok
      have hgl := len_good4 ok.n2 g1 hgood
      have hrow : (rowsR n r run)[k]? = some (rowR n r run k) := by
        unfold rowsR
        simp [hk]
      have hacl : acc.length < 100000 := by
        rw [hacc, List.length_map, List.length_take]
        omega
      have es1 : setN (g.map fun o => o.f) = setN ((rowR n r run k).map (·.1)) := setN_ext fun z => by
        rw [← row_of_view ok hk g3]
        simp only [List.mem_map, mem_setU ordP]
        constructor
        · rintro ⟨o, ho, rfl⟩
          exact ⟨o.pr, ⟨o, ho, rfl⟩, rfl⟩
        · rintro ⟨p, ⟨o, ho, rfl⟩, rfl⟩
          exact ⟨o, ho, rfl⟩
      have es2 : setN (g.map fun o => o.l) = setN ((rowR n r run k).map (·.2)) := setN_ext fun z => by
        rw [← row_of_view ok hk g3]
        simp only [List.mem_map, mem_setU ordP]
        constructor
        · rintro ⟨o, ho, rfl⟩
          exact ⟨o.pr, ⟨o, ho, rfl⟩, rfl⟩
        · rintro ⟨p, ⟨o, ho, rfl⟩, rfl⟩
          exact ⟨o, ho, rfl⟩
      have n2 := ok.n2
      have f1 := setN_few (l := g.map fun o => o.f) (b := 30) fun z hz => by
        obtain ⟨o, ho, rfl⟩ := List.mem_map.mp hz
        have := (hgood o ho).f0
        have := (hgood o ho).le
        have := (hgood o ho).top
        omega
      have f2 := setN_few (l := g.map fun o => o.l) (b := 30) fun z hz => by
        obtain ⟨o, ho, rfl⟩ := List.mem_map.mp hz
        have := (hgood o ho).f0
        have := (hgood o ho).le
        have := (hgood o ho).top
        omega
      have so1 := setOf_ints (l := g.map fun o => o.f) (by rw [List.length_map]; omega) (by omega)
      have so2 := setOf_ints (l := g.map fun o => o.l) (by rw [List.length_map]; omega) (by omega)
      rw [List.map_map, es1] at so1
      rw [List.map_map, es2] at so2
      simp [Turn1, p9]
      generalize hF2 : compL _ _ _ _ _ _ = F2
      have e2 := compL_ofM hF2 (fun _ => true) (fun o => PyData.int o.f) (by
        intro o ho
        refine ⟨_, rfl, rfl, fun _ => ?_⟩
        simp [st4_0])
      subst e2
      simp
      have so1 : setOf (g.map fun o => PyData.int o.f) = some ((setN ((rowR n r run k).map (·.1))).map PyData.int) := so1
      have so2 : setOf (g.map fun o => PyData.int o.l) = some ((setN ((rowR n r run k).map (·.2))).map PyData.int) := so2
      rw [kSortSet_ap _ so1]
      simp [p9]
      generalize hF3 : compL _ _ _ _ _ _ = F3
      have e3 := compL_ofM hF3 (fun _ => true) (fun o => PyData.int o.l) (by
        intro o ho
        refine ⟨_, rfl, rfl, fun _ => ?_⟩
        simp [st4_1])
      subst e3
      simp
      rw [kSortSet_ap _ so2]
      simp
      have fin : ∀ (sc : Scan), sc = sureSc (rowR n r run k) → ∀ a5 a6 a7 a8 a9, plS a9 = true → WP (.ok (.next [vi n, vd (prT r), vd (runT run), vd (.list (rows.map fun g => .list (g.map st4T))), .own (acc.map scT ++ [scT sc]), a5, a6, a7, a8, a9]) (h ++ [finO n r run W])) Q := fun sc hsc a5 a6 a7 a8 a9 p9 => wp_ok (hn _ _ ⟨rfl, acc ++ [sc], by rw [hacc, take_one hrow, hsc]; simp, a5, a6, a7, a8, a9, p9, by simp⟩)
      have esc : sureSc (rowR n r run k) = ((one? ((rowR n r run k).map (·.1))).map (fun a => 2 * a), (one? ((rowR n r run k).map (·.2))).map (fun b => 2 * b + 1)) := rfl
      unfold one? at esc
      generalize setN ((rowR n r run k).map (·.1)) = A at *
      generalize setN ((rowR n r run k).map (·.2)) = B at *
      have two : ∀ m : Nat, ¬ ((m : Int) + 1 + 1 = 1) := fun m => by omega
      rcases A with _ | ⟨a, _ | ⟨a', A⟩⟩ <;> rcases B with _ | ⟨b, _ | ⟨b', B⟩⟩ <;> simp [hacl, two, smallI] <;> exact fin (_, _) esc.symm _ _ _ _ _ p9)
  simp at hG
  subst hG
  rw [hacc]
  have hl2 : (rowsR n r run).length = rows.length := by rw [r1]; simp [rowsR]
  simp [sureR, hne, hR, ← hl2]
end
end Pl
set_option Elab.async false
set_option linter.all false
set_option maxRecDepth 100000
set_option maxHeartbeats 2000000
namespace Pl
open PySem Pf Sm
/-! ### need_runs, need_all_runs, pages_of, shown_by -/
def runsT (rs : List (List Scan)) : T := .list (rs.map runT)
@[simp] theorem kItD_runs (rs : List (List Scan)) (h : Hs) : kItD (.dat (runsT rs)) h = .ok (rs.map runT) h := rfl
structure OkRuns (n : Int) (r : Pair) (rs : List (List Scan)) : Prop where
  n1 : 1 ≤ n
  n2 : n ≤ 30
  d0 : 0 ≤ r.1
  d3 : r.1 ≤ 3
  s0 : 0 ≤ r.2
  s3 : r.2 ≤ 3
  few : rs.length ≤ 12
  len : ∀ run ∈ rs, run.length ≤ 20
  all : ∀ run ∈ rs, ∀ s ∈ run, okSc n s = true
theorem OkRuns.one {n : Int} {r : Pair} {rs : List (List Scan)} (k : OkRuns n r rs) {run : List Scan} (h : run ∈ rs) : Okay n r run := ⟨k.n1, k.n2, k.d0, k.d3, k.s0, k.s3, k.len run h, k.all run h⟩
def sureL (n : Int) (r : Pair) (run : List Scan) : List Scan := (rowsR n r run).map sureSc
theorem sureR_some {n : Int} {r : Pair} {run : List Scan} (h : allR n r run ≠ []) : sureR n r run = .own ((sureL n r run).map scT) := by
  unfold sureR
  by_cases h0 : run = []
  · subst h0
    simp [sureL, rowsR]
  · simp [h0, h, sureL]
theorem lenT_runT (run : List Scan) : lenT [runT run] = some (.int (run.length : Nat)) := lenT_run run
section
variable (x : Bool)
theorem need_runs_eq {n : Int} {r : Pair} {rs : List (List Scan)} {h : Hs} (k : OkRuns n r rs) : S_need_runs x [.dat (.int n), .dat (runsT rs)] h = .ok (.val (.dat .none)) h := by
  have hfew := k.few
  simp [S_need_runs, F_need_runs, runsT]
  generalize hF : forL _ _ _ _ _ = F
  obtain ⟨ρ', h', rfl, rfl, _⟩ := forL_of hF (fun k ρ h' => h' = h ∧ ∃ a b c, plS c = true ∧ ρ = [vi n, vd (.list (rs.map runT)), a, b, c]) ⟨rfl, _, _, _, rfl, rfl⟩ (by
      rintro i t ρ h' e ⟨rfl, a, b, c, pc, rfl⟩ Q hn
      obtain ⟨u, e1, rfl⟩ := enum_get e
      obtain ⟨run, e2, rfl⟩ := map_get e1
      have hi : ¬ ((i : Int) = 12) := by
        have := (List.getElem?_eq_some_iff.mp e2).1
        omega
      have hm := List.mem_of_getElem? e2
      have hl := k.len run hm
      have hl2 : ¬ ((20 : Int) < (run.length : Int)) := by omega
      have hisi : isiB (runT run) "list" = true := rfl
      simp [Turn1, hi, pc, lenT_runT, hl2, hisi]
      generalize hF2 : compL _ _ _ _ _ _ = F2
      have e3 := compL_ofM hF2 (fun s => !okSc n s) scT (by
        intro s hs
        refine ⟨_, rfl, ?_, fun _ => ?_⟩
        · simp [is_scan_eq]
        · simp)
      have e4 : run.filter (fun s => !okSc n s) = [] := by
        rw [List.filter_eq_nil_iff]
        intro s hs
        simp [k.all run hm s hs]
      rw [e4] at e3
      subst e3
      simp
      exact wp_ok (hn _ _ ⟨rfl, _, _, _, pc, rfl⟩))
  simp
theorem need_all_runs_eq {n : Int} {r : Pair} {rs : List (List Scan)} {h : Hs} (k : OkRuns n r rs) (hR : ∀ run ∈ rs, allR n r run ≠ []) : S_need_all_runs x [.dat (.int n), .dat (prT r), .dat (runsT rs)] h = .ok (.own (rs.map fun run => runT (sureL n r run))) h := by
  have hfew := k.few
  simp [S_need_all_runs, F_need_all_runs, need_book_eq x h k.n1 k.n2, need_rule_eq x h k.d0 k.d3 k.s0 k.s3, need_runs_eq x k]
  generalize hF : compL _ _ _ _ _ _ = F
  have e1 := compL_ofM (l := rs) (enc := runT) hF (fun _ => true) (fun run => runT (sureL n r run)) (by
    intro run hrun
    refine ⟨_, rfl, rfl, fun _ => ?_⟩
    simp [sure_of_eq x (k.one hrun), sureR_some (hR run hrun)]
    rfl)
  subst e1
  simp [rngOk_of (i := 0) (j := (rs.length : Int)) (by omega) (by omega) (by omega) (by omega)]
  generalize hF2 : compL _ _ _ _ _ _ = F2
  have e2 := compL_of hF2 (fun _ => false) id (by
    intro t ht
    obtain ⟨i, hi⟩ := List.getElem?_of_mem ht
    obtain ⟨hi1, rfl⟩ := rng_get hi
    obtain ⟨run, hrun⟩ := get_of_lt (l := rs) (k := i) (by omega)
    have s1 : L2.atI (rs.map fun run => runT (sureL n r run)) (i : Int) = some (runT (sureL n r run)) := by rw [atI_pos (by omega)]; simp [hrun]
    refine ⟨_, rfl, ?_, fun z => by cases z⟩
    simp [s1]
    rfl)
  have e3 : (rngT 0 rs.length).filter (fun _ => false) = [] := List.filter_eq_nil_iff.mpr fun _ _ => by simp
  rw [e3] at e2
  subst e2
  simp
end
/-! pages_of -/
def shT : Option Pair → T
  | none => .none
  | some p => prT p
def firstAt (E : List (Int × Pair)) (p : Int) : Option Pair := (E.find? fun e => decide (e.1 = p)).map (·.2)
def foundL (n : Int) (E : List (Int × Pair)) : List T := (List.range (2 * n).toNat).map fun (p : Nat) => shT (firstAt E (p : Int))
def scE (i j : Nat) (ps : List (Option Int)) : List (Int × Pair) := (ps.filterMap id).map fun pg => (pg, ((i : Int), (j : Int)))
def rowE (i : Nat) (row : List Scan) : List (Int × Pair) := (List.range row.length).flatMap fun j => match row[j]? with
  | some s => scE i j [s.1, s.2]
  | none => []
def rowsE (rows : List (List Scan)) : List (Int × Pair) := (List.range rows.length).flatMap fun i => match rows[i]? with
  | some row => rowE i row
  | none => []
theorem firstAt_app {E : List (Int × Pair)} {pg : Int} {v : Pair} {p : Int} : firstAt (E ++ [(pg, v)]) p = (firstAt E p).or (if pg = p then some v else none) := by
  unfold firstAt
  rw [List.find?_append]
  cases hE : E.find? fun e => decide (e.1 = p) with
  | some e => simp
  | none =>
    by_cases h : pg = p
    · simp [h]
    · simp [h]
theorem found_len (n : Int) (E : List (Int × Pair)) : (foundL n E).length = (2 * n).toNat := by simp [foundL]
theorem found_at {n : Int} {E : List (Int × Pair)} {pg : Int} (h0 : 0 ≤ pg) (h1 : pg < 2 * n) : L2.atI (foundL n E) pg = some (shT (firstAt E pg)) := by
  rw [atI_pos h0]
  unfold foundL
  rw [List.getElem?_map, List.getElem?_range (by omega)]
  have : ((pg.toNat : Nat) : Int) = pg := by omega
  simp [this]
theorem found_set {n : Int} {E : List (Int × Pair)} {pg : Int} {v : Pair} (h0 : 0 ≤ pg) (h1 : pg < 2 * n) (h : firstAt E pg = none) : (foundL n E).set pg.toNat (prT v) = foundL n (E ++ [(pg, v)]) := by
  apply List.ext_getElem?
  intro i
  by_cases hi : i = pg.toNat
  · subst hi
    rw [List.getElem?_set_self (by rw [found_len]; omega)]
    unfold foundL
    rw [List.getElem?_map, List.getElem?_range (by omega), Option.map_some, firstAt_app]
    have : ((pg.toNat : Nat) : Int) = pg := by omega
    simp [this, h, shT]
  · rw [List.getElem?_set_ne (Ne.symm hi)]
    unfold foundL
    rw [List.getElem?_map, List.getElem?_map]
    cases hr : (List.range (2 * n).toNat)[i]? with
    | none => rfl
    | some k =>
      have hk : k = i := by
        obtain ⟨h1, h2⟩ := List.getElem?_eq_some_iff.mp hr
        simpa using h2.symm
      subst hk
      have hne : ¬ (pg = (k : Int)) := by omega
      rw [Option.map_some, Option.map_some, firstAt_app, if_neg hne]
      cases firstAt E (k : Int) <;> rfl
theorem found_same {n : Int} {E : List (Int × Pair)} {pg : Int} {v : Pair} (h : firstAt E pg ≠ none) : foundL n E = foundL n (E ++ [(pg, v)]) := by
  unfold foundL
  refine List.map_congr_left fun k _ => ?_
  rw [firstAt_app]
  cases hk : firstAt E (k : Int) with
  | some q => rfl
  | none =>
    have hne : ¬ (pg = (k : Int)) := fun z => h (by rw [z]; exact hk)
    rw [if_neg hne]
    rfl
section
variable (x : Bool)
theorem side_eq {n : Int} {E : List (Int × Pair)} {i j : Nat} {o : Option Int} {R Rr S6 : Pf.Slot} {h : Hs} (ho : ∀ a, o = some a → 0 ≤ a ∧ a < 2 * n) :
    fIfS (fAnd (fCmp isntT (fP 7) (toO (fC PyData.none))) (fCmp isT (toO (fOp2 ixT (fP 2) (fP 7))) (toO (fC PyData.none)))) (fSetI 2 (fP 7) (fTup (fACons (fV 3) (fACons (fV 5) fANil)))) fNext [vi n, R, .own (foundL n E), vi (i : Nat), Rr, vi (j : Nat), S6, vd (pgT o)] h = .ok (.next [vi n, R, .own (foundL n (E ++ scE i j [o])), vi (i : Nat), Rr, vi (j : Nat), S6, vd (pgT o)]) h := by
  cases o with
  | none =>
    simp [isNone, isT, isntT, scE]
  | some a =>
    obtain ⟨h0, h1⟩ := ho a rfl
    have hx : L2.ixN (foundL n E).length a = some a.toNat := by
      unfold L2.ixN
      rw [if_pos h0, if_pos (by rw [found_len]; omega)]
    have es : scE i j [some a] = [(a, ((i : Int), (j : Int)))] := rfl
    rw [es]
    cases hf : firstAt E a with
    | none =>
      have hs := found_set (v := ((i : Int), (j : Int))) h0 h1 hf
      simp [isNone, isT, isntT, found_at h0 h1, hf, shT]
      rw [kSetIb_ap _ hx]
      simp
      exact hs
    | some q =>
      have hs := found_same (n := n) (v := ((i : Int), (j : Int))) (by rw [hf]; simp : firstAt E a ≠ none)
      simp [isNone, isT, isntT, found_at h0 h1, hf, shT, prT]
      exact hs
theorem pages_of_eq {n : Int} {rows : List (List Scan)} {h : Hs} (n1 : 1 ≤ n) (n2 : n ≤ 30) (hok : ∀ row ∈ rows, ∀ s ∈ row, okSc n s = true) (hl : rows.length ≤ 1000) : S_pages_of x [.dat (.int n), .dat (.list (rows.map runT))] h = .ok (.own (foundL n (rowsE rows))) h := by
  simp [S_pages_of, F_pages_of, smallI]
  have hc : 0 ≤ 2 * n ∧ 2 * n ≤ 1000 := by omega
  have e0 : List.replicate (2 * n).toNat PyData.none = foundL n [] := by
    unfold foundL firstAt
    simp
    rw [List.map_const', List.length_range]
    rfl
  simp [hc, e0]
  generalize hF : forL _ _ _ _ _ = F
  obtain ⟨ρ', h', rfl, rfl, E, hE, a3, a4, a5, a6, a7, rfl⟩ := forL_of hF (fun k ρ h' => h' = h ∧ ∃ E, E = (List.range k).flatMap (fun i => match rows[i]? with | some row => rowE i row | none => []) ∧ ∃ a3 a4 a5 a6 a7, ρ = [vi n, vd (.list (rows.map runT)), .own (foundL n E), a3, a4, a5, a6, a7]) ⟨rfl, [], rfl, _, _, _, _, _, rfl⟩ (by
    rintro i t ρ h' e ⟨rfl, E, hE, a3, a4, a5, a6, a7, rfl⟩ Q hn
    obtain ⟨u, e1, rfl⟩ := enum_get e
    obtain ⟨row, hrow, rfl⟩ := map_get e1
    have hm := List.mem_of_getElem? hrow
    simp [Turn1]
    generalize hF2 : Res.bind _ _ = F2
    simp [runT] at hF2
    obtain ⟨ρ2, h2, rfl, rfl, E2, hE2, a5, a6, a7, rfl⟩ := forL_of hF2 (fun k ρ h2 => h2 = h' ∧ ∃ E2, E2 = (List.range k).flatMap (fun j => match row[j]? with | some s => scE i j [s.1, s.2] | none => []) ∧ ∃ a5 a6 a7, ρ = [vi n, vd (.list (rows.map runT)), .own (foundL n (E ++ E2)), vi (i : Nat), vd (runT row), a5, a6, a7]) ⟨rfl, [], rfl, a5, a6, a7, by simp [runT]⟩ (by
      rintro j t ρ h2 e2 ⟨rfl, E2, hE2, a5, a6, a7, rfl⟩ Q hn2
      obtain ⟨u, e3, rfl⟩ := enum_get e2
      obtain ⟨sc, hsc, rfl⟩ := map_get e3
      have hok1 := hok row hm sc (List.mem_of_getElem? hsc)
      have hb1 : ∀ a, sc.1 = some a → 0 ≤ a ∧ a < 2 * n := fun a ha => by
        unfold okSc okPg at hok1
        rw [ha] at hok1
        simp only [Bool.and_eq_true, decide_eq_true_eq] at hok1
        omega
      have hb2 : ∀ a, sc.2 = some a → 0 ≤ a ∧ a < 2 * n := fun a ha => by
        unfold okSc okPg at hok1
        rw [ha] at hok1
        simp only [Bool.and_eq_true, decide_eq_true_eq] at hok1
        omega
      simp [Turn1, scT, -ev_fIfS]
      erw [side_eq hb1]
      simp [-ev_fIfS]
      erw [side_eq hb2]
      simp
      refine wp_ok (hn2 _ _ ⟨rfl, E2 ++ scE i j [sc.1, sc.2], ?_, vi (j : Nat), vd (scT sc), vd (pgT sc.2), ?_⟩)
      · rw [hE2, List.range_succ, List.flatMap_append]
        simp [hsc]
      · have : scE i j [sc.1, sc.2] = scE i j [sc.1] ++ scE i j [sc.2] := by
          unfold scE
          rw [← List.map_append, ← List.filterMap_append]
          rfl
        rw [this]
        simp [List.append_assoc, scT])
    refine wp_ok (hn _ _ ⟨rfl, E ++ E2, ?_, _, _, _, _, _, rfl⟩)
    rw [hE, hE2, enumT_len, List.length_map, List.range_succ, List.flatMap_append]
    simp [hrow, rowE])
  simp
  rw [hE]
  unfold rowsE
  simp [enumT_len]
end
end Pl
set_option Elab.async false
set_option linter.all false
set_option maxRecDepth 100000
set_option maxHeartbeats 2000000
namespace Pl
open PySem Pf Sm
/-! ### shown_by, gaps -/
theorem one_mem {l : List Int} {a : Int} (h : one? l = some a) : a ∈ l := by
  have := (one_len (l := l)).2 a h
  rw [← mem_setU ordN (l := l)]
  rw [show setU ltN l = [a] from this]
  simp
theorem okSc_sure {n : Int} {g : List Pair} (h : ∀ p ∈ g, Good2 n p) : okSc n (sureSc g) = true := by
  unfold okSc sureSc
  rw [Bool.and_eq_true]
  constructor
  · cases e : one? (g.map (·.1)) with
    | none => rfl
    | some a =>
      obtain ⟨p, hp, rfl⟩ := List.mem_map.mp (one_mem e)
      obtain ⟨h1, h2, h3, h4⟩ := h p hp
      simp only [okPg, Option.map_some, Bool.and_eq_true, decide_eq_true_eq]
      omega
  · cases e : one? (g.map (·.2)) with
    | none => rfl
    | some a =>
      obtain ⟨p, hp, rfl⟩ := List.mem_map.mp (one_mem e)
      obtain ⟨h1, h2, h3, h4⟩ := h p hp
      simp only [okPg, Option.map_some, Bool.and_eq_true, decide_eq_true_eq]
      omega
theorem okSc_sureL {n : Int} {r : Pair} {run : List Scan} (ok : Okay n r run) : ∀ s ∈ sureL n r run, okSc n s = true := fun s hs => by
  obtain ⟨g, hg, rfl⟩ := List.mem_map.mp hs
  obtain ⟨k, hk, rfl⟩ := List.mem_map.mp hg
  exact okSc_sure fun p hp => good_rowR ok (List.mem_range.mp hk) hp
/-- what is shown, by whom -/
def shownE (n : Int) (r : Pair) (rs : List (List Scan)) : List (Int × Pair) := rowsE (rs.map (sureL n r))
/-- runs of pages that are not shown -/
def gapsTo (S : Nat → Bool) : Nat → List Pair
  | 0 => []
  | k + 1 => if S k = true then gapsTo S k else match (gapsTo S k).getLast? with
    | some q => if q.2 = (k : Int) - 1 then (gapsTo S k).dropLast ++ [(q.1, (k : Int))] else gapsTo S k ++ [((k : Int), (k : Int))]
    | none => gapsTo S k ++ [((k : Int), (k : Int))]
def isSh (E : List (Int × Pair)) (k : Nat) : Bool := (firstAt E (k : Int)).isSome
theorem gapsTo_len (S : Nat → Bool) : ∀ k, (gapsTo S k).length ≤ k
  | 0 => by simp [gapsTo]
  | k + 1 => by
    have := gapsTo_len S k
    unfold gapsTo
    split
    · omega
    · split
      · split
        · simp
          omega
        · simp
          omega
      · simp
        omega
theorem last_snoc {α : Type} {l : List α} {a : α} (h : l.getLast? = some a) : l = l.dropLast ++ [a] := by
  have hne : l ≠ [] := by intro z; rw [z] at h; simp at h
  rw [List.getLast?_eq_some_getLast hne] at h
  cases h
  exact (List.dropLast_concat_getLast hne).symm
theorem set_last {α : Type} {l : List α} {a b : α} : (l ++ [a]).set l.length b = l ++ [b] := by simp
theorem atI_last {l : List T} {a : T} : L2.atI (l ++ [a]) (-1) = some a := by
  unfold L2.atI L2.ixN
  rw [if_neg (by decide), if_pos (by simp; omega)]
  have e : (-1 + ((l ++ [a]).length : Int)).toNat = l.length := by simp; omega
  simp only [Option.bind_some]
  rw [e]
  simp
theorem ixN_last {l : List T} {a : T} : L2.ixN (l ++ [a]).length (-1) = some l.length := by
  unfold L2.ixN
  rw [if_neg (by decide), if_pos (by simp; omega)]
  have e : (-1 + ((l ++ [a]).length : Int)).toNat = l.length := by simp; omega
  rw [e]
section
variable (x : Bool)
theorem shown_by_eq {n : Int} {r : Pair} {rs : List (List Scan)} {h : Hs} (k : OkRuns n r rs) (hR : ∀ run ∈ rs, allR n r run ≠ []) : S_shown_by x [.dat (.int n), .dat (prT r), .dat (runsT rs)] h = .ok (.own (foundL n (shownE n r rs))) h := by
  have hfew := k.few
  have e := pages_of_eq x (n := n) (rows := rs.map (sureL n r)) (h := h) k.n1 k.n2 (fun row hrow s hs => by
    obtain ⟨run, hrun, rfl⟩ := List.mem_map.mp hrow
    exact okSc_sureL (k.one hrun) s hs) (by rw [List.length_map]; omega)
  rw [List.map_map] at e
  have e : S_pages_of x [.dat (.int n), .dat (.list (rs.map fun run => runT (sureL n r run)))] h = .ok (.own (foundL n (shownE n r rs))) h := e
  simp [S_shown_by, F_shown_by, need_all_runs_eq x k hR, e]
theorem gaps_eq {n : Int} {r : Pair} {rs : List (List Scan)} {h : Hs} (k : OkRuns n r rs) (hR : ∀ run ∈ rs, allR n r run ≠ []) : S_gaps x [.dat (.int n), .dat (prT r), .dat (runsT rs)] h = .ok (.own ((gapsTo (isSh (shownE n r rs)) (2 * n).toNat).map prT)) h := by
  have n1 := k.n1
  have n2 := k.n2
  simp [S_gaps, F_gaps, shown_by_eq x k hR]
  generalize shownE n r rs = E
  have hl : ((foundL n E).length : Int) = 2 * n := by rw [found_len]; omega
  simp [hl, rngOk_of (i := 0) (j := 2 * n) (by omega) (by omega) (by omega) (by omega)]
  generalize hF : forL _ _ _ _ _ = F
  obtain ⟨ρ', h', rfl, rfl, acc, hacc, a5, rfl⟩ := forL_of hF (fun i ρ h' => h' = h ∧ ∃ acc, acc = gapsTo (isSh E) i ∧ ∃ a5, ρ = [vi n, vd (prT r), vd (runsT rs), .own (foundL n E), .own (acc.map prT), a5]) ⟨rfl, [], rfl, _, rfl⟩ (by
    rintro i t ρ h' e ⟨rfl, acc, hacc, a5, rfl⟩ Q hn
    obtain ⟨hi, rfl⟩ := rng_get e
    have hal : acc.length < 100000 := by
      have := gapsTo_len (isSh E) i
      rw [hacc]
      omega
    have fa := found_at (n := n) (E := E) (pg := (i : Int)) (by omega) (by omega)
    simp [Turn1, fa]
    cases hf : firstAt E (i : Int) with
    | some q =>
      simp [shT, prT, isNone]
      refine wp_ok (hn _ _ ⟨rfl, acc, ?_, vi (i : Nat), rfl⟩)
      unfold gapsTo
      rw [if_pos (by unfold isSh; rw [hf]; rfl)]
      exact hacc
    | none =>
      have hno : ¬ (isSh E i = true) := by unfold isSh; rw [hf]; simp
      simp [shT, isNone]
      cases hg : acc.getLast? with
      | none =>
        have hnil : acc = [] := by simpa using hg
        subst hnil
        simp
        refine wp_ok (hn _ _ ⟨rfl, [((i : Int), (i : Int))], ?_, vi (i : Nat), by simp [prT]⟩)
        unfold gapsTo
        rw [if_neg hno, ← hacc]
        rfl
      | some q =>
        have hs := last_snoc hg
        generalize acc.dropLast = init at hs
        subst hs
        have hem : (init ++ [q]).isEmpty = false := by simp
        have hlast : (init ++ [q]).getLast? = some q := by simp
        rw [List.map_append]
        simp only [List.map_cons, List.map_nil]
        simp only [hem, Bool.not_false, atI_last]
        simp [prT_0, prT_1]
        by_cases hc : q.2 = (i : Int) - 1
        · simp [hc, atI_last, prT_0]
          rw [kSetIb_ap _ ixN_last]
          refine wp_ok (hn _ _ ⟨rfl, init ++ [(q.1, (i : Int))], ?_, vi (i : Nat), ?_⟩)
          · unfold gapsTo
            rw [if_neg hno, ← hacc, hlast]
            simp [hc]
          · simp [prT]
        · have hl2 : init.length + 1 < 100000 := by simpa using hal
          simp [hc, hl2]
          refine wp_ok (hn _ _ ⟨rfl, init ++ [q] ++ [((i : Int), (i : Int))], ?_, vi (i : Nat), ?_⟩)
          · unfold gapsTo
            rw [if_neg hno, ← hacc, hlast]
            simp [hc]
          · simp [prT])
  simp
  rw [hacc, rngT_len, found_len]
end
end Pl
set_option Elab.async false
set_option linter.all false
set_option maxRecDepth 100000
set_option maxHeartbeats 2000000
namespace Pl
open PySem Pf
/-! ### turned about -/
def mP (n : Int) (p : Pair) : Pair := (n - 1 - p.2, n - 1 - p.1)
def mS (n : Int) (s : Scan) : Scan := (s.2.map fun a => 2 * n - 1 - a, s.1.map fun a => 2 * n - 1 - a)
def mRun (n : Int) (run : List Scan) : List Scan := run.reverse.map (mS n)
def mRd (n : Int) (rd : List Pair) : List Pair := rd.reverse.map (mP n)
theorem mP_mP (n : Int) (p : Pair) : mP n (mP n p) = p := by
  obtain ⟨a, b⟩ := p
  simp only [mP, Prod.mk.injEq]
  omega
theorem mS_mS (n : Int) (s : Scan) : mS n (mS n s) = s := by
  obtain ⟨a, b⟩ := s
  unfold mS
  cases a <;> cases b <;> simp <;> omega
theorem mRun_mRun (n : Int) (run : List Scan) : mRun n (mRun n run) = run := by
  unfold mRun
  rw [← List.map_reverse, List.reverse_reverse, List.map_map]
  have : (mS n ∘ mS n) = id := funext (mS_mS n)
  rw [this, List.map_id]
theorem mRd_mRd (n : Int) (rd : List Pair) : mRd n (mRd n rd) = rd := by
  unfold mRd
  rw [← List.map_reverse, List.reverse_reverse, List.map_map]
  have : (mP n ∘ mP n) = id := funext (mP_mP n)
  rw [this, List.map_id]
theorem mRun_len (n : Int) (run : List Scan) : (mRun n run).length = run.length := by simp [mRun]
theorem mRd_len (n : Int) (rd : List Pair) : (mRd n rd).length = rd.length := by simp [mRd]
theorem mRun_get {n : Int} {run : List Scan} {j : Nat} {s : Scan} (e : (mRun n run)[j]? = some s) : j < run.length ∧ ∃ a, run[run.length - 1 - j]? = some a ∧ s = mS n a := by
  unfold mRun at e
  rw [List.getElem?_map] at e
  obtain ⟨a, h1, rfl⟩ := Option.map_eq_some_iff.mp e
  have hj : j < run.length := by
    have := (List.getElem?_eq_some_iff.mp h1).1
    simpa using this
  rw [List.getElem?_reverse hj] at h1
  exact ⟨hj, a, h1, rfl⟩
theorem mRd_get {n : Int} {rd : List Pair} {j : Nat} {s : Pair} (e : (mRd n rd)[j]? = some s) : j < rd.length ∧ ∃ a, rd[rd.length - 1 - j]? = some a ∧ s = mP n a := by
  unfold mRd at e
  rw [List.getElem?_map] at e
  obtain ⟨a, h1, rfl⟩ := Option.map_eq_some_iff.mp e
  have hj : j < rd.length := by
    have := (List.getElem?_eq_some_iff.mp h1).1
    simpa using this
  rw [List.getElem?_reverse hj] at h1
  exact ⟨hj, a, h1, rfl⟩
theorem mRd_at {n : Int} {rd : List Pair} {j : Nat} {a : Pair} (hj : j < rd.length) (e : rd[rd.length - 1 - j]? = some a) : (mRd n rd)[j]? = some (mP n a) := by
  unfold mRd
  rw [List.getElem?_map, List.getElem?_reverse hj, e]
  rfl
theorem shows_mS {n : Int} {s : Scan} {p : Pair} (h : showsB s p.1 p.2 = true) : showsB (mS n s) (mP n p).1 (mP n p).2 = true := by
  obtain ⟨a, b⟩ := s
  obtain ⟨f, l⟩ := p
  unfold showsB mS mP at *
  simp only [Bool.and_eq_true, Bool.or_eq_true, beq_iff_eq] at *
  constructor
  · rcases h.2 with e | e
    · rw [e]; exact .inl rfl
    · rw [e]; right; simp; omega
  · rcases h.1 with e | e
    · rw [e]; exact .inl rfl
    · rw [e]; right; simp; omega
theorem dsum_app (a b : List Pair) : dsum (a ++ b) = dsum a + dsum b := by simp [dsum]
theorem dsum_m (n : Int) : ∀ rd : List Pair, dsum (mRd n rd) = dsum rd
  | [] => rfl
  | p :: rd => by
    have ih := dsum_m n rd
    unfold mRd at *
    rw [List.reverse_cons, List.map_append, dsum_app, ih, dsum_cons]
    simp [dsum, mP]
    omega
theorem slips_m (n : Int) : ∀ rd : List Pair, slipsOf (mRd n rd) = slipsOf rd
  | [] => rfl
  | [_] => rfl
  | p :: q :: rd => by
    have ih := slips_m n (q :: rd)
    unfold mRd at *
    simp only [List.reverse_cons, List.map_append, List.map_cons, List.map_nil, List.append_assoc, List.cons_append, List.nil_append] at *
    rw [slipsOf_snoc, ih]
    show _ = (q.1 - p.2 - 1) + slipsOf (q :: rd)
    simp only [mP]
    omega
theorem rd_m {n : Int} {r : Pair} {run : List Scan} {rd : List Pair} (h : IsRd n r run rd) : IsRd n r (mRun n run) (mRd n rd) := by
  obtain ⟨hp, f1, f2, f3, f4, f5⟩ := h
  refine ⟨fun p z => ?_, by rw [mRd_len, mRun_len]; exact f1, fun j p q hj e1 e2 => ?_, fun j s p hj e1 e2 => ?_, by rw [dsum_m]; exact f4, by rw [slips_m]; exact f5⟩
  · unfold mRd at z
    obtain ⟨q, hq, rfl⟩ := List.mem_map.mp z
    have := okPr_iff.mp (hp q (List.mem_reverse.mp hq))
    rw [okPr_iff]
    simp only [mP]
    omega
  · obtain ⟨j1, a, h1, rfl⟩ := mRd_get e1
    obtain ⟨j2, b, h2, rfl⟩ := mRd_get e2
    have e3 : rd.length - 1 - j = rd.length - 1 - (j + 1) + 1 := by omega
    rw [e3] at h1
    have := f2 (rd.length - 1 - (j + 1)) b a (by omega) h2 h1
    simp only [mP]
    omega
  · obtain ⟨j1, a, h1, rfl⟩ := mRun_get e1
    obtain ⟨j2, b, h2, rfl⟩ := mRd_get e2
    rw [f1] at h2
    exact shows_mS (f3 (run.length - 1 - j) a b (by omega) h1 h2)
theorem rd_m_iff {n : Int} {r : Pair} {run : List Scan} {rd : List Pair} : IsRd n r (mRun n run) (mRd n rd) ↔ IsRd n r run rd := ⟨fun h => by
  have := rd_m h
  rwa [mRun_mRun, mRd_mRd] at this, rd_m⟩
theorem len_m {n : Int} {r : Pair} {run : List Scan} (hd : 0 ≤ r.1) (hs : 0 ≤ r.2) : (allR n r run).length = (allR n r (mRun n run)).length := by
  have key : ∀ run, (allR n r run).length ≤ (allR n r (mRun n run)).length := fun run => by
    have := nodup_len (l := (allR n r run).map (mRd n)) (m := allR n r (mRun n run)) (nodup_mapI (nodup_allR hd) fun a _ b _ e => by
      have := congrArg (mRd n) e
      rwa [mRd_mRd, mRd_mRd] at this) fun z hz => by
      obtain ⟨rd, h1, rfl⟩ := List.mem_map.mp hz
      exact (mem_allR_iff hd hs).mpr (rd_m ((mem_allR_iff hd hs).mp h1))
    rwa [List.length_map] at this
  have h1 := key run
  have h2 := key (mRun n run)
  rw [mRun_mRun] at h2
  omega
theorem row_m {n : Int} {r : Pair} {run : List Scan} (hd : 0 ≤ r.1) (hs : 0 ≤ r.2) {k : Nat} (hk : k < run.length) {p : Pair} : p ∈ rowR n r (mRun n run) k ↔ mP n p ∈ rowR n r run (run.length - 1 - k) := by
  rw [mem_rowR_iff hd hs, mem_rowR_iff hd hs]
  constructor
  · rintro ⟨rd, h1, h2⟩
    have h3 := rd_m h1
    rw [mRun_mRun] at h3
    refine ⟨mRd n rd, h3, ?_⟩
    have hl : rd.length = run.length := by rw [h1.fit.1, mRun_len]
    refine mRd_at (by omega) ?_
    rw [hl]
    have : run.length - 1 - (run.length - 1 - k) = k := by omega
    rw [this]
    exact h2
  · rintro ⟨rd, h1, h2⟩
    refine ⟨mRd n rd, rd_m h1, ?_⟩
    have hl : rd.length = run.length := h1.fit.1
    rw [mRd_at (a := mP n p) (by omega) (by rw [hl]; exact h2), mP_mP]
theorem okSc_m {n : Int} {s : Scan} (h : okSc n s = true) : okSc n (mS n s) = true := by
  obtain ⟨a, b⟩ := s
  unfold okSc mS at *
  rw [Bool.and_eq_true] at *
  constructor
  · cases b with
    | none => rfl
    | some b =>
      have := h.2
      simp only [okPg, Bool.and_eq_true, decide_eq_true_eq, Option.map_some] at *
      omega
  · cases a with
    | none => rfl
    | some a =>
      have := h.1
      simp only [okPg, Bool.and_eq_true, decide_eq_true_eq, Option.map_some] at *
      omega
end Pl
set_option Elab.async false
set_option linter.all false
set_option maxRecDepth 100000
set_option maxHeartbeats 2000000
namespace Pl
open PySem Pf
/-! ### what the gaps are -/
structure IsGap (S : Nat → Bool) (N : Nat) (p : Pair) : Prop where
  lo : 0 ≤ p.1
  le : p.1 ≤ p.2
  hi : p.2 < (N : Int)
  no : ∀ k : Nat, p.1 ≤ (k : Int) → (k : Int) ≤ p.2 → S k = false
  left : p.1 = 0 ∨ ∃ k : Nat, (k : Int) = p.1 - 1 ∧ S k = true
  right : p.2 = (N : Int) - 1 ∨ ∃ k : Nat, (k : Int) = p.2 + 1 ∧ S k = true
def SepG (l : List Pair) : Prop := l.Pairwise fun a b => a.2 + 1 < b.1
theorem gaps_ok (S : Nat → Bool) : ∀ N : Nat, SepG (gapsTo S N) ∧ ∀ p, p ∈ gapsTo S N ↔ IsGap S N p
  | 0 => ⟨List.Pairwise.nil, fun p => ⟨fun h => (by simp [gapsTo] at h), fun h => by have := h.lo; have := h.le; have := h.hi; omega⟩⟩
  | N + 1 => by
    obtain ⟨h1, h2⟩ := gaps_ok S N
    by_cases hS : S N = true
    · have e : gapsTo S (N + 1) = gapsTo S N := by
        conv => lhs; unfold gapsTo
        rw [if_pos hS]
      rw [e]
      refine ⟨h1, fun p => ?_⟩
      rw [h2 p]
      constructor
      · rintro ⟨a1, a2, a3, a4, a5, a6⟩
        refine ⟨a1, a2, by omega, a4, a5, ?_⟩
        rcases a6 with z | z
        · exact .inr ⟨N, by omega, hS⟩
        · exact .inr z
      · rintro ⟨a1, a2, a3, a4, a5, a6⟩
        have hne : p.2 ≠ (N : Int) := fun z => by
          have := a4 N (by omega) (by omega)
          rw [hS] at this
          cases this
        refine ⟨a1, a2, by omega, a4, a5, ?_⟩
        rcases a6 with z | z
        · exact absurd z (by omega)
        · exact .inr z
    · have hSf : S N = false := by simpa using hS
      -- the new last one
      have key : ∀ (G : List Pair) (q : Pair), SepG (G ++ [q]) → (∀ p, p ∈ G ↔ IsGap S N p ∧ p.2 ≠ (N : Int) - 1) → q.2 = (N : Int) → IsGap S (N + 1) q → SepG (G ++ [q]) ∧ ∀ p, p ∈ G ++ [q] ↔ IsGap S (N + 1) p := by
        intro G q hs hG hq hgq
        refine ⟨hs, fun p => ?_⟩
        rw [List.mem_append, List.mem_singleton, hG p]
        constructor
        · rintro (⟨⟨a1, a2, a3, a4, a5, a6⟩, a7⟩ | rfl)
          · exact ⟨a1, a2, by omega, a4, a5, .inr (a6.resolve_left a7)⟩
          · exact hgq
        · rintro ⟨a1, a2, a3, a4, a5, a6⟩
          by_cases hp : p.2 = (N : Int)
          · right
            -- the same end, so the same begin
            have b1 := hgq.lo
            have b2 := hgq.le
            have b4 := hgq.no
            have b5 := hgq.left
            have e1 : p.1 = q.1 := by
              rcases Int.lt_trichotomy p.1 q.1 with z | z | z
              · rcases b5 with y | ⟨k, y1, y2⟩
                · omega
                · have := a4 k (by omega) (by omega)
                  rw [y2] at this
                  cases this
              · exact z
              · rcases a5 with y | ⟨k, y1, y2⟩
                · omega
                · have := b4 k (by omega) (by omega)
                  rw [y2] at this
                  cases this
            exact Prod.ext e1 (by omega)
          · left
            have hp2 : p.2 ≠ (N : Int) - 1 := fun z => by
              rcases a6 with y | ⟨k, y1, y2⟩
              · omega
              · have : k = N := by omega
                rw [this] at y2
                rw [hSf] at y2
                cases y2
            refine ⟨⟨a1, a2, by omega, a4, a5, .inr ?_⟩, hp2⟩
            rcases a6 with y | y
            · omega
            · exact y
      have hlow : ∀ p ∈ gapsTo S N, p.2 < (N : Int) := fun p hp => ((h2 p).mp hp).hi
      have alone : (∀ p ∈ gapsTo S N, p.2 ≠ (N : Int) - 1) → SepG (gapsTo S N ++ [((N : Int), (N : Int))]) ∧ ∀ p, p ∈ gapsTo S N ++ [((N : Int), (N : Int))] ↔ IsGap S (N + 1) p := by
        intro hno
        refine key _ _ ?_ (fun p => ⟨fun h => ⟨(h2 p).mp h, hno p h⟩, fun h => (h2 p).mpr h.1⟩) rfl ⟨by simp only; omega, by simp only; omega, by simp only; omega, fun k h3 h4 => ?_, ?_, .inl (by simp only; omega)⟩
        · refine List.pairwise_append.mpr ⟨h1, by simp, fun a ha b hb => ?_⟩
          rw [List.mem_singleton.mp hb]
          have := hlow a ha
          have := hno a ha
          simp only
          omega
        · simp only at h3 h4
          have : k = N := by omega
          rw [this]; exact hSf
        · simp only
          by_cases h0 : N = 0
          · left; omega
          · right
            refine ⟨N - 1, by omega, ?_⟩
            cases hc : S (N - 1) with
            | true => rfl
            | false =>
              exfalso
              -- then a gap ends at N - 1
              have : ∃ p, IsGap S N p ∧ p.2 = (N : Int) - 1 := by
                have find : ∀ m : Nat, m < N → (∀ k : Nat, m ≤ k → k < N → S k = false) → ∃ p, IsGap S N p ∧ p.2 = (N : Int) - 1 := by
                  intro m
                  induction m with
                  | zero => exact fun hm hk => ⟨(0, (N : Int) - 1), ⟨by simp only; omega, by simp only; omega, by simp only; omega, fun k h3 h4 => hk k (by omega) (by simp only at h4; omega), .inl rfl, .inl rfl⟩, rfl⟩
                  | succ m ih =>
                    intro hm hk
                    cases hm2 : S m with
                    | true => exact ⟨(((m + 1 : Nat) : Int), (N : Int) - 1), ⟨by simp only; omega, by simp only; omega, by simp only; omega, fun k h3 h4 => hk k (by simp only at h3; omega) (by simp only at h4; omega), .inr ⟨m, by simp only; omega, hm2⟩, .inl rfl⟩, rfl⟩
                    | false =>
                      refine ih (by omega) fun k h3 h4 => ?_
                      by_cases hkm : k = m
                      · rw [hkm]; exact hm2
                      · exact hk k (by omega) h4
                exact find (N - 1) (by omega) fun k h3 h4 => by
                  have : k = N - 1 := by omega
                  rw [this]; exact hc
              obtain ⟨p, hp1, hp2⟩ := this
              exact hno p ((h2 p).mpr hp1) hp2
      cases hg : (gapsTo S N).getLast? with
      | none =>
        have e : gapsTo S (N + 1) = gapsTo S N ++ [((N : Int), (N : Int))] := by
          conv => lhs; unfold gapsTo
          rw [if_neg hS, hg]
        have hnil : gapsTo S N = [] := by simpa using hg
        rw [e]
        exact alone fun p hp => by rw [hnil] at hp; simp at hp
      | some q =>
        have hsn := last_snoc hg
        by_cases hq : q.2 = (N : Int) - 1
        · have e : gapsTo S (N + 1) = (gapsTo S N).dropLast ++ [(q.1, (N : Int))] := by
            conv => lhs; unfold gapsTo
            rw [if_neg hS, hg]
            simp only
            rw [if_pos hq]
          rw [e]
          have hsep := h1
          rw [hsn] at hsep
          obtain ⟨s1, _, s3⟩ := List.pairwise_append.mp hsep
          have hqg : IsGap S N q := (h2 q).mp (by rw [hsn]; simp)
          refine key _ _ ?_ (fun p => ?_) rfl ⟨hqg.lo, by have := hqg.le; simp only; omega, by simp only; omega, fun k h3 h4 => ?_, hqg.left, .inl (by simp only; omega)⟩
          · exact List.pairwise_append.mpr ⟨s1, by simp, fun a ha b hb => by
              rw [List.mem_singleton.mp hb]
              exact s3 a ha q (by simp)⟩
          · constructor
            · intro hp
              have hpg := (h2 p).mp (by rw [hsn]; exact List.mem_append_left _ hp)
              refine ⟨hpg, ?_⟩
              have := s3 p hp q (by simp)
              have := hqg.le
              omega
            · rintro ⟨hp1, hp2⟩
              have := (h2 p).mpr hp1
              rw [hsn] at this
              rcases List.mem_append.mp this with z | z
              · exact z
              · rw [List.mem_singleton.mp z] at hp2
                exact absurd hq hp2
          · simp only at h3 h4
            by_cases hk : k = N
            · rw [hk]; exact hSf
            · exact hqg.no k h3 (by omega)
        · have e : gapsTo S (N + 1) = gapsTo S N ++ [((N : Int), (N : Int))] := by
            conv => lhs; unfold gapsTo
            rw [if_neg hS, hg]
            simp only
            rw [if_neg hq]
          rw [e]
          refine alone fun p hp z => ?_
          have hsep := h1
          rw [hsn] at hsep hp
          obtain ⟨_, _, s3⟩ := List.pairwise_append.mp hsep
          have hqg : IsGap S N q := (h2 q).mp (by rw [hsn]; simp)
          rcases List.mem_append.mp hp with y | y
          · have := s3 p y q (by simp)
            have := hqg.le
            have := hqg.hi
            omega
          · rw [List.mem_singleton.mp y] at z
            exact hq z
end Pl
set_option Elab.async false
set_option linter.all false
set_option maxRecDepth 100000
set_option maxHeartbeats 2000000
namespace Pl
open PySem Pf
def mG (n : Int) (p : Pair) : Pair := (2 * n - 1 - p.2, 2 * n - 1 - p.1)
theorem gaps_m {n : Int} (hn : 0 ≤ n) {S S' : Nat → Bool} (h : ∀ k k' : Nat, (k : Int) + k' = 2 * n - 1 → S k = S' k') : gapsTo S' (2 * n).toNat = ((gapsTo S (2 * n).toNat).map (mG n)).reverse := by
  obtain ⟨a1, a2⟩ := gaps_ok S (2 * n).toNat
  obtain ⟨b1, b2⟩ := gaps_ok S' (2 * n).toNat
  have hN : (((2 * n).toNat : Nat) : Int) = 2 * n := by omega
  have flip : ∀ (T T' : Nat → Bool), (∀ k k' : Nat, (k : Int) + k' = 2 * n - 1 → T k = T' k') → ∀ p, IsGap T (2 * n).toNat p → IsGap T' (2 * n).toNat (mG n p) := by
    rintro T T' hT p ⟨c1, c2, c3, c4, c5, c6⟩
    rw [hN] at c3 c6
    refine ⟨by simp only [mG]; omega, by simp only [mG]; omega, by simp only [mG]; omega, fun k d1 d2 => ?_, ?_, ?_⟩
    · simp only [mG] at d1 d2
      obtain ⟨k', hk'⟩ : ∃ k' : Nat, (k' : Int) = 2 * n - 1 - k := ⟨(2 * n - 1 - k).toNat, by omega⟩
      rw [← hT k' k (by omega)]
      exact c4 k' (by omega) (by omega)
    · rcases c6 with z | ⟨k, z1, z2⟩
      · left; simp only [mG]; omega
      · by_cases hk : (k : Int) ≤ 2 * n - 1
        · right
          refine ⟨(2 * n - 1 - k).toNat, by simp only [mG]; omega, ?_⟩
          rw [← hT k _ (by omega)]
          exact z2
        · left; simp only [mG]; omega
    · rcases c5 with z | ⟨k, z1, z2⟩
      · left; simp only [mG]; omega
      · right
        refine ⟨(2 * n - 1 - k).toNat, by simp only [mG]; omega, ?_⟩
        rw [← hT k _ (by omega)]
        exact z2
  have mm : ∀ p, mG n (mG n p) = p := fun p => by
    obtain ⟨u, v⟩ := p
    simp only [mG, Prod.mk.injEq]
    omega
  have srt : ∀ (T : Nat → Bool) (l : List Pair), SepG l → (∀ p ∈ l, IsGap T (2 * n).toNat p) → SortU ltP l := fun T l h1 h2 => List.Pairwise.imp_of_mem (fun {p q} hp hq hlt => decide_eq_true (.inl (by have := (h2 p hp).le; omega))) h1
  refine sortU_ext ordP (srt S' _ b1 fun p hp => (b2 p).mp hp) ?_ fun p => ?_
  · refine srt S' _ ?_ fun p hp => ?_
    · unfold SepG
      rw [List.pairwise_reverse, List.pairwise_map]
      exact List.Pairwise.imp (fun {p q} hlt => by simp only [mG]; omega) a1
    · obtain ⟨q, hq, rfl⟩ := List.mem_map.mp (List.mem_reverse.mp hp)
      exact flip S S' h q ((a2 q).mp hq)
  · rw [b2 p, List.mem_reverse, List.mem_map]
    constructor
    · intro hp
      exact ⟨mG n p, (a2 _).mpr (flip S' S (fun k k' e => (h k' k (by omega)).symm) p hp), mm p⟩
    · rintro ⟨q, hq, rfl⟩
      exact flip S S' h q ((a2 q).mp hq)
/-! what is shown -/
theorem isSh_iff {E : List (Int × Pair)} {k : Nat} : isSh E k = true ↔ ∃ e ∈ E, e.1 = (k : Int) := by
  unfold isSh firstAt
  rw [Option.isSome_map, List.find?_isSome]
  simp
theorem mem_rowsE {rows : List (List Scan)} {k : Int} : (∃ e ∈ rowsE rows, e.1 = k) ↔ ∃ row ∈ rows, ∃ s ∈ row, s.1 = some k ∨ s.2 = some k := by
  unfold rowsE rowE
  constructor
  · rintro ⟨e, he, rfl⟩
    obtain ⟨i, _, hi⟩ := List.mem_flatMap.mp he
    split at hi
    · rename_i row hrow
      obtain ⟨j, _, hj⟩ := List.mem_flatMap.mp hi
      split at hj
      · rename_i s hs
        refine ⟨row, List.mem_of_getElem? hrow, s, List.mem_of_getElem? hs, ?_⟩
        unfold scE at hj
        obtain ⟨pg, hpg, rfl⟩ := List.mem_map.mp hj
        simp at hpg
        exact hpg.imp (fun z => z.symm) fun z => z.symm
      · cases hj
    · cases hi
  · rintro ⟨row, hrow, s, hs, hk⟩
    obtain ⟨i, hi⟩ := List.getElem?_of_mem hrow
    obtain ⟨j, hj⟩ := List.getElem?_of_mem hs
    refine ⟨(k, ((i : Int), (j : Int))), List.mem_flatMap.mpr ⟨i, List.mem_range.mpr (List.getElem?_eq_some_iff.mp hi).1, ?_⟩, rfl⟩
    rw [hi]
    refine List.mem_flatMap.mpr ⟨j, List.mem_range.mpr (List.getElem?_eq_some_iff.mp hj).1, ?_⟩
    rw [hj]
    unfold scE
    refine List.mem_map.mpr ⟨k, ?_, rfl⟩
    simp
    exact hk.imp (fun z => z.symm) fun z => z.symm
theorem one_iff {l : List Int} {a : Int} : one? l = some a ↔ l ≠ [] ∧ ∀ b ∈ l, b = a := by
  constructor
  · intro h
    have e := one_len.2 a h
    refine ⟨fun z => ?_, fun b hb => ?_⟩
    · rw [z] at e
      cases e
    · have : b ∈ setN l := (mem_setU ordN).mpr hb
      rw [e] at this
      simpa using this
  · rintro ⟨h1, h2⟩
    have e : setN l = [a] := sortU_ext ordN (sort_setU ordN) (by simp [SortU]) fun z => by
      rw [mem_setU ordN]
      constructor
      · intro hz
        rw [h2 z hz]
        simp
      · intro hz
        obtain ⟨b, hb⟩ := List.exists_mem_of_ne_nil _ h1
        simp at hz
        rw [hz, ← h2 b hb]
        exact hb
    unfold one?
    rw [e]
theorem sureSc_m {n : Int} {g g' : List Pair} (h : ∀ p, p ∈ g' ↔ mP n p ∈ g) : sureSc g' = mS n (sureSc g) := by
  have hm : ∀ p, p ∈ g → mP n p ∈ g' := fun p hp => (h _).mpr (by rw [mP_mP]; exact hp)
  have e1 : one? (g'.map (·.1)) = (one? (g.map (·.2))).map (fun b => n - 1 - b) := by
    have key : ∀ a, one? (g'.map (·.1)) = some a ↔ one? (g.map (·.2)) = some (n - 1 - a) := fun a => by
      rw [one_iff, one_iff]
      constructor
      · rintro ⟨c1, c2⟩
        refine ⟨fun z => c1 ?_, fun b hb => ?_⟩
        · have hg : g = [] := by simpa using z
          have : g' = [] := List.eq_nil_iff_forall_not_mem.mpr fun p hp => by
            have := (h p).mp hp
            rw [hg] at this
            cases this
          rw [this]; rfl
        · obtain ⟨p, hp, rfl⟩ := List.mem_map.mp hb
          have := c2 _ (List.mem_map.mpr ⟨mP n p, hm p hp, rfl⟩)
          simp only [mP] at this
          omega
      · rintro ⟨c1, c2⟩
        refine ⟨fun z => c1 ?_, fun b hb => ?_⟩
        · have hg : g' = [] := by simpa using z
          have : g = [] := List.eq_nil_iff_forall_not_mem.mpr fun p hp => by
            have := hm p hp
            rw [hg] at this
            cases this
          rw [this]; rfl
        · obtain ⟨p, hp, rfl⟩ := List.mem_map.mp hb
          have := c2 _ (List.mem_map.mpr ⟨mP n p, (h p).mp hp, rfl⟩)
          simp only [mP] at this
          omega
    cases hc : one? (g.map (·.2)) with
    | none =>
      cases hd : one? (g'.map (·.1)) with
      | none => rfl
      | some a => rw [(key a).mp hd] at hc; cases hc
    | some b =>
      have := (key (n - 1 - b)).mpr (by rw [hc]; congr 1; omega)
      rw [this]
      rfl
  have e2 : one? (g'.map (·.2)) = (one? (g.map (·.1))).map (fun b => n - 1 - b) := by
    have key : ∀ a, one? (g'.map (·.2)) = some a ↔ one? (g.map (·.1)) = some (n - 1 - a) := fun a => by
      rw [one_iff, one_iff]
      constructor
      · rintro ⟨c1, c2⟩
        refine ⟨fun z => c1 ?_, fun b hb => ?_⟩
        · have hg : g = [] := by simpa using z
          have : g' = [] := List.eq_nil_iff_forall_not_mem.mpr fun p hp => by
            have := (h p).mp hp
            rw [hg] at this
            cases this
          rw [this]; rfl
        · obtain ⟨p, hp, rfl⟩ := List.mem_map.mp hb
          have := c2 _ (List.mem_map.mpr ⟨mP n p, hm p hp, rfl⟩)
          simp only [mP] at this
          omega
      · rintro ⟨c1, c2⟩
        refine ⟨fun z => c1 ?_, fun b hb => ?_⟩
        · have hg : g' = [] := by simpa using z
          have : g = [] := List.eq_nil_iff_forall_not_mem.mpr fun p hp => by
            have := hm p hp
            rw [hg] at this
            cases this
          rw [this]; rfl
        · obtain ⟨p, hp, rfl⟩ := List.mem_map.mp hb
          have := c2 _ (List.mem_map.mpr ⟨mP n p, (h p).mp hp, rfl⟩)
          simp only [mP] at this
          omega
    cases hc : one? (g.map (·.1)) with
    | none =>
      cases hd : one? (g'.map (·.2)) with
      | none => rfl
      | some a => rw [(key a).mp hd] at hc; cases hc
    | some b =>
      have := (key (n - 1 - b)).mpr (by rw [hc]; congr 1; omega)
      rw [this]
      rfl
  unfold sureSc mS
  rw [e1, e2]
  simp only [Option.map_map, Prod.mk.injEq]
  constructor
  · cases one? (g.map (·.2)) with
    | none => rfl
    | some b => simp; omega
  · cases one? (g.map (·.1)) with
    | none => rfl
    | some b => simp; omega
end Pl
set_option Elab.async false
set_option linter.all false
set_option maxRecDepth 100000
set_option maxHeartbeats 2000000
namespace Pl
open PySem Pf Sm
theorem mem_sureL {n : Int} {r : Pair} {run : List Scan} {s : Scan} : s ∈ sureL n r run ↔ ∃ k, k < run.length ∧ s = sureSc (rowR n r run k) := by
  unfold sureL rowsR
  rw [List.map_map, List.mem_map]
  constructor
  · rintro ⟨k, hk, rfl⟩
    exact ⟨k, List.mem_range.mp hk, rfl⟩
  · rintro ⟨k, hk, rfl⟩
    exact ⟨k, List.mem_range.mpr hk, rfl⟩
theorem sureL_m {n : Int} {r : Pair} {run : List Scan} (hd : 0 ≤ r.1) (hs : 0 ≤ r.2) {s : Scan} (h : s ∈ sureL n r run) : mS n s ∈ sureL n r (mRun n run) := by
  obtain ⟨k, hk, rfl⟩ := mem_sureL.mp h
  refine mem_sureL.mpr ⟨run.length - 1 - k, by rw [mRun_len]; omega, ?_⟩
  have e := sureSc_m (n := n) (g := rowR n r run k) (g' := rowR n r (mRun n run) (run.length - 1 - k)) fun p => by
    have := row_m (n := n) (r := r) (run := run) hd hs (k := run.length - 1 - k) (by omega) (p := p)
    have e : run.length - 1 - (run.length - 1 - k) = k := by omega
    rwa [e] at this
  rw [e]
theorem shown_m {n : Int} {r : Pair} {run : List Scan} (hd : 0 ≤ r.1) (hs : 0 ≤ r.2) {k k' : Nat} (hk : (k : Int) + k' = 2 * n - 1) : isSh (shownE n r [run]) k = isSh (shownE n r [mRun n run]) k' := by
  have key : ∀ (run : List Scan) (k k' : Nat), (k : Int) + k' = 2 * n - 1 → isSh (shownE n r [run]) k = true → isSh (shownE n r [mRun n run]) k' = true := by
    intro run k k' hk h
    rw [isSh_iff, shownE, mem_rowsE] at *
    obtain ⟨row, hrow, s, hs1, hs2⟩ := h
    simp at hrow
    subst hrow
    refine ⟨sureL n r (mRun n run), by simp, mS n s, sureL_m hd hs hs1, ?_⟩
    unfold mS
    rcases hs2 with z | z
    · right; rw [z]; simp; omega
    · left; rw [z]; simp; omega
  cases h1 : isSh (shownE n r [run]) k with
  | true => rw [key run k k' hk h1]
  | false =>
    cases h2 : isSh (shownE n r [mRun n run]) k' with
    | false => rfl
    | true =>
      have := key (mRun n run) k' k (by omega) h2
      rw [mRun_mRun, h1] at this
      cases this
/-! sorted pairs -/
theorem dataLe_pr : PySem.W.dataLe false prT = fun p q : Pair => decide (p.1 < q.1 ∨ (p.1 = q.1 ∧ p.2 ≤ q.2)) := PySem.W.dataLe_ii (fun p : Pair => p.1) (fun p => p.2)
theorem sortD_pr (l : List Pair) : sortD (l.map prT) = (l.mergeSort (PySem.W.dataLe false prT)).map prT := by
  unfold sortD
  exact (List.map_mergeSort (f := prT) (r := PySem.W.dataLe false prT) (s := PySem.W.dataLe false fun x => x) (l := l) (fun a _ b _ => rfl)).symm
theorem sort_set {l m : List Pair} (hl : l.Nodup) (hm : SortU ltP m) (h : ∀ p, p ∈ l ↔ p ∈ m) : sortD (l.map prT) = m.map prT := by
  rw [sortD_pr]
  congr 1
  have hp := List.mergeSort_perm l (PySem.W.dataLe false prT)
  have hs : (l.mergeSort (PySem.W.dataLe false prT)).Pairwise fun a b => PySem.W.dataLe false prT a b = true := List.pairwise_mergeSort (fun a b c => by
      rw [dataLe_pr]
      simp only [decide_eq_true_eq]
      omega) (fun a b => by
      rw [dataLe_pr]
      simp only [Bool.or_eq_true, decide_eq_true_eq]
      omega) l
  refine sortU_ext ordP ?_ hm fun p => by rw [hp.mem_iff, h]
  refine List.Pairwise.imp (fun {a b} hab => ?_) (List.Pairwise.and hs (hp.nodup_iff.mpr hl))
  obtain ⟨h1, h2⟩ := hab
  rw [dataLe_pr] at h1
  have h1 := of_decide_eq_true h1
  refine decide_eq_true ?_
  rcases h1 with z | ⟨z1, z2⟩
  · exact .inl z
  · refine .inr ⟨z1, ?_⟩
    have : a.2 ≠ b.2 := fun e => h2 (Prod.ext z1 e)
    omega
theorem sortOk_pr (l : List Pair) : sortOk (l.map prT) = true := by
  have e : l.map prT = (l.map lP).map tupI := by
    rw [List.map_map]
    rfl
  rw [e]
  exact sortOk_ints fun k hk => by
    obtain ⟨p, _, rfl⟩ := List.mem_map.mp hk
    simp [lP]
end Pl
set_option Elab.async false
set_option linter.all false
set_option maxRecDepth 100000
set_option maxHeartbeats 2000000
namespace Pl
open PySem Pf Sm
/-! ### filled -/
theorem couldR_e (n : Int) (r : Pair) (run : List Scan) : couldR n r run = if allR n r run = [] then .val (.dat .none) else .own (rowsT (rowsR n r run)) := by
  unfold couldR
  by_cases h : run = []
  · subst h
    simp [allR, rowsR, rowsT]
  · simp [h]
theorem rowsR_len (n : Int) (r : Pair) (run : List Scan) : (rowsR n r run).length = run.length := by simp [rowsR]
theorem rowsR_at {n : Int} {r : Pair} {run : List Scan} {k : Nat} (hk : k < run.length) : (rowsR n r run)[k]? = some (rowR n r run k) := by
  unfold rowsR
  rw [List.getElem?_map, List.getElem?_range hk]
  rfl
theorem row_ne {n : Int} {r : Pair} {run : List Scan} (hd : 0 ≤ r.1) (hs : 0 ≤ r.2) (hA : allR n r run ≠ []) {k : Nat} (hk : k < run.length) : rowR n r run k ≠ [] := by
  obtain ⟨rd, hrd⟩ := List.exists_mem_of_ne_nil _ hA
  have h1 := (mem_allR_iff hd hs).mp hrd
  obtain ⟨p, hp⟩ := get_of_lt (l := rd) (k := k) (by rw [h1.fit.1]; exact hk)
  exact List.ne_nil_of_mem (mem_rowR.mpr ⟨rd, hrd, hp⟩)
/-- a page that is told is sure -/
theorem told_front {n : Int} {r : Pair} {run : List Scan} (hd : 0 ≤ r.1) (hs : 0 ≤ r.2) (hA : allR n r run ≠ []) {k : Nat} {s : Scan} (hk : run[k]? = some s) {p : Int} (hp : s.1 = some p) : ∃ a, p = 2 * a ∧ one? ((rowR n r run k).map (·.1)) = some a := by
  have hkl := (List.getElem?_eq_some_iff.mp hk).1
  have key : ∀ q ∈ rowR n r run k, p = 2 * q.1 := fun q hq => by
    obtain ⟨rd, h1, h2⟩ := (mem_rowR_iff hd hs).mp hq
    have h3 := h1.fit.2.2.1 k s q (List.getElem?_eq_some_iff.mp h2).1 hk h2
    unfold showsB at h3
    rw [Bool.and_eq_true, Bool.or_eq_true, hp] at h3
    rcases h3.1 with z | z
    · cases z
    · simpa using z
  have hne := row_ne hd hs hA hkl
  obtain ⟨q, hq⟩ := List.exists_mem_of_ne_nil _ hne
  refine ⟨q.1, key q hq, one_iff.mpr ⟨by simpa using hne, fun b hb => ?_⟩⟩
  obtain ⟨q', hq', rfl⟩ := List.mem_map.mp hb
  have h1 := key q hq
  have h2 := key q' hq'
  omega
theorem told_back {n : Int} {r : Pair} {run : List Scan} (hd : 0 ≤ r.1) (hs : 0 ≤ r.2) (hA : allR n r run ≠ []) {k : Nat} {s : Scan} (hk : run[k]? = some s) {p : Int} (hp : s.2 = some p) : ∃ a, p = 2 * a + 1 ∧ one? ((rowR n r run k).map (·.2)) = some a := by
  have hkl := (List.getElem?_eq_some_iff.mp hk).1
  have key : ∀ q ∈ rowR n r run k, p = 2 * q.2 + 1 := fun q hq => by
    obtain ⟨rd, h1, h2⟩ := (mem_rowR_iff hd hs).mp hq
    have h3 := h1.fit.2.2.1 k s q (List.getElem?_eq_some_iff.mp h2).1 hk h2
    unfold showsB at h3
    rw [Bool.and_eq_true, Bool.or_eq_true, Bool.or_eq_true, hp] at h3
    rcases h3.2 with z | z
    · cases z
    · simpa using z
  have hne := row_ne hd hs hA hkl
  obtain ⟨q, hq⟩ := List.exists_mem_of_ne_nil _ hne
  refine ⟨q.2, key q hq, one_iff.mpr ⟨by simpa using hne, fun b hb => ?_⟩⟩
  obtain ⟨q', hq', rfl⟩ := List.mem_map.mp hb
  have h1 := key q hq
  have h2 := key q' hq'
  omega
theorem sureL_get {n : Int} {r : Pair} {run : List Scan} {k : Nat} {s : Scan} (h : (sureL n r run)[k]? = some s) : k < run.length ∧ s = sureSc (rowR n r run k) := by
  unfold sureL at h
  rw [List.getElem?_map] at h
  obtain ⟨g, h1, rfl⟩ := Option.map_eq_some_iff.mp h
  have hk : k < run.length := by
    have := (List.getElem?_eq_some_iff.mp h1).1
    rwa [rowsR_len] at this
  rw [rowsR_at hk] at h1
  cases h1
  exact ⟨hk, rfl⟩
theorem sureL_len (n : Int) (r : Pair) (run : List Scan) : (sureL n r run).length = run.length := by
  unfold sureL
  rw [List.length_map, rowsR_len]
/-- the run told fully has the same readings -/
theorem rd_sure {n : Int} {r : Pair} {run : List Scan} {rd : List Pair} (hd : 0 ≤ r.1) (hs : 0 ≤ r.2) (hA : allR n r run ≠ []) : IsRd n r (sureL n r run) rd ↔ IsRd n r run rd := by
  constructor
  · rintro ⟨h1, f1, f2, f3, f4, f5⟩
    rw [sureL_len] at f1
    refine ⟨h1, f1, f2, fun j s p hj e1 e2 => ?_, f4, f5⟩
    have hjl : j < run.length := (List.getElem?_eq_some_iff.mp e1).1
    obtain ⟨s', hs'⟩ := get_of_lt (l := sureL n r run) (k := j) (by rw [sureL_len]; exact hjl)
    have h3 := f3 j s' p hj hs' e2
    obtain ⟨_, rfl⟩ := sureL_get hs'
    unfold showsB sureSc at *
    rw [Bool.and_eq_true, Bool.or_eq_true, Bool.or_eq_true] at *
    constructor
    · cases hf : s.1 with
      | none => exact .inl rfl
      | some a =>
        obtain ⟨b, rfl, hb⟩ := told_front hd hs hA e1 hf
        rw [hb] at h3
        right
        have := h3.1.resolve_left (by simp)
        simpa using this
    · cases hf : s.2 with
      | none => exact .inl rfl
      | some a =>
        obtain ⟨b, rfl, hb⟩ := told_back hd hs hA e1 hf
        rw [hb] at h3
        right
        have := h3.2.resolve_left (by simp)
        simpa using this
  · intro h
    have h0 := h
    obtain ⟨h1, f1, f2, f3, f4, f5⟩ := h
    refine ⟨h1, by rw [sureL_len]; exact f1, f2, fun j s p hj e1 e2 => ?_, f4, f5⟩
    obtain ⟨hjl, rfl⟩ := sureL_get e1
    have hm : p ∈ rowR n r run j := (mem_rowR_iff hd hs).mpr ⟨rd, h0, e2⟩
    unfold showsB sureSc
    rw [Bool.and_eq_true, Bool.or_eq_true, Bool.or_eq_true]
    constructor
    · cases hf : one? ((rowR n r run j).map (·.1)) with
      | none => exact .inl rfl
      | some a =>
        right
        have := (one_iff.mp hf).2 p.1 (List.mem_map.mpr ⟨p, hm, rfl⟩)
        simp [this]
    · cases hf : one? ((rowR n r run j).map (·.2)) with
      | none => exact .inl rfl
      | some a =>
        right
        have := (one_iff.mp hf).2 p.2 (List.mem_map.mpr ⟨p, hm, rfl⟩)
        simp [this]
theorem sure_same {n : Int} {r : Pair} {run : List Scan} (hd : 0 ≤ r.1) (hs : 0 ≤ r.2) (hA : allR n r run ≠ []) : (allR n r (sureL n r run)).length = (allR n r run).length ∧ rowsR n r (sureL n r run) = rowsR n r run ∧ sureL n r (sureL n r run) = sureL n r run ∧ allR n r (sureL n r run) ≠ [] := by
  have hrows : rowsR n r (sureL n r run) = rowsR n r run := by
    unfold rowsR
    rw [sureL_len]
    refine List.map_congr_left fun k _ => ?_
    refine sortU_ext ordP sort_rowR sort_rowR fun p => ?_
    rw [mem_rowR_iff hd hs, mem_rowR_iff hd hs]
    exact ⟨fun ⟨rd, h1, h2⟩ => ⟨rd, (rd_sure hd hs hA).mp h1, h2⟩, fun ⟨rd, h1, h2⟩ => ⟨rd, (rd_sure hd hs hA).mpr h1, h2⟩⟩
  refine ⟨Nat.le_antisymm (len_mono hd hs hd hs fun rd h => (rd_sure hd hs hA).mp h) (len_mono hd hs hd hs fun rd h => (rd_sure hd hs hA).mpr h), hrows, by unfold sureL at *; rw [hrows], ?_⟩
  obtain ⟨rd, hrd⟩ := List.exists_mem_of_ne_nil _ hA
  exact List.ne_nil_of_mem ((mem_allR_iff hd hs).mpr ((rd_sure hd hs hA).mpr ((mem_allR_iff hd hs).mp hrd)))
section
variable (x : Bool)
theorem filled_eq {n : Int} {r : Pair} {run : List Scan} {h : Hs} (ok : Okay n r run) : S_filled x [.dat (.int n), .dat (prT r), .dat (runT run)] h = .ok (if allR n r run = [] then .val (.dat .none) else .own ((sureL n r run).map scT)) h := by
  have hlen := ok.len
  have n2 := ok.n2
  generalize hG : S_filled x _ _ = G
  simp [S_filled, F_filled, could_eq x ok, couldR_e] at hG
  by_cases hA : allR n r run = []
  · simp [hA, isT] at hG
    subst hG
    simp [hA]
  simp [hA, isT] at hG
  have kz : kZipb (.dat (.list (rowsT (rowsR n r run)))) (.dat (runT run)) h = .ok (zipT (rowsT (rowsR n r run)) (run.map scT)) h := rfl
  simp [runT] at hG
  generalize hF : forL _ _ _ _ _ = F at hG
  obtain ⟨ρ', h', rfl, rfl, acc, hacc, a5, a6, a7, a8, a9, a10, _, rfl⟩ := forL_of hF (fun k ρ h' => h' = h ∧ ∃ acc, acc = (sureL n r run).take k ∧ ∃ a5 a6 a7 a8 a9 a10, plS a10 = true ∧ ρ = [vi n, vd (prT r), vd (runT run), vd (.list (rowsT (rowsR n r run))), .own (acc.map scT), a5, a6, a7, a8, a9, a10]) ⟨rfl, [], rfl, _, _, _, _, _, _, rfl, rfl⟩ (by
      rintro k t ρ h' e ⟨rfl, acc, hacc, a5, a6, a7, a8, a9, a10, p10, rfl⟩ Q hn
      clear hF hG
      obtain ⟨u, v, e1, e2, rfl⟩ := zip_get e
      obtain ⟨s, hs, rfl⟩ := map_get e2
      have hk : k < run.length := (List.getElem?_eq_some_iff.mp hs).1
      obtain ⟨g, hg, rfl⟩ := map_get (f := fun g : List Pair => PyData.list (g.map prT)) e1
      rw [rowsR_at hk] at hg
      cases hg
      have hgl := len_rowR ok hk
      have hgood : ∀ p ∈ rowR n r run k, Good2 n p := fun p hp => good_rowR ok hk hp
      have hacl : acc.length < 100000 := by
        rw [hacc, List.length_take, sureL_len]
        omega
      have f1 := setN_few (l := (rowR n r run k).map (·.1)) (b := 30) fun z hz => by
        obtain ⟨o, ho, rfl⟩ := List.mem_map.mp hz
        obtain ⟨q1, q2, q3, q4⟩ := hgood o ho
        omega
      have f2 := setN_few (l := (rowR n r run k).map (·.2)) (b := 30) fun z hz => by
        obtain ⟨o, ho, rfl⟩ := List.mem_map.mp hz
        obtain ⟨q1, q2, q3, q4⟩ := hgood o ho
        omega
      have so1 := setOf_ints (l := (rowR n r run k).map (·.1)) (by rw [List.length_map]; omega) (by omega)
      have so2 := setOf_ints (l := (rowR n r run k).map (·.2)) (by rw [List.length_map]; omega) (by omega)
      rw [List.map_map] at so1 so2
      simp [Turn1, p10, kItD]
      generalize hF2 : compL _ _ _ _ _ _ = F2
      have e2 := compL_ofM hF2 (fun _ => true) (fun o => PyData.int o.1) (by
        intro o ho
        refine ⟨_, rfl, rfl, fun _ => ?_⟩
        simp [prT_0])
      subst e2
      simp
      have so1 : setOf ((rowR n r run k).map fun o => PyData.int o.1) = some ((setN ((rowR n r run k).map (·.1))).map PyData.int) := so1
      have so2 : setOf ((rowR n r run k).map fun o => PyData.int o.2) = some ((setN ((rowR n r run k).map (·.2))).map PyData.int) := so2
      rw [kSortSet_ap _ so1]
      simp [p10, kItD]
      generalize hF3 : compL _ _ _ _ _ _ = F3
      have e3 := compL_ofM hF3 (fun _ => true) (fun o => PyData.int o.2) (by
        intro o ho
        refine ⟨_, rfl, rfl, fun _ => ?_⟩
        simp [prT_1])
      subst e3
      simp
      rw [kSortSet_ap _ so2]
      simp
      have hsl : (sureL n r run)[k]? = some (sureSc (rowR n r run k)) := by
        unfold sureL
        rw [List.getElem?_map, rowsR_at hk]
        rfl
      have fin : ∀ (sc : Scan), sc = sureSc (rowR n r run k) → ∀ a5 a6 a7 a8 a9 a10, plS a10 = true → WP (.ok (.next [vi n, vd (prT r), vd (runT run), vd (.list (rowsT (rowsR n r run))), .own (acc.map scT ++ [scT sc]), a5, a6, a7, a8, a9, a10]) h') Q := fun sc hsc a5 a6 a7 a8 a9 a10 p10 => wp_ok (hn _ _ ⟨rfl, acc ++ [sc], by rw [hacc, take_one hsl, hsc], a5, a6, a7, a8, a9, a10, p10, by simp⟩)
      have esc : sureSc (rowR n r run k) = ((one? ((rowR n r run k).map (·.1))).map (fun a => 2 * a), (one? ((rowR n r run k).map (·.2))).map (fun b => 2 * b + 1)) := rfl
      have t1 : one? ((rowR n r run k).map (·.1)) = none → s.1 = none := fun z => by
        cases hf : s.1 with
        | none => rfl
        | some a =>
          obtain ⟨b, _, hb⟩ := told_front ok.d0 ok.s0 hA hs hf
          rw [hb] at z
          cases z
      have t2 : one? ((rowR n r run k).map (·.2)) = none → s.2 = none := fun z => by
        cases hf : s.2 with
        | none => rfl
        | some a =>
          obtain ⟨b, _, hb⟩ := told_back ok.d0 ok.s0 hA hs hf
          rw [hb] at z
          cases z
      obtain ⟨sa, sb⟩ := s
      unfold one? at esc t1 t2
      generalize setN ((rowR n r run k).map (·.1)) = A at *
      generalize setN ((rowR n r run k).map (·.2)) = B at *
      have two : ∀ m : Nat, ¬ ((m : Int) + 1 + 1 = 1) := fun m => by omega
      rcases A with _ | ⟨a, _ | ⟨a', A⟩⟩ <;> rcases B with _ | ⟨b, _ | ⟨b', B⟩⟩ <;> simp at t1 t2 <;> (try subst t1) <;> (try subst t2) <;> simp [hacl, two, smallI, scT] <;> exact fin (_, _) esc.symm _ _ _ _ _ _ p10)
  have hl2 : (zipT (rowsT (rowsR n r run)) (run.map scT)).length = run.length := by
    unfold zipT rowsT
    rw [List.length_map, List.length_zip, List.length_map, List.length_map, rowsR_len, Nat.min_self]
  rw [hl2, ← sureL_len n r run, List.take_length] at hacc
  subst hacc
  simp at hG
  subst hG
  simp [hA]
end
end Pl
set_option Elab.async false
set_option linter.all false
set_option maxRecDepth 100000
set_option maxHeartbeats 2000000
namespace Pl
open PySem Pf Sm
/-! ### stacks, plainly -/
def StkOk (lack : List Int) (sz : Int) : Int → List Pair → Prop
  | a, [] => ∀ x ∈ lack, x < a
  | a, q :: t => a ≤ q.1 ∧ q.1 ∈ lack ∧ q.2 ∈ lack ∧ q.1 ≤ q.2 ∧ q.2 < q.1 + sz ∧ (∀ x ∈ lack, x < q.1 → x < a) ∧ (∀ x ∈ lack, q.2 < x → q.1 + sz ≤ x) ∧ StkOk lack sz (q.1 + sz) t
def pushS (sz : Int) (s : Int) : List Pair → List Pair
  | [] => [(s, s)]
  | [q] => if s < q.1 + sz then [(q.1, s)] else [q, (s, s)]
  | q :: q' :: t => q :: pushS sz s (q' :: t)
theorem push_last {sz s : Int} {q : Pair} : ∀ P : List Pair, pushS sz s (P ++ [q]) = if s < q.1 + sz then P ++ [(q.1, s)] else P ++ [q] ++ [(s, s)]
  | [] => by
    show (if _ then _ else _) = _
    split <;> rfl
  | [p] => by
    show p :: (if _ then _ else _) = _
    split <;> simp
  | p :: p' :: P => by
    have := push_last (sz := sz) (s := s) (q := q) (p' :: P)
    show p :: pushS sz s (p' :: P ++ [q]) = _
    rw [this]
    split <;> simp
theorem stk_ext {P : List Int} {sz s : Int} (h1 : 1 ≤ sz) (hP : ∀ x ∈ P, x < s) : ∀ {acc : List Pair} {a : Int}, a ≤ s → StkOk P sz a acc → StkOk (P ++ [s]) sz a (pushS sz s acc)
  | [], a, ha, h => by
    refine ⟨ha, by simp, by simp, by simp, by simp only; omega, fun x hx hl => ?_, fun x hx hl => ?_, fun x hx => ?_⟩
    · simp only at hl
      rcases List.mem_append.mp hx with z | z
      · exact h x z
      · simp at z; omega
    · simp only at hl
      rcases List.mem_append.mp hx with z | z
      · have := hP x z; omega
      · simp at z; omega
    · simp only
      rcases List.mem_append.mp hx with z | z
      · have := hP x z; omega
      · simp at z; omega
  | [q], a, ha, ⟨g1, g2, g3, g4, g5, g6, g7, g8⟩ => by
    have g8 : ∀ x ∈ P, x < q.1 + sz := g8
    have hq := hP _ g2
    have hq2 := hP _ g3
    unfold pushS
    split
    · rename_i hs
      refine ⟨g1, List.mem_append_left _ g2, by simp, by simp only; omega, hs, fun x hx hl => ?_, fun x hx hl => ?_, fun x hx => ?_⟩
      · rcases List.mem_append.mp hx with z | z
        · exact g6 x z hl
        · simp at z; simp only at hl; omega
      · simp only at hl
        rcases List.mem_append.mp hx with z | z
        · have := hP x z; omega
        · simp at z; omega
      · rcases List.mem_append.mp hx with z | z
        · exact g8 x z
        · simp at z; simp only; omega
    · rename_i hs
      refine ⟨g1, List.mem_append_left _ g2, List.mem_append_left _ g3, g4, g5, fun x hx hl => ?_, fun x hx hl => ?_, ?_⟩
      · rcases List.mem_append.mp hx with z | z
        · exact g6 x z hl
        · simp at z; omega
      · rcases List.mem_append.mp hx with z | z
        · exact g7 x z hl
        · simp at z; omega
      · exact stk_ext h1 hP (acc := []) (a := q.1 + sz) (by omega) g8
  | q :: q' :: t, a, ha, ⟨g1, g2, g3, g4, g5, g6, g7, g8⟩ => by
    have hq := hP _ g2
    have g8' := g8
    obtain ⟨k1, k2, _⟩ := g8'
    have hk := hP _ k2
    refine ⟨g1, List.mem_append_left _ g2, List.mem_append_left _ g3, g4, g5, fun x hx hl => ?_, fun x hx hl => ?_, ?_⟩
    · rcases List.mem_append.mp hx with z | z
      · exact g6 x z hl
      · simp at z; omega
    · rcases List.mem_append.mp hx with z | z
      · exact g7 x z hl
      · simp at z; omega
    · exact stk_ext h1 hP (acc := q' :: t) (a := q.1 + sz) (by omega) g8
def stkL (sz : Int) (lack : List Int) : List Pair := lack.foldl (fun acc s => pushS sz s acc) []
theorem stkL_ok {sz : Int} (h1 : 1 ≤ sz) : ∀ {lack : List Int}, lack.Pairwise (· < ·) → (∀ x ∈ lack, 0 ≤ x) → ∀ k, StkOk (lack.take k) sz 0 (stkL sz (lack.take k)) := by
  intro lack hp h0 k
  induction k with
  | zero => intro x hx; simp at hx
  | succ k ih =>
    cases hk : lack[k]? with
    | none =>
      have : lack.take (k + 1) = lack.take k := by
        have := List.getElem?_eq_none_iff.mp hk
        rw [List.take_of_length_le (by omega), List.take_of_length_le (by omega)]
      rw [this]
      exact ih
    | some s =>
      have e := take_one hk
      rw [e]
      unfold stkL
      rw [List.foldl_append]
      refine stk_ext h1 (fun x hx => ?_) (h0 s (List.mem_of_getElem? hk)) ih
      have hp2 : (lack.take k ++ [s]).Pairwise (· < ·) := by
        rw [← e]
        exact List.Pairwise.sublist (List.take_sublist _ _) hp
      exact (List.pairwise_append.mp hp2).2.2 x hx s (by simp)
theorem stk_all {sz : Int} {lack : List Int} (h1 : 1 ≤ sz) (hp : lack.Pairwise (· < ·)) (h0 : ∀ x ∈ lack, 0 ≤ x) : StkOk lack sz 0 (stkL sz lack) := by
  have := stkL_ok h1 hp h0 lack.length
  rwa [List.take_length] at this
theorem push_len (sz s : Int) : ∀ acc : List Pair, (pushS sz s acc).length ≤ acc.length + 1
  | [] => by simp [pushS]
  | [q] => by
    unfold pushS
    split <;> simp
  | q :: q' :: t => by
    have := push_len sz s (q' :: t)
    show (q :: pushS sz s (q' :: t)).length ≤ _
    simp only [List.length_cons] at *
    omega
theorem stkL_len (sz : Int) (lack : List Int) : (stkL sz lack).length ≤ lack.length := by
  have key : ∀ (l : List Int) (acc : List Pair), (l.foldl (fun acc s => pushS sz s acc) acc).length ≤ acc.length + l.length := by
    intro l
    induction l with
    | nil => intro acc; simp
    | cons s l ih =>
      intro acc
      rw [List.foldl_cons]
      have h1 := ih (pushS sz s acc)
      have h2 := push_len sz s acc
      simp only [List.length_cons]
      omega
  have := key lack []
  simpa [stkL] using this
/-- the fewest, by a table -/
structure Tab (lack : List Int) (n sz : Int) (F : Nat → Int) : Prop where
  top : ∀ j : Nat, n ≤ (j : Int) → F j = 0
  yes : ∀ j : Nat, (j : Int) < n → (j : Int) ∈ lack → F j = 1 + F (j + sz.toNat)
  no : ∀ j : Nat, (j : Int) < n → (j : Int) ∉ lack → F j = F (j + 1)
theorem Tab.skip {lack : List Int} {n sz : Int} {F : Nat → Int} (h : Tab lack n sz F) : ∀ {d a : Nat}, (∀ x ∈ lack, x < ((a + d : Nat) : Int) → x < (a : Int)) → F a = F (a + d)
  | 0, a, _ => rfl
  | d + 1, a, hx => by
    have h1 : F a = F (a + 1) := by
      by_cases ha : (a : Int) < n
      · refine h.no a ha fun hm => ?_
        have := hx _ hm (by omega)
        omega
      · rw [h.top a (by omega), h.top (a + 1) (by omega)]
    rw [h1, Tab.skip h (d := d) (a := a + 1) fun x hm hl => by
      have := hx x hm (by omega)
      omega]
    congr 1
    omega
theorem Tab.len {lack : List Int} {n sz : Int} {F : Nat → Int} (h : Tab lack n sz F) (hs : 0 ≤ sz) (hn : ∀ x ∈ lack, 0 ≤ x ∧ x < n) : ∀ {t : List Pair} {a : Nat}, StkOk lack sz (a : Int) t → F a = (t.length : Int)
  | [], a, hk => by
    by_cases ha : (a : Int) < n
    · have := h.skip (d := (n - a).toNat) (a := a) fun x hx _ => hk x hx
      rw [this, h.top _ (by omega)]
      rfl
    · rw [h.top a (by omega)]
      rfl
  | q :: t, a, ⟨g1, g2, g3, g4, g5, g6, g7, g8⟩ => by
    obtain ⟨k1, k2⟩ := hn _ g2
    obtain ⟨l, hl⟩ : ∃ l : Nat, (l : Int) = q.1 := ⟨q.1.toNat, by omega⟩
    have e1 := h.skip (d := l - a) (a := a) fun x hx hlt => g6 x hx (by omega)
    have e2 : a + (l - a) = l := by omega
    rw [e2] at e1
    rw [e1, h.yes l (by omega) (by rw [hl]; exact g2)]
    have e3 : ((l + sz.toNat : Nat) : Int) = q.1 + sz := by omega
    rw [Tab.len h hs hn (t := t) (a := l + sz.toNat) (by rw [e3]; exact g8)]
    simp only [List.length_cons]
    omega
/-- filters of lists that rise -/
theorem filter_join {l : List Int} (hp : l.Pairwise (· < ·)) {p q r : Int → Bool} (h1 : ∀ x ∈ l, ∀ y ∈ l, p x = true → q y = true → x < y) (h2 : ∀ x ∈ l, r x = (p x || q x)) : l.filter p ++ l.filter q = l.filter r := by
  induction l with
  | nil => rfl
  | cons a l ih =>
    rw [List.pairwise_cons] at hp
    have ihh := ih hp.2 (fun x hx y hy => h1 x (List.mem_cons_of_mem _ hx) y (List.mem_cons_of_mem _ hy)) fun x hx => h2 x (List.mem_cons_of_mem _ hx)
    have hr := h2 a (List.mem_cons_self ..)
    cases hpa : p a with
    | true =>
      have hqa : q a = false := by
        cases hq : q a with
        | false => rfl
        | true => have := h1 a (List.mem_cons_self ..) a (List.mem_cons_self ..) hpa hq; omega
      rw [List.filter_cons_of_pos hpa, List.filter_cons_of_neg (by simp [hqa]), List.filter_cons_of_pos (by rw [hr, hpa]; rfl), List.cons_append, ihh]
    | false =>
      rw [List.filter_cons_of_neg (by simp [hpa])]
      cases hqa : q a with
      | true =>
        have : l.filter p = [] := List.filter_eq_nil_iff.mpr fun x hx hpx => by
          have h3 := h1 x (List.mem_cons_of_mem _ hx) a (List.mem_cons_self ..) hpx hqa
          have h4 := hp.1 x hx
          omega
        rw [List.filter_cons_of_pos hqa, List.filter_cons_of_pos (by rw [hr, hpa, hqa]; rfl), this, ← ihh, this]
        rfl
      | false =>
        rw [List.filter_cons_of_neg (by simp [hqa]), List.filter_cons_of_neg (by rw [hr, hpa, hqa]; simp), ihh]
/-! which sheets lack a page -/
def lackL (S : Nat → Bool) (n : Int) : List Int := ((List.range n.toNat).filter fun k => !(S (2 * k) && S (2 * k + 1))).map fun k => ((k : Nat) : Int)
theorem mem_lackL {S : Nat → Bool} {n : Int} {x : Int} : x ∈ lackL S n ↔ ∃ k : Nat, x = (k : Int) ∧ (k : Int) < n ∧ ¬ (S (2 * k) = true ∧ S (2 * k + 1) = true) := by
  unfold lackL
  rw [List.mem_map]
  constructor
  · rintro ⟨k, hk, rfl⟩
    obtain ⟨h1, h2⟩ := List.mem_filter.mp hk
    have := List.mem_range.mp h1
    refine ⟨k, rfl, by omega, fun z => ?_⟩
    rw [z.1, z.2] at h2
    cases h2
  · rintro ⟨k, rfl, h1, h2⟩
    refine ⟨k, List.mem_filter.mpr ⟨List.mem_range.mpr (by omega), ?_⟩, rfl⟩
    cases h3 : S (2 * k) <;> cases h4 : S (2 * k + 1) <;> simp_all
theorem lackL_up (S : Nat → Bool) (n : Int) : (lackL S n).Pairwise (· < ·) := by
  unfold lackL
  rw [List.pairwise_map]
  refine List.Pairwise.imp (fun {a b} h => ?_) (List.Pairwise.filter _ List.pairwise_lt_range)
  omega
theorem lackL_len {S : Nat → Bool} {n : Int} : (lackL S n).length ≤ n.toNat := by
  unfold lackL
  rw [List.length_map]
  exact Nat.le_trans (List.length_filter_le _ _) (by rw [List.length_range]; omega)
theorem gap_cover (S : Nat → Bool) : ∀ {N p : Nat}, p < N → S p = false → ∃ q ∈ gapsTo S N, q.1 ≤ (p : Int) ∧ (p : Int) ≤ q.2
  | 0, p, h, _ => by omega
  | N + 1, p, h, hS => by
    by_cases hN : S N = true
    · have e : gapsTo S (N + 1) = gapsTo S N := by
        conv => lhs; unfold gapsTo
        rw [if_pos hN]
      rw [e]
      refine gap_cover S (by
        by_cases z : p = N
        · rw [z] at hS; rw [hS] at hN; cases hN
        · omega) hS
    · have hle : ∀ q ∈ gapsTo S N, q.1 ≤ q.2 := fun q hq => (((gaps_ok S N).2 q).mp hq).le
      cases hg : (gapsTo S N).getLast? with
      | none =>
        have e : gapsTo S (N + 1) = gapsTo S N ++ [((N : Int), (N : Int))] := by
          conv => lhs; unfold gapsTo
          rw [if_neg hN, hg]
        rw [e]
        by_cases z : p = N
        · exact ⟨((N : Int), (N : Int)), by simp, by simp only; omega, by simp only; omega⟩
        · obtain ⟨q, hq, h1, h2⟩ := gap_cover S (N := N) (p := p) (by omega) hS
          exact ⟨q, List.mem_append_left _ hq, h1, h2⟩
      | some q0 =>
        have hsn := last_snoc hg
        by_cases hq0 : q0.2 = (N : Int) - 1
        · have e : gapsTo S (N + 1) = (gapsTo S N).dropLast ++ [(q0.1, (N : Int))] := by
            conv => lhs; unfold gapsTo
            rw [if_neg hN, hg]
            simp only
            rw [if_pos hq0]
          rw [e]
          by_cases z : p = N
          · have := hle q0 (by rw [hsn]; simp)
            exact ⟨(q0.1, (N : Int)), by simp, by simp only; omega, by simp only; omega⟩
          · obtain ⟨q, hq, h1, h2⟩ := gap_cover S (N := N) (p := p) (by omega) hS
            rw [hsn] at hq
            rcases List.mem_append.mp hq with y | y
            · exact ⟨q, List.mem_append_left _ y, h1, h2⟩
            · simp at y
              subst y
              exact ⟨(q.1, (N : Int)), by simp, h1, by simp only; omega⟩
        · have e : gapsTo S (N + 1) = gapsTo S N ++ [((N : Int), (N : Int))] := by
            conv => lhs; unfold gapsTo
            rw [if_neg hN, hg]
            simp only
            rw [if_neg hq0]
          rw [e]
          by_cases z : p = N
          · exact ⟨((N : Int), (N : Int)), by simp, by simp only; omega, by simp only; omega⟩
          · obtain ⟨q, hq, h1, h2⟩ := gap_cover S (N := N) (p := p) (by omega) hS
            exact ⟨q, List.mem_append_left _ hq, h1, h2⟩
theorem lack_gaps {S : Nat → Bool} {n : Int} (hn : 0 ≤ n) {x : Int} : x ∈ lackL S n ↔ ∃ q ∈ gapsTo S (2 * n).toNat, q.1 / 2 ≤ x ∧ x ≤ q.2 / 2 := by
  rw [mem_lackL]
  constructor
  · rintro ⟨k, rfl, h1, h2⟩
    cases h3 : S (2 * k) with
    | false =>
      obtain ⟨q, hq, h4, h5⟩ := gap_cover S (N := (2 * n).toNat) (p := 2 * k) (by omega) h3
      exact ⟨q, hq, by omega, by omega⟩
    | true =>
      cases h4 : S (2 * k + 1) with
      | true => exact absurd ⟨h3, h4⟩ h2
      | false =>
        obtain ⟨q, hq, h4, h5⟩ := gap_cover S (N := (2 * n).toNat) (p := 2 * k + 1) (by omega) h4
        exact ⟨q, hq, by omega, by omega⟩
  · rintro ⟨q, hq, h1, h2⟩
    obtain ⟨g1, g2, g3, g4, _, _⟩ := ((gaps_ok S _).2 q).mp hq
    have hN : (((2 * n).toNat : Nat) : Int) = 2 * n := Int.toNat_of_nonneg (by omega)
    rw [hN] at g3
    refine ⟨x.toNat, by omega, by omega, fun z => ?_⟩
    by_cases c : q.1 ≤ 2 * x
    · have := g4 (2 * x.toNat) (by omega) (by omega)
      rw [z.1] at this
      cases this
    · have := g4 (2 * x.toNat + 1) (by omega) (by omega)
      rw [z.2] at this
      cases this
end Pl
set_option Elab.async false
set_option linter.all false
set_option maxRecDepth 100000
set_option maxHeartbeats 2000000
namespace Pl
open PySem Pf Sm
section
variable (x : Bool)
theorem none_in_two (a b : Option Pair) : inT .none (.list [shT a, shT b]) = some (!(a.isSome && b.isSome)) := by
  cases a <;> cases b <;> simp [inT, flatT, shT, prT, PyData.depth, PyData.eqv]
theorem stacks_eq {n : Int} {r : Pair} {rs : List (List Scan)} {sz : Int} {h : Hs} (k : OkRuns n r rs) (hR : ∀ run ∈ rs, allR n r run ≠ []) (h1 : 1 ≤ sz) (h2 : sz ≤ n) : S_stacks x [.dat (.int n), .dat (prT r), .dat (runsT rs), .dat (.int sz)] h = .ok (.own ((stkL sz (lackL (isSh (shownE n r rs)) n)).map prT)) h := by
  have n1 := k.n1
  have n2 := k.n2
  simp [S_stacks, F_stacks, shown_by_eq x k hR, is_number_eq, h1, h2]
  generalize shownE n r rs = E
  simp [rngOk_of (i := 0) (j := n) (by omega) (by omega) (by omega) (by omega)]
  have hfl : (foundL n E).length = (2 * n).toNat := found_len n E
  generalize hF : compL _ _ _ _ _ _ = F
  have e1 := compL_of hF (fun t => match t with | .int i => !(isSh E (2 * i.toNat) && isSh E (2 * i.toNat + 1)) | _ => false) id (by
    intro t ht
    obtain ⟨i, hi⟩ := List.getElem?_of_mem ht
    obtain ⟨hi1, rfl⟩ := rng_get hi
    have ez : (0 : Int) + (i : Int) = (i : Int) := by omega
    rw [ez]
    have es : slT (.list (foundL n E)) (some (2 * (i : Int))) (some (2 * (i : Int) + 2)) = some (.list [shT (firstAt E ((2 * i : Nat) : Int)), shT (firstAt E ((2 * i + 1 : Nat) : Int))]) := by
      have hc := cut_mid (xs := foundL n E) (i := 2 * (i : Int)) (j := 2 * (i : Int) + 2) (by omega) (by omega)
      have hd : ((foundL n E).drop (2 * (i : Int)).toNat).take ((2 * (i : Int) + 2).toNat - (2 * (i : Int)).toNat) = [shT (firstAt E ((2 * i : Nat) : Int)), shT (firstAt E ((2 * i + 1 : Nat) : Int))] := by
        have e1 : (2 * (i : Int)).toNat = 2 * i := by omega
        have e2 : (2 * (i : Int) + 2).toNat - 2 * i = 2 := by omega
        rw [e1, e2]
        have g1 : (foundL n E)[2 * i]? = some (shT (firstAt E ((2 * i : Nat) : Int))) := by
          unfold foundL
          rw [List.getElem?_map, List.getElem?_range (by omega)]
          rfl
        have g2 : (foundL n E)[2 * i + 1]? = some (shT (firstAt E ((2 * i + 1 : Nat) : Int))) := by
          unfold foundL
          rw [List.getElem?_map, List.getElem?_range (by omega)]
          rfl
        rw [drop_cons g1, drop_cons g2]
        rfl
      rw [hd] at hc
      unfold slT
      simp [hc]
      try exact hc
    refine ⟨_, rfl, ?_, fun _ => ?_⟩
    · simp [smallI, es, none_in_two]
      unfold isSh
      have c1 : ((2 * i : Nat) : Int) = 2 * (i : Int) := by omega
      have c2 : ((2 * i + 1 : Nat) : Int) = 2 * (i : Int) + 1 := by omega
      rw [c1, c2]
      cases firstAt E (2 * (i : Int)) <;> cases firstAt E (2 * (i : Int) + 1) <;> rfl
    · simp)
  have e2 : ((rngT 0 n.toNat).filter fun t => match t with | .int i => !(isSh E (2 * i.toNat) && isSh E (2 * i.toNat + 1)) | _ => false).map id = (lackL (isSh E) n).map PyData.int := by
    unfold rngT lackL
    rw [List.filter_map, List.map_id, List.map_map]
    have : ((fun t : T => match t with | .int i => !(isSh E (2 * i.toNat) && isSh E (2 * i.toNat + 1)) | _ => false) ∘ fun k : Nat => PyData.int (0 + (k : Int))) = fun k => !(isSh E (2 * k) && isSh E (2 * k + 1)) := by
      funext k
      simp
    rw [this]
    refine List.map_congr_left fun k _ => ?_
    simp
  rw [e2] at e1
  subst e1
  have hll := lackL_len (S := isSh E) (n := n)
  generalize lackL (isSh E) n = lack at *
  simp [kItD]
  generalize hF2 : forL _ _ _ _ _ = F2
  obtain ⟨ρ', h', rfl, rfl, acc, hacc, a4, a7, rfl⟩ := forL_of hF2 (fun i ρ h' => h' = h ∧ ∃ acc, acc = stkL sz (lack.take i) ∧ ∃ a4 a7, ρ = [vi n, vd (prT r), vd (runsT rs), vi sz, a4, vd (.list (lack.map PyData.int)), .own (acc.map prT), a7]) ⟨rfl, [], rfl, _, _, rfl⟩ (by
    rintro i t ρ h' e ⟨rfl, acc, hacc, a4, a7, rfl⟩ Q hn
    clear hF2
    obtain ⟨s, hs, rfl⟩ := map_get e
    have hal : acc.length < 100000 := by
      have := stkL_len sz (lack.take i)
      rw [List.length_take] at this
      rw [hacc]
      omega
    have hnx : stkL sz (lack.take (i + 1)) = pushS sz s acc := by
      rw [take_one hs, hacc]
      unfold stkL
      rw [List.foldl_append]
      rfl
    simp [Turn1]
    cases hg : acc.getLast? with
    | none =>
      have hnil : acc = [] := by simpa using hg
      subst hnil
      simp
      exact wp_ok (hn _ _ ⟨rfl, [(s, s)], by rw [hnx]; rfl, a4, vi s, by simp [prT]⟩)
    | some q =>
      have hsn := last_snoc hg
      generalize acc.dropLast = init at hsn
      subst hsn
      have hem : (init ++ [q]).isEmpty = false := by simp
      rw [push_last] at hnx
      rw [List.map_append]
      simp only [List.map_cons, List.map_nil]
      simp only [hem, Bool.not_false, atI_last]
      simp [prT_0, prT_1]
      by_cases hc : s < q.1 + sz
      · simp [hc, atI_last, prT_0]
        rw [kSetIb_ap _ ixN_last]
        refine wp_ok (hn _ _ ⟨rfl, init ++ [(q.1, s)], ?_, a4, vi s, ?_⟩)
        · rw [hnx, if_pos hc]
        · simp [prT]
      · have hl2 : init.length + 1 < 100000 := by simpa using hal
        simp [hc, hl2]
        refine wp_ok (hn _ _ ⟨rfl, init ++ [q] ++ [(s, s)], ?_, a4, vi s, ?_⟩)
        · rw [hnx, if_neg hc]
        · simp [prT])
  rw [List.length_map, List.take_length] at hacc
  subst hacc
  simp
/-! the law's own table -/
theorem inT_ints (a : Int) (l : List Int) : inT (.int a) (.list (l.map PyData.int)) = some (decide (a ∈ l)) := by
  have e : (l.map PyData.int).any (fun y => PyData.eqv y (.int a)) = decide (a ∈ l) := by
    induction l with
    | nil => simp
    | cons q l ih =>
      rw [List.map_cons, List.any_cons, ih]
      by_cases h : q = a
      · simp [h, PyData.eqv]
      · have h' : ¬ (a = q) := fun e => h e.symm
        simp [h, h', PyData.eqv]
  have hdp : (PyData.int a).depth ≤ 60 := by simp [PyData.depth]
  show (if (PyData.int a).depth ≤ 60 then some ((l.map PyData.int).any fun z => PyData.eqv z (.int a)) else none) = _
  rw [if_pos hdp, e]
theorem fewest_eq {n sz : Int} {lack : List Int} {h : Hs} (n1 : 1 ≤ n) (n2 : n ≤ 30) (h1 : 1 ≤ sz) (h2 : sz ≤ n) : ∃ F, Tab lack n sz F ∧ S__law_fewest x [.dat (.list (lack.map PyData.int)), .dat (.int n), .dat (.int sz)] h = .ok (.val (.dat (.int (F 0)))) h := by
  generalize hG : S__law_fewest x _ _ = G
  have hs : ((decide (0 ≤ n + sz + 1) && decide (n + sz + 1 ≤ 1000) && decide ([PyData.int 0].length ≤ 1000)) = true) := by simp; omega
  simp [S__law_fewest, F__law_fewest, show 0 ≤ n + sz + 1 by omega, show n + sz + 1 ≤ 1000 by omega, rngOk_of (i := n - 1) (j := -1) (by omega) (by omega) (by omega) (by omega)] at hG
  generalize hF : forL _ _ _ _ _ = F at hG
  have gd : ∀ (bs : List Int) (j : Int), 0 ≤ j → j < bs.length → L2.atI (bs.map PyData.int) j = some (.int (bs.getD j.toNat 0)) := fun bs j j0 j1 => by
    rw [atI_pos j0, List.getElem?_map, List.getElem?_eq_getElem (by omega)]
    simp [List.getD_eq_getElem?_getD, show j.toNat < bs.length by omega]
  obtain ⟨ρ', h', rfl, rfl, bs, a4, hlen, htop, hrel, rfl⟩ := forL_of hF (fun i ρ h' => h' = h ∧ ∃ (bs : List Int) (a4 : Slot), bs.length = (n + sz + 1).toNat ∧ (∀ j : Nat, n ≤ (j : Int) → bs.getD j 0 = 0) ∧ (∀ j : Nat, n - (i : Int) ≤ (j : Int) → (j : Int) < n → bs.getD j 0 = if (j : Int) ∈ lack then 1 + bs.getD (j + sz.toNat) 0 else bs.getD (j + 1) 0) ∧ ρ = [vd (.list (lack.map PyData.int)), vi n, vi sz, .own (bs.map PyData.int), a4]) ⟨rfl, List.replicate (n + sz + 1).toNat 0, .un, by simp, fun j _ => (by simp [List.getD_eq_getElem?_getD, List.getElem?_replicate]; split <;> rfl), fun j h1 h2 => (by omega), by simp⟩ (by
    rintro i t ρ h' e ⟨rfl, bs, a4, hlen, htop, hrel, rfl⟩ Q hn
    clear hF hG
    have hi : i < n.toNat := by
      have := (List.getElem?_eq_some_iff.mp e).1
      unfold rngD at this
      simp at this
      omega
    rw [rngD_get (by omega)] at e
    cases e
    have es : n - 1 + (i : Int) * (-1) = n - 1 - (i : Int) := by omega
    rw [es]
    obtain ⟨s, hs⟩ : ∃ s : Nat, (s : Int) = n - 1 - (i : Int) := ⟨(n - 1 - (i : Int)).toNat, by omega⟩
    rw [← hs]
    have g1 := gd bs ((s : Int) + 1) (by omega) (by omega)
    have g2 := gd bs ((s : Int) + sz) (by omega) (by omega)
    have ez1 : ((s : Int) + 1).toNat = s + 1 := by omega
    have ez2 : ((s : Int) + sz).toNat = s + sz.toNat := by omega
    rw [ez1] at g1
    rw [ez2] at g2
    have hix : L2.ixN (bs.map PyData.int).length (s : Int) = some s := by
      unfold L2.ixN
      rw [if_pos (by omega), if_pos (by rw [List.length_map]; omega)]
      simp
    have fin : ∀ v, v = (if (s : Int) ∈ lack then 1 + bs.getD (s + sz.toNat) 0 else bs.getD (s + 1) 0) → WP (.ok (.next [vd (.list (lack.map PyData.int)), vi n, vi sz, .own ((bs.map PyData.int).set s (.int v)), vi (s : Int)]) h') Q := fun v hv => by
      refine wp_ok (hn _ _ ⟨rfl, bs.set s v, _, by rw [List.length_set]; exact hlen, fun j hj => ?_, fun j h1 h2 => ?_, by rw [List.map_set]⟩)
      · rw [List.getD_eq_getElem?_getD, List.getElem?_set_ne (by omega), ← List.getD_eq_getElem?_getD]
        exact htop j hj
      · have o1 : ∀ m, m ≠ s → (bs.set s v).getD m 0 = bs.getD m 0 := fun m hm => by
          rw [List.getD_eq_getElem?_getD, List.getElem?_set_ne (Ne.symm hm), ← List.getD_eq_getElem?_getD]
        rw [o1 (j + 1) (by omega), o1 (j + sz.toNat) (by omega)]
        by_cases hj : j = s
        · subst hj
          rw [List.getD_eq_getElem?_getD, List.getElem?_set_self (by omega)]
          exact hv
        · rw [o1 j hj]
          exact hrel j (by omega) h2
    by_cases hm : (s : Int) ∈ lack
    · have hni : ninT (.int (s : Int)) (.list (lack.map PyData.int)) = some false := by
        unfold ninT
        rw [inT_ints]
        simp [hm]
      simp [Turn1, hni, g2]
      rw [kSetIb_ap _ hix]
      exact fin _ (by rw [if_pos hm, List.getD_eq_getElem?_getD])
    · have hni : ninT (.int (s : Int)) (.list (lack.map PyData.int)) = some true := by
        unfold ninT
        rw [inT_ints]
        simp [hm]
      simp [Turn1, hni, g1]
      rw [kSetIb_ap _ hix]
      exact fin _ (by rw [if_neg hm, List.getD_eq_getElem?_getD]))
  have hrl : (rngD (n - 1) n.toNat).length = n.toNat := by
    unfold rngD
    simp
  rw [hrl] at hrel
  have g0 := gd bs 0 (by omega) (by omega)
  simp [g0] at hG
  subst hG
  refine ⟨fun j => bs.getD j 0, ⟨htop, fun j h3 h4 => ?_, fun j h3 h4 => ?_⟩, by simp⟩
  · rw [hrel j (by omega) h3, if_pos h4]
  · rw [hrel j (by omega) h3, if_neg h4]
end
end Pl
set_option Elab.async false
set_option linter.all false
set_option maxRecDepth 100000
set_option maxHeartbeats 2000000
namespace Pl
open PySem Pf Sm
/-! ### the least reading: plain -/
def UpP (l : List St4) : Prop := l.Pairwise fun a b => ltP a.pr b.pr = true
theorem ltP_iff {p q : Pair} : ltP p q = true ↔ p.1 < q.1 ∨ (p.1 = q.1 ∧ p.2 < q.2) := by
  unfold ltP
  exact decide_eq_true_iff
theorem pw_flatMap {α β : Type} {R : β → β → Prop} {f : α → List β} : ∀ {l : List α}, (∀ a ∈ l, (f a).Pairwise R) → (l.Pairwise fun a b => ∀ x ∈ f a, ∀ y ∈ f b, R x y) → (l.flatMap f).Pairwise R
  | [], _, _ => List.Pairwise.nil
  | a :: l, h1, h2 => by
    rw [List.flatMap_cons, List.pairwise_append]
    rw [List.pairwise_cons] at h2
    refine ⟨h1 a (List.mem_cons_self ..), pw_flatMap (fun b hb => h1 b (List.mem_cons_of_mem _ hb)) h2.2, fun x hx y hy => ?_⟩
    obtain ⟨b, hb, hy⟩ := List.mem_flatMap.mp hy
    exact h2.1 b hb x hx y hy
theorem up_moreL {n : Int} {sc : Scan} {first d s : Int} : UpP (moreL n sc first d s) := by
  unfold UpP moreL
  rw [List.pairwise_map]
  refine List.Pairwise.filter _ ?_
  refine List.Pairwise.imp (fun {a b} hab => ?_) List.pairwise_lt_range
  rw [ltP_iff]
  refine .inr ⟨rfl, ?_⟩
  show first + (a : Int) < first + (b : Int)
  omega
theorem more_f {n : Int} {sc : Scan} {first d s : Int} {o : St4} (h : o ∈ moreL n sc first d s) : o.f = first := by
  unfold moreL at h
  obtain ⟨m, _, rfl⟩ := List.mem_map.mp h
  rfl
theorem up_stepsL {n : Int} {sc : Scan} {sheet d s : Int} : UpP (stepsL n sc sheet d s) := by
  unfold UpP stepsL
  refine pw_flatMap (fun g _ => up_moreL) (List.Pairwise.imp (fun {a b} hab x hx y hy => ?_) List.pairwise_lt_range)
  have h1 := more_f hx
  have h2 := more_f hy
  rw [ltP_iff]
  simp only [St4.pr]
  left
  omega
theorem up_firstsL {n : Int} {r : Pair} {sc : Scan} (hd : 0 ≤ r.1) : UpP (firstsL n r sc) := by
  unfold UpP firstsL
  refine pw_flatMap (fun g _ => ?_) (List.Pairwise.imp (fun {a b} hab x hx y hy => ?_) List.pairwise_lt_range)
  · rw [List.pairwise_map]
    exact up_stepsL
  · obtain ⟨u, hu, rfl⟩ := List.mem_map.mp hx
    obtain ⟨v, hv, rfl⟩ := List.mem_map.mp hy
    have h1 := (mem_stepsL hd).mp hu
    have h2 := (mem_stepsL hd).mp hv
    rw [ltP_iff]
    simp only [St4.pr]
    left
    have := h1.sl; have := h1.s0; have := h1.low
    have := h2.low
    omega
/-- the first with something behind it -/
theorem head_flat {β : Type} {f : St4 → List β} : ∀ {l : List St4} {o : St4}, UpP l → o ∈ l → f o ≠ [] → (∀ o' ∈ l, f o' ≠ [] → ltP o'.pr o.pr = false) → (l.flatMap f).head? = (f o).head?
  | [], _, _, h, _, _ => by cases h
  | a :: l, o, hu, ho, hf, hm => by
    rw [List.flatMap_cons]
    unfold UpP at hu
    rw [List.pairwise_cons] at hu
    by_cases ha : f a = []
    · rw [ha, List.nil_append]
      refine head_flat hu.2 ?_ hf fun o' h' => hm o' (List.mem_cons_of_mem _ h')
      rcases List.mem_cons.mp ho with e | e
      · subst e; exact absurd ha hf
      · exact e
    · rcases List.mem_cons.mp ho with e | e
      · subst e
        cases h : f o with
        | nil => exact absurd h hf
        | cons b t => rfl
      · have h1 := hu.1 o e
        have h2 := hm a (List.mem_cons_self ..) ha
        rw [h1] at h2
        cases h2
/-- lists of pairs ascend -/
abbrev ltR : List Pair → List Pair → Bool := PySem.W.listLt
theorem ltd_pr (p q : Pair) : PySem.W.DatumOrd.lt p q = ltP p q := by
  show (if p.1 = q.1 then decide (p.2 < q.2) else decide (p.1 < q.1)) = decide _
  by_cases h : p.1 = q.1
  · rw [if_pos h]
    exact decide_eq_decide.mpr ⟨fun z => .inr ⟨h, z⟩, fun z => by omega⟩
  · rw [if_neg h]
    exact decide_eq_decide.mpr ⟨fun z => .inl z, fun z => by omega⟩
theorem ltR_cons (p q : Pair) (a b : List Pair) : ltR (p :: a) (q :: b) = if p = q then ltR a b else ltP p q := by
  show (if p = q then PySem.W.listLt a b else PySem.W.DatumOrd.lt p q) = _
  rw [ltd_pr]
theorem ltP_tri {p q : Pair} (h1 : ltP p q = false) (h2 : p ≠ q) : ltP q p = true := by
  rw [ltP_iff]
  have h1 : ¬ (p.1 < q.1 ∨ (p.1 = q.1 ∧ p.2 < q.2)) := fun z => by
    rw [ltP_iff.mpr z] at h1
    cases h1
  have h2 : ¬ (p.1 = q.1 ∧ p.2 = q.2) := fun z => h2 (Prod.ext z.1 z.2)
  omega
theorem ltP_asym {p q : Pair} (h : ltP p q = true) : ltP q p = false := by
  cases e : ltP q p with
  | false => rfl
  | true =>
    rw [ltP_iff] at h e
    omega
theorem min_flat {l : List St4} {f : St4 → List (List Pair)} {m : List Pair} (hu : UpP l) (hi : ∀ a ∈ l, ∀ b ∈ l, a.pr = b.pr → a = b) (hm : (l.flatMap fun o => (f o).map (o.pr :: ·)).head? = some m)
    (ih : ∀ o ∈ l, ∀ m', (f o).head? = some m' → ∀ rd ∈ f o, ltR rd m' = false) : ∀ rd ∈ l.flatMap fun o => (f o).map (o.pr :: ·), ltR rd m = false := by
  induction l with
  | nil => intro rd h; simp at h
  | cons a l ihl =>
    unfold UpP at hu
    rw [List.pairwise_cons] at hu
    rw [List.flatMap_cons] at hm
    by_cases ha : f a = []
    · rw [ha] at hm
      intro rd hrd
      rw [List.flatMap_cons, ha] at hrd
      exact ihl hu.2 (fun x hx y hy => hi x (List.mem_cons_of_mem _ hx) y (List.mem_cons_of_mem _ hy)) (by simpa using hm) (fun o ho => ih o (List.mem_cons_of_mem _ ho)) rd (by simpa using hrd)
    · obtain ⟨m', t, e⟩ : ∃ m' t, f a = m' :: t := by
        cases h : f a with
        | nil => exact absurd h ha
        | cons b t => exact ⟨b, t, rfl⟩
      rw [e] at hm
      simp at hm
      subst hm
      intro rd hrd
      rw [List.flatMap_cons] at hrd
      rcases List.mem_append.mp hrd with h | h
      · obtain ⟨u, hu', rfl⟩ := List.mem_map.mp h
        rw [ltR_cons, if_pos rfl]
        exact ih a (List.mem_cons_self ..) m' (by rw [e]; rfl) u hu'
      · obtain ⟨o, ho, h⟩ := List.mem_flatMap.mp h
        obtain ⟨u, hu', rfl⟩ := List.mem_map.mp h
        have h1 := hu.1 o ho
        rw [ltR_cons, if_neg fun z => by
          rw [z] at h1
          have := ltP_iff.mp h1
          omega]
        exact ltP_asym h1
theorem IsStep.inj {n : Int} {sc : Scan} {sheet d s : Int} (hd : 0 ≤ d) : ∀ a ∈ stepsL n sc sheet d s, ∀ b ∈ stepsL n sc sheet d s, a.pr = b.pr → a = b := fun a ha b hb e => IsStep.eq ((mem_stepsL hd).mp ha) ((mem_stepsL hd).mp hb) e
theorem IsFirst.inj {n : Int} {r : Pair} {sc : Scan} (hd : 0 ≤ r.1) : ∀ a ∈ firstsL n r sc, ∀ b ∈ firstsL n r sc, a.pr = b.pr → a = b := fun a ha b hb e => IsFirst.eq ((mem_firstsL hd).mp ha) ((mem_firstsL hd).mp hb) e
theorem min_paths {n : Int} : ∀ {run : List Scan} {sheet d s : Int} {m : List Pair}, 0 ≤ d → (pathsP n run sheet d s).head? = some m → ∀ rd ∈ pathsP n run sheet d s, ltR rd m = false
  | [], sheet, d, s, m, _, h, rd, hrd => by
    simp [pathsP] at h hrd
    subst h hrd
    rfl
  | sc :: rest, sheet, d, s, m, hd, h, rd, hrd => by
    unfold pathsP at h hrd
    exact min_flat up_stepsL (IsStep.inj hd) h (fun o ho m' hm' => min_paths ((mem_stepsL hd).mp ho).d0 hm') rd hrd
theorem min_allR {n : Int} {r : Pair} {run : List Scan} {m : List Pair} (hd : 0 ≤ r.1) (h : (allR n r run).head? = some m) : ∀ rd ∈ allR n r run, ltR rd m = false := by
  cases run with
  | nil =>
    intro rd hrd
    simp [allR] at h hrd
    subst h hrd
    rfl
  | cons sc rest =>
    unfold allR at *
    exact min_flat (up_firstsL hd) (IsFirst.inj hd) h (fun o ho m' hm' => min_paths ((mem_firstsL hd).mp ho).d0 hm')
/-! min of data -/
theorem minOf_head {α : Type} [DecidableEq α] [PySem.W.DatumOrd α] {a : α} : ∀ {l : List α}, (∀ b ∈ l, PySem.W.DatumOrd.lt b a = false) → PySem.W.minOf a l = a
  | [], _ => rfl
  | b :: l, h => by
    unfold PySem.W.minOf
    rw [List.foldl_cons, h b (List.mem_cons_self ..)]
    exact minOf_head fun c hc => h c (List.mem_cons_of_mem _ hc)
theorem minOf_pr : ∀ (l : List Pair) (a : Pair), PySem.W.minOf a l ∈ a :: l ∧ ∀ b ∈ a :: l, ltP b (PySem.W.minOf a l) = false
  | [], a => ⟨by simp [PySem.W.minOf], fun b hb => by
    simp at hb
    subst hb
    show ltP b b = false
    cases e : ltP b b with
    | false => rfl
    | true => rw [ltP_iff] at e; omega⟩
  | c :: l, a => by
    have e : PySem.W.minOf a (c :: l) = PySem.W.minOf (if ltP c a = true then c else a) l := by
      unfold PySem.W.minOf
      rw [List.foldl_cons, ltd_pr]
    rw [e]
    obtain ⟨h1, h2⟩ := minOf_pr l (if ltP c a = true then c else a)
    refine ⟨?_, fun b hb => ?_⟩
    · rcases List.mem_cons.mp h1 with z | z
      · rw [z]
        split <;> simp
      · exact List.mem_cons_of_mem _ (List.mem_cons_of_mem _ z)
    · generalize hm : PySem.W.minOf (if ltP c a = true then c else a) l = m at *
      have h3 := h2 _ (List.mem_cons_self ..)
      rcases List.mem_cons.mp hb with z | z
      · subst z
        split at h3
        · rename_i hc
          cases e2 : ltP b m with
          | false => rfl
          | true =>
            exfalso
            have : ltP c m = true := by
              rw [ltP_iff] at *
              omega
            rw [this] at h3
            cases h3
        · exact h3
      · rcases List.mem_cons.mp z with z | z
        · subst z
          split at h3
          · exact h3
          · rename_i hc
            cases e2 : ltP b m with
            | false => rfl
            | true =>
              exfalso
              have hba : ltP b a = false := by simpa using hc
              by_cases hab : a = b
              · subst hab; rw [e2] at h3; cases h3
              · have := ltP_tri hba fun z => hab z.symm
                have : ltP a m = true := by
                  rw [ltP_iff] at *
                  omega
                rw [this] at h3
                cases h3
        · exact h2 b (List.mem_cons_of_mem _ z)
theorem depth_pr (p : Pair) : (prT p).depth ≤ 2 := sameOk_depth (n := 2) (sameOk_pr 0 p)
theorem bestOk_of {α : Type} [DecidableEq α] [PySem.W.DatumOrd α] {l : List α} (hd : ∀ a ∈ l, (PySem.W.Datum.toD a).depth ≤ 60) : (alikes (l.map PySem.W.Datum.toD) && (noNone (l.map PySem.W.Datum.toD) && flat60 (l.map PySem.W.Datum.toD))) = true := by
  rw [Bool.and_eq_true, Bool.and_eq_true]
  refine ⟨?_, ?_, ?_⟩
  · unfold alikes
    rw [List.all_eq_true]
    intro a ha
    rw [List.all_eq_true]
    intro b hb
    obtain ⟨u, _, rfl⟩ := List.mem_map.mp ha
    obtain ⟨v, _, rfl⟩ := List.mem_map.mp hb
    exact PySem.W.DatumOrd.alike u v
  · unfold noNone
    rw [List.all_eq_true]
    intro a ha
    obtain ⟨u, _, rfl⟩ := List.mem_map.mp ha
    have := PySem.W.DatumOrd.notNone u
    cases h : (PySem.W.Datum.toD u : PyData) with
    | none => exact absurd h this
    | _ => rfl
  · unfold flat60
    rw [List.all_eq_true]
    intro a ha
    obtain ⟨u, hu, rfl⟩ := List.mem_map.mp ha
    exact decide_eq_true (hd u hu)
theorem minL_of {α : Type} [DecidableEq α] [PySem.W.DatumOrd α] {a : α} {l : List α} (hd : ∀ b ∈ a :: l, (PySem.W.Datum.toD b).depth ≤ 60) : minL [.list ((a :: l).map PySem.W.Datum.toD)] = some (PySem.W.Datum.toD (PySem.W.minOf a l)) := by
  have := bestOk_of hd
  rw [List.map_cons] at this ⊢
  unfold minL
  dsimp only
  rw [if_pos this, PySem.W.minD_map]
theorem maxL_one {t : T} (h1 : (alikes [t] && (noNone [t] && flat60 [t])) = true) : maxL [.list [t]] = some t := by
  unfold maxL
  dsimp only
  rw [if_pos h1]
  rfl
end Pl
set_option Elab.async false
set_option linter.all false
set_option maxRecDepth 100000
set_option maxHeartbeats 2000000
namespace Pl
open PySem Pf Sm
theorem st4_sl (o : St4) : slT (st4T o) none (some 2) = some (prT o.pr) := rfl
theorem sortD_st4 (l : List St4) : ∃ M : List St4, M.Perm l ∧ sortD (l.map st4T) = M.map st4T := by
  refine ⟨l.mergeSort (PySem.W.dataLe false st4T), List.mergeSort_perm _ _, ?_⟩
  unfold sortD
  exact (List.map_mergeSort (f := st4T) (r := PySem.W.dataLe false st4T) (s := PySem.W.dataLe false fun x => x) (l := l) (fun a _ b _ => rfl)).symm
theorem sortOk_st4 (l : List St4) : sortOk (l.map st4T) = true := by
  have e : l.map st4T = (l.map l4).map tupI := by
    rw [List.map_map]
    rfl
  rw [e]
  exact sortOk_ints fun k hk => by
    obtain ⟨p, _, rfl⟩ := List.mem_map.mp hk
    simp [l4]
theorem best1_st4 (o : St4) : (alikes [st4T o] && (noNone [st4T o] && flat60 [st4T o])) = true := by
  have := bestOk_of (α := PySem.W.Tup Int) (l := [⟨l4 o⟩]) (fun a ha => by
    simp at ha
    subst ha
    show (tupI (l4 o)).depth ≤ 60
    show (PyData.tuple ((l4 o).map PyData.int)).depth ≤ 60
    rw [PyData.depth, PySem.W.depth_ints]
    decide)
  exact this
theorem eqT_pr (p q : Pair) : eqT (prT p) (prT q) = some (decide (p = q)) := by
  have h1 := sameOk_plain (sameOk_pr 0 p)
  have h2 := sameOk_plain (sameOk_pr 0 q)
  have h3 := depth_pr p
  have h4 := depth_pr q
  unfold eqT
  simp [h1, h2, eqv_pr]
  try omega
/-- the head of what is good -/
structure IsBest (g : List St4) (o : St4) : Prop where
  mem : o ∈ g
  low : ∀ o' ∈ g, ltP o'.pr o.pr = false
section
variable (x : Bool)
theorem best_of_eq {g : List St4} {h : Hs} (hne : g ≠ []) (hnd : g.Nodup) (hi : ∀ a ∈ g, ∀ b ∈ g, a.pr = b.pr → a = b) : ∃ o, IsBest g o ∧ S_best_of x [.dat (.list (g.map st4T))] h = .ok (.val (.dat (st4T o))) h := by
  obtain ⟨a, t, rfl⟩ : ∃ a t, g = a :: t := by
    cases g with
    | nil => exact absurd rfl hne
    | cons a t => exact ⟨a, t, rfl⟩
  obtain ⟨h1, h2⟩ := minOf_pr (t.map St4.pr) a.pr
  generalize hm : PySem.W.minOf a.pr (t.map St4.pr) = m at *
  have h1 : m ∈ (a :: t).map St4.pr := h1
  obtain ⟨o, ho, ep⟩ := List.mem_map.mp h1
  subst ep
  refine ⟨o, ⟨ho, fun o' h' => h2 _ (List.mem_map.mpr ⟨o', h', rfl⟩)⟩, ?_⟩
  generalize hg : a :: t = g at *
  simp [S_best_of, F_best_of, kItD]
  generalize hF : compL _ _ _ _ _ _ = F
  have e1 := compL_ofM hF (fun _ => true) (fun o => prT o.pr) (by
    intro o ho
    refine ⟨_, rfl, rfl, fun _ => ?_⟩
    simp [st4_sl])
  subst e1
  have emin : minL [.list (g.map fun o => prT o.pr)] = some (prT o.pr) := by
    have := minL_of (a := a.pr) (l := t.map St4.pr) (fun b _ => by have := depth_pr b; exact Nat.le_trans this (by decide))
    rw [hm] at this
    rw [← hg]
    have e : (a :: t).map (fun o => prT o.pr) = (a.pr :: t.map St4.pr).map PySem.W.Datum.toD := by
      simp
      exact ⟨rfl, fun _ _ => rfl⟩
    rw [e]
    exact this
  simp [emin]
  generalize hF2 : compL _ _ _ _ _ _ = F2
  have e2 := compL_ofM hF2 (fun o' => decide (o'.pr = o.pr)) st4T (by
    intro o' ho'
    refine ⟨_, rfl, ?_, fun _ => ?_⟩
    · simp [st4_sl, eqT_pr]
    · simp)
  subst e2
  have ef : g.filter (fun o' => decide (o'.pr = o.pr)) = [o] := by
    have : g.filter (fun o' => decide (o'.pr = o.pr)) = g.filter (fun o' => decide (o' = o)) := List.filter_congr fun o' h' => decide_eq_decide.mpr ⟨fun e => hi o' h' o ho e, fun e => by rw [e]⟩
    rw [this]
    have h3 : ∀ l : List St4, l.Nodup → o ∈ l → l.filter (fun o' => decide (o' = o)) = [o] := by
      intro l
      induction l with
      | nil => exact fun _ h => by cases h
      | cons b l ih =>
        intro hn hm
        rw [List.nodup_cons] at hn
        by_cases hb : b = o
        · subst hb
          rw [List.filter_cons_of_pos (by simp)]
          congr 1
          rw [List.filter_eq_nil_iff]
          intro c hc
          simp
          intro e
          exact hn.1 (e ▸ hc)
        · rw [List.filter_cons_of_neg (by simp [hb])]
          exact ih hn.2 (by
            rcases List.mem_cons.mp hm with z | z
            · exact absurd z.symm hb
            · exact z)
    exact h3 g hnd ho
  rw [ef]
  simp [maxL_one (best1_st4 o)]
/-- how far the least reading is gone -/
def HeadAt (n : Int) (r : Pair) (run : List Scan) (k : Nat) (os : List St4) : Prop := os.length = k ∧ (∀ o ∈ os, Good4 n o) ∧ (k = 0 ∨ ∃ o, os.getLast? = some o ∧ pathsP n (run.drop k) (o.l + 1) o.d o.s ≠ [] ∧ ∀ suf, (pathsP n (run.drop k) (o.l + 1) o.d o.s).head? = some suf → (allR n r run).head? = some (os.map St4.pr ++ suf))
def leastR (n : Int) (r : Pair) (run : List Scan) : Ret := match (allR n r run).head? with
  | none => .val (.dat .none)
  | some rd => .own (rd.map prT)
theorem least_reading_eq {n : Int} {r : Pair} {run : List Scan} {h : Hs} (ok : Okay n r run) : S_least_reading x [.dat (.int n), .dat (prT r), .dat (runT run)] h = .ok (leastR n r run) h := by
  have hj : (h ++ [finO n r run []])[h.length]? = some (finO n r run []) := last_get
  have hlen := ok.len
  generalize hG : S_least_reading x _ _ = G
  simp [S_least_reading, F_least_reading, need_all_eq x h ok, how_many_eq x ok, fld_taken hj] at hG
  by_cases hA : allR n r run = []
  · simp [hA] at hG
    subst hG
    simp [leastR, hA]
  have hA2 : ¬ (((allR n r run).length : Int) = 0) := fun z => hA (List.length_eq_zero_iff.mp (by omega))
  simp [hA, fld_taken hj, lenT_run, rngOk_of (i := 0) (j := (run.length : Int)) (by omega) (by omega) (by omega) (by omega)] at hG
  generalize hF : forL _ _ _ _ _ = F at hG
  obtain ⟨ρ', h', rfl, ⟨W, wk, rfl⟩, os, hos, a5, a6, a7, a8, p8, rfl⟩ := forL_of hF (fun k ρ h' => (∃ W, WOk n run W ∧ h' = h ++ [finO n r run W]) ∧ ∃ os, HeadAt n r run k os ∧ ∃ a5 a6 a7 a8, plS a8 = true ∧ ρ = [vi n, vd (prT r), vd (runT run), .val (.obj h.length), .own (os.map st4T), a5, a6, a7, a8]) ⟨⟨[], WOk.nil, rfl⟩, [], ⟨rfl, fun o ho => (by cases ho), .inl rfl⟩, _, _, _, _, rfl, rfl⟩ (by
      rintro k t ρ h' e ⟨⟨W, wk, rfl⟩, os, ⟨hol, hog, hh⟩, a5, a6, a7, a8, p8, rfl⟩ Q hn
      clear hF hG
      obtain ⟨hk, rfl⟩ := rng_get e
      have hkl : k < run.length := by simpa using hk
      have hj2 : (h ++ [finO n r run W])[h.length]? = some (finO n r run W) := last_get
      obtain ⟨sc, hsc⟩ := get_of_lt hkl
      have ep : ((k + 1 : Nat) : Int) = (k : Int) + 1 := by omega
      simp [Turn1]
      -- what may come
      generalize hKA : kIf _ _ _ _ _ = A
      have pick : ∃ L : List St4, UpP L ∧ L.Nodup ∧ (∀ a ∈ L, ∀ b ∈ L, a.pr = b.pr → a = b) ∧ (∀ o ∈ L, Good4 n o) ∧ (∃ o ∈ L, pathsP n (run.drop (k + 1)) (o.l + 1) o.d o.s ≠ []) ∧
          (∀ suf, (L.flatMap fun o => (pathsP n (run.drop (k + 1)) (o.l + 1) o.d o.s).map (o.pr :: ·)).head? = some suf → (allR n r run).head? = some (os.map St4.pr ++ suf)) ∧
          A = .ok (.next [vi n, vd (prT r), vd (runT run), .val (.obj h.length), .own (os.map st4T), vi (k : Int), a6, .own (L.map st4T), a8]) (h ++ [finO n r run W]) := by
        subst hKA
        have some_of : ∀ L : List St4, (L.flatMap fun o => (pathsP n (run.drop (k + 1)) (o.l + 1) o.d o.s).map (o.pr :: ·)) ≠ [] → ∃ o ∈ L, pathsP n (run.drop (k + 1)) (o.l + 1) o.d o.s ≠ [] := fun L hL => by
          obtain ⟨z, hz⟩ := List.exists_mem_of_ne_nil _ hL
          obtain ⟨o, ho, hz⟩ := List.mem_flatMap.mp hz
          exact ⟨o, ho, fun e => by rw [e] at hz; simp at hz⟩
        by_cases hk0 : k = 0
        · subst hk0
          have eo : os = [] := List.length_eq_zero_iff.mp hol
          subst eo
          obtain ⟨rest, rfl⟩ : ∃ rest, run = sc :: rest := by
            cases run with
            | nil => simp at hsc
            | cons a b => simp at hsc; subst hsc; exact ⟨b, rfl⟩
          refine ⟨firstsL n r sc, up_firstsL ok.d0, nodup_firstsL ok.d0, IsFirst.inj ok.d0, fun o ho => ReachP.good (i := 0) ok (pre := []) ⟨rfl, sc, rfl, (mem_firstsL ok.d0).mp ho⟩, some_of _ hA, fun suf hs => by simpa [allR] using hs, ?_⟩
          simp [meth_firsts hj2, firsts_eq x hj2 rfl (by have := ok.n1; omega) ok.n2 ok.d0 ok.d3]
        · obtain ⟨o, hlo, hpo, hso⟩ := hh.resolve_left hk0
          have hgo := hog o (List.mem_of_getLast? hlo)
          have hst := steps_eq (n := n) (r := r) (run := run) (p := k) (sheet := o.l + 1) (d := o.d) (s := o.s) x hj2 hsc hgo.box.d0 hgo.box.d3 hgo.box.s0 hgo.box.s3
          rw [drop_cons hsc] at hpo hso
          have hos := last_snoc hlo
          have at1 : L2.atI (os.map st4T) (-1) = some (st4T o) := by
            rw [hos, List.map_append]
            exact atI_last
          refine ⟨stepsL n sc (o.l + 1) o.d o.s, up_stepsL, nodup_stepsL hgo.box.d0, IsStep.inj hgo.box.d0, fun o' ho' => ?_, some_of _ (by simpa [pathsP] using hpo), fun suf hs => hso suf (by simpa [pathsP] using hs), ?_⟩
          · have hs' := (mem_stepsL hgo.box.d0).mp ho'
            exact ⟨by have := hgo.f0; have := hgo.le; have := hs'.low; omega, hs'.le, hs'.ge, hs'.top, Box.step ok.n2 hgo.box hs'⟩
          · simp [hk0, meth_steps hj2, at1, st4_1, st4_2, st4_3, hst]
      obtain ⟨L, hL1, hL2, hL3, hL4, ⟨o1, ho1, hp1⟩, hL5, rfl⟩ := pick
      clear hKA
      obtain ⟨M, hM, eM⟩ := sortD_st4 L
      simp [p8]
      rw [kSorted_ap _ (sortOk_st4 L), eM]
      simp [p8, kItD]
      generalize hF2 : compL _ _ _ _ _ _ = F2
      obtain ⟨us, h2, rfl, W2, wk2, rfl, hus⟩ := compL_ofF hF2 (fun i us h2 => ∃ W2, WOk n run W2 ∧ h2 = h ++ [finO n r run W2] ∧ us = (((M.take i).filter fun o => decide (0 < cnt n (run.drop (k + 1)) (o.l + 1) o.d o.s)).map st4T)) ⟨W, wk, rfl, rfl⟩ (by
        rintro i t us h2 e2 ⟨W2, wk2, rfl, rfl⟩
        obtain ⟨o, ho, rfl⟩ := map_get e2
        have hgo := hL4 o (hM.mem_iff.mp (List.mem_of_getElem? ho))
        have hj3 : (h ++ [finO n r run W2])[h.length]? = some (finO n r run W2) := last_get
        obtain ⟨W3, wk3, e3⟩ := count_eq x ok.n2 ok.len 30 (k + 1) (o.l + 1) o.d o.s _ h.length W2 hj3 wk2 (by omega) (by omega) hgo.box
        rw [ep, last_set] at e3
        refine ⟨_, rfl, decide (0 < cnt n (run.drop (k + 1)) (o.l + 1) o.d o.s), h ++ [finO n r run W3], ?_, fun hb => ⟨W3, wk3, rfl, ?_⟩, fun hb => ⟨st4T o, h ++ [finO n r run W3], ?_, W3, wk3, rfl, ?_⟩⟩
        · simp [meth_count hj3, st4_1, st4_2, st4_3]
          rw [e3]
          simp
        · rw [take_one ho, List.filter_append]
          simp [hb]
        · simp
        · rw [take_one ho, List.filter_append]
          simp [hb])
      have hg : us = (M.filter fun o => decide (0 < cnt n (run.drop (k + 1)) (o.l + 1) o.d o.s)).map st4T := by
        rw [hus, List.length_map, List.take_length]
      clear hus hF2
      generalize hgd : (M.filter fun o => decide (0 < cnt n (run.drop (k + 1)) (o.l + 1) o.d o.s)) = g at hg
      subst hg
      have hgm : ∀ o, o ∈ g ↔ o ∈ L ∧ pathsP n (run.drop (k + 1)) (o.l + 1) o.d o.s ≠ [] := fun o => by
        rw [← hgd, List.mem_filter, decide_eq_true_eq, cnt_pos, hM.mem_iff]
      have hgn : g.Nodup := by
        rw [← hgd]
        exact List.Nodup.sublist List.filter_sublist (hM.nodup_iff.mpr hL2)
      obtain ⟨o, ⟨ho, hlow⟩, eb⟩ := best_of_eq x (g := g) (h := h ++ [finO n r run W2]) (List.ne_nil_of_mem ((hgm o1).mpr ⟨ho1, hp1⟩)) hgn fun a ha b hb => hL3 a ((hgm a).mp ha).1 b ((hgm b).mp hb).1
      have hol2 : os.length < 100000 := by omega
      simp [eb, hol2]
      refine wp_ok (hn _ _ ⟨⟨W2, wk2, rfl⟩, os ++ [o], ⟨by simp [hol], fun o' h' => ?_, .inr ⟨o, by simp, ((hgm o).mp ho).2, fun suf hs => ?_⟩⟩, _, _, _, _, p8, by simp; exact ⟨rfl, rfl, rfl⟩⟩)
      · rcases List.mem_append.mp h' with z | z
        · exact hog o' z
        · rw [List.mem_singleton.mp z]
          exact hL4 o ((hgm o).mp ho).1
      · have h3 := head_flat (f := fun o => (pathsP n (run.drop (k + 1)) (o.l + 1) o.d o.s).map (o.pr :: ·)) hL1 ((hgm o).mp ho).1 (by simpa using ((hgm o).mp ho).2) fun o' h' hf => hlow o' ((hgm o').mpr ⟨h', by simpa using hf⟩)
        have h4 := hL5 (o.pr :: suf) (by rw [h3, List.head?_map, hs]; rfl)
        rw [h4]
        simp)
  rw [rngT_len] at hos
  simp at hG
  obtain ⟨hol, hog, hh⟩ := hos
  have hhead : (allR n r run).head? = some (os.map St4.pr) := by
    rcases hh with z | ⟨o, h1, h2, h3⟩
    · have : run = [] := List.length_eq_zero_iff.mp z
      subst this
      have : os = [] := List.length_eq_zero_iff.mp hol
      subst this
      rfl
    · have := h3 [] (by simp [pathsP])
      simpa using this
  simp [p8, kItD] at hG
  generalize hF3 : compL _ _ _ _ _ _ = F3 at hG
  have e3 := compL_ofM hF3 (fun _ => true) (fun o => prT o.pr) (by
    intro o ho
    refine ⟨_, rfl, rfl, fun _ => ?_⟩
    simp [st4_sl])
  subst e3
  simp at hG
  subst hG
  unfold leastR
  rw [hhead]
  simp
end
end Pl
set_option Elab.async false
set_option linter.all false
set_option maxRecDepth 100000
set_option maxHeartbeats 2000000
namespace Pl
open PySem Pf Sm
/-! ### a feeder -/
structure Fd where
  n : Int
  bs : List Int
  nx : Int
  la : Int
  here : List Scan
  ended : List (List Scan)
def blT (bs : List Int) : T := .tuple (bs.map PyData.int)
def fdF (F : Fd) : List (Str × Fld) := [("sheets", .dat (.int F.n)), ("blind", .dat (blT F.bs)), ("next", .dat (.int F.nx)), ("last", .dat (.int F.la)), ("here", .own (F.here.map scT)), ("ended", .own (F.ended.map runT))]
def fdO (F : Fd) : O := .ins "Feeder" (fdF F)
def rdP (bs : List Int) (p : Int) : Option Int := if p ∈ bs then none else some p
def endF (F : Fd) : Fd := { F with ended := if F.here = [] then F.ended else F.ended ++ [F.here], here := [], nx := 0, la := -1 }
def passF (F : Fd) (c : Int) : Fd := if F.la < F.nx + c then endF { F with nx := F.nx + c } else { F with nx := F.nx + c }
def scanF (F : Fd) (c : Int) : Scan := (rdP F.bs (2 * F.nx), rdP F.bs (2 * (F.nx + c - 1) + 1))
def takeF (F : Fd) (c : Int) : Fd := passF { F with here := F.here ++ [scanF F c] } c
structure FdOk (F : Fd) : Prop where
  hl : F.here.length < 100000
  el : F.ended.length < 100000
theorem inT_blind (p : Int) (bs : List Int) : inT (.int p) (blT bs) = some (decide (p ∈ bs)) := by
  have e : (bs.map PyData.int).any (fun y => PyData.eqv y (.int p)) = decide (p ∈ bs) := by
    induction bs with
    | nil => simp
    | cons q l ih =>
      rw [List.map_cons, List.any_cons, ih]
      by_cases h : q = p
      · simp [h, PyData.eqv]
      · have h' : ¬ (p = q) := fun e => h e.symm
        simp [h, h', PyData.eqv]
  have hf : (flatT (.int p) && (bs.map PyData.int).all flatT) = true := by
    rw [Bool.and_eq_true]
    refine ⟨rfl, List.all_eq_true.mpr fun t ht => ?_⟩
    obtain ⟨i, _, rfl⟩ := List.mem_map.mp ht
    rfl
  show (if (flatT (.int p) && (bs.map PyData.int).all flatT) = true then some ((bs.map PyData.int).any fun z => PyData.eqv z (.int p)) else none) = _
  rw [if_pos hf, e]
section
variable {F : Fd} {j : Nat} {h : Hs} {x : Bool} {np : Nat} {s : Sem1} {g : FA} {ρ : En}
theorem ff_sheets (hj : h[j]? = some (fdO F)) : kFld "Feeder" "sheets" (.obj j) h = .ok (.dat (.int F.n)) h := by simp [kFld_ap, hj, fdO, fdF]
theorem ff_blind (hj : h[j]? = some (fdO F)) : kFld "Feeder" "blind" (.obj j) h = .ok (.dat (blT F.bs)) h := by
  simp [kFld_ap, hj, fdO, fdF]
  rfl
theorem ff_next (hj : h[j]? = some (fdO F)) : kFld "Feeder" "next" (.obj j) h = .ok (.dat (.int F.nx)) h := by
  simp [kFld_ap, hj, fdO, fdF]
  rfl
theorem ff_last (hj : h[j]? = some (fdO F)) : kFld "Feeder" "last" (.obj j) h = .ok (.dat (.int F.la)) h := by
  simp [kFld_ap, hj, fdO, fdF]
  rfl
theorem ff_here (hj : h[j]? = some (fdO F)) : ownAt h "Feeder" "here" j = some (F.here.map scT) := by
  unfold ownAt
  rw [hj]
  rfl
theorem ff_ended (hj : h[j]? = some (fdO F)) : ownAt h "Feeder" "ended" j = some (F.ended.map runT) := by
  unfold ownAt
  rw [hj]
  rfl
theorem fm (m : Str) (hm : (List.lookup m (fdF F)).isNone = true) (hj : h[j]? = some (fdO F)) : kMeth x "Feeder" m np s g ρ (.obj j) h = (g ρ h).bind (kMeth2 x np s j) := by
  simp only [kMeth_ap, hj, fdO]
  simp [hm]
theorem put_next (v : Int) : putA "next" (.dat (.int v)) (fdF F) = fdF { F with nx := v } := by simp [putA, fdF]
theorem put_last (v : Int) : putA "last" (.dat (.int v)) (fdF F) = fdF { F with la := v } := by simp [putA, fdF]
theorem put_here (l : List Scan) : putA "here" (.own (l.map scT)) (fdF F) = fdF { F with here := l } := by simp [putA, fdF]
end
section
variable (x : Bool)
theorem set_get {h : Hs} {j : Nat} {o o' : O} (hj : h[j]? = some o) : (h.set j o')[j]? = some o' := List.getElem?_set_self (List.getElem?_eq_some_iff.mp hj).1
theorem set_len (h : Hs) (j : Nat) (o : O) : (h.set j o).take h.length = h.set j o := List.take_of_length_le (by simp)
theorem end_run_eq {F : Fd} {j : Nat} {h : Hs} (hj : h[j]? = some (fdO F)) (ok : FdOk F) : S_Feeder_end_run x [.obj j] h = .ok (.val (.dat .none)) (h.set j (fdO (endF F))) := by
  have h1 := ok.el
  have hjl := (List.getElem?_eq_some_iff.mp hj).1
  have hF : fdO F = .ins "Feeder" (fdF F) := rfl
  cases hh : F.here with
  | nil =>
    simp [S_Feeder_end_run, F_Feeder_end_run, objS, ff_here hj, hh, hj, hF, fdF, set_get hj, putA]
    rw [← List.length_set (i := j) (a := fdO (endF F)), List.take_of_length_le (by simp)]
    simp [fdO, fdF, endF, hh]
  | cons a l =>
    simp [S_Feeder_end_run, F_Feeder_end_run, objS, ff_here hj, ff_ended hj, hh, hj, hF, fdF, set_get hj, putA, h1]
    rw [List.take_of_length_le (by simp)]
    simp [fdO, fdF, endF, hh, runT]
theorem pass_eq {F : Fd} {j : Nat} {h : Hs} {c : Int} (hj : h[j]? = some (fdO F)) (ok : FdOk F) : S_Feeder_pass_by x [.obj j, .dat (.int c)] h = .ok (.val (.dat .none)) (h.set j (fdO (passF F c))) := by
  have hF : fdO F = .ins "Feeder" (fdF F) := rfl
  have hfl : (fdF F).length < 100 := by simp [fdF]
  have hj2 := set_get (o' := fdO { F with nx := F.nx + c }) hj
  have e2 := end_run_eq x (F := { F with nx := F.nx + c }) hj2 ⟨ok.hl, ok.el⟩
  have hm := fm (F := { F with nx := F.nx + c }) (x := x) (np := 1) (s := S_Feeder_end_run x) (g := fANil) (ρ := [.val (.obj j), .val (.dat (.int c))]) "end_run" rfl hj2
  simp [S_Feeder_pass_by, F_Feeder_pass_by, ff_next hj]
  simp [hj, hF, hfl, put_next]
  have hO : O.ins "Feeder" (fdF { F with nx := F.nx + c }) = fdO { F with nx := F.nx + c } := rfl
  rw [hO]
  simp [ff_next hj2, ff_last hj2]
  unfold passF
  by_cases hc : F.la < F.nx + c
  · simp [hc, hm, e2]
    rw [List.take_of_length_le (by simp)]
  · simp [hc]
    rw [List.take_of_length_le (by simp)]
theorem need_sheets_eq {F : Fd} {j : Nat} {h : Hs} {c : Int} (hj : h[j]? = some (fdO F)) (hc : c ≤ F.la - F.nx + 1) : S_Feeder_need_sheets x [.obj j, .dat (.int c)] h = .ok (.val (.dat .none)) h := by
  have hc2 : ¬ (F.la - F.nx + 1 < c) := by omega
  simp [S_Feeder_need_sheets, F_Feeder_need_sheets, ff_last hj, ff_next hj, hc2]
theorem read_page_eq {F : Fd} {j : Nat} {h : Hs} {p : Int} (hj : h[j]? = some (fdO F)) : S_Feeder_read_page x [.obj j, .dat (.int p)] h = .ok (.val (.dat (pgT (rdP F.bs p)))) h := by
  simp [S_Feeder_read_page, F_Feeder_read_page, ff_blind hj, inT_blind]
  unfold rdP
  by_cases hp : p ∈ F.bs <;> simp [hp]
theorem take_eq {F : Fd} {j : Nat} {h : Hs} {c : Int} (hj : h[j]? = some (fdO F)) (ok : FdOk F) (hc : c ≤ F.la - F.nx + 1) (hl : F.here.length + 1 < 100000) : S_Feeder_take x [.obj j, .dat (.int c)] h = .ok (.val (.dat (scT (scanF F c)))) (h.set j (fdO (takeF F c))) := by
  have hF : fdO F = .ins "Feeder" (fdF F) := rfl
  have h1 := ok.hl
  have hj2 := set_get (o' := fdO { F with here := F.here ++ [scanF F c] }) hj
  have e2 := pass_eq x (F := { F with here := F.here ++ [scanF F c] }) (c := c) hj2 ⟨by simpa using hl, ok.el⟩
  have m1 := fun ρ g => fm (F := F) (x := x) (np := 2) (s := S_Feeder_need_sheets x) (g := g) (ρ := ρ) "need_sheets" rfl hj
  have m2 := fun ρ g => fm (F := F) (x := x) (np := 2) (s := S_Feeder_read_page x) (g := g) (ρ := ρ) "read_page" rfl hj
  have m3 := fun ρ g => fm (F := { F with here := F.here ++ [scanF F c] }) (x := x) (np := 2) (s := S_Feeder_pass_by x) (g := g) (ρ := ρ) "pass_by" rfl hj2
  have ep : putA "here" (Fld.own (F.here.map scT ++ [scT (scanF F c)])) (fdF F) = fdF { F with here := F.here ++ [scanF F c] } := by
    have := put_here (F := F) (F.here ++ [scanF F c])
    rw [List.map_append] at this
    exact this
  simp [S_Feeder_take, F_Feeder_take, m1, need_sheets_eq x hj hc, ff_next hj, m2, read_page_eq x hj, smallI]
  simp [objS, datS, ff_here hj, hj, hF, h1]
  have es : PyData.tuple [pgT (rdP F.bs (2 * F.nx)), pgT (rdP F.bs (2 * (F.nx + c - 1) + 1))] = scT (scanF F c) := rfl
  have hO : O.ins "Feeder" (fdF { F with here := F.here ++ [scanF F c] }) = fdO { F with here := F.here ++ [scanF F c] } := rfl
  rw [es, ep, hO]
  simp [m3, e2]
  rw [List.take_of_length_le (by simp)]
  rfl
theorem feed_eq {F : Fd} {j : Nat} {h : Hs} (hj : h[j]? = some (fdO F)) (ok : FdOk F) (hc : F.nx ≤ F.la) (hl : F.here.length + 1 < 100000) : S_Feeder_feed x [.obj j] h = .ok (.val (.dat (scT (scanF F 1)))) (h.set j (fdO (takeF F 1))) := by
  have m1 := fun ρ g => fm (F := F) (x := x) (np := 2) (s := S_Feeder_take x) (g := g) (ρ := ρ) "take" rfl hj
  simp [S_Feeder_feed, F_Feeder_feed, m1, take_eq x hj ok (c := 1) (by omega) hl]
  rw [List.take_of_length_le (by simp)]
theorem twice_eq {F : Fd} {j : Nat} {h : Hs} (hj : h[j]? = some (fdO F)) (ok : FdOk F) (hc : F.nx < F.la) (hl : F.here.length + 1 < 100000) : S_Feeder_twice x [.obj j] h = .ok (.val (.dat (scT (scanF F 2)))) (h.set j (fdO (takeF F 2))) := by
  have m1 := fun ρ g => fm (F := F) (x := x) (np := 2) (s := S_Feeder_take x) (g := g) (ρ := ρ) "take" rfl hj
  simp [S_Feeder_twice, F_Feeder_twice, m1, take_eq x hj ok (c := 2) (by omega) hl]
  rw [List.take_of_length_le (by simp)]
theorem slip_eq {F : Fd} {j : Nat} {h : Hs} (hj : h[j]? = some (fdO F)) (ok : FdOk F) (hc : F.nx ≤ F.la) : S_Feeder_slip x [.obj j] h = .ok (.val (.dat .none)) (h.set j (fdO (passF F 1))) := by
  have m1 := fun ρ g => fm (F := F) (x := x) (np := 2) (s := S_Feeder_need_sheets x) (g := g) (ρ := ρ) "need_sheets" rfl hj
  have m2 := fun ρ g => fm (F := F) (x := x) (np := 2) (s := S_Feeder_pass_by x) (g := g) (ρ := ρ) "pass_by" rfl hj
  simp [S_Feeder_slip, F_Feeder_slip, m1, need_sheets_eq x hj (c := 1) (by omega), m2, pass_eq x hj ok]
  rw [List.take_of_length_le (by simp)]
theorem jam_eq {F : Fd} {j : Nat} {h : Hs} (hj : h[j]? = some (fdO F)) (ok : FdOk F) (hc : F.nx ≤ F.la) : S_Feeder_jam x [.obj j] h = .ok (.val (.dat .none)) (h.set j (fdO (endF F))) := by
  have m1 := fun ρ g => fm (F := F) (x := x) (np := 2) (s := S_Feeder_need_sheets x) (g := g) (ρ := ρ) "need_sheets" rfl hj
  have m2 := fun ρ g => fm (F := F) (x := x) (np := 1) (s := S_Feeder_end_run x) (g := g) (ρ := ρ) "end_run" rfl hj
  simp [S_Feeder_jam, F_Feeder_jam, m1, need_sheets_eq x hj (c := 1) (by omega), m2, end_run_eq x hj ok]
  rw [List.take_of_length_le (by simp)]
theorem put_eq {F : Fd} {j : Nat} {h : Hs} {lo hi : Int} (hj : h[j]? = some (fdO F)) (h0 : 0 ≤ lo) (h1 : lo ≤ hi) (h2 : hi < F.n) (hw : F.la < F.nx) : S_Feeder_put x [.obj j, .dat (.int lo), .dat (.int hi)] h = .ok (.val (.dat .none)) (h.set j (fdO { F with nx := lo, la := hi })) := by
  have hF : fdO F = .ins "Feeder" (fdF F) := rfl
  have c1 : lo ≤ F.n - 1 := by omega
  have c2 : hi ≤ F.n - 1 := by omega
  have c3 : ¬ (F.nx ≤ F.la) := by omega
  have hfl : ∀ F : Fd, (fdF F).length < 100 := fun F => by simp [fdF]
  have hj2 := set_get (o' := fdO { F with nx := lo }) hj
  have hO : O.ins "Feeder" (fdF { F with nx := lo }) = fdO { F with nx := lo } := rfl
  simp [S_Feeder_put, F_Feeder_put, ff_sheets hj, is_number_eq, h0, h1, c1, c2, ff_next hj, ff_last hj, c3]
  simp [hj, hF, hfl, put_next]
  have hj3 := set_get (o' := O.ins "Feeder" (fdF { F with nx := lo })) hj
  rw [hj3]
  simp [hfl, put_last]
  rw [List.take_of_length_le (by simp)]
  rfl
theorem waits_eq {F : Fd} {j : Nat} {h : Hs} (hj : h[j]? = some (fdO F)) : S_Feeder_waits x [.obj j] h = .ok (.val (.dat (if F.nx ≤ F.la then prT (F.nx, F.la) else .none))) h := by
  simp [S_Feeder_waits, F_Feeder_waits, ff_next hj, ff_last hj]
  by_cases hc : F.nx ≤ F.la <;> simp [hc, ff_next hj, ff_last hj, prT]
theorem run_eq {F : Fd} {j : Nat} {h : Hs} (hj : h[j]? = some (fdO F)) : S_Feeder_run x [.obj j] h = .ok (.own (F.here.map scT)) h := by
  simp [S_Feeder_run, F_Feeder_run, objS, ff_here hj]
theorem runsF_eq {F : Fd} {j : Nat} {h : Hs} (hj : h[j]? = some (fdO F)) : S_Feeder_runs x [.obj j] h = .ok (.own (F.ended.map runT)) h := by
  simp [S_Feeder_runs, F_Feeder_runs, objS, ff_ended hj]
  generalize hC : compL _ _ _ _ _ _ = C
  have e := compL_ofM hC (fun _ => true) runT (by
    intro r hr
    refine ⟨_, rfl, rfl, fun _ => ?_⟩
    simp [runT])
  subst e
  simp
theorem initF_eq {n : Int} {bs : List Int} {h : Hs} (n1 : 1 ≤ n) (n2 : n ≤ 30) (hb : bs.Pairwise (· < ·)) (hr : ∀ b ∈ bs, 0 ≤ b ∧ b < 2 * n) : S_Feeder___init__ x [.obj h.length, .dat (.int n), .dat (blT bs)] (h ++ [.ins "Feeder" []]) = .ok (.val (.dat .none)) (h ++ [fdO ⟨n, bs, 0, -1, [], []⟩]) := by
  have hisi : isiB (blT bs) "tuple" = true := rfl
  have hit : kItD (.dat (blT bs)) (h ++ [.ins "Feeder" []]) = .ok (bs.map PyData.int) (h ++ [.ins "Feeder" []]) := rfl
  simp [S_Feeder___init__, F_Feeder___init__, need_book_eq x _ n1 n2, hisi, hit]
  generalize hF : forL _ _ _ _ _ = F
  obtain ⟨ρ', h', rfl, rfl, b3, hb3, a4, rfl⟩ := forL_of hF (fun i ρ h' => h' = h ++ [.ins "Feeder" []] ∧ ∃ b3 : Int, (∀ b, bs[i]? = some b → b3 < b) ∧ ∃ a4, ρ = [.val (.obj h.length), vi n, vd (blT bs), vi b3, a4]) ⟨rfl, -1, fun b hb0 => (by have := (hr b (List.mem_of_getElem? hb0)).1; omega), _, rfl⟩ (by
    rintro i t ρ h' e ⟨rfl, b3, hb3, a4, rfl⟩ Q hn
    obtain ⟨b, hbi, rfl⟩ := map_get e
    have c1 := hb3 b hbi
    obtain ⟨c2, c3⟩ := hr b (List.mem_of_getElem? hbi)
    have c4 : b3 + 1 ≤ b := by omega
    have c5 : b ≤ 2 * n - 1 := by omega
    simp [Turn1, is_number_eq, smallI, c4, c5]
    refine wp_ok (hn _ _ ⟨rfl, b, fun b' hb' => ?_, _, rfl⟩)
    obtain ⟨l1, e1⟩ := List.getElem?_eq_some_iff.mp hbi
    obtain ⟨l2, e2⟩ := List.getElem?_eq_some_iff.mp hb'
    have := List.pairwise_iff_getElem.mp hb i (i + 1) l1 l2 (by omega)
    rw [e1, e2] at this
    exact this)
  simp [objS, putA, fdO, fdF]
  exact List.take_of_length_le (by simp)
end
end Pl
set_option Elab.async false
set_option linter.all false
set_option maxRecDepth 100000
set_option maxHeartbeats 2000000
namespace Pl
open PySem Pf Sm
/-! ### runs told fully -/
def toldS (p : Pair) : Scan := (some (2 * p.1), some (2 * p.2 + 1))
def toldR (rd : List Pair) : List Scan := rd.map toldS
theorem shows_told {p q : Pair} : showsB (toldS p) q.1 q.2 = true ↔ q = p := by
  unfold showsB toldS
  constructor
  · intro h
    simp at h
    exact Prod.ext (by omega) (by omega)
  · rintro rfl
    simp
theorem told_uniq {n : Int} {r : Pair} {rd0 rd : List Pair} (h : IsRd n r (toldR rd0) rd) : rd = rd0 := by
  have hl := h.fit.1
  unfold toldR at hl
  rw [List.length_map] at hl
  apply List.ext_getElem?
  intro j
  by_cases hj : j < rd.length
  · obtain ⟨p, hp⟩ := get_of_lt hj
    obtain ⟨q, hq⟩ := get_of_lt (l := rd0) (k := j) (by omega)
    have := h.fit.2.2.1 j (toldS q) p hj (by unfold toldR; rw [List.getElem?_map, hq]; rfl) hp
    rw [hp, hq, shows_told.mp this]
  · rw [List.getElem?_eq_none (by omega), List.getElem?_eq_none (by omega)]
theorem list_one {α : Type} {l : List α} {a : α} (hn : l.Nodup) (h : ∀ x, x ∈ l ↔ x = a) : l = [a] := by
  cases l with
  | nil => have := (h a).mpr rfl; cases this
  | cons b t =>
    have hb := (h b).mp (List.mem_cons_self ..)
    subst hb
    cases t with
    | nil => rfl
    | cons c t =>
      have hc := (h c).mp (List.mem_cons_of_mem _ (List.mem_cons_self ..))
      subst hc
      rw [List.nodup_cons] at hn
      exact absurd (List.mem_cons_self ..) hn.1
theorem allR_one {n : Int} {r : Pair} {run : List Scan} {rd0 : List Pair} (hd : 0 ≤ r.1) (hs : 0 ≤ r.2) (h1 : IsRd n r run rd0) (h2 : ∀ rd, IsRd n r run rd → rd = rd0) : allR n r run = [rd0] :=
  list_one (nodup_allR hd) fun rd => by
    rw [mem_allR_iff hd hs]
    exact ⟨h2 rd, fun e => by rw [e]; exact h1⟩
theorem allR_none {n : Int} {r : Pair} {run : List Scan} (hd : 0 ≤ r.1) (hs : 0 ≤ r.2) (h2 : ∀ rd, ¬ IsRd n r run rd) : allR n r run = [] :=
  List.eq_nil_iff_forall_not_mem.mpr fun rd h => h2 rd ((mem_allR_iff hd hs).mp h)
theorem rowR_one {n : Int} {r : Pair} {run : List Scan} {rd0 : List Pair} (h : allR n r run = [rd0]) {k : Nat} {p : Pair} (hp : rd0[k]? = some p) : rowR n r run k = [p] :=
  sortU_ext ordP sort_rowR (by simp [SortU]) fun q => by
    rw [mem_rowR, h]
    simp [hp]
    exact ⟨fun e => e.symm, fun e => e.symm⟩
theorem rowsR_one {n : Int} {r : Pair} {run : List Scan} {rd0 : List Pair} (h : allR n r run = [rd0]) (hl : rd0.length = run.length) : rowsR n r run = rd0.map fun p => [p] := by
  unfold rowsR
  apply List.ext_getElem?
  intro k
  rw [List.getElem?_map, List.getElem?_map]
  by_cases hk : k < run.length
  · obtain ⟨p, hp⟩ := get_of_lt (l := rd0) (k := k) (by omega)
    rw [List.getElem?_range hk, hp]
    simp [rowR_one h hp]
  · rw [List.getElem?_eq_none (by simp; omega), List.getElem?_eq_none (by omega)]
    rfl
theorem sureSc_one (p : Pair) : sureSc [p] = toldS p := by
  have e : ∀ a : Int, one? [a] = some a := fun a => one_iff.mpr ⟨by simp, fun b hb => by simpa using hb⟩
  unfold sureSc toldS
  simp [e]
theorem sureL_one {n : Int} {r : Pair} {run : List Scan} {rd0 : List Pair} (h : allR n r run = [rd0]) (hl : rd0.length = run.length) : sureL n r run = toldR rd0 := by
  unfold sureL toldR
  rw [rowsR_one h hl, List.map_map]
  refine List.map_congr_left fun p _ => sureSc_one p
theorem okSc_told {n : Int} {p : Pair} (h : okPr n p = true) : okSc n (toldS p) = true := by
  have := okPr_iff.mp h
  unfold okSc toldS
  simp [okPg]
  omega
theorem slips_zero : ∀ {rd : List Pair}, (∀ (j : Nat) p q, rd[j]? = some p → rd[j + 1]? = some q → q.1 = p.2 + 1) → slipsOf rd = 0
  | [], _ => rfl
  | [_], _ => rfl
  | p :: q :: rd, h => by
    have h1 := h 0 p q rfl rfl
    have h2 := slips_zero (rd := q :: rd) fun j a b e1 e2 => h (j + 1) a b (by simpa using e1) (by simpa using e2)
    show (q.1 - p.2 - 1) + slipsOf (q :: rd) = 0
    omega
theorem fit_told {n : Int} {r : Pair} {rd : List Pair} (h1 : ∀ p ∈ rd, okPr n p = true) (h2 : ∀ (j : Nat) p q, rd[j]? = some p → rd[j + 1]? = some q → q.1 = p.2 + 1) (h3 : dsum rd ≤ r.1) (h4 : 0 ≤ r.2) : IsRd n r (toldR rd) rd := by
  refine ⟨h1, by simp [toldR], fun j p q hj e1 e2 => by have := h2 j p q e1 e2; omega, fun j s p hj e1 e2 => ?_, h3, by rw [slips_zero h2]; exact h4⟩
  unfold toldR at e1
  rw [List.getElem?_map, e2] at e1
  cases e1
  exact shows_told.mpr rfl
/-! who shows a page -/
theorem mem_rowsE2 {rows : List (List Scan)} {e : Int × Pair} : e ∈ rowsE rows ↔ ∃ (i j : Nat) (row : List Scan) (s : Scan), rows[i]? = some row ∧ row[j]? = some s ∧ (s.1 = some e.1 ∨ s.2 = some e.1) ∧ e.2 = ((i : Int), (j : Int)) := by
  unfold rowsE rowE
  constructor
  · intro he
    obtain ⟨i, _, hi⟩ := List.mem_flatMap.mp he
    split at hi
    · rename_i row hrow
      obtain ⟨j, _, hj⟩ := List.mem_flatMap.mp hi
      split at hj
      · rename_i s hs
        unfold scE at hj
        obtain ⟨pg, hpg, rfl⟩ := List.mem_map.mp hj
        simp at hpg
        exact ⟨i, j, row, s, hrow, hs, hpg.imp (fun z => z.symm) fun z => z.symm, rfl⟩
      · cases hj
    · cases hi
  · rintro ⟨i, j, row, s, hi, hj, hk, h2⟩
    refine List.mem_flatMap.mpr ⟨i, List.mem_range.mpr (List.getElem?_eq_some_iff.mp hi).1, ?_⟩
    rw [hi]
    refine List.mem_flatMap.mpr ⟨j, List.mem_range.mpr (List.getElem?_eq_some_iff.mp hj).1, ?_⟩
    rw [hj]
    unfold scE
    refine List.mem_map.mpr ⟨e.1, ?_, by rw [← h2]⟩
    simp
    exact hk.imp (fun z => z.symm) fun z => z.symm
theorem firstAt_of {E : List (Int × Pair)} {p : Int} {v : Pair} (h1 : (p, v) ∈ E) (h2 : ∀ e ∈ E, e.1 = p → e.2 = v) : firstAt E p = some v := by
  unfold firstAt
  cases hf : E.find? fun e => decide (e.1 = p) with
  | none =>
    have := List.find?_eq_none.mp hf (p, v) h1
    simp at this
  | some e =>
    have e1 := List.find?_some hf
    simp at e1
    have e2 := List.mem_of_find?_eq_some hf
    rw [Option.map_some, h2 e e2 e1]
/-- gaps by what they are -/
theorem gaps_are {S : Nat → Bool} {N : Nat} {l : List Pair} (hs : SortU ltP l) (h : ∀ p, IsGap S N p ↔ p ∈ l) : gapsTo S N = l := by
  obtain ⟨a1, a2⟩ := gaps_ok S N
  refine sortU_ext ordP (List.Pairwise.imp_of_mem (fun {p q} hp hq hlt => decide_eq_true (.inl (by have := ((a2 p).mp hp).le; omega))) a1) hs fun p => by rw [a2 p, h p]
theorem gaps_nil {S : Nat → Bool} {N : Nat} (h : ∀ k, k < N → S k = true) : gapsTo S N = [] := by
  obtain ⟨a1, a2⟩ := gaps_ok S N
  refine List.eq_nil_iff_forall_not_mem.mpr fun p hp => ?_
  obtain ⟨g1, g2, g3, g4, _, _⟩ := (a2 p).mp hp
  have := g4 p.1.toNat (by omega) (by omega)
  rw [h _ (by omega)] at this
  cases this
/-! the book fed whole, with one double -/
def rdA (n at' : Int) : List Pair := (List.range at'.toNat).map (fun k => (((k : Nat) : Int), ((k : Nat) : Int))) ++ [(at', at' + 1)] ++ (List.range (n - at' - 2).toNat).map (fun k => (at' + 2 + ((k : Nat) : Int), at' + 2 + ((k : Nat) : Int)))
section
variable {n at' : Int} (ha : 0 ≤ at') (hn : at' + 2 ≤ n)
include ha hn
theorem rdA_len : (rdA n at').length = (n - 1).toNat := by
  unfold rdA
  simp
  omega
theorem rdA_get {k : Nat} : (rdA n at')[k]? = if (k : Int) < at' then some ((k : Int), (k : Int)) else if (k : Int) = at' then some (at', at' + 1) else if (k : Int) < n - 1 then some ((k : Int) + 1, (k : Int) + 1) else none := by
  unfold rdA
  by_cases h1 : (k : Int) < at'
  · rw [if_pos h1, List.append_assoc, List.getElem?_append_left (by simp; omega), List.getElem?_map, List.getElem?_range (by omega)]
    rfl
  · rw [if_neg h1]
    by_cases h2 : (k : Int) = at'
    · rw [if_pos h2, List.append_assoc, List.getElem?_append_right (by simp; omega)]
      have e : k - ((List.range at'.toNat).map fun k => (((k : Nat) : Int), ((k : Nat) : Int))).length = 0 := by simp; omega
      rw [e]
      rfl
    · rw [if_neg h2]
      rw [List.getElem?_append_right (by simp; omega)]
      have e : k - ((List.range at'.toNat).map (fun k => (((k : Nat) : Int), ((k : Nat) : Int))) ++ [(at', at' + 1)]).length = k - at'.toNat - 1 := by simp; omega
      rw [e, List.getElem?_map]
      by_cases h3 : (k : Int) < n - 1
      · rw [if_pos h3, List.getElem?_range (by omega)]
        have : at' + 2 + ((k - at'.toNat - 1 : Nat) : Int) = (k : Int) + 1 := by omega
        simp [this]
      · rw [if_neg h3, List.getElem?_eq_none (by simp; omega)]
        rfl
theorem mem_rdA {p : Pair} : p ∈ rdA n at' ↔ (p.1 = p.2 ∧ 0 ≤ p.1 ∧ p.1 < at') ∨ p = (at', at' + 1) ∨ (p.1 = p.2 ∧ at' + 2 ≤ p.1 ∧ p.1 < n) := by
  unfold rdA
  rw [List.mem_append, List.mem_append, List.mem_map, List.mem_map, List.mem_singleton]
  constructor
  · rintro ((⟨k, hk, rfl⟩ | h) | ⟨k, hk, rfl⟩)
    · have := List.mem_range.mp hk
      exact .inl ⟨rfl, by simp only; omega, by simp only; omega⟩
    · exact .inr (.inl h)
    · have := List.mem_range.mp hk
      exact .inr (.inr ⟨rfl, by simp only; omega, by simp only; omega⟩)
  · rintro (⟨h1, h2, h3⟩ | h | ⟨h1, h2, h3⟩)
    · exact .inl (.inl ⟨p.1.toNat, List.mem_range.mpr (by omega), Prod.ext (by simp only; omega) (by simp only; omega)⟩)
    · exact .inl (.inr h)
    · exact .inr ⟨(p.1 - at' - 2).toNat, List.mem_range.mpr (by omega), Prod.ext (by simp only; omega) (by simp only; omega)⟩
theorem rdA_ok : ∀ p ∈ rdA n at', okPr n p = true := fun p hp => by
  rw [okPr_iff]
  rcases (mem_rdA ha hn).mp hp with ⟨h1, h2, h3⟩ | rfl | ⟨h1, h2, h3⟩
  · omega
  · simp only; omega
  · omega
theorem rdA_next : ∀ (j : Nat) p q, (rdA n at')[j]? = some p → (rdA n at')[j + 1]? = some q → q.1 = p.2 + 1 := fun j p q e1 e2 => by
  rw [rdA_get ha hn] at e1 e2
  have ec : ((j + 1 : Nat) : Int) = (j : Int) + 1 := by omega
  rw [ec] at e2
  split at e1
  · cases e1
    split at e2
    · cases e2; rfl
    · split at e2
      · cases e2; simp only; omega
      · split at e2
        · omega
        · cases e2
  · split at e1
    · cases e1
      split at e2
      · omega
      · split at e2
        · omega
        · split at e2
          · cases e2; simp only; omega
          · cases e2
    · split at e1
      · cases e1
        split at e2
        · omega
        · split at e2
          · omega
          · split at e2
            · cases e2; rfl
            · cases e2
      · cases e1
theorem rdA_dsum : dsum (rdA n at') = 1 := by
  have z : ∀ (f : Nat → Int) (l : List Nat), dsum (l.map fun k => (f k, f k)) = 0 := fun f l => by
    induction l with
    | nil => rfl
    | cons a l ih => rw [List.map_cons, dsum_cons, ih]; simp
  unfold rdA
  rw [dsum_app, dsum_app, z (fun k => ((k : Nat) : Int)), z (fun k => at' + 2 + ((k : Nat) : Int))]
  simp [dsum]
  omega
theorem rdA_all {r : Pair} (hd : 0 ≤ r.1) (hs : 0 ≤ r.2) : allR n r (toldR (rdA n at')) = if 1 ≤ r.1 then [rdA n at'] else [] := by
  split
  · rename_i h1
    exact allR_one hd hs (fit_told (rdA_ok ha hn) (rdA_next ha hn) (by rw [rdA_dsum ha hn]; exact h1) hs) fun rd h => told_uniq h
  · rename_i h1
    refine allR_none hd hs fun rd h => ?_
    have := told_uniq h
    subst this
    have := h.fit.2.2.2.1
    rw [rdA_dsum ha hn] at this
    omega
end
end Pl
set_option Elab.async false
set_option linter.all false
set_option maxRecDepth 100000
set_option maxHeartbeats 2000000
namespace Pl
open PySem PySem.Spec PyProof.Rows L2 Pf Sm Lw
/-- the law's own feeder -/
structure Wd where
  n : Int
  bs : List Int
  wait : List Int
  run : List Scan
  tru : List Pair
  runs : List (List Scan)
  trues : List (List Pair)
def wdO (W : Wd) : O := .dct (wD (.int W.n) (blT W.bs) (.list (W.wait.map PyData.int)) (runT W.run) (rdT W.tru) (.list (W.runs.map runT)) (.list (W.trues.map rdT)))
def overW (W : Wd) : Wd := { W with wait := [], run := [], tru := [], runs := if W.run = [] then W.runs else W.runs ++ [W.run], trues := if W.run = [] then W.trues else W.trues ++ [W.tru] }
theorem feeder_eq (x : Bool) (n : Int) (bs : List Int) (h : Hs) : S__law_feeder x [.dat (.int n), .dat (blT bs)] h = .ok (.val (.obj h.length)) (h ++ [wdO ⟨n, bs, [], [], [], [], []⟩]) := by
  simp [S__law_feeder, F__law_feeder, wD_new, wdO, runT, rdT]
theorem dct_set {h : Hs} {k i : Nat} {ρ : En} {kvs : List (Key × T)} (hl : k < h.length) (e : objS ρ i = some k) : dctS ρ (h.set k (.dct kvs)) i = some (k, kvs) := dctS_at e (by rw [List.getElem?_set_self hl])
structure WdOk (W : Wd) : Prop where
  l1 : W.wait.length < 500
  l2 : W.run.length < 500
  l3 : W.tru.length < 500
  l4 : W.runs.length < 500
  l5 : W.trues.length < 500
theorem add_list {us vs : List T} (h : us.length + vs.length ≤ 1000) : addT (.list us) (.list vs) = some (.list (us ++ vs)) := by
  rw [addT_l, if_pos (le_line h)]
theorem over_eq (x : Bool) (W : Wd) (ok : WdOk W) {h : Hs} {k : Nat} (hk : h[k]? = some (wdO W)) : S__law_over x [.obj k] h = .ok (.val (.dat .none)) (h.set k (wdO (overW W))) := by
  have hl : k < h.length := (List.getElem?_eq_some_iff.mp hk).1
  have h0 := dctS_at (ρ := [.val (.obj k)]) (i := 0) rfl hk
  have h1 : ∀ kvs, dctS [.val (.obj k)] (h.set k (.dct kvs)) 0 = some (k, kvs) := fun kvs => dct_set hl rfl
  have hne : neT (runT W.run) (.list []) = some (!W.run.isEmpty) := by rw [runT, Pf.neT_nil]; simp
  have ha1 : addT (.list (W.runs.map runT)) (.list [runT W.run]) = some (.list (W.runs.map runT ++ [runT W.run])) := add_list (by have := ok.l4; simp; omega)
  have ha2 : addT (.list (W.trues.map rdT)) (.list [rdT W.tru]) = some (.list (W.trues.map rdT ++ [rdT W.tru])) := add_list (by have := ok.l5; simp; omega)
  by_cases hr : W.run = []
  · simp [S__law_over, F__law_over, h0, hne, hr, h1, wdO, overW, runT, rdT]
    exact List.take_of_length_le (by simp)
  · have hne : neT (runT W.run) (.list []) = some true := by
      rw [hne]
      cases hc : W.run with
      | nil => exact absurd hc hr
      | cons a l => rfl
    simp [S__law_over, F__law_over, h0, hne, hr, h1, ha1, ha2, wdO, overW, -addT_l]
    try simp [runT, rdT]
    try exact List.take_of_length_le (by simp)
/-- sheets go through, from p to q -/
def thruW (W : Wd) (ws : List Int) (p q : Int) (rd : Bool) : Wd :=
  let W2 := if rd then { W with wait := ws, run := W.run ++ [(rdP W.bs (2 * p), rdP W.bs (2 * q + 1))], tru := W.tru ++ [(p, q)] } else { W with wait := ws }
  if ws = [] then overW W2 else W2
theorem through_eq (x : Bool) (W : Wd) (ok : WdOk W) {h : Hs} {k : Nat} {c p q : Int} {ws : List Int} {rd : Bool} (hk : h[k]? = some (wdO W)) (h1 : cutL (W.wait.map PyData.int) (some c) none = ws.map PyData.int) (h2 : L2.atI (cutL (W.wait.map PyData.int) none (some c)) 0 = some (.int p)) (h3 : L2.atI (cutL (W.wait.map PyData.int) none (some c)) (-1) = some (.int q)) (hws : ws.length < 500) (hr1 : W.run.length + 1 < 500) (hr2 : W.tru.length + 1 < 500) :
    S__law_through x [.obj k, .dat (.int c), .dat (.bool rd)] h = .ok (.val (.dat (if rd then scT (rdP W.bs (2 * p), rdP W.bs (2 * q + 1)) else .none))) (h.set k (wdO (thruW W ws p q rd))) := by
  have hl : k < h.length := (List.getElem?_eq_some_iff.mp hk).1
  have g0 : ∀ r, dctS (.val (.obj k) :: r) h 0 = some (k, _) := fun r => dctS_at rfl hk
  have g1 : ∀ r kvs, dctS (.val (.obj k) :: r) (h.set k (.dct kvs)) 0 = some (k, kvs) := fun r kvs => dct_set hl rfl
  have ha1 : addT (runT W.run) (.list [scT (rdP W.bs (2 * p), rdP W.bs (2 * q + 1))]) = some (runT (W.run ++ [(rdP W.bs (2 * p), rdP W.bs (2 * q + 1))])) := by
    unfold runT
    rw [add_list (by have := ok.l2; simp; omega), List.map_append]; rfl
  have ha2 : addT (rdT W.tru) (.list [.tuple [.int p, .int q]]) = some (rdT (W.tru ++ [(p, q)])) := by
    unfold rdT
    rw [add_list (by have := ok.l3; simp; omega), List.map_append]; rfl
  have hov : ∀ W', WdOk W' → S__law_over x [.obj k] (h.set k (wdO W')) = .ok (.val (.dat .none)) (h.set k (wdO (overW W'))) := fun W' o => by
    rw [over_eq x W' o (List.getElem?_set_self hl), List.set_set]
  have htk : ∀ u, (h.set k u).take h.length = h.set k u := fun u => List.take_of_length_le (by simp)
  cases rd with
  | false =>
    have o1 := hov { W with wait := ws } ⟨hws, ok.l2, ok.l3, ok.l4, ok.l5⟩
    cases ws with
    | nil =>
      simp [wdO] at o1
      simp [S__law_through, F__law_through, g0, g1, h1, h2, h3, o1, htk, thruW, wdO]
    | cons a l => simp [S__law_through, F__law_through, g0, g1, h1, h2, h3, htk, thruW, wdO]
  | true =>
    have o1 := hov { W with wait := ws, run := W.run ++ [(rdP W.bs (2 * p), rdP W.bs (2 * q + 1))], tru := W.tru ++ [(p, q)] } ⟨hws, by simpa using hr1, by simpa using hr2, ok.l4, ok.l5⟩
    have hsc : ∀ a b, PyData.tuple [pgT a, pgT b] = scT (a, b) := fun _ _ => rfl
    by_cases m1 : 2 * p ∈ W.bs <;> by_cases m2 : 2 * q + 1 ∈ W.bs <;> cases ws with
    | nil =>
      simp [wdO, rdP, m1, m2, scT, pgT] at o1 ha1 ha2
      simp [S__law_through, F__law_through, g0, g1, h1, h2, h3, inT_blind, m1, m2, o1, ha1, ha2, htk, thruW, wdO, rdP, scT, pgT]
    | cons a l =>
      simp [wdO, rdP, m1, m2, scT, pgT] at ha1 ha2
      simp [S__law_through, F__law_through, g0, g1, h1, h2, h3, inT_blind, m1, m2, ha1, ha2, htk, thruW, wdO, rdP, scT, pgT]
end Pl
set_option Elab.async false
set_option linter.all false
set_option maxRecDepth 100000
set_option maxHeartbeats 2000000
namespace Pl
open PySem PySem.Spec PyProof.Rows L2 Pf Sm Lw
theorem doesJ_eq (x : Bool) (W : Wd) (ok : WdOk W) {h : Hs} {k : Nat} (hk : h[k]? = some (wdO W)) : S__law_does x [.obj k, .dat (.tuple [.str "jam"])] h = if W.wait = [] then .ok (.val (.dat (.tuple [.str "NoSheet", .int 0]))) h else .ok (.val (.dat .none)) (h.set k (wdO (overW W))) := by
  have hl : k < h.length := (List.getElem?_eq_some_iff.mp hk).1
  have g0 : ∀ r, dctS (.val (.obj k) :: r) h 0 = some (k, _) := fun r => dctS_at rfl hk
  have e1 : eqT (.str "jam") (.str "put") = some false := rfl
  have e2 : eqT (.str "jam") (.str "twice") = some false := rfl
  have e3 : eqT (.str "jam") (.str "jam") = some true := rfl
  have htk : ∀ u, (h.set k u).take h.length = h.set k u := fun u => List.take_of_length_le (by simp)
  by_cases hw : W.wait = []
  · simp [S__law_does, F__law_does, g0, e1, e2, e3, hw, htk]
  · have hn : ¬ ((W.wait.length : Int) < 1) := by
      cases hc : W.wait with
      | nil => exact absurd hc hw
      | cons a l => simp; omega
    simp [S__law_does, F__law_does, g0, e1, e2, e3, hw, htk, hn, over_eq x W ok hk]
theorem doesF_eq (x : Bool) (W : Wd) (ok : WdOk W) {h : Hs} {k : Nat} {p q : Int} {ws : List Int} (hk : h[k]? = some (wdO W)) (h1 : cutL (W.wait.map PyData.int) (some 1) none = ws.map PyData.int) (h2 : 1 ≤ W.wait.length → L2.atI (cutL (W.wait.map PyData.int) none (some 1)) 0 = some (.int p)) (h3 : 1 ≤ W.wait.length → L2.atI (cutL (W.wait.map PyData.int) none (some 1)) (-1) = some (.int q)) (hws : ws.length < 500) (hr1 : W.run.length + 1 < 500) (hr2 : W.tru.length + 1 < 500) :
    S__law_does x [.obj k, .dat (.tuple [.str "feed"])] h = if W.wait.length < 1 then .ok (.val (.dat (.tuple [.str "NoSheet", .int 0]))) h else .ok (.val (.dat (if true then scT (rdP W.bs (2 * p), rdP W.bs (2 * q + 1)) else .none))) (h.set k (wdO (thruW W ws p q true))) := by
  have hl : k < h.length := (List.getElem?_eq_some_iff.mp hk).1
  have g0 : ∀ r, dctS (.val (.obj k) :: r) h 0 = some (k, _) := fun r => dctS_at rfl hk
  have e1 : eqT (.str "feed") (.str "put") = some false := rfl
  have e2 : eqT (.str "feed") (.str "twice") = some false := rfl
  have e3 : eqT (.str "feed") (.str "jam") = some false := rfl
  have e4 : neT (.str "feed") (.str "slip") = some true := rfl
  have htk : ∀ u, (h.set k u).take h.length = h.set k u := fun u => List.take_of_length_le (by simp)
  by_cases hw : W.wait.length < 1
  · have hn : ((W.wait.length : Int) < 1) := by omega
    simp [S__law_does, F__law_does, g0, e1, e2, e3, hw, htk, hn]
  · have hn : ¬ ((W.wait.length : Int) < 1) := by omega
    have ht := through_eq x W ok (rd := true) hk h1 (h2 (by omega)) (h3 (by omega)) hws hr1 hr2
    simp [S__law_does, F__law_does, g0, e1, e2, e3, e4, hw, htk, hn, ht]
theorem doesS_eq (x : Bool) (W : Wd) (ok : WdOk W) {h : Hs} {k : Nat} {p q : Int} {ws : List Int} (hk : h[k]? = some (wdO W)) (h1 : cutL (W.wait.map PyData.int) (some 1) none = ws.map PyData.int) (h2 : 1 ≤ W.wait.length → L2.atI (cutL (W.wait.map PyData.int) none (some 1)) 0 = some (.int p)) (h3 : 1 ≤ W.wait.length → L2.atI (cutL (W.wait.map PyData.int) none (some 1)) (-1) = some (.int q)) (hws : ws.length < 500) (hr1 : W.run.length + 1 < 500) (hr2 : W.tru.length + 1 < 500) :
    S__law_does x [.obj k, .dat (.tuple [.str "slip"])] h = if W.wait.length < 1 then .ok (.val (.dat (.tuple [.str "NoSheet", .int 0]))) h else .ok (.val (.dat (if false then scT (rdP W.bs (2 * p), rdP W.bs (2 * q + 1)) else .none))) (h.set k (wdO (thruW W ws p q false))) := by
  have hl : k < h.length := (List.getElem?_eq_some_iff.mp hk).1
  have g0 : ∀ r, dctS (.val (.obj k) :: r) h 0 = some (k, _) := fun r => dctS_at rfl hk
  have e1 : eqT (.str "slip") (.str "put") = some false := rfl
  have e2 : eqT (.str "slip") (.str "twice") = some false := rfl
  have e3 : eqT (.str "slip") (.str "jam") = some false := rfl
  have e4 : neT (.str "slip") (.str "slip") = some false := rfl
  have htk : ∀ u, (h.set k u).take h.length = h.set k u := fun u => List.take_of_length_le (by simp)
  by_cases hw : W.wait.length < 1
  · have hn : ((W.wait.length : Int) < 1) := by omega
    simp [S__law_does, F__law_does, g0, e1, e2, e3, hw, htk, hn]
  · have hn : ¬ ((W.wait.length : Int) < 1) := by omega
    have ht := through_eq x W ok (rd := false) hk h1 (h2 (by omega)) (h3 (by omega)) hws hr1 hr2
    simp [S__law_does, F__law_does, g0, e1, e2, e3, e4, hw, htk, hn, ht]
theorem doesT_eq (x : Bool) (W : Wd) (ok : WdOk W) {h : Hs} {k : Nat} {p q : Int} {ws : List Int} (hk : h[k]? = some (wdO W)) (h1 : cutL (W.wait.map PyData.int) (some 2) none = ws.map PyData.int) (h2 : 2 ≤ W.wait.length → L2.atI (cutL (W.wait.map PyData.int) none (some 2)) 0 = some (.int p)) (h3 : 2 ≤ W.wait.length → L2.atI (cutL (W.wait.map PyData.int) none (some 2)) (-1) = some (.int q)) (hws : ws.length < 500) (hr1 : W.run.length + 1 < 500) (hr2 : W.tru.length + 1 < 500) :
    S__law_does x [.obj k, .dat (.tuple [.str "twice"])] h = if W.wait.length < 2 then .ok (.val (.dat (.tuple [.str "NoSheet", .int 0]))) h else .ok (.val (.dat (if true then scT (rdP W.bs (2 * p), rdP W.bs (2 * q + 1)) else .none))) (h.set k (wdO (thruW W ws p q true))) := by
  have hl : k < h.length := (List.getElem?_eq_some_iff.mp hk).1
  have g0 : ∀ r, dctS (.val (.obj k) :: r) h 0 = some (k, _) := fun r => dctS_at rfl hk
  have e1 : eqT (.str "twice") (.str "put") = some false := rfl
  have e2 : eqT (.str "twice") (.str "twice") = some true := rfl
  have e3 : eqT (.str "twice") (.str "jam") = some false := rfl
  have e4 : neT (.str "twice") (.str "slip") = some true := rfl
  have htk : ∀ u, (h.set k u).take h.length = h.set k u := fun u => List.take_of_length_le (by simp)
  by_cases hw : W.wait.length < 2
  · have hn : ((W.wait.length : Int) < 2) := by omega
    simp [S__law_does, F__law_does, g0, e1, e2, e3, hw, htk, hn]
  · have hn : ¬ ((W.wait.length : Int) < 2) := by omega
    have ht := through_eq x W ok (rd := true) hk h1 (h2 (by omega)) (h3 (by omega)) hws hr1 hr2
    simp [S__law_does, F__law_does, g0, e1, e2, e3, e4, hw, htk, hn, ht]
theorem doesP_eq (x : Bool) (W : Wd) {h : Hs} {k : Nat} {a b : Int} (hk : h[k]? = some (wdO W)) (hro : rngOk a (b + 1) = true) :
    S__law_does x [.obj k, .dat (.tuple [.str "put", .int a, .int b])] h = if ¬ (0 ≤ a ∧ a ≤ b ∧ b < W.n) then .ok (.val (.dat (.tuple [.str "BadStack", .int 0]))) h else if W.wait ≠ [] then .ok (.val (.dat (.tuple [.str "Busy", .int 0]))) h else .ok (.val (.dat .none)) (h.set k (wdO { W with wait := (List.range (b + 1 - a).toNat).map fun i : Nat => a + (i : Int) })) := by
  have hl : k < h.length := (List.getElem?_eq_some_iff.mp hk).1
  have g0 : ∀ r, dctS (.val (.obj k) :: r) h 0 = some (k, _) := fun r => dctS_at rfl hk
  have e1 : eqT (.str "put") (.str "put") = some true := rfl
  have htk : ∀ u, (h.set k u).take h.length = h.set k u := fun u => List.take_of_length_le (by simp)
  by_cases c1 : 0 ≤ a
  · by_cases c2 : a ≤ b
    · by_cases c3 : b < W.n
      · cases hw : W.wait with
        | nil =>
          simp [S__law_does, F__law_does, g0, e1, htk, c1, c2, c3, hw, hro]
          simp [wdO, rngT, Function.comp_def]
        | cons u l => simp [S__law_does, F__law_does, g0, e1, htk, c1, c2, c3, hw]
      · simp [S__law_does, F__law_does, g0, e1, htk, c1, c2, c3]
    · simp [S__law_does, F__law_does, g0, e1, htk, c1, c2]
  · simp [S__law_does, F__law_does, g0, e1, htk, c1]
end Pl
set_option Elab.async false
set_option linter.all false
set_option maxRecDepth 100000
set_option maxHeartbeats 2000000
namespace Pl
open PySem PySem.Spec PyProof.Rows L2 Pf Sm Lw
inductive Stp where
  | put (a b : Int)
  | feed
  | twice
  | slip
  | jam
def stpT : Stp → T
  | .put a b => .tuple [.str "put", .int a, .int b]
  | .feed => .tuple [.str "feed"]
  | .twice => .tuple [.str "twice"]
  | .slip => .tuple [.str "slip"]
  | .jam => .tuple [.str "jam"]
structure Tbl where
  d : Int
  s : Int
  w : Option Int
  b1 : Int
  b2 : Int
def Tbl.up (t : Tbl) : Tbl := { t with b1 := if t.b1 < t.d then t.d else t.b1, b2 := if t.b2 < t.s then t.s else t.b2 }
def Tbl.step (t : Tbl) : Stp → Tbl
  | .put _ _ => Tbl.up { t with d := 0, s := 0, w := none }
  | .jam => Tbl.up { t with d := 0, s := 0, w := none }
  | .slip => Tbl.up { t with w := t.w.map (· + 1) }
  | .feed => Tbl.up { t with s := t.s + t.w.getD 0, w := some 0 }
  | .twice => Tbl.up { t with s := t.s + t.w.getD 0, w := some 0, d := t.d + 1 }
def tbl (l : List Stp) : Tbl := l.foldl Tbl.step ⟨0, 0, none, 0, 0⟩
def opT : Option Int → T
  | none => .none
  | some i => .int i
theorem troubles_eq (x : Bool) (l : List Stp) (h : Hs) : S_troubles x [.dat (.list (l.map stpT))] h = .ok (.val (.dat (.tuple [.int (tbl l).b1, .int (tbl l).b2]))) h := by
  have hit : kItD (.dat (.list (l.map stpT))) h = .ok (l.map stpT) h := rfl
  generalize hG : S_troubles x _ h = G
  simp [S_troubles, F_troubles, hit] at hG
  generalize hF : forL _ _ _ _ _ = F at hG
  obtain ⟨ρ', h', rfl, rfl, a1, rfl⟩ := forL_of hF (fun i ρ h' => h' = h ∧ ∃ a1, ρ = [vd (.list (l.map stpT)), a1, vi (tbl (l.take i)).d, vi (tbl (l.take i)).s, vd (opT (tbl (l.take i)).w), vd (.tuple [.int (tbl (l.take i)).b1, .int (tbl (l.take i)).b2])]) ⟨rfl, _, rfl⟩ (by
    rintro i t ρ h' e ⟨rfl, a1, rfl⟩ Q hn
    obtain ⟨b, hbi, rfl⟩ := map_get e
    have ht : tbl (l.take (i + 1)) = (tbl (l.take i)).step b := by
      rw [List.take_succ, hbi]
      simp [tbl, List.foldl_append]
    rw [ht] at hn
    generalize tbl (l.take i) = t at hn ⊢
    obtain ⟨d, s, w, b1, b2⟩ := t
    have i1 : ∀ z : T, inT (.str "put") (.tuple [.str "put", .str "jam"]) = some true ∧ inT (.str "jam") (.tuple [.str "put", .str "jam"]) = some true ∧ inT (.str "feed") (.tuple [.str "put", .str "jam"]) = some false ∧ inT (.str "twice") (.tuple [.str "put", .str "jam"]) = some false ∧ inT (.str "slip") (.tuple [.str "put", .str "jam"]) = some false := fun _ => ⟨rfl, rfl, rfl, rfl, rfl⟩
    obtain ⟨i1, i2, i3, i4, i5⟩ := i1 .none
    have q1 : eqT (.str "feed") (.str "slip") = some false := rfl
    have q2 : eqT (.str "twice") (.str "slip") = some false := rfl
    have q3 : eqT (.str "slip") (.str "slip") = some true := rfl
    have q4 : eqT (.str "feed") (.str "twice") = some false := rfl
    have q5 : eqT (.str "twice") (.str "twice") = some true := rfl
    cases b <;> cases w <;> simp [Turn1, stpT, opT, Tbl.step, Tbl.up, i1, i2, i3, i4, i5, q1, q2, q3, q4, q5] <;> exact wp_ok (hn _ _ ⟨rfl, _, by simp [Tbl.step, Tbl.up, opT]; rfl⟩))
  simp at hG
  rw [← hG]
end Pl
set_option Elab.async false
set_option linter.all false
set_option maxRecDepth 100000
set_option maxHeartbeats 2000000
namespace Pl
open PySem PySem.Spec PyProof.Rows L2 Pf Sm Lw
/-! ### the law's feeder and the program's, side by side -/
/-- a true reading -/
structure Chn (n : Int) (rd : List Pair) : Prop where
  pr : ∀ p ∈ rd, okPr n p = true
  up : ∀ (j : Nat) p q, rd[j]? = some p → rd[j + 1]? = some q → p.2 < q.1
theorem Chn.nil {n : Int} : Chn n [] := ⟨fun _ h => (by cases h), fun j p q h => (by simp at h)⟩
theorem Chn.snoc {n : Int} {rd : List Pair} {p : Pair} (c : Chn n rd) (hp : okPr n p = true) (hl : ∀ q, rd.getLast? = some q → q.2 < p.1) : Chn n (rd ++ [p]) := by
  refine ⟨fun q hq => ?_, fun j a b ha hb => ?_⟩
  · rcases List.mem_append.mp hq with h | h
    · exact c.pr q h
    · rw [List.mem_singleton.mp h]; exact hp
  · by_cases hj : j + 1 < rd.length
    · rw [List.getElem?_append_left (by omega)] at ha
      rw [List.getElem?_append_left hj] at hb
      exact c.up j a b ha hb
    · have hj2 : j + 1 = rd.length := by
        have := (List.getElem?_eq_some_iff.mp hb).1
        simp at this
        omega
      rw [List.getElem?_append_left (by omega)] at ha
      rw [List.getElem?_append_right (by omega)] at hb
      have e0 : j + 1 - rd.length = 0 := by omega
      rw [e0] at hb
      simp at hb
      subst hb
      refine hl a ?_
      rw [List.getLast?_eq_getElem?]
      have : rd.length - 1 = j := by omega
      rw [this]
      exact ha
theorem slips_snoc {rd : List Pair} {p q : Pair} (hl : rd.getLast? = some q) : slipsOf (rd ++ [p]) = slipsOf rd + (p.1 - q.2 - 1) := by
  obtain ⟨l, rfl⟩ : ∃ l, rd = l ++ [q] := by
    rw [List.getLast?_eq_some_iff] at hl
    exact hl
  rw [List.append_assoc]
  exact slipsOf_snoc q p l
theorem dsum_snoc {rd : List Pair} {p : Pair} : dsum (rd ++ [p]) = dsum rd + (p.2 - p.1) := by
  simp [dsum]
/-- the most of numbers -/
structure MaxOf (b : Int) (l : List Int) : Prop where
  ge : ∀ x ∈ l, x ≤ b
  z : 0 ≤ b
  at_ : b = 0 ∨ b ∈ l
structure Core (i : Nat) (n : Int) (W : Wd) (F : Fd) (B1 B2 : Int) : Prop where
  wn : W.n = n
  fn : F.n = n
  wb : W.bs = []
  fb : F.bs = []
  run : W.run = F.here
  runs : W.runs = F.ended
  told : W.run = toldR W.tru
  tolds : W.runs = W.trues.map toldR
  l1 : W.tru.length ≤ i
  l2 : W.trues.length ≤ i
  ch : Chn n W.tru
  chs : ∀ r ∈ W.trues, Chn n r
  b1 : MaxOf B1 ((W.trues ++ [W.tru]).map dsum)
  b2 : MaxOf B2 ((W.trues ++ [W.tru]).map slipsOf)
structure Sim (i : Nat) (n : Int) (W : Wd) (F : Fd) (t : Tbl) : Prop where
  c : Core i n W F t.b1 t.b2
  wait : W.wait = (List.range (F.la + 1 - F.nx).toNat).map fun i : Nat => F.nx + (i : Int)
  inn : F.nx ≤ F.la → 0 ≤ F.nx ∧ F.la < n
  nowait : F.la < F.nx → W.tru = []
  beh : F.nx ≤ F.la → ∀ q, W.tru.getLast? = some q → q.2 < F.nx
  d : F.nx ≤ F.la → t.d = dsum W.tru
  s : F.nx ≤ F.la → t.s = slipsOf W.tru
  w : F.nx ≤ F.la → t.w = W.tru.getLast?.map fun q => F.nx - q.2 - 1
theorem MaxOf.up {b c : Int} {l : List Int} {x y : Int} (h : MaxOf b (l ++ [x])) (hxy : x ≤ y) (hc : c = if b < y then y else b) : MaxOf c (l ++ [y]) := by
  subst hc
  refine ⟨fun z hz => ?_, ?_, ?_⟩
  · rcases List.mem_append.mp hz with h1 | h1
    · have := h.ge z (List.mem_append.mpr (.inl h1))
      split <;> omega
    · rw [List.mem_singleton.mp h1]
      split <;> omega
  · have := h.z
    split <;> omega
  · split
    · exact .inr (by simp)
    · rename_i hby
      rcases h.at_ with h1 | h1
      · exact .inl h1
      · rcases List.mem_append.mp h1 with h2 | h2
        · exact .inr (List.mem_append.mpr (.inl h2))
        · have := List.mem_singleton.mp h2
          right
          simp
          omega
theorem MaxOf.ext {b : Int} {l l' : List Int} (h : MaxOf b l) (e : ∀ x, x ≠ 0 → (x ∈ l ↔ x ∈ l')) : MaxOf b l' := by
  refine ⟨fun x hx => ?_, h.z, ?_⟩
  · by_cases h0 : x = 0
    · have := h.z; omega
    · exact h.ge x ((e x h0).mpr hx)
  · by_cases h0 : b = 0
    · exact .inl h0
    · exact .inr ((e b h0).mp (h.at_.resolve_left h0))
/-- the run is over -/
theorem Core.over {i j : Nat} {n : Int} {W : Wd} {F : Fd} {t : Tbl} (S : Core j n W F t.b1 t.b2) (hl2 : W.trues.length ≤ i) : Sim (i + 1) n (overW W) (endF F) t := by
  have hr : W.run = [] ↔ W.tru = [] := by
    rw [S.told]
    unfold toldR
    simp
  have key : ∀ (g : List Pair → Int), g [] = 0 → ∀ x, x ≠ 0 → (x ∈ (W.trues ++ [W.tru]).map g ↔ x ∈ ((if W.run = [] then W.trues else W.trues ++ [W.tru]) ++ [[]]).map g) := fun g hg x hx => by
    split
    · rename_i h1
      rw [hr.mp h1]
    · simp [hg, hx]
  have no : ¬ ((0 : Int) ≤ -1) := by decide
  refine ⟨⟨S.wn, S.fn, S.wb, S.fb, rfl, ?_, rfl, ?_, by simp [overW], ?_, .nil, fun r hm => ?_, S.b1.ext (key dsum rfl), S.b2.ext (key slipsOf rfl)⟩, rfl, fun h => absurd h no, fun _ => rfl, fun h => absurd h no, fun h => absurd h no, fun h => absurd h no, fun h => absurd h no⟩
  · show (if W.run = [] then W.runs else W.runs ++ [W.run]) = if F.here = [] then F.ended else F.ended ++ [F.here]
    rw [S.run, S.runs]
  · show (if W.run = [] then W.runs else W.runs ++ [W.run]) = (if W.run = [] then W.trues else W.trues ++ [W.tru]).map toldR
    split
    · exact S.tolds
    · rw [List.map_append, ← S.tolds, List.map_singleton, ← S.told]
  · show (if W.run = [] then W.trues else W.trues ++ [W.tru]).length ≤ i + 1
    have := hl2
    split
    · omega
    · simp; omega
  · have hm : r ∈ (if W.run = [] then W.trues else W.trues ++ [W.tru]) := hm
    split at hm
    · exact S.chs r hm
    · rcases List.mem_append.mp hm with h | h
      · exact S.chs r h
      · rw [List.mem_singleton.mp h]; exact S.ch
theorem Sim.more {i j : Nat} {n : Int} {W : Wd} {F : Fd} {t : Tbl} (S : Sim i n W F t) (h : i ≤ j) : Sim j n W F t := { S with c := { S.c with l1 := Nat.le_trans S.c.l1 h, l2 := Nat.le_trans S.c.l2 h } }
theorem Core.to {i : Nat} {n : Int} {W : Wd} {F : Fd} {b1 b2 c1 c2 : Int} (S : Core i n W F b1 b2) (e1 : b1 = c1) (e2 : b2 = c2) : Core i n W F c1 c2 := by subst e1 e2; exact S
theorem up0 {t : Tbl} {d s : Int} {w : Option Int} (h1 : d ≤ t.b1) (h2 : s ≤ t.b2) : Tbl.up { t with d := d, s := s, w := w } = { t with d := d, s := s, w := w } := by
  unfold Tbl.up
  dsimp only
  rw [if_neg (by omega), if_neg (by omega)]
section
variable {i : Nat} {n : Int} {W : Wd} {F : Fd} {t : Tbl}
theorem Sim.jam (S : Sim i n W F t) : Sim (i + 1) n (overW W) (endF F) (t.step .jam) := by
  have e : t.step .jam = { t with d := 0, s := 0, w := none } := up0 S.c.b1.z S.c.b2.z
  rw [e]
  exact Core.over (t := { t with d := 0, s := 0, w := none }) S.c S.c.l2
theorem Sim.put (S : Sim i n W F t) {a b : Int} (h0 : 0 ≤ a) (h1 : a ≤ b) (h2 : b < n) (hw : F.la < F.nx) : Sim (i + 1) n { W with wait := (List.range (b + 1 - a).toNat).map fun i : Nat => a + (i : Int) } { F with nx := a, la := b } (t.step (.put a b)) := by
  have e : t.step (.put a b) = { t with d := 0, s := 0, w := none } := up0 S.c.b1.z S.c.b2.z
  rw [e]
  have ht := S.nowait hw
  refine ⟨{ S.c with l1 := Nat.le_succ_of_le S.c.l1, l2 := Nat.le_succ_of_le S.c.l2, wn := S.c.wn, fn := S.c.fn, wb := S.c.wb, fb := S.c.fb, run := S.c.run, runs := S.c.runs, told := S.c.told, tolds := S.c.tolds, ch := S.c.ch, chs := S.c.chs, b1 := S.c.b1, b2 := S.c.b2 }, rfl, fun _ => ⟨h0, h2⟩, fun _ => ht, fun _ q hq => ?_, fun _ => ?_, fun _ => ?_, fun _ => ?_⟩
  · have hq : W.tru.getLast? = some q := hq
    rw [ht] at hq
    cases hq
  · show 0 = dsum W.tru
    rw [ht]; rfl
  · show 0 = slipsOf W.tru
    rw [ht]; rfl
  · show none = W.tru.getLast?.map _
    rw [ht]; rfl
/-- what waits behind so many -/
def restF (F : Fd) (c : Int) : List Int := (List.range (F.la + 1 - (F.nx + c)).toNat).map fun i : Nat => F.nx + c + (i : Int)
theorem rest_nil {c : Int} : restF F c = [] ↔ F.la < F.nx + c := by
  unfold restF
  simp
  omega
theorem Sim.slip (S : Sim i n W F t) (hw : F.nx ≤ F.la) : Sim (i + 1) n (thruW W (restF F 1) p q false) (passF F 1) (t.step .slip) := by
  have hd := S.d hw
  have hs := S.s hw
  have m1 := S.c.b1.ge (dsum W.tru) (by simp)
  have m2 := S.c.b2.ge (slipsOf W.tru) (by simp)
  have e : t.step .slip = { t with w := t.w.map (· + 1) } := up0 (t := t) (d := t.d) (s := t.s) (by omega) (by omega)
  rw [e]
  have cc : Core i n { W with wait := restF F 1 } { F with nx := F.nx + 1 } t.b1 t.b2 := { S.c with }
  unfold thruW passF
  simp only [Bool.false_eq_true, if_false]
  by_cases hc : F.la < F.nx + 1
  · rw [if_pos (rest_nil.mpr hc), if_pos hc]
    exact Core.over (t := { t with w := t.w.map (· + 1) }) cc S.c.l2
  · rw [if_neg (fun z => hc (rest_nil.mp z)), if_neg hc]
    obtain ⟨i1, i2⟩ := S.inn hw
    refine (Sim.mk (t := { t with w := t.w.map (· + 1) }) cc rfl (fun _ => ⟨by show 0 ≤ F.nx + 1; omega, i2⟩) (fun z => absurd z hc) (fun _ q hq => ?_) (fun _ => hd) (fun _ => hs) fun _ => ?_).more (Nat.le_succ _)
    · have := S.beh hw q hq
      show q.2 < F.nx + 1
      omega
    · show t.w.map (· + 1) = W.tru.getLast?.map fun q => F.nx + 1 - q.2 - 1
      rw [S.w hw, Option.map_map]
      congr 1
      funext q
      show F.nx - q.2 - 1 + 1 = F.nx + 1 - q.2 - 1
      omega
theorem Sim.take (S : Sim i n W F t) {c : Int} (hc : c = 1 ∨ c = 2) (hw : F.nx + c ≤ F.la + 1) : Sim (i + 1) n (thruW W (restF F c) F.nx (F.nx + c - 1) true) (takeF F c) (t.step (if c = 1 then .feed else .twice)) := by
  have hw0 : F.nx ≤ F.la := by omega
  have hd := S.d hw0
  have hs := S.s hw0
  obtain ⟨i1, i2⟩ := S.inn hw0
  have hpr : okPr n (F.nx, F.nx + c - 1) = true := okPr_iff.mpr (by simp only; omega)
  have hch := S.c.ch.snoc hpr fun q hq => S.beh hw0 q hq
  have gap : slipsOf (W.tru ++ [(F.nx, F.nx + c - 1)]) = t.s + t.w.getD 0 ∧ 0 ≤ t.w.getD 0 := by
    rw [S.w hw0, hs]
    cases hl : W.tru.getLast? with
    | none =>
      have : W.tru = [] := by simpa using hl
      rw [this]
      exact ⟨rfl, Int.le_refl _⟩
    | some q =>
      have := S.beh hw0 q hl
      rw [slips_snoc hl]
      exact ⟨rfl, by show 0 ≤ F.nx - q.2 - 1; omega⟩
  obtain ⟨gap, g0⟩ := gap
  have dd : dsum (W.tru ++ [(F.nx, F.nx + c - 1)]) = t.d + (c - 1) := by
    rw [dsum_snoc, hd]
    show _ + (F.nx + c - 1 - F.nx) = _
    omega
  have e : t.step (if c = 1 then .feed else .twice) = Tbl.up { t with s := t.s + t.w.getD 0, w := some 0, d := t.d + (c - 1) } := by
    rcases hc with rfl | rfl
    · simp [Tbl.step]
    · simp [Tbl.step]
  rw [e]
  have B1 := S.c.b1
  have B2 := S.c.b2
  rw [List.map_append, List.map_singleton] at B1 B2
  have cc : Core (i + 1) n { W with wait := restF F c, run := W.run ++ [(rdP W.bs (2 * F.nx), rdP W.bs (2 * (F.nx + c - 1) + 1))], tru := W.tru ++ [(F.nx, F.nx + c - 1)] } { F with here := F.here ++ [scanF F c], nx := F.nx + c } (Tbl.up { t with s := t.s + t.w.getD 0, w := some 0, d := t.d + (c - 1) }).b1 (Tbl.up { t with s := t.s + t.w.getD 0, w := some 0, d := t.d + (c - 1) }).b2 := by
    refine ⟨S.c.wn, S.c.fn, S.c.wb, S.c.fb, ?_, S.c.runs, ?_, S.c.tolds, ?_, Nat.le_succ_of_le S.c.l2, hch, S.c.chs, ?_, ?_⟩
    · show W.run ++ _ = F.here ++ _
      rw [S.c.run, S.c.wb]
      unfold scanF
      rw [S.c.fb]
    · show W.run ++ _ = toldR (W.tru ++ [_])
      rw [S.c.told, S.c.wb]
      simp [toldR, toldS, rdP]
    · have := S.c.l1
      simp
      exact this
    · rw [List.map_append, List.map_singleton]
      refine B1.up ?_ ?_
      · show dsum W.tru ≤ dsum (W.tru ++ [(F.nx, F.nx + c - 1)])
        rw [dd, hd]; omega
      · show _ = if t.b1 < dsum (W.tru ++ [(F.nx, F.nx + c - 1)]) then dsum (W.tru ++ [(F.nx, F.nx + c - 1)]) else t.b1
        rw [dd]
        rfl
    · rw [List.map_append, List.map_singleton]
      refine B2.up ?_ ?_
      · show slipsOf W.tru ≤ slipsOf (W.tru ++ [(F.nx, F.nx + c - 1)])
        rw [gap, hs]; omega
      · show _ = if t.b2 < slipsOf (W.tru ++ [(F.nx, F.nx + c - 1)]) then slipsOf (W.tru ++ [(F.nx, F.nx + c - 1)]) else t.b2
        rw [gap]
        rfl
  unfold thruW takeF passF
  simp only [if_true]
  by_cases hcc : F.la < F.nx + c
  · rw [if_pos (rest_nil.mpr hcc), if_pos hcc]
    exact Core.over cc S.c.l2
  · rw [if_neg (fun z => hcc (rest_nil.mp z)), if_neg hcc]
    refine Sim.mk cc rfl (fun _ => ⟨by show 0 ≤ F.nx + c; omega, i2⟩) (fun z => absurd z hcc) (fun _ q hq => ?_) (fun _ => dd.symm) (fun _ => gap.symm) fun _ => ?_
    · have hq : (W.tru ++ [(F.nx, F.nx + c - 1)]).getLast? = some q := hq
      simp at hq
      subst hq
      show F.nx + c - 1 < F.nx + c
      omega
    · show some 0 = (W.tru ++ [(F.nx, F.nx + c - 1)]).getLast?.map fun q => F.nx + c - q.2 - 1
      simp
      omega
end
end Pl
set_option Elab.async false
set_option linter.all false
set_option maxRecDepth 100000
set_option maxHeartbeats 2000000
namespace Pl
open PySem PySem.Spec PyProof.Rows L2 Pf Sm Lw
/-! ### one step on both -/
section
variable {F : Fd}
theorem cut_rest {a : Int} {m : Nat} {c : Nat} : cutL (((List.range m).map fun i : Nat => a + (i : Int)).map PyData.int) (some (c : Int)) none = ((List.range (m - c)).map fun i : Nat => a + c + (i : Int)).map PyData.int := by
  rw [cut_from (by omega)]
  apply List.ext_getElem?
  intro k
  rw [List.getElem?_drop]
  simp only [List.getElem?_map]
  by_cases hk : k < m - c
  · rw [List.getElem?_range (by simp; omega), List.getElem?_range hk]
    simp
    omega
  · rw [List.getElem?_eq_none (by simp; omega), List.getElem?_eq_none (by simp; omega)]
    rfl
theorem cut_head {a : Int} {m : Nat} {c : Nat} (h1 : 1 ≤ c) (h : c ≤ m) : L2.atI (cutL (((List.range m).map fun i : Nat => a + (i : Int)).map PyData.int) none (some (c : Int))) 0 = some (.int a) := by
  rw [cut_to (by omega), atI_pos (by decide)]
  simp
  rw [List.getElem?_take_of_lt (by omega), List.getElem?_map, List.getElem?_range (by omega)]
  simp
theorem cut_last {a : Int} {m : Nat} {c : Nat} (h : c + 1 ≤ m) : L2.atI (cutL (((List.range m).map fun i : Nat => a + (i : Int)).map PyData.int) none (some ((c + 1 : Nat) : Int))) (-1) = some (.int (a + c)) := by
  rw [cut_to (by omega)]
  have : ((((List.range m).map fun i : Nat => a + (i : Int)).map PyData.int).take ((c + 1 : Nat) : Int).toNat) = ((((List.range m).map fun i : Nat => a + (i : Int)).map PyData.int).take c) ++ [.int (a + c)] := by
    have e : ((c + 1 : Nat) : Int).toNat = c + 1 := by omega
    rw [e, take_one (a := .int (a + c))]
    rw [List.getElem?_map, List.getElem?_map, List.getElem?_range (by omega)]
    rfl
  rw [this, atI_last]
end
section
variable {x : Bool} {F : Fd} {j : Nat} {h : Hs}
theorem do_feed (hj : h[j]? = some (fdO F)) (ok : FdOk F) (hc : F.nx ≤ F.la) (hl : F.here.length + 1 < 100000) : S__law_do x [.obj j, .dat (stpT .feed)] h = .ok (.val (.dat (scT (scanF F 1)))) (h.set j (fdO (takeF F 1))) := by
  have m1 := fun ρ g => fm (F := F) (x := x) (np := 1) (s := S_Feeder_feed x) (g := g) (ρ := ρ) "feed" rfl hj
  have e1 : eqT (.str "feed") (.str "put") = some false := rfl
  have e2 : eqT (.str "feed") (.str "feed") = some true := rfl
  simp [S__law_do, F__law_do, stpT, e1, e2, m1, feed_eq x hj ok hc hl]
  rw [List.take_of_length_le (by simp)]
theorem do_twice (hj : h[j]? = some (fdO F)) (ok : FdOk F) (hc : F.nx < F.la) (hl : F.here.length + 1 < 100000) : S__law_do x [.obj j, .dat (stpT .twice)] h = .ok (.val (.dat (scT (scanF F 2)))) (h.set j (fdO (takeF F 2))) := by
  have m1 := fun ρ g => fm (F := F) (x := x) (np := 1) (s := S_Feeder_twice x) (g := g) (ρ := ρ) "twice" rfl hj
  have e1 : eqT (.str "twice") (.str "put") = some false := rfl
  have e2 : eqT (.str "twice") (.str "feed") = some false := rfl
  have e3 : eqT (.str "twice") (.str "twice") = some true := rfl
  simp [S__law_do, F__law_do, stpT, e1, e2, e3, m1, twice_eq x hj ok hc hl]
  rw [List.take_of_length_le (by simp)]
theorem do_slip (hj : h[j]? = some (fdO F)) (ok : FdOk F) (hc : F.nx ≤ F.la) : S__law_do x [.obj j, .dat (stpT .slip)] h = .ok (.val (.dat .none)) (h.set j (fdO (passF F 1))) := by
  have m1 := fun ρ g => fm (F := F) (x := x) (np := 1) (s := S_Feeder_slip x) (g := g) (ρ := ρ) "slip" rfl hj
  have e1 : eqT (.str "slip") (.str "put") = some false := rfl
  have e2 : eqT (.str "slip") (.str "feed") = some false := rfl
  have e3 : eqT (.str "slip") (.str "twice") = some false := rfl
  have e4 : eqT (.str "slip") (.str "slip") = some true := rfl
  simp [S__law_do, F__law_do, stpT, e1, e2, e3, e4, m1, slip_eq x hj ok hc]
  rw [List.take_of_length_le (by simp)]
theorem do_jam (hj : h[j]? = some (fdO F)) (ok : FdOk F) (hc : F.nx ≤ F.la) : S__law_do x [.obj j, .dat (stpT .jam)] h = .ok (.val (.dat .none)) (h.set j (fdO (endF F))) := by
  have m1 := fun ρ g => fm (F := F) (x := x) (np := 1) (s := S_Feeder_jam x) (g := g) (ρ := ρ) "jam" rfl hj
  have e1 : eqT (.str "jam") (.str "put") = some false := rfl
  have e2 : eqT (.str "jam") (.str "feed") = some false := rfl
  have e3 : eqT (.str "jam") (.str "twice") = some false := rfl
  have e4 : eqT (.str "jam") (.str "slip") = some false := rfl
  simp [S__law_do, F__law_do, stpT, e1, e2, e3, e4, m1, jam_eq x hj ok hc]
  rw [List.take_of_length_le (by simp)]
theorem do_put {lo hi : Int} (hj : h[j]? = some (fdO F)) (h0 : 0 ≤ lo) (h1 : lo ≤ hi) (h2 : hi < F.n) (hw : F.la < F.nx) : S__law_do x [.obj j, .dat (stpT (.put lo hi))] h = .ok (.val (.dat .none)) (h.set j (fdO { F with nx := lo, la := hi })) := by
  have m1 := fun ρ g => fm (F := F) (x := x) (np := 3) (s := S_Feeder_put x) (g := g) (ρ := ρ) "put" rfl hj
  have e1 : eqT (.str "put") (.str "put") = some true := rfl
  simp [S__law_do, F__law_do, stpT, e1, m1, put_eq x hj h0 h1 h2 hw]
  rw [List.take_of_length_le (by simp)]
end
def noL : T := .list [.tuple [.str "BadStack", .int 0], .tuple [.str "Busy", .int 0], .tuple [.str "NoSheet", .int 0]]
theorem nin_none : ninT .none noL = some true := rfl
theorem nin_sc (a b : Int) : ninT (.tuple [.int a, .int b]) noL = some true := by
  simp [ninT, noL, inT, PyData.depth, PyData.depthAll, PyData.eqv, PyData.eqvAll]
theorem nin_1 : ninT (.tuple [.str "BadStack", .int 0]) noL = some false := by decide
theorem nin_2 : ninT (.tuple [.str "Busy", .int 0]) noL = some false := by decide
theorem nin_3 : ninT (.tuple [.str "NoSheet", .int 0]) noL = some false := by decide
def stOk : Stp → Prop
  | .put a b => -1000 ≤ a ∧ a ≤ 1000 ∧ -1000 ≤ b ∧ b ≤ 1000
  | _ => True
theorem step_eq (x : Bool) {i : Nat} {n : Int} {W : Wd} {F : Fd} {t : Tbl} {h : Hs} {j k : Nat} (S : Sim i n W F t) (hi : i < 300) (hn : n ≤ 30) (hj : h[j]? = some (fdO F)) (hk : h[k]? = some (wdO W)) (hjk : j ≠ k) (st : Stp) (hst : stOk st) :
    (∃ r, S__law_does x [.obj k, .dat (stpT st)] h = .ok (.val (.dat r)) h ∧ ninT r noL = some false) ∨
    ∃ r r2 W' F', S__law_does x [.obj k, .dat (stpT st)] h = .ok (.val (.dat r)) (h.set k (wdO W')) ∧ ninT r noL = some true ∧ S__law_do x [.obj j, .dat (stpT st)] (h.set k (wdO W')) = .ok (.val (.dat r2)) ((h.set k (wdO W')).set j (fdO F')) ∧ Sim (i + 1) n W' F' (t.step st) := by
  have hj2 : ∀ u, (h.set k u)[j]? = some (fdO F) := fun u => by rw [List.getElem?_set_ne (Ne.symm hjk)]; exact hj
  have lr : W.run.length = W.tru.length := by rw [S.c.told]; simp [toldR]
  have lrs : W.runs.length = W.trues.length := by rw [S.c.tolds]; simp
  have l1 := S.c.l1
  have l2 := S.c.l2
  have inn := S.inn
  have lw : W.wait.length = (F.la + 1 - F.nx).toNat := by rw [S.wait]; simp
  have lw2 : W.wait.length < 500 := by
    rw [lw]
    by_cases hq : F.nx ≤ F.la
    · have := inn hq; omega
    · omega
  have ok : WdOk W := ⟨lw2, by omega, by omega, by omega, by omega⟩
  have fok : FdOk F := ⟨by rw [← S.c.run]; omega, by rw [← S.c.runs]; omega⟩
  have hlen : F.here.length + 1 < 100000 := by rw [← S.c.run]; omega
  have wnil : W.wait = [] ↔ F.la < F.nx := by
    rw [← List.length_eq_zero_iff, lw]; omega
  have lrest : ∀ c, (restF F c).length ≤ W.wait.length + c.natAbs := fun c => by unfold restF; simp; omega
  have rd : ∀ p, rdP W.bs p = some p := fun p => by rw [S.c.wb]; simp [rdP]
  cases st with
  | jam =>
    have e := doesJ_eq x W ok hk
    by_cases hw : F.la < F.nx
    · rw [if_pos (wnil.mpr hw)] at e
      exact .inl ⟨_, e, nin_3⟩
    · rw [if_neg (fun z => hw (wnil.mp z))] at e
      exact .inr ⟨_, _, _, _, e, nin_none, do_jam (hj2 _) fok (by omega), S.jam⟩
  | put a b =>
    obtain ⟨q1, q2, q3, q4⟩ := hst
    have e := doesP_eq x W (a := a) (b := b) hk (rngOk_of (by omega) (by omega) (by omega) (by omega))
    by_cases hc : 0 ≤ a ∧ a ≤ b ∧ b < W.n
    · rw [if_neg (by simpa using hc)] at e
      by_cases hw : F.la < F.nx
      · rw [if_neg (by simpa using wnil.mpr hw)] at e
        have hbn : b < n := by have := hc.2.2; rw [S.c.wn] at this; exact this
        exact .inr ⟨_, _, _, _, e, nin_none, do_put (hj2 _) hc.1 hc.2.1 (by rw [S.c.fn]; exact hbn) hw, S.put hc.1 hc.2.1 hbn hw⟩
      · rw [if_pos (fun z => hw (wnil.mp z))] at e
        exact .inl ⟨_, e, nin_2⟩
    · rw [if_pos hc] at e
      exact .inl ⟨_, e, nin_1⟩
  | feed =>
    have c1 : cutL (W.wait.map PyData.int) (some 1) none = (restF F 1).map PyData.int := by
      rw [S.wait]
      have := cut_rest (a := F.nx) (m := (F.la + 1 - F.nx).toNat) (c := 1)
      have e : (F.la + 1 - F.nx).toNat - 1 = (F.la + 1 - (F.nx + 1)).toNat := by omega
      rw [e] at this
      exact this
    have c2 : 1 ≤ W.wait.length → L2.atI (cutL (W.wait.map PyData.int) none (some 1)) 0 = some (.int F.nx) := fun z => by
      rw [lw] at z
      rw [S.wait]
      exact cut_head (c := 1) (by omega) z
    have c3 : 1 ≤ W.wait.length → L2.atI (cutL (W.wait.map PyData.int) none (some 1)) (-1) = some (.int (F.nx + 1 - 1)) := fun z => by
      rw [lw] at z
      rw [S.wait]
      have := cut_last (a := F.nx) (m := (F.la + 1 - F.nx).toNat) (c := 0) (by omega)
      have e : F.nx + 1 - 1 = F.nx + ((0 : Nat) : Int) := by omega
      rw [e]
      exact this
    have e := doesF_eq x W ok hk c1 c2 c3 (by have := lrest 1; omega) (by omega) (by omega)
    by_cases hw : W.wait.length < 1
    · rw [if_pos hw] at e
      exact .inl ⟨_, e, nin_3⟩
    · rw [if_neg hw] at e
      have hw2 : F.nx ≤ F.la := by rw [lw] at hw; omega
      exact .inr ⟨_, _, _, _, e, by rw [rd, rd]; exact nin_sc _ _, do_feed (hj2 _) fok hw2 hlen, S.take (c := 1) (.inl rfl) (by omega)⟩
  | slip =>
    have c1 : cutL (W.wait.map PyData.int) (some 1) none = (restF F 1).map PyData.int := by
      rw [S.wait]
      have := cut_rest (a := F.nx) (m := (F.la + 1 - F.nx).toNat) (c := 1)
      have e : (F.la + 1 - F.nx).toNat - 1 = (F.la + 1 - (F.nx + 1)).toNat := by omega
      rw [e] at this
      exact this
    have c2 : 1 ≤ W.wait.length → L2.atI (cutL (W.wait.map PyData.int) none (some 1)) 0 = some (.int F.nx) := fun z => by
      rw [lw] at z
      rw [S.wait]
      exact cut_head (c := 1) (by omega) z
    have c3 : 1 ≤ W.wait.length → L2.atI (cutL (W.wait.map PyData.int) none (some 1)) (-1) = some (.int (F.nx + 1 - 1)) := fun z => by
      rw [lw] at z
      rw [S.wait]
      have := cut_last (a := F.nx) (m := (F.la + 1 - F.nx).toNat) (c := 0) (by omega)
      have e : F.nx + 1 - 1 = F.nx + ((0 : Nat) : Int) := by omega
      rw [e]
      exact this
    have e := doesS_eq x W ok hk c1 c2 c3 (by have := lrest 1; omega) (by omega) (by omega)
    by_cases hw : W.wait.length < 1
    · rw [if_pos hw] at e
      exact .inl ⟨_, e, nin_3⟩
    · rw [if_neg hw] at e
      have hw2 : F.nx ≤ F.la := by rw [lw] at hw; omega
      exact .inr ⟨_, _, _, _, e, nin_none, do_slip (hj2 _) fok hw2, S.slip hw2⟩
  | twice =>
    have c1 : cutL (W.wait.map PyData.int) (some 2) none = (restF F 2).map PyData.int := by
      rw [S.wait]
      have := cut_rest (a := F.nx) (m := (F.la + 1 - F.nx).toNat) (c := 2)
      have e : (F.la + 1 - F.nx).toNat - 2 = (F.la + 1 - (F.nx + 2)).toNat := by omega
      rw [e] at this
      exact this
    have c2 : 2 ≤ W.wait.length → L2.atI (cutL (W.wait.map PyData.int) none (some 2)) 0 = some (.int F.nx) := fun z => by
      rw [lw] at z
      rw [S.wait]
      exact cut_head (c := 2) (by omega) z
    have c3 : 2 ≤ W.wait.length → L2.atI (cutL (W.wait.map PyData.int) none (some 2)) (-1) = some (.int (F.nx + 2 - 1)) := fun z => by
      rw [lw] at z
      rw [S.wait]
      have := cut_last (a := F.nx) (m := (F.la + 1 - F.nx).toNat) (c := 1) (by omega)
      have e : F.nx + 2 - 1 = F.nx + ((1 : Nat) : Int) := by omega
      rw [e]
      exact this
    have e := doesT_eq x W ok hk c1 c2 c3 (by have := lrest 2; omega) (by omega) (by omega)
    by_cases hw : W.wait.length < 2
    · rw [if_pos hw] at e
      exact .inl ⟨_, e, nin_3⟩
    · rw [if_neg hw] at e
      have hw2 : F.nx < F.la := by rw [lw] at hw; omega
      exact .inr ⟨_, _, _, _, e, by rw [rd, rd]; exact nin_sc _ _, do_twice (hj2 _) fok hw2 hlen, S.take (c := 2) (.inr rfl) (by omega)⟩
end Pl
set_option Elab.async false
set_option linter.all false
set_option maxRecDepth 100000
set_option maxHeartbeats 2000000
namespace Pl
open PySem PySem.Spec PyProof.Rows L2 Pf Sm Lw
theorem foldl_max {b : Int} : ∀ {l : List Int} {a : Int}, (∀ x ∈ a :: l, x ≤ b) → b ∈ a :: l → l.foldl max a = b
  | [], a, h1, h2 => by
    rw [List.mem_singleton] at h2
    exact h2.symm
  | c :: l, a, h1, h2 => by
    rw [List.foldl_cons]
    refine foldl_max (fun x hx => ?_) ?_
    · rcases List.mem_cons.mp hx with rfl | hx
      · have u1 := h1 a (List.mem_cons_self ..)
        have u2 := h1 c (List.mem_cons_of_mem _ (List.mem_cons_self ..))
        omega
      · exact h1 x (List.mem_cons_of_mem _ (List.mem_cons_of_mem _ hx))
    · have u1 := h1 a (List.mem_cons_self ..)
      have u2 := h1 c (List.mem_cons_of_mem _ (List.mem_cons_self ..))
      rcases List.mem_cons.mp h2 with e | h2
      · rw [List.mem_cons]; left; omega
      · rcases List.mem_cons.mp h2 with e | h2
        · rw [List.mem_cons]; left; omega
        · exact List.mem_cons_of_mem _ h2
theorem bestI (l : List Int) : (alikes (l.map PyData.int) && (noNone (l.map PyData.int) && flat60 (l.map PyData.int))) = true :=
  bestOk_of (α := Int) (l := l) fun b _ => by show PyData.depth (.int b) ≤ 60; simp [PyData.depth]
theorem maxL_ints {b : Int} {l : List Int} (h : MaxOf b l) : maxL [.list (l.map PyData.int ++ [.int 0])] = some (.int b) := by
  have e : l.map PyData.int ++ [.int 0] = (l ++ [0]).map PyData.int := by simp
  rw [e]
  have hm : (∀ x ∈ l ++ [0], x ≤ b) ∧ b ∈ l ++ [0] := by
    refine ⟨fun x hx => ?_, ?_⟩
    · rcases List.mem_append.mp hx with hx | hx
      · exact h.ge x hx
      · rw [List.mem_singleton.mp hx]; exact h.z
    · rw [List.mem_append, List.mem_singleton]
      exact h.at_.symm
  have hb := bestI (l ++ [0])
  generalize l ++ [0] = l at *
  cases l with
  | nil => cases hm.2
  | cons a l =>
    rw [List.map_cons] at hb ⊢
    unfold maxL
    dsimp only
    rw [if_pos hb, PySem.W.maxD_ints, foldl_max hm.1 hm.2]
theorem maxL_two (a b : Int) : maxL [.tuple [.int a, .int b]] = some (.int (max a b)) := by
  have hb := bestI [a, b]
  simp only [List.map_cons, List.map_nil] at hb
  unfold maxL
  dsimp only
  rw [if_pos hb]
  exact congrArg some (PySem.W.maxD_ints a [b])
theorem slips_sum : ∀ (rd : List Pair), ((List.range (rd.length - 1)).map fun k => (match rd[k + 1]?, rd[k]? with
    | some q, some p => q.1 - p.2 - 1
    | _, _ => 0)).sum = slipsOf rd
  | [] => rfl
  | [_] => rfl
  | p :: q :: l => by
    have ih := slips_sum (q :: l)
    have e : (p :: q :: l).length - 1 = ((q :: l).length - 1) + 1 := by simp
    rw [e, List.range_succ_eq_map, List.map_cons, List.sum_cons, List.map_map]
    show (q.1 - p.2 - 1) + _ = (q.1 - p.2 - 1) + slipsOf (q :: l)
    rw [← ih]
    rfl
theorem dbl_len {n : Int} : ∀ {rd : List Pair}, (∀ p ∈ rd, okPr n p = true) → (((rd.filter fun p => decide (p.1 < p.2)).length : Nat) : Int) = dsum rd
  | [], _ => rfl
  | p :: rd, hp => by
    have ih := dbl_len (rd := rd) fun q hq => hp q (List.mem_cons_of_mem _ hq)
    have h1 := okPr_iff.mp (hp p (List.mem_cons_self ..))
    have e : dsum (p :: rd) = (p.2 - p.1) + dsum rd := rfl
    rw [e, ← ih, List.filter_cons]
    by_cases hb : p.1 < p.2
    · simp [hb]
      omega
    · simp [hb]
      omega
theorem worst_eq (x : Bool) {n b1 b2 : Int} {rs : List (List Pair)} (h : Hs) (hc : ∀ r ∈ rs, Chn n r) (hl : rs.length < 900) (hl2 : ∀ r ∈ rs, r.length < 900) (m1 : MaxOf b1 (rs.map dsum)) (m2 : MaxOf b2 (rs.map slipsOf)) :
    S__law_worst x [.dat (.list (rs.map rdT))] h = .ok (.val (.dat (.tuple [.int b1, .int b2]))) h := by
  have hit : kItD (.dat (.list (rs.map rdT))) h = .ok (rs.map rdT) h := rfl
  have hit2 : ∀ (r : List Pair), kItD (.dat (rdT r)) h = .ok (r.map prT) h := fun _ => rfl
  simp [S__law_worst, F__law_worst, hit]
  generalize hC : compL _ _ _ _ _ _ = C
  have e := compL_ofM hC (fun _ => true) (fun r => .int (dsum r)) (by
    intro r hr
    refine ⟨_, rfl, rfl, fun _ => ?_⟩
    simp [hit2]
    generalize hD : compL _ _ _ _ _ _ = D
    have e := compL_ofM hD (fun p => decide (p.1 < p.2)) prT (by
      intro p hp
      refine ⟨_, rfl, ?_, fun _ => ?_⟩
      · simp [prT]
      · simp [prT])
    subst e
    have := dbl_len (hc r hr).pr
    simp [lenT]
    exact this)
  subst e
  simp [hit]
  generalize hC : compL _ _ _ _ _ _ = C
  have e := compL_ofM hC (fun _ => true) (fun r => .int (slipsOf r)) (by
    intro r hr
    have hrl := hl2 r hr
    have lr : lenT [rdT r] = some (.int (r.length : Nat)) := by simp [rdT, lenT]
    refine ⟨_, rfl, rfl, fun _ => ?_⟩
    simp [lr, rngOk_of (i := 1) (j := (r.length : Int)) (by omega) (by omega) (by omega) (by omega)]
    generalize hD : compL _ _ _ _ _ _ = D
    have e := compL_of hD (fun _ => true) (fun t => match t with
      | .int k => .int (match r[k.toNat]?, r[k.toNat - 1]? with
        | some q, some p => q.1 - p.2 - 1
        | _, _ => 0)
      | _ => .none) (by
      intro t ht
      obtain ⟨k, hk⟩ := List.mem_iff_getElem?.mp ht
      obtain ⟨k1, rfl⟩ := rng_get hk
      have k2 : k + 1 < r.length := by omega
      obtain ⟨q, hq⟩ := get_of_lt k2
      obtain ⟨p, hp⟩ := get_of_lt (l := r) (k := k) (by omega)
      refine ⟨_, rfl, rfl, fun _ => ?_⟩
      have t1 : (1 + (k : Int)).toNat = k + 1 := by omega
      have a1 : L2.atI (r.map prT) (1 + (k : Int)) = some (prT q) := by
        rw [atI_pos (by omega), t1, List.getElem?_map, hq]; rfl
      have a2 : L2.atI (r.map prT) (1 + (k : Int) - 1) = some (prT p) := by
        rw [atI_pos (by omega), List.getElem?_map]
        have : (1 + (k : Int) - 1).toNat = k := by omega
        rw [this, hp]; rfl
      simp [rdT, a1, a2, t1, hq, hp, prT_0, prT_1])
    subst e
    have key : ((rngT 1 ((r.length : Int) - 1).toNat).map fun t : T => (match t with
      | .int k => PyData.int (match r[k.toNat]?, r[k.toNat - 1]? with
        | some q, some p => q.1 - p.2 - 1
        | _, _ => 0)
      | _ => .none)) = ((List.range (r.length - 1)).map fun k => (match r[k + 1]?, r[k]? with
        | some q, some p => q.1 - p.2 - 1
        | _, _ => 0)).map PyData.int := by
      have hN : ((r.length : Int) - 1).toNat = r.length - 1 := by omega
      rw [hN]
      unfold rngT
      rw [List.map_map, List.map_map]
      refine List.map_congr_left fun k _ => ?_
      have t1 : (1 + (k : Int)).toNat = k + 1 := by omega
      simp only [Function.comp, t1, Nat.add_sub_cancel]
    simp [sumL]
    simp at key
    rw [key]
    rw [← List.map_map, intsOf_map]
    simp
    exact slips_sum r)
  subst e
  have a1 : addT (.list (rs.map fun r => PyData.int (dsum r))) (.list [.int 0]) = some (.list ((rs.map dsum).map PyData.int ++ [.int 0])) := by
    rw [add_list (by simp; omega), List.map_map]; rfl
  have a2 : addT (.list (rs.map fun r => PyData.int (slipsOf r))) (.list [.int 0]) = some (.list ((rs.map slipsOf).map PyData.int ++ [.int 0])) := by
    rw [add_list (by simp; omega), List.map_map]; rfl
  have q1 := maxL_ints m1
  have q2 := maxL_ints m2
  rw [List.map_map] at q1 q2
  simp [a1, a2, q1, q2, -addT_l]
end Pl
set_option Elab.async false
set_option linter.all false
set_option maxRecDepth 100000
set_option maxHeartbeats 2000000
namespace Pl
open PySem PySem.Spec PyProof.Rows L2 Pf Sm Lw
theorem sameOk_stp (n : Nat) (s : Stp) : sameOk (n + 2) (stpT s) := by
  cases s <;> exact ⟨by simp, fun t ht => by simp at ht; first | (rcases ht with rfl | rfl | rfl <;> trivial) | (subst ht; trivial)⟩
theorem Chn.ge {n : Int} {rd : List Pair} (c : Chn n rd) : ∀ (j : Nat) p, rd[j]? = some p → (j : Int) ≤ p.1
  | 0, p, h => by
    have := okPr_iff.mp (c.pr p (List.mem_of_getElem? h))
    omega
  | j + 1, p, h => by
    have hj := (List.getElem?_eq_some_iff.mp h).1
    obtain ⟨q, hq⟩ := get_of_lt (l := rd) (k := j) (by omega)
    have h1 := c.ge j q hq
    have h2 := c.up j q p hq h
    have h3 := okPr_iff.mp (c.pr q (List.mem_of_getElem? hq))
    omega
theorem Chn.len {n : Int} {rd : List Pair} (c : Chn n rd) : rd.length ≤ n.toNat := by
  by_cases h0 : rd.length = 0
  · omega
  · obtain ⟨p, hp⟩ := get_of_lt (l := rd) (k := rd.length - 1) (by omega)
    have h1 := c.ge _ p hp
    have h2 := okPr_iff.mp (c.pr p (List.mem_of_getElem? hp))
    omega
theorem told_eq (x : Bool) {n : Int} {l : List Stp} (n1 : 1 ≤ n) (n2 : n ≤ 30) (hl : l.length ≤ 100) (hok : ∀ st ∈ l, stOk st) (h : Hs) : S__law_told x [.dat (.list (l.map stpT)), .dat (.int n)] h = .ok (.val (.dat (.bool true))) h := by
  have hi := initF_eq x (n := n) (bs := []) (h := h) n1 n2 List.Pairwise.nil (fun _ hb => by cases hb)
  have hbl : blT [] = .tuple [] := rfl
  rw [hbl] at hi
  have hf := feeder_eq x n [] (h ++ [fdO ⟨n, [], 0, -1, [], []⟩])
  rw [hbl] at hf
  have hit : ∀ h', kItD (.dat (.list (l.map stpT))) h' = .ok (l.map stpT) h' := fun _ => rfl
  have no : ¬ ((0 : Int) ≤ -1) := by decide
  have S0 : Sim 0 n ⟨n, [], [], [], [], [], []⟩ ⟨n, [], 0, -1, [], []⟩ (tbl []) := ⟨⟨rfl, rfl, rfl, rfl, rfl, rfl, rfl, rfl, Nat.le_refl _, Nat.le_refl _, .nil, fun _ z => (by cases z), ⟨fun z hz => (by simp [dsum] at hz; subst hz; exact Int.le_refl _), Int.le_refl _, .inl rfl⟩, ⟨fun z hz => (by simp [slipsOf] at hz; subst hz; exact Int.le_refl _), Int.le_refl _, .inl rfl⟩⟩, rfl, fun z => absurd z no, fun _ => rfl, fun z => absurd z no, fun z => absurd z no, fun z => absurd z no, fun z => absurd z no⟩
  unfold S__law_told F__law_told
  rw [bodyS_eq]
  generalize hG : Res.bind _ _ = G
  rw [ev_fSeq] at hG
  generalize hX : fPar _ _ _ _ = X at hG
  simp [hi, hf] at hX
  rw [← hX, bind_ok, kSeq_n] at hG
  clear hX X
  rw [ev_fSeq] at hG
  generalize hX : fFor _ _ _ _ _ = X at hG
  simp [hit] at hX
  obtain ⟨ρ', h', rfl, i, kept, W, F, a2, a8, hi1, hk, S, rfl, rfl⟩ := forL_of hX (fun m ρ h' => ∃ (i : Nat) (kept : List Stp) (W : Wd) (F : Fd) (a2 a8 : Slot), i ≤ m ∧ kept.length ≤ m ∧ Sim i n W F (tbl kept) ∧ h' = h ++ [fdO F, wdO W] ∧ ρ = [vd (.list (l.map stpT)), vi n, a2, .un, .un, .val (.obj h.length), .val (.obj (h.length + 1)), .own (kept.map stpT), a8, .un, .un, .un]) ⟨0, [], _, _, _, _, Nat.le_refl _, Nat.le_refl _, S0, by simp, rfl⟩ (by
    rintro m t ρ h' e ⟨i, kept, W, F, a2, a8, hi1, hk, S, rfl, rfl⟩ Q hn
    obtain ⟨b, hbi, rfl⟩ := map_get e
    have hm := (List.getElem?_eq_some_iff.mp hbi).1
    have gj : (h ++ [fdO F, wdO W])[h.length]? = some (fdO F) := by simp
    have gk : (h ++ [fdO F, wdO W])[h.length + 1]? = some (wdO W) := by simp
    have sk : ∀ F W', (h ++ [fdO F, wdO W]).set (h.length + 1) (wdO W') = h ++ [fdO F, wdO W'] := fun F W' => by simp
    have sj : ∀ W F', (h ++ [fdO F, wdO W]).set h.length (fdO F') = h ++ [fdO F', wdO W] := fun W F' => by simp
    have ek : tbl (kept ++ [b]) = (tbl kept).step b := by simp [tbl, List.foldl_append]
    have hkl : kept.length < 100000 := by omega
    rcases step_eq x S (by omega) n2 gj gk (by omega) b (hok b (List.mem_of_getElem? hbi)) with ⟨r, e1, e2⟩ | ⟨r, r2, W', F', e1, e2, e3, S'⟩
    · have e2' := e2
      unfold noL at e2'
      simp [Turn1, e1, e2']
      exact wp_ok (hn _ _ ⟨i, kept, W, F, _, _, by omega, by omega, S, rfl, rfl⟩)
    · have e2' := e2
      unfold noL at e2'
      rw [sk] at e1 e3
      rw [sj] at e3
      simp [Turn1, e1, e2', e3, hkl]
      refine wp_ok (hn _ _ ⟨i + 1, kept ++ [b], W', F', _, _, by omega, by simpa using hk, by rw [ek]; exact S', rfl, by rw [List.map_append]; rfl⟩))
  have gj : (h ++ [fdO F, wdO W])[h.length]? = some (fdO F) := by simp
  have gk : (h ++ [fdO F, wdO W])[h.length + 1]? = some (wdO W) := by simp
  have g0 : ∀ a2 a3 a4 a7 a8 a9 a10 a11, dctS [vd (.list (l.map stpT)), vi n, a2, a3, a4, .val (.obj h.length), .val (.obj (h.length + 1)), a7, a8, a9, a10, a11] (h ++ [fdO F, wdO W]) 6 = some (h.length + 1, _) := fun _ _ _ _ _ _ _ _ => dctS_at rfl gk
  have hil : i ≤ 100 := by simp at hi1; omega
  have hkl : kept.length ≤ 100 := by simp at hk; omega
  have ha : addT (.list (W.trues.map rdT)) (.list [rdT W.tru]) = some (.list (W.trues.map rdT ++ [rdT W.tru])) := add_list (by have := S.c.l2; simp; omega)
  have hcs : ∀ r ∈ W.trues ++ [W.tru], Chn n r := fun r hr => by
    rcases List.mem_append.mp hr with hr | hr
    · exact S.c.chs r hr
    · rw [List.mem_singleton.mp hr]; exact S.c.ch
  have lrs : ∀ r ∈ W.trues ++ [W.tru], r.length < 900 := fun r hr => by have := (hcs r hr).len; omega
  have hwst := worst_eq x (n := n) (h ++ [fdO F, wdO W]) hcs (by have := S.c.l2; simp; omega) lrs S.c.b1 S.c.b2
  rw [List.map_append, List.map_singleton] at hwst
  rw [bind_ok, kSeq_n, ev_fSeq] at hG
  generalize hX2 : fSetR _ _ _ _ = X at hG
  simp [g0, ha, hwst, -addT_l] at hX2
  rw [← hX2, bind_ok, kSeq_n] at hG
  clear hX2 X
  rw [ev_fSeq] at hG
  generalize hX2 : fSetR _ _ _ _ = X at hG
  simp at hX2
  rw [← hX2, bind_ok, kSeq_n] at hG
  clear hX2 X
  have et := troubles_eq x kept (h ++ [fdO F, wdO W])
  have es := same_refl x (h ++ [fdO F, wdO W]) 6 (.tuple [.int (tbl kept).b1, .int (tbl kept).b2]) (sameOk_pr 4 ((tbl kept).b1, (tbl kept).b2))
  have en := neT_self (t := .list (kept.map stpT)) (n := 3) (sameOk_map (by omega) fun a _ => sameOk_stp 0 a) (by decide)
  have ru := runsF_eq x gj
  have m1 := fun ρ g => fm (F := F) (x := x) (np := 1) (s := S_Feeder_runs x) (g := g) (ρ := ρ) "runs" rfl gj
  rw [ev_fFrz] at hG
  simp only [List.getElem?_cons_succ, List.getElem?_cons_zero] at hG
  rw [ev_fFrz] at hG
  simp only [List.getElem?_cons_succ, List.getElem?_cons_zero, List.set_cons_succ, List.set_cons_zero] at hG
  rw [ev_fSeq] at hG
  generalize hX2 : fIfS _ _ _ _ _ = X at hG
  simp [et, es, en] at hX2
  rw [← hX2, bind_ok, kSeq_n] at hG
  clear hX2 X
  rw [ev_fSeq] at hG
  generalize hX2 : fFor _ _ _ _ _ = X at hG
  simp [m1, ru, g0] at hX2
  have ez : zipT (F.ended.map runT) (W.trues.map rdT) = W.trues.map fun r => .tuple [runT (toldR r), rdT r] := by
    rw [← S.c.runs, S.c.tolds]
    unfold zipT
    rw [List.map_map, List.zip_map', List.map_map]
    rfl
  rw [ez] at hX2
  obtain ⟨ρ', h', rfl, a9, a10, rfl, rfl⟩ := forL_of hX2 (fun m ρ h' => ∃ (a9 a10 : Slot), h' = h ++ [fdO F, wdO W] ∧ ρ = [vd (.list (l.map stpT)), vi n, a2, .val (.dat (.tuple [.int (tbl kept).b1, .int (tbl kept).b2])), .val (.dat (.list (kept.map stpT))), .val (.obj h.length), .val (.obj (h.length + 1)), .own (kept.map stpT), a8, a9, a10, .un]) ⟨_, _, rfl, rfl⟩ (by
    rintro m t ρ h' e ⟨a9, a10, rfl, rfl⟩ Q hn
    obtain ⟨r, hr, rfl⟩ := map_get (f := fun r : List Pair => PyData.tuple [runT (toldR r), rdT r]) e
    have hrm := List.mem_of_getElem? hr
    have hc := S.c.chs r hrm
    have B1 := S.c.b1.ge (dsum r) (List.mem_map.mpr ⟨r, by simp [hrm], rfl⟩)
    have B2 := S.c.b2.ge (slipsOf r) (List.mem_map.mpr ⟨r, by simp [hrm], rfl⟩)
    have z1 := S.c.b1.z
    have z2 := S.c.b2.z
    have ml := maxL_two (tbl kept).b1 (tbl kept).b2
    have ll : lenT [runT (toldR r)] = some (.int (r.length : Nat)) := by simp [runT, lenT, toldR]
    by_cases c1 : max (tbl kept).b1 (tbl kept).b2 < 4
    · by_cases c2 : (r.length : Int) < 21
      · have ok : Okay n ((tbl kept).b1, (tbl kept).b2) (toldR r) := ⟨n1, n2, z1, by simp only; omega, z2, by simp only; omega, by simp [toldR]; omega, fun sc hsc => by
          unfold toldR at hsc
          obtain ⟨p, hp, rfl⟩ := List.mem_map.mp hsc
          exact okSc_told (hc.pr p hp)⟩
        have isr : IsRd n ((tbl kept).b1, (tbl kept).b2) (toldR r) r := ⟨hc.pr, by simp [toldR], fun j p q hj e1 e2 => hc.up j p q e1 e2, fun j s p hj e1 e2 => by
          unfold toldR at e1
          rw [List.getElem?_map, e2] at e1
          cases e1
          exact shows_told.mpr rfl, B1, B2⟩
        have hall := allR_one (n := n) (r := ((tbl kept).b1, (tbl kept).b2)) z1 z2 isr fun rd h => told_uniq h
        have hco := could_eq x (h := h ++ [fdO F, wdO W]) ok
        have hcr : couldR n ((tbl kept).b1, (tbl kept).b2) (toldR r) = .own (r.map fun p => .list [prT p]) := by
          rw [couldR_e, hall, if_neg (by simp), rowsR_one hall (by simp [toldR])]
          simp [rowsT]
        rw [hcr] at hco
        have hpr : prT ((tbl kept).b1, (tbl kept).b2) = .tuple [.int (tbl kept).b1, .int (tbl kept).b2] := rfl
        rw [hpr] at hco
        have hit2 : kItD (.dat (rdT r)) (h ++ [fdO F, wdO W]) = .ok (r.map prT) (h ++ [fdO F, wdO W]) := rfl
        have en2 := neT_self (t := .list (r.map fun p => .list [prT p])) (n := 4) (sameOk_map (by omega) fun a _ => sameOk_list (by simp) fun t ht => by
          rw [List.mem_singleton.mp ht]; exact sameOk_pr 0 a) (by decide)
        simp [Turn1, ml, ll, c1, c2, hco, hit2]
        generalize hC : compL _ _ _ _ _ _ = C
        have e := compL_ofM hC (fun _ => true) (fun p => .list [prT p]) (by
          intro p hp
          refine ⟨_, rfl, rfl, fun _ => ?_⟩
          simp)
        subst e
        simp [en2]
        exact wp_ok (hn _ _ ⟨_, _, rfl, rfl⟩)
      · simp [Turn1, ml, ll, c1, c2]
        exact wp_ok (hn _ _ ⟨_, _, rfl, rfl⟩)
    · simp [Turn1, ml, c1]
      exact wp_ok (hn _ _ ⟨_, _, rfl, rfl⟩))
  rw [← hG]
  simp
end Pl
set_option Elab.async false
set_option linter.all false
set_option maxRecDepth 100000
set_option maxHeartbeats 2000000
namespace Pl
open PySem PySem.Spec PyProof.Rows L2 Pf Sm Lw
theorem step_draw (x : Bool) (s : Dr) (tl : Hs) {n : Int} (n1 : 1 ≤ n) (n2 : n ≤ 30) : ∃ s' st, S__law_step x [.obj 0, .dat (.int n)] (stH s tl) = .ok (.val (.dat (stpT st))) (stH s' tl) ∧ stOk st := by
  have d1 := dv_lo s (k := 10) (by decide)
  have d2 := dv_hi s (k := 10) (by decide)
  generalize hG : S__law_step x _ _ = G
  by_cases c : dv s 10 < 3
  · have f1 := dv_lo (dn s 10) (k := n) (by omega)
    have f2 := dv_hi (dn s 10) (k := n) (by omega)
    by_cases c0 : dv s 10 = 0
    · have g1 := dv_lo (dn (dn s 10) n) (k := n - dv (dn s 10) n + 1) (by omega)
      have g2 := dv_hi (dn (dn s 10) n) (k := n - dv (dn s 10) n + 1) (by omega)
      have e3 := drawn_eq (dn (dn s 10) n) tl (k := n - dv (dn s 10) n + 1) (by omega) (by omega)
      have e2 := drawn_eq (dn s 10) tl (k := n) (by omega) (by omega)
      simp [S__law_step, F__law_step, drawn_eq, c, c0, e2, e3] at hG
      refine ⟨_, .put _ _, hG.symm, ?_⟩
      exact ⟨by omega, by omega, by omega, by omega⟩
    · have g1 := dv_lo (dn (dn s 10) n) (k := n - dv (dn s 10) n) (by omega)
      have g2 := dv_hi (dn (dn s 10) n) (k := n - dv (dn s 10) n) (by omega)
      have e3 := drawn_eq (dn (dn s 10) n) tl (k := n - dv (dn s 10) n) (by omega) (by omega)
      have e2 := drawn_eq (dn s 10) tl (k := n) (by omega) (by omega)
      simp [S__law_step, F__law_step, drawn_eq, c, c0, e2, e3] at hG
      refine ⟨_, .put _ _, hG.symm, ?_⟩
      exact ⟨by omega, by omega, by omega, by omega⟩
  · have : ∃ st : Stp, L2.atI [PyData.tuple [.str "feed"], .tuple [.str "feed"], .tuple [.str "feed"], .tuple [.str "twice"], .tuple [.str "slip"], .tuple [.str "jam"], .tuple [.str "feed"]] (dv s 10 - 3) = some (stpT st) ∧ stOk st := by
      have : dv s 10 - 3 = 0 ∨ dv s 10 - 3 = 1 ∨ dv s 10 - 3 = 2 ∨ dv s 10 - 3 = 3 ∨ dv s 10 - 3 = 4 ∨ dv s 10 - 3 = 5 ∨ dv s 10 - 3 = 6 := by omega
      rcases this with z | z | z | z | z | z | z <;> rw [z]
      · exact ⟨.feed, rfl, trivial⟩
      · exact ⟨.feed, rfl, trivial⟩
      · exact ⟨.feed, rfl, trivial⟩
      · exact ⟨.twice, rfl, trivial⟩
      · exact ⟨.slip, rfl, trivial⟩
      · exact ⟨.jam, rfl, trivial⟩
      · exact ⟨.feed, rfl, trivial⟩
    obtain ⟨st, h1, h2⟩ := this
    simp [S__law_step, F__law_step, drawn_eq, c, h1] at hG
    exact ⟨_, st, hG.symm, h2⟩
theorem law_eq (ns : List Int) : ∃ h', Lw.S_law false [.scr ns] [] = .ok (.val (.dat (.bool true))) h' := by
  obtain ⟨s0, e0⟩ := start_eq ns
  generalize hG : Lw.S_law false _ _ = G
  unfold Lw.S_law Lw.F_law at hG
  rw [bodyS_eq, ev_fSeq] at hG
  generalize hX : fSetR _ _ _ _ = X at hG
  simp [e0] at hX
  rw [← hX, bind_ok, kSeq_n] at hG
  clear hX X
  rw [ev_fSeq] at hG
  generalize hX : fFor _ _ _ _ _ = X at hG
  simp [rngOk_of (i := 0) (j := 2) (by decide) (by decide) (by decide) (by decide)] at hX
  obtain ⟨ρ', h', rfl, s1, c2, c4, c5, rfl, rfl⟩ := forL_of hX (fun k ρ h' => ∃ s' c2 c4 c5, h' = stH s' [] ∧ ρ = [.val (.scr ns), .val (.obj 0), c2, .un, c4, c5, .un]) ⟨s0, _, _, _, rfl, rfl⟩ (by
    rintro k t ρ h' e ⟨s', c2, c4, c5, rfl, rfl⟩ Q hQ
    clear hX hG
    have d1 := dv_lo s' (k := 29) (by decide)
    have d2 := dv_hi s' (k := 29) (by decide)
    have f1 := dv_lo (dn s' 29) (k := 81) (by decide)
    have f2 := dv_hi (dn s' 29) (k := 81) (by decide)
    simp [Turn1, drawn_eq, rngOk_of (i := 0) (j := dv (dn s' 29) 81) (by omega) (by omega) (by omega) (by omega)]
    generalize hC : compL _ _ _ _ _ _ = C
    obtain ⟨us, h2, rfl, s2, l, rfl, rfl, hl, hok⟩ := compL_ofI hC (fun k us h => ∃ s2 l, h = stH s2 [] ∧ us = l.map stpT ∧ l.length = k ∧ ∀ st ∈ l, stOk st) ⟨_, [], rfl, rfl, rfl, fun _ z => by cases z⟩ (by
      rintro k t us h e ⟨s2, l, rfl, rfl, hl, hok⟩
      refine ⟨_, rfl, fun Q hq => ⟨rfl, ?_⟩⟩
      obtain ⟨s3, st, e3, o3⟩ := step_draw false s2 [] (n := 2 + dv s' 29) (by omega) (by omega)
      simp [e3]
      refine wp_ok ⟨_, rfl, hq _ _ ⟨s3, l ++ [st], rfl, by simp, by simp [hl], fun st' h' => ?_⟩⟩
      rcases List.mem_append.mp h' with h' | h'
      · exact hok st' h'
      · rw [List.mem_singleton.mp h']; exact o3)
    have hlen : l.length ≤ 100 := by rw [hl, rngT_len]; omega
    have ht := told_eq false (n := 2 + dv s' 29) (by omega) (by omega) hlen hok (stH s2 [])
    simp [ht]
    exact wp_ok (hQ _ _ ⟨s2, _, _, _, rfl, rfl⟩))
  rw [bind_ok, kSeq_n, ev_fFrz] at hG
  simp only [List.getElem?_cons_succ, List.getElem?_cons_zero] at hG
  rw [ev_fSeq] at hG
  generalize hX2 : fSet _ _ _ _ = X at hG
  have d1 := dv_lo s1 (k := 15) (by decide)
  have d2 := dv_hi s1 (k := 15) (by decide)
  simp [drawn_eq] at hX2
  rw [← hX2, bind_ok, kSeq_n] at hG
  clear hX2 X
  rw [ev_fSeq] at hG
  generalize hX2 : fSet _ _ _ _ = X at hG
  have q1 : 0 ≤ 1 + dv s1 15 := by omega
  have q2 : 1 + dv s1 15 ≤ 1000 := by omega
  have q3 : 0 ≤ 15 - (1 + dv s1 15) := by omega
  have q4 : 15 - (1 + dv s1 15) ≤ 1000 := by omega
  have ha1 : ∀ (u : T), addT (.list [u]) (.list (List.replicate (1 + dv s1 15).toNat (PyData.tuple [PyData.str "twice"]))) = some (.list ([u] ++ List.replicate (1 + dv s1 15).toNat (PyData.tuple [PyData.str "twice"]))) := fun u => add_list (by simp; omega)
  have q5 : 1 + dv s1 15 ≤ 15 := by omega
  have rl : ∀ (m : Nat) (a b : T), (List.replicate m [a, b]).flatten.length = 2 * m := fun m a b => by
    simp
    omega
  have ha2 : addT (.list (PyData.tuple [.str "put", .int 0, .int 29] :: List.replicate (1 + dv s1 15).toNat (PyData.tuple [PyData.str "twice"]))) (.list (List.replicate (15 - (1 + dv s1 15)).toNat [PyData.tuple [.str "slip"], PyData.tuple [.str "feed"]]).flatten) = some (.list ((PyData.tuple [.str "put", .int 0, .int 29] :: List.replicate (1 + dv s1 15).toNat (PyData.tuple [PyData.str "twice"])) ++ (List.replicate (15 - (1 + dv s1 15)).toNat [PyData.tuple [.str "slip"], PyData.tuple [.str "feed"]]).flatten)) := add_list (by rw [rl]; simp; omega)
  simp [q1, q2, q3, q4, q5, ha1, ha2, -addT_l] at hX2
  rw [← hX2, bind_ok, kSeq_n] at hG
  clear hX2 X
  have hst : (PyData.tuple [.str "put", .int 0, .int 29] :: (List.replicate (1 + dv s1 15).toNat (PyData.tuple [PyData.str "twice"]) ++ (List.replicate (15 - (1 + dv s1 15)).toNat [PyData.tuple [.str "slip"], PyData.tuple [.str "feed"]]).flatten)) = (Stp.put 0 29 :: (List.replicate (1 + dv s1 15).toNat Stp.twice ++ (List.replicate (15 - (1 + dv s1 15)).toNat [Stp.slip, Stp.feed]).flatten)).map stpT := by
    simp [stpT, List.map_flatten]
  have rl2 : ∀ (m : Nat) (a b : Stp), (List.replicate m [a, b]).flatten.length = 2 * m := fun m a b => by
    simp
    omega
  rw [hst] at hG
  have et := troubles_eq false [] (stH (dn s1 15) [])
  have ht := told_eq false (n := 30) (l := Stp.put 0 29 :: (List.replicate (1 + dv s1 15).toNat Stp.twice ++ (List.replicate (15 - (1 + dv s1 15)).toNat [Stp.slip, Stp.feed]).flatten)) (by decide) (by decide) (by rw [List.length_cons, List.length_append, rl2]; simp; omega) (fun st hs => by
    rcases List.mem_cons.mp hs with rfl | hs
    · exact ⟨by decide, by decide, by decide, by decide⟩
    · rcases List.mem_append.mp hs with hs | hs
      · rw [List.eq_of_mem_replicate hs]; trivial
      · obtain ⟨l, h1, h2⟩ := List.mem_flatten.mp hs
        rw [List.eq_of_mem_replicate h1] at h2
        simp at h2
        rcases h2 with rfl | rfl <;> trivial) (stH (dn s1 15) [])
  simp at et
  have eq0 : eqT (.tuple [.int (tbl []).b1, .int (tbl []).b2]) (.tuple [.int 0, .int 0]) = some true := by decide
  generalize (Stp.put 0 29 :: (List.replicate (1 + dv s1 15).toNat Stp.twice ++ (List.replicate (15 - (1 + dv s1 15)).toNat [Stp.slip, Stp.feed]).flatten)) = l at *
  simp [et, ht, eq0] at hG
  exact ⟨_, hG.symm⟩
end Pl
set_option Elab.async false
set_option linter.all false
namespace Lw
open PySem PySem.Spec PyProof.Rows L2 Pf Sm
def spLaw (K : Fr) : Sp := spD K 1 (S_law false)
theorem law_facts {P : Program} {w : World} {K : Fr} {h : Heap} {mg : Str → Option Value} {f : Addr} (X : K.In h) (G : h.Ns mainGlobals mg) (hfa : mg ("law" : Str) = some (.ref f)) (c : He.SaysD Hd.fa Hd.fn K) :
    ∃ fd : FuncData, (∀ (s : Shared) (v : Value), BindsTo s fd ⟨[v], []⟩ [("_law_script", v)]) ∧ ∀ base : Heap, K.In base → base.Ns mainGlobals mg → FnOk P w K mg base CX0 37 f fd ["_law_script"] (spLaw K) := by
  obtain ⟨Y⟩ := Hyp.of X G c
  have z := hfa.symm.trans Y.g_law
  cases z
  have bb := FunD.bindsA (ps := ["_law_script"]) Y.F_law fun _ _ _ _ _ _ us hl => match us, hl with | [_], _ => rfl
  exact ⟨Y.fd_law, fun s v => bb s [v] rfl, fun base _ _ => ok_law Y⟩
theorem law_sp {K : Fr} {H : Hp} {a : Addr} {ns : List Int} {Q : VK} {E : XK} (hS : SqL K H a (ns.map V.int)) (hQ : ∀ H', Q (.bl true) H') : spLaw K [.ref a] H Q E := by
  obtain ⟨h', e⟩ := Pl.law_eq ns
  refine ⟨rfl, [.scr ns], [], H, fun _ => none, ⟨Same.refl _, fun q a z => (by cases z), fun q q' a z => (by cases z), rfl, fun i s hs => (by simp at hs), fun _ _ => rfl, fun n o ho => (by simp at ho), fun _ _ => ⟨rfl, fun _ => rfl⟩⟩, .cons ⟨a, rfl, hS⟩ .nil, ?_⟩
  rw [e]
  intro v H' G' w' R' T' r'
  obtain ⟨r', _⟩ := r'
  cases r'
  exact hQ _
end Lw
open PySem PySem.W PySem.Calls PyProof.Rows
set_option maxRecDepth 100000 in
set_option maxHeartbeats 0 in
theorem PySem.Challenge.cw_pagefeeder_k11_troubles_told_holds : PySem.Challenge.rw_pagefeeder_k11_troubles_told.Holds := by
  w_on; o_law
  refine HandSHeadRun.head_any (r := OpenLaw.row PySem.Challenge.rw_pagefeeder_k11_troubles_told) (q := view (OpenLaw.row PySem.Challenge.rw_pagefeeder_k11_troubles_told).prog [46]) (H := Hd.hk) (ob := Hd.ob) (M := 6000) (loose := Hd.loose) (d := HandSHeadRun.topDef (OpenLaw.row PySem.Challenge.rw_pagefeeder_k11_troubles_told).prog 46) (kwd := []) Hd.ob_eq (by kernel_rfl) (fun s => by kernel_rfl) Hd.run (by kernel_rfl) (by kernel_rfl) (by kernel_rfl) (by rfl) (by first | assumption | decide +kernel) (by decide +kernel) ⟨rfl, rfl, rfl, rfl, rfl, by decide +kernel⟩ ?hw ?hc
  case hw => w_witness2
  case hc =>
    refine L2.walk_ofE (l := PySem.Challenge.rw_pagefeeder_k11_troubles_told) (n := 63) (k := 37) (x := "_law_script") (CX := L2.CX0) rfl (by decide) (by kernel_rfl) ⟨rfl, by decide, by decide⟩ ?F (fun _ _ _ _ z => z)
    intro w mg fa h Y G hmg0
    obtain ⟨K, KX, c⟩ := Y
    have hmg : mg ("law" : PySem.Str) = some (.ref fa) := by
      have e : (HandSHeadRun.topDef (OpenLaw.row PySem.Challenge.rw_pagefeeder_k11_troubles_told).prog 46).name = ("law" : PySem.Str) := by kernel_rfl
      rw [← e]
      exact hmg0
    obtain ⟨fd, hb, hF⟩ := Lw.law_facts (P := (PySem.Challenge.rw_pagefeeder_k11_troubles_told).prog) (w := w) KX G hmg c
    exact ⟨K, fd, Lw.spLaw K, KX, hb, fun H a ns hl _ hS => Lw.law_sp hS fun _ => rfl, hF⟩
